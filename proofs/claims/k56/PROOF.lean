import PyProof.Rows.All
import Wide.All
import OpenK.AllK
import Wide.FinOn
import KE.KStateDown
import HandS.Base
import HandS.Call
import HandS.Ends
import HandS.More
import HandS.Words
import HandS.WordsExc
import HandS.Defaults
import HandS.Head0
import HandS.Head1
import HandS.Head2
import HandS.HeadEnd
import HandS.HeadHook1
import HandS.HeadHook2
import HandS.HeadHook3
import HandS.HeadHook4
import HandS.ForMost
import HandS.Wide
import HandS.ForExc
import HandS.TryOnly
import HandS.IsInst
import HandS.ExcOwn
import HandS.NamedTupSort
import HandS.TupAny
import HandS.Style
import HandS.SetFor
import HandS.Strs
import HandS.Conv
import HandS.SortInts
import HandS.Deep
import HandS.CallLocal
import HandS.Iter
import HandS.TryMany
import HandS.TupSets
import HandS.SortOrd
import HandS.ListEq
import HandS.RaiseMore
import HandS.Text
import HandS.Codes
import HandS.Dict
import HandS.ExcInit
import HandS.ExcField
import PyProof.StrOps2
import KE.IntTextLaws
import PyProof.StrLawsChain
import PySem.Challenge.RW_keelbond_k56_lines_read_or_refused
set_option Elab.async false
set_option linter.all false
set_option maxRecDepth 100000
set_option maxHeartbeats 0
namespace W
open PySem PySem.Spec PyProof.Rows L2
section
def topS (i : Nat) : Stmt := PySem.Challenge.pw_keelbond_k56_lines_read_or_refused.main.body.getD i (.Pass ⟨0, 0, 0, 0⟩)
abbrev s_BadText___init__ : Stmt := inClass (topS 2) 0
abbrev n_BadText___init__ : List Str := ["self", "at"]
abbrev p_BadText___init__ : List Str := ["self", "at"]
abbrev s_is_name : Stmt := topS 6
abbrev n_is_name : List Str := ["text", "sign"]
abbrev p_is_name : List Str := ["text"]
abbrev s_is_heap : Stmt := topS 8
abbrev n_is_heap : List Str := ["many", "places", "at"]
abbrev p_is_heap : List Str := ["many", "places"]
abbrev s_figured : Stmt := topS 13
abbrev n_figured : List Str := ["text", "sign"]
abbrev p_figured : List Str := ["text"]
abbrev s_number_of : Stmt := topS 14
abbrev n_number_of : List Str := ["text"]
abbrev p_number_of : List Str := ["text"]
abbrev s_heap_of : Stmt := topS 15
abbrev n_heap_of : List Str := ["text", "heap", "sign"]
abbrev p_heap_of : List Str := ["text"]
abbrev s_name_of : Stmt := topS 16
abbrev n_name_of : List Str := ["text"]
abbrev p_name_of : List Str := ["text"]
abbrev s_things_of : Stmt := topS 18
abbrev n_things_of : List Str := ["form", "words", "found", "at", "reader", "thing"]
abbrev p_things_of : List Str := ["form", "words"]
abbrev s_read_deed : Stmt := topS 19
abbrev n_read_deed : List Str := ["line", "words", "found"]
abbrev p_read_deed : List Str := ["line"]
abbrev s__law_bag : Stmt := topS 21
abbrev n__law_bag : List Str := ["_law_script", "_law_salt", "_law_one"]
abbrev p__law_bag : List Str := ["_law_script"]
abbrev s__law_pull : Stmt := topS 22
abbrev n__law_pull : List Str := ["_law_bag_here", "_law_many", "_law_seed", "_law_mixed", "_law_drawn"]
abbrev p__law_pull : List Str := ["_law_bag_here", "_law_many"]
abbrev s__law_whole : Stmt := topS 23
abbrev n__law_whole : List Str := ["_law_found"]
abbrev p__law_whole : List Str := ["_law_found"]
abbrev s__law_heaps : Stmt := topS 24
abbrev n__law_heaps : List Str := ["_law_many", "_law_found", "_law_place", "_law_heap"]
abbrev p__law_heaps : List Str := ["_law_many"]
abbrev s__law_word : Stmt := topS 25
abbrev n__law_word : List Str := ["_law_bag_here", "_law_size", "_law_k"]
abbrev p__law_word : List Str := ["_law_bag_here", "_law_size"]
abbrev s__law_alike : Stmt := topS 26
abbrev n__law_alike : List Str := ["_law_found", "_law_due", "_law_at"]
abbrev p__law_alike : List Str := ["_law_found", "_law_due"]
abbrev s__law_any_number : Stmt := topS 27
abbrev n__law_any_number : List Str := ["_law_bag_here", "_law_most"]
abbrev p__law_any_number : List Str := ["_law_bag_here"]
abbrev s__law_any_name : Stmt := topS 28
abbrev n__law_any_name : List Str := ["_law_bag_here"]
abbrev p__law_any_name : List Str := ["_law_bag_here"]
abbrev s__law_any_heap : Stmt := topS 29
abbrev n__law_any_heap : List Str := ["_law_bag_here", "_law_found"]
abbrev p__law_any_heap : List Str := ["_law_bag_here"]
abbrev s__law_any_deed : Stmt := topS 30
abbrev n__law_any_deed : List Str := ["_law_bag_here", "_law_forms", "_law_word_here", "_law_form", "_law_found", "_law_sign"]
abbrev p__law_any_deed : List Str := ["_law_bag_here"]
abbrev s__law_thing_text : Stmt := topS 31
abbrev n__law_thing_text : List Str := ["_law_thing", "_law_place"]
abbrev p__law_thing_text : List Str := ["_law_thing"]
abbrev s__law_deed_text : Stmt := topS 32
abbrev n__law_deed_text : List Str := ["_law_deed", "_law_thing"]
abbrev p__law_deed_text : List Str := ["_law_deed"]
abbrev s__law_figures : Stmt := topS 33
abbrev n__law_figures : List Str := ["_law_word_here", "_law_sign"]
abbrev p__law_figures : List Str := ["_law_word_here"]
abbrev s__law_thing_in : Stmt := topS 34
abbrev n__law_thing_in : List Str := ["_law_sign", "_law_word_here", "_law_heap", "_law_one"]
abbrev p__law_thing_in : List Str := ["_law_sign", "_law_word_here"]
abbrev s__law_read : Stmt := topS 35
abbrev n__law_read : List Str := ["_law_line", "_law_forms", "_law_words", "_law_form", "_law_found", "_law_at"]
abbrev p__law_read : List Str := ["_law_line"]
abbrev s__law_spoilt : Stmt := topS 36
abbrev n__law_spoilt : List Str := ["_law_bag_here", "_law_line", "_law_signs", "_law_words", "_law_at", "_law_way"]
abbrev p__law_spoilt : List Str := ["_law_bag_here", "_law_line"]
abbrev s__law_told : Stmt := topS 37
abbrev n__law_told : List Str := ["_law_line", "_law_found", "_law_at", "e"]
abbrev p__law_told : List Str := ["_law_line"]
abbrev s_law : Stmt := topS 38
abbrev n_law : List Str := ["_law_script", "_law_bag_here", "_law_k", "_law_line", "_law_due", "_law_found", "_law_at"]
abbrev p_law : List Str := ["_law_script"]
def hd_BadText___init__ : He.DefD := ⟨("BadText", some "__init__"), "__init__", "BadText.__init__", defArgs s_BadText___init__, defBody s_BadText___init__, defScope s_BadText___init__, [], []⟩
def hd_is_name : He.DefD := ⟨("is_name", none), "is_name", "is_name", defArgs s_is_name, defBody s_is_name, defScope s_is_name, [], []⟩
def hd_is_heap : He.DefD := ⟨("is_heap", none), "is_heap", "is_heap", defArgs s_is_heap, defBody s_is_heap, defScope s_is_heap, [], []⟩
def hd_figured : He.DefD := ⟨("figured", none), "figured", "figured", defArgs s_figured, defBody s_figured, defScope s_figured, [], []⟩
def hd_number_of : He.DefD := ⟨("number_of", none), "number_of", "number_of", defArgs s_number_of, defBody s_number_of, defScope s_number_of, [], []⟩
def hd_heap_of : He.DefD := ⟨("heap_of", none), "heap_of", "heap_of", defArgs s_heap_of, defBody s_heap_of, defScope s_heap_of, [], []⟩
def hd_name_of : He.DefD := ⟨("name_of", none), "name_of", "name_of", defArgs s_name_of, defBody s_name_of, defScope s_name_of, [], []⟩
def hd_things_of : He.DefD := ⟨("things_of", none), "things_of", "things_of", defArgs s_things_of, defBody s_things_of, defScope s_things_of, [], []⟩
def hd_read_deed : He.DefD := ⟨("read_deed", none), "read_deed", "read_deed", defArgs s_read_deed, defBody s_read_deed, defScope s_read_deed, [], []⟩
def hd__law_bag : He.DefD := ⟨("_law_bag", none), "_law_bag", "_law_bag", defArgs s__law_bag, defBody s__law_bag, defScope s__law_bag, [], []⟩
def hd__law_pull : He.DefD := ⟨("_law_pull", none), "_law_pull", "_law_pull", defArgs s__law_pull, defBody s__law_pull, defScope s__law_pull, [], []⟩
def hd__law_whole : He.DefD := ⟨("_law_whole", none), "_law_whole", "_law_whole", defArgs s__law_whole, defBody s__law_whole, defScope s__law_whole, [], []⟩
def hd__law_heaps : He.DefD := ⟨("_law_heaps", none), "_law_heaps", "_law_heaps", defArgs s__law_heaps, defBody s__law_heaps, defScope s__law_heaps, [], []⟩
def hd__law_word : He.DefD := ⟨("_law_word", none), "_law_word", "_law_word", defArgs s__law_word, defBody s__law_word, defScope s__law_word, [], []⟩
def hd__law_alike : He.DefD := ⟨("_law_alike", none), "_law_alike", "_law_alike", defArgs s__law_alike, defBody s__law_alike, defScope s__law_alike, [], []⟩
def hd__law_any_number : He.DefD := ⟨("_law_any_number", none), "_law_any_number", "_law_any_number", defArgs s__law_any_number, defBody s__law_any_number, defScope s__law_any_number, [], []⟩
def hd__law_any_name : He.DefD := ⟨("_law_any_name", none), "_law_any_name", "_law_any_name", defArgs s__law_any_name, defBody s__law_any_name, defScope s__law_any_name, [], []⟩
def hd__law_any_heap : He.DefD := ⟨("_law_any_heap", none), "_law_any_heap", "_law_any_heap", defArgs s__law_any_heap, defBody s__law_any_heap, defScope s__law_any_heap, [], []⟩
def hd__law_any_deed : He.DefD := ⟨("_law_any_deed", none), "_law_any_deed", "_law_any_deed", defArgs s__law_any_deed, defBody s__law_any_deed, defScope s__law_any_deed, [], []⟩
def hd__law_thing_text : He.DefD := ⟨("_law_thing_text", none), "_law_thing_text", "_law_thing_text", defArgs s__law_thing_text, defBody s__law_thing_text, defScope s__law_thing_text, [], []⟩
def hd__law_deed_text : He.DefD := ⟨("_law_deed_text", none), "_law_deed_text", "_law_deed_text", defArgs s__law_deed_text, defBody s__law_deed_text, defScope s__law_deed_text, [], []⟩
def hd__law_figures : He.DefD := ⟨("_law_figures", none), "_law_figures", "_law_figures", defArgs s__law_figures, defBody s__law_figures, defScope s__law_figures, [], []⟩
def hd__law_thing_in : He.DefD := ⟨("_law_thing_in", none), "_law_thing_in", "_law_thing_in", defArgs s__law_thing_in, defBody s__law_thing_in, defScope s__law_thing_in, [], []⟩
def hd__law_read : He.DefD := ⟨("_law_read", none), "_law_read", "_law_read", defArgs s__law_read, defBody s__law_read, defScope s__law_read, [], []⟩
def hd__law_spoilt : He.DefD := ⟨("_law_spoilt", none), "_law_spoilt", "_law_spoilt", defArgs s__law_spoilt, defBody s__law_spoilt, defScope s__law_spoilt, [], []⟩
def hd__law_told : He.DefD := ⟨("_law_told", none), "_law_told", "_law_told", defArgs s__law_told, defBody s__law_told, defScope s__law_told, [], []⟩
def hd_law : He.DefD := ⟨("law", none), "law", "law", defArgs s_law, defBody s_law, defScope s_law, [], []⟩
def hdFn : List He.DefD := [hd_BadText___init__, hd_is_name, hd_is_heap, hd_figured, hd_number_of, hd_heap_of, hd_name_of, hd_things_of]
def hdFn2 : List He.DefD := [hd_read_deed, hd__law_bag, hd__law_pull, hd__law_whole, hd__law_heaps, hd__law_word, hd__law_alike, hd__law_any_number, hd__law_any_name, hd__law_any_heap, hd__law_any_deed, hd__law_thing_text, hd__law_deed_text, hd__law_figures, hd__law_thing_in, hd__law_read, hd__law_spoilt, hd__law_told, hd_law]
def hdFa : List He.Fa := [.glo "is_name", .glo "is_heap", .glo "figured", .glo "number_of", .glo "heap_of", .glo "name_of", .glo "things_of", .glo "read_deed", .glo "_law_bag", .glo "_law_pull", .glo "_law_whole", .glo "_law_heaps", .glo "_law_word", .glo "_law_alike", .glo "_law_any_number", .glo "_law_any_name", .glo "_law_any_heap", .glo "_law_any_deed", .glo "_law_thing_text", .glo "_law_deed_text", .glo "_law_figures", .glo "_law_thing_in", .glo "_law_read", .glo "_law_spoilt", .glo "_law_told", .glo "law", .free "all", .free "bool", .free "int", .free "isinstance", .free "len", .free "list", .free "range", .free "str", .free "tuple", .str "LETTERS" "abcdefghijklmnopqrstuvwxyz", .int "MOST_SIGNS" (8), .str "FIGURES" "0123456789", .int "MOST_FIGURES" (13), .glo "FORMS", .glo "READERS", .glo "KeelError", .exc "KeelError", .glo "BadText", .meth "BadText" "__init__", .exm "KeelError" "KeelError" true, .exm "BadText" "BadText" true]
def hdTab_FORMS : He.Tab := (fun K => He.ga K "FORMS", ["out", "load", "sail", "hire", "dismiss", "lend", "rescue", "lose", "land", "settle"])
def hdTab_READERS : He.Tab := (fun K => He.ga K "READERS", ["name", "number", "heap"])
def hdTs : List He.Tab := [hdTab_FORMS, hdTab_READERS]
def hdTupAt (K : PySem.W.Frag) (t : Addr) (vs : List Str) : Bool := match K.lookup t with
  | some ⟨.type c, _, .seq its _, _⟩ => decide (c = "tuple") && (decide (its.size ≤ sizeLine) && He.relAll (vs.map V.str) its.toList)
  | _ => false
def hdTupsB (K : PySem.W.Frag) (a : Addr) (kvs : List (Str × List Str)) : Bool := kvs.all fun q => match PySem.W.nsIn K a q.1 with
  | some (some (.ref t)) => hdTupAt K t q.2
  | _ => false
def hdOexB (K : PySem.W.Frag) (C : Addr) : Bool :=
  (match K.lookup C with
    | some ⟨.type "type", _, .cls cd, sl⟩ => (match cd.mro, sl.toList with
      | .ref C' :: bm, [_, _, _, _, some (.builtin n), _] => C' == C && n == "ValueError.__new__" && !cd.hasDel && cd.hasDict && PySem.HandSPX.refsVE bm
      | _, _ => false)
    | _ => false) &&
  (match PySem.W.findIn K (.ref C) "__setattr__" with | some (some (.builtin n)) => n == "object.__setattr__" | _ => false) &&
  (match PySem.W.subIn K (.ref C) (.type "BaseException") with | some b => b | _ => false) &&
  (match PySem.W.typeIn K (.ref C) with | some (.type n) => n == "type" | _ => false) && PySem.W.keepIn K (.ref C)
def hdKeiB (K : PySem.W.Frag) (C : Addr) : Bool :=
  (match PySem.W.specialIn K (.ref C) "__getattribute__" with | some (some (.builtin n)) => n == "type.__getattribute__" | _ => false) && PySem.W.readsIn K C (.type "type") &&
  (match PySem.W.findCls K (.ref C) (.type "type") "__init__" with | some (.val (.builtin n)) => n == "ValueError.__init__" | _ => false)
def hdXcfB (K : PySem.W.Frag) (C : Addr) (nm : Str) : Bool :=
  (match PySem.W.findIn K (.ref C) "__getattribute__" with | some (some (.builtin n)) => n == "BaseException.__getattribute__" | _ => false) &&
  (match PySem.W.findIn K (.ref C) "__getattr__" with | some none => true | _ => false) && PySem.W.hasDictIn K C &&
  (match PySem.W.findIn K (.ref C) nm with | some none => true | _ => false)
def hdOexAll (K : PySem.W.Frag) (C C0 : Addr) (nm : Str) : Bool := hdOexB K C && hdKeiB K C0 && hdXcfB K C nm
def hdKeysB (K : PySem.W.Frag) (a : Addr) (ks : List Str) : Bool := match K.lookup a with
  | some ⟨_, _, .dict es _, _⟩ => es.toList.all fun e => ks.any (fun k => e.key.isStr k) && !e.refKey
  | _ => false
def hdEx (K : PySem.W.Frag) : Bool := He.valsB K (He.ga K "READERS") [("name", .glo "name_of"), ("number", .glo "number_of"), ("heap", .glo "heap_of")] && hdTupsB K (He.ga K "FORMS") [("out", (["name", "number"] : List PySem.Str)), ("load", (["name", "number", "number", "number"] : List PySem.Str)), ("sail", (["name", "number"] : List PySem.Str)), ("hire", (["name", "number"] : List PySem.Str)), ("dismiss", (["name", "number"] : List PySem.Str)), ("lend", (["name", "heap", "number", "number"] : List PySem.Str)), ("rescue", (["name", "heap", "number"] : List PySem.Str)), ("lose", (["name", "number", "number"] : List PySem.Str)), ("land", (["name"] : List PySem.Str)), ("settle", (["name", "number", "number"] : List PySem.Str))] && hdKeysB K (He.ga K "FORMS") (["out", "load", "sail", "hire", "dismiss", "lend", "rescue", "lose", "land", "settle"] : List PySem.Str) && hdOexAll K (He.ga K "BadText") (He.ga K "KeelError") "at"
abbrev hdR : PySem.W.OpenRow := PySem.W.OpenLaw.row PySem.Challenge.rw_keelbond_k56_lines_read_or_refused
def hdLoose : List PySem.Str := (["KeelError", "BadText", "LETTERS", "MOST_SIGNS", "is_name", "is_heap", "FIGURES", "MOST_FIGURES", "FORMS", "figured", "number_of", "heap_of", "name_of", "READERS", "things_of", "read_deed"] : List PySem.Str) ++ (["_law_bag", "_law_pull", "_law_whole", "_law_heaps", "_law_word", "_law_alike", "_law_any_number", "_law_any_name", "_law_any_heap", "_law_any_deed", "_law_thing_text", "_law_deed_text", "_law_figures", "_law_thing_in", "_law_read", "_law_spoilt"] : List PySem.Str) ++ (["_law_told"] : List PySem.Str)
def hdAs : List Nat := ([2, 3, 24, 44, 53, 60, 61, 78, 85, 90, 97, 98, 105, 112, 119, 126, 133, 138, 143, 148, 155, 162, 169, 176, 181, 186, 191, 196, 201, 208, 215, 222, 23, 43, 41, 40, 52, 59, 77, 84, 89, 96, 104, 111, 118, 125, 132, 137, 142, 147, 154, 161, 168, 175, 180, 185, 190, 195, 200, 207] : List Nat) ++ ([214, 221, 62, 63, 64, 65, 66, 67, 68, 69, 70, 71] : List Nat)
def hdObs1 (K : PySem.W.Frag) : He.AlX := (He.obsT hdFa hdFn hdTs K, hdEx K)
def hdObs2 (K : PySem.W.Frag) : He.AlX := (He.obsT [] hdFn2 [] K, true)
def hdObs (K : PySem.W.Frag) : He.AlX × He.AlX := (hdObs1 K, hdObs2 K)
def hdSays (w : World) (K : PySem.W.Frag) : Prop := hdObs K = ((He.valT hdFn hdTs w, true), (He.valT hdFn2 [] w, true))
def hdHk : PySem.W.Hook where
  α := He.AlX × He.AlX
  obs := fun s => hdObs (He.frG s.heap.get? hdAs)
  val := fun w => ((He.valT hdFn hdTs w, true), (He.valT hdFn2 [] w, true))
  says := fun w h => ∃ K : PySem.W.Frag, K.In h ∧ hdSays w K
  of := fun _ _ e => ⟨_, He.frG_in, e⟩
  keeps := fun _ _ _ ⟨K, hK, c⟩ k => ⟨K, PySem.W.Frag.In.keeps hK k, c⟩
def hdHk1 : PySem.W.Hook where
  α := He.AlX
  obs := fun s => hdObs1 (He.frG s.heap.get? hdAs)
  val := fun w => (He.valT hdFn hdTs w, true)
  says := fun w h => ∃ K : PySem.W.Frag, K.In h ∧ hdObs1 K = (He.valT hdFn hdTs w, true)
  of := fun _ _ e => ⟨_, He.frG_in, e⟩
  keeps := fun _ _ _ ⟨K, hK, c⟩ k => ⟨K, PySem.W.Frag.In.keeps hK k, c⟩
def hdOb (s : PySem.W.SharedT) : He.AlX × He.AlX := hdObs (He.frG (HandSHeadRun.getT s) hdAs)
def hdOb1 (s : PySem.W.SharedT) : He.AlX := hdObs1 (He.frG (HandSHeadRun.getT s) hdAs)
def hdOb2 (s : PySem.W.SharedT) : He.AlX := hdObs2 (He.frG (HandSHeadRun.getT s) hdAs)
theorem hd_two {σ α β γ δ : Type} {X : Option σ} {f : σ → α} {g : σ → β} {o1 : σ → γ} {o2 : σ → δ} {x : α} {y : β} {u : γ} {v : δ} (h1 : X.map (fun s => (f s, g s, o1 s)) = some (x, y, u)) (h2 : X.map o2 = some v) : X.map (fun s => (f s, g s, (o1 s, o2 s))) = some (x, y, (u, v)) := by
  cases X with
  | none => cases h1
  | some s =>
    have e1 := Option.some.inj h1
    have e2 : o2 s = v := Option.some.inj h2
    have a1 : f s = x := congrArg (fun z : α × β × γ => z.1) e1
    have a2 : g s = y := congrArg (fun z : α × β × γ => z.2.1) e1
    have a3 : o1 s = u := congrArg (fun z : α × β × γ => z.2.2) e1
    show some (f s, g s, (o1 s, o2 s)) = _
    rw [a1, a2, a3, e2]
theorem hdOb_eq (s : PySem.W.SharedT) : hdOb s = hdHk.obs s.abs := by
  have e : HandSHeadRun.getT s = s.abs.heap.get? := funext (HandSHeadRun.getT_eq s)
  show hdObs (He.frG (HandSHeadRun.getT s) hdAs) = hdObs (He.frG s.abs.heap.get? hdAs)
  rw [e]
theorem hdRunA_false (w : World) : HandSHeadRun.RunEq hdR (PySem.W.view hdR.prog [38]) hdHk1 hdOb1 20000 hdLoose (w.withFollow "special-get-raises" false) := by
  intro os
  kernel_rfl
theorem hdRunB_false (w : World) (os : OsState) : (HandSHeadRun.endF (HandSHeadRun.stepQ (HandSHeadRun.denQ HandSHeadRun.tabQ) hdR.prog (w.withFollow "special-get-raises" false)) 20000 hdR.prog (w.withFollow "special-get-raises" false) os).map hdOb2 = some (He.valT hdFn2 [] (w.withFollow "special-get-raises" false), true) := by
  kernel_rfl
theorem hdRun_false (w : World) : HandSHeadRun.RunEq hdR (PySem.W.view hdR.prog [38]) hdHk hdOb 20000 hdLoose (w.withFollow "special-get-raises" false) := fun os => hd_two (hdRunA_false w os) (hdRunB_false w os)
theorem hdRunA_true (w : World) : HandSHeadRun.RunEq hdR (PySem.W.view hdR.prog [38]) hdHk1 hdOb1 20000 hdLoose (w.withFollow "special-get-raises" true) := by
  intro os
  kernel_rfl
theorem hdRunB_true (w : World) (os : OsState) : (HandSHeadRun.endF (HandSHeadRun.stepQ (HandSHeadRun.denQ HandSHeadRun.tabQ) hdR.prog (w.withFollow "special-get-raises" true)) 20000 hdR.prog (w.withFollow "special-get-raises" true) os).map hdOb2 = some (He.valT hdFn2 [] (w.withFollow "special-get-raises" true), true) := by
  kernel_rfl
theorem hdRun_true (w : World) : HandSHeadRun.RunEq hdR (PySem.W.view hdR.prog [38]) hdHk hdOb 20000 hdLoose (w.withFollow "special-get-raises" true) := fun os => hd_two (hdRunA_true w os) (hdRunB_true w os)
theorem hdRun (w : World) : HandSHeadRun.RunEq hdR (PySem.W.view hdR.prog [38]) hdHk hdOb 20000 hdLoose w := PySem.W.byRow2 "special-get-raises" (P := fun w => HandSHeadRun.RunEq hdR (PySem.W.view hdR.prog [38]) hdHk hdOb 20000 hdLoose w) hdRun_false hdRun_true w
end
end W
set_option maxHeartbeats 4000000
namespace G
open PySem PySem.Spec PyProof.Rows L2
/-- the tuples stay, and what is frozen -/
structure TX (H H' : Hp) : Prop where
  t : ∀ a xs, Rd H a (.tup xs) → Rd H' a (.tup xs)
  f : ∀ a ob u, H a = some (.frz ob u) → H' a = some (.frz ob u)
theorem TX.refl (H : Hp) : TX H H := ⟨fun _ _ h => h, fun _ _ _ h => h⟩
theorem TX.trans {H H1 H2 : Hp} (a : TX H H1) (b : TX H1 H2) : TX H H2 := ⟨fun c o h => b.t c o (a.t c o h), fun c o u h => b.f c o u (a.f c o u h)⟩
theorem rd_same {H H' : Hp} (e : Same H H') {a : Addr} {u : HO} (h : Rd H a u) : Rd H' a u := by
  rcases h with h | ⟨o, h⟩
  · exact .inl (e _ _ h)
  · exact .inr ⟨o, e _ _ h⟩
theorem tx_of {H H' : Hp} (e : Same H H') : TX H H' := ⟨fun _ _ h => rd_same e h, fun _ _ _ h => e _ _ h⟩
theorem tx_sqT {K : PySem.W.Frag} {H H' : Hp} {a : Addr} {xs : List V} (e : TX H H') (h : SqT K H a xs) : SqT K H' a xs := by
  rcases h with h | h
  · exact .inl (e.t _ _ h)
  · exact .inr h
theorem same_sqL {K : PySem.W.Frag} {H H' : Hp} {a : Addr} {xs : List V} (e : Same H H') (h : SqL K H a xs) : SqL K H' a xs := by
  rcases h with h | h
  · exact .inl (rd_same e h)
  · exact .inr h
/-- a persistent relation of a value -/
structure RR where
  p : V → Hp → Prop
  mono : ∀ {v H H'}, Same H H' → p v H → p v H'
/-- it leans on tuples alone -/
class Im (r : RR) : Prop where
  im : ∀ {v H H'}, TX H H' → r.p v H → r.p v H'
def All2 : List RR → List V → Hp → Prop
  | [], [], _ => True
  | r :: rs, v :: vs, H => r.p v H ∧ All2 rs vs H
  | _, _, _ => False
theorem All2.mono {H H' : Hp} (e : Same H H') : ∀ {rs : List RR} {vs : List V}, All2 rs vs H → All2 rs vs H'
  | [], [], _ => trivial
  | r :: _, _ :: _, h => ⟨r.mono e h.1, All2.mono e h.2⟩
class Ims (rs : List RR) : Prop where
  im : ∀ r ∈ rs, Im r
instance : Ims [] := ⟨fun _ h => nomatch h⟩
instance {r : RR} {rs : List RR} [i : Im r] [j : Ims rs] : Ims (r :: rs) := ⟨fun x h => by
  rcases List.mem_cons.mp h with rfl | h
  · exact i
  · exact j.im x h⟩
instance {α : Type} {c : α → RR} [i : ∀ x, Im (c x)] {xs : List α} : Ims (xs.map c) := ⟨fun x h => by
  obtain ⟨a, _, rfl⟩ := List.mem_map.mp h
  exact i a⟩
instance {rs rs' : List RR} [i : Ims rs] [j : Ims rs'] : Ims (rs ++ rs') := ⟨fun x h => by
  rcases List.mem_append.mp h with h | h
  · exact i.im x h
  · exact j.im x h⟩
instance {n : Nat} {r : RR} [i : Im r] : Ims (List.replicate n r) := ⟨fun x h => by
  rw [(List.mem_replicate.mp h).2]; exact i⟩
theorem Ims.all {H H' : Hp} (e : TX H H') : ∀ {rs : List RR} {vs : List V}, Ims rs → All2 rs vs H → All2 rs vs H'
  | [], [], _, _ => trivial
  | r :: rs, _ :: _, i, h => ⟨(i.im r (List.mem_cons_self)).im e h.1, Ims.all e ⟨fun x m => i.im x (List.mem_cons_of_mem _ m)⟩ h.2⟩
theorem All2.len {H : Hp} : ∀ {rs : List RR} {vs : List V}, All2 rs vs H → vs.length = rs.length
  | [], [], _ => rfl
  | _ :: _, _ :: _, h => by rw [List.length_cons, List.length_cons, All2.len h.2]
theorem All2.get {H : Hp} : ∀ {rs : List RR} {vs : List V} {i : Nat} {r : RR}, All2 rs vs H → rs[i]? = some r → ∃ v, vs[i]? = some v ∧ r.p v H
  | [], [], _, _, _, e => by simp at e
  | _ :: _, v :: _, 0, r, h, e => by
    have e' := Option.some.inj e
    subst e'
    exact ⟨v, rfl, h.1⟩
  | _ :: rs, _ :: vs, i + 1, r, h, e => by
    obtain ⟨v, e1, q⟩ := All2.get (rs := rs) (vs := vs) (i := i) (r := r) h.2 (by simpa using e)
    exact ⟨v, by simpa using e1, q⟩
theorem All2.set {H : Hp} {r : RR} {v : V} (q : r.p v H) : ∀ {rs : List RR} {vs : List V} (i : Nat), All2 rs vs H → All2 (rs.set i r) (vs.set i v) H
  | [], [], _, _ => trivial
  | _ :: _, _ :: _, 0, h => ⟨q, h.2⟩
  | _ :: rs, _ :: vs, i + 1, h => ⟨h.1, All2.set q (rs := rs) (vs := vs) i h.2⟩
theorem All2.app {H : Hp} : ∀ {rs rs' : List RR} {vs vs' : List V}, All2 rs vs H → All2 rs' vs' H → All2 (rs ++ rs') (vs ++ vs') H
  | [], _, [], _, _, h => h
  | _ :: rs, rs', _ :: vs, vs', h, h' => ⟨h.1, All2.app (rs := rs) (vs := vs) h.2 h'⟩
theorem All2.map {α : Type} {c : α → RR} {f : α → V} {H : Hp} (h : ∀ x, (c x).p (f x) H) : ∀ xs : List α, All2 (xs.map c) (xs.map f) H
  | [] => trivial
  | x :: xs => ⟨h x, All2.map h xs⟩
theorem All2.drop {H : Hp} : ∀ {rs : List RR} {vs : List V} (n : Nat), All2 rs vs H → All2 (rs.drop n) (vs.drop n) H
  | _, _, 0, h => h
  | [], [], _ + 1, _ => trivial
  | _ :: rs, _ :: vs, n + 1, h => All2.drop (rs := rs) (vs := vs) n h.2
theorem All2.take {H : Hp} : ∀ {rs : List RR} {vs : List V} (n : Nat), All2 rs vs H → All2 (rs.take n) (vs.take n) H
  | [], [], 0, _ => trivial
  | _ :: _, _ :: _, 0, _ => trivial
  | [], [], _ + 1, _ => trivial
  | _ :: rs, _ :: vs, n + 1, h => ⟨h.1, All2.take (rs := rs) (vs := vs) n h.2⟩
def isInt (n : Int) : RR := ⟨fun v _ => v = .int n, fun _ h => h⟩
def isB (b : Bool) : RR := ⟨fun v _ => v = .bl b, fun _ h => h⟩
def isS (x : Str) : RR := ⟨fun v _ => v = .str x, fun _ h => h⟩
def isN : RR := ⟨fun v _ => v = .non, fun _ h => h⟩
def isV (x : V) : RR := ⟨fun v _ => v = x, fun _ h => h⟩
/-- anything -/
def isAny : RR := ⟨fun _ _ => True, fun _ h => h⟩
instance {n : Int} : Im (isInt n) := ⟨fun _ h => h⟩
instance {n : Bool} : Im (isB n) := ⟨fun _ h => h⟩
instance {n : Str} : Im (isS n) := ⟨fun _ h => h⟩
instance : Im isN := ⟨fun _ h => h⟩
instance {x : V} : Im (isV x) := ⟨fun _ h => h⟩
instance : Im isAny := ⟨fun _ h => h⟩
/-- some x with P -/
def exR {α : Type} (P : α → Prop) (c : α → RR) : RR := ⟨fun v H => ∃ x, P x ∧ (c x).p v H, fun e ⟨x, p, h⟩ => ⟨x, p, (c x).mono e h⟩⟩
instance {α : Type} {P : α → Prop} {c : α → RR} [i : ∀ x, Im (c x)] : Im (exR P c) := ⟨fun e ⟨x, p, h⟩ => ⟨x, p, (i x).im e h⟩⟩
/-- one of two -/
def orR (r r' : RR) : RR := ⟨fun v H => r.p v H ∨ r'.p v H, fun e h => h.elim (fun h => .inl (r.mono e h)) fun h => .inr (r'.mono e h)⟩
instance {r r' : RR} [Im r] [Im r'] : Im (orR r r') := ⟨fun e h => h.elim (fun h => .inl (Im.im e h)) fun h => .inr (Im.im e h)⟩
/-- None or a value -/
def isOpt {α : Type} (c : α → RR) : Option α → RR
  | none => isN
  | some x => c x
instance {α : Type} {c : α → RR} [∀ x, Im (c x)] {o : Option α} : Im (isOpt c o) := by
  cases o <;> (unfold isOpt; infer_instance)
section
variable (K : PySem.W.Frag)
/-- a tuple -/
def isTup (rs : List RR) : RR := ⟨fun v H => ∃ a vs, v = .ref a ∧ SqT K H a vs ∧ All2 rs vs H, fun e ⟨a, vs, h1, h2, h3⟩ => ⟨a, vs, h1, tx_sqT (tx_of e) h2, h3.mono e⟩⟩
instance {rs : List RR} [i : Ims rs] : Im (isTup K rs) := ⟨fun e ⟨a, vs, h1, h2, h3⟩ => ⟨a, vs, h1, tx_sqT e h2, i.all e h3⟩⟩
/-- a list that is read -/
def isLst (rs : List RR) : RR := ⟨fun v H => ∃ a vs, v = .ref a ∧ SqL K H a vs ∧ All2 rs vs H, fun e ⟨a, vs, h1, h2, h3⟩ => ⟨a, vs, h1, same_sqL e h2, h3.mono e⟩⟩
/-- a part -/
def isP (q : Int × Int) : RR := isTup K [isInt q.1, isInt q.2]
instance {q : Int × Int} : Im (isP K q) := inferInstanceAs (Im (isTup K _))
end
structure OO where
  p : V → Hp → Hp → Prop
  im : ∀ {v H H' h}, TX H H' → p v H h → p v H' h
  nt : ∀ {v H h}, p v H h → ∀ a xs, ¬ Rd h a (.tup xs)
  nf : ∀ {v H h}, p v H h → ∀ a ob u, h a ≠ some (.frz ob u)
def sing (a : Addr) (o : HO) : Hp := fun b => if b = a then some o else none
theorem sing_same {a : Addr} {o : HO} : sing a o a = some o := if_pos rfl
theorem sing_some {a b : Addr} {o u : HO} (h : sing a o b = some u) : b = a ∧ u = o := by
  unfold sing at h
  split at h
  · exact ⟨by assumption, (Option.some.inj h).symm⟩
  · cases h
/-- a list of its own with these items -/
def ownL (rs : List RR) [i : Ims rs] : OO where
  p := fun v Hb h => ∃ a vs, v = .ref a ∧ h = sing a (.lst vs) ∧ All2 rs vs Hb
  im := fun e ⟨a, vs, h1, h2, h3⟩ => ⟨a, vs, h1, h2, i.all e h3⟩
  nt := fun ⟨a, vs, h1, h2, h3⟩ b xs r => by
    subst h2
    rcases r with r | ⟨o, r⟩
    · cases (sing_some r).2
    · cases (sing_some r).2
  nf := fun ⟨a, vs, h1, h2, h3⟩ b ob u r => by
    subst h2
    cases (sing_some r).2
inductive Sl where
  | u
  | r (R : RR)
  | o (v : V) (φ : OO)
  | x (φ : OO)
def SlAt : Sl → Option (Option V) → Hp → Hp → Prop
  | .u, _, _, _ => True
  | .r R, o, Hb, _ => ∃ v, o = some (some v) ∧ R.p v Hb
  | .o v φ, o, Hb, h => o = some (some v) ∧ φ.p v Hb h
  | .x φ, o, Hb, h => ∃ v, o = some (some v) ∧ φ.p v Hb h
structure At (Γ : List Sl) (Hb H : Hp) (σ : L2.St) (hs : Nat → Hp) : Prop where
  len : σ.length = Γ.length
  same : Same Hb H
  sub : ∀ i, Same (hs i) H
  off : ∀ i a o, hs i a = some o → Hb a = none
  dis : ∀ i j a o, hs i a = some o → i ≠ j → hs j a = none
  sl : ∀ i s, Γ[i]? = some s → SlAt s σ[i]? Hb (hs i)
/-- claimed -/
def Cl (Hb : Hp) (hs : Nat → Hp) (a : Addr) : Prop := (∃ o, Hb a = some o) ∨ ∃ i o, hs i a = some o
structure Step (Hb H : Hp) (hs : Nat → Hp) (Hb' H' : Hp) (hs' : Nat → Hp) : Prop where
  b : Same Hb Hb'
  k : ∀ a o, H a = some o → (∀ i, hs i a = none) → H' a = some o
  c : ∀ a, Cl Hb' hs' a → Cl Hb hs a ∨ H a = none
section
variable {Γ Γ' : List Sl} {Hb H Hb' H' Hb'' H'' : Hp} {σ σ' : L2.St} {hs hs' hs'' : Nat → Hp}
theorem Step.refl : Step Hb H hs Hb H hs := ⟨Same.refl _, fun _ _ h _ => h, fun _ h => .inl h⟩
theorem Step.trans (o1 : ∀ i a o, hs' i a = some o → Hb' a = none) (s : Step Hb H hs Hb' H' hs') (t : Step Hb' H' hs' Hb'' H'' hs'') : Step Hb H hs Hb'' H'' hs'' := by
  refine ⟨s.b.trans t.b, fun a o h n => ?_, fun a c => ?_⟩
  · refine t.k a o (s.k a o h n) fun i => ?_
    cases q : hs' i a with
    | none => rfl
    | some u =>
      rcases s.c a (.inr ⟨i, u, q⟩) with (⟨w, e⟩ | ⟨j, w, e⟩) | e
      · have := o1 i a u q
        rw [s.b a w e] at this
        cases this
      · rw [n j] at e; cases e
      · rw [h] at e; cases e
  · rcases t.c a c with c | e
    · exact s.c a c
    · cases q : H a with
      | none => exact .inr rfl
      | some o =>
        refine .inl ?_
        by_cases n : ∀ i, hs i a = none
        · rw [s.k a o q n] at e; cases e
        · obtain ⟨i, hi⟩ := Classical.not_forall.mp n
          cases z : hs i a with
          | none => exact absurd z hi
          | some u => exact .inr ⟨i, u, z⟩
theorem At.trans (A : At Γ' Hb' H' σ' hs') (s : Step Hb H hs Hb' H' hs') (t : Step Hb' H' hs' Hb'' H'' hs'') : Step Hb H hs Hb'' H'' hs'' := Step.trans A.off s t
end
end G
namespace G
open PySem PySem.Spec PyProof.Rows L2
def WE (X : Cx) (e : Expr) : TE := fun σ H Q => ∀ pins s, Inv X pins σ H s → wpAny (model X.prog X.w) X.A (eval e X.env) (EP X pins σ Q) X.xe s
def WT (X : Cx) (e : Expr) : TT := fun σ H Q => ∀ pins s, Inv X pins σ H s → wpAny (model X.prog X.w) X.A (isTrue e X.env (eval e X.env)) (TP X pins σ Q) X.xe s
def WA (X : Cx) (es : List Expr) : TA := fun σ H Q => ∀ (pos : Pos) pins s, Inv X pins σ H s → wpAny (model X.prog X.w) X.A (spliced (backTo pos (starEach es X.env))) (AP X pins σ Q) X.xe s
def WS (X : Cx) (st : Stmt) : TS := fun D σ H => ∀ pins s, Inv X pins σ H s → wpAny (model X.prog X.w) X.A (exec st X.env) (SP X pins D) X.xe s
def WSs (X : Cx) (st : List Stmt) : TS := fun D σ H => ∀ pins s, Inv X pins σ H s → wpAny (model X.prog X.w) X.A (execs st X.env) (SP X pins D) X.xe s
section
variable {X : Cx}
theorem pe_sem {e : Expr} : PE X e (WE X e) := ⟨fun pins s _ _ _ I h => h pins s I⟩
theorem pt_sem {e : Expr} : PT X e (WT X e) := ⟨fun pins s _ _ _ I h => h pins s I⟩
theorem pa_sem {es : List Expr} : PA X es (WA X es) := ⟨fun pos pins s _ _ _ I h => h pos pins s I⟩
theorem pss_sem {st : List Stmt} : PSs X st (WSs X st) := ⟨fun pins s _ _ _ I h => h pins s I⟩
theorem we_of {e : Expr} {t : TE} {σ : L2.St} {H : Hp} {Q : VK} (h : PE X e t) (q : t σ H Q) : WE X e σ H Q := fun pins s I => h.run pins s σ H Q I q
theorem wt_of {e : Expr} {t : TT} {σ : L2.St} {H : Hp} {Q : Bool → Hp → Prop} (h : PT X e t) (q : t σ H Q) : WT X e σ H Q := fun pins s I => h.run pins s σ H Q I q
theorem wa_of {es : List Expr} {t : TA} {σ : L2.St} {H : Hp} {Q : List V → Hp → Prop} (h : PA X es t) (q : t σ H Q) : WA X es σ H Q := fun pos pins s I => h.run pos pins s σ H Q I q
theorem wss_of {st : List Stmt} {t : TS} {σ : L2.St} {H : Hp} {D : Ends} (h : PSs X st t) (q : t D σ H) : WSs X st D σ H := fun pins s I => h.run pins s σ H D I q
end
/-- an expression gives a value with R, whatever else stays -/
structure GE (X : Cx) (Γ : List Sl) (e : Expr) (R : RR) : Prop where
  run : ∀ (σ : L2.St) (H Hb : Hp) (hs : Nat → Hp) (Q : VK), At Γ Hb H σ hs → (∀ v H' Hb' hs', Step Hb H hs Hb' H' hs' → At Γ Hb' H' σ hs' → R.p v Hb' → Q v H') → WE X e σ H Q
/-- a test answers a b with P -/
structure GT (X : Cx) (Γ : List Sl) (e : Expr) (P : Bool → Prop) : Prop where
  run : ∀ (σ : L2.St) (H Hb : Hp) (hs : Nat → Hp) (Q : Bool → Hp → Prop), At Γ Hb H σ hs → (∀ b H' Hb' hs', Step Hb H hs Hb' H' hs' → At Γ Hb' H' σ hs' → P b → Q b H') → WT X e σ H Q
/-- an expression gives a new owned thing -/
structure GO (X : Cx) (Γ : List Sl) (e : Expr) (φ : OO) : Prop where
  run : ∀ (σ : L2.St) (H Hb : Hp) (hs : Nat → Hp) (Q : VK), At Γ Hb H σ hs → (∀ v H' Hb' hs' h, Step Hb H hs Hb' H' hs' → At Γ Hb' H' σ hs' → φ.p v Hb' h → Same h H' → (∀ a o, h a = some o → Hb' a = none ∧ (∀ i, hs' i a = none) ∧ (Cl Hb hs a ∨ H a = none)) → Q v H') → WE X e σ H Q
/-- arguments -/
inductive AK | r (R : RR) | o (i : Nat)
def AksAt (σ : L2.St) (Hb : Hp) : List AK → List V → Prop
  | [], [] => True
  | .r R :: ks, v :: vs => R.p v Hb ∧ AksAt σ Hb ks vs
  | .o i :: ks, v :: vs => σ[i]? = some (some v) ∧ AksAt σ Hb ks vs
  | _, _ => False
structure GA (X : Cx) (Γ : List Sl) (es : List Expr) (ks : List AK) : Prop where
  run : ∀ (σ : L2.St) (H Hb : Hp) (hs : Nat → Hp) (Q : List V → Hp → Prop), At Γ Hb H σ hs → (∀ vs H' Hb' hs', Step Hb H hs Hb' H' hs' → At Γ Hb' H' σ hs' → AksAt σ Hb' ks vs → Q vs H') → WA X es σ H Q
section
variable {X : Cx} {Γ : List Sl} {e a b : Expr} {R R' Ra Rb : RR} {pos : Pos}
theorem ge_conv (h : GE X Γ e R) (c : ∀ v H, R.p v H → R'.p v H) : GE X Γ e R' := .mk fun σ H Hb hs Q A q => h.run σ H Hb hs Q A fun v H' Hb' hs' s A' r => q v H' Hb' hs' s A' (c v Hb' r)
theorem gt_conv {P P' : Bool → Prop} (h : GT X Γ e P) (c : ∀ b, P b → P' b) : GT X Γ e P' := .mk fun σ H Hb hs Q A q => h.run σ H Hb hs Q A fun v H' Hb' hs' s A' r => q v H' Hb' hs' s A' (c v r)
theorem go_conv {φ φ' : OO} (h : GO X Γ e φ) (c : ∀ v H h, φ.p v H h → φ'.p v H h) : GO X Γ e φ' := .mk fun σ H Hb hs Q A q => h.run σ H Hb hs Q A fun v H' Hb' hs' h s A' r z f => q v H' Hb' hs' h s A' (c v Hb' h r) z f
theorem ge_eq (h : GE X Γ e R) (c : R = R') : GE X Γ e R' := c ▸ h
theorem go_eq {φ φ' : OO} (h : GO X Γ e φ) (c : φ = φ') : GO X Γ e φ' := c ▸ h
theorem ge_var (i : Nat) {x : Str} (hΓ : Γ[i]? = some (.r R) := by rfl) (hN : X.N[i]? = some x := by rfl) (hv : Vis X.env.scope x := by first | exact Or.inl rfl | exact Or.inr (Or.inl rfl) | exact Or.inr (Or.inr rfl))
    (hd : (x == ("__debug__" : Str)) = false := by decide) (hcd : (x == ("__classdict__" : Str)) = false := by decide) : GE X Γ (.Name x pos) R := .mk fun σ H Hb hs Q A q => by
  refine we_of (pe_var hN hv hd hcd) ?_
  obtain ⟨v, e, r⟩ := A.sl i _ hΓ
  exact ⟨v, e, q v H Hb hs Step.refl A r⟩
theorem ge_const {v : V} (h : PE X e (tC v)) (hR : ∀ H, R.p v H) : GE X Γ e R := .mk fun σ H Hb hs Q A q => we_of h (q v H Hb hs Step.refl A (hR Hb))
theorem ge_int {i : Int} {j} : GE X Γ (.Constant (.int i) j pos) (isInt i) := ge_const pe_int fun _ => rfl
theorem ge_bl {i : Bool} {j} : GE X Γ (.Constant (.bool i) j pos) (isB i) := ge_const pe_bl fun _ => rfl
theorem ge_str {i : Str} {j} : GE X Γ (.Constant (.str i) j pos) (isS i) := ge_const pe_str fun _ => rfl
theorem ge_non {j} : GE X Γ (.Constant .none j pos) isN := ge_const pe_non fun _ => rfl
theorem ge_glob {x : Str} {v : V} {u : Value} (hg : Gl X x) (hm : X.mg x = some u) (r : RelV v u) (hR : ∀ H, R.p v H) (hd : (x == ("__debug__" : Str)) = false := by decide) : GE X Γ (.Name x pos) R := ge_const (pe_glob hg hm r hd) hR
def RV (r : R2) (Ra Rb R : RR) : Prop := ∀ x y Hb H (Q : VK), Same Hb H → Ra.p x Hb → Rb.p y Hb → (∀ z, R.p z Hb → Q z H) → r x y H Q
theorem rv_I0 {g : Int → Int → Int} {i j : Int} : RV (rI0 fun i j => .int (g i j)) (isInt i) (isInt j) (isInt (g i j)) := fun _ _ _ _ _ _ h1 h2 q => ⟨i, j, h1, h2, q _ rfl⟩
theorem rv_B0 {g : Int → Int → Bool} {i j : Int} : RV (rI0 fun i j => .bl (g i j)) (isInt i) (isInt j) (isB (g i j)) := fun _ _ _ _ _ _ h1 h2 q => ⟨i, j, h1, h2, q _ rfl⟩
theorem rv_I {C : Int → Int → Prop} {g : Int → Int → Int} {i j : Int} (hc : C i j) : RV (rI C fun i j => .int (g i j)) (isInt i) (isInt j) (isInt (g i j)) := fun _ _ _ _ _ _ h1 h2 q => ⟨i, j, h1, h2, hc, q _ rfl⟩
theorem rv_eqI {i j : Int} : RV rEq (isInt i) (isInt j) (isB (decide (i = j))) := fun x y Hb H Q _ h1 h2 q => by
  cases h1; cases h2
  refine ⟨rfl, ?_⟩
  have e : decide (V.int i = V.int j) = decide (i = j) := by rw [dec_int, Bool.beq_eq_decide_eq]
  rw [e]; exact q _ rfl
theorem rv_neI {i j : Int} : RV rNe (isInt i) (isInt j) (isB (!decide (i = j))) := fun x y Hb H Q _ h1 h2 q => by
  cases h1; cases h2
  refine ⟨rfl, ?_⟩
  have e : decide (V.int i = V.int j) = decide (i = j) := by rw [dec_int, Bool.beq_eq_decide_eq]
  rw [e]; exact q _ rfl
theorem rv_eqS {i j : Str} : RV rEq (isS i) (isS j) (isB (decide (i = j))) := fun x y Hb H Q _ h1 h2 q => by
  cases h1; cases h2
  refine ⟨rfl, ?_⟩
  have e : decide (V.str i = V.str j) = decide (i = j) := by
    by_cases h : i = j
    · subst h; simp
    · rw [decide_eq_false h, decide_eq_false]; intro z; exact h (V.str.inj z)
  rw [e]; exact q _ rfl
theorem rv_neS {i j : Str} : RV rNe (isS i) (isS j) (isB (!decide (i = j))) := fun x y Hb H Q _ h1 h2 q => by
  cases h1; cases h2
  refine ⟨rfl, ?_⟩
  have e : decide (V.str i = V.str j) = decide (i = j) := by
    by_cases h : i = j
    · subst h; simp
    · rw [decide_eq_false h, decide_eq_false]; intro z; exact h (V.str.inj z)
  rw [e]; exact q _ rfl
theorem rv_conv {r : R2} (h : RV r Ra Rb R) (c : ∀ v H, R.p v H → R'.p v H) : RV r Ra Rb R' := fun x y Hb H Q s h1 h2 q => h x y Hb H Q s h1 h2 fun z hz => q z (c _ _ hz)
theorem rv_exl {α : Type} {P : α → Prop} {c : α → RR} {r : R2} (h : ∀ x, P x → RV r (c x) Rb R) : RV r (exR P c) Rb R := fun x y Hb H Q s ⟨z, p, hz⟩ h2 q => h z p x y Hb H Q s hz h2 q
theorem rv_exr {α : Type} {P : α → Prop} {c : α → RR} {r : R2} (h : ∀ x, P x → RV r Ra (c x) R) : RV r Ra (exR P c) R := fun x y Hb H Q s h1 ⟨z, p, hz⟩ q => h z p x y Hb H Q s h1 hz q
/-- two values in a row -/
theorem ge_two {t : TE} {r : R2} (hp : PE X e (tOp r (WE X a) (WE X b))) (ha : GE X Γ a Ra) (hb : GE X Γ b Rb) (hr : RV r Ra Rb R) : GE X Γ e R := .mk fun σ H Hb hs Q A q => by
  refine we_of hp (ha.run σ H Hb hs _ A fun v H1 Hb1 hs1 s1 A1 r1 => hb.run σ H1 Hb1 hs1 _ A1 fun u H2 Hb2 hs2 s2 A2 r2 => ?_)
  exact hr v u Hb2 H2 Q A2.same (Ra.mono s2.b r1) r2 fun z hz => q z H2 Hb2 hs2 (A1.trans s1 s2) A2 hz
theorem ge_op {op : Operator} {r : R2} (ho : OpR X (binaryOp op) r) (ha : GE X Γ a Ra) (hb : GE X Γ b Rb) (hr : RV r Ra Rb R) : GE X Γ (.BinOp a op b pos) R := ge_two (t := fun _ _ _ => True) (pe_op ho pe_sem pe_sem) ha hb hr
theorem ge_cmp {op : CmpOp} {r : R2} (ho : OpR X (compareOp op) r) (ha : GE X Γ a Ra) (hb : GE X Γ b Rb) (hr : RV r Ra Rb R) (hm : behindInMarks op b = false := by first | rfl | exact nomark _) : GE X Γ (.Compare a [op] [b] pos) R := ge_two (t := fun _ _ _ => True) (pe_cmpR ho pe_sem pe_sem hm) ha hb hr
theorem ge_add {i j : Int} (ha : GE X Γ a (isInt i)) (hb : GE X Γ b (isInt j)) : GE X Γ (.BinOp a .Add b pos) (isInt (i + j)) := ge_op op_add ha hb rv_I0
theorem ge_sub {i j : Int} (ha : GE X Γ a (isInt i)) (hb : GE X Γ b (isInt j)) : GE X Γ (.BinOp a .Sub b pos) (isInt (i - j)) := ge_op op_sub ha hb rv_I0
theorem ge_fdiv {i j : Int} (ha : GE X Γ a (isInt i)) (hb : GE X Γ b (isInt j)) (hc : CDivW i j) : GE X Γ (.BinOp a .FloorDiv b pos) (isInt (i / j)) := ge_op op_fdivW ha hb (rv_I hc)
theorem ge_mod {i j : Int} (ha : GE X Γ a (isInt i)) (hb : GE X Γ b (isInt j)) (hc : 0 < j) : GE X Γ (.BinOp a .Mod b pos) (isInt (i % j)) := ge_op op_mod ha hb (rv_I hc)
theorem ge_pow {i j : Int} (ha : GE X Γ a (isInt i)) (hb : GE X Γ b (isInt j)) (hc : CPow i j) : GE X Γ (.BinOp a .Pow b pos) (isInt (i ^ j.toNat)) := ge_op op_pow ha hb (rv_I hc)
theorem ge_eqI {i j : Int} (ha : GE X Γ a (isInt i)) (hb : GE X Γ b (isInt j)) : GE X Γ (.Compare a [.Eq] [b] pos) (isB (decide (i = j))) := ge_cmp op_eq ha hb rv_eqI (nomark _)
theorem ge_eqS {i j : Str} (ha : GE X Γ a (isS i)) (hb : GE X Γ b (isS j)) : GE X Γ (.Compare a [.Eq] [b] pos) (isB (decide (i = j))) := ge_cmp op_eq ha hb rv_eqS (nomark _)
theorem ge_neS {i j : Str} (ha : GE X Γ a (isS i)) (hb : GE X Γ b (isS j)) : GE X Γ (.Compare a [.NotEq] [b] pos) (isB (!decide (i = j))) := ge_cmp op_ne ha hb rv_neS (nomark _)
/-- an expression whose value is a bool, as a test -/
theorem gt_val {P : Bool → Prop} (h : GE X Γ e (exR P isB)) (he : ∀ whole, isTrue e X.env whole = (do let v ← whole; standAt e.pos; holding [v] (truthy v)) := by intro _; rfl) : GT X Γ e P := .mk fun σ H Hb hs Q A q =>
  wt_of (pt_val pe_sem he) (h.run σ H Hb hs _ A fun v H1 Hb1 hs1 s1 A1 ⟨b, p, r⟩ => ⟨b, r, q b H1 Hb1 hs1 s1 A1 p⟩)
theorem gt_v {c : Bool} (h : GE X Γ e (isB c)) (he : ∀ whole, isTrue e X.env whole = (do let v ← whole; standAt e.pos; holding [v] (truthy v)) := by intro _; rfl) : GT X Γ e (· = c) :=
  gt_val (ge_conv h fun _ _ r => ⟨c, rfl, r⟩) he
/-- a comparison of two values, as a test -/
theorem gt_cmp {op : CmpOp} {r : R2} {c : Bool} (ho : OpR X (compareOp op) r) (ha : GE X Γ a Ra) (hb : GE X Γ b Rb) (hr : RV r Ra Rb (isB c)) (hm : behindInMarks op b = false := by first | rfl | exact nomark _) : GT X Γ (.Compare a [op] [b] pos) (· = c) := .mk fun σ H Hb hs Q A q => by
  refine wt_of (pt_cmpR ho pe_sem pe_sem hm) (ha.run σ H Hb hs _ A fun v H1 Hb1 hs1 s1 A1 r1 => hb.run σ H1 Hb1 hs1 _ A1 fun u H2 Hb2 hs2 s2 A2 r2 => ?_)
  exact hr v u Hb2 H2 _ A2.same (Ra.mono s2.b r1) r2 fun z hz => ⟨c, hz, q c H2 Hb2 hs2 (A1.trans s1 s2) A2 rfl⟩
theorem gt_cmpP {op : CmpOp} {r : R2} {P : Bool → Prop} (ho : OpR X (compareOp op) r) (ha : GE X Γ a Ra) (hb : GE X Γ b Rb) (hr : RV r Ra Rb (exR P isB)) (hm : behindInMarks op b = false := by first | rfl | exact nomark _) : GT X Γ (.Compare a [op] [b] pos) P := .mk fun σ H Hb hs Q A q => by
  refine wt_of (pt_cmpR ho pe_sem pe_sem hm) (ha.run σ H Hb hs _ A fun v H1 Hb1 hs1 s1 A1 r1 => hb.run σ H1 Hb1 hs1 _ A1 fun u H2 Hb2 hs2 s2 A2 r2 => ?_)
  exact hr v u Hb2 H2 _ A2.same (Ra.mono s2.b r1) r2 fun z ⟨c, p, hz⟩ => ⟨c, hz, q c H2 Hb2 hs2 (A1.trans s1 s2) A2 p⟩
theorem gt_lt {i j : Int} (ha : GE X Γ a (isInt i)) (hb : GE X Γ b (isInt j)) : GT X Γ (.Compare a [.Lt] [b] pos) (· = decide (i < j)) := gt_cmp op_lt ha hb rv_B0 (nomark _)
theorem gt_le {i j : Int} (ha : GE X Γ a (isInt i)) (hb : GE X Γ b (isInt j)) : GT X Γ (.Compare a [.LtE] [b] pos) (· = decide (i ≤ j)) := gt_cmp op_le ha hb rv_B0 (nomark _)
theorem gt_gt {i j : Int} (ha : GE X Γ a (isInt i)) (hb : GE X Γ b (isInt j)) : GT X Γ (.Compare a [.Gt] [b] pos) (· = decide (j < i)) := gt_cmp op_gt ha hb rv_B0 (nomark _)
theorem gt_ge {i j : Int} (ha : GE X Γ a (isInt i)) (hb : GE X Γ b (isInt j)) : GT X Γ (.Compare a [.GtE] [b] pos) (· = decide (j ≤ i)) := gt_cmp op_ge ha hb rv_B0 (nomark _)
theorem gt_eqI {i j : Int} (ha : GE X Γ a (isInt i)) (hb : GE X Γ b (isInt j)) : GT X Γ (.Compare a [.Eq] [b] pos) (· = decide (i = j)) := gt_cmp op_eq ha hb rv_eqI (nomark _)
theorem gt_neI {i j : Int} (ha : GE X Γ a (isInt i)) (hb : GE X Γ b (isInt j)) : GT X Γ (.Compare a [.NotEq] [b] pos) (· = !decide (i = j)) := gt_cmp op_ne ha hb rv_neI (nomark _)
/-- a test whose whole is told from outside (the last of and | or) -/
def WW (X : Cx) (e : Expr) : TT := fun σ H Q => ∀ (whole : Sem Value) pins s, Inv X pins σ H s → wpAny (model X.prog X.w) X.A (isTrue e X.env whole) (TP X pins σ Q) X.xe s
theorem pw_sem {e : Expr} : PW X e (WW X e) := ⟨fun w pins s _ _ _ I h => h w pins s I⟩
theorem ww_of {e : Expr} {t : TT} {σ : L2.St} {H : Hp} {Q : Bool → Hp → Prop} (h : PW X e t) (q : t σ H Q) : WW X e σ H Q := fun w pins s I => h.run w pins s σ H Q I q
structure GW (X : Cx) (Γ : List Sl) (e : Expr) (P : Bool → Prop) : Prop where
  run : ∀ (σ : L2.St) (H Hb : Hp) (hs : Nat → Hp) (Q : Bool → Hp → Prop), At Γ Hb H σ hs → (∀ b H' Hb' hs', Step Hb H hs Hb' H' hs' → At Γ Hb' H' σ hs' → P b → Q b H') → WW X e σ H Q
theorem gt_w {P : Bool → Prop} (h : GW X Γ e P) : GT X Γ e P := .mk fun σ H Hb hs Q A q => wt_of pw_sem.pt (h.run σ H Hb hs Q A q)
theorem gw_conv {P P' : Bool → Prop} (h : GW X Γ e P) (c : ∀ b, P b → P' b) : GW X Γ e P' := .mk fun σ H Hb hs Q A q => h.run σ H Hb hs Q A fun v H' Hb' hs' s A' r => q v H' Hb' hs' s A' (c v r)
variable {rest : List Expr} {P P' : Bool → Prop}
theorem gw_and1 (ha : GT X Γ a P) : GW X Γ (.BoolOp .And [a] pos) P := .mk fun σ H Hb hs Q A q => ww_of (pw_and1 pt_sem) (ha.run σ H Hb hs Q A q)
theorem gw_or1 (ha : GT X Γ a P) : GW X Γ (.BoolOp .Or [a] pos) P := .mk fun σ H Hb hs Q A q => ww_of (pw_or1 pt_sem) (ha.run σ H Hb hs Q A q)
/-- a and b: where a holds, b with P' -/
theorem gw_andP (ha : GT X Γ a P) (hb : P true → GW X Γ (.BoolOp .And (b :: rest) pos) P') (hf : P false → P' false) : GW X Γ (.BoolOp .And (a :: b :: rest) pos) P' := .mk fun σ H Hb hs Q A q => by
  refine ww_of (pw_and pt_sem pw_sem) (ha.run σ H Hb hs _ A fun c H1 Hb1 hs1 s1 A1 p => ?_)
  cases c with
  | true => exact iteT ((hb p).run σ H1 Hb1 hs1 _ A1 fun c H2 Hb2 hs2 s2 A2 p2 => q c H2 Hb2 hs2 (A1.trans s1 s2) A2 p2)
  | false => exact iteF (q false H1 Hb1 hs1 s1 A1 (hf p))
theorem gw_orP (ha : GT X Γ a P) (hb : P false → GW X Γ (.BoolOp .Or (b :: rest) pos) P') (ht : P true → P' true) : GW X Γ (.BoolOp .Or (a :: b :: rest) pos) P' := .mk fun σ H Hb hs Q A q => by
  refine ww_of (pw_or pt_sem pw_sem) (ha.run σ H Hb hs _ A fun c H1 Hb1 hs1 s1 A1 p => ?_)
  cases c with
  | true => exact iteT (q true H1 Hb1 hs1 s1 A1 (ht p))
  | false => exact iteF ((hb p).run σ H1 Hb1 hs1 _ A1 fun c H2 Hb2 hs2 s2 A2 p2 => q c H2 Hb2 hs2 (A1.trans s1 s2) A2 p2)
theorem gw_and {c d : Bool} (ha : GT X Γ a (· = c)) (hb : c = true → GW X Γ (.BoolOp .And (b :: rest) pos) (· = d)) : GW X Γ (.BoolOp .And (a :: b :: rest) pos) (· = (c && d)) :=
  gw_andP ha (fun h => gw_conv (hb h.symm) fun x e => by rw [e, ← h]; rfl) fun h => by rw [← h]; rfl
theorem gw_or {c d : Bool} (ha : GT X Γ a (· = c)) (hb : c = false → GW X Γ (.BoolOp .Or (b :: rest) pos) (· = d)) : GW X Γ (.BoolOp .Or (a :: b :: rest) pos) (· = (c || d)) :=
  gw_orP ha (fun h => gw_conv (hb h.symm) fun x e => by rw [e, ← h]; rfl) fun h => by rw [← h]; rfl
theorem gt_and {c d : Bool} (ha : GT X Γ a (· = c)) (hb : c = true → GT X Γ b (· = d)) : GT X Γ (.BoolOp .And [a, b] pos) (· = (c && d)) := gt_w (gw_and ha fun h => gw_and1 (hb h))
theorem gt_or {c d : Bool} (ha : GT X Γ a (· = c)) (hb : c = false → GT X Γ b (· = d)) : GT X Γ (.BoolOp .Or [a, b] pos) (· = (c || d)) := gt_w (gw_or ha fun h => gw_or1 (hb h))
end
end G
namespace G
open PySem PySem.Spec PyProof.Rows L2
section
variable {X : Cx} {Γ : List Sl} {e a b c : Expr} {es rest : List Expr} {R R' Ra Rb Rc : RR} {pos : Pos} {P P' : Bool → Prop}
theorem gt_notP (h : GT X Γ a P) (hP : ∀ c, P c → P' (!c)) : GT X Γ (.UnaryOp .Not a pos) P' := .mk fun σ H Hb hs Q A q =>
  wt_of (pt_not pt_sem) (h.run σ H Hb hs _ A fun c H1 Hb1 hs1 s1 A1 p => q _ H1 Hb1 hs1 s1 A1 (hP c p))
theorem gt_not {c : Bool} (h : GT X Γ a (· = c)) : GT X Γ (.UnaryOp .Not a pos) (· = !c) := gt_notP h fun x e => by rw [e]
theorem ge_not {c : Bool} (h : GE X Γ a (isB c)) : GE X Γ (.UnaryOp .Not a pos) (isB (!c)) := .mk fun σ H Hb hs Q A q =>
  we_of (pe_not pe_sem) (h.run σ H Hb hs _ A fun v H1 Hb1 hs1 s1 A1 r => ⟨c, r, q _ H1 Hb1 hs1 s1 A1 rfl⟩)
theorem ge_and1 (h : GE X Γ a R) {op} : GE X Γ (.BoolOp op [a] pos) R := .mk fun σ H Hb hs Q A q => we_of (pe_one pe_sem) (h.run σ H Hb hs Q A q)
theorem ge_andR {c d : Bool} (ha : GE X Γ a (isB c)) (hb : c = true → GE X Γ (.BoolOp .And (b :: rest) pos) (isB d)) : GE X Γ (.BoolOp .And (a :: b :: rest) pos) (isB (c && d)) := .mk fun σ H Hb hs Q A q => by
  refine we_of (pe_and pe_sem pe_sem) (ha.run σ H Hb hs _ A fun v H1 Hb1 hs1 s1 A1 r => ⟨c, r, ?_⟩)
  cases c with
  | true => exact iteT ((hb rfl).run σ H1 Hb1 hs1 _ A1 fun v H2 Hb2 hs2 s2 A2 r2 => q v H2 Hb2 hs2 (A1.trans s1 s2) A2 r2)
  | false => exact iteF (q _ H1 Hb1 hs1 s1 A1 rfl)
theorem ge_and {c d : Bool} (ha : GE X Γ a (isB c)) (hb : c = true → GE X Γ b (isB d)) : GE X Γ (.BoolOp .And [a, b] pos) (isB (c && d)) := ge_andR ha fun h => ge_and1 (hb h)
theorem AksAt.mono {σ : L2.St} {Hb Hb' : Hp} (e : Same Hb Hb') : ∀ {ks : List AK} {vs : List V}, AksAt σ Hb ks vs → AksAt σ Hb' ks vs
  | [], [], _ => trivial
  | .r R :: ks, v :: vs, h => ⟨R.mono e h.1, AksAt.mono e h.2⟩
  | .o i :: ks, v :: vs, h => ⟨h.1, AksAt.mono e h.2⟩
theorem ga_nil : GA X Γ [] [] := .mk fun σ H Hb hs Q A q => wa_of pa_nil (q [] H Hb hs Step.refl A trivial)
theorem ga_cons {ks : List AK} (ha : GE X Γ e R) (hr : GA X Γ es ks) (hst : starEach (e :: es) X.env = (false, eval e X.env) :: starEach es X.env := by rfl) : GA X Γ (e :: es) (.r R :: ks) := .mk fun σ H Hb hs Q A q => by
  refine wa_of (pa_cons pe_sem pa_sem hst) (ha.run σ H Hb hs _ A fun v H1 Hb1 hs1 s1 A1 r1 => hr.run σ H1 Hb1 hs1 _ A1 fun vs H2 Hb2 hs2 s2 A2 r2 => ?_)
  exact q (v :: vs) H2 Hb2 hs2 (A1.trans s1 s2) A2 ⟨R.mono s2.b r1, r2⟩
theorem ga_own {ks : List AK} (i : Nat) {x : Str} {w : V} {φ : OO} (hr : GA X Γ es ks) (hΓ : Γ[i]? = some (.o w φ) := by rfl) (hN : X.N[i]? = some x := by rfl) (hv : Vis X.env.scope x := by first | exact Or.inl rfl | exact Or.inr (Or.inl rfl) | exact Or.inr (Or.inr rfl))
    (hst : starEach ((.Name x pos) :: es) X.env = (false, eval (.Name x pos) X.env) :: starEach es X.env := by rfl) (hd : (x == ("__debug__" : Str)) = false := by decide) (hcd : (x == ("__classdict__" : Str)) = false := by decide) : GA X Γ (.Name x pos :: es) (.o i :: ks) := .mk fun σ H Hb hs Q A q => by
  refine wa_of (pa_cons (pe_var hN hv hd hcd) pa_sem hst) ?_
  obtain ⟨e, _⟩ := A.sl i _ hΓ
  refine ⟨w, e, hr.run σ H Hb hs _ A fun vs H2 Hb2 hs2 s2 A2 r2 => ?_⟩
  exact q (w :: vs) H2 Hb2 hs2 s2 A2 ⟨e, r2⟩
/-- arguments that are all persistent -/
theorem aks_all {σ : L2.St} {Hb : Hp} : ∀ {rs : List RR} {vs : List V}, AksAt σ Hb (rs.map .r) vs → All2 rs vs Hb
  | [], [], _ => trivial
  | _ :: rs, _ :: vs, h => ⟨h.1, aks_all (rs := rs) h.2⟩
section
variable {Hb H : Hp} {σ : L2.St} {hs : Nat → Hp}
theorem At.fresh (A : At Γ Hb H σ hs) {p : Addr} (n : H p = none) : Hb p = none ∧ ∀ i, hs i p = none := by
  refine ⟨?_, fun i => ?_⟩
  · cases q : Hb p with
    | none => rfl
    | some o => rw [A.same p o q] at n; cases n
  · cases q : hs i p with
    | none => rfl
    | some o => rw [A.sub i p o q] at n; cases n
theorem same_updN {H : Hp} {p : Addr} {o : HO} (h : H p = none) : Same H (upd H p o) := fun b x e => by
  rw [upd_ne (ne_of_none e h)]; exact e
theorem same_upd2 {Hb H : Hp} {p : Addr} {o : HO} (s : Same Hb H) : Same (upd Hb p o) (upd H p o) := fun b x e => by
  by_cases z : b = p
  · subst z; rw [upd_same] at e ⊢; exact e
  · rw [upd_ne z] at e ⊢; exact s b x e
theorem SlAt.mono {s : Sl} {o : Option (Option V)} {Hb Hb' h : Hp} (e : Same Hb Hb') (q : SlAt s o Hb h) : SlAt s o Hb' h := by
  cases s with
  | u => trivial
  | r R => obtain ⟨v, a, b⟩ := q; exact ⟨v, a, R.mono e b⟩
  | o v φ => exact ⟨q.1, φ.im (tx_of e) q.2⟩
  | x φ => obtain ⟨v, a, b⟩ := q; exact ⟨v, a, φ.im (tx_of e) b⟩
/-- a persistent cell is laid -/
theorem At.lay (A : At Γ Hb H σ hs) {p : Addr} {o : HO} (n : H p = none) : At Γ (upd Hb p o) (upd H p o) σ hs ∧ Step Hb H hs (upd Hb p o) (upd H p o) hs := by
  obtain ⟨nb, ni⟩ := A.fresh n
  refine ⟨⟨A.len, same_upd2 A.same, fun i b x e => ?_, fun i b x e => ?_, A.dis, fun i s q => (A.sl i s q).mono (same_updN nb)⟩, ⟨same_updN nb, fun b x e _ => same_updN n b x e, fun b c => ?_⟩⟩
  · exact same_updN n b x (A.sub i b x e)
  · have z : b ≠ p := fun z => by subst z; rw [ni i] at e; cases e
    rw [upd_ne z]; exact A.off i b x e
  · by_cases z : b = p
    · subst z; exact .inr n
    · rcases c with ⟨w, e⟩ | c
      · rw [upd_ne z] at e; exact .inl (.inl ⟨w, e⟩)
      · exact .inl (.inr c)
/-- an unclaimed cell is laid -/
theorem At.layN (A : At Γ Hb H σ hs) {p : Addr} {o : HO} (n : H p = none) : At Γ Hb (upd H p o) σ hs ∧ Step Hb H hs Hb (upd H p o) hs :=
  ⟨⟨A.len, fun b x e => same_updN n b x (A.same b x e), fun i b x e => same_updN n b x (A.sub i b x e), A.off, A.dis, A.sl⟩, ⟨Same.refl _, fun b x e _ => same_updN n b x e, fun _ c => .inl c⟩⟩
end
theorem line_of {n : Nat} (h : n ≤ 1000) : n ≤ sizeLine := Nat.le_of_lt (small1000 h)
/-- a tuple's display -/
theorem ge_tupK {rs : List RR} {x1} (h : GA X Γ es (rs.map .r)) (hl : rs.length ≤ 1000 := by exact Nat.le_of_ble_eq_true rfl) : GE X Γ (.Tuple es x1 pos) (isTup X.K rs) := .mk fun σ H Hb hs Q A q => by
  refine we_of (pe_tup pa_sem) (h.run σ H Hb hs _ A fun vs H1 Hb1 hs1 s1 A1 r1 => ?_)
  have r2 := aks_all r1
  refine ⟨line_of (by rw [r2.len]; exact hl), fun p np => ?_⟩
  obtain ⟨A2, s2⟩ := A1.lay (o := .tup vs) np
  exact q _ _ _ _ (A1.trans s1 s2) A2 ⟨p, vs, rfl, SqT.of upd_same, r2.mono s2.b⟩
theorem ge_tup1 {x1} (h : GE X Γ a Ra) (hs : starEach [a] X.env = (false, eval a X.env) :: starEach [] X.env := by rfl) : GE X Γ (.Tuple [a] x1 pos) (isTup X.K [Ra]) := ge_tupK (rs := [Ra]) (ga_cons h ga_nil hs)
theorem ge_tup2 {x1} (h : GE X Γ a Ra) (h2 : GE X Γ b Rb) (hs : starEach [a, b] X.env = (false, eval a X.env) :: starEach [b] X.env := by rfl) (hs2 : starEach [b] X.env = (false, eval b X.env) :: starEach [] X.env := by rfl) : GE X Γ (.Tuple [a, b] x1 pos) (isTup X.K [Ra, Rb]) := ge_tupK (rs := [Ra, Rb]) (ga_cons h (ga_cons h2 ga_nil hs2) hs)
/-- a list's display that is only read from then on -/
theorem ge_lstK {rs : List RR} (h : GA X Γ es (rs.map .r)) (hl : rs.length ≤ 1000 := by exact Nat.le_of_ble_eq_true rfl) : GE X Γ (.List es pos) (isLst X.K rs) := .mk fun σ H Hb hs Q A q => by
  refine we_of (pe_lst pa_sem) (h.run σ H Hb hs _ A fun vs H1 Hb1 hs1 s1 A1 r1 => ?_)
  have r2 := aks_all r1
  refine ⟨line_of (by rw [r2.len]; exact hl), fun p np => ?_⟩
  obtain ⟨A2, s2⟩ := A1.lay (o := .lst vs) np
  exact q _ _ _ _ (A1.trans s1 s2) A2 ⟨p, vs, rfl, SqL.of upd_same, r2.mono s2.b⟩
/-- .. that is the caller's own -/
theorem go_lst {rs : List RR} [i : Ims rs] (h : GA X Γ es (rs.map .r)) (hl : rs.length ≤ 1000 := by exact Nat.le_of_ble_eq_true rfl) : GO X Γ (.List es pos) (ownL rs) := .mk fun σ H Hb hs Q A q => by
  refine we_of (pe_lst pa_sem) (h.run σ H Hb hs _ A fun vs H1 Hb1 hs1 s1 A1 r1 => ?_)
  have r2 := aks_all r1
  refine ⟨line_of (by rw [r2.len]; exact hl), fun p np => ?_⟩
  obtain ⟨A2, s2⟩ := A1.layN (o := .lst vs) np
  obtain ⟨nb, ni⟩ := A1.fresh np
  refine q _ _ _ _ (sing p (.lst vs)) (A1.trans s1 s2) A2 ⟨p, vs, rfl, rfl, r2⟩ (fun b o e => ?_) fun b o e => ?_
  · obtain ⟨rfl, rfl⟩ := sing_some e; exact upd_same
  · obtain ⟨rfl, rfl⟩ := sing_some e
    refine ⟨nb, ni, ?_⟩
    cases z : H b with
    | none => exact .inr rfl
    | some w =>
      by_cases n : ∀ i, hs i b = none
      · rw [s1.k b w z n] at np; cases np
      · obtain ⟨i, hi⟩ := Classical.not_forall.mp n
        cases z : hs i b with
        | none => exact absurd z hi
        | some u => exact .inl (.inr ⟨i, u, z⟩)
/-- an owned thing is let go to be read -/
theorem ge_frz {φ : OO} (h : GO X Γ e φ) (hR : ∀ v Hb h', (∀ a o, h' a = some o → Hb a = none) → φ.p v Hb h' → ∀ Hc, Same Hb Hc → Same h' Hc → R.p v Hc) : GE X Γ e R := .mk fun σ H Hb hs Q A q => by
  refine h.run σ H Hb hs _ A fun v H1 Hb1 hs1 h1 s1 A1 r1 z f => ?_
  let Hc : Hp := fun a => match Hb1 a with | some o => some o | none => h1 a
  have c1 : Same Hb1 Hc := fun a o e => by show (match Hb1 a with | some o => some o | none => h1 a) = some o; rw [e]
  have c2 : Same h1 Hc := fun a o e => by show (match Hb1 a with | some o => some o | none => h1 a) = some o; rw [(f a o e).1]; exact e
  have c3 : ∀ a o, Hc a = some o → Hb1 a = some o ∨ h1 a = some o := fun a o e => by
    have e' : (match Hb1 a with | some o => some o | none => h1 a) = some o := e
    cases w : Hb1 a with
    | some u => rw [w] at e'; exact .inl e'
    | none => rw [w] at e'; exact .inr e'
  refine q v H1 Hc hs1 ⟨s1.b.trans c1, s1.k, fun a c => ?_⟩ ⟨A1.len, fun a o e => ?_, A1.sub, fun i a o e => ?_, A1.dis, fun i s w => (A1.sl i s w).mono c1⟩ (hR v Hb1 h1 (fun a o e => (f a o e).1) r1 Hc c1 c2)
  · rcases c with ⟨o, e⟩ | c
    · rcases c3 a o e with e | e
      · exact s1.c a (.inl ⟨o, e⟩)
      · exact (f a o e).2.2
    · exact s1.c a (.inr c)
  · rcases c3 a o e with e | e
    · exact A1.same a o e
    · exact z a o e
  · cases w : Hc a with
    | none => rfl
    | some u =>
      rcases c3 a u w with w | w
      · rw [A1.off i a o e] at w; cases w
      · rw [(f a u w).2.1 i] at e; cases e
theorem ge_frzL {rs : List RR} [i : Ims rs] (h : GO X Γ e (ownL rs)) : GE X Γ e (isLst X.K rs) := ge_frz h fun v Hb h' d ⟨a, vs, h1, h2, h3⟩ Hc c1 c2 => ⟨a, vs, h1, SqL.of (c2 a _ (by rw [h2]; exact sing_same)), h3.mono c1⟩
def Rds (φ : OO) (w : V) (R : RR) : Prop := ∀ Hb h', φ.p w Hb h' → ∀ Hc, Same Hb Hc → Same h' Hc → R.p w Hc
theorem rds_L {K : PySem.W.Frag} {rs : List RR} [i : Ims rs] {w : V} : Rds (ownL rs) w (isLst K rs) := fun Hb h' ⟨a, vs, h1, h2, h3⟩ Hc c1 c2 => ⟨a, vs, h1, SqL.of (c2 a _ (by rw [h2]; exact sing_same)), h3.mono c1⟩
section
variable {Hb H : Hp} {σ : L2.St} {hs : Nat → Hp}
def join (Hb h : Hp) : Hp := fun a => match Hb a with | some o => some o | none => h a
theorem join_l (Hb h : Hp) : Same Hb (join Hb h) := fun a o e => by show (match Hb a with | some o => some o | none => h a) = some o; rw [e]
theorem join_r {Hb h : Hp} (d : ∀ a o, h a = some o → Hb a = none) : Same h (join Hb h) := fun a o e => by show (match Hb a with | some o => some o | none => h a) = some o; rw [d a o e]; exact e
theorem join_c {Hb h : Hp} {a : Addr} {o : HO} (e : join Hb h a = some o) : Hb a = some o ∨ h a = some o := by
  have e' : (match Hb a with | some o => some o | none => h a) = some o := e
  cases w : Hb a with
  | some u => rw [w] at e'; exact .inl e'
  | none => rw [w] at e'; exact .inr e'
/-- a heap without some cells -/
def cut (H h : Hp) : Hp := fun a => match h a with | some _ => none | none => H a
theorem cut_n {H h : Hp} {a : Addr} (n : h a = none) : cut H h a = H a := by show (match h a with | some _ => none | none => H a) = H a; rw [n]
theorem cut_s {H h : Hp} {a : Addr} {o : HO} (n : h a = some o) : cut H h a = none := by show (match h a with | some _ => none | none => H a) = none; rw [n]
theorem cut_le {H h : Hp} {a : Addr} {o : HO} (e : cut H h a = some o) : H a = some o ∧ h a = none := by
  cases q : h a with
  | some u => rw [cut_s q] at e; cases e
  | none => rw [cut_n q] at e; exact ⟨e, rfl⟩
def putN (hs : Nat → Hp) (i : Nat) (h : Hp) : Nat → Hp := fun j => if j = i then h else hs j
theorem putN_same {i : Nat} {h : Hp} : putN hs i h i = h := if_pos rfl
theorem putN_ne {i j : Nat} {h : Hp} (n : j ≠ i) : putN hs i h j = hs j := if_neg n
def no : Hp := fun _ => none
/-- lent .. -/
theorem At.lend (A : At Γ Hb H σ hs) {i : Nat} {w : V} {φ : OO} (hΓ : Γ[i]? = some (.o w φ)) (hR : Rds φ w R) : At (Γ.set i (.r R)) (join Hb (hs i)) H σ (putN hs i no) := by
  have d : ∀ a o, hs i a = some o → Hb a = none := A.off i
  refine ⟨by rw [List.length_set]; exact A.len, fun a o e => ?_, fun j a o e => ?_, fun j a o e => ?_, fun j k a o e n => ?_, fun j s q => ?_⟩
  · rcases join_c e with e | e
    · exact A.same a o e
    · exact A.sub i a o e
  · by_cases z : j = i
    · subst z; rw [putN_same] at e; cases e
    · rw [putN_ne z] at e; exact A.sub j a o e
  · by_cases z : j = i
    · subst z; rw [putN_same] at e; cases e
    · rw [putN_ne z] at e
      cases q : join Hb (hs i) a with
      | none => rfl
      | some u =>
        rcases join_c q with q | q
        · rw [A.off j a o e] at q; cases q
        · rw [A.dis j i a o e z] at q; cases q
  · by_cases z : j = i
    · subst z; rw [putN_same] at e; cases e
    · rw [putN_ne z] at e
      by_cases z2 : k = i
      · subst z2; rw [putN_same]; rfl
      · rw [putN_ne z2]; exact A.dis j k a o e n
  · by_cases z : j = i
    · subst z
      rw [List.getElem?_set_self (by exact (List.getElem?_eq_some_iff.mp hΓ).1)] at q
      cases q
      obtain ⟨e1, e2⟩ := A.sl j _ hΓ
      exact ⟨w, e1, hR Hb (hs j) e2 _ (join_l _ _) (join_r d)⟩
    · rw [List.getElem?_set_ne (Ne.symm z)] at q
      rw [putN_ne z]
      exact (A.sl j s q).mono (join_l _ _)
/-- .. and back -/
theorem At.back (A : At Γ Hb H σ hs) {i : Nat} {w : V} {φ : OO} (hΓ : Γ[i]? = some (.o w φ)) {Hb' H' : Hp} {hs' : Nat → Hp} (s : Step (join Hb (hs i)) H (putN hs i no) Hb' H' hs') (A' : At (Γ.set i (.r R)) Hb' H' σ hs') :
    At Γ (cut Hb' (hs i)) H' σ (putN hs' i (hs i)) ∧ Step Hb H hs (cut Hb' (hs i)) H' (putN hs' i (hs i)) ∧ TX Hb' (cut Hb' (hs i)) := by
  have d : ∀ a o, hs i a = some o → Hb a = none := A.off i
  have hj : ∀ a o, hs i a = some o → Hb' a = some o := fun a o e => s.b a o (join_r d a o e)
  have b1 : Same Hb (cut Hb' (hs i)) := fun a o e => by
    have n : hs i a = none := by
      cases q : hs i a with
      | none => rfl
      | some u => rw [d a u q] at e; cases e
    rw [cut_n n]; exact s.b a o (join_l _ _ a o e)
  obtain ⟨e1, e2⟩ := A.sl i _ hΓ
  have tx : TX Hb' (cut Hb' (hs i)) := by
   refine ⟨fun a xs r => ?_, fun a ob u r => ?_⟩
   · have n : hs i a = none := by
      cases q : hs i a with
      | none => rfl
      | some u =>
        have q' := hj a u q
        refine absurd ?_ (φ.nt e2 a xs)
        rcases r with r | ⟨o, r⟩
        · rw [q'] at r; cases r; exact .inl q
        · rw [q'] at r; cases r; exact .inr ⟨o, q⟩
     rcases r with r | ⟨o, r⟩
     · exact .inl (by rw [cut_n n]; exact r)
     · exact .inr ⟨o, by rw [cut_n n]; exact r⟩
   · have n : hs i a = none := by
      cases q : hs i a with
      | none => rfl
      | some u' =>
        have q' := hj a u' q
        refine absurd ?_ (φ.nf e2 a ob u)
        rw [q'] at r; cases r; exact q
     rw [cut_n n]; exact r
  refine ⟨⟨by rw [A'.len, List.length_set], fun a o e => A'.same a o (cut_le e).1, fun j a o e => ?_, fun j a o e => ?_, fun j k a o e n => ?_, fun j t q => ?_⟩, ⟨b1, fun a o e n => ?_, fun a c => ?_⟩, tx⟩
  · by_cases z : j = i
    · subst z; rw [putN_same] at e; exact A'.same a o (hj a o e)
    · rw [putN_ne z] at e; exact A'.sub j a o e
  · by_cases z : j = i
    · subst z; rw [putN_same] at e; exact cut_s e
    · rw [putN_ne z] at e
      cases q : cut Hb' (hs i) a with
      | none => rfl
      | some u =>
        have := A'.off j a o e
        rw [(cut_le q).1] at this; cases this
  · by_cases z : j = i
    · subst z
      rw [putN_same] at e
      rw [putN_ne (Ne.symm n)]
      cases q : hs' k a with
      | none => rfl
      | some u =>
        have h2 := hj a o e
        rw [A'.off k a u q] at h2; cases h2
    · rw [putN_ne z] at e
      by_cases z2 : k = i
      · subst z2
        rw [putN_same]
        cases q : hs k a with
        | none => rfl
        | some u =>
          have h2 := hj a u q
          rw [A'.off j a o e] at h2; cases h2
      · rw [putN_ne z2]; exact A'.dis j k a o e n
  · by_cases z : j = i
    · subst z
      rw [hΓ] at q; cases q
      rw [putN_same]
      exact ⟨e1, φ.im (tx_of b1) e2⟩
    · have q' := A'.sl j t (by rw [List.getElem?_set_ne (Ne.symm z)]; exact q)
      rw [putN_ne z]
      have q0 := A.sl j t q
      cases t with
      | u => trivial
      | r R0 =>
        obtain ⟨v, x1, x2⟩ := q0
        exact ⟨v, x1, R0.mono b1 x2⟩
      | o v0 φ0 => exact ⟨q'.1, φ0.im tx q'.2⟩
      | x φ0 => obtain ⟨v, a, b⟩ := q'; exact ⟨v, a, φ0.im tx b⟩
  · refine s.k a o e fun j => ?_
    by_cases z : j = i
    · subst z; rw [putN_same]; rfl
    · rw [putN_ne z]; exact n j
  · rcases c with ⟨o, e⟩ | ⟨j, o, e⟩
    · obtain ⟨e1, e2⟩ := cut_le e
      rcases s.c a (.inl ⟨o, e1⟩) with (⟨u, c⟩ | ⟨k, u, c⟩) | c
      · rcases join_c c with c | c
        · exact .inl (.inl ⟨u, c⟩)
        · exact .inl (.inr ⟨i, u, c⟩)
      · by_cases z : k = i
        · subst z; rw [putN_same] at c; cases c
        · rw [putN_ne z] at c; exact .inl (.inr ⟨k, u, c⟩)
      · exact .inr c
    · by_cases z : j = i
      · subst z; rw [putN_same] at e; exact .inl (.inr ⟨j, o, e⟩)
      · rw [putN_ne z] at e
        rcases s.c a (.inr ⟨j, o, e⟩) with (⟨u, c⟩ | ⟨k, u, c⟩) | c
        · rcases join_c c with c | c
          · exact .inl (.inl ⟨u, c⟩)
          · exact .inl (.inr ⟨i, u, c⟩)
        · by_cases z : k = i
          · subst z; rw [putN_same] at c; cases c
          · rw [putN_ne z] at c; exact .inl (.inr ⟨k, u, c⟩)
        · exact .inr c
end
theorem ge_lend (i : Nat) {w : V} {φ : OO} {Rl : RR} (hΓ : Γ[i]? = some (.o w φ)) (hR : Rds φ w Rl) [m : Im R] (h : GE X (Γ.set i (.r Rl)) e R) : GE X Γ e R := .mk fun σ H Hb hs Q A q =>
  h.run σ H _ _ Q (A.lend hΓ hR) fun v H' Hb' hs' s A' r => by
    obtain ⟨B, t, x⟩ := A.back hΓ s A'
    exact q v H' _ _ t B (m.im x r)
theorem gt_lend (i : Nat) {w : V} {φ : OO} {Rl : RR} {P : Bool → Prop} (hΓ : Γ[i]? = some (.o w φ)) (hR : Rds φ w Rl) (h : GT X (Γ.set i (.r Rl)) e P) : GT X Γ e P := .mk fun σ H Hb hs Q A q =>
  h.run σ H _ _ Q (A.lend hΓ hR) fun v H' Hb' hs' s A' r => by
    obtain ⟨B, t, x⟩ := A.back hΓ s A'
    exact q v H' _ _ t B r
theorem go_lend (i : Nat) {w : V} {φ ψ : OO} {Rl : RR} (hΓ : Γ[i]? = some (.o w φ)) (hR : Rds φ w Rl) (h : GO X (Γ.set i (.r Rl)) e ψ) : GO X Γ e ψ := .mk fun σ H Hb hs Q A q =>
  h.run σ H _ _ Q (A.lend hΓ hR) fun v H' Hb' hs' h' s A' r z f => by
    obtain ⟨B, t, x⟩ := A.back hΓ s A'
    have hb : ∀ a o, hs i a = some o → Hb' a = some o := fun a o e => s.b a o (join_r (A.off i) a o e)
    refine q v H' _ _ h' t B (ψ.im x r) z fun a o e => ?_
    obtain ⟨f1, f2, f3⟩ := f a o e
    have n : hs i a = none := by
      cases q : hs i a with
      | none => rfl
      | some u => rw [hb a u q] at f1; cases f1
    refine ⟨?_, fun j => ?_, ?_⟩
    · rw [cut_n n]; exact f1
    · by_cases z : j = i
      · subst z; rw [putN_same]; exact n
      · rw [putN_ne z]; exact f2 j
    · rcases f3 with (⟨u, c⟩ | ⟨k, u, c⟩) | c
      · rcases join_c c with c | c
        · exact .inl (.inl ⟨u, c⟩)
        · exact .inl (.inr ⟨i, u, c⟩)
      · by_cases z : k = i
        · subst z; rw [putN_same] at c; cases c
        · rw [putN_ne z] at c; exact .inl (.inr ⟨k, u, c⟩)
      · exact .inr c
end
end G
namespace G
open PySem PySem.Spec PyProof.Rows L2
section
variable {X : Cx} {Γ : List Sl} {e a b : Expr} {es : List Expr} {R R' Ra Rb : RR} {rs : List RR} {pos : Pos}
theorem rv_ixL {k : Int} {n : Nat} (hk : ixN rs.length k = some n) (hr : rs[n]? = some R) : RV (rIxL X.K) (isLst X.K rs) (isInt k) R := fun x y Hb H Q s ⟨p, vs, h1, h2, h3⟩ h4 q => by
  obtain ⟨v, e, r⟩ := h3.get hr
  refine ⟨p, vs, k, v, h1, h4, same_sqL s h2, ?_, q v r⟩
  unfold atI
  rw [h3.len, hk]
  exact e
theorem rv_ixT {k : Int} {n : Nat} (hk : ixN rs.length k = some n) (hr : rs[n]? = some R) : RV (rIxT X.K) (isTup X.K rs) (isInt k) R := fun x y Hb H Q s ⟨p, vs, h1, h2, h3⟩ h4 q => by
  obtain ⟨v, e, r⟩ := h3.get hr
  refine ⟨p, vs, k, v, h1, h4, tx_sqT (tx_of s) h2, ?_, q v r⟩
  unfold atI
  rw [h3.len, hk]
  exact e
theorem ixN_of {n j : Nat} {k : Int} (hk : k = (j : Int)) (h : j < n) : ixN n k = some j := by
  unfold ixN
  subst hk
  rw [if_pos (Int.natCast_nonneg j), if_pos (by omega)]
  rfl
theorem lt_of_get {α : Type} {l : List α} {n : Nat} {x : α} (h : l[n]? = some x) : n < l.length := (List.getElem?_eq_some_iff.mp h).1
theorem ge_ixL {k : Int} (n : Nat) (ha : GE X Γ a (isLst X.K rs)) (hb : GE X Γ b (isInt k)) (hr : rs[n]? = some R := by rfl) (hk : k = (n : Int) := by rfl) (hs : PlainIx b := by exact fun _ _ => rfl) : GE X Γ (.Subscript a b pos) R :=
  ge_two (t := fun _ _ _ => True) (pe_ix ix_list pe_sem pe_sem hs) ha hb (rv_ixL (ixN_of hk (lt_of_get hr)) hr)
theorem ge_ixT {k : Int} (n : Nat) (ha : GE X Γ a (isTup X.K rs)) (hb : GE X Γ b (isInt k)) (hr : rs[n]? = some R := by rfl) (hk : k = (n : Int) := by rfl) (hs : PlainIx b := by exact fun _ _ => rfl) : GE X Γ (.Subscript a b pos) R :=
  ge_two (t := fun _ _ _ => True) (pe_ix ix_tup pe_sem pe_sem hs) ha hb (rv_ixT (ixN_of hk (lt_of_get hr)) hr)
/-- an index that is drawn -/
theorem ge_ixLx {P : Int → Prop} (ha : GE X Γ a (isLst X.K rs)) (hb : GE X Γ b (exR P isInt)) (h : ∀ k, P k → ∃ (n : Nat) (R' : RR), k = (n : Int) ∧ rs[n]? = some R' ∧ ∀ v H, R'.p v H → R.p v H) (hs : PlainIx b := by exact fun _ _ => rfl) : GE X Γ (.Subscript a b pos) R :=
  ge_two (t := fun _ _ _ => True) (pe_ix ix_list pe_sem pe_sem hs) ha hb (rv_exr fun k p => by
    obtain ⟨n, R', h1, h2, h3⟩ := h k p
    exact rv_conv (rv_ixL (ixN_of h1 (lt_of_get h2)) h2) h3)
def RC (r : List V → Hp → VK → Prop) (rs : List RR) (R : RR) : Prop := ∀ vs Hb H (Q : VK), Same Hb H → All2 rs vs Hb → (∀ z, R.p z Hb → Q z H) → r vs H Q
theorem ge_callB {id : String} {r : List V → Hp → VK → Prop} {x : Str} {p : Pos} (hc : CallR X (.builtin id) r) (hg : Gl X x) (hm : X.mg x = none) (hv : bootBuiltins x = some (.builtin id)) (ha : GA X Γ (e :: es) (rs.map .r)) (hr : RC r rs R)
    (hn : x ≠ "__name__" := by decide) (hdb : (x == ("__debug__" : Str)) = false := by decide) (h1 : starEach (e :: es) X.env = (false, eval e X.env) :: starEach es X.env := by rfl) (h2 : (backTo pos (starEach es X.env)).any (·.1) = false := by rfl) : GE X Γ (.Call (.Name x p) (e :: es) [] pos) R := .mk fun σ H Hb hs Q A q =>
  we_of (pe_callB hc hg hm hv pa_sem hn hdb h1 h2) (ha.run σ H Hb hs _ A fun vs H1 Hb1 hs1 s1 A1 r1 => hr vs Hb1 H1 Q A1.same (aks_all r1) fun z hz => q z H1 Hb1 hs1 s1 A1 hz)
theorem all2_1 {r : RR} {vs : List V} {H : Hp} (h : All2 [r] vs H) : ∃ v, vs = [v] ∧ r.p v H := by
  match vs, h with
  | [v], h => exact ⟨v, rfl, h.1⟩
theorem all2_2 {r r' : RR} {vs : List V} {H : Hp} (h : All2 [r, r'] vs H) : ∃ v w, vs = [v, w] ∧ r.p v H ∧ r'.p w H := by
  match vs, h with
  | [v, w], h => exact ⟨v, w, rfl, h.1, h.2.1⟩
theorem ge_len {p : Pos} {n : Nat} (hm : X.mg "len" = none) (ha : GE X Γ a (isLst X.K rs)) (hn : rs.length = n := by rfl) (hg : Gl X "len" := by rfl) (h1 : starEach [a] X.env = (false, eval a X.env) :: starEach [] X.env := by rfl) : GE X Γ (.Call (.Name "len" p) [a] [] pos) (isInt n) :=
  ge_callB (rs := [isLst X.K rs]) call_len_seq hg hm PySem.boot_len (ga_cons ha ga_nil h1) (fun vs Hb H Q s h q => by
    obtain ⟨v, rfl, a, ws, rfl, h2, h3⟩ := all2_1 h
    exact ⟨a, ws, rfl, .inl (same_sqL s h2), by rw [h3.len, hn]; exact q _ rfl⟩) (h1 := h1)
theorem ge_lenT {p : Pos} {n : Nat} (hm : X.mg "len" = none) (ha : GE X Γ a (isTup X.K rs)) (hn : rs.length = n := by rfl) (hg : Gl X "len" := by rfl) (h1 : starEach [a] X.env = (false, eval a X.env) :: starEach [] X.env := by rfl) : GE X Γ (.Call (.Name "len" p) [a] [] pos) (isInt n) :=
  ge_callB (rs := [isTup X.K rs]) call_len_seq hg hm PySem.boot_len (ga_cons ha ga_nil h1) (fun vs Hb H Q s h q => by
    obtain ⟨v, rfl, a, ws, rfl, h2, h3⟩ := all2_1 h
    exact ⟨a, ws, rfl, .inr (tx_sqT (tx_of s) h2), by rw [h3.len, hn]; exact q _ rfl⟩) (h1 := h1)
end
def FS {γ : Type} (P : γ → Prop) (pre outs : γ → List Sl) (res : γ → Sl) : Sp := fun vs H Q _ => ∃ g Hb hs, P g ∧ At (pre g) Hb H (vs.map some) hs ∧
  ∀ v H' Hb' hs', Step Hb H hs Hb' H' hs' → At (outs g ++ [res g]) Hb' H' (vs.map some ++ [some v]) hs' → Q v H'
def preOf (Γ : List Sl) : List AK → List Sl
  | [] => []
  | .r R :: ks => .r R :: preOf Γ ks
  | .o i :: ks => Γ.getD i .u :: preOf Γ ks
def idx : List AK → Nat → Option Nat
  | [], _ => none
  | .r _ :: ks, j => (idx ks j).map (· + 1)
  | .o i :: ks, j => if i = j then some 0 else (idx ks j).map (· + 1)
def ownsOf : List AK → List Nat
  | [] => []
  | .r _ :: ks => ownsOf ks
  | .o i :: ks => i :: ownsOf ks
def nodupB : List Nat → Bool
  | [] => true
  | x :: xs => !xs.contains x && nodupB xs
def upOuts (Γ : List Sl) : List AK → List Sl → List Sl
  | [], _ => Γ
  | .r _ :: ks, ss => upOuts Γ ks ss.tail
  | .o i :: ks, ss => (upOuts Γ ks ss.tail).set i (ss.headD .u)
def hsOf (hs : Nat → Hp) : List AK → Nat → Hp
  | [], _ => no
  | .r _ :: _, 0 => no
  | .o i :: _, 0 => hs i
  | _ :: ks, k + 1 => hsOf hs ks k
def hsBack (ks : List AK) (hs hs' : Nat → Hp) : Nat → Hp := fun j => match idx ks j with | some k => hs' k | none => hs j
theorem hsOf_some {hs : Nat → Hp} : ∀ {ks : List AK} {k : Nat} {a : Addr} {o : HO}, hsOf hs ks k a = some o → ∃ i, ks[k]? = some (.o i) ∧ hs i a = some o
  | [], k, a, o, e => by cases k <;> cases e
  | .r _ :: ks, 0, a, o, e => by cases e
  | .o i :: ks, 0, a, o, e => ⟨i, rfl, e⟩
  | .r _ :: ks, k + 1, a, o, e => by
    obtain ⟨i, h1, h2⟩ := hsOf_some (ks := ks) (k := k) e
    exact ⟨i, by simpa using h1, h2⟩
  | .o _ :: ks, k + 1, a, o, e => by
    obtain ⟨i, h1, h2⟩ := hsOf_some (ks := ks) (k := k) e
    exact ⟨i, by simpa using h1, h2⟩
theorem mem_owns : ∀ {ks : List AK} {k i : Nat}, ks[k]? = some (.o i) → i ∈ ownsOf ks
  | [], k, i, e => by simp at e
  | .r _ :: ks, 0, i, e => by simp at e
  | .o j :: ks, 0, i, e => by
    have e' := Option.some.inj e
    cases e'
    exact List.mem_cons_self
  | .r _ :: ks, k + 1, i, e => mem_owns (ks := ks) (k := k) (by simpa using e)
  | .o _ :: ks, k + 1, i, e => List.mem_cons_of_mem _ (mem_owns (ks := ks) (k := k) (by simpa using e))
theorem nodupB_cons {x : Nat} {xs : List Nat} (h : nodupB (x :: xs) = true) : x ∉ xs ∧ nodupB xs = true := by
  have h' : (!xs.contains x && nodupB xs) = true := h
  rw [Bool.and_eq_true] at h'
  refine ⟨fun m => ?_, h'.2⟩
  have := h'.1
  rw [List.contains_iff_mem.mpr m] at this
  cases this
theorem own_inj : ∀ {ks : List AK} {k k' i : Nat}, nodupB (ownsOf ks) = true → ks[k]? = some (.o i) → ks[k']? = some (.o i) → k = k'
  | [], _, _, _, _, e, _ => by simp at e
  | .r _ :: ks, 0, _, _, _, e, _ => by simp at e
  | .r _ :: ks, _ + 1, 0, _, _, _, e => by simp at e
  | .r _ :: ks, k + 1, k' + 1, i, n, e, e' => by rw [own_inj (ks := ks) (k := k) (k' := k') (i := i) n (by simpa using e) (by simpa using e')]
  | .o j :: ks, 0, 0, _, _, _, _ => rfl
  | .o j :: ks, 0, k' + 1, i, n, e, e' => by
    cases Option.some.inj e
    exact absurd (mem_owns (ks := ks) (k := k') (by simpa using e')) (nodupB_cons n).1
  | .o j :: ks, k + 1, 0, i, n, e, e' => by
    cases Option.some.inj e'
    exact absurd (mem_owns (ks := ks) (k := k) (by simpa using e)) (nodupB_cons n).1
  | .o j :: ks, k + 1, k' + 1, i, n, e, e' => by rw [own_inj (ks := ks) (k := k) (k' := k') (i := i) (nodupB_cons n).2 (by simpa using e) (by simpa using e')]
theorem idx_some : ∀ {ks : List AK} {j k : Nat}, idx ks j = some k → ks[k]? = some (.o j)
  | [], j, k, e => by cases e
  | .r _ :: ks, j, k, e => by
    have e' : (idx ks j).map (· + 1) = some k := e
    cases q : idx ks j with
    | none => rw [q] at e'; cases e'
    | some m =>
      rw [q] at e'
      have e2 : m + 1 = k := Option.some.inj e'
      subst e2
      have := idx_some (ks := ks) q
      simpa using this
  | .o i :: ks, j, k, e => by
    have e' : (if i = j then some 0 else (idx ks j).map (· + 1)) = some k := e
    split at e'
    · rename_i z
      have e2 : 0 = k := Option.some.inj e'
      subst e2; subst z
      rfl
    · cases q : idx ks j with
      | none => rw [q] at e'; cases e'
      | some m =>
        rw [q] at e'
        have e2 : m + 1 = k := Option.some.inj e'
        subst e2
        have := idx_some (ks := ks) q
        simpa using this
theorem idx_of : ∀ {ks : List AK} {j k : Nat}, nodupB (ownsOf ks) = true → ks[k]? = some (.o j) → idx ks j = some k := fun {ks j k} n e => by
  have h : ∀ (ks : List AK) (k : Nat), ks[k]? = some (.o j) → ∃ m, idx ks j = some m := by
    intro ks
    induction ks with
    | nil => intro k e; simp at e
    | cons x ks ih =>
      intro k e
      cases x with
      | r R =>
        cases k with
        | zero => simp at e
        | succ k =>
          obtain ⟨m, h⟩ := ih k (by simpa using e)
          exact ⟨m + 1, by show (idx ks j).map (· + 1) = some (m + 1); rw [h]; rfl⟩
      | o i =>
        by_cases z : i = j
        · exact ⟨0, by show (if i = j then some 0 else _) = _; rw [if_pos z]⟩
        · cases k with
          | zero => exact absurd (by cases Option.some.inj e; rfl) z
          | succ k =>
            obtain ⟨m, h⟩ := ih k (by simpa using e)
            exact ⟨m + 1, by show (if i = j then some 0 else (idx ks j).map (· + 1)) = _; rw [if_neg z, h]; rfl⟩
  obtain ⟨m, h⟩ := h ks k e
  rw [h, own_inj n e (idx_some h)]
section
variable {Γ : List Sl} {Hb H Hb' H' : Hp} {σ : L2.St} {hs hs' : Nat → Hp} {ks : List AK} {vs : List V} {outs : List Sl} {s : Sl} {v : V}
theorem upOuts_len : ∀ {ks : List AK} {ss : List Sl}, (upOuts Γ ks ss).length = Γ.length
  | [], _ => rfl
  | .r _ :: ks, ss => upOuts_len (ks := ks)
  | .o i :: ks, ss => by
    show ((upOuts Γ ks ss.tail).set i _).length = _
    rw [List.length_set]; exact upOuts_len (ks := ks)
theorem upOuts_get : ∀ {ks : List AK} {ss : List Sl} {j : Nat} {t : Sl}, ss.length = ks.length → (upOuts Γ ks ss)[j]? = some t → (∃ k, idx ks j = some k ∧ ss[k]? = some t) ∨ (idx ks j = none ∧ Γ[j]? = some t)
  | [], ss, j, t, _, e => .inr ⟨rfl, e⟩
  | .r _ :: ks, [], j, t, hl, e => by cases hl
  | .o _ :: ks, [], j, t, hl, e => by cases hl
  | .r _ :: ks, x :: ss, j, t, hl, e => by
    rcases upOuts_get (ks := ks) (ss := ss) (Nat.succ.inj hl) e with ⟨k, h1, h2⟩ | ⟨h1, h2⟩
    · exact .inl ⟨k + 1, by show (idx ks j).map (· + 1) = _; rw [h1]; rfl, by simpa using h2⟩
    · exact .inr ⟨by show (idx ks j).map (· + 1) = _; rw [h1]; rfl, h2⟩
  | .o i :: ks, x :: ss, j, t, hl, e => by
    have e' : ((upOuts Γ ks ss).set i x)[j]? = some t := e
    by_cases z : i = j
    · subst z
      have hlt : i < (upOuts Γ ks ss).length := by
        have := lt_of_get e'
        rwa [List.length_set] at this
      rw [List.getElem?_set_self hlt] at e'
      exact .inl ⟨0, by show (if i = i then some 0 else _) = _; rw [if_pos rfl], e'⟩
    · rw [List.getElem?_set_ne z] at e'
      rcases upOuts_get (ks := ks) (ss := ss) (Nat.succ.inj hl) e' with ⟨k, h1, h2⟩ | ⟨h1, h2⟩
      · exact .inl ⟨k + 1, by show (if i = j then some 0 else (idx ks j).map (· + 1)) = _; rw [if_neg z, h1]; rfl, by simpa using h2⟩
      · exact .inr ⟨by show (if i = j then some 0 else (idx ks j).map (· + 1)) = _; rw [if_neg z, h1]; rfl, h2⟩
theorem aks_len : ∀ {ks : List AK} {vs : List V}, AksAt σ Hb ks vs → vs.length = ks.length
  | [], [], _ => rfl
  | .r _ :: ks, _ :: vs, h => by rw [List.length_cons, List.length_cons, aks_len h.2]
  | .o _ :: ks, _ :: vs, h => by rw [List.length_cons, List.length_cons, aks_len h.2]
theorem aks_own : ∀ {ks : List AK} {vs : List V} {k i : Nat}, AksAt σ Hb ks vs → ks[k]? = some (.o i) → ∃ v, vs[k]? = some v ∧ σ[i]? = some (some v)
  | [], [], _, _, _, e => by simp at e
  | .r _ :: ks, _ :: vs, 0, i, h, e => by simp at e
  | .o j :: ks, v :: vs, 0, i, h, e => by cases Option.some.inj e; exact ⟨v, rfl, h.1⟩
  | .r _ :: ks, _ :: vs, k + 1, i, h, e => by
    obtain ⟨v, h1, h2⟩ := aks_own (ks := ks) (vs := vs) h.2 (k := k) (by simpa using e)
    exact ⟨v, by simpa using h1, h2⟩
  | .o _ :: ks, _ :: vs, k + 1, i, h, e => by
    obtain ⟨v, h1, h2⟩ := aks_own (ks := ks) (vs := vs) h.2 (k := k) (by simpa using e)
    exact ⟨v, by simpa using h1, h2⟩
theorem preOf_len : ∀ {ks : List AK}, (preOf Γ ks).length = ks.length
  | [] => rfl
  | .r _ :: ks => by show (preOf Γ ks).length + 1 = _; rw [preOf_len]; rfl
  | .o _ :: ks => by show (preOf Γ ks).length + 1 = _; rw [preOf_len]; rfl
theorem pre_slots (A : At Γ Hb H σ hs) : ∀ {ks : List AK} {vs : List V} {k : Nat} {t : Sl}, AksAt σ Hb ks vs → (preOf Γ ks)[k]? = some t → SlAt t (vs.map some)[k]? Hb (hsOf hs ks k)
  | [], [], k, t, _, e => by simp [preOf] at e
  | .r R :: ks, v :: vs, 0, t, h, e => by cases Option.some.inj e; exact ⟨v, rfl, h.1⟩
  | .o i :: ks, v :: vs, 0, t, h, e => by
    have e' : Γ.getD i .u = t := Option.some.inj e
    show SlAt t (some (some v)) Hb (hs i)
    rw [← h.1]
    rw [List.getD_eq_getElem?_getD] at e'
    cases q : Γ[i]? with
    | none => rw [q] at e'; subst e'; trivial
    | some u => rw [q] at e'; subst e'; exact A.sl i _ q
  | .r _ :: ks, _ :: vs, k + 1, t, h, e => pre_slots A (ks := ks) (vs := vs) (k := k) h.2 (by simpa [preOf] using e)
  | .o _ :: ks, _ :: vs, k + 1, t, h, e => pre_slots A (ks := ks) (vs := vs) (k := k) h.2 (by simpa [preOf] using e)
/-- the state at a callee's entry -/
theorem At.call (A : At Γ Hb H σ hs) (nd : nodupB (ownsOf ks) = true) (hk : AksAt σ Hb ks vs) : At (preOf Γ ks) Hb H (vs.map some) (hsOf hs ks) := by
  refine ⟨by rw [List.length_map, preOf_len, aks_len hk], A.same, fun k a o e => ?_, fun k a o e => ?_, fun k k' a o e n => ?_, fun k t e => pre_slots A hk e⟩
  · obtain ⟨i, _, e⟩ := hsOf_some e; exact A.sub i a o e
  · obtain ⟨i, _, e⟩ := hsOf_some e; exact A.off i a o e
  · obtain ⟨i, h1, e⟩ := hsOf_some e
    cases q : hsOf hs ks k' a with
    | none => rfl
    | some u =>
      obtain ⟨i', h2, e'⟩ := hsOf_some q
      by_cases z : i = i'
      · subst z; exact absurd (own_inj nd h1 h2) n
      · rw [A.dis i i' a o e z] at e'; cases e'
/-- .. and behind it -/
theorem At.ret (A : At Γ Hb H σ hs) (nd : nodupB (ownsOf ks) = true) (hk : AksAt σ Hb ks vs) (hl : outs.length = ks.length) (st : Step Hb H (hsOf hs ks) Hb' H' hs') (A' : At (outs ++ [s]) Hb' H' (vs.map some ++ [some v]) hs') :
    At (upOuts Γ ks outs) Hb' H' σ (hsBack ks hs hs') ∧ Step Hb H hs Hb' H' (hsBack ks hs hs') ∧ SlAt s (some (some v)) Hb' (hs' ks.length) ∧ Same (hs' ks.length) H' ∧
      ∀ a o, hs' ks.length a = some o → Hb' a = none ∧ (∀ i, hsBack ks hs hs' i a = none) ∧ (Cl Hb hs a ∨ H a = none) := by
  have vl := aks_len hk
  -- a cell of ours that the callee did not get is as it was
  have keep : ∀ j a o, idx ks j = none → hs j a = some o → H' a = some o ∧ Hb' a = none ∧ ∀ k, hs' k a = none := by
    intro j a o hj e
    have n : ∀ k, hsOf hs ks k a = none := fun k => by
      cases q : hsOf hs ks k a with
      | none => rfl
      | some u =>
        obtain ⟨i, h1, e'⟩ := hsOf_some q
        have z : j ≠ i := fun z => by subst z; rw [idx_of nd h1] at hj; cases hj
        rw [A.dis j i a o e z] at e'; cases e'
    have ncl : ¬ Cl Hb' hs' a := fun c => by
      rcases st.c a c with (⟨u, c⟩ | ⟨k, u, c⟩) | c
      · rw [A.off j a o e] at c; cases c
      · rw [n k] at c; cases c
      · rw [A.sub j a o e] at c; cases c
    refine ⟨st.k a o (A.sub j a o e) n, ?_, fun k => ?_⟩
    · cases q : Hb' a with
      | none => rfl
      | some u => exact absurd (.inl ⟨u, q⟩) ncl
    · cases q : hs' k a with
      | none => rfl
      | some u => exact absurd (.inr ⟨k, u, q⟩) ncl
  have hb_some : ∀ {j k : Nat}, idx ks j = some k → hsBack ks hs hs' j = hs' k := fun {j k} h => by show (match idx ks j with | some k => hs' k | none => hs j) = _; rw [h]
  have hb_none : ∀ {j : Nat}, idx ks j = none → hsBack ks hs hs' j = hs j := fun {j} h => by show (match idx ks j with | some k => hs' k | none => hs j) = _; rw [h]
  have klt : ∀ {j k : Nat}, idx ks j = some k → k < ks.length := fun h => lt_of_get (idx_some h)
  have cl : ∀ a, Cl Hb' hs' a → Cl Hb hs a ∨ H a = none := fun a c => by
    rcases st.c a c with (c | ⟨k, u, c⟩) | c
    · exact .inl (.inl c)
    · obtain ⟨i, _, e⟩ := hsOf_some c; exact .inl (.inr ⟨i, u, e⟩)
    · exact .inr c
  refine ⟨⟨by rw [A.len, upOuts_len], A'.same, fun j a o e => ?_, fun j a o e => ?_, fun i j a o e n => ?_, fun j t e => ?_⟩, ⟨st.b, fun a o e n => ?_, fun a c => ?_⟩, ?_, A'.sub _, fun a o e => ⟨A'.off _ a o e, fun i => ?_, cl a (.inr ⟨_, o, e⟩)⟩⟩
  · cases q : idx ks j with
    | some k => rw [hb_some q] at e; exact A'.sub k a o e
    | none => rw [hb_none q] at e; exact (keep j a o q e).1
  · cases q : idx ks j with
    | some k => rw [hb_some q] at e; exact A'.off k a o e
    | none => rw [hb_none q] at e; exact (keep j a o q e).2.1
  · cases q : idx ks i with
    | some k =>
      rw [hb_some q] at e
      cases q2 : idx ks j with
      | some k2 =>
        rw [hb_some q2]
        refine A'.dis k k2 a o e fun z => ?_
        subst z
        have h1 := idx_some q
        rw [idx_some q2] at h1
        exact n (by cases Option.some.inj h1; rfl)
      | none =>
        rw [hb_none q2]
        cases w : hs j a with
        | none => rfl
        | some u => rw [(keep j a u q2 w).2.2 k] at e; cases e
    | none =>
      rw [hb_none q] at e
      cases q2 : idx ks j with
      | some k2 => rw [hb_some q2]; exact (keep i a o q e).2.2 k2
      | none => rw [hb_none q2]; exact A.dis i j a o e n
  · rcases upOuts_get hl e with ⟨k, h1, h2⟩ | ⟨h1, h2⟩
    · rw [hb_some h1]
      have kl := klt h1
      have x := A'.sl k t (by rw [List.getElem?_append_left (by rw [hl]; exact kl)]; exact h2)
      obtain ⟨w, e1, e2⟩ := aks_own hk (idx_some h1)
      rw [List.getElem?_append_left (by rw [List.length_map, vl]; exact kl), List.getElem?_map, e1] at x
      rw [e2]; exact x
    · rw [hb_none h1]
      exact (A.sl j t h2).mono st.b
  · exact st.k a o e fun k => by
      cases q : hsOf hs ks k a with
      | none => rfl
      | some u => obtain ⟨i, _, e'⟩ := hsOf_some q; rw [n i] at e'; cases e'
  · rcases c with c | ⟨j, o, e⟩
    · exact cl a (.inl c)
    · cases q : idx ks j with
      | some k => rw [hb_some q] at e; exact cl a (.inr ⟨k, o, e⟩)
      | none => rw [hb_none q] at e; exact .inl (.inr ⟨j, o, e⟩)
  · have x := A'.sl ks.length s (by rw [← hl, List.getElem?_append_right (Nat.le_refl _)]; simp)
    rw [show ks.length = (vs.map some).length by rw [List.length_map, vl], List.getElem?_append_right (Nat.le_refl _)] at x
    rw [List.length_map, vl] at x
    simpa using x
  · cases q : idx ks i with
    | some k => rw [hb_some q]; exact A'.dis _ k a o e (Nat.ne_of_gt (klt q))
    | none =>
      rw [hb_none q]
      cases w : hs i a with
      | none => rfl
      | some u => rw [(keep i a u q w).2.2 _] at e; cases e
end
section
variable {X : Cx} {Γ : List Sl} {e a b : Expr} {es : List Expr} {R : RR} {pos p : Pos} {γ : Type} {P : γ → Prop} {pre outs : γ → List Sl} {res : γ → Sl} {k : Nat} {f : Addr} {fd : FuncData} {ps : List Str} {CX : CXT} {x : Str} {ks : List AK} {E : XK}
/-- a call of a def, the owned arguments keeping their promises -/
theorem ge_call (g : γ) (F : FnOk X.prog X.w X.K X.mg X.base CX k f fd ps (FS P pre outs res)) (hr : Room k X.A) (hm : X.mg x = some (.ref f)) (hk : PySem.W.keepIn X.K (.ref f) = true) (hb : Binds X.K fd ps []) (hP : P g) (ha : GA X Γ (e :: es) ks)
    (hpre : pre g = preOf Γ ks := by rfl) (hres : res g = .r R := by rfl) (hout : upOuts Γ ks (outs g) = Γ := by rfl) (hl : (outs g).length = ks.length := by rfl) (nd : nodupB (ownsOf ks) = true := by rfl) (hg : Gl X x := by rfl) (hx : Passes CX X E := by exact pass0)
    (hdb : (x == ("__debug__" : Str)) = false := by decide) (he : starEach (e :: es) X.env = (false, eval e X.env) :: starEach es X.env := by rfl) (hpl : (backTo pos (starEach es X.env)).any (·.1) = false := by rfl) : GE X Γ (.Call (.Name x p) (e :: es) [] pos) R := .mk fun σ H Hb hs Q A q => by
  refine we_of (pe_call F hr hg hm hk hb .nil hx pa_sem hdb he hpl) (ha.run σ H Hb hs _ A fun vs H1 Hb1 hs1 s1 A1 r1 => ?_)
  rw [List.append_nil]
  refine ⟨g, Hb1, _, hP, by rw [hpre]; exact A1.call nd r1, fun v H2 Hb2 hs2 s2 A2 => ?_⟩
  obtain ⟨A3, s3, r3, _⟩ := A1.ret nd r1 hl s2 A2
  rw [hout] at A3
  rw [hres] at r3
  obtain ⟨w, e1, r3⟩ := r3
  cases e1
  exact q v H2 Hb2 _ (A1.trans s1 s3) A3 r3
theorem go_call {ψ : OO} (g : γ) (F : FnOk X.prog X.w X.K X.mg X.base CX k f fd ps (FS P pre outs res)) (hr : Room k X.A) (hm : X.mg x = some (.ref f)) (hk : PySem.W.keepIn X.K (.ref f) = true) (hb : Binds X.K fd ps []) (hP : P g) (ha : GA X Γ (e :: es) ks)
    (hpre : pre g = preOf Γ ks := by rfl) (hres : res g = .x ψ := by rfl) (hout : upOuts Γ ks (outs g) = Γ := by rfl) (hl : (outs g).length = ks.length := by rfl) (nd : nodupB (ownsOf ks) = true := by rfl) (hg : Gl X x := by rfl) (hx : Passes CX X E := by exact pass0)
    (hdb : (x == ("__debug__" : Str)) = false := by decide) (he : starEach (e :: es) X.env = (false, eval e X.env) :: starEach es X.env := by rfl) (hpl : (backTo pos (starEach es X.env)).any (·.1) = false := by rfl) : GO X Γ (.Call (.Name x p) (e :: es) [] pos) ψ := .mk fun σ H Hb hs Q A q => by
  refine we_of (pe_call F hr hg hm hk hb .nil hx pa_sem hdb he hpl) (ha.run σ H Hb hs _ A fun vs H1 Hb1 hs1 s1 A1 r1 => ?_)
  rw [List.append_nil]
  refine ⟨g, Hb1, _, hP, by rw [hpre]; exact A1.call nd r1, fun v H2 Hb2 hs2 s2 A2 => ?_⟩
  obtain ⟨A3, s3, r3, z3, f3⟩ := A1.ret nd r1 hl s2 A2
  rw [hout] at A3
  rw [hres] at r3
  obtain ⟨w, e1, r3⟩ := r3
  cases e1
  refine q v H2 Hb2 _ _ (A1.trans s1 s3) A3 r3 z3 fun a o e => ?_
  obtain ⟨f1, f2, f4⟩ := f3 a o e
  refine ⟨f1, f2, ?_⟩
  rcases f4 with c | c
  · rcases s1.c a c with c | c
    · exact .inl c
    · exact .inr c
  · cases q : H a with
    | none => exact .inr rfl
    | some u =>
      by_cases n : ∀ i, hs i a = none
      · rw [s1.k a u q n] at c; cases c
      · obtain ⟨i, hi⟩ := Classical.not_forall.mp n
        cases z : hs i a with
        | none => exact absurd z hi
        | some t => exact .inl (.inr ⟨i, t, z⟩)
end
end G
namespace G
open PySem PySem.Spec PyProof.Rows L2
/-- what is wanted of what is handed back, of what is raised -/
structure Rtn where
  r : V → Hp → Hp → (Nat → Hp) → Prop
  x : Value → Option Addr → Hp → Hp → (Nat → Hp) → Prop
structure GS (X : Cx) (Γ : List Sl) (sts : List Stmt) (N : List Sl → Prop) (Rt : Rtn) : Prop where
  run : ∀ (σ : L2.St) (H Hb : Hp) (hs : Nat → Hp) (D : Ends), At Γ Hb H σ hs → (∀ Γ' σ' H' Hb' hs', N Γ' → Step Hb H hs Hb' H' hs' → At Γ' Hb' H' σ' hs' → D.nx σ' H') →
    (∀ v H' Hb' hs', Step Hb H hs Hb' H' hs' → Rt.r v H' Hb' hs' → D.rt v H') → ∀ W, Takes X W → (∀ cls d σ' H' Hb' hs', Step Hb H hs Hb' H' hs' → Rt.x cls d H' Hb' hs' → W cls d σ' H') → WSs X sts D σ H
structure G1S (X : Cx) (Γ : List Sl) (st : Stmt) (N : List Sl → Prop) (Rt : Rtn) : Prop where
  run : ∀ (σ : L2.St) (H Hb : Hp) (hs : Nat → Hp) (D : Ends), At Γ Hb H σ hs → (∀ Γ' σ' H' Hb' hs', N Γ' → Step Hb H hs Hb' H' hs' → At Γ' Hb' H' σ' hs' → D.nx σ' H') →
    (∀ v H' Hb' hs', Step Hb H hs Hb' H' hs' → Rt.r v H' Hb' hs' → D.rt v H') → ∀ W, Takes X W → (∀ cls d σ' H' Hb' hs', Step Hb H hs Hb' H' hs' → Rt.x cls d H' Hb' hs' → W cls d σ' H') → WS X st D σ H
section
variable {X : Cx} {Γ Γ' : List Sl} {e a b : Expr} {es : List Expr} {R R' Ra Rb : RR} {rs : List RR} {pos pos' : Pos} {N N1 N' : List Sl → Prop} {Rt Rt' : Rtn} {st : Stmt} {rest body s1 s2 : List Stmt} {P : Bool → Prop}
variable {Hb H : Hp} {σ : L2.St} {hs : Nat → Hp}
theorem gs_nil (h : N Γ) : GS X Γ [] N Rt := .mk fun σ H Hb hs D A q r W tk xc => wss_of pss_nil (q Γ σ H Hb hs h Step.refl A)
theorem At.set (A : At Γ Hb H σ hs) {i : Nat} {v : V} (r : R.p v Hb) : At (Γ.set i (.r R)) Hb H (σ.set i (some v)) hs := by
  refine ⟨by rw [List.length_set, List.length_set, A.len], A.same, A.sub, A.off, A.dis, fun j s q => ?_⟩
  by_cases z : i = j
  · subst z
    have hl : i < Γ.length := by have := lt_of_get q; rwa [List.length_set] at this
    rw [List.getElem?_set_self hl] at q
    cases q
    rw [List.getElem?_set_self (by rw [A.len]; exact hl)]
    exact ⟨v, rfl, r⟩
  · rw [List.getElem?_set_ne z] at q ⊢
    exact A.sl j s q
theorem At.setO (A : At Γ Hb H σ hs) {i : Nat} {v : V} {φ : OO} {h : Hp} (r : φ.p v Hb h) (z : Same h H) (f : ∀ a o, h a = some o → Hb a = none ∧ ∀ i, hs i a = none) : At (Γ.set i (.o v φ)) Hb H (σ.set i (some v)) (putN hs i h) := by
  refine ⟨by rw [List.length_set, List.length_set, A.len], A.same, fun j a o e => ?_, fun j a o e => ?_, fun j k a o e n => ?_, fun j s q => ?_⟩
  · by_cases w : j = i
    · subst w; rw [putN_same] at e; exact z a o e
    · rw [putN_ne w] at e; exact A.sub j a o e
  · by_cases w : j = i
    · subst w; rw [putN_same] at e; exact (f a o e).1
    · rw [putN_ne w] at e; exact A.off j a o e
  · by_cases w : j = i
    · subst w; rw [putN_same] at e; rw [putN_ne (Ne.symm n)]; exact (f a o e).2 k
    · rw [putN_ne w] at e
      by_cases w2 : k = i
      · subst w2
        rw [putN_same]
        cases t : h a with
        | none => rfl
        | some u => rw [(f a u t).2 j] at e; cases e
      · rw [putN_ne w2]; exact A.dis j k a o e n
  · by_cases w : i = j
    · subst w
      have hl : i < Γ.length := by have := lt_of_get q; rwa [List.length_set] at this
      rw [List.getElem?_set_self hl] at q
      cases q
      rw [List.getElem?_set_self (by rw [A.len]; exact hl), putN_same]
      exact ⟨rfl, r⟩
    · rw [List.getElem?_set_ne w] at q ⊢
      rw [putN_ne (Ne.symm w)]
      exact A.sl j s q
theorem step_putO {Hb' H' : Hp} {hs' : Nat → Hp} {i : Nat} {h : Hp} (s : Step Hb H hs Hb' H' hs') (f : ∀ a o, h a = some o → Cl Hb hs a ∨ H a = none) : Step Hb H hs Hb' H' (putN hs' i h) := ⟨s.b, s.k, fun a c => by
  rcases c with c | ⟨j, o, c⟩
  · exact s.c a (.inl c)
  · by_cases w : j = i
    · subst w; rw [putN_same] at c; exact f a o c
    · rw [putN_ne w] at c; exact s.c a (.inr ⟨j, o, c⟩)⟩
/-- a weaker state -/
theorem At.weak (A : At Γ Hb H σ hs) (hl : Γ'.length = Γ.length) (h : ∀ (i : Nat) (s : Sl), Γ'[i]? = some s → Γ[i]? = some s ∨ s = Sl.u) : At Γ' Hb H σ hs := ⟨by rw [A.len, hl], A.same, A.sub, A.off, A.dis, fun i s q => by
  rcases h i s q with h | rfl
  · exact A.sl i s h
  · trivial⟩
theorem At.drop (A : At Γ Hb H σ hs) (i : Nat) : At (Γ.set i .u) Hb H σ hs := A.weak (List.length_set) fun j s q => by
  by_cases z : i = j
  · subst z
    have hl : i < Γ.length := by have := lt_of_get q; rwa [List.length_set] at this
    rw [List.getElem?_set_self hl] at q
    exact .inr (Option.some.inj q).symm
  · rw [List.getElem?_set_ne z] at q; exact .inl q
theorem gs_drop (i : Nat) (h : GS X (Γ.set i .u) rest N Rt) : GS X Γ rest N Rt := .mk fun σ H Hb hs D A q r W tk xc => h.run σ H Hb hs D (A.drop i) q r W tk xc
section
variable {i : Nat} {x : Str}
theorem gs_set (i : Nat) (he : GE X Γ e R) (hr : GS X (Γ.set i (.r R)) rest N Rt) (hN : X.N.Nodup) (hi : X.N[i]? = some x := by rfl) (hx : Loc X.env.scope x := by first | exact Or.inl rfl | exact Or.inr rfl) (hw : swapsWith e (some (.Name x pos')) pos.line X.env = pure false := by rfl)
    (hf : X.fn x = true ∨ X.env.scope.names.lookup x = some .local := by first | exact .inl rfl | exact .inr rfl) : GS X Γ (.Assign [.Name x pos'] e pos :: rest) N Rt := .mk fun σ H Hb hs D A q r W tk xc => by
  refine wss_of (pss_cons (ps_set hN hi hx pe_sem hw hf) pss_sem) (he.run σ H Hb hs _ A fun v H1 Hb1 hs1 s1 A1 r1 => ?_)
  exact hr.run _ H1 Hb1 hs1 D (A1.set r1) (fun Γ2 σ2 H2 Hb2 hs2 n2 s2 A2 => q Γ2 σ2 H2 Hb2 hs2 n2 (A1.trans s1 s2) A2) (fun v H2 Hb2 hs2 s2 r2 => r v H2 Hb2 hs2 (A1.trans s1 s2) r2) W tk (fun c9 d9 σ9 H2 Hb2 hs2 s2 x9 => xc c9 d9 σ9 H2 Hb2 hs2 (A1.trans s1 s2) x9)
theorem gs_setx {α : Type} {P : α → Prop} {c : α → RR} (i : Nat) (he : GE X Γ e (exR P c)) (hr : ∀ y, P y → GS X (Γ.set i (.r (c y))) rest N Rt) (hN : X.N.Nodup) (hi : X.N[i]? = some x := by rfl) (hx : Loc X.env.scope x := by first | exact Or.inl rfl | exact Or.inr rfl) (hw : swapsWith e (some (.Name x pos')) pos.line X.env = pure false := by rfl)
    (hf : X.fn x = true ∨ X.env.scope.names.lookup x = some .local := by first | exact .inl rfl | exact .inr rfl) : GS X Γ (.Assign [.Name x pos'] e pos :: rest) N Rt := .mk fun σ H Hb hs D A q r W tk xc => by
  refine wss_of (pss_cons (ps_set hN hi hx pe_sem hw hf) pss_sem) (he.run σ H Hb hs _ A fun v H1 Hb1 hs1 s1 A1 r1 => ?_)
  obtain ⟨y, p, r1⟩ := r1
  exact (hr y p).run _ H1 Hb1 hs1 D (A1.set r1) (fun Γ2 σ2 H2 Hb2 hs2 n2 s2 A2 => q Γ2 σ2 H2 Hb2 hs2 n2 (A1.trans s1 s2) A2) (fun v H2 Hb2 hs2 s2 r2 => r v H2 Hb2 hs2 (A1.trans s1 s2) r2) W tk (fun c9 d9 σ9 H2 Hb2 hs2 s2 x9 => xc c9 d9 σ9 H2 Hb2 hs2 (A1.trans s1 s2) x9)
theorem gs_setO {φ : OO} (i : Nat) (he : GO X Γ e φ) (hr : ∀ w, GS X (Γ.set i (.o w φ)) rest N Rt) (hN : X.N.Nodup) (hi : X.N[i]? = some x := by rfl) (hx : Loc X.env.scope x := by first | exact Or.inl rfl | exact Or.inr rfl) (hw : swapsWith e (some (.Name x pos')) pos.line X.env = pure false := by rfl)
    (hf : X.fn x = true ∨ X.env.scope.names.lookup x = some .local := by first | exact .inl rfl | exact .inr rfl) : GS X Γ (.Assign [.Name x pos'] e pos :: rest) N Rt := .mk fun σ H Hb hs D A q r W tk xc => by
  refine wss_of (pss_cons (ps_set hN hi hx pe_sem hw hf) pss_sem) (he.run σ H Hb hs _ A fun v H1 Hb1 hs1 h1 s1 A1 r1 z1 f1 => ?_)
  have A2 := A1.setO (i := i) r1 z1 fun a o e => ⟨(f1 a o e).1, (f1 a o e).2.1⟩
  have s2 := step_putO (i := i) s1 fun a o e => (f1 a o e).2.2
  exact (hr v).run _ H1 Hb1 _ D A2 (fun Γ2 σ2 H2 Hb2 hs2 n2 s3 A3 => q Γ2 σ2 H2 Hb2 hs2 n2 (A2.trans s2 s3) A3) (fun v H2 Hb2 hs2 s3 r2 => r v H2 Hb2 hs2 (A2.trans s2 s3) r2) W tk (fun c9 d9 σ9 H2 Hb2 hs2 s3 x9 => xc c9 d9 σ9 H2 Hb2 hs2 (A2.trans s2 s3) x9)
end
/-- if -/
theorem gs_if (hc : GT X Γ e P) (h1 : P true → GS X Γ s1 N1 Rt) (h2 : P false → GS X Γ s2 N1 Rt) (hr : ∀ Γ', N1 Γ' → GS X Γ' rest N Rt) : GS X Γ (.If e s1 s2 pos :: rest) N Rt := .mk fun σ H Hb hs D A q r W tk xc => by
  refine wss_of (pss_cons (ps_if pt_sem pss_sem pss_sem) pss_sem) (hc.run σ H Hb hs _ A fun c H1 Hb1 hs1 t1 A1 p => ?_)
  have go : ∀ {ss : List Stmt}, GS X Γ ss N1 Rt → WSs X ss { D with nx := WSs X rest D } σ H1 := fun h => h.run σ H1 Hb1 hs1 { D with nx := WSs X rest D } A1 (fun Γ2 σ2 H2 Hb2 hs2 n2 t2 A2 => (hr Γ2 n2).run σ2 H2 Hb2 hs2 D A2 (fun Γ3 σ3 H3 Hb3 hs3 n3 t3 A3 => q Γ3 σ3 H3 Hb3 hs3 n3 (A1.trans t1 (A2.trans t2 t3)) A3) (fun v H3 Hb3 hs3 t3 r3 => r v H3 Hb3 hs3 (A1.trans t1 (A2.trans t2 t3)) r3) W tk (fun c9 d9 σ9 H3 Hb3 hs3 t3 x9 => xc c9 d9 σ9 H3 Hb3 hs3 (A1.trans t1 (A2.trans t2 t3)) x9)) (fun v H2 Hb2 hs2 t2 r2 => r v H2 Hb2 hs2 (A1.trans t1 t2) r2) W tk (fun c9 d9 σ9 H2 Hb2 hs2 t2 x9 => xc c9 d9 σ9 H2 Hb2 hs2 (A1.trans t1 t2) x9)
  cases c with
  | true => exact iteT (go (h1 p))
  | false => exact iteF (go (h2 p))
/-- if .. that leaves -/
theorem gs_ifR (hc : GT X Γ e P) (h1 : P true → GS X Γ s1 (fun _ => False) Rt) (hr : P false → GS X Γ rest N Rt) : GS X Γ (.If e s1 [] pos :: rest) N Rt :=
  .mk fun σ H Hb hs D A q r W tk xc => by
  refine wss_of (pss_cons (ps_if pt_sem pss_sem pss_nil) pss_sem) (hc.run σ H Hb hs _ A fun c H1 Hb1 hs1 t1 A1 p => ?_)
  cases c with
  | true => exact iteT ((h1 p).run σ H1 Hb1 hs1 _ A1 (fun _ _ _ _ _ n => n.elim) (fun v H2 Hb2 hs2 t2 r2 => r v H2 Hb2 hs2 (A1.trans t1 t2) r2) W tk (fun c9 d9 σ9 H2 Hb2 hs2 t2 x9 => xc c9 d9 σ9 H2 Hb2 hs2 (A1.trans t1 t2) x9))
  | false => exact iteF ((hr p).run σ H1 Hb1 hs1 D A1 (fun Γ2 σ2 H2 Hb2 hs2 n2 s2 A2 => q Γ2 σ2 H2 Hb2 hs2 n2 (A1.trans t1 s2) A2) (fun v H2 Hb2 hs2 s2 r2 => r v H2 Hb2 hs2 (A1.trans t1 s2) r2) W tk (fun c9 d9 σ9 H2 Hb2 hs2 s2 x9 => xc c9 d9 σ9 H2 Hb2 hs2 (A1.trans t1 s2) x9))
/-- if, both ways of one's own -/
theorem gs_if2 (hc : GT X Γ e P) (h1 : P true → GS X Γ s1 N Rt) (h2 : P false → GS X Γ s2 N Rt) : GS X Γ [.If e s1 s2 pos] N Rt := gs_if hc h1 h2 fun Γ' n => gs_nil n
/-- return -/
theorem gs_ret (he : GE X Γ e R) (hq : ∀ v H' Hb' σ' hs', At Γ Hb' H' σ' hs' → R.p v Hb' → ∃ hs2, Rt.r v H' Hb' hs2 ∧ ∀ a, Cl Hb' hs2 a → Cl Hb' hs' a) : GS X Γ (.Return (some e) pos :: rest) N Rt := .mk fun σ H Hb hs D A q r W tk xc => by
  refine wss_of (pss_cons (ps_ret pe_sem) pss_sem) (he.run σ H Hb hs _ A fun v H1 Hb1 hs1 s1 A1 r1 => ?_)
  obtain ⟨hs2, h1, h2⟩ := hq v H1 Hb1 σ hs1 A1 r1
  exact r v H1 Hb1 hs2 ⟨s1.b, s1.k, fun a c => s1.c a (h2 a c)⟩ h1
theorem gs_retO {φ : OO} (he : GO X Γ e φ) (hq : ∀ v H' Hb' σ' hs' h, At Γ Hb' H' σ' hs' → φ.p v Hb' h → Same h H' → (∀ a o, h a = some o → Hb' a = none ∧ ∀ i, hs' i a = none) → ∃ hs2, Rt.r v H' Hb' hs2 ∧ ∀ a, Cl Hb' hs2 a → Cl Hb' hs' a ∨ ∃ o, h a = some o) : GS X Γ (.Return (some e) pos :: rest) N Rt := .mk fun σ H Hb hs D A q r W tk xc => by
  refine wss_of (pss_cons (ps_ret pe_sem) pss_sem) (he.run σ H Hb hs _ A fun v H1 Hb1 hs1 h s1 A1 r1 z1 f1 => ?_)
  obtain ⟨hs2, h1, h2⟩ := hq v H1 Hb1 σ hs1 h A1 r1 z1 fun a o e => ⟨(f1 a o e).1, (f1 a o e).2.1⟩
  refine r v H1 Hb1 hs2 ⟨s1.b, s1.k, fun a c => ?_⟩ h1
  rcases h2 a c with c | ⟨o, c⟩
  · exact s1.c a c
  · exact (f1 a o c).2.2
/-- what a def hands back -/
def RtF (outs : List Sl) (res : Sl) (vs : List V) : Rtn := ⟨fun v H' Hb' hs' => At (outs ++ [res]) Hb' H' (vs.map some ++ [some v]) hs', fun _ _ _ _ _ => False⟩
theorem rep_get {n i : Nat} {s : Sl} (h : (List.replicate n Sl.u)[i]? = some s) : s = .u := by
  have := List.getElem?_eq_some_iff.mp h
  obtain ⟨h1, h2⟩ := this
  rw [List.getElem_replicate] at h2
  exact h2.symm
theorem cl_no {a : Addr} {Hb' : Hp} {hs' : Nat → Hp} (c : Cl Hb' (fun _ => no) a) : Cl Hb' hs' a := by
  rcases c with c | ⟨_, _, c⟩
  · exact .inl c
  · cases c
theorem res_at {n : Nat} {vs : List V} {s : Sl} {v : V} {hs' : Nat → Hp} (hl : vs.length = n) (hsame : Same Hb H) (h1 : ∀ i, Same (hs' i) H) (h2 : ∀ i a o, hs' i a = some o → Hb a = none) (h3 : ∀ i j a o, hs' i a = some o → i ≠ j → hs' j a = none)
    (q : SlAt s (some (some v)) Hb (hs' n)) : (RtF (List.replicate n .u) s vs).r v H Hb hs' := by
  refine ⟨by simp [hl], hsame, h1, h2, h3, fun i t e => ?_⟩
  by_cases z : i < n
  · rw [List.getElem?_append_left (by rw [List.length_replicate]; exact z)] at e
    rw [rep_get e]; trivial
  · rw [List.getElem?_append_right (by rw [List.length_replicate]; omega), List.length_replicate] at e
    have z2 : i = n := by
      have := lt_of_get e
      rw [List.length_singleton] at this
      omega
    subst z2
    rw [Nat.sub_self] at e
    cases Option.some.inj e
    rw [List.getElem?_append_right (by rw [List.length_map, hl]; exact Nat.le_refl _), List.length_map, hl, Nat.sub_self]
    exact q
/-- return of a persistent value, nothing handed in is changed -/
theorem gs_retP {n : Nat} {vs : List V} {outs : List Sl} (he : GE X Γ e R) (hl : vs.length = n) (ho : outs = List.replicate n .u := by rfl) : GS X Γ (.Return (some e) pos :: rest) N (RtF outs (.r R) vs) := by
  subst ho
  exact gs_ret he fun v H' Hb' σ' hs' A r => ⟨fun _ => no, res_at hl A.same (fun _ _ _ e => nomatch e) (fun _ _ _ e => nomatch e) (fun _ _ _ _ e => nomatch e) ⟨v, rfl, r⟩, fun a c => cl_no c⟩
theorem gs_retPO {φ : OO} {n : Nat} {vs : List V} {outs : List Sl} (he : GO X Γ e φ) (hl : vs.length = n) (ho : outs = List.replicate n .u := by rfl) : GS X Γ (.Return (some e) pos :: rest) N (RtF outs (.x φ) vs) := by
  subst ho
  exact gs_retO he fun v H' Hb' σ' hs' h A r z f => ⟨putN (fun _ => no) n h, res_at hl A.same (fun i a o e => by
      by_cases w : i = n
      · subst w; rw [putN_same] at e; exact z a o e
      · rw [putN_ne w] at e; cases e) (fun i a o e => by
      by_cases w : i = n
      · subst w; rw [putN_same] at e; exact (f a o e).1
      · rw [putN_ne w] at e; cases e) (fun i j a o e ne => by
      by_cases w : i = n
      · subst w; rw [putN_ne (Ne.symm ne)]; rfl
      · rw [putN_ne w] at e; cases e) ⟨v, rfl, by rw [putN_same]; exact r⟩, fun a c => by
      rcases c with c | ⟨j, o, c⟩
      · exact .inl (.inl c)
      · by_cases w : j = n
        · subst w; rw [putN_same] at c; exact .inr ⟨o, c⟩
        · rw [putN_ne w] at c; cases c⟩
/-- return of an owned slot -/
theorem go_slot (i : Nat) {x : Str} {w : V} {φ : OO} (hΓ : Γ[i]? = some (.o w φ) := by rfl) (hN : X.N[i]? = some x := by rfl) (hv : Vis X.env.scope x := by first | exact Or.inl rfl | exact Or.inr (Or.inl rfl) | exact Or.inr (Or.inr rfl))
    (hd : (x == ("__debug__" : Str)) = false := by decide) (hcd : (x == ("__classdict__" : Str)) = false := by decide) (hq : ∀ v H' Hb' σ' hs' h, At (Γ.set i .u) Hb' H' σ' hs' → φ.p v Hb' h → Same h H' → (∀ a o, h a = some o → Hb' a = none ∧ ∀ i, hs' i a = none) → ∃ hs2, Rt.r v H' Hb' hs2 ∧ ∀ a, Cl Hb' hs2 a → Cl Hb' hs' a ∨ ∃ o, h a = some o) :
    GS X Γ (.Return (some (.Name x pos')) pos :: rest) N Rt := .mk fun σ H Hb hs D A q r W tk xc => by
  obtain ⟨e, p⟩ := A.sl i _ hΓ
  refine wss_of (pss_cons (ps_ret (pe_var hN hv hd hcd)) pss_sem) ⟨w, e, ?_⟩
  have A0 : At (Γ.set i .u) Hb H σ (putN hs i no) := by
    have A1 := A.drop i
    refine ⟨A1.len, A1.same, fun j a o e => ?_, fun j a o e => ?_, fun j k a o e n => ?_, fun j s e => ?_⟩
    · by_cases z : j = i
      · subst z; rw [putN_same] at e; cases e
      · rw [putN_ne z] at e; exact A1.sub j a o e
    · by_cases z : j = i
      · subst z; rw [putN_same] at e; cases e
      · rw [putN_ne z] at e; exact A1.off j a o e
    · by_cases z : j = i
      · subst z; rw [putN_same] at e; cases e
      · rw [putN_ne z] at e
        by_cases z2 : k = i
        · subst z2; rw [putN_same]; rfl
        · rw [putN_ne z2]; exact A1.dis j k a o e n
    · by_cases z : j = i
      · subst z
        have hl : j < Γ.length := lt_of_get hΓ
        rw [List.getElem?_set_self hl] at e
        cases e
        trivial
      · rw [putN_ne z]; exact A1.sl j s e
  obtain ⟨hs2, h1, h2⟩ := hq w H Hb σ _ (hs i) A0 p (A.sub i) fun a o e => ⟨A.off i a o e, fun j => by
    by_cases z : j = i
    · subst z; rw [putN_same]; rfl
    · rw [putN_ne z]; exact A.dis i j a o e (Ne.symm z)⟩
  refine r w H Hb hs2 ⟨Same.refl _, fun _ _ h _ => h, fun a c => ?_⟩ h1
  rcases h2 a c with (c | ⟨j, o, c⟩) | ⟨o, c⟩
  · exact .inl (.inl c)
  · by_cases z : j = i
    · subst z; rw [putN_same] at c; cases c
    · rw [putN_ne z] at c; exact .inl (.inr ⟨j, o, c⟩)
  · exact .inl (.inr ⟨i, o, c⟩)
theorem gs_retS (i : Nat) {x : Str} {w : V} {φ : OO} {n : Nat} {vs : List V} (hl : vs.length = n) (hΓ : Γ[i]? = some (.o w φ) := by rfl) (hN : X.N[i]? = some x := by rfl) (hv : Vis X.env.scope x := by first | exact Or.inl rfl | exact Or.inr (Or.inl rfl) | exact Or.inr (Or.inr rfl))
    (hd : (x == ("__debug__" : Str)) = false := by decide) (hcd : (x == ("__classdict__" : Str)) = false := by decide) : GS X Γ (.Return (some (.Name x pos')) pos :: rest) N (RtF (List.replicate n .u) (.x φ) vs) :=
  go_slot i hΓ hN hv hd hcd fun v H' Hb' σ' hs' h A r z f => ⟨putN (fun _ => no) n h, res_at hl A.same (fun i a o e => by
      by_cases w : i = n
      · subst w; rw [putN_same] at e; exact z a o e
      · rw [putN_ne w] at e; cases e) (fun i a o e => by
      by_cases w : i = n
      · subst w; rw [putN_same] at e; exact (f a o e).1
      · rw [putN_ne w] at e; cases e) (fun i j a o e ne => by
      by_cases w : i = n
      · subst w; rw [putN_ne (Ne.symm ne)]; rfl
      · rw [putN_ne w] at e; cases e) ⟨v, rfl, by rw [putN_same]; exact r⟩, fun a c => by
      rcases c with c | ⟨j, o, c⟩
      · exact .inl (.inl c)
      · by_cases w : j = n
        · subst w; rw [putN_same] at c; exact .inr ⟨o, c⟩
        · rw [putN_ne w] at c; cases c⟩
/-- return, the first argument an owned one that keeps its promise -/
theorem res_at1 {n : Nat} {w : V} {vs : List V} {φ : OO} {s : Sl} {v : V} {hs' : Nat → Hp} (A : At Γ Hb H σ hs) (hΓ : Γ[0]? = some (.o w φ)) (hl : vs.length = n) (h0 : hs' 0 = hs 0) (h1 : ∀ i, Same (hs' i) H) (h2 : ∀ i a o, hs' i a = some o → Hb a = none) (h3 : ∀ i j a o, hs' i a = some o → i ≠ j → hs' j a = none)
    (q : SlAt s (some (some v)) Hb (hs' (n + 1))) : (RtF (.o w φ :: List.replicate n .u) s (w :: vs)).r v H Hb hs' := by
  refine ⟨by simp [hl], A.same, h1, h2, h3, fun i t e => ?_⟩
  cases i with
  | zero =>
    have e' : Sl.o w φ = t := Option.some.inj e
    subst e'
    obtain ⟨_, p⟩ := A.sl 0 _ hΓ
    rw [h0]
    exact ⟨rfl, p⟩
  | succ i =>
    have e' : (List.replicate n Sl.u ++ [s])[i]? = some t := e
    show SlAt t ((vs.map some ++ [some v])[i]?) Hb (hs' (i + 1))
    by_cases z : i < n
    · rw [List.getElem?_append_left (by rw [List.length_replicate]; exact z)] at e'
      rw [rep_get e']; trivial
    · rw [List.getElem?_append_right (by rw [List.length_replicate]; omega), List.length_replicate] at e'
      have z2 : i = n := by
        have := lt_of_get e'
        rw [List.length_singleton] at this
        omega
      subst z2
      rw [Nat.sub_self] at e'
      cases Option.some.inj e'
      rw [List.getElem?_append_right (by rw [List.length_map, hl]; exact Nat.le_refl _), List.length_map, hl, Nat.sub_self]
      exact q
theorem gs_ret1 {n : Nat} {w : V} {vs : List V} {φ : OO} {outs : List Sl} (he : GE X Γ e R) (hl : vs.length = n) (hΓ : Γ[0]? = some (.o w φ) := by rfl) (ho : outs = .o w φ :: List.replicate n .u := by rfl) : GS X Γ (.Return (some e) pos :: rest) N (RtF outs (.r R) (w :: vs)) := by
  subst ho
  exact gs_ret he fun v H' Hb' σ' hs' A r => ⟨putN (fun _ => no) 0 (hs' 0), res_at1 A hΓ hl putN_same (fun i a o e => by
      by_cases w : i = 0
      · subst w; rw [putN_same] at e; exact A.sub 0 a o e
      · rw [putN_ne w] at e; cases e) (fun i a o e => by
      by_cases w : i = 0
      · subst w; rw [putN_same] at e; exact A.off 0 a o e
      · rw [putN_ne w] at e; cases e) (fun i j a o e ne => by
      by_cases w : i = 0
      · subst w; rw [putN_ne (Ne.symm ne)]; rfl
      · rw [putN_ne w] at e; cases e) ⟨v, rfl, r⟩, fun a c => by
      rcases c with c | ⟨j, o, c⟩
      · exact .inl c
      · by_cases w : j = 0
        · subst w; rw [putN_same] at c; exact .inr ⟨0, o, c⟩
        · rw [putN_ne w] at c; cases c⟩
end
end G
namespace G
open PySem PySem.Spec PyProof.Rows L2
section
variable {X : Cx} {Γ Γ' : List Sl} {e a b : Expr} {es : List Expr} {R R' Ra Rb Rc : RR} {rs : List RR} {pos pos' : Pos} {N N1 N' : List Sl → Prop} {Rt Rt' : Rtn} {st : Stmt} {rest body s1 s2 : List Stmt} {P : Bool → Prop}
variable {Hb H : Hp} {σ : L2.St} {hs : Nat → Hp}
instance {rs : List RR} {n : Nat} {r : RR} [i : Ims rs] [j : Im r] : Ims (rs.set n r) := ⟨fun x h => by
  rcases List.mem_or_eq_of_mem_set h with h | rfl
  · exact i.im x h
  · exact j⟩
theorem At.setOwn (A : At Γ Hb H σ hs) {i : Nat} {w : V} {φ ψ : OO} {h : Hp} (hΓ : Γ[i]? = some (.o w φ)) (dom : ∀ a o, h a = some o → ∃ u, hs i a = some u) (hp : ψ.p w Hb h) {H' : Hp} (k : ∀ a o, H a = some o → hs i a = none → H' a = some o) (z : Same h H') :
    At (Γ.set i (.o w ψ)) Hb H' σ (putN hs i h) ∧ Step Hb H hs Hb H' (putN hs i h) := by
  obtain ⟨e0, _⟩ := A.sl i _ hΓ
  have nb : ∀ {a o}, Hb a = some o → hs i a = none := fun {a o} e => by
    cases q : hs i a with
    | none => rfl
    | some u => rw [A.off i a u q] at e; cases e
  refine ⟨⟨by rw [List.length_set]; exact A.len, fun a o e => k a o (A.same a o e) (nb e), fun j a o e => ?_, fun j a o e => ?_, fun j l a o e n => ?_, fun j s q => ?_⟩, ⟨Same.refl _, fun a o e n => k a o e (n i), fun a c => ?_⟩⟩
  · by_cases w : j = i
    · subst w; rw [putN_same] at e; exact z a o e
    · rw [putN_ne w] at e; exact k a o (A.sub j a o e) (A.dis j i a o e w)
  · by_cases w : j = i
    · subst w
      rw [putN_same] at e
      obtain ⟨u, e⟩ := dom a o e
      exact A.off j a u e
    · rw [putN_ne w] at e; exact A.off j a o e
  · by_cases w : j = i
    · subst w
      rw [putN_same] at e
      obtain ⟨u, e⟩ := dom a o e
      rw [putN_ne (Ne.symm n)]
      exact A.dis j l a u e n
    · rw [putN_ne w] at e
      by_cases w2 : l = i
      · subst w2
        rw [putN_same]
        cases q : h a with
        | none => rfl
        | some u =>
          obtain ⟨t, q⟩ := dom a u q
          rw [A.dis j l a o e n] at q; cases q
      · rw [putN_ne w2]; exact A.dis j l a o e n
  · by_cases z : i = j
    · subst z
      rw [List.getElem?_set_self (lt_of_get hΓ)] at q
      cases q
      rw [putN_same]
      exact ⟨e0, hp⟩
    · rw [List.getElem?_set_ne z] at q
      rw [putN_ne (Ne.symm z)]
      exact A.sl j s q
  · rcases c with c | ⟨j, o, c⟩
    · exact .inl (.inl c)
    · by_cases w : j = i
      · subst w
        rw [putN_same] at c
        obtain ⟨u, c⟩ := dom a o c
        exact .inl (.inr ⟨j, u, c⟩)
      · rw [putN_ne w] at c; exact .inl (.inr ⟨j, o, c⟩)
/-- x.append(e) -/
theorem gs_append (i : Nat) {x : Str} {w : V} [ims : Ims rs] [im : Im R] {apos : Pos} (he : GE X Γ e R) (hr : GS X (Γ.set i (.o w (ownL (rs ++ [R])))) rest N Rt) (hz : rs.length < 100000 := by first | decide | omega | (simp; omega)) (hΓ : Γ[i]? = some (.o w (ownL rs)) := by rfl) (hN : X.N[i]? = some x := by rfl) (hv : Vis X.env.scope x := by first | exact Or.inl rfl | exact Or.inr (Or.inl rfl) | exact Or.inr (Or.inr rfl))
    (hd : (x == ("__debug__" : Str)) = false := by decide) (hcd : (x == ("__classdict__" : Str)) = false := by decide) (h1 : starEach [e] X.env = (false, eval e X.env) :: starEach [] X.env := by rfl)
    (hm : PS X (.Expr (.Call (.Attribute (.Name x pos') "append" apos) [e] [] pos) pos) (tDrop (tBM X.K "list" rAppend (tVar i) (WA X [e]))) := by exact ps_expr (pe_bm PySem.F.plainAttrs_list PySem.F.slot_list_append PySem.F.type_list_append mt_append (pv _) pa_sem)) :
    GS X Γ (.Expr (.Call (.Attribute (.Name x pos') "append" apos) [e] [] pos) pos :: rest) N Rt := .mk fun σ H Hb hs D A q r W tk xc => by
  obtain ⟨e0, l, vs, e2, e3, e4⟩ := A.sl i _ hΓ
  subst e2
  have hl : H l = some (.lst vs) := A.sub i l _ (by rw [e3]; exact sing_same)
  refine wss_of (pss_cons hm pss_sem) ⟨_, e0, .inl ⟨rfl, _, .inl (.inl hl)⟩, ?_⟩
  refine (ga_cons he ga_nil h1).run σ H Hb hs _ A fun us H1 Hb1 hs1 t1 A1 r1 => ?_
  obtain ⟨v, rfl, r2⟩ := all2_1 (aks_all (rs := [R]) r1)
  obtain ⟨e5, l', vs', e6, e7, e8⟩ := A1.sl i _ hΓ
  cases e6
  have hl1 : H1 l = some (.lst vs') := A1.sub i l _ (by rw [e7]; exact sing_same)
  refine ⟨l, vs', v, rfl, rfl, hl1, Nat.lt_of_lt_of_le (by rw [e8.len]; exact hz) (by decide : 100000 ≤ sizeLine), ?_⟩
  obtain ⟨A2, s2⟩ := A1.setOwn (ψ := ownL (rs ++ [R])) (h := sing l (.lst (vs' ++ [v]))) hΓ (fun a o e => by
    obtain ⟨rfl, _⟩ := sing_some e
    exact ⟨_, by rw [e7]; exact sing_same⟩) ⟨l, _, rfl, rfl, e8.app (vs' := [v]) ⟨r2, trivial⟩⟩ (H' := upd H1 l (.lst (vs' ++ [v]))) (fun a o e n => by
    rw [upd_ne]; exact e
    intro z
    subst z
    rw [e7, sing_same] at n
    cases n) (fun a o e => by
    obtain ⟨rfl, rfl⟩ := sing_some e
    exact upd_same)
  have t2 := A1.trans t1 s2
  exact hr.run _ _ Hb1 _ D A2 (fun Γ2 σ2 H2 Hb2 hs2 n2 s3 A3 => q Γ2 σ2 H2 Hb2 hs2 n2 (A2.trans t2 s3) A3) (fun v H2 Hb2 hs2 s3 r2 => r v H2 Hb2 hs2 (A2.trans t2 s3) r2) W tk (fun c9 d9 σ9 H2 Hb2 hs2 s3 x9 => xc c9 d9 σ9 H2 Hb2 hs2 (A2.trans t2 s3) x9)
/-- x[k] = e -/
theorem gs_setIx (i : Nat) {x : Str} {w : V} [ims : Ims rs] [im : Im R] {k : Int} (n : Nat) {spos : Pos} (he : GE X Γ e R) (hk : GE X Γ b (isInt k)) (hr : GS X (Γ.set i (.o w (ownL (rs.set n R)) )) rest N Rt) (hn : ixN rs.length k = some n) (hΓ : Γ[i]? = some (.o w (ownL rs)) := by rfl) (hN : X.N[i]? = some x := by rfl) (hv : Vis X.env.scope x := by first | exact Or.inl rfl | exact Or.inr (Or.inl rfl) | exact Or.inr (Or.inr rfl))
    (hm : PS X (.Assign [.Subscript (.Name x pos') b spos] e pos) (tAsg (WE X e) (gSub (tVar i) (WE X b) rSetL)) := by exact ps_asg pe_sem (pg_sub (pv _) pe_sem set_list)) :
    GS X Γ (.Assign [.Subscript (.Name x pos') b spos] e pos :: rest) N Rt := .mk fun σ H Hb hs D A q r W tk xc => by
  refine wss_of (pss_cons hm pss_sem) (he.run σ H Hb hs _ A fun v H1 Hb1 hs1 t1 A1 r1 => ?_)
  obtain ⟨e0, l, vs, e2, e3, e4⟩ := A1.sl i _ hΓ
  subst e2
  refine ⟨_, e0, hk.run σ H1 Hb1 hs1 _ A1 fun u H2 Hb2 hs2 t2 A2 r2 => ?_⟩
  obtain ⟨e5, l', vs', e6, e7, e8⟩ := A2.sl i _ hΓ
  cases e6
  have hl1 : H2 l = some (.lst vs') := A2.sub i l _ (by rw [e7]; exact sing_same)
  refine ⟨l, vs', k, n, rfl, r2, hl1, by rw [e8.len]; exact hn, ?_⟩
  obtain ⟨A3, s3⟩ := A2.setOwn (ψ := @ownL (rs.set n R) _) (h := sing l (.lst (vs'.set n v))) hΓ (fun a o e => by
    obtain ⟨rfl, _⟩ := sing_some e
    exact ⟨_, by rw [e7]; exact sing_same⟩) ⟨l, _, rfl, rfl, e8.set (R.mono t2.b r1) n⟩ (H' := upd H2 l (.lst (vs'.set n v))) (fun a o e n => by
    rw [upd_ne]; exact e
    intro z
    subst z
    rw [e7, sing_same] at n
    cases n) (fun a o e => by
    obtain ⟨rfl, rfl⟩ := sing_some e
    exact upd_same)
  have t3 := A1.trans t1 (A2.trans t2 s3)
  exact hr.run _ _ Hb2 _ D A3 (fun Γ2 σ2 H2 Hb2 hs2 n2 s3 A4 => q Γ2 σ2 H2 Hb2 hs2 n2 (A3.trans t3 s3) A4) (fun v H2 Hb2 hs2 s3 r2 => r v H2 Hb2 hs2 (A3.trans t3 s3) r2) W tk (fun c9 d9 σ9 H2 Hb2 hs2 s3 x9 => xc c9 d9 σ9 H2 Hb2 hs2 (A3.trans t3 s3) x9)
/-- the turns of a loop over items whose relations are rs; the loop's name is the slot j -/
theorem for_turns {α : Type} {K : PySem.W.Frag} {p : Addr} {vs : List V} (j : Nat) (I : Nat → α → Prop) (Γf : α → List Sl) (hv : All2 rs vs Hb)
    (hb : ∀ i a R, rs[i]? = some R → I i a → GS X ((Γf a).set j (.r R)) body (fun Γ' => ∃ a', I (i + 1) a' ∧ Γ'.set j .u = Γf a') Rt) (hr : ∀ a, I rs.length a → GS X (Γf a) rest N Rt) {H0 : Hp} {Hb0 : Hp} {hs0 : Nat → Hp} (t0 : Step Hb0 H0 hs0 Hb H hs) (off0 : ∀ i a o, hs i a = some o → Hb a = none) {D : Ends}
    (q : ∀ Γ' σ' H' Hb' hs', N Γ' → Step Hb0 H0 hs0 Hb' H' hs' → At Γ' Hb' H' σ' hs' → D.nx σ' H') (r : ∀ v H' Hb' hs', Step Hb0 H0 hs0 Hb' H' hs' → Rt.r v H' Hb' hs' → D.rt v H') {W : WX} (tk : Takes X W) (xc : ∀ cls d σ' H' Hb' hs', Step Hb0 H0 hs0 Hb' H' hs' → Rt.x cls d H' Hb' hs' → W cls d σ' H') :
    (∀ i x σ1 H1, vs[i]? = some x → (∃ a Hb1 hs1, I i a ∧ Step Hb H hs Hb1 H1 hs1 ∧ At (Γf a) Hb1 H1 σ1 hs1) → gName j x σ1 H1 fun σ2 H2 => WSs X body { D with nx := fun σ3 H3 => ∃ a Hb3 hs3, I (i + 1) a ∧ Step Hb H hs Hb3 H3 hs3 ∧ At (Γf a) Hb3 H3 σ3 hs3, ct := fun σ3 H3 => ∃ a Hb3 hs3, I (i + 1) a ∧ Step Hb H hs Hb3 H3 hs3 ∧ At (Γf a) Hb3 H3 σ3 hs3, bk := WSs X rest D } σ2 H2) ∧
    (∀ σ1 H1, (∃ a Hb1 hs1, I vs.length a ∧ Step Hb H hs Hb1 H1 hs1 ∧ At (Γf a) Hb1 H1 σ1 hs1) → WSs X rest D σ1 H1) := by
  refine ⟨fun i x σ1 H1 hx ⟨a, Hb1, hs1, i1, t1, A1⟩ => ?_, fun σ1 H1 ⟨a, Hb1, hs1, i1, t1, A1⟩ => ?_⟩
  · have hlt : i < rs.length := by rw [← hv.len]; exact lt_of_get hx
    obtain ⟨v, e, rv⟩ := hv.get (i := i) (r := rs[i]) (by simp [hlt])
    rw [hx] at e; cases e
    have A2 := A1.set (i := j) (rs[i].mono t1.b rv)
    have T : Step Hb0 H0 hs0 Hb1 H1 hs1 := Step.trans off0 t0 t1
    refine (hb i a rs[i] (by simp [hlt]) i1).run _ H1 Hb1 hs1 _ A2 (fun Γ3 σ3 H3 Hb3 hs3 n3 t3 A3 => ?_) (fun v H3 Hb3 hs3 t3 r3 => r v H3 Hb3 hs3 (A2.trans T t3) r3) W tk (fun c9 d9 σ9 H3 Hb3 hs3 t3 x9 => xc c9 d9 σ9 H3 Hb3 hs3 (A2.trans T t3) x9)
    obtain ⟨a', i', e'⟩ := n3
    have A4 := A3.drop j
    rw [e'] at A4
    exact ⟨a', Hb3, hs3, i', A1.trans t1 t3, A4⟩
  · have T : Step Hb0 H0 hs0 Hb1 H1 hs1 := Step.trans off0 t0 t1
    rw [hv.len] at i1
    exact (hr a i1).run σ1 H1 Hb1 hs1 D A1 (fun Γ2 σ2 H3 Hb3 hs3 n2 s3 A3 => q Γ2 σ2 H3 Hb3 hs3 n2 (A1.trans T s3) A3) (fun v H3 Hb3 hs3 t3 r3 => r v H3 Hb3 hs3 (A1.trans T t3) r3) W tk (fun c9 d9 σ9 H3 Hb3 hs3 t3 x9 => xc c9 d9 σ9 H3 Hb3 hs3 (A1.trans T t3) x9)
theorem gs_forL {α : Type} {x : Str} (j : Nat) (I : Nat → α → Prop) (Γf : α → List Sl) (a0 : α) (hi : GE X Γ e (isLst X.K rs)) (h0 : I 0 a0) (hb : ∀ i a R, rs[i]? = some R → I i a → GS X ((Γf a).set j (.r R)) body (fun Γ' => ∃ a', I (i + 1) a' ∧ Γ'.set j .u = Γf a') Rt) (hr : ∀ a, I rs.length a → GS X (Γf a) rest N Rt)
    (hp : PassesOwn (model X.prog X.w) X.A X.env X.xe) (hN : X.N.Nodup) (hΓ : Γ.set j .u = Γf a0 := by rfl) (hc : X.calm = true := by rfl) (hj : X.N[j]? = some x := by rfl) (hx : Loc X.env.scope x := by first | exact Or.inl rfl | exact Or.inr rfl) (hf : X.fn x = true ∨ X.env.scope.names.lookup x = some .local := by first | exact .inl rfl | exact .inr rfl)
    (hs : ∀ x, foldedSetIterable e X.env x = pure x := by intro _; rfl) : GS X Γ (.For (.Name x pos') e body [] pos :: rest) N Rt := .mk fun σ H Hb hs' D A q r W tk xc => by
  refine wss_of (pss_cons (ps_for hp hc (pi_list pe_sem) (pg_name hN hj hx hf) pss_sem hs) pss_sem) (hi.run σ H Hb hs' _ A fun v H1 Hb1 hs1 s1 A1 ⟨p, vs, e1, e2, e3⟩ => ?_)
  refine ⟨p, e1, ⟨vs, same_sqL A1.same e2⟩, ?_⟩
  have A2 := A1.drop j
  rw [hΓ] at A2
  obtain ⟨k1, k2⟩ := for_turns (K := X.K) (p := p) j I Γf e3 hb hr s1 A1.off q r tk xc
  refine for_list (K := X.K) (a := p) (xs := vs) (D := { D with nx := WSs X rest D }) (fun i σ1 H1 => ∃ a Hb2 hs2, I i a ∧ Step Hb1 _ hs1 Hb2 H1 hs2 ∧ At (Γf a) Hb2 H1 σ1 hs2) ⟨a0, Hb1, hs1, h0, Step.refl, A2⟩ ?_ k1 k2
  rintro i σ1 H1 _ ⟨a, Hb2, hs2, _, t2, A2⟩
  exact same_sqL A2.same (same_sqL t2.b e2)
/-- for k in range(n) -/
theorem gs_forR {α : Type} {x : Str} {n : Int} {pr pn : Pos} (j : Nat) (I : Nat → α → Prop) (Γf : α → List Sl) (a0 : α) (hi : GE X Γ e (isInt n)) (hn : -(2 ^ 62) ≤ n ∧ n < 2 ^ 62) (h0 : I 0 a0) (hb : ∀ i a, i < n.toNat → I i a → GS X ((Γf a).set j (.r (isInt i))) body (fun Γ' => ∃ a', I (i + 1) a' ∧ Γ'.set j .u = Γf a') Rt) (hr : ∀ a, I n.toNat a → GS X (Γf a) rest N Rt)
    (hm : X.mg "range" = none) (hp : PassesOwn (model X.prog X.w) X.A X.env X.xe) (hN : X.N.Nodup) (hΓ : Γ.set j .u = Γf a0 := by rfl) (hc : X.calm = true := by rfl) (hj : X.N[j]? = some x := by rfl) (hx : Loc X.env.scope x := by first | exact Or.inl rfl | exact Or.inr rfl) (hf : X.fn x = true ∨ X.env.scope.names.lookup x = some .local := by first | exact .inl rfl | exact .inr rfl) (hg : Gl X "range" := by rfl)
    (hs : ∀ x, foldedSetIterable (.Call (.Name "range" pn) [e] [] pr) X.env x = pure x := by intro _; rfl) (h1 : starEach [e] X.env = [(false, eval e X.env)] := by rfl) : GS X Γ (.For (.Name x pos') (.Call (.Name "range" pn) [e] [] pr) body [] pos :: rest) N Rt := .mk fun σ H Hb hs' D A q r W tk xc => by
  refine wss_of (pss_cons (ps_for hp hc (pi_range1 hg hm pa_sem h1) (pg_name hN hj hx hf) pss_sem hs) pss_sem) ((ga_cons hi ga_nil h1).run σ H Hb hs' _ A fun us H1 Hb1 hs1 s1 A1 r1 => ?_)
  obtain ⟨v, rfl, rfl⟩ := all2_1 (aks_all (rs := [isInt n]) r1)
  refine ⟨n, rfl, hn.1, hn.2, ?_⟩
  have A2 := A1.drop j
  rw [hΓ] at A2
  have hv : All2 ((List.range n.toNat).map fun (i : Nat) => isInt (i : Int)) ((List.range n.toNat).map fun (i : Nat) => V.int (i : Int)) Hb1 := All2.map (fun x => rfl) _
  obtain ⟨k1, k2⟩ := for_turns (K := X.K) (p := 0) (D := D) j I Γf hv (fun i a R e ia => by
    rw [List.getElem?_map] at e
    have hlt : i < n.toNat := by
      cases q : (List.range n.toNat)[i]? with
      | none => rw [q] at e; cases e
      | some u => have := lt_of_get q; rwa [List.length_range] at this
    rw [List.getElem?_range hlt] at e
    cases e
    exact hb i a hlt ia) (fun a ia => hr a (by simpa using ia)) s1 A1.off q r tk xc
  refine for_range (lo := 0) (n := n.toNat) (D := { D with nx := WSs X rest D }) (fun i σ1 H1 => ∃ a Hb2 hs2, I i a ∧ Step Hb1 _ hs1 Hb2 H1 hs2 ∧ At (Γf a) Hb2 H1 σ1 hs2) ⟨a0, Hb1, hs1, h0, Step.refl, A2⟩ (fun i σ1 H1 hlt h => ?_) (fun σ1 H1 h => k2 σ1 H1 (by simpa using h))
  rw [Int.zero_add]
  exact k1 i _ σ1 H1 (by rw [List.getElem?_map, List.getElem?_range hlt]; rfl) h
end
theorem fn_ok {P : Program} {w : World} {K : PySem.W.Frag} {mg : Str → Option Value} {base : Heap} {x qual : Str} {st : Stmt} {f : Addr} {fd : FuncData} {N ps : List Str} {k : Nat} {γ : Type} {Pc : γ → Prop} {pre outs : γ → List Sl} {res : γ → Sl}
    (F : Fun K x qual st f fd) (S : FnScope N ps (defScope st)) (hl : ∀ g, (pre g).length = ps.length := by exact fun _ => rfl)
    (body : ∀ (X : Cx) (g : γ) (vs : List V) (cdv : Value) (A : Around) (outer : List Env) (s : Shared) (H : Hp) (E : XK), Room k X.A → X = (cxOf CX0 P w K mg base N qual (defScope st) f cdv A outer s H E).nox → vs.length = ps.length → (∀ (i : Nat) (w : V) (φ : OO), (pre g)[i]? = some (Sl.o w φ) → vs[i]? = some w) → Pc g →
      GS X (pre g ++ List.replicate (N.length - ps.length) .u) (defBody st) (fun _ => False) (RtF (outs g) (res g) vs)) : FnOk P w K mg base CX0 (k + 1) f fd ps (FS Pc pre outs res) := by
  refine F.ok S (fun vs H Q E h => ?_) (fun cdv A outer s H vs Q E hr h => ?_)
  · obtain ⟨g, Hb, hs, _, A, _⟩ := h
    have := A.len
    rw [List.length_map, hl g] at this
    exact this
  · obtain ⟨g, Hb, hs, hP, A0, q⟩ := h
    have hvl : vs.length = ps.length := by
      have := A0.len
      rw [List.length_map, hl g] at this
      exact this
    refine ⟨_, pss_sem, (body _ g vs cdv A outer s H E hr rfl hvl (fun i w φ e => ?_) hP).run (L2.start N vs) H Hb hs _ ?_ (fun _ _ _ _ _ n => n.elim) (fun v H' Hb' hs' t rt => q v H' Hb' hs' t rt) _ takes0 (fun _ _ _ _ _ _ _ z => z.elim)⟩
    · obtain ⟨e1, _⟩ := A0.sl i _ e
      rw [List.getElem?_map] at e1
      cases q : vs[i]? with
      | none => rw [q] at e1; cases e1
      | some u => rw [q] at e1; cases e1; rfl
    · have len : N.length - vs.length = N.length - ps.length := by rw [hvl]
      refine ⟨by unfold L2.start; rw [List.length_append, List.length_append, List.length_map, List.length_replicate, List.length_replicate, hl g, hvl], A0.same, A0.sub, A0.off, A0.dis, fun i s e => ?_⟩
      by_cases z : i < ps.length
      · rw [List.getElem?_append_left (by rw [hl g]; exact z)] at e
        unfold L2.start
        rw [List.getElem?_append_left (by rw [List.length_map, hvl]; exact z)]
        exact A0.sl i s e
      · rw [List.getElem?_append_right (by rw [hl g]; omega)] at e
        rw [rep_get e]; trivial
end G
namespace G
open PySem PySem.Spec PyProof.Rows L2
structure Dfn (K : PySem.W.Frag) (mg : Str → Option Value) (x : Str) (st : Stmt) (ps : List Str) : Prop where
  ex : ∃ f fd, mg x = some (.ref f) ∧ Fun K x x st f fd ∧ Binds K fd ps []
structure Has (P : Program) (w : World) (K : PySem.W.Frag) (mg : Str → Option Value) (base : Heap) (k : Nat) (x : Str) (ps : List Str) (sp : Sp) : Prop where
  ex : ∃ f fd, mg x = some (.ref f) ∧ FnOk P w K mg base CX0 k f fd ps sp ∧ PySem.W.keepIn K (.ref f) = true ∧ Binds K fd ps [] ∧ ∃ oc od osl, K.lookup f = some ⟨oc, od, .func fd, osl⟩
section
variable {P : Program} {w : World} {K : PySem.W.Frag} {mg : Str → Option Value} {base : Heap} {k : Nat} {x : Str} {ps N : List Str} {st : Stmt} {γ : Type} {Pc : γ → Prop} {pre outs : γ → List Sl} {res : γ → Sl} {sp : Sp}
theorem Has.mono {j : Nat} (h : Has P w K mg base j x ps sp) (l : j ≤ k) : Has P w K mg base k x ps sp := by
  obtain ⟨f, fd, a, b, c, d⟩ := h.ex
  exact ⟨f, fd, a, b.mono l, c, d⟩
/-- the context of a def's body -/
abbrev BX (P : Program) (w : World) (K : PySem.W.Frag) (mg : Str → Option Value) (base : Heap) (N : List Str) (qual : Str) (sc : Scope) (f : Addr) (cdv : Value) (A : Around) (outer : List Env) (s : Shared) (H : Hp) (E : XK) : Cx := (cxOf CX0 P w K mg base N qual sc f cdv A outer s H E).nox
theorem has_ok (D : Dfn K mg x st ps) (S : FnScope N ps (defScope st)) (hl : ∀ g, (pre g).length = ps.length)
    (body : ∀ (g : γ) (vs : List V) (f : Addr) (cdv : Value) (A : Around) (outer : List Env) (s : Shared) (H : Hp) (E : XK), Room k (A.deeper (envOfC x (defScope st) s.heap.objs.size f cdv)) → vs.length = ps.length → (∀ (i : Nat) (w : V) (φ : OO), (pre g)[i]? = some (Sl.o w φ) → vs[i]? = some w) → Pc g →
      GS (BX P w K mg base N x (defScope st) f cdv A outer s H E) (pre g ++ List.replicate (N.length - ps.length) .u) (defBody st) (fun _ => False) (RtF (outs g) (res g) vs)) : Has P w K mg base (k + 1) x ps (FS Pc pre outs res) := by
  obtain ⟨f, fd, a, b, c⟩ := D.ex
  refine ⟨f, fd, a, fn_ok b S hl (fun X g vs cdv A outer s H E hr e hv ho hp => ?_), b.kp, c, (by obtain ⟨oc, od, kV, dc, pm, an, cdv, ct, osl, h1, h2, h3⟩ := b.ex; exact ⟨oc, od, osl, h2⟩)⟩
  subst e
  exact body g vs f cdv A outer s H E hr hv ho hp
end
section
variable {X : Cx} {Γ : List Sl} {e a b : Expr} {es : List Expr} {R : RR} {pos p : Pos} {γ : Type} {P : γ → Prop} {pre outs : γ → List Sl} {res : γ → Sl} {k : Nat} {ps : List Str} {x : Str} {ks : List AK} {E : XK}
theorem ge_callH (g : γ) (F : Has X.prog X.w X.K X.mg X.base k x ps (FS P pre outs res)) (hr : Room k X.A) (hP : P g) (ha : GA X Γ (e :: es) ks)
    (hpre : pre g = preOf Γ ks := by rfl) (hres : res g = .r R := by rfl) (hout : upOuts Γ ks (outs g) = Γ := by rfl) (hl : (outs g).length = ks.length := by rfl) (nd : nodupB (ownsOf ks) = true := by rfl) (hg : Gl X x := by rfl)
    (hdb : (x == ("__debug__" : Str)) = false := by decide) (he : starEach (e :: es) X.env = (false, eval e X.env) :: starEach es X.env := by rfl) (hpl : (backTo pos (starEach es X.env)).any (·.1) = false := by rfl) : GE X Γ (.Call (.Name x p) (e :: es) [] pos) R := by
  obtain ⟨f, fd, h1, h2, h3, h4, h5⟩ := F.ex
  exact ge_call g h2 hr h1 h3 h4 hP ha hpre hres hout hl nd hg pass0 hdb he hpl (E := E0)
theorem go_callH {ψ : OO} (g : γ) (F : Has X.prog X.w X.K X.mg X.base k x ps (FS P pre outs res)) (hr : Room k X.A) (hP : P g) (ha : GA X Γ (e :: es) ks)
    (hpre : pre g = preOf Γ ks := by rfl) (hres : res g = .x ψ := by rfl) (hout : upOuts Γ ks (outs g) = Γ := by rfl) (hl : (outs g).length = ks.length := by rfl) (nd : nodupB (ownsOf ks) = true := by rfl) (hg : Gl X x := by rfl)
    (hdb : (x == ("__debug__" : Str)) = false := by decide) (he : starEach (e :: es) X.env = (false, eval e X.env) :: starEach es X.env := by rfl) (hpl : (backTo pos (starEach es X.env)).any (·.1) = false := by rfl) : GO X Γ (.Call (.Name x p) (e :: es) [] pos) ψ := by
  obtain ⟨f, fd, h1, h2, h3, h4, h5⟩ := F.ex
  exact go_call g h2 hr h1 h3 h4 hP ha hpre hres hout hl nd hg pass0 hdb he hpl (E := E0)
theorem ge_call1 {Ra : RR} (g : γ) (F : Has X.prog X.w X.K X.mg X.base k x ps (FS P pre outs res)) (hr : Room k X.A) (hP : P g) (ha : GE X Γ a Ra)
    (hpre : pre g = [.r Ra] := by rfl) (hres : res g = .r R := by rfl) (hl : (outs g).length = 1 := by rfl) (hg : Gl X x := by rfl)
    (hdb : (x == ("__debug__" : Str)) = false := by decide) (h1 : starEach [a] X.env = (false, eval a X.env) :: starEach [] X.env := by rfl) (hpl : (backTo pos (starEach [] X.env)).any (·.1) = false := by rfl) : GE X Γ (.Call (.Name x p) [a] [] pos) R :=
  ge_callH g F hr hP (ks := [.r Ra]) (ga_cons ha ga_nil h1) hpre hres rfl hl rfl hg hdb h1 hpl
theorem ge_call2 {Ra Rb : RR} (g : γ) (F : Has X.prog X.w X.K X.mg X.base k x ps (FS P pre outs res)) (hr : Room k X.A) (hP : P g) (ha : GE X Γ a Ra) (hb : GE X Γ b Rb)
    (hpre : pre g = [.r Ra, .r Rb] := by rfl) (hres : res g = .r R := by rfl) (hl : (outs g).length = 2 := by rfl) (hg : Gl X x := by rfl)
    (hdb : (x == ("__debug__" : Str)) = false := by decide) (h1 : starEach [a, b] X.env = (false, eval a X.env) :: starEach [b] X.env := by rfl) (h2 : starEach [b] X.env = (false, eval b X.env) :: starEach [] X.env := by rfl) (hpl : (backTo pos (starEach [b] X.env)).any (·.1) = false := by rfl) : GE X Γ (.Call (.Name x p) [a, b] [] pos) R :=
  ge_callH g F hr hP (ks := [.r Ra, .r Rb]) (ga_cons ha (ga_cons hb ga_nil h2) h1) hpre hres rfl hl rfl hg hdb h1 hpl
/-- the law itself, for the end -/
theorem Has.law {P : Program} {w : World} {K : PySem.W.Frag} {mg : Str → Option Value} {base : Heap} {k : Nat} {x : Str} {ps : List Str} {sp : Sp} {f : Addr} {fd : FuncData} {oc : Value} {od : Option Addr} {osl : Array (Option Value)} (h : Has P w K mg base k x ps sp) (hm : mg x = some (.ref f)) (l : K.lookup f = some ⟨oc, od, .func fd, osl⟩) : FnOk P w K mg base CX0 k f fd ps sp := by
  obtain ⟨f', fd', a, b, c, d, oc', od', osl', e⟩ := h.ex
  rw [hm] at a; cases a
  rw [l] at e; cases e
  exact b
/-- the type of what R tells -/
def TyR (K : PySem.W.Frag) (R : RR) (t : String) : Prop := ∀ v H, R.p v H → TyX K H v (.type t)
theorem ty_int {K : PySem.W.Frag} {n : Int} : TyR K (isInt n) "int" := fun v H h => by cases h; exact .base (.int n)
theorem ty_bl {K : PySem.W.Frag} {n : Bool} : TyR K (isB n) "bool" := fun v H h => by cases h; exact .base (.bl n)
theorem ty_str {K : PySem.W.Frag} {n : Str} : TyR K (isS n) "str" := fun v H h => by cases h; exact .base (.str n)
theorem ty_tup {K : PySem.W.Frag} {rs : List RR} : TyR K (isTup K rs) "tuple" := fun v H ⟨a, vs, e, h, _⟩ => by
  subst e
  rcases h with (h | ⟨o, h⟩) | ⟨o, its, n, hk, hc, _⟩
  · exact .base (.tup h)
  · exact .fTuple h
  · exact .kTuple hk hc
theorem ty_lst {K : PySem.W.Frag} {rs : List RR} : TyR K (isLst K rs) "list" := fun v H ⟨a, vs, e, h, _⟩ => by
  subst e
  rcases h with (h | ⟨o, h⟩) | ⟨o, its, n, hk, hc, _⟩
  · exact .base (.lst h)
  · exact .base (.frz h)
  · exact .kList hk hc
theorem ge_isi {t : String} {T : Str} {tn : String} {r : Bool} {pT : Pos} (hm : X.mg "isinstance" = none) (hT : X.mg T = none) (ha : GE X Γ a R) (ty : TyR X.K R t) (hk : kitB t tn = some r) (hv : bootBuiltins T = some (.type tn)) (hg : Gl X "isinstance" := by rfl) (hgT : Gl X T := by rfl)
    (hb : bootBuiltins ("isinstance" : Str) = some (.builtin "isinstance") := by decide +kernel) (hn : T ≠ "__name__" := by decide) (hd : (T == ("__debug__" : Str)) = false := by decide) (h1 : starEach [a, .Name T pT] X.env = (false, eval a X.env) :: starEach [.Name T pT] X.env := by rfl) (h2 : starEach [.Name T pT] X.env = (false, eval (.Name T pT) X.env) :: starEach [] X.env := by rfl)
    (hpl : (backTo pos (starEach [.Name T pT] X.env)).any (·.1) = false := by rfl) : GE X Γ (.Call (.Name "isinstance" p) [a, .Name T pT] [] pos) (isB r) :=
  ge_callB (rs := [R, isV (.ty tn)]) call_isi hg hm hb (ga_cons ha (ga_cons (ge_const (v := .ty tn) (pe_bltn hgT hT hv rfl hn hd) fun _ => rfl) ga_nil h2) h1) (fun vs Hb H Q s h q => by
    obtain ⟨v, w, rfl, h1, h2⟩ := all2_2 h
    have h2' : w = .ty tn := h2
    subst h2'
    exact ⟨v, .ty tn, .type t, .type tn, r, rfl, .ty tn, ty v H (R.mono s h1), kit_ty hk, q _ rfl⟩) (h1 := h1) (h2 := hpl)
end
end G
namespace G
open PySem PySem.Spec PyProof.Rows L2
section
variable {X : Cx} {Γ Γ' : List Sl} {e a b : Expr} {es : List Expr} {R R' Ra Rb : RR} {rs : List RR} {pos pos' p p2 : Pos} {N N1 N' : List Sl → Prop} {Rt : Rtn} {rest : List Stmt}
variable {Hb H : Hp} {σ : L2.St} {hs : Nat → Hp}
/-- what a rule that lays a new list asks, from a state -/
theorem GO.new {vs : List V} [i : Ims rs] {Hb1 H1 : Hp} {hs1 : Nat → Hp} {Q : VK} (A1 : At Γ Hb1 H1 σ hs1) (s1 : Step Hb H hs Hb1 H1 hs1) (off : ∀ i a o, hs1 i a = some o → Hb1 a = none) (r : All2 rs vs Hb1)
    (q : ∀ v H' Hb' hs' h, Step Hb H hs Hb' H' hs' → At Γ Hb' H' σ hs' → (ownL rs).p v Hb' h → Same h H' → (∀ a o, h a = some o → Hb' a = none ∧ (∀ i, hs' i a = none) ∧ (Cl Hb hs a ∨ H a = none)) → Q v H') : ∀ p, H1 p = none → Q (.ref p) (upd H1 p (.lst vs)) := fun p np => by
  obtain ⟨A2, s2⟩ := A1.layN (o := .lst vs) np
  obtain ⟨nb, ni⟩ := A1.fresh np
  refine q _ _ _ _ (sing p (.lst vs)) (Step.trans off s1 s2) A2 ⟨p, vs, rfl, rfl, r⟩ (fun b o e => ?_) fun b o e => ?_
  · obtain ⟨rfl, rfl⟩ := sing_some e; exact upd_same
  · obtain ⟨rfl, rfl⟩ := sing_some e
    refine ⟨nb, ni, ?_⟩
    cases z : H b with
    | none => exact .inr rfl
    | some w =>
      by_cases n : ∀ i, hs i b = none
      · rw [s1.k b w z n] at np; cases np
      · obtain ⟨i, hi⟩ := Classical.not_forall.mp n
        cases z : hs i b with
        | none => exact absurd z hi
        | some u => exact .inl (.inr ⟨i, u, z⟩)
theorem All2.cut {vs : List V} {H : Hp} (h : All2 rs vs H) (i j : Nat) : All2 ((rs.drop i).take j) ((vs.drop i).take j) H := (h.drop i).take j
instance ims_drop [i : Ims rs] {n : Nat} : Ims (rs.drop n) := ⟨fun x h => i.im x (List.mem_of_mem_drop h)⟩
instance ims_take [i : Ims rs] {n : Nat} : Ims (rs.take n) := ⟨fun x h => i.im x (List.mem_of_mem_take h)⟩
/-- a[:n] -/
theorem go_to [ims : Ims rs] {n : Nat} {k : Int} (ha : GE X Γ a (isLst X.K rs)) (hb : GE X Γ b (isInt k)) (hk : k = (n : Int) := by rfl) : GO X Γ (.Subscript a (.Slice none (some b) none p2) pos) (ownL (rs.take n)) := .mk fun σ H Hb hs Q A q => by
  refine we_of (pe_slice sl_list pe_sem po_none (po_some pe_sem)) (ha.run σ H Hb hs _ A fun v H1 Hb1 hs1 s1 A1 ⟨l, vs, e1, e2, e3⟩ => ?_)
  refine hb.run σ H1 Hb1 hs1 _ A1 fun u H2 Hb2 hs2 s2 A2 r2 => ⟨k, r2, l, vs, e1, same_sqL A2.same (same_sqL s2.b e2), ?_⟩
  have e : cutV vs none (some k) = vs.take n := by
    unfold cutV
    rw [hk, HT.sIx_none, HT.sIx_nat, List.drop_zero, Nat.sub_zero]
    by_cases z : n ≤ vs.length
    · rw [Nat.min_eq_left z]
    · rw [Nat.min_eq_right (by omega), List.take_of_length_le (Nat.le_refl _), List.take_of_length_le (by omega)]
  rw [e]
  exact GO.new A2 (A1.trans s1 s2) A2.off ((e3.mono s2.b).take n) q
/-- a[n:] -/
theorem go_from [ims : Ims rs] {n : Nat} {k : Int} (ha : GE X Γ a (isLst X.K rs)) (hb : GE X Γ b (isInt k)) (hk : k = (n : Int) := by rfl) : GO X Γ (.Subscript a (.Slice (some b) none none p2) pos) (ownL (rs.drop n)) := .mk fun σ H Hb hs Q A q => by
  refine we_of (pe_slice sl_list pe_sem (po_some pe_sem) po_none) (ha.run σ H Hb hs _ A fun v H1 Hb1 hs1 s1 A1 ⟨l, vs, e1, e2, e3⟩ => ?_)
  refine hb.run σ H1 Hb1 hs1 _ A1 fun u H2 Hb2 hs2 s2 A2 r2 => ⟨k, r2, l, vs, e1, same_sqL A2.same (same_sqL s2.b e2), ?_⟩
  have e : cutV vs (some k) none = vs.drop n := by
    unfold cutV
    rw [hk, HT.sIx_none, HT.sIx_nat]
    by_cases z : n ≤ vs.length
    · rw [Nat.min_eq_left z, List.take_of_length_le (by rw [List.length_drop]; exact Nat.le_refl _)]
    · rw [Nat.min_eq_right (by omega), List.drop_of_length_le (Nat.le_refl _), List.drop_of_length_le (by omega)]
      simp
  rw [e]
  exact GO.new A2 (A1.trans s1 s2) A2.off ((e3.mono s2.b).drop n) q
/-- list(a) -/
theorem go_list [ims : Ims rs] (hm : X.mg "list" = none) (ha : GE X Γ a (isLst X.K rs)) (hg : Gl X "list" := by rfl) (h1 : starEach [a] X.env = (false, eval a X.env) :: starEach [] X.env := by rfl) (h2 : (backTo pos (starEach [] X.env)).any (·.1) = false := by rfl) : GO X Γ (.Call (.Name "list" p) [a] [] pos) (ownL rs) := .mk fun σ H Hb hs Q A q => by
  refine we_of (pe_callTy call_list_of hg hm boot_list pa_sem (by decide) (by decide) h1 h2) ((ga_cons ha ga_nil h1).run σ H Hb hs _ A fun vs H1 Hb1 hs1 s1 A1 r1 => ?_)
  obtain ⟨v, rfl, l, ws, rfl, h3, h4⟩ := all2_1 (aks_all (rs := [isLst X.K rs]) r1)
  exact ⟨l, ws, rfl, .inl (same_sqL A1.same h3), GO.new A1 s1 A1.off h4 q⟩
/-- tuple(a), a a list -/
theorem ge_tuple (hm : X.mg "tuple" = none) (ha : GE X Γ a (isLst X.K rs)) (hg : Gl X "tuple" := by rfl) (h1 : starEach [a] X.env = (false, eval a X.env) :: starEach [] X.env := by rfl) (h2 : (backTo pos (starEach [] X.env)).any (·.1) = false := by rfl) : GE X Γ (.Call (.Name "tuple" p) [a] [] pos) (isTup X.K rs) := .mk fun σ H Hb hs Q A q => by
  refine we_of (pe_callTy call_tuple_of hg hm boot_tuple pa_sem (by decide) (by decide) h1 h2) ((ga_cons ha ga_nil h1).run σ H Hb hs _ A fun vs H1 Hb1 hs1 s1 A1 r1 => ?_)
  obtain ⟨v, rfl, l, ws, rfl, h3, h4⟩ := all2_1 (aks_all (rs := [isLst X.K rs]) r1)
  refine ⟨l, ws, rfl, .inl ⟨same_sqL A1.same h3, fun t nt => ?_⟩⟩
  obtain ⟨A2, s2⟩ := A1.lay (o := .tup ws) nt
  exact q _ _ _ _ (A1.trans s1 s2) A2 ⟨t, ws, rfl, SqT.of upd_same, h4.mono s2.b⟩
theorem gs_oex {α : Type} {P : α → Prop} {ψ : α → OO} {φ : OO} {w : V} (i : Nat) (h : ∀ Hb h, φ.p w Hb h → ∃ x, P x ∧ (ψ x).p w Hb h) (hr : ∀ x, P x → GS X (Γ.set i (.o w (ψ x))) rest N Rt) (hΓ : Γ[i]? = some (.o w φ) := by rfl) : GS X Γ rest N Rt := .mk fun σ H Hb hs D A q r W tk xc => by
  obtain ⟨e, p⟩ := A.sl i _ hΓ
  obtain ⟨x, px, p2⟩ := h Hb (hs i) p
  refine (hr x px).run σ H Hb hs D ⟨by rw [List.length_set]; exact A.len, A.same, A.sub, A.off, A.dis, fun j s q => ?_⟩ q r W tk xc
  by_cases z : i = j
  · subst z
    rw [List.getElem?_set_self (lt_of_get hΓ)] at q
    cases q
    exact ⟨e, p2⟩
  · rw [List.getElem?_set_ne z] at q
    exact A.sl j s q
theorem gs_ocv {φ ψ : OO} {w : V} (i : Nat) (h : ∀ Hb h, φ.p w Hb h → ψ.p w Hb h) (hr : GS X (Γ.set i (.o w ψ)) rest N Rt) (hΓ : Γ[i]? = some (.o w φ) := by rfl) : GS X Γ rest N Rt :=
  gs_oex (α := Unit) (P := fun _ => True) (ψ := fun _ => ψ) i (fun Hb h' q => ⟨(), trivial, h Hb h' q⟩) (fun _ _ => hr) hΓ
def Wr (φ : OO) (w : V) (k : Int) (R : RR) (ψ : OO) : Prop := ∀ Hb h v, φ.p w Hb h → R.p v Hb → ∃ a vs n, w = .ref a ∧ h a = some (.lst vs) ∧ ixN vs.length k = some n ∧ ψ.p w Hb (upd h a (.lst (vs.set n v)))
def Rdx (φ : OO) (w : V) (k : Int) (R : RR) : Prop := ∀ Hb h, φ.p w Hb h → ∃ a vs n v, w = .ref a ∧ h a = some (.lst vs) ∧ ixN vs.length k = some n ∧ vs[n]? = some v ∧ R.p v Hb
theorem At.wr {H2 Hb2 : Hp} {hs2 : Nat → Hp} (A2 : At Γ Hb2 H2 σ hs2) {i : Nat} {w : V} {φ ψ : OO} (hΓ : Γ[i]? = some (.o w φ)) {k : Int} (hw : Wr φ w k R ψ) {v : V} (r : R.p v Hb2) :
    ∃ a vs n, w = .ref a ∧ H2 a = some (.lst vs) ∧ ixN vs.length k = some n ∧ ∃ hs', At (Γ.set i (.o w ψ)) Hb2 (upd H2 a (.lst (vs.set n v))) σ hs' ∧ Step Hb2 H2 hs2 Hb2 (upd H2 a (.lst (vs.set n v))) hs' := by
  obtain ⟨e, p⟩ := A2.sl i _ hΓ
  obtain ⟨a, vs, n, e1, e2, e3, e4⟩ := hw Hb2 (hs2 i) v p r
  refine ⟨a, vs, n, e1, A2.sub i a _ e2, e3, _, A2.setOwn hΓ (fun b o e => ?_) e4 (fun b o e n => ?_) (fun b o e => ?_)⟩
  · by_cases z : b = a
    · subst z; exact ⟨_, e2⟩
    · rw [upd_ne z] at e; exact ⟨o, e⟩
  · rw [upd_ne (fun z => by subst z; rw [e2] at n; cases n)]; exact e
  · by_cases z : b = a
    · subst z; rw [upd_same] at e ⊢; exact e
    · rw [upd_ne z] at e ⊢; exact A2.sub i b o e
theorem gs_setW (i : Nat) {x : Str} {w : V} {φ ψ : OO} {k : Int} {spos : Pos} (he : GE X Γ e R) (hk : GE X Γ b (isInt k)) (hw : Wr φ w k R ψ) (hr : GS X (Γ.set i (.o w ψ)) rest N Rt) (hΓ : Γ[i]? = some (.o w φ) := by rfl) (hN : X.N[i]? = some x := by rfl) (hv : Vis X.env.scope x := by first | exact Or.inl rfl | exact Or.inr (Or.inl rfl) | exact Or.inr (Or.inr rfl))
    (hm : PS X (.Assign [.Subscript (.Name x pos') b spos] e pos) (tAsg (WE X e) (gSub (tVar i) (WE X b) rSetL)) := by exact ps_asg pe_sem (pg_sub (pv _) pe_sem set_list)) :
    GS X Γ (.Assign [.Subscript (.Name x pos') b spos] e pos :: rest) N Rt := .mk fun σ H Hb hs D A q r W tk xc => by
  refine wss_of (pss_cons hm pss_sem) (he.run σ H Hb hs _ A fun v H1 Hb1 hs1 t1 A1 r1 => ?_)
  obtain ⟨e0, _⟩ := A1.sl i _ hΓ
  refine ⟨w, e0, hk.run σ H1 Hb1 hs1 _ A1 fun u H2 Hb2 hs2 t2 A2 r2 => ?_⟩
  obtain ⟨a, vs, n, e1, e2, e3, hs3, A3, s3⟩ := A2.wr hΓ hw (R.mono t2.b r1)
  refine ⟨a, vs, k, n, e1, r2, e2, e3, ?_⟩
  have t3 := A1.trans t1 (A2.trans t2 s3)
  exact hr.run _ _ Hb2 _ D A3 (fun Γ2 σ2 H2 Hb2 hs2 n2 s3 A4 => q Γ2 σ2 H2 Hb2 hs2 n2 (A3.trans t3 s3) A4) (fun v H2 Hb2 hs2 s3 r2 => r v H2 Hb2 hs2 (A3.trans t3 s3) r2) W tk (fun c9 d9 σ9 H2 Hb2 hs2 s3 x9 => xc c9 d9 σ9 H2 Hb2 hs2 (A3.trans t3 s3) x9)
theorem get_list : PGet X (rIxL X.K) := by
  intro pins s σ H x y v u Q I rx ry h
  obtain ⟨p, xs, i, z, rfl, rfl, hq, he, q⟩ := h
  cases rx
  obtain ⟨t, rfl⟩ := ry
  obtain ⟨its, r, pl, hz⟩ := I.list hq
  obtain ⟨j, h1, h2, h3, h4, h5⟩ := atI_get he
  obtain ⟨w, ew, rw'⟩ := r.get h2
  have hl := r.length
  have hn := line63
  have fin : EP X pins σ Q w s := ⟨z, H, I, rw', q⟩
  by_cases h0 : 0 ≤ i
  · have hj : i.toNat = j := by
      rw [seqIndex_of h0 h5] at h1
      exact Option.some.inj h1
    exact wpAny_getItem_list pl.isList h0 (by omega) (by rw [hj]; simpa using ew) fin
  · have hj : (i + (its.toArray.size : Int)).toNat = j := by
      rw [seqIndex_neg (by omega) h4] at h1
      rw [List.size_toArray, ← hl]
      exact Option.some.inj h1
    exact wpAny_getItem_list_neg pl.isList (by omega) (by rw [List.size_toArray] <;> omega) (by omega) (by rw [hj]; simpa using ew) fin
theorem gs_augW (i : Nat) {x : Str} {w : V} {φ ψ : OO} {k n m : Int} {spos : Pos} (he : GE X Γ e (isInt m)) (hk : GE X Γ b (isInt k)) (hd : Rdx φ w k (isInt n)) (hw : Wr φ w k (isInt (n + m)) ψ) (hr : GS X (Γ.set i (.o w ψ)) rest N Rt) (hΓ : Γ[i]? = some (.o w φ) := by rfl) (hN : X.N[i]? = some x := by rfl) (hv : Vis X.env.scope x := by first | exact Or.inl rfl | exact Or.inr (Or.inl rfl) | exact Or.inr (Or.inr rfl))
    (hm : PS X (.AugAssign (.Subscript (.Name x pos') b spos) .Add e pos) (tAugS (tVar i) (WE X b) (WE X e) (rIxL X.K) (ipI fun i j => i + j) rSetL) := by exact ps_augS (pv _) pe_sem get_list pe_sem ip_add set_list) :
    GS X Γ (.AugAssign (.Subscript (.Name x pos') b spos) .Add e pos :: rest) N Rt := .mk fun σ H Hb hs D A q r W tk xc => by
  obtain ⟨e0, _⟩ := A.sl i _ hΓ
  refine wss_of (pss_cons hm pss_sem) ⟨w, e0, hk.run σ H Hb hs _ A fun u H1 Hb1 hs1 t1 A1 r1 => ?_⟩
  obtain ⟨_, p1⟩ := A1.sl i _ hΓ
  obtain ⟨a, vs, j, v, e1, e2, e3, e4, e5⟩ := hd Hb1 _ p1
  refine ⟨a, vs, k, v, e1, r1, SqL.of (A1.sub i a _ e2), by unfold atI; rw [e3]; exact e4, he.run σ H1 Hb1 hs1 _ A1 fun u2 H2 Hb2 hs2 t2 A2 r2 => ⟨n, m, e5, r2, ?_⟩⟩
  obtain ⟨a', vs', n', e1', e2', e3', hs3, A3, s3⟩ := A2.wr (v := .int (n + m)) hΓ hw rfl
  refine ⟨a', vs', k, n', e1', r1, e2', e3', ?_⟩
  have t3 := A1.trans t1 (A2.trans t2 s3)
  exact hr.run _ _ Hb2 _ D A3 (fun Γ2 σ2 H2 Hb2 hs2 n2 s3 A4 => q Γ2 σ2 H2 Hb2 hs2 n2 (A3.trans t3 s3) A4) (fun v H2 Hb2 hs2 s3 r2 => r v H2 Hb2 hs2 (A3.trans t3 s3) r2) W tk (fun c9 d9 σ9 H2 Hb2 hs2 s3 x9 => xc c9 d9 σ9 H2 Hb2 hs2 (A3.trans t3 s3) x9)
/-- an owned slot lent for a block's test, for the whole of what follows: where it is never changed again, it is let go -/
theorem gs_frz {φ : OO} {w : V} {Rl : RR} (i : Nat) (hR : Rds φ w Rl) (hr : GS X (Γ.set i (.r Rl)) rest N Rt) (hΓ : Γ[i]? = some (.o w φ) := by rfl) : GS X Γ rest N Rt := .mk fun σ H Hb hs D A q r W tk xc => by
  have A1 := A.lend hΓ hR
  have s1 : Step Hb H hs (join Hb (hs i)) H (putN hs i no) := ⟨join_l _ _, fun _ _ h _ => h, fun a c => by
    rcases c with ⟨o, c⟩ | ⟨j, o, c⟩
    · rcases join_c c with c | c
      · exact .inl (.inl ⟨o, c⟩)
      · exact .inl (.inr ⟨i, o, c⟩)
    · by_cases z : j = i
      · subst z; rw [putN_same] at c; cases c
      · rw [putN_ne z] at c; exact .inl (.inr ⟨j, o, c⟩)⟩
  exact hr.run σ H _ _ D A1 (fun Γ2 σ2 H2 Hb2 hs2 n2 s2 A2 => q Γ2 σ2 H2 Hb2 hs2 n2 (A1.trans s1 s2) A2) (fun v H2 Hb2 hs2 s2 r2 => r v H2 Hb2 hs2 (A1.trans s1 s2) r2) W tk (fun c9 d9 σ9 H2 Hb2 hs2 s2 x9 => xc c9 d9 σ9 H2 Hb2 hs2 (A1.trans s1 s2) x9)
end
section
variable (K : PySem.W.Frag)
def bagH (a l : Addr) (ns : List Int) (i d s : Int) : Hp := fun b => if b = a then some (.lst [.ref l, .int i, .int d, .int s]) else if b = l then some (.lst (ns.map V.int)) else none
def bagX (ns : List Int) (i d s : Int) : OO where
  p := fun v _ h => ∃ a l, v = .ref a ∧ l ≠ a ∧ h = bagH a l ns i d s
  im := fun _ h => h
  nt := fun ⟨a, l, e1, e2, e3⟩ b xs r => by
    subst e3
    rcases r with r | ⟨o, r⟩
    · unfold bagH at r; split at r
      · cases r
      · split at r <;> cases r
    · unfold bagH at r; split at r
      · cases r
      · split at r <;> cases r
  nf := fun ⟨a, l, e1, e2, e3⟩ b ob u r => by
    subst e3
    unfold bagH at r; split at r
    · cases r
    · split at r <;> cases r
/-- a bag, whatever is in it -/
def bagO : OO where
  p := fun v Hb h => ∃ ns i d s, (ns.length ≤ 63 ∧ 0 ≤ i) ∧ (bagX ns i d s).p v Hb h
  im := fun e ⟨ns, i, d, s, h, p⟩ => ⟨ns, i, d, s, h, (bagX ns i d s).im e p⟩
  nt := fun ⟨ns, i, d, s, h, p⟩ => (bagX ns i d s).nt p
  nf := fun ⟨ns, i, d, s, h, p⟩ => (bagX ns i d s).nf p
theorem bag_rds {ns : List Int} {i d s : Int} {w : V} : Rds (bagX ns i d s) w (isLst K [isLst K (ns.map isInt), isInt i, isInt d, isInt s]) := fun Hb h ⟨a, l, e1, e2, e3⟩ Hc c1 c2 => by
  refine ⟨a, _, e1, SqL.of (c2 a (.lst [.ref l, .int i, .int d, .int s]) (by rw [e3]; exact if_pos rfl)), ⟨l, ns.map V.int, rfl, SqL.of (c2 l _ (by rw [e3]; unfold bagH; rw [if_neg e2, if_pos rfl])), All2.map (fun _ => rfl) ns⟩, rfl, rfl, rfl, trivial⟩
theorem bagH_upd {a l : Addr} {ns : List Int} {i d s i' d' s' : Int} (e : l ≠ a) : upd (bagH a l ns i d s) a (.lst [.ref l, .int i', .int d', .int s']) = bagH a l ns i' d' s' := by
  funext b
  by_cases z : b = a
  · subst z; rw [upd_same]; unfold bagH; rw [if_pos rfl]
  · rw [upd_ne z]; unfold bagH; rw [if_neg z, if_neg z]
theorem bag_wr1 {ns : List Int} {i d s n : Int} {w : V} : Wr (bagX ns i d s) w 1 (isInt n) (bagX ns n d s) := fun Hb h v ⟨a, l, e1, e2, e3⟩ r => by
  cases r
  subst e3
  exact ⟨a, _, 1, e1, if_pos rfl, rfl, a, l, e1, e2, bagH_upd e2⟩
theorem bag_wr2 {ns : List Int} {i d s n : Int} {w : V} : Wr (bagX ns i d s) w 2 (isInt n) (bagX ns i n s) := fun Hb h v ⟨a, l, e1, e2, e3⟩ r => by
  cases r
  subst e3
  exact ⟨a, _, 2, e1, if_pos rfl, rfl, a, l, e1, e2, bagH_upd e2⟩
theorem bag_rd1 {ns : List Int} {i d s : Int} {w : V} : Rdx (bagX ns i d s) w 1 (isInt i) := fun Hb h ⟨a, l, e1, e2, e3⟩ => by
  subst e3
  exact ⟨a, _, 1, .int i, e1, if_pos rfl, rfl, rfl, rfl⟩
theorem all2_ints {H : Hp} : ∀ {ns : List Int} {ws : List V}, All2 (ns.map isInt) ws H → ws = ns.map V.int
  | [], [], _ => rfl
  | n :: ns, w :: ws, h => by
    have p1 : w = .int n := h.1
    rw [p1, all2_ints (ns := ns) h.2]; rfl
/-- the bag's display: a list of ints, three ints -/
theorem go_bag {X : Cx} {Γ : List Sl} {e0 e1 e2 e3 : Expr} {pos : Pos} {ns : List Int} {i d s : Int} (h0 : GO X Γ e0 (ownL (ns.map isInt))) (h1 : GE X Γ e1 (isInt i)) (h2 : GE X Γ e2 (isInt d)) (h3 : GE X Γ e3 (isInt s))
    (st : starEach [e0, e1, e2, e3] X.env = (false, eval e0 X.env) :: starEach [e1, e2, e3] X.env := by rfl) (st1 : starEach [e1, e2, e3] X.env = (false, eval e1 X.env) :: starEach [e2, e3] X.env := by rfl) (st2 : starEach [e2, e3] X.env = (false, eval e2 X.env) :: starEach [e3] X.env := by rfl) (st3 : starEach [e3] X.env = (false, eval e3 X.env) :: starEach [] X.env := by rfl) :
    GO X Γ (.List [e0, e1, e2, e3] pos) (bagX ns i d s) := .mk fun σ H Hb hs Q A q => by
  refine we_of (pe_lst (pa_cons pe_sem pa_sem st)) (h0.run σ H Hb hs _ A fun v H1 Hb1 hs1 h s1 A1 r1 z1 f1 => ?_)
  refine (ga_cons h1 (ga_cons h2 (ga_cons h3 ga_nil st3) st2) st1).run σ H1 Hb1 hs1 _ A1 fun vs H2 Hb2 hs2 s2 A2 r2 => ?_
  obtain ⟨l, ws, e1, e2, e3⟩ := r1
  subst e1 e2
  have ew : ws = ns.map V.int := all2_ints e3
  subst ew
  have r3 := aks_all (rs := [isInt i, isInt d, isInt s]) r2
  match vs, r3 with
  | [v1, v2, v3], r3 =>
    obtain ⟨x1, x2, x3, _⟩ := r3
    have x1' : v1 = .int i := x1
    have x2' : v2 = .int d := x2
    have x3' : v3 = .int s := x3
    subst x1' x2' x3'
    refine ⟨line_of (by show 4 ≤ 1000; decide), fun p np => ?_⟩
    obtain ⟨A3, s3⟩ := A2.layN (o := .lst [.ref l, .int i, .int d, .int s]) np
    obtain ⟨nb, ni⟩ := A2.fresh np
    obtain ⟨fb, fi, fc⟩ := f1 l _ sing_same
    have l1 : H1 l = some (.lst (ns.map V.int)) := z1 l _ sing_same
    have l2 : H2 l = some (.lst (ns.map V.int)) := s2.k l _ l1 fi
    have lp : l ≠ p := fun z => by subst z; rw [l2] at np; cases np
    have ncl : ¬ Cl Hb2 hs2 l := fun c => by
      rcases s2.c l c with (⟨o, c⟩ | ⟨j, o, c⟩) | c
      · rw [fb] at c; cases c
      · rw [fi j] at c; cases c
      · rw [l1] at c; cases c
    have lb2 : Hb2 l = none := by
      cases z : Hb2 l with
      | none => rfl
      | some o => exact absurd (.inl ⟨o, z⟩) ncl
    have lh2 : ∀ j, hs2 j l = none := fun j => by
      cases z : hs2 j l with
      | none => rfl
      | some o => exact absurd (.inr ⟨j, o, z⟩) ncl
    have hget : ∀ b o, bagH p l ns i d s b = some o → (b = p ∧ o = .lst [.ref l, .int i, .int d, .int s]) ∨ (b = l ∧ o = .lst (ns.map V.int)) := fun b o e => by
      unfold bagH at e
      split at e
      · exact .inl ⟨by assumption, (Option.some.inj e).symm⟩
      · split at e
        · exact .inr ⟨by assumption, (Option.some.inj e).symm⟩
        · cases e
    have t2 := A1.trans s1 s2
    refine q _ _ _ _ (bagH p l ns i d s) (A2.trans t2 s3) A3 ⟨p, l, rfl, lp, rfl⟩ (fun b o e => ?_) fun b o e => ?_
    · rcases hget b o e with ⟨rfl, rfl⟩ | ⟨rfl, rfl⟩
      · exact upd_same
      · rw [upd_ne lp]; exact l2
    · rcases hget b o e with ⟨rfl, rfl⟩ | ⟨rfl, rfl⟩
      · refine ⟨nb, ni, ?_⟩
        cases z : H b with
        | none => exact .inr rfl
        | some w =>
          by_cases n : ∀ i, hs i b = none
          · rw [t2.k b w z n] at np; cases np
          · obtain ⟨i, hi⟩ := Classical.not_forall.mp n
            cases z : hs i b with
            | none => exact absurd z hi
            | some u => exact .inl (.inr ⟨i, u, z⟩)
      · exact ⟨lb2, lh2, fc⟩
end
section
variable {X : Cx} {Γ : List Sl} {a b : Expr} {pos : Pos}
theorem ge_mulS {i j : Int} (ha : GE X Γ a (isInt i)) (hb : GE X Γ b (isInt j)) (hc : CMul i j) : GE X Γ (.BinOp a .Mult b pos) (isInt (i * j)) := ge_op op_mul ha hb (rv_I hc)
theorem ge_fdivS {i j : Int} (ha : GE X Γ a (isInt i)) (hb : GE X Γ b (isInt j)) (hc : CDiv i j) : GE X Γ (.BinOp a .FloorDiv b pos) (isInt (i / j)) := ge_op op_fdiv ha hb (rv_I hc)
end
section
variable {X : Cx} {Γ : List Sl} {e : Expr} {R : RR} {rest : List Stmt} {pos : Pos} {N : List Sl → Prop}
theorem At.cv {Hb H : Hp} {σ : L2.St} {hs : Nat → Hp} (A : At Γ Hb H σ hs) {i : Nat} {w : V} {φ ψ : OO} (hΓ : Γ[i]? = some (.o w φ)) (hc : ∀ Hb h, φ.p w Hb h → ψ.p w Hb h) : At (Γ.set i (.o w ψ)) Hb H σ hs :=
  ⟨by rw [List.length_set]; exact A.len, A.same, A.sub, A.off, A.dis, fun j s q => by
    by_cases z : i = j
    · subst z
      rw [List.getElem?_set_self (lt_of_get hΓ)] at q
      cases q
      obtain ⟨e, p⟩ := A.sl i _ hΓ
      exact ⟨e, hc _ _ p⟩
    · rw [List.getElem?_set_ne z] at q; exact A.sl j s q⟩
theorem gs_ret1c {n : Nat} {w : V} {vs : List V} {φ ψ : OO} (he : GE X Γ e R) (hl : vs.length = n) (hc : ∀ Hb h, φ.p w Hb h → ψ.p w Hb h) (hΓ : Γ[0]? = some (.o w φ) := by rfl) : GS X Γ (.Return (some e) pos :: rest) N (RtF (.o w ψ :: List.replicate n .u) (.r R) (w :: vs)) :=
  gs_ret he fun v H' Hb' σ' hs' A r => ⟨putN (fun _ => no) 0 (hs' 0), res_at1 (A.cv hΓ hc) (List.getElem?_set_self (lt_of_get hΓ)) hl putN_same (fun i a o e => by
      by_cases w : i = 0
      · subst w; rw [putN_same] at e; exact A.sub 0 a o e
      · rw [putN_ne w] at e; cases e) (fun i a o e => by
      by_cases w : i = 0
      · subst w; rw [putN_same] at e; exact A.off 0 a o e
      · rw [putN_ne w] at e; cases e) (fun i j a o e ne => by
      by_cases w : i = 0
      · subst w; rw [putN_ne (Ne.symm ne)]; rfl
      · rw [putN_ne w] at e; cases e) ⟨v, rfl, r⟩, fun a c => by
      rcases c with c | ⟨j, o, c⟩
      · exact .inl c
      · by_cases w : j = 0
        · subst w; rw [putN_same] at c; exact .inr ⟨0, o, c⟩
        · rw [putN_ne w] at c; cases c⟩
end
theorem own_first {vs : List V} {w : V} (h : vs[0]? = some w) : ∃ r, vs = w :: r := by
  cases vs with
  | nil => cases h
  | cons v r => cases Option.some.inj h; exact ⟨r, rfl⟩
end G
namespace G
open PySem PySem.Spec PyProof.Rows L2
section
variable {Γ Γ' : List Sl} {Hb H : Hp} {σ : L2.St} {hs : Nat → Hp}
theorem At.same_slots (A : At Γ Hb H σ hs) (hl : Γ'.length = Γ.length) (h : ∀ (i : Nat) (s : Sl), Γ'[i]? = some s → SlAt s σ[i]? Hb (hs i)) : At Γ' Hb H σ hs := ⟨by rw [A.len, hl], A.same, A.sub, A.off, A.dis, h⟩
/-- some x of a slot's relation -/
theorem At.ex {α : Type} {p : α → Prop} {c : α → RR} (A : At Γ Hb H σ hs) (i : Nat) (hΓ : Γ[i]? = some (.r (exR p c))) : ∃ x, p x ∧ At (Γ.set i (.r (c x))) Hb H σ hs := by
  obtain ⟨v, e, x, px, r⟩ := A.sl i _ hΓ
  refine ⟨x, px, A.same_slots (List.length_set) fun j s q => ?_⟩
  by_cases z : i = j
  · subst z
    rw [List.getElem?_set_self (lt_of_get hΓ)] at q
    cases q
    exact ⟨v, e, r⟩
  · rw [List.getElem?_set_ne z] at q; exact A.sl j s q
theorem At.last {Γ : List Sl} {s s' : Sl} (A : At (Γ ++ [s]) Hb H σ hs) (h : ∀ o Hb h, SlAt s o Hb h → SlAt s' o Hb h) : At (Γ ++ [s']) Hb H σ hs := A.same_slots (by simp) fun i t e => by
  by_cases z : i < Γ.length
  · rw [List.getElem?_append_left z] at e
    exact A.sl i t (by rw [List.getElem?_append_left z]; exact e)
  · rw [List.getElem?_append_right (by omega)] at e
    have z2 : i = Γ.length := by
      have := lt_of_get e
      rw [List.length_singleton] at this
      omega
    subst z2
    rw [Nat.sub_self] at e
    cases Option.some.inj e
    exact h _ _ _ (A.sl Γ.length s (by rw [List.getElem?_append_right (Nat.le_refl _), Nat.sub_self]; rfl))
end
theorem Has.imp {P : Program} {w : World} {K : PySem.W.Frag} {mg : Str → Option Value} {base : Heap} {k : Nat} {x : Str} {ps : List Str} {γ γ' : Type} {Pc : γ → Prop} {pre outs : γ → List Sl} {res : γ → Sl} {Pc' : γ' → Prop} {pre' outs' : γ' → List Sl} {res' : γ' → Sl}
    (F : Has P w K mg base k x ps (FS Pc pre outs res)) (h : ∀ g', Pc' g' → ∀ Hb H σ hs, At (pre' g') Hb H σ hs → ∃ g, Pc g ∧ At (pre g) Hb H σ hs ∧ outs g = outs' g' ∧ ∀ o Hb h, SlAt (res g) o Hb h → SlAt (res' g') o Hb h) : Has P w K mg base k x ps (FS Pc' pre' outs' res') := by
  obtain ⟨f, fd, a, b, c, d, e⟩ := F.ex
  refine ⟨f, fd, a, b.imp (fun vs H Q E q => ?_), c, d, e⟩
  obtain ⟨g', Hb, hs, p, A, q⟩ := q
  obtain ⟨g, pg, A2, eo, er⟩ := h g' p Hb H _ hs A
  refine ⟨g, Hb, hs, pg, A2, fun v H' Hb' hs' s A' => q v H' Hb' hs' s ?_⟩
  rw [eo] at A'
  exact A'.last er
section
variable {X : Cx} {Γ : List Sl} {a b : Expr} {pos pn : Pos} {k : Nat} {ps : List Str} {x : Str} {α β : Type} {c1 : α → RR} {c2 : β → RR}
end
theorem pk {P : Int → Prop} {n : Int} (h : P n) : ∀ v H, (isInt n).p v H → (exR P isInt).p v H := fun _ _ q => ⟨n, h, q⟩
/-- 10 ** 9 and the like, by its value -/
theorem ge_powL {X : Cx} {Γ : List Sl} {pos p1 p2 : Pos} {j1 j2 : Nat} {i j : Int} (N : Int) (hc : CPow i j := by exact ⟨by decide, by decide, by decide⟩) (h : i ^ j.toNat = N := by decide +kernel) : GE X Γ (.BinOp (.Constant (.int i) j1 p1) .Pow (.Constant (.int j) j2 p2) pos) (isInt N) := ge_eq (ge_op op_pow ge_int ge_int (rv_I hc)) (by rw [h])
theorem gs_drops {X : Cx} {rest : List Stmt} {N : List Sl → Prop} {Rt : Rtn} : ∀ (is : List Nat) {Γ : List Sl}, GS X (is.foldl (fun Γ i => Γ.set i .u) Γ) rest N Rt → GS X Γ rest N Rt
  | [], _, h => h
  | i :: is, _, h => gs_drop i (gs_drops is h)
def AllR : List RR → RR → Prop
  | [], _ => True
  | r :: rs, R => (∀ v H, r.p v H → R.p v H) ∧ AllR rs R
theorem AllR.get : ∀ {rs : List RR} {R r : RR} {n : Nat}, AllR rs R → rs[n]? = some r → ∀ v H, r.p v H → R.p v H
  | [], _, _, _, _, e => by simp at e
  | x :: rs, R, r, 0, h, e => by cases Option.some.inj e; exact h.1
  | x :: rs, R, r, n + 1, h, e => AllR.get (rs := rs) (n := n) h.2 (by simpa using e)
section
variable {X : Cx} {Γ : List Sl} {a b : Expr} {rs : List RR} {R : RR} {pos : Pos}
theorem ge_pick (ha : GE X Γ a (isLst X.K rs)) (hb : GE X Γ b (exR (fun r : Int => 0 ≤ r ∧ r < (rs.length : Int)) isInt)) (h : AllR rs R) (hs : PlainIx b := by exact fun _ _ => rfl) : GE X Γ (.Subscript a b pos) R :=
  ge_ixLx ha hb (fun k ⟨h0, h1⟩ => by
    have hlt : k.toNat < rs.length := by omega
    exact ⟨k.toNat, rs[k.toNat], by omega, List.getElem?_eq_getElem hlt, h.get (List.getElem?_eq_getElem hlt)⟩) hs
theorem ge_opx0 {op : Operator} {g : Int → Int → Int} {p q z : Int → Prop} (ho : OpR X (binaryOp op) (rI0 fun i j => .int (g i j))) (ha : GE X Γ a (exR p isInt)) (hb : GE X Γ b (exR q isInt)) (hc : ∀ i j, p i → q j → z (g i j)) : GE X Γ (.BinOp a op b pos) (exR z isInt) :=
  ge_op ho ha hb (rv_exl fun i pi => rv_exr fun j qj => rv_conv rv_I0 fun v H h => ⟨_, hc i j pi qj, h⟩)
theorem ge_x {n : Int} {p : Int → Prop} (h : GE X Γ a (isInt n)) (hp : p n) : GE X Γ a (exR p isInt) := ge_conv h fun v H q => ⟨n, hp, q⟩
end
end G
namespace G
open PySem PySem.Spec PyProof.Rows L2
structure En {α : Type} [DecidableEq α] (K : PySem.W.Frag) (c : α → RR) (n : Nat) (dom : α → Prop) : Prop where
  ex : ∃ enc : α → PyData, (∀ x v H, (c x).p v H → Dp K H v (enc x)) ∧ (∀ x, dom x → (enc x).canLay0 = true) ∧ (∀ x, (enc x).depth ≤ n) ∧ ∀ x y, PyData.eqv (enc x) (enc y) = decide (x = y)
abbrev All1 {α : Type} : α → Prop := fun _ => True
section
variable {K : PySem.W.Frag} {α β δ : Type} [DecidableEq α] [DecidableEq β] [DecidableEq δ] {c : α → RR} {d : β → RR} {e : δ → RR} {n m k : Nat} {dom : α → Prop} {dom' : β → Prop} {dom'' : δ → Prop}
theorem En.mono (h : En K c n dom) (l : n ≤ m) : En K c m dom := by
  obtain ⟨enc, a, b, c, d⟩ := h.ex
  exact ⟨enc, a, b, fun x => Nat.le_trans (c x) l, d⟩
theorem en_int : En K isInt 0 All1 := ⟨fun x => .int x, fun x v H h => by cases h; exact .int x, fun _ _ => rfl, fun _ => Nat.le_refl _, fun x y => by show (x == y) = _; exact Bool.beq_eq_decide_eq x y⟩
theorem en_bl : En K isB 0 All1 := ⟨fun x => .bool x, fun x v H h => by cases h; exact .bl x, fun _ _ => rfl, fun _ => Nat.le_refl _, fun x y => by show (x == y) = _; exact Bool.beq_eq_decide_eq x y⟩
theorem enc_all {f : α → PyData} (f1 : ∀ x v H, (c x).p v H → Dp K H v (f x)) {H : Hp} : ∀ {xs : List α} {vs : List V}, All2 (xs.map c) vs H → DpAll K H vs (xs.map f)
  | [], [], _ => .nil
  | x :: xs, v :: vs, h => .cons (f1 _ _ _ h.1) (enc_all f1 (xs := xs) h.2)
theorem eqv_all {f : α → PyData} (f4 : ∀ x y, PyData.eqv (f x) (f y) = decide (x = y)) : ∀ xs ys : List α, PyData.eqvAll (xs.map f) (ys.map f) = decide (xs = ys)
  | [], [] => rfl
  | [], _ :: _ => rfl
  | _ :: _, [] => rfl
  | x :: xs, y :: ys => by
    show (PyData.eqv _ _ && PyData.eqvAll (xs.map f) (ys.map f)) = _
    rw [f4, eqv_all f4 xs ys, ← Bool.decide_and]
    exact decide_eq_decide.mpr ⟨fun h => by rw [h.1, h.2], fun h => List.cons.inj h⟩
theorem lay_all {f : α → PyData} (f2 : ∀ x, dom x → (f x).canLay0 = true) : ∀ xs : List α, (∀ x ∈ xs, dom x) → PyData.canLayAll0 (xs.map f) = true
  | [], _ => rfl
  | x :: xs, h => by
    show (PyData.canLay0 _ && PyData.canLayAll0 (xs.map f)) = true
    rw [f2 x (h x List.mem_cons_self), lay_all f2 xs fun y hy => h y (List.mem_cons_of_mem _ hy)]; rfl
theorem dep_all {f : α → PyData} (f3 : ∀ x, (f x).depth ≤ n) : ∀ xs : List α, PyData.depthAll (xs.map f) ≤ n
  | [] => Nat.zero_le _
  | x :: xs => by
    show max (PyData.depth _) (PyData.depthAll (xs.map f)) ≤ n
    have := f3 x
    have := dep_all f3 xs
    omega
theorem en_tupL (h : En K c n dom) : En K (fun xs : List α => isTup K (xs.map c)) (n + 1) (fun xs => ∀ x ∈ xs, dom x) := by
  obtain ⟨f, f1, f2, f3, f4⟩ := h.ex
  exact ⟨fun xs => .tuple (xs.map f), fun x v H ⟨a, vs, e1, e2, e3⟩ => by subst e1; exact .tup e2 (enc_all f1 e3), fun xs h => lay_all f2 xs h, fun xs => Nat.succ_le_succ (dep_all f3 xs), fun xs ys => eqv_all f4 xs ys⟩
theorem en_lstL (h : En K c n dom) : En K (fun xs : List α => isLst K (xs.map c)) (n + 1) (fun xs => ∀ x ∈ xs, dom x) := by
  obtain ⟨f, f1, f2, f3, f4⟩ := h.ex
  exact ⟨fun xs => .list (xs.map f), fun x v H ⟨a, vs, e1, e2, e3⟩ => by subst e1; exact .lst e2 (enc_all f1 e3), fun xs h => lay_all f2 xs h, fun xs => Nat.succ_le_succ (dep_all f3 xs), fun xs ys => eqv_all f4 xs ys⟩
end
section
variable {X : Cx} {Γ : List Sl} {a b : Expr} {pos : Pos} {α : Type} [DecidableEq α] {c : α → RR} {n : Nat} {dom : α → Prop} {x y : α} {k : Nat}
theorem rv_eqE (E : En X.K c n dom) (hn : n ≤ 64) (hx : dom x) (hy : dom y) : RV (rEqD X.K) (c x) (c y) (isB (decide (x = y))) := fun v w Hb H Q s h1 h2 q => by
  obtain ⟨f, f1, f2, f3, f4⟩ := E.ex
  refine ⟨f x, f y, f1 _ _ _ ((c x).mono s h1), f1 _ _ _ ((c y).mono s h2), ?_, ?_, by rw [f4]; exact q _ rfl⟩
  · show (PyData.canLay0 _ && decide _) = true
    rw [f2 x hx, decide_eq_true (Nat.le_trans (f3 x) hn)]; rfl
  · show (PyData.canLay0 _ && decide _) = true
    rw [f2 y hy, decide_eq_true (Nat.le_trans (f3 y) hn)]; rfl
theorem rv_neE (E : En X.K c n dom) (hn : n ≤ 64) (hx : dom x) (hy : dom y) : RV (rNeD X.K) (c x) (c y) (isB (!decide (x = y))) := fun v w Hb H Q s h1 h2 q => by
  obtain ⟨f, f1, f2, f3, f4⟩ := E.ex
  refine ⟨f x, f y, f1 _ _ _ ((c x).mono s h1), f1 _ _ _ ((c y).mono s h2), ?_, ?_, by rw [f4]; exact q _ rfl⟩
  · show (PyData.canLay0 _ && decide _) = true
    rw [f2 x hx, decide_eq_true (Nat.le_trans (f3 x) hn)]; rfl
  · show (PyData.canLay0 _ && decide _) = true
    rw [f2 y hy, decide_eq_true (Nat.le_trans (f3 y) hn)]; rfl
theorem ge_eqE (E : En X.K c n dom) (hr : Room k X.A) (ha : GE X Γ a (c x)) (hb : GE X Γ b (c y)) (hx : dom x) (hy : dom y) (hn : n ≤ 64 := by decide) : GE X Γ (.Compare a [.Eq] [b] pos) (isB (decide (x = y))) := ge_cmp (op_eqD hr.units) ha hb (rv_eqE E hn hx hy) (nomark _)
theorem gt_neE (E : En X.K c n dom) (hr : Room k X.A) (ha : GE X Γ a (c x)) (hb : GE X Γ b (c y)) (hx : dom x) (hy : dom y) (hn : n ≤ 64 := by decide) : GT X Γ (.Compare a [.NotEq] [b] pos) (· = !decide (x = y)) := gt_cmp (op_neD hr.units) ha hb (rv_neE E hn hx hy) (nomark _)
end
end G
namespace G
open PySem PySem.Spec PyProof.Rows L2
/-- the state at the law's entry: the script alone -/
theorem law_at {K : PySem.W.Frag} {H : Hp} {a : Addr} {ns : List Int} (hS : SqL K H a (ns.map V.int)) : At [.r (isLst K (ns.map isInt))] H H ([V.ref a].map some) (fun _ => no) :=
  ⟨rfl, Same.refl _, (fun _ _ _ e => nomatch e), (fun _ _ _ e => nomatch e), (fun _ _ _ _ e => nomatch e), fun i s e => by
    cases i with
    | zero => cases Option.some.inj e; exact ⟨.ref a, rfl, a, ns.map V.int, rfl, hS, All2.map (fun _ => rfl) ns⟩
    | succ i => simp at e⟩
end G
namespace G
open PySem PySem.Spec PyProof.Rows L2
structure HasX (P : Program) (w : World) (K : PySem.W.Frag) (mg : Str → Option Value) (base : Heap) (k : Nat) (x : Str) (ps : List Str) (sp : Sp) : Prop where
  ex : ∃ f fd, mg x = some (.ref f) ∧ FnOk P w K mg base (L2.CX P w) k f fd ps sp ∧ PySem.W.keepIn K (.ref f) = true ∧ Binds K fd ps []
section
variable {P : Program} {w : World} {K : PySem.W.Frag} {mg : Str → Option Value} {base : Heap} {k : Nat} {x : Str} {ps N : List Str} {st : Stmt} {γ : Type} {Pc : γ → Prop} {pre outs : γ → List Sl} {res : γ → Sl} {xs : γ → Value → Option Addr → Prop} {xouts : γ → List Sl} {sp : Sp}
/-- the context of a raising def's body -/
abbrev BY (P : Program) (w : World) (K : PySem.W.Frag) (mg : Str → Option Value) (base : Heap) (N : List Str) (qual : Str) (sc : Scope) (f : Addr) (cdv : Value) (A : Around) (outer : List Env) (s : Shared) (H : Hp) (E : XK) : Cx := cxOf (L2.CX P w) P w K mg base N qual sc f cdv A outer s H E
end
structure Exc (K : PySem.W.Frag) (mg : Str → Option Value) (x : Str) (C : Addr) : Prop where
  g : mg x = some (.ref C)
  x : PySem.W.excIn K C [.type "ValueError", .type "Exception", .type "BaseException", .type "object"] "ValueError.__new__" = true
  k : PySem.W.keepIn K (.ref C) = true
  b : PySem.W.subIn K (.ref C) (.type "BaseException") = some true
  t : PySem.W.typeIn K (.ref C) = some (.type "type")
section
variable {X : Cx} {Γ : List Sl} {e : Expr} {pos p p2 tp : Pos} {N : List Sl → Prop} {Rt : Rtn} {rest : List Stmt} {C : Addr} {x m : Str} {j : Nat}
end
section
variable {X : Cx} {Γ : List Sl} {e : Expr} {R : RR} {pos p p2 : Pos} {N : List Sl → Prop} {rest : List Stmt} {n : Nat} {vs : List V} {xs : Value → Option Addr → Prop} {xouts : List Sl}
end
section
variable {X : Cx} {Γ : List Sl} {e : Expr} {es : List Expr} {R : RR} {pos p pos' np rp tp : Pos} {N : List Sl → Prop} {Rt : Rtn} {rest suite : List Stmt} {γ : Type} {P : γ → Prop} {pre outs xouts : γ → List Sl} {res : γ → Sl} {xs : γ → Value → Option Addr → Prop} {k : Nat} {ps : List Str} {x y : Str} {ks : List AK} {C : Addr} {b₀ : Stmt}
end
end G
namespace G
open PySem PySem.Spec PyProof.Rows L2
def exO {α : Type} (P : α → Prop) (φ : α → OO) : OO := ⟨fun v H h => ∃ x, P x ∧ (φ x).p v H h, fun e ⟨x, p, h⟩ => ⟨x, p, (φ x).im e h⟩, fun ⟨x, p, h⟩ => (φ x).nt h, fun ⟨x, p, h⟩ => (φ x).nf h⟩
section
variable {X : Cx} {Γ : List Sl} {e a b c : Expr} {R R' Ra Rb Rc : RR} {pos pos' p : Pos} {N : List Sl → Prop} {Rt : Rtn} {rest : List Stmt}
theorem ge_frzx {α : Type} {P : α → Prop} {f : α → List RR} [i : ∀ x, Ims (f x)] (h : GO X Γ e (exO P fun x => ownL (f x))) : GE X Γ e (exR P fun x => isLst X.K (f x)) := ge_frz h fun v Hb h' d ⟨x, px, a, vs, h1, h2, h3⟩ Hc c1 c2 => ⟨x, px, a, vs, h1, SqL.of (c2 a _ (by rw [h2]; exact sing_same)), h3.mono c1⟩
theorem gt_chainP {op op' : CmpOp} {r r' : R2} {P P' : Bool → Prop} (ho : OpR X (compareOp op) r) (ho' : OpR X (compareOp op') r') (ha : GE X Γ a Ra) (hb : GE X Γ b Rb) (hr : RV r Ra Rb (exR P isB)) (hc : P true → GE X Γ c Rc) (hr' : P true → RV r' Rb Rc (exR P' isB)) (hf : P false → P' false)
    (hm : lastMarks [op, op'] [b, c] = false := by with_unfolding_all rfl) : GT X Γ (.Compare a [op, op'] [b, c] pos) P' := .mk fun σ H Hb hs Q A q => by
  refine wt_of (pt_chain ho ho' pe_sem pe_sem pe_sem hm) (ha.run σ H Hb hs _ A fun v H1 Hb1 hs1 s1 A1 r1 => hb.run σ H1 Hb1 hs1 _ A1 fun u H2 Hb2 hs2 s2 A2 r2 => ?_)
  refine hr v u Hb2 H2 _ A2.same (Ra.mono s2.b r1) r2 fun z hz => ?_
  obtain ⟨k, pk, ez⟩ := hz
  refine ⟨k, ez, ?_⟩
  cases k with
  | true =>
    refine iteT ((hc pk).run σ H2 Hb2 hs2 _ A2 fun w H3 Hb3 hs3 s3 A3 r3 => ?_)
    refine hr' pk u w Hb3 H3 _ A3.same (Rb.mono s3.b r2) r3 fun z hz => ?_
    obtain ⟨k, pk, ez⟩ := hz
    exact ⟨k, ez, q k H3 Hb3 hs3 (A1.trans s1 (A2.trans s2 s3)) A3 pk⟩
  | false => exact iteF ⟨false, rfl, q false H2 Hb2 hs2 (A1.trans s1 s2) A2 (hf pk)⟩
theorem rv_x {r : R2} {c : Bool} (h : RV r Ra Rb (isB c)) : RV r Ra Rb (exR (· = c) isB) := rv_conv h fun v H q => ⟨c, rfl, q⟩
/-- i op j op' k, ints -/
theorem gt_chain {op op' : CmpOp} {f g : Int → Int → Bool} {i j k : Int} (ho : OpR X (compareOp op) (rI0 fun i j => .bl (f i j))) (ho' : OpR X (compareOp op') (rI0 fun i j => .bl (g i j))) (ha : GE X Γ a (isInt i)) (hb : GE X Γ b (isInt j)) (hc : f i j = true → GE X Γ c (isInt k))
    (hm : lastMarks [op, op'] [b, c] = false := by with_unfolding_all rfl) : GT X Γ (.Compare a [op, op'] [b, c] pos) (· = (f i j && g j k)) :=
  gt_chainP (P := (· = f i j)) ho ho' ha hb (rv_x rv_B0) (fun h => hc h.symm) (fun h => rv_conv rv_B0 fun v H q => ⟨g j k, by rw [← h]; rfl, q⟩) (fun h => by rw [← h]; rfl) hm
theorem ge_isN {o : Bool} (ha : GE X Γ a R) (ho : ∀ v H, R.p v H → decide (v = .non) = o) {j p} : GE X Γ (.Compare a [.Is] [.Constant .none j p] pos) (isB o) := ge_cmp op_isN ha ge_non (fun x y Hb H Q _ h1 h2 q => ⟨h2, by rw [ho _ _ h1]; exact q _ rfl⟩) (nomark _)
theorem gt_isN {o : Bool} (ha : GE X Γ a R) (ho : ∀ v H, R.p v H → decide (v = .non) = o) {j p} : GT X Γ (.Compare a [.Is] [.Constant .none j p] pos) (· = o) := gt_cmp op_isN ha ge_non (fun x y Hb H Q _ h1 h2 q => ⟨h2, by rw [ho _ _ h1]; exact q _ rfl⟩) (nomark _)
theorem gt_notN {o : Bool} (ha : GE X Γ a R) (ho : ∀ v H, R.p v H → decide (v = .non) = o) {j p} : GT X Γ (.Compare a [.IsNot] [.Constant .none j p] pos) (· = !o) := gt_cmp op_notN ha ge_non (fun x y Hb H Q _ h1 h2 q => ⟨h2, by rw [ho _ _ h1]; exact q _ rfl⟩) (nomark _)
theorem bools_of {H : Hp} : ∀ {bs : List Bool} {vs : List V}, All2 (bs.map isB) vs H → vs = bs.map V.bl
  | [], [], _ => rfl
  | b :: bs, v :: vs, h => by
    have p1 : v = .bl b := h.1
    rw [p1, bools_of (bs := bs) h.2]; rfl
theorem ge_all {bs : List Bool} (hm : X.mg "all" = none) (ha : GE X Γ a (isLst X.K (bs.map isB))) (hc : X.calm = true := by rfl) (hg : Gl X "all" := by rfl) (h1 : starEach [a] X.env = (false, eval a X.env) :: starEach [] X.env := by rfl) : GE X Γ (.Call (.Name "all" p) [a] [] pos) (isB (bs.all id)) :=
  ge_callB (rs := [isLst X.K (bs.map isB)]) (cr_all hc) hg hm PyProof.Rows.boot_all (ga_cons ha ga_nil h1) (fun vs Hb H Q s h q => by
    obtain ⟨v, rfl, l, ws, rfl, h2, h3⟩ := all2_1 h
    have := bools_of h3
    subst this
    exact ⟨l, bs, rfl, same_sqL s h2, q _ rfl⟩) (h1 := h1)
end
theorem at_wipe {Γ : List Sl} {Hb H : Hp} {σ : L2.St} {hs : Nat → Hp} (A : At Γ Hb H σ hs) {j : Nat} (hj : Γ[j]? = some .u) : At Γ Hb H (wipe σ [j]) hs := by
  refine ⟨by rw [wipe_length]; exact A.len, A.same, A.sub, A.off, A.dis, fun i s e => ?_⟩
  by_cases z : j = i
  · subst z; rw [hj] at e; cases e; trivial
  · show SlAt s (σ.set j none)[i]? Hb (hs i)
    rw [List.getElem?_set_ne z]; exact A.sl i s e
theorem at_unwipe {Γ : List Sl} {Hb H : Hp} {σ : L2.St} {hs : Nat → Hp} {j : Nat} (A : At Γ Hb H (wipe σ [j]) hs) (hj : Γ[j]? = some .u) : At Γ Hb H σ hs := by
  refine ⟨by have := A.len; rwa [wipe_length] at this, A.same, A.sub, A.off, A.dis, fun i s e => ?_⟩
  by_cases z : j = i
  · subst z; rw [hj] at e; cases e; trivial
  · have := A.sl i s e
    have h2 : SlAt s (σ.set j none)[i]? Hb (hs i) := this
    rwa [List.getElem?_set_ne z] at h2
theorem At.undo {Γ : List Sl} {Hb H : Hp} {σ : L2.St} {hs : Nat → Hp} {j : Nat} {R : RR} {v : V} (A : At (Γ.set j (.r R)) Hb H (σ.set j (some v)) hs) (hj : Γ[j]? = some .u) : At Γ Hb H σ hs := by
  refine ⟨by have := A.len; rwa [List.length_set, List.length_set] at this, A.same, A.sub, A.off, A.dis, fun i s e => ?_⟩
  by_cases z : j = i
  · subst z; rw [hj] at e; cases e; trivial
  · have := A.sl i s (by rw [List.getElem?_set_ne z]; exact e)
    rwa [List.getElem?_set_ne z] at this
/-- the new list so far -/
def LcI {β : Type} (Γ : List Sl) (σ : L2.St) (c : β → RR) (Hb1 H1 : Hp) (hs1 : Nat → Hp) (D : Addr) (I : Nat → List β → Prop) (i : Nat) (H : Hp) : Prop :=
  ∃ ys Hb2 hs2 vs, I i ys ∧ Step Hb1 H1 hs1 Hb2 H hs2 ∧ At Γ Hb2 H (σ) hs2 ∧ H D = some (.lst vs) ∧ All2 (ys.map c) vs Hb2 ∧ Hb2 D = none ∧ ∀ k, hs2 k D = none
section
variable {X : Cx} {Γ : List Sl} {elt it : Expr} {ifs : List Expr} {β : Type} {c : β → RR} {rs : List RR} {j : Nat} {I : Nat → List β → Prop} {σ : L2.St} {Hb1 H1 : Hp} {hs1 : Nat → Hp} {D : Addr}
/-- one turn -/
theorem lc_turn {Y : Cx} {R : RR} {x : V} {i : Nat} {H : Hp} {Pt : Bool → Prop} {tt : TT} {te : TE} (hj : Γ[j]? = some .u) (hm : ∀ y v H H', TX H H' → (c y).p v H → (c y).p v H') (hn : H1 D = none)
    (rx : R.p x Hb1) (hI : ∀ i ys, I i ys → ys.length ≤ i) (hi : i < 1000000)
    (ht : ∀ ys, I i ys → ∀ (σ : L2.St) (H Hb : Hp) (hs : Nat → Hp) (Q : Bool → Hp → Prop), At (Γ.set j (.r R)) Hb H σ hs → (∀ b H' Hb' hs', Step Hb H hs Hb' H' hs' → At (Γ.set j (.r R)) Hb' H' σ hs' → Pt b → Q b H') → tt σ H Q)
    (he : ∀ ys, I i ys → Pt true → ∀ (σ : L2.St) (H Hb : Hp) (hs : Nat → Hp) (Q : VK), At (Γ.set j (.r R)) Hb H σ hs → (∀ v H' Hb' hs', Step Hb H hs Hb' H' hs' → At (Γ.set j (.r R)) Hb' H' σ hs' → (exR (fun y => I (i + 1) (ys ++ [y])) c).p v Hb' → Q v H') → te σ H Q)
    (hf : ∀ ys, I i ys → Pt false → I (i + 1) ys) (p : LcI Γ (wipe σ [j]) c Hb1 H1 hs1 D I i H) :
    gName j x (wipe σ [j]) H fun σ2 H2 => wipe σ2 [j] = wipe σ [j] ∧ tt σ2 H2 fun b H3 => if b = true then te σ2 H3 fun y H4 => ∃ acc, H4 D = some (.lst acc) ∧ acc.length < sizeLine ∧ LcI Γ (wipe σ [j]) c Hb1 H1 hs1 D I (i + 1) (upd H4 D (.lst (acc ++ [y]))) else LcI Γ (wipe σ [j]) c Hb1 H1 hs1 D I (i + 1) H3 := by
  obtain ⟨ys, Hb2, hs2, vs, iy, s2, A2, hD, hv, nD, mD⟩ := p
  have off1 : ∀ i a o, hs2 i a = some o → Hb2 a = none := A2.off
  refine ⟨by show ((σ.set j none).set j (some x)).set j none = σ.set j none; rw [List.set_set, List.set_set], ?_⟩
  have A3 := A2.set (i := j) (v := x) (R := R) (R.mono s2.b rx)
  -- the list's cell is nobody's: a step keeps it
  have kept : ∀ {Hb3 H3 : Hp} {hs3 : Nat → Hp}, Step Hb2 H hs2 Hb3 H3 hs3 → H3 D = some (.lst vs) ∧ Hb3 D = none ∧ ∀ k, hs3 k D = none := fun {Hb3 H3 hs3} s => by
    have ncl : ¬ Cl Hb3 hs3 D := fun cl => by
      rcases s.c D cl with (⟨o, e⟩ | ⟨k, o, e⟩) | e
      · rw [nD] at e; cases e
      · rw [mD k] at e; cases e
      · rw [hD] at e; cases e
    refine ⟨s.k D _ hD mD, ?_, fun k => ?_⟩
    · cases z : Hb3 D with
      | none => rfl
      | some o => exact absurd (.inl ⟨o, z⟩) ncl
    · cases z : hs3 k D with
      | none => rfl
      | some o => exact absurd (.inr ⟨k, o, z⟩) ncl
  refine ht ys iy _ H Hb2 hs2 _ A3 fun b H3 Hb3 hs3 s3 A4 pb => ?_
  obtain ⟨k1, k2, k3⟩ := kept s3
  cases b with
  | false => exact iteF ⟨ys, Hb3, hs3, vs, hf ys iy pb, A2.trans s2 s3, A4.undo hj, k1, hv.mono s3.b, k2, k3⟩
  | true =>
    refine iteT (he ys iy pb _ H3 Hb3 hs3 _ A4 fun v H4 Hb4 hs4 s4 A5 r5 => ?_)
    have s34 : Step Hb2 H hs2 Hb4 H4 hs4 := A4.trans s3 s4
    obtain ⟨l1, l2, l3⟩ := kept s34
    obtain ⟨y, iy2, ry⟩ := r5
    refine ⟨vs, l1, ?_, ys ++ [y], Hb4, hs4, vs ++ [v], iy2, ?_, ?_, upd_same, ?_, l2, l3⟩
    · rw [hv.len, List.length_map]
      have := hI i ys iy
      exact Nat.lt_of_lt_of_le (show ys.length < 1000000 by omega) (by decide : 1000000 ≤ sizeLine)
    · have s24 := A2.trans s2 s34
      exact ⟨s24.b, fun a o e n => by rw [upd_ne (ne_of_none e hn)]; exact s24.k a o e n, s24.c⟩
    · have A6 := A5.undo hj
      refine ⟨A6.len, fun a o e => ?_, fun k a o e => ?_, A6.off, A6.dis, A6.sl⟩
      · rw [upd_ne (fun z => by subst z; rw [l2] at e; cases e)]; exact A6.same a o e
      · rw [upd_ne (fun z => by subst z; rw [l3 k] at e; cases e)]; exact A6.sub k a o e
    · rw [List.map_append]
      exact (hv.mono s34.b).app (rs' := [c y]) (vs' := [v]) ⟨ry, trivial⟩
end
/-- what stands behind a comprehension -/
theorem lc_done {Γ : List Sl} {β : Type} {c : β → RR} [ic : ∀ x, Im (c x)] {j : Nat} {I : Nat → List β → Prop} {σ : L2.St} {Hb0 H0 Hb1 H1 : Hp} {hs0 hs1 : Nat → Hp} {D : Addr} {n : Nat} {H : Hp} {Q : VK} (hj : Γ[j]? = some .u) (s0 : Step Hb0 H0 hs0 Hb1 H1 hs1) (off1 : ∀ i a o, hs1 i a = some o → Hb1 a = none) (hn : H1 D = none)
    (q : ∀ v H' Hb' hs' h, Step Hb0 H0 hs0 Hb' H' hs' → At Γ Hb' H' σ hs' → (exO (I n) fun ys => ownL (ys.map c)).p v Hb' h → Same h H' → (∀ a o, h a = some o → Hb' a = none ∧ (∀ i, hs' i a = none) ∧ (Cl Hb0 hs0 a ∨ H0 a = none)) → Q v H')
    (p : LcI Γ (wipe σ [j]) c Hb1 H1 hs1 D I n H) : Q (.ref D) H := by
  obtain ⟨ys, Hb2, hs2, vs, iy, s2, A2, hD, hv, nD, mD⟩ := p
  refine q _ H Hb2 hs2 (sing D (.lst vs)) (Step.trans off1 s0 s2) (at_unwipe A2 hj) ⟨ys, iy, D, vs, rfl, rfl, hv⟩ (fun b o e => ?_) fun b o e => ?_
  · obtain ⟨rfl, rfl⟩ := sing_some e; exact hD
  · obtain ⟨rfl, rfl⟩ := sing_some e
    refine ⟨nD, mD, ?_⟩
    cases z : H0 b with
    | none => exact .inr rfl
    | some w =>
      by_cases n : ∀ i, hs0 i b = none
      · rw [s0.k b w z n] at hn; cases hn
      · obtain ⟨i, hi⟩ := Classical.not_forall.mp n
        cases z : hs0 i b with
        | none => exact absurd z hi
        | some u => exact .inl (.inr ⟨i, u, z⟩)
theorem lc_start {Γ : List Sl} {β : Type} {c : β → RR} {j : Nat} {I : Nat → List β → Prop} {σ : L2.St} {Hb1 H1 : Hp} {hs1 : Nat → Hp} {D : Addr} (hj : Γ[j]? = some .u) (A1 : At Γ Hb1 H1 σ hs1) (hn : H1 D = none) (h0 : I 0 []) : LcI Γ (wipe σ [j]) c Hb1 H1 hs1 D I 0 (upd H1 D (.lst [])) := by
  obtain ⟨A2, s2⟩ := A1.layN (o := .lst []) hn
  obtain ⟨nb, ni⟩ := A1.fresh hn
  exact ⟨[], Hb1, hs1, [], h0, s2, at_wipe A2 hj, upd_same, trivial, nb, ni⟩
/-- the blocks of a comprehension -/
abbrev Blk (X : Cx) (scope : Scope) (s : Shared) (H : Hp) (C : Addr) (cl : List (Str × Addr)) (fp : List Addr) : Cx := X.blk s H scope (compEnvC scope cl C X.env) fp
section
variable {X : Cx} {Γ : List Sl} {elt it cond : Expr} {β : Type} {c : β → RR} [ic : ∀ x, Im (c x)] {rs : List RR} {j : Nat} {I : Nat → List β → Prop} {scope : Scope} {x : Str} {xp pos pr pn : Pos} {own : List (Str × Nat)} {n : Int}
/-- what a turn gives, told of the blocks -/
structure LcT (X : Cx) (Γ : List Sl) (scope : Scope) (elt : Expr) (ifs : List Expr) (j : Nat) (I : Nat → List β → Prop) (c : β → RR) (i : Nat) (R : RR) : Prop where
  run : ∃ Pt : Bool → Prop, (∀ ys, I i ys → ∀ s H C cl fp, (match ifs with | [] => Pt true | [t] => GT (Blk X scope s H C cl fp) (Γ.set j (.r R)) t Pt | _ => False)) ∧
    (∀ ys, I i ys → Pt true → ∀ s H C cl fp, GE (Blk X scope s H C cl fp) (Γ.set j (.r R)) elt (exR (fun y => I (i + 1) (ys ++ [y])) c)) ∧ ∀ ys, I i ys → ifs ≠ [] → Pt false → I (i + 1) ys
abbrev tT (X : Cx) (scope : Scope) : List Expr → TT
  | [] => tYes
  | t :: _ => fun σ H Q => ∀ s H0 C cl fp, WT (Blk X scope s H0 C cl fp) t σ H Q
theorem ptsT {X : Cx} {scope : Scope} {s : Shared} {H0 : Hp} {C : Addr} {cl : List (Str × Addr)} {fp : List Addr} : ∀ {ifs : List Expr}, ifs.length ≤ 1 → PTs (Blk X scope s H0 C cl fp) ifs (tT X scope ifs)
  | [], _ => pts_nil
  | [t], _ => pts_one ⟨fun pins s σ H Q I h => h _ _ _ _ _ pins s I⟩
  | _ :: _ :: _, h => by simp at h
abbrev tE (X : Cx) (scope : Scope) (elt : Expr) : TE := fun σ H Q => ∀ s H0 C cl fp, WE (Blk X scope s H0 C cl fp) elt σ H Q
theorem peE {X : Cx} {scope : Scope} {s : Shared} {H0 : Hp} {C : Addr} {cl : List (Str × Addr)} {fp : List Addr} : PE (Blk X scope s H0 C cl fp) elt (tE X scope elt) := ⟨fun pins s σ H Q I h => h _ _ _ _ _ pins s I⟩
theorem lc_turn2 {ifs : List Expr} (hif : ifs.length ≤ 1) {i : Nat} {R : RR} {v : V} {Hb1 H1 : Hp} {hs1 : Nat → Hp} {σ : L2.St} {D : Addr} {H : Hp} (T : LcT X Γ scope elt ifs j I c i R) (hj : Γ[j]? = some .u) (hn : H1 D = none) (rx : R.p v Hb1) (hI : ∀ i ys, I i ys → ys.length ≤ i) (hi : i < 1000000) (p : LcI Γ (wipe σ [j]) c Hb1 H1 hs1 D I i H) :
    gName j v (wipe σ [j]) H fun σ2 H2 => wipe σ2 [j] = wipe σ [j] ∧ tT X scope ifs σ2 H2 fun b H3 => if b = true then tE X scope elt σ2 H3 fun y H4 => ∃ acc, H4 D = some (.lst acc) ∧ acc.length < sizeLine ∧ LcI Γ (wipe σ [j]) c Hb1 H1 hs1 D I (i + 1) (upd H4 D (.lst (acc ++ [y]))) else LcI Γ (wipe σ [j]) c Hb1 H1 hs1 D I (i + 1) H3 := by
  obtain ⟨Pt, ht, he, hf⟩ := T.run
  match ifs, hif with
  | [], _ =>
    exact lc_turn (Y := X) (Pt := (· = true)) hj (fun y _ _ _ e h => (ic y).im e h) hn rx hI hi (fun ys iy σ H Hb hs Q A q => q true H Hb hs Step.refl A rfl) (fun ys iy pt σ H Hb hs Q A q => fun s H0 C cl fp => (he ys iy (ht ys iy s H0 C cl fp) s H0 C cl fp).run σ H Hb hs Q A q) (fun _ _ z => nomatch z) p
  | [t], _ =>
    exact lc_turn (Y := X) (Pt := Pt) hj (fun y _ _ _ e h => (ic y).im e h) hn rx hI hi (fun ys iy σ H Hb hs Q A q => fun s H0 C cl fp => (ht ys iy s H0 C cl fp).run σ H Hb hs Q A q) (fun ys iy pt σ H Hb hs Q A q => fun s H0 C cl fp => (he ys iy pt s H0 C cl fp).run σ H Hb hs Q A q) (fun ys iy z => hf ys iy (fun w => nomatch w) z) p
  | _ :: _ :: _, h => simp at h
/-- [elt for x in a list if ..] -/
theorem we_lcL {ifs : List Expr} (hif : ifs.length ≤ 1) (hi : GE X Γ it (isLst X.K rs)) (h0 : I 0 []) (T : ∀ i R, rs[i]? = some R → LcT X Γ scope elt ifs j I c i R) (hI : ∀ i ys, I i ys → ys.length ≤ i) (hsz : rs.length < 1000000) (hj : Γ[j]? = some .u)
    {σ : L2.St} {H0 Hb0 : Hp} {hs0 : Nat → Hp} {Q : VK} (A : At Γ Hb0 H0 σ hs0) (q : ∀ v H' Hb' hs' h, Step Hb0 H0 hs0 Hb' H' hs' → At Γ Hb' H' σ hs' → (exO (I rs.length) fun ys => ownL (ys.map c)).p v Hb' h → Same h H' → (∀ a o, h a = some o → Hb' a = none ∧ (∀ i, hs' i a = none) ∧ (Cl Hb0 hs0 a ∨ H0 a = none)) → Q v H') :
    tLc (iList X.K (WE X it)) (gName j) (tT X scope ifs) (tE X scope elt) [j] σ H0 Q := by
  refine hi.run σ H0 Hb0 hs0 _ A fun v H1 Hb1 hs1 s1 A1 ⟨l, vs, e1, e2, e3⟩ => ⟨l, e1, ⟨vs, same_sqL A1.same e2⟩, fun D hn => ?_⟩
  refine lc_list (K := X.K) (a := l) (xs := vs) (Qd := fun H => Q (.ref D) H) (fun i H => LcI Γ (wipe σ [j]) c Hb1 H1 hs1 D I i H) (lc_start hj A1 hn h0) (fun i H _ ⟨_, Hb2, hs2, _, _, s2, A2, _⟩ => same_sqL A2.same (same_sqL s2.b e2)) (fun i x H hx p => ?_) fun H p => lc_done hj s1 A1.off hn q (by rw [e3.len] at p; exact p)
  have hlt : i < rs.length := by rw [← e3.len]; exact lt_of_get hx
  obtain ⟨v, e, rv⟩ := e3.get (i := i) (r := rs[i]) (by simp [hlt])
  rw [hx] at e; cases e
  exact lc_turn2 hif (T i rs[i] (by simp [hlt])) hj hn rv hI (by omega) p
theorem we_lcT {ifs : List Expr} (hif : ifs.length ≤ 1) (hi : GE X Γ it (isTup X.K rs)) (h0 : I 0 []) (T : ∀ i R, rs[i]? = some R → LcT X Γ scope elt ifs j I c i R) (hI : ∀ i ys, I i ys → ys.length ≤ i) (hsz : rs.length < 1000000) (hj : Γ[j]? = some .u)
    {σ : L2.St} {H0 Hb0 : Hp} {hs0 : Nat → Hp} {Q : VK} (A : At Γ Hb0 H0 σ hs0) (q : ∀ v H' Hb' hs' h, Step Hb0 H0 hs0 Hb' H' hs' → At Γ Hb' H' σ hs' → (exO (I rs.length) fun ys => ownL (ys.map c)).p v Hb' h → Same h H' → (∀ a o, h a = some o → Hb' a = none ∧ (∀ i, hs' i a = none) ∧ (Cl Hb0 hs0 a ∨ H0 a = none)) → Q v H') :
    tLc (iTup X.K (WE X it)) (gName j) (tT X scope ifs) (tE X scope elt) [j] σ H0 Q := by
  refine hi.run σ H0 Hb0 hs0 _ A fun v H1 Hb1 hs1 s1 A1 ⟨l, vs, e1, e2, e3⟩ => ⟨l, e1, ⟨vs, tx_sqT (tx_of A1.same) e2⟩, fun D hn => ?_⟩
  refine lc_tup (K := X.K) (a := l) (xs := vs) (Qd := fun H => Q (.ref D) H) (fun i H => LcI Γ (wipe σ [j]) c Hb1 H1 hs1 D I i H) (lc_start hj A1 hn h0) (fun i H _ ⟨_, Hb2, hs2, _, _, s2, A2, _⟩ => tx_sqT (tx_of A2.same) (tx_sqT (tx_of s2.b) e2)) (fun i x H hx p => ?_) fun H p => lc_done hj s1 A1.off hn q (by rw [e3.len] at p; exact p)
  have hlt : i < rs.length := by rw [← e3.len]; exact lt_of_get hx
  obtain ⟨v, e, rv⟩ := e3.get (i := i) (r := rs[i]) (by simp [hlt])
  rw [hx] at e; cases e
  exact lc_turn2 hif (T i rs[i] (by simp [hlt])) hj hn rv hI (by omega) p
theorem we_lcR {ifs : List Expr} (hif : ifs.length ≤ 1) (hi : GA X Γ [it] [.r (isInt n)]) (hn2 : -(2 ^ 62) ≤ n ∧ n < 1000000) (h0 : I 0 []) (T : ∀ i, i < n.toNat → LcT X Γ scope elt ifs j I c i (isInt i)) (hI : ∀ i ys, I i ys → ys.length ≤ i) (hj : Γ[j]? = some .u)
    {σ : L2.St} {H0 Hb0 : Hp} {hs0 : Nat → Hp} {Q : VK} (A : At Γ Hb0 H0 σ hs0) (q : ∀ v H' Hb' hs' h, Step Hb0 H0 hs0 Hb' H' hs' → At Γ Hb' H' σ hs' → (exO (I n.toNat) fun ys => ownL (ys.map c)).p v Hb' h → Same h H' → (∀ a o, h a = some o → Hb' a = none ∧ (∀ i, hs' i a = none) ∧ (Cl Hb0 hs0 a ∨ H0 a = none)) → Q v H') :
    tLc (iRng1 (WA X [it])) (gName j) (tT X scope ifs) (tE X scope elt) [j] σ H0 Q := by
  refine hi.run σ H0 Hb0 hs0 _ A fun us H1 Hb1 hs1 s1 A1 r1 => ?_
  obtain ⟨v, rfl, rfl⟩ := all2_1 (aks_all (rs := [isInt n]) r1)
  refine ⟨n, rfl, hn2.1, Int.lt_of_lt_of_le hn2.2 (by decide), fun D hn => ?_⟩
  refine lc_range (lo := 0) (n := n.toNat) (Qd := fun H => Q (.ref D) H) (fun i H => LcI Γ (wipe σ [j]) c Hb1 H1 hs1 D I i H) (lc_start hj A1 hn h0) (fun i H hlt p => ?_) fun H p => lc_done hj s1 A1.off hn q p
  rw [Int.zero_add]
  exact lc_turn2 hif (T i hlt) hj hn rfl hI (by omega) p
end
end G
namespace G
open PySem PySem.Spec PyProof.Rows L2
section
variable {X : Cx} {Γ : List Sl} {a b : Expr} {rest : List Expr} {pos : Pos} {c : Bool}
/-- and, or: the first one settles it -/
theorem gt_andF (ha : GT X Γ a (· = c)) (hc : c = false) : GT X Γ (.BoolOp .And (a :: b :: rest) pos) (· = false) := gt_w (gw_andP ha (fun h => by rw [hc] at h; cases h) fun _ => rfl)
end
/-- a constant of the module that is a part -/
structure CPart (K : PySem.W.Frag) (mg : Str → Option Value) (x : Str) (q : Int × Int) : Prop where
  ex : ∃ a, mg x = some (.ref a) ∧ ∀ H, (isP K q).p (.ref a) H
/-- R, where c holds -/
def grd (c : Prop) (R : RR) : RR := ⟨fun v H => c ∧ R.p v H, fun e h => ⟨h.1, R.mono e h.2⟩⟩
instance {c : Prop} {R : RR} [i : Im R] : Im (grd c R) := ⟨fun e h => ⟨h.1, i.im e h.2⟩⟩
/-- what a comprehension walks: the items' relations -/
structure Src (X : Cx) (Γ : List Sl) (it : Expr) (rs : List RR) : Prop where
  run : ∃ wi : TI, (∀ tg, PI X tg it wi) ∧ ∀ (β : Type) (c : β → RR) (ic : ∀ x, Im (c x)) (elt : Expr) (ifs : List Expr) (scope : Scope) (j : Nat) (I : Nat → List β → Prop), ifs.length ≤ 1 → I 0 [] → (∀ i R, rs[i]? = some R → LcT X Γ scope elt ifs j I c i R) → (∀ i ys, I i ys → ys.length ≤ i) → rs.length < 1000000 → Γ[j]? = some .u →
    ∀ (σ : L2.St) (H0 Hb0 : Hp) (hs0 : Nat → Hp) (Q : VK), At Γ Hb0 H0 σ hs0 → (∀ v H' Hb' hs' h, Step Hb0 H0 hs0 Hb' H' hs' → At Γ Hb' H' σ hs' → (exO (I rs.length) fun ys => ownL (ys.map c)).p v Hb' h → Same h H' → (∀ a o, h a = some o → Hb' a = none ∧ (∀ i, hs' i a = none) ∧ (Cl Hb0 hs0 a ∨ H0 a = none)) → Q v H') →
      tLc wi (gName j) (tT X scope ifs) (tE X scope elt) [j] σ H0 Q
section
variable {X : Cx} {Γ : List Sl} {elt it e : Expr} {ifs : List Expr} {β : Type} {c : β → RR} [ic : ∀ x, Im (c x)] {rs : List RR} {I : Nat → List β → Prop} {scope : Scope} {x y : Str} {xp pos pr pn spos py : Pos} {n : Int} {N : List Sl → Prop} {Rt : Rtn} {rest : List Stmt}
theorem src_list (h : GE X Γ it (isLst X.K rs)) : Src X Γ it rs := ⟨_, fun tg => pi_list pe_sem, fun β c ic elt ifs scope j I h1 h2 h3 h4 h5 h6 σ H0 Hb0 hs0 Q A q => we_lcL h1 h h2 h3 h4 h5 h6 A q⟩
theorem src_tup (h : GE X Γ it (isTup X.K rs)) : Src X Γ it rs := ⟨_, fun tg => pi_tup pe_sem, fun β c ic elt ifs scope j I h1 h2 h3 h4 h5 h6 σ H0 Hb0 hs0 Q A q => we_lcT h1 h h2 h3 h4 h5 h6 A q⟩
def rngR (n : Int) : List RR := (List.range n.toNat).map fun (k : Nat) => isInt (k : Int)
theorem rngR_len : (rngR n).length = n.toNat := by unfold rngR; rw [List.length_map, List.length_range]
theorem rngR_get {i : Nat} {R : RR} (h : (rngR n)[i]? = some R) : i < n.toNat ∧ R = isInt (i : Int) := by
  have hlt : i < n.toNat := by have := lt_of_get h; rwa [rngR_len] at this
  unfold rngR at h
  rw [List.getElem?_map, List.getElem?_range hlt] at h
  exact ⟨hlt, (Option.some.inj h).symm⟩
theorem src_range (hm : X.mg "range" = none) (h : GE X Γ e (isInt n)) (hn : -(2 ^ 62) ≤ n ∧ n < 1000000) (hg : Gl X "range" := by rfl) (h1 : starEach [e] X.env = [(false, eval e X.env)] := by rfl) : Src X Γ (.Call (.Name "range" pn) [e] [] pr) (rngR n) :=
  ⟨_, fun tg => pi_range1 hg hm pa_sem h1, fun β c ic elt ifs scope j I h2 h3 h4 h5 h6 h7 σ H0 Hb0 hs0 Q A q => we_lcR (c := c) h2 (ga_cons h ga_nil h1) hn h3 (fun i hi => h4 i _ (by unfold rngR; rw [List.getElem?_map, List.getElem?_range hi]; rfl)) h5 h7 A (by rw [rngR_len] at q; exact q)⟩
/-- [elt for x in it if ..] -/
theorem go_lc (j : Nat) (S : Src X Γ it rs) (I : Nat → List β → Prop) (h0 : I 0 []) (T : ∀ i R, rs[i]? = some R → LcT X Γ scope elt ifs j I c i R) (hI : ∀ i ys, I i ys → ys.length ≤ i) (ok : BlkOk X.N X.env.scope scope [(x, j)]) (hN : X.N.Nodup) (hsz : rs.length < 1000000) (hif : ifs.length ≤ 1 := by decide) (hj : Γ[j]? = some .u := by rfl) (hc : X.calm = true := by rfl)
    (hg : ∀ s H C cl fp, PG (Blk X scope s H C cl fp) (.Name x xp) (gName j) := by exact fun _ _ _ _ _ => pg_name ‹_› rfl (Or.inl rfl)) (hs : ∀ x, foldedSetIterable it X.env x = pure x := by intro _; rfl) : GO X Γ (.ListComp elt [⟨.Name x xp, it, ifs, 0⟩] scope pos) (exO (I rs.length) fun ys => ownL (ys.map c)) := .mk fun σ H Hb hs' Q A q => by
  obtain ⟨wi, h1, h2⟩ := S.run
  refine we_of (pe_lc (own := [(x, j)]) hc hN (h1 _) ok hg (fun _ _ _ _ _ => ptsT hif) (fun _ _ _ _ _ => peE) hs) ?_
  exact h2 β c ic elt ifs scope j I hif h0 T hI hsz hj σ H Hb hs' Q A q
variable {α : Type} {d : α → RR} {xs : List α} {f : α → β} {p : α → Bool} {i j : Nat} {R : RR}
abbrev Imap (xs : List α) (f : α → β) : Nat → List β → Prop := fun i ys => ys = (xs.take i).map f
abbrev Idrawn (P : β → Prop) : Nat → List β → Prop := fun i ys => ys.length = i ∧ ∀ y ∈ ys, P y
theorem lcT_drawn {P : β → Prop} (h : ∀ s H C cl fp, GE (Blk X scope s H C cl fp) (Γ.set j (.r R)) elt (exR P c)) : LcT X Γ scope elt [] j (Idrawn P) c i R :=
  ⟨(· = true), fun _ _ _ _ _ _ _ => rfl, fun ys iy _ s H C cl fp => ge_conv (h s H C cl fp) fun v H ⟨y, py, q⟩ => ⟨y, ⟨by rw [List.length_append, iy.1]; rfl, fun z hz => by
    rcases List.mem_append.mp hz with hz | hz
    · exact iy.2 z hz
    · rw [List.mem_singleton.mp hz]; exact py⟩, q⟩, fun _ _ z => absurd rfl z⟩
theorem take_succ_get {i : Nat} {a : α} (h : xs[i]? = some a) : xs.take (i + 1) = xs.take i ++ [a] := by
  rw [List.take_add_one, h]; rfl
theorem lcT_map {a : α} (ha : xs[i]? = some a) (h : ∀ s H C cl fp, GE (Blk X scope s H C cl fp) (Γ.set j (.r R)) elt (c (f a))) : LcT X Γ scope elt [] j (Imap xs f) c i R :=
  ⟨(· = true), fun _ _ _ _ _ _ _ => rfl, fun ys iy _ s H C cl fp => ge_conv (h s H C cl fp) fun v H q => ⟨f a, by
    show ys ++ [f a] = (xs.take (i + 1)).map f
    rw [take_succ_get ha, List.map_append, iy]; rfl, q⟩, fun _ _ z => absurd rfl z⟩
theorem len_map : ∀ i ys, Imap xs f i ys → ys.length ≤ i := fun i ys h => by rw [h, List.length_map, List.length_take]; omega
theorem len_drawn {P : β → Prop} : ∀ i ys, Idrawn P i ys → ys.length ≤ i := fun i ys h => by rw [h.1]; exact Nat.le_refl _
theorem map_all {n : Nat} (h : n = xs.length) {ys : List β} (q : Imap xs f n ys) : ys = xs.map f := by rw [q, h, List.take_length]
end
end G
namespace G
open PySem PySem.Spec PyProof.Rows L2
/-- values that are what they tell -/
theorem all2_scal {α : Type} {c : α → RR} {f : α → V} {H : Hp} (h : ∀ x v H, (c x).p v H → v = f x) : ∀ {xs : List α} {vs : List V}, All2 (xs.map c) vs H → vs = xs.map f
  | [], [], _ => rfl
  | [], _ :: _, q => q.elim
  | _ :: _, [], q => q.elim
  | x :: xs, v :: vs, q => by rw [List.map_cons, h x v H q.1, all2_scal h (xs := xs) q.2]
section
variable {X : Cx} {Γ Γ' : List Sl} {e a b c : Expr} {es : List Expr} {R R' Ra Rb Rc : RR} {rs : List RR} {pos pos' p p2 apos : Pos} {N N1 N' : List Sl → Prop} {Rt : Rtn} {rest body : List Stmt} {z : Str} {P Q : Str → Prop}
def tx (z : Str) : List Nat := z.cps.toList
theorem tx_len (z : Str) : z.length = (tx z).length := by
  show z.cps.size = z.cps.toList.length
  exact (Array.length_toList).symm
theorem tx_app (x y : Str) : tx (x ++ y) = tx x ++ tx y := TL.tl_append x y
theorem rv_ixS {k : Int} {ch : Nat} (hz : z.length ≤ sizeLine) (h : atI (tx z) k = some ch) : RV rIxS (isS z) (isInt k) (isS ⟨#[ch]⟩) := fun x y Hb H Q _ h1 h2 q => by
  cases h1; cases h2
  exact ⟨z, k, ch, rfl, rfl, hz, h, q _ rfl⟩
/-- z[k] -/
theorem ge_ixS {k : Int} (ch : Nat) (ha : GE X Γ a (isS z)) (hb : GE X Γ b (isInt k)) (hc : atI (tx z) k = some ch) (hz : z.length ≤ sizeLine) (hs : PlainIx b := by exact fun _ _ => rfl) : GE X Γ (.Subscript a b pos) (isS ⟨#[ch]⟩) :=
  ge_two (t := fun _ _ _ => True) (pe_ix ix_str pe_sem pe_sem hs) ha hb (rv_ixS hz hc)
/-- .. both drawn -/
theorem ge_ixSx {p' : Int → Prop} {q : Nat → Prop} (ha : GE X Γ a (exR P isS)) (hb : GE X Γ b (exR p' isInt)) (h : ∀ z k, P z → p' k → ∃ ch, atI (tx z) k = some ch ∧ q ch ∧ z.length ≤ sizeLine) (hs : PlainIx b := by exact fun _ _ => rfl) : GE X Γ (.Subscript a b pos) (exR (fun t => ∃ ch, t = ⟨#[ch]⟩ ∧ q ch) isS) :=
  ge_two (t := fun _ _ _ => True) (pe_ix ix_str pe_sem pe_sem hs) ha hb (rv_exl fun z pz => rv_exr fun k pk => by
    obtain ⟨ch, h1, h2, h3⟩ := h z k pz pk
    exact rv_conv (rv_ixS h3 h1) fun v H r => ⟨_, ⟨ch, rfl, h2⟩, r⟩)
theorem ge_lenS (hm : X.mg "len" = none) (ha : GE X Γ a (isS z)) (hz : z.length ≤ sizeLine) (hg : Gl X "len" := by rfl) (h1 : starEach [a] X.env = (false, eval a X.env) :: starEach [] X.env := by rfl) : GE X Γ (.Call (.Name "len" p) [a] [] pos) (isInt z.length) :=
  ge_callB (rs := [isS z]) call_len_str hg hm PySem.boot_len (ga_cons ha ga_nil h1) (fun vs Hb H Q s h q => by
    obtain ⟨v, rfl, rfl⟩ := all2_1 h
    exact ⟨z, rfl, hz, q _ rfl⟩) (h1 := h1)
theorem rv_addS {x y : Str} (h : x.length + y.length ≤ sizeLine) : RV (fun x y H Q => ∃ i j, x = .str i ∧ y = .str j ∧ i.length + j.length ≤ sizeLine ∧ Q (.str (i ++ j)) H) (isS x) (isS y) (isS (x ++ y)) := fun v w Hb H Q _ h1 h2 q => by
  cases h1; cases h2
  exact ⟨x, y, rfl, rfl, h, q _ rfl⟩
theorem ge_addS {x y : Str} (ha : GE X Γ a (isS x)) (hb : GE X Γ b (isS y)) (h : x.length + y.length ≤ sizeLine) : GE X Γ (.BinOp a .Add b pos) (isS (x ++ y)) := ge_op op_add_str ha hb (rv_addS h)
theorem ge_addSx {P Q Z : Str → Prop} (ha : GE X Γ a (exR P isS)) (hb : GE X Γ b (exR Q isS)) (h : ∀ x y, P x → Q y → x.length + y.length ≤ sizeLine ∧ Z (x ++ y)) : GE X Γ (.BinOp a .Add b pos) (exR Z isS) :=
  ge_op op_add_str ha hb (rv_exl fun x px => rv_exr fun y qy => rv_conv (rv_addS (h x y px qy).1) fun v H r => ⟨_, (h x y px qy).2, r⟩)
theorem ge_sx (h : GE X Γ a (isS z)) (hp : P z) : GE X Γ a (exR P isS) := ge_conv h fun v H q => ⟨z, hp, q⟩
/-- z[:k] -/
theorem cut_to {n : Nat} : tx (cutS z none (some (n : Int))) = (tx z).take n := by
  show (((tx z).drop _).take _) = _
  rw [HT.sIx_none, HT.sIx_nat, List.drop_zero, Nat.sub_zero, tx_len]
  by_cases h : n ≤ (tx z).length
  · rw [Nat.min_eq_left h]
  · rw [Nat.min_eq_right (by omega), List.take_of_length_le (Nat.le_refl _), List.take_of_length_le (by omega)]
theorem cut_from {n : Nat} : tx (cutS z (some (n : Int)) none) = (tx z).drop n := by
  show (((tx z).drop _).take _) = _
  rw [HT.sIx_none, HT.sIx_nat, tx_len]
  by_cases h : n ≤ (tx z).length
  · rw [Nat.min_eq_left h, List.take_of_length_le (by rw [List.length_drop]; exact Nat.le_refl _)]
  · rw [Nat.min_eq_right (by omega), List.drop_of_length_le (Nat.le_refl _), List.drop_of_length_le (by omega)]
    simp
theorem ge_toSx {p' : Int → Prop} {Z : Str → Prop} (ha : GE X Γ a (isS z)) (hb : GE X Γ b (exR p' isInt)) (hz : z.length ≤ sizeLine) (h : ∀ k, p' k → Z (cutS z none (some k))) : GE X Γ (.Subscript a (.Slice none (some b) none p2) pos) (exR Z isS) := .mk fun σ H Hb hs Q A q => by
  refine we_of (pe_slice sl_str pe_sem po_none (po_some pe_sem)) (ha.run σ H Hb hs _ A fun v H1 Hb1 hs1 s1 A1 e1 => ?_)
  cases e1
  refine hb.run σ H1 Hb1 hs1 _ A1 fun u H2 Hb2 hs2 s2 A2 ⟨k, pk, r2⟩ => ⟨k, r2, z, rfl, hz, ?_⟩
  exact q _ H2 Hb2 hs2 (A1.trans s1 s2) A2 ⟨_, h k pk, rfl⟩
theorem ge_fromSx {p' : Int → Prop} {Z : Str → Prop} (ha : GE X Γ a (isS z)) (hb : GE X Γ b (exR p' isInt)) (hz : z.length ≤ sizeLine) (h : ∀ k, p' k → Z (cutS z (some k) none)) : GE X Γ (.Subscript a (.Slice (some b) none none p2) pos) (exR Z isS) := .mk fun σ H Hb hs Q A q => by
  refine we_of (pe_slice sl_str pe_sem (po_some pe_sem) po_none) (ha.run σ H Hb hs _ A fun v H1 Hb1 hs1 s1 A1 e1 => ?_)
  cases e1
  refine hb.run σ H1 Hb1 hs1 _ A1 fun u H2 Hb2 hs2 s2 A2 ⟨k, pk, r2⟩ => ⟨k, r2, z, rfl, hz, ?_⟩
  exact q _ H2 Hb2 hs2 (A1.trans s1 s2) A2 ⟨_, h k pk, rfl⟩
/-- "..".join(a list of texts) -/
theorem ge_joinx {P : List Str → Prop} {Z : Str → Prop} {sep : Str} (ho : GE X Γ a (isS sep)) (ha : GE X Γ b (exR P fun ys => isLst X.K (ys.map isS))) (h : ∀ ys, P ys → (ys.map (·.length)).sum + ys.length * sep.length ≤ 16777216 ∧ Z (Txt.join sep ys))
    (hs : starEach [b] X.env = [(false, eval b X.env)] := by rfl) (hbase : attributeBase a "join" X.env (eval a X.env) = eval a X.env := by rfl) (hline : (apos.endLine == pos.line) = true := by rfl) : GE X Γ (.Call (.Attribute a "join" apos) [b] [] pos) (exR Z isS) := .mk fun σ H Hb hs' Q A q => by
  refine we_of (pe_join pe_sem pe_sem hs hbase hline) (ho.run σ H Hb hs' _ A fun v H1 Hb1 hs1 s1 A1 e1 => ?_)
  cases e1
  refine ⟨⟨_, rfl⟩, ha.run σ H1 Hb1 hs1 _ A1 fun u H2 Hb2 hs2 s2 A2 ⟨ys, py, l, vs, e2, e3, e4⟩ => ?_⟩
  have ev : vs = ys.map V.str := all2_scal (fun x v H h => h) e4
  subst ev
  exact ⟨sep, l, ys, rfl, by rw [e2], .inl (same_sqL A2.same e3), (h ys py).1, q _ H2 Hb2 hs2 (A1.trans s1 s2) A2 ⟨_, (h ys py).2, rfl⟩⟩
theorem rv_notInS {ch : Nat} : RV (fun x y H Q => ∃ (c : Nat) (z : Str), x = .str ⟨#[c]⟩ ∧ y = .str z ∧ Q (.bl (!decide (c ∈ z.cps.toList))) H) (isS ⟨#[ch]⟩) (isS z) (isB (!decide (ch ∈ tx z))) := fun v w Hb H Q _ h1 h2 q => by
  cases h1; cases h2
  exact ⟨ch, z, rfl, rfl, q _ rfl⟩
theorem gt_notInS {ch : Nat} (ha : GE X Γ a (isS ⟨#[ch]⟩)) (hb : GE X Γ b (isS z)) (hm : behindInMarks .NotIn b = false := by rfl) : GT X Γ (.Compare a [.NotIn] [b] pos) (· = !decide (ch ∈ tx z)) := gt_cmp op_notIn_sign ha hb rv_notInS hm
theorem rv_inS {ch : Nat} : RV (fun x y H Q => ∃ (c : Nat) (z : Str), x = .str ⟨#[c]⟩ ∧ y = .str z ∧ Q (.bl (decide (c ∈ z.cps.toList))) H) (isS ⟨#[ch]⟩) (isS z) (isB (decide (ch ∈ tx z))) := fun v w Hb H Q _ h1 h2 q => by
  cases h1; cases h2
  exact ⟨ch, z, rfl, rfl, q _ rfl⟩
end
/-- a constant of the module -/
structure CVal (mg : Str → Option Value) (x : Str) (v : V) : Prop where
  ex : ∃ u, mg x = some u ∧ RelV v u
theorem ge_cval {X : Cx} {Γ : List Sl} {x : Str} {v : V} {R : RR} {pos : Pos} (T : CVal X.mg x v) (h : ∀ H, R.p v H) (hg : Gl X x := by rfl) (hd : (x == ("__debug__" : Str)) = false := by decide) : GE X Γ (.Name x pos) R := by
  obtain ⟨u, h1, h2⟩ := T.ex
  exact ge_glob hg h1 h2 h hd
theorem ge_cint {X : Cx} {Γ : List Sl} {x : Str} {n : Int} {pos : Pos} (T : CVal X.mg x (.int n)) (hg : Gl X x := by rfl) (hd : (x == ("__debug__" : Str)) = false := by decide) : GE X Γ (.Name x pos) (isInt n) := ge_cval T (fun _ => rfl) hg hd
theorem ge_cstr {X : Cx} {Γ : List Sl} {x : Str} {z : Str} {pos : Pos} (T : CVal X.mg x (.str z)) (hg : Gl X x := by rfl) (hd : (x == ("__debug__" : Str)) = false := by decide) : GE X Γ (.Name x pos) (isS z) := ge_cval T (fun _ => rfl) hg hd
theorem for_str {x : Str} {g : TG} {tb : TS} {D : Ends} {σ : L2.St} {H : Hp} (Pv : Nat → L2.St → Hp → Prop) (h0 : Pv 0 σ H)
    (hs : ∀ i ch σ H, x.cps[i]? = some ch → Pv i σ H → g (.str ⟨#[ch]⟩) σ H fun σ2 H2 => tb { D with nx := Pv (i + 1), ct := Pv (i + 1), bk := D.nx } σ2 H2) (hd : ∀ σ H, Pv x.cps.size σ H → D.nx σ H) :
    ∃ W : Nat → Nat → L2.St → Hp → Prop, (∃ m, W 0 m σ H) ∧ ∀ i m σ H, W i m σ H →
      ((Its x).stop i H ∧ D.nx σ H) ∨ ((Its x).go i H ∧ ∃ N : L2.St → Hp → Prop, (∀ σ' H', N σ' H' → ∃ m', m' < m ∧ W (i + 1) m' σ' H') ∧ ∀ y H', (Its x).yld i H y H' → g y σ H' fun σ2 H2 => tb { D with nx := N, ct := N, bk := D.nx } σ2 H2) := by
  refine ⟨fun i m σ H => m = x.cps.size - i ∧ i ≤ x.cps.size ∧ Pv i σ H, ⟨x.cps.size, by simp, Nat.zero_le _, h0⟩, ?_⟩
  rintro i m σ H ⟨rfl, hi, p⟩
  by_cases hlt : i < x.cps.size
  · refine .inr ⟨hlt, Pv (i + 1), fun σ' H' p' => ⟨x.cps.size - (i + 1), by omega, rfl, hlt, p'⟩, fun y H' hy => ?_⟩
    obtain ⟨e, ch, hc, e2⟩ := hy
    subst e e2
    exact hs i ch σ _ hc p
  · have e : i = x.cps.size := by omega
    subst e
    exact .inl ⟨Nat.le_refl _, hd σ H p⟩
section
variable {X : Cx} {Γ : List Sl} {e : Expr} {pos pos' : Pos} {N : List Sl → Prop} {Rt : Rtn} {rest body : List Stmt} {z : Str}
theorem gs_forS {α : Type} {x : Str} (j : Nat) (I : Nat → α → Prop) (Γf : α → List Sl) (a0 : α) (hi : GE X Γ e (isS z)) (h0 : I 0 a0) (hb : ∀ i a ch, (tx z)[i]? = some ch → I i a → GS X ((Γf a).set j (.r (isS ⟨#[ch]⟩))) body (fun Γ' => ∃ a', I (i + 1) a' ∧ Γ'.set j .u = Γf a') Rt) (hr : ∀ a, I (tx z).length a → GS X (Γf a) rest N Rt)
    (hp : PassesOwn (model X.prog X.w) X.A X.env X.xe) (hN : X.N.Nodup) (hΓ : Γ.set j .u = Γf a0 := by rfl) (hc : X.calm = true := by rfl) (hj : X.N[j]? = some x := by rfl) (hx : Loc X.env.scope x := by first | exact Or.inl rfl | exact Or.inr rfl) (hf : X.fn x = true ∨ X.env.scope.names.lookup x = some .local := by first | exact .inl rfl | exact .inr rfl)
    (hs : ∀ x, foldedSetIterable e X.env x = pure x := by intro _; rfl) : GS X Γ (.For (.Name x pos') e body [] pos :: rest) N Rt := .mk fun σ H Hb hs' D A q r W tk xc => by
  refine wss_of (pss_cons (ps_for hp hc (pi_str pe_sem) (pg_name hN hj hx hf) pss_sem hs) pss_sem) (hi.run σ H Hb hs' _ A fun v H1 Hb1 hs1 s1 A1 e1 => ?_)
  cases e1
  refine ⟨z, rfl, ?_⟩
  have A2 := A1.drop j
  rw [hΓ] at A2
  have hv : All2 ((tx z).map fun ch => isS ⟨#[ch]⟩) ((tx z).map fun ch => V.str ⟨#[ch]⟩) Hb1 := All2.map (fun _ => rfl) _
  have hlen : ((tx z).map fun ch => isS ⟨#[ch]⟩).length = (tx z).length := List.length_map ..
  obtain ⟨k1, k2⟩ := for_turns (K := X.K) (p := 0) j I Γf hv (body := body) (rest := rest) (N := N) (Rt := Rt) (X := X) (fun i a R hR ia => by
    rw [List.getElem?_map] at hR
    cases hch : (tx z)[i]? with
    | none => rw [hch] at hR; cases hR
    | some ch => rw [hch] at hR; cases hR; exact hb i a ch hch ia) (fun a ia => hr a (by rw [hlen] at ia; exact ia)) s1 A1.off q r tk xc
  refine for_str (x := z) (D := { D with nx := WSs X rest D }) (fun i σ1 H1 => ∃ a Hb2 hs2, I i a ∧ Step Hb1 _ hs1 Hb2 H1 hs2 ∧ At (Γf a) Hb2 H1 σ1 hs2) ⟨a0, Hb1, hs1, h0, Step.refl, A2⟩ (fun i ch σ H hc p => ?_) (fun σ H p => ?_)
  · refine k1 i _ σ H ?_ p
    rw [List.getElem?_map]
    have : (tx z)[i]? = some ch := by
      show z.cps.toList[i]? = some ch
      rw [Array.getElem?_toList]; exact hc
    rw [this]; rfl
  · refine k2 σ H ?_
    rw [List.length_map, ← tx_len]
    exact p
end
end G
namespace G
open PySem PySem.W PySem.Spec PySem.Calls PyProof.Rows Builtin L2
/-- v is a tuple of these ints -/
def IsTI (h : Heap) (v : Value) (ns : List Int) : Prop := ∃ (a : Addr) (xs : Array Value), v = .ref a ∧ IsTup h a xs ∧ IntsAre xs.toList ns
def fst1 (h : Heap) : Value → Option Value
  | .ref a => match h.get? a with
    | some o => match o.data with
      | .seq xs _ => xs[0]?
      | _ => none
    | none => none
  | _ => none
section
variable {prog : Program} {w : World} {A : Around} {E : Value → Shared → Prop} {s : Shared}
theorem IsTI.type {M : Model} {h : Heap} {v : Value} {ns : List Int} (x : IsTI h v ns) : Looks M h (typeOf v) (.type "tuple") := by
  obtain ⟨a, xs, rfl, ⟨o, ho, hc, n, hd⟩, i⟩ := x
  rw [← hc]
  exact (Looks.ld ho).andThen .now
theorem IsTI.keep {h h' : Heap} {v : Value} {ns : List Int} (x : IsTI h v ns) (k : ∀ b o, v = .ref b → h.get? b = some o → h'.get? b = some o) : IsTI h' v ns := by
  obtain ⟨a, xs, e, ⟨o, ho, hc, n, hd⟩, i⟩ := x
  exact ⟨a, xs, e, ⟨o, k _ _ e ho, hc, n, hd⟩, i⟩
theorem IsTI.fst {h : Heap} {v : Value} (x : IsTI h v []) : fst1 h v = none := by
  obtain ⟨a, xs, rfl, ⟨o, ho, hc, n, hd⟩, i⟩ := x
  have e : xs = #[] := by
    have := i.length
    simp at this
    exact this
  unfold fst1
  simp only [ho, hd]
  rw [e]; rfl
end
end G
namespace G
open PySem PySem.Spec PyProof.Rows L2
def leH (x y : List Int) : Bool := !HT.lexLt y x
/-- sorted -/
def srtH (hs : List (List Int)) : List (List Int) := hs.mergeSort leH
abbrev isH (K : PySem.W.Frag) (h : List Int) : RR := isTup K (h.map isInt)
section
variable {X : Cx} {Γ : List Sl} {a b : Expr} {rs rs' : List RR} {pos p : Pos} {k : Nat}
/-- t + u, tuples -/
theorem ge_catT (ha : GE X Γ a (isTup X.K rs)) (hb : GE X Γ b (isTup X.K rs')) (hz : rs.length + rs'.length ≤ sizeLine) : GE X Γ (.BinOp a .Add b pos) (isTup X.K (rs ++ rs')) := .mk fun σ H Hb hs Q A q => by
  refine we_of (pe_op op_catA pe_sem pe_sem) (ha.run σ H Hb hs _ A fun v H1 Hb1 hs1 s1 A1 ra => hb.run σ H1 Hb1 hs1 _ A1 fun u H2 Hb2 hs2 s2 A2 rb => ?_)
  obtain ⟨x, vs, rfl, e2, e3⟩ := (isTup X.K rs).mono s2.b ra
  obtain ⟨y, ws, rfl, f2, f3⟩ := rb
  have hall := All2.app e3 f3
  have l1 := e3.len
  have l2 := f3.len
  refine ⟨x, y, vs, ws, rfl, rfl, tx_sqT (tx_of A2.same) e2, tx_sqT (tx_of A2.same) f2, by omega, fun z => ?_, fun _ z => ?_, fun _ _ p np => ?_⟩
  · subst z
    exact q _ H2 Hb2 hs2 (A1.trans s1 s2) A2 ⟨y, ws, rfl, f2, hall⟩
  · subst z
    rw [List.append_nil] at hall
    exact q _ H2 Hb2 hs2 (A1.trans s1 s2) A2 ⟨x, vs, rfl, e2, hall⟩
  · obtain ⟨A3, s3⟩ := A2.lay (o := .tup (vs ++ ws)) np
    exact q _ _ _ _ (A1.trans s1 (A2.trans s2 s3)) A3 ⟨p, _, rfl, SqT.of upd_same, hall.mono s3.b⟩
def rCatL (K : PySem.W.Frag) : R2 := fun x y H Q => ∃ l b xs zs, x = .ref l ∧ y = .ref b ∧ SqL K H l xs ∧ SqL K H b zs ∧ xs.length + zs.length ≤ sizeLine ∧ ∀ p, H p = none → Q (.ref p) (upd H p (.lst (xs ++ zs)))
theorem op_catL : OpR X (binaryOp .Add) (rCatL X.K) := by
  intro pins s σ H x y v u Q I rx ry h
  obtain ⟨l, b, xs, zs, rfl, rfl, hH, hB, hz, q⟩ := h
  cases rx
  cases ry
  obtain ⟨its, r, hl, _⟩ := I.list hH
  obtain ⟨its2, r2, hl2, _⟩ := I.list hB
  obtain ⟨⟨cls, dd, data, sl⟩, ho, hc, n, hd⟩ := id hl.isList
  obtain ⟨⟨cls2, dd2, data2, sl2⟩, ho2, hc2, n2, hd2⟩ := id hl2.isList
  simp only at hc hd hc2 hd2
  subst hc hd hc2 hd2
  have e : its.toArray ++ its2.toArray = (its ++ its2).toArray := by simp
  have z1 := r.length
  have z2 := r2.length
  refine concat_meets ⟨_, ho, rfl⟩ ⟨_, ho2, rfl⟩ noFill_list_add seq_list_add PySem.F.slot_list_add PySem.F.entry_list_add (PySem.F.args_list_add_2 _ _) (list_addW l b its.toArray its2.toArray n n2 dd dd2 sl sl2 (by rw [List.size_toArray, List.size_toArray]; omega)) ⟨ho, ho2, ?_⟩
  rw [e]
  exact ⟨.ref _, _, I.lnew (t' := s.toks) (r.append r2) (by rw [List.length_append]; omega), rfl, q _ I.fresh⟩
/-- xs + ys, lists: a new one -/
theorem go_catL [i1 : Ims rs] [i2 : Ims rs'] [i3 : Ims (rs ++ rs')] (ha : GE X Γ a (isLst X.K rs)) (hb : GE X Γ b (isLst X.K rs')) (hz : rs.length + rs'.length ≤ sizeLine) : GO X Γ (.BinOp a .Add b pos) (ownL (rs ++ rs')) := .mk fun σ H Hb hs Q A q => by
  refine we_of (pe_op op_catL pe_sem pe_sem) (ha.run σ H Hb hs _ A fun v H1 Hb1 hs1 s1 A1 ra => hb.run σ H1 Hb1 hs1 _ A1 fun u H2 Hb2 hs2 s2 A2 rb => ?_)
  obtain ⟨x, vs, rfl, e2, e3⟩ := (isLst X.K rs).mono s2.b ra
  obtain ⟨y, ws, rfl, f2, f3⟩ := rb
  have l1 := e3.len
  have l2 := f3.len
  exact ⟨x, y, vs, ws, rfl, rfl, same_sqL A2.same e2, same_sqL A2.same f2, by omega, GO.new A2 (A1.trans s1 s2) A2.off (All2.app e3 f3) q⟩
end
structure GF (Γ : List Sl) (F : L2.St → Hp → VK → Prop) (φ : OO) : Prop where
  run : ∀ (σ : L2.St) (H Hb : Hp) (hs : Nat → Hp) (Q : VK), At Γ Hb H σ hs → (∀ v H' Hb' hs' h, Step Hb H hs Hb' H' hs' → At Γ Hb' H' σ hs' → φ.p v Hb' h → Same h H' → (∀ a o, h a = some o → Hb' a = none ∧ (∀ i, hs' i a = none) ∧ (Cl Hb hs a ∨ H a = none)) → Q v H') → F σ H Q
section
variable {Γ : List Sl} {F : L2.St → Hp → VK → Prop}
end
section
variable {X : Cx} {Γ Γ2 : List Sl} {elt it : Expr} {ifs : List Expr} {β : Type} {c : β → RR} [ic : ∀ x, Im (c x)] {rs : List RR} {scope : Scope} {x y : Str} {xp pos spos py : Pos} {N : List Sl → Prop} {Rt : Rtn} {rest : List Stmt}
end
end G
namespace G
open PySem PySem.Spec PyProof.Rows L2
section
variable {X : Cx} {Γ Γ' : List Sl} {e a b : Expr} {R : RR} {rs rs' : List RR} {pos pos' p p1 p2 p3 : Pos} {N : List Sl → Prop} {Rt : Rtn} {rest body : List Stmt} {α : Type} {P : α → Prop} {f : α → List RR} {k : Nat}
instance ims_rev [i : Ims rs] : Ims rs.reverse := ⟨fun x h => i.im x (List.mem_reverse.mp h)⟩
end
end G
namespace G
open PySem PySem.Spec PyProof.Rows L2
section
variable {X : Cx} {Γ : List Sl} {a b : Expr} {pos : Pos} {x : Int} {h : List Int}
end
end G
namespace G
open PySem PySem.Spec PyProof.Rows L2
section
variable {X : Cx} {Γ : List Sl} {e a b : Expr} {R : RR} {rs : List RR} {pos pos' : Pos} {rest body : List Stmt} {N : List Sl → Prop} {Rt : Rtn}
/-- the slots of the parameters at a return: forgotten, or kept as owned ones -/
inductive Keeps : List Sl → List Sl → List V → Prop
  | us {Γ : List Sl} {n : Nat} {vs : List V} (h : vs.length = n) : Keeps Γ (List.replicate n .u) vs
  | u {s : Sl} {Γ outs : List Sl} {v : V} {vs : List V} : Keeps Γ outs vs → Keeps (s :: Γ) (.u :: outs) (v :: vs)
  | o {w : V} {φ : OO} {Γ outs : List Sl} {vs : List V} : Keeps Γ outs vs → Keeps (.o w φ :: Γ) (.o w φ :: outs) (w :: vs)
  | c {w : V} {φ ψ : OO} {Γ outs : List Sl} {vs : List V} (h : ∀ Hb h, φ.p w Hb h → ψ.p w Hb h) : Keeps Γ outs vs → Keeps (.o w φ :: Γ) (.o w ψ :: outs) (w :: vs)
theorem Keeps.get {Γ outs : List Sl} {vs : List V} (k : Keeps Γ outs vs) : outs.length = vs.length ∧ ∀ (i : Nat) (t : Sl), outs[i]? = some t → t = Sl.u ∨ ∃ (w : V) (φ ψ : OO), t = Sl.o w ψ ∧ (∀ Hb h, φ.p w Hb h → ψ.p w Hb h) ∧ Γ[i]? = some (Sl.o w φ) ∧ vs[i]? = some w := by
  induction k with
  | us h => exact ⟨by simp [h], fun i t e => .inl (rep_get e)⟩
  | u k ih =>
    refine ⟨by simp [ih.1], fun i t e => ?_⟩
    cases i with
    | zero => cases e; exact .inl rfl
    | succ i => exact ih.2 i t e
  | o k ih =>
    refine ⟨by simp [ih.1], fun i t e => ?_⟩
    cases i with
    | zero => cases e; exact .inr ⟨_, _, _, rfl, fun _ _ h => h, rfl, rfl⟩
    | succ i => exact ih.2 i t e
  | c h k ih =>
    refine ⟨by simp [ih.1], fun i t e => ?_⟩
    cases i with
    | zero => cases e; exact .inr ⟨_, _, _, rfl, h, rfl, rfl⟩
    | succ i => exact ih.2 i t e
def kpN (outs : List Sl) (hs : Nat → Hp) (n : Nat) (h : Hp) : Nat → Hp := fun i => if i = n then h else match outs[i]? with
  | some (.o _ _) => hs i
  | _ => no
theorem kpN_n {outs : List Sl} {hs : Nat → Hp} {n : Nat} {h : Hp} : kpN outs hs n h n = h := if_pos rfl
theorem kpN_o {outs : List Sl} {hs : Nat → Hp} {n i : Nat} {h : Hp} (e : i ≠ n) {w : V} {φ : OO} (q : outs[i]? = some (.o w φ)) : kpN outs hs n h i = hs i := by
  unfold kpN
  rw [if_neg e, q]
theorem kpN_or {outs : List Sl} {hs : Nat → Hp} {n i : Nat} {h : Hp} {a : Addr} {o : HO} (q : kpN outs hs n h i a = some o) : (i = n ∧ h a = some o) ∨ i ≠ n ∧ hs i a = some o := by
  by_cases e : i = n
  · subst e; rw [kpN_n] at q; exact .inl ⟨rfl, q⟩
  · refine .inr ⟨e, ?_⟩
    unfold kpN at q
    rw [if_neg e] at q
    revert q
    generalize outs[i]? = t
    intro q
    match t, q with
    | some (.o _ _), q => exact q
    | some .u, q => cases q
    | some (.r _), q => cases q
    | some (.x _), q => cases q
    | none, q => cases q
theorem kpN_no {outs : List Sl} {hs : Nat → Hp} {n i : Nat} {h : Hp} {a : Addr} (e : i ≠ n) (q : hs i a = none) : kpN outs hs n h i a = none := by
  unfold kpN
  rw [if_neg e]
  generalize outs[i]? = t
  match t with
  | some (.o _ _) => exact q
  | some .u => rfl
  | some (.r _) => rfl
  | some (.x _) => rfl
  | none => rfl
theorem res_atK {Γ outs : List Sl} {vs : List V} {σ : L2.St} {Hb H : Hp} {hs : Nat → Hp} {h : Hp} {s : Sl} {v : V} (A : At Γ Hb H σ hs) (k : Keeps Γ outs vs) (z : Same h H) (f : ∀ a o, h a = some o → Hb a = none ∧ ∀ i, hs i a = none) (q : SlAt s (some (some v)) Hb h) : (RtF outs s vs).r v H Hb (kpN outs hs vs.length h) := by
  obtain ⟨kl, kg⟩ := k.get
  refine ⟨by simp [kl], A.same, fun i a o e => ?_, fun i a o e => ?_, fun i j a o e ne => ?_, fun i t e => ?_⟩
  · rcases kpN_or e with ⟨_, e⟩ | ⟨_, e⟩
    · exact z a o e
    · exact A.sub i a o e
  · rcases kpN_or e with ⟨_, e⟩ | ⟨_, e⟩
    · exact (f a o e).1
    · exact A.off i a o e
  · rcases kpN_or e with ⟨ei, e2⟩ | ⟨ei, e2⟩
    · subst ei
      exact kpN_no (Ne.symm ne) ((f a o e2).2 j)
    · by_cases ej : j = vs.length
      · subst ej
        rw [kpN_n]
        cases w : h a with
        | none => rfl
        | some o' => rw [(f a o' w).2 i] at e2; cases e2
      · exact kpN_no ej (A.dis i j a o e2 ne)
  · by_cases hi : i < outs.length
    · rw [List.getElem?_append_left hi] at e
      rw [List.getElem?_append_left (by rw [List.length_map, ← kl]; exact hi), List.getElem?_map]
      rcases kg i t e with rfl | ⟨w, φ, ψ, rfl, hc, e1, e2⟩
      · trivial
      · rw [kpN_o (by omega) e, e2]
        exact ⟨rfl, hc _ _ (A.sl i _ e1).2⟩
    · rw [List.getElem?_append_right (by omega)] at e
      have z2 : i = outs.length := by
        have := lt_of_get e
        rw [List.length_singleton] at this
        omega
      subst z2
      rw [Nat.sub_self] at e
      cases Option.some.inj e
      rw [List.getElem?_append_right (by rw [List.length_map, kl]; exact Nat.le_refl _), List.length_map, kl, Nat.sub_self, kpN_n]
      exact q
theorem cl_kpN {outs : List Sl} {hs : Nat → Hp} {n : Nat} {h Hb : Hp} {a : Addr} (c : Cl Hb (kpN outs hs n h) a) : Cl Hb hs a ∨ ∃ o, h a = some o := by
  rcases c with c | ⟨i, o, c⟩
  · exact .inl (.inl c)
  · rcases kpN_or c with ⟨_, e⟩ | ⟨_, e⟩
    · exact .inr ⟨o, e⟩
    · exact .inl (.inr ⟨i, o, e⟩)
theorem allR_map {α : Type} {P : α → Prop} {c : α → RR} : ∀ {xs : List α}, (∀ x ∈ xs, P x) → AllR (xs.map c) (exR P c)
  | [], _ => trivial
  | x :: xs, h => ⟨fun v H q => ⟨x, h x (List.mem_cons_self ..), q⟩, allR_map fun y hy => h y (List.mem_cons_of_mem _ hy)⟩
theorem gs_frzL {w : V} [ims : Ims rs] (i : Nat) (hr : GS X (Γ.set i (.r (isLst X.K rs))) rest N Rt) (hΓ : Γ[i]? = some (.o w (ownL rs)) := by rfl) : GS X Γ rest N Rt := gs_frz i rds_L hr hΓ
theorem gs_setIxL {α : Type} {c : α → RR} {xs : List α} (y : α) (i : Nat) {x : Str} {w : V} [ic : ∀ x, Im (c x)] {k : Int} (n : Nat) {spos : Pos} (he : GE X Γ e (c y)) (hk : GE X Γ b (isInt k)) (hr : GS X (Γ.set i (.o w (ownL ((xs.set n y).map c)))) rest N Rt) (hn : ixN xs.length k = some n) (hΓ : Γ[i]? = some (.o w (ownL (xs.map c))) := by rfl) (hN : X.N[i]? = some x := by rfl) (hv : Vis X.env.scope x := by first | exact Or.inl rfl | exact Or.inr (Or.inl rfl) | exact Or.inr (Or.inr rfl))
    (hm : PS X (.Assign [.Subscript (.Name x pos') b spos] e pos) (tAsg (WE X e) (gSub (tVar i) (WE X b) rSetL)) := by exact ps_asg pe_sem (pg_sub (pv _) pe_sem set_list)) :
    GS X Γ (.Assign [.Subscript (.Name x pos') b spos] e pos :: rest) N Rt := by
  have hlt : i < Γ.length := lt_of_get hΓ
  refine gs_setIx (rs := xs.map c) i (R := c y) n he hk (gs_ocv (ψ := ownL ((xs.set n y).map c)) i (fun Hb h q => ?_) ?_ (by rw [List.getElem?_set_self hlt])) (by rw [List.length_map]; exact hn) hΓ hN hv hm
  · obtain ⟨a, vs, q1, q2, q3⟩ := q
    exact ⟨a, vs, q1, q2, by rw [List.map_set]; exact q3⟩
  · rw [List.set_set]; exact hr
end
end G
namespace G
open PySem PySem.Spec PyProof.Rows L2
/-- two heaps apart -/
def Apart (h1 h2 : Hp) : Prop := ∀ a o, h1 a = some o → h2 a = none
theorem Apart.symm {h1 h2 : Hp} (d : Apart h1 h2) : Apart h2 h1 := fun a o e => by
  cases q : h1 a with
  | none => rfl
  | some u => rw [d a u q] at e; cases e
def OOs : List OO → List V → Hp → Hp → Prop
  | [], [], _, h => h = no
  | φ :: φs, v :: vs, Hb, h => ∃ h1 h2, Apart h1 h2 ∧ h = join h1 h2 ∧ φ.p v Hb h1 ∧ OOs φs vs Hb h2
  | _, _, _, _ => False
theorem OOs.len {Hb : Hp} : ∀ {φs : List OO} {vs : List V} {h : Hp}, OOs φs vs Hb h → vs.length = φs.length
  | [], [], _, _ => rfl
  | _ :: φs, _ :: vs, _, ⟨_, _, _, _, _, q⟩ => by rw [List.length_cons, List.length_cons, OOs.len q]
theorem OOs.im {Hb Hb' : Hp} (e : TX Hb Hb') : ∀ {φs : List OO} {vs : List V} {h : Hp}, OOs φs vs Hb h → OOs φs vs Hb' h
  | [], [], _, h => h
  | φ :: φs, _ :: vs, _, ⟨h1, h2, d, e1, p, q⟩ => ⟨h1, h2, d, e1, φ.im e p, OOs.im e q⟩
theorem rd_join {h1 h2 : Hp} {b : Addr} {u : HO} (r : Rd (join h1 h2) b u) : Rd h1 b u ∨ Rd h2 b u := by
  rcases r with r | ⟨o, r⟩
  · rcases join_c r with r | r
    · exact .inl (.inl r)
    · exact .inr (.inl r)
  · rcases join_c r with r | r
    · exact .inl (.inr ⟨o, r⟩)
    · exact .inr (.inr ⟨o, r⟩)
theorem OOs.nt {Hb : Hp} : ∀ {φs : List OO} {vs : List V} {h : Hp}, OOs φs vs Hb h → ∀ b xs, ¬ Rd h b (.tup xs)
  | [], [], _, h, b, xs, r => by
    cases h
    rcases r with r | ⟨o, r⟩ <;> cases r
  | φ :: φs, _ :: vs, _, ⟨h1, h2, d, e1, p, q⟩, b, xs, r => by
    subst e1
    rcases rd_join r with r | r
    · exact φ.nt p b xs r
    · exact OOs.nt q b xs r
theorem OOs.nf {Hb : Hp} : ∀ {φs : List OO} {vs : List V} {h : Hp}, OOs φs vs Hb h → ∀ b ob u, h b ≠ some (.frz ob u)
  | [], [], _, h, b, ob, u, r => by
    cases h
    cases r
  | φ :: φs, _ :: vs, _, ⟨h1, h2, d, e1, p, q⟩, b, ob, u, r => by
    subst e1
    rcases join_c r with r | r
    · exact φ.nf p b ob u r
    · exact OOs.nf q b ob u r
section
variable {Γ Γ' : List Sl} {Hb H : Hp} {σ : L2.St} {hs : Nat → Hp}
/-- a slot's own is taken out of it -/
theorem At.take (A : At Γ Hb H σ hs) (i : Nat) : At (Γ.set i .u) Hb H σ (putN hs i no) := by
  have A1 := A.drop i
  refine ⟨A1.len, A1.same, fun j a o e => ?_, fun j a o e => ?_, fun j k a o e n => ?_, fun j s e => ?_⟩
  · by_cases z : j = i
    · subst z; rw [putN_same] at e; cases e
    · rw [putN_ne z] at e; exact A1.sub j a o e
  · by_cases z : j = i
    · subst z; rw [putN_same] at e; cases e
    · rw [putN_ne z] at e; exact A1.off j a o e
  · by_cases z : j = i
    · subst z; rw [putN_same] at e; cases e
    · rw [putN_ne z] at e
      by_cases z2 : k = i
      · subst z2; rw [putN_same]; rfl
      · rw [putN_ne z2]; exact A1.dis j k a o e n
  · by_cases z : j = i
    · subst z
      by_cases hl : j < Γ.length
      · rw [List.getElem?_set_self hl] at e
        cases e
        trivial
      · rw [List.getElem?_eq_none (by rw [List.length_set]; omega)] at e; cases e
    · rw [putN_ne z]; exact A1.sl j s e
end
/-- values made, what is named is moved out of its slot -/
structure GM (X : Cx) (Γ : List Sl) (es : List Expr) (φs : List OO) (Γ' : List Sl) : Prop where
  run : ∀ (σ : L2.St) (H Hb : Hp) (hs : Nat → Hp) (Q : List V → Hp → Prop), At Γ Hb H σ hs → (∀ vs H' Hb' hs' h, Step Hb H hs Hb' H' hs' → At Γ' Hb' H' σ hs' → OOs φs vs Hb' h → Same h H' → (∀ a o, h a = some o → Hb' a = none ∧ (∀ i, hs' i a = none) ∧ (Cl Hb hs a ∨ H a = none)) → Q vs H') → WA X es σ H Q
structure GV (X : Cx) (Γ : List Sl) (e : Expr) (φ : OO) (Γ' : List Sl) : Prop where
  run : ∀ (σ : L2.St) (H Hb : Hp) (hs : Nat → Hp) (Q : VK), At Γ Hb H σ hs → (∀ v H' Hb' hs' h, Step Hb H hs Hb' H' hs' → At Γ' Hb' H' σ hs' → φ.p v Hb' h → Same h H' → (∀ a o, h a = some o → Hb' a = none ∧ (∀ i, hs' i a = none) ∧ (Cl Hb hs a ∨ H a = none)) → Q v H') → WE X e σ H Q
section
variable {X : Cx} {Γ Γ' : List Sl} {e : Expr} {es : List Expr} {R : RR} {φ : OO} {φs : List OO} {pos pos' : Pos} {rest : List Stmt} {N : List Sl → Prop} {Rt : Rtn}
theorem same_join {h1 h2 H : Hp} (a : Same h1 H) (b : Same h2 H) : Same (join h1 h2) H := fun x o e => by
  rcases join_c e with e | e
  · exact a x o e
  · exact b x o e
theorem step_new {Hb H Hb1 H1 : Hp} {hs hs1 : Nat → Hp} {a : Addr} (s1 : Step Hb H hs Hb1 H1 hs1) (c : H1 a = none) : Cl Hb hs a ∨ H a = none := by
  cases w : H a with
  | none => exact .inr rfl
  | some u =>
    by_cases n : ∃ i o, hs i a = some o
    · exact .inl (.inr n)
    · rw [s1.k a u w fun i => by
        cases w2 : hs i a with
        | none => rfl
        | some o => exact absurd ⟨i, o, w2⟩ n] at c
      cases c
theorem OOs.head {φ ψ : OO} {φs : List OO} {vs : List V} {Hb h : Hp} (c : ∀ v Hb h, φ.p v Hb h → ψ.p v Hb h) : OOs (φ :: φs) vs Hb h → OOs (ψ :: φs) vs Hb h := by
  match vs with
  | [] => exact fun q => q
  | v :: vs => exact fun ⟨h1, h2, d, e, p, q⟩ => ⟨h1, h2, d, e, c _ _ _ p, q⟩
end
end G
namespace G
open PySem PySem.Spec PyProof.Rows L2
section
variable {X : Cx} {Γ Γ' : List Sl} {e a b : Expr} {es : List Expr} {R : RR} {φ : OO} {φs : List OO} {pos pos' : Pos} {rest : List Stmt} {N : List Sl → Prop} {Rt : Rtn} {Hb H : Hp} {σ : L2.St} {hs : Nat → Hp}
end
/-- addresses as, rows xss -/
inductive InL {α : Type} (c : α → RR) (Hb h : Hp) : List Addr → List (List α) → Prop
  | nil : InL c Hb h [] []
  | cons {b : Addr} {xs : List α} {vs : List V} {as : List Addr} {xss : List (List α)} : h b = some (.lst vs) → All2 (xs.map c) vs Hb → b ∉ as → InL c Hb h as xss → InL c Hb h (b :: as) (xs :: xss)
theorem InL.mono {α : Type} {c : α → RR} [i : ∀ x, Im (c x)] {Hb Hb' h : Hp} (e : TX Hb Hb') {as : List Addr} {xss : List (List α)} (q : InL c Hb h as xss) : InL c Hb' h as xss := by
  induction q with
  | nil => exact .nil
  | cons h1 h2 h3 _ ih => exact .cons h1 (Ims.all e inferInstance h2) h3 ih
theorem InL.upOn {α : Type} {c : α → RR} {Hb h h' : Hp} {as : List Addr} {xss : List (List α)} (q : InL c Hb h as xss) : (∀ b o, b ∈ as → h b = some o → h' b = some o) → InL c Hb h' as xss := by
  induction q with
  | nil => intro _; exact .nil
  | cons h1 h2 h3 _ ih => intro e; exact .cons (e _ _ (List.mem_cons_self ..) h1) h2 h3 (ih fun b o m => e b o (List.mem_cons_of_mem _ m))
theorem InL.len {α : Type} {c : α → RR} {Hb h : Hp} {as : List Addr} {xss : List (List α)} (q : InL c Hb h as xss) : as.length = xss.length := by
  induction q with
  | nil => rfl
  | cons _ _ _ _ ih => rw [List.length_cons, List.length_cons, ih]
theorem InL.get {α : Type} {c : α → RR} {Hb h : Hp} {as : List Addr} {xss : List (List α)} (q : InL c Hb h as xss) : ∀ {n : Nat} {b : Addr}, as[n]? = some b → ∃ xs vs, xss[n]? = some xs ∧ h b = some (.lst vs) ∧ All2 (xs.map c) vs Hb := by
  induction q with
  | nil => intro n b e; simp at e
  | cons h1 h2 h3 _ ih =>
    intro n b' e
    cases n with
    | zero => cases e; exact ⟨_, _, rfl, h1, h2⟩
    | succ n => exact ih e
section
variable {X : Cx} {Γ : List Sl} {e a b : Expr} {R : RR} {pos pos' : Pos} {rest : List Stmt} {N : List Sl → Prop} {Rt : Rtn}
/-- an unclaimed cell is changed -/
theorem At.poke {Γ : List Sl} {Hb H : Hp} {σ : L2.St} {hs : Nat → Hp} (A : At Γ Hb H σ hs) {a : Addr} {o : HO} (h1 : Hb a = none) (h2 : ∀ i, hs i a = none) : At Γ Hb (upd H a o) σ hs := by
  refine ⟨A.len, fun b u e => ?_, fun i b u e => ?_, A.off, A.dis, A.sl⟩
  · have : b ≠ a := fun z => by subst z; rw [h1] at e; cases e
    rw [upd_ne this]; exact A.same b u e
  · have : b ≠ a := fun z => by subst z; rw [h2 i] at e; cases e
    rw [upd_ne this]; exact A.sub i b u e
end
end G
namespace G
open PySem PySem.Spec PyProof.Rows L2
section
variable {X : Cx} {Γ : List Sl} {e a b : Expr} {R : RR} {pos pos' : Pos} {rest : List Stmt} {N : List Sl → Prop} {Rt : Rtn} {x : Int} {S : List Int} {k : Nat}
end
end G
namespace G
open PySem PySem.Spec PyProof.Rows L2
section
variable {X : Cx} {Γ Γ' : List Sl} {e a b : Expr} {R : RR} {rs : List RR} {pos pos' : Pos} {rest body : List Stmt} {N : List Sl → Prop} {Rt : Rtn} {Hb H : Hp} {σ : L2.St} {hs : Nat → Hp}
theorem all2_setx {α : Type} {P : α → Prop} {c : α → RR} {H : Hp} : ∀ {xs : List α} {n : Nat} {vs : List V}, n < xs.length → All2 ((xs.map c).set n (exR P c)) vs H → ∃ y, P y ∧ All2 ((xs.set n y).map c) vs H
  | [], _, _, h, _ => by simp at h
  | x :: xs, 0, v :: vs, _, ⟨⟨y, hy, q⟩, h⟩ => ⟨y, hy, q, h⟩
  | x :: xs, n + 1, v :: vs, hn, ⟨q, h⟩ => by
    obtain ⟨y, hy, h'⟩ := all2_setx (xs := xs) (n := n) (by simpa using hn) h
    exact ⟨y, hy, q, h'⟩
/-- x[k] = something that has P -/
theorem gs_setIxx {α : Type} {P : α → Prop} {c : α → RR} {xs : List α} (i : Nat) {x : Str} {w : V} [ic : ∀ x, Im (c x)] {k : Int} (n : Nat) {spos : Pos} (he : GE X Γ e (exR P c)) (hk : GE X Γ b (isInt k)) (hr : ∀ y, P y → GS X (Γ.set i (.o w (ownL ((xs.set n y).map c)))) rest N Rt) (hn : ixN xs.length k = some n) (hn2 : n < xs.length) (hΓ : Γ[i]? = some (.o w (ownL (xs.map c))) := by rfl) (hN : X.N[i]? = some x := by rfl) (hv : Vis X.env.scope x := by first | exact Or.inl rfl | exact Or.inr (Or.inl rfl) | exact Or.inr (Or.inr rfl))
    (hm : PS X (.Assign [.Subscript (.Name x pos') b spos] e pos) (tAsg (WE X e) (gSub (tVar i) (WE X b) rSetL)) := by exact ps_asg pe_sem (pg_sub (pv _) pe_sem set_list)) :
    GS X Γ (.Assign [.Subscript (.Name x pos') b spos] e pos :: rest) N Rt := by
  have hlt : i < Γ.length := lt_of_get hΓ
  refine gs_setIx (rs := xs.map c) i (R := exR P c) n he hk (gs_oex (α := α) (P := P) (ψ := fun y => ownL ((xs.set n y).map c)) i (fun Hb h q => ?_) (fun y hy => ?_) (by rw [List.getElem?_set_self hlt])) (by rw [List.length_map]; exact hn) hΓ hN hv hm
  · obtain ⟨a, vs, q1, q2, q3⟩ := q
    obtain ⟨y, hy, q4⟩ := all2_setx hn2 q3
    exact ⟨y, hy, a, vs, q1, q2, q4⟩
  · rw [List.set_set]; exact hr y hy
/-- x, y = e (a pair) -/
theorem gs_unpT2 {x y : Str} {R1 R2 : RR} {px py pt : Pos} {kt : Nat} (j1 j2 : Nat) (he : GE X Γ e (isTup X.K [R1, R2])) (hr : GS X ((Γ.set j1 (.r R1)).set j2 (.r R2)) rest N Rt) (hN : X.N.Nodup) (hc : X.calm = true := by rfl) (n1 : X.N[j1]? = some x := by rfl) (n2 : X.N[j2]? = some y := by rfl) (l1 : Loc X.env.scope x := by first | exact Or.inl rfl | exact Or.inr rfl) (l2 : Loc X.env.scope y := by first | exact Or.inl rfl | exact Or.inr rfl)
    (f1 : X.fn x = true ∨ X.env.scope.names.lookup x = some .local := by first | exact .inl rfl | exact .inr rfl) (f2 : X.fn y = true ∨ X.env.scope.names.lookup y = some .local := by first | exact .inl rfl | exact .inr rfl) (hs0 : swapsWithSole [.Tuple [.Name x px, .Name y py] kt pt] e pos.line X.env = pure false := by rfl) (hw0 : swappedStores [.Tuple [.Name x px, .Name y py] kt pt] e X.env = pure none := by rfl) :
    GS X Γ (.Assign [.Tuple [.Name x px, .Name y py] kt pt] e pos :: rest) N Rt := .mk fun σ H Hb hs D A q r W tk xc => by
  refine wss_of (pss_cons (ps_asg pe_sem (pg_tup hc (pgs_cons (pg_name hN n1 l1 f1) (pgs_cons (pg_name hN n2 l2 f2) pgs_nil))) hs0 hw0) pss_sem) (he.run σ H Hb hs _ A fun v H1 Hb1 hs1 s1 A1 r1 => ?_)
  obtain ⟨a, vs, rfl, q1, q2⟩ := r1
  obtain ⟨v1, v2, rfl, q3, q4⟩ := all2_2 q2
  refine ⟨a, [v1, v2], rfl, tx_sqT (tx_of A1.same) q1, rfl, v1, [v2], rfl, v2, [], rfl, rfl, ?_⟩
  have A3 := (A1.set (i := j1) q3).set (i := j2) q4
  exact hr.run _ H1 Hb1 _ D A3 (fun Γ2 σ2 H2 Hb2 hs2 n2 s4 A4 => q Γ2 σ2 H2 Hb2 hs2 n2 (A3.trans s1 s4) A4) (fun v H2 Hb2 hs2 s4 r2 => r v H2 Hb2 hs2 (A3.trans s1 s4) r2) W tk (fun c9 d9 σ9 H2 Hb2 hs2 s4 x9 => xc c9 d9 σ9 H2 Hb2 hs2 (A3.trans s1 s4) x9)
theorem Has.map {P : Program} {w : World} {K : PySem.W.Frag} {mg : Str → Option Value} {base : Heap} {k : Nat} {x : Str} {ps : List Str} {γ γ' : Type} {Pc : γ → Prop} {pre outs : γ → List Sl} {res : γ → Sl} {Pc' : γ' → Prop} {pre' outs' : γ' → List Sl} {res' : γ' → Sl}
    (F : Has P w K mg base k x ps (FS Pc pre outs res)) (f : γ' → γ) (hP : ∀ g, Pc' g → Pc (f g)) (hp : ∀ g, Pc' g → pre' g = pre (f g)) (ho : ∀ g, Pc' g → outs (f g) = outs' g) (hr : ∀ g, Pc' g → res (f g) = res' g) : Has P w K mg base k x ps (FS Pc' pre' outs' res') :=
  F.imp fun g hg Hb H σ hs A => ⟨f g, hP g hg, hp g hg ▸ A, ho g hg, fun o Hb h q => hr g hg ▸ q⟩
end
end G
namespace G
open PySem PySem.Spec PyProof.Rows L2
section
variable {X : Cx} {Γ Γ' : List Sl} {e a b : Expr} {R : RR} {rs : List RR} {pos pos' : Pos} {rest body : List Stmt} {N : List Sl → Prop} {Rt : Rtn} {Hb H : Hp} {σ : L2.St} {hs : Nat → Hp}
end
section
variable {K : PySem.W.Frag} {α β δ ε : Type} [DecidableEq α] [DecidableEq β] [DecidableEq δ] [DecidableEq ε] {c : α → RR} {d : β → RR} {e : δ → RR} {e4 : ε → RR} {n m k : Nat} {dom : α → Prop} {dom' : β → Prop} {dom'' : δ → Prop} {dom4 : ε → Prop}
end
end G
namespace G
open PySem PySem.Spec PyProof.Rows L2
inductive RdsL : List OO → List RR → Prop
  | nil : RdsL [] []
  | cons {φ : OO} {R : RR} {φs : List OO} {rs : List RR} : (∀ v, Rds φ v R) → RdsL φs rs → RdsL (φ :: φs) (R :: rs)
end G
namespace G
open PySem PySem.W PySem.Spec PySem.Calls PyProof.Rows Builtin L2
section
variable {P : Program} {w : World} {A : Around} {E : Value → Shared → Prop} {s : Shared}
end
end G
namespace G
open PySem PySem.Spec PyProof.Rows L2
/-- each once, rising -/
def SortedSet (ns out : List Int) : Prop := out.Pairwise (· < ·) ∧ ∀ k, k ∈ out ↔ k ∈ ns
section
variable {X : Cx} {Γ : List Sl} {a : Expr} {pos pos2 p p2 : Pos}
variable {e : Expr} {rest body : List Stmt} {N : List Sl → Prop} {Rt : Rtn} {pos' : Pos}
end
end G
namespace G
open PySem PySem.Spec PyProof.Rows L2
section
variable {X : Cx} {Γ : List Sl} {e : Expr} {rest body : List Stmt} {N : List Sl → Prop} {Rt : Rtn} {pos : Pos}
/-- x, y = e (a drawn pair) -/
theorem gs_unpTx2 {α : Type} {P : α → Prop} {R1 R2 : α → RR} {x y : Str} {px py pt : Pos} {kt : Nat} (j1 j2 : Nat) (he : GE X Γ e (exR P fun g => isTup X.K [R1 g, R2 g])) (hr : ∀ g, P g → GS X ((Γ.set j1 (.r (R1 g))).set j2 (.r (R2 g))) rest N Rt) (hN : X.N.Nodup) (hc : X.calm = true := by rfl) (n1 : X.N[j1]? = some x := by rfl) (n2 : X.N[j2]? = some y := by rfl) (l1 : Loc X.env.scope x := by first | exact Or.inl rfl | exact Or.inr rfl) (l2 : Loc X.env.scope y := by first | exact Or.inl rfl | exact Or.inr rfl)
    (f1 : X.fn x = true ∨ X.env.scope.names.lookup x = some .local := by first | exact .inl rfl | exact .inr rfl) (f2 : X.fn y = true ∨ X.env.scope.names.lookup y = some .local := by first | exact .inl rfl | exact .inr rfl) (hs0 : swapsWithSole [.Tuple [.Name x px, .Name y py] kt pt] e pos.line X.env = pure false := by rfl) (hw0 : swappedStores [.Tuple [.Name x px, .Name y py] kt pt] e X.env = pure none := by rfl) :
    GS X Γ (.Assign [.Tuple [.Name x px, .Name y py] kt pt] e pos :: rest) N Rt := .mk fun σ H Hb hs D A q r W tk xc => by
  refine wss_of (pss_cons (ps_asg pe_sem (pg_tup hc (pgs_cons (pg_name hN n1 l1 f1) (pgs_cons (pg_name hN n2 l2 f2) pgs_nil))) hs0 hw0) pss_sem) (he.run σ H Hb hs _ A fun v H1 Hb1 hs1 s1 A1 r1 => ?_)
  obtain ⟨g, pg, a, vs, rfl, q1, q2⟩ := r1
  obtain ⟨v1, v2, rfl, q3, q4⟩ := all2_2 q2
  refine ⟨a, [v1, v2], rfl, tx_sqT (tx_of A1.same) q1, rfl, v1, [v2], rfl, v2, [], rfl, rfl, ?_⟩
  have A3 := (A1.set (i := j1) q3).set (i := j2) q4
  exact (hr g pg).run _ H1 Hb1 _ D A3 (fun Γ2 σ2 H2 Hb2 hs2 n2 s4 A4 => q Γ2 σ2 H2 Hb2 hs2 n2 (A3.trans s1 s4) A4) (fun v H2 Hb2 hs2 s4 r2 => r v H2 Hb2 hs2 (A3.trans s1 s4) r2) W tk (fun c9 d9 σ9 H2 Hb2 hs2 s4 x9 => xc c9 d9 σ9 H2 Hb2 hs2 (A3.trans s1 s4) x9)
end
section
variable {X : Cx} {Γ Γ' : List Sl} {elt it : Expr} {ifs : List Expr} {β : Type} {c : β → RR} {I : Nat → List β → Prop} {σ0 σ2 : L2.St} {Hb1 H1 : Hp} {hs1 : Nat → Hp} {D : Addr}
end
section
variable {X : Cx} {Γ Γ' : List Sl} {elt it : Expr} {ifs : List Expr} {β : Type} {c : β → RR} [ic : ∀ x, Im (c x)] {I : Nat → List β → Prop} {scope : Scope} {pos spos py : Pos}
/-- what a turn gives, told of the block's state -/
structure LcTG (X : Cx) (Γ' : List Sl) (scope : Scope) (elt : Expr) (ifs : List Expr) (I : Nat → List β → Prop) (c : β → RR) (i : Nat) : Prop where
  run : ∃ Pt : Bool → Prop, (∀ ys, I i ys → ∀ s H C cl fp, (match ifs with | [] => Pt true | [t] => GT (Blk X scope s H C cl fp) Γ' t Pt | _ => False)) ∧
    (∀ ys, I i ys → Pt true → ∀ s H C cl fp, GE (Blk X scope s H C cl fp) Γ' elt (exR (fun y => I (i + 1) (ys ++ [y])) c)) ∧ ∀ ys, I i ys → ifs ≠ [] → Pt false → I (i + 1) ys
end
end G
namespace G
open PySem PySem.Spec PyProof.Rows L2
section
variable {X : Cx} {Γ Γ' : List Sl} {e a b : Expr} {R : RR} {rs : List RR} {pos pos' p2 : Pos} {rest body : List Stmt} {N : List Sl → Prop} {Rt : Rtn} {Hb H : Hp} {σ : L2.St} {hs : Nat → Hp}
abbrev nI (n : Nat) : RR := isInt (n : Int)
/-- an expression that changes what is owned -/
structure GZ {α : Type} (X : Cx) (Γ : List Sl) (e : Expr) (P : α → Prop) (R : α → RR) (Γ' : α → List Sl) : Prop where
  run : ∀ (σ : L2.St) (H Hb : Hp) (hs : Nat → Hp) (Q : VK), At Γ Hb H σ hs → (∀ y v H' Hb' hs', P y → Step Hb H hs Hb' H' hs' → At (Γ' y) Hb' H' σ hs' → (R y).p v Hb' → Q v H') → WE X e σ H Q
/-- insert at a place that is not below 0 -/
def rIns : V → List V → Hp → VK → Prop := fun x vs H Q => ∃ (l : Addr) (xs : List V) (k : Nat) (y : V), x = .ref l ∧ vs = [.int (k : Int), y] ∧ H l = some (.lst xs) ∧ xs.length < sizeLine ∧ k < 100000 ∧ Q .non (upd H l (.lst (xs.take k ++ [y] ++ xs.drop k)))
theorem mt_ins : MtR X "list.insert" rIns := fun pins s σ H x xs v us Q I rx rs ⟨l, xs', k, y, a, b, c, d, e, q⟩ => mt_insert pins s σ H x xs v us Q I rx rs ⟨l, xs', (k : Int), y, a, b, c, d, by omega, by omega, q⟩
/-- x.insert(k, e) -/
theorem gs_insert {β : Type} {c : β → RR} [ic : ∀ x, Im (c x)] {xs : List β} {y : β} (i : Nat) {x : Str} {w : V} {apos : Pos} {k : Nat} (hk : GE X Γ b (nI k)) (he : GE X Γ e (c y)) (hr : GS X (Γ.set i (.o w (ownL ((xs.take k ++ [y] ++ xs.drop k).map c)))) rest N Rt) (hz : xs.length < 100000) (hk2 : k < 100000) (hΓ : Γ[i]? = some (.o w (ownL (xs.map c))) := by rfl) (hN : X.N[i]? = some x := by rfl) (hv : Vis X.env.scope x := by first | exact Or.inl rfl | exact Or.inr (Or.inl rfl) | exact Or.inr (Or.inr rfl))
    (hd : (x == ("__debug__" : Str)) = false := by decide) (hcd : (x == ("__classdict__" : Str)) = false := by decide) (h1 : starEach [b, e] X.env = (false, eval b X.env) :: starEach [e] X.env := by rfl) (h2 : starEach [e] X.env = (false, eval e X.env) :: starEach [] X.env := by rfl)
    (hm : PS X (.Expr (.Call (.Attribute (.Name x pos') "insert" apos) [b, e] [] pos) pos) (tDrop (tBM X.K "list" rIns (tVar i) (WA X [b, e]))) := by exact ps_expr (pe_bm PySem.F.plainAttrs_list PySem.F.slot_list_insert PySem.F.type_list_insert mt_ins (pv _) pa_sem)) :
    GS X Γ (.Expr (.Call (.Attribute (.Name x pos') "insert" apos) [b, e] [] pos) pos :: rest) N Rt := .mk fun σ H Hb hs D A q r W tk xc => by
  obtain ⟨e0, l, vs, e2, e3, e4⟩ := A.sl i _ hΓ
  subst e2
  have hl : H l = some (.lst vs) := A.sub i l _ (by rw [e3]; exact sing_same)
  refine wss_of (pss_cons hm pss_sem) ⟨_, e0, .inl ⟨rfl, _, .inl (.inl hl)⟩, ?_⟩
  refine (ga_cons hk (ga_cons he ga_nil h2) h1).run σ H Hb hs _ A fun us H1 Hb1 hs1 t1 A1 r1 => ?_
  obtain ⟨v1, v, rfl, r3, r2⟩ := all2_2 (aks_all (rs := [nI k, c y]) r1)
  cases r3
  obtain ⟨e5, l', vs', e6, e7, e8⟩ := A1.sl i _ hΓ
  cases e6
  have hl1 : H1 l = some (.lst vs') := A1.sub i l _ (by rw [e7]; exact sing_same)
  refine ⟨l, vs', k, v, rfl, rfl, hl1, Nat.lt_of_lt_of_le (by rw [e8.len, List.length_map]; exact hz) (by decide : 100000 ≤ sizeLine), hk2, ?_⟩
  obtain ⟨A2, s2⟩ := A1.setOwn (ψ := ownL ((xs.take k ++ [y] ++ xs.drop k).map c)) (h := sing l (.lst (vs'.take k ++ [v] ++ vs'.drop k))) hΓ (fun a o e => by
    obtain ⟨rfl, _⟩ := sing_some e
    exact ⟨_, by rw [e7]; exact sing_same⟩) ⟨l, _, rfl, rfl, by
      rw [List.map_append, List.map_append, List.map_take, List.map_drop]
      exact ((e8.take k).app (vs' := [v]) (rs' := [c y]) ⟨r2, trivial⟩).app (e8.drop k)⟩ (H' := upd H1 l (.lst (vs'.take k ++ [v] ++ vs'.drop k))) (fun a o e n => by
    rw [upd_ne]; exact e
    intro z
    subst z
    rw [e7, sing_same] at n
    cases n) (fun a o e => by
    obtain ⟨rfl, rfl⟩ := sing_some e
    exact upd_same)
  have t2 := A1.trans t1 s2
  exact hr.run _ _ Hb1 _ D A2 (fun Γ2 σ2 H2 Hb2 hs2 n2 s3 A3 => q Γ2 σ2 H2 Hb2 hs2 n2 (A2.trans t2 s3) A3) (fun v H2 Hb2 hs2 s3 r2 => r v H2 Hb2 hs2 (A2.trans t2 s3) r2) W tk (fun c9 d9 σ9 H2 Hb2 hs2 s3 x9 => xc c9 d9 σ9 H2 Hb2 hs2 (A2.trans t2 s3) x9)
end
end G
namespace G
open PySem PySem.Spec PyProof.Rows L2
section
variable {X : Cx} {Γ Γ' : List Sl} {e a b : Expr} {R : RR} {rs : List RR} {pos pos' p2 : Pos} {rest body : List Stmt} {N : List Sl → Prop} {Rt : Rtn} {Hb H : Hp} {σ : L2.St} {hs : Nat → Hp}
end
end G
namespace G
open PySem PySem.Spec PyProof.Rows L2
section
variable {X : Cx} {Γ Γ' : List Sl} {e a b : Expr} {R : RR} {rs : List RR} {pos pos' p2 p apos : Pos} {rest body : List Stmt} {N : List Sl → Prop} {Rt : Rtn} {Hb H : Hp} {σ : L2.St} {hs : Nat → Hp}
end
end G
namespace G
open PySem PySem.Spec PyProof.Rows L2
section
variable {prog : Program} {w : World} {A : Around} {E : Value → Shared → Prop} {s : Shared}
end
section
variable {X : Cx}
end
section
variable {X : Cx} {Γ Γ' : List Sl} {e a b : Expr} {R : RR} {rs : List RR} {pos pos' p p1 p2 p3 apos : Pos} {rest body : List Stmt} {N : List Sl → Prop} {Rt : Rtn} {Hb H : Hp} {σ : L2.St} {hs : Nat → Hp}
theorem any_dec {α : Type} [DecidableEq α] {f : α → PyData} (h : ∀ x y, PyData.eqv (f x) (f y) = decide (x = y)) (x : α) : ∀ ys : List α, ((ys.map f).any fun z => PyData.eqv z (f x)) = decide (x ∈ ys)
  | [] => by simp
  | y :: ys => by
    rw [List.map_cons, List.any_cons, any_dec h x ys, h, Bool.eq_iff_iff]
    simp
    constructor
    · rintro (q | q)
      · exact .inl q.symm
      · exact .inr q
    · rintro (q | q)
      · exact .inl q.symm
      · exact .inr q
section
variable {α : Type} [DecidableEq α] {c : α → RR} {n k : Nat} {dom : α → Prop} {x : α} {ys : List α}
theorem rv_inE (E : En X.K c n dom) (hn : n < 64) (hx : dom x) (hy : ∀ y ∈ ys, dom y) : RV (rInD X.K) (c x) (isLst X.K (ys.map c)) (isB (decide (x ∈ ys))) := fun v w Hb H Q s h1 h2 q => by
  obtain ⟨f, f1, f2, f3, f4⟩ := E.ex
  obtain ⟨g, g1, g2, g3, g4⟩ := (en_lstL E).ex
  obtain ⟨a, vs, e1, e2, e3⟩ := (isLst X.K (ys.map c)).mono s h2
  subst e1
  refine ⟨f x, ys.map f, f1 _ _ _ ((c x).mono s h1), .lst e2 (enc_all f1 e3), ?_, ?_, ?_⟩
  · unfold SeqAt.shaped
    rw [f2 _ hx, decide_eq_true (by have := f3 x; omega)]; rfl
  · unfold SeqAt.shaped
    have h1 : (PyData.list (ys.map f)).canLay0 = true := lay_all f2 ys hy
    have h2 : (PyData.list (ys.map f)).depth ≤ 64 := by
      show PyData.depthAll (ys.map f) + 1 ≤ 64
      have := dep_all f3 ys
      omega
    rw [h1, decide_eq_true h2]; rfl
  · rw [any_dec f4]
    exact q _ rfl
theorem gt_inE (E : En X.K c n dom) (hr : Room k X.A) (ha : GE X Γ a (c x)) (hb : GE X Γ b (isLst X.K (ys.map c))) (hx : dom x) (hy : ∀ y ∈ ys, dom y) (hn : n < 64 := by decide) (hm : behindInMarks .In b = false := by rfl) : GT X Γ (.Compare a [.In] [b] pos) (· = decide (x ∈ ys)) := gt_cmp (op_inD (by have := hr.un; omega)) ha hb (rv_inE E hn hx hy) hm
end
end
end G
namespace G
open PySem PySem.Spec PyProof.Rows L2
section
variable {X : Cx} {Γ Γ' : List Sl} {e a b : Expr} {es : List Expr} {R : RR} {rs : List RR} {pos pos' p2 p apos pn : Pos} {rest body : List Stmt} {N : List Sl → Prop} {Rt : Rtn} {Hb H : Hp} {σ : L2.St} {hs : Nat → Hp} {φ : OO}
theorem InL.set {α : Type} {c : α → RR} {Hb h : Hp} {as : List Addr} {xss : List (List α)} (q : InL c Hb h as xss) : ∀ {n : Nat} {b : Addr} {xs : List α} {vs : List V}, as[n]? = some b → All2 (xs.map c) vs Hb → InL c Hb (upd h b (.lst vs)) as (xss.set n xs) := by
  induction q with
  | nil => intro n b xs vs e; simp at e
  | @cons b0 xs0 vs0 as xss h1 h2 h3 h4 ih =>
    intro n b xs vs e r
    cases n with
    | zero =>
      cases e
      refine .cons upd_same r h3 (h4.upOn fun b o m e => ?_)
      have : b ≠ b0 := fun z => h3 (z ▸ m)
      rw [upd_ne this]; exact e
    | succ n =>
      have e' : as[n]? = some b := e
      have : b0 ≠ b := fun z => h3 (z ▸ List.mem_of_getElem? e')
      exact .cons (by rw [upd_ne this]; exact h1) h2 h3 (ih e' r)
end
end G
namespace G
open PySem PySem.Spec PyProof.Rows L2
section
variable {X : Cx} {Γ : List Sl} {elt it : Expr} {β : Type} {c : β → RR} [ic : ∀ x, Im (c x)] {rs : List RR} {j : Nat} {I : Nat → List (List β) → Prop} {σ : L2.St} {Hb1 H1 : Hp} {hs1 : Nat → Hp} {D : Addr} {scope : Scope} {x : Str} {xp pos : Pos}
/-- what a turn gives -/
structure LcTA (X : Cx) (Γ : List Sl) (scope : Scope) (elt : Expr) (j : Nat) (I : Nat → List (List β) → Prop) (c : β → RR) [ic : ∀ x, Im (c x)] (i : Nat) (R : RR) : Prop where
  run : ∀ yss, I i yss → ∀ s H C cl fp, GO (Blk X scope s H C cl fp) (Γ.set j (.r R)) elt (exO (fun ys => I (i + 1) (yss ++ [ys])) fun ys => ownL (ys.map c))
end
end G
namespace G
open PySem PySem.Spec PyProof.Rows L2
def ofL (l : List (Addr × HO)) : Hp := fun a => l.lookup a
abbrev Nd (l : List (Addr × HO)) : Prop := (l.map (·.1)).Nodup
theorem ofL_mem : ∀ {l : List (Addr × HO)} {a : Addr} {o : HO}, ofL l a = some o → (a, o) ∈ l
  | [], a, o, e => by cases e
  | (b, u) :: r, a, o, e => by
    have e2 : (match a == b with | true => some u | false => r.lookup a) = some o := e
    cases q : (a == b) with
    | true => rw [q] at e2; cases e2; rw [beq_iff_eq.mp q]; exact List.mem_cons_self
    | false => rw [q] at e2; exact List.mem_cons_of_mem _ (ofL_mem (l := r) e2)
theorem ofL_cons {b a : Addr} {u : HO} {r : List (Addr × HO)} : ofL ((b, u) :: r) a = if a = b then some u else ofL r a := by
  show (match a == b with | true => some u | false => r.lookup a) = _
  by_cases z : a = b
  · rw [if_pos z, beq_iff_eq.mpr z]
  · rw [if_neg z, beq_eq_false_iff_ne.mpr z]; rfl
theorem ofL_get : ∀ {l : List (Addr × HO)} {a : Addr} {o : HO}, Nd l → (a, o) ∈ l → ofL l a = some o
  | (b, u) :: r, a, o, n, m => by
    rw [ofL_cons]
    have n' : b ∉ r.map (·.1) ∧ Nd r := List.nodup_cons.mp n
    rcases List.mem_cons.mp m with e | m
    · cases e; exact if_pos rfl
    · have : a ≠ b := fun z => n'.1 (z ▸ List.mem_map.mpr ⟨_, m, rfl⟩)
      rw [if_neg this]; exact ofL_get n'.2 m
theorem keys_ofL {l : List (Addr × HO)} (n : Nd l) {a : Addr} (h : a ∈ l.map (·.1)) : ∃ o, ofL l a = some o := by
  obtain ⟨⟨b, o⟩, m, e⟩ := List.mem_map.mp h
  cases e
  exact ⟨o, ofL_get n m⟩
theorem ofL_join {l1 l2 : List (Addr × HO)} : ofL (l1 ++ l2) = join (ofL l1) (ofL l2) := funext fun a => by
  show (l1 ++ l2).lookup a = (match l1.lookup a with | some o => some o | none => l2.lookup a)
  rw [List.lookup_append]
  cases l1.lookup a <;> rfl
/-- a list, an instance, a dict -/
inductive NT : HO → Prop
  | l (xs : List V) : NT (.lst xs)
  | i (C dx : Addr) (fs : List (Str × V)) : NT (.ins C dx fs)
  | d (kvs : List (Key × V)) : NT (.dK kvs)
theorem nt_dK {kvs} : NT (.dK kvs) := .d _
theorem NT.nt {o : HO} (h : NT o) : (∀ xs, o ≠ .tup xs) ∧ ∀ ob u, o ≠ .frz ob u := by
  cases h <;> exact ⟨(fun _ h => nomatch h), (fun _ _ h => nomatch h)⟩
/-- what is known of the tuples that a region names -/
structure CC where
  p : Hp → Prop
  im : ∀ {H H'}, TX H H' → p H → p H'
def cT : CC := ⟨fun _ => True, fun _ _ => trivial⟩
def CC.and (a b : CC) : CC := ⟨fun H => a.p H ∧ b.p H, fun e h => ⟨a.im e h.1, b.im e h.2⟩⟩
def regL (l : List (Addr × HO)) (C : CC) : OO where
  p := fun _ Hb h => h = ofL l ∧ Nd l ∧ (∀ q ∈ l, NT q.2) ∧ C.p Hb
  im := fun e ⟨h1, h2, h3, h4⟩ => ⟨h1, h2, h3, C.im e h4⟩
  nt := fun ⟨h1, h2, h3, h4⟩ a xs r => by
    subst h1
    rcases r with r | ⟨o, r⟩
    · exact (h3 _ (ofL_mem r)).nt.1 xs rfl
    · exact (h3 _ (ofL_mem r)).nt.2 o _ rfl
  nf := fun ⟨h1, h2, h3, h4⟩ a ob u r => by
    subst h1
    exact (h3 _ (ofL_mem r)).nt.2 ob u rfl
/-- .. with the value that names it -/
def regV (v : V) (l : List (Addr × HO)) (C : CC) : OO where
  p := fun u Hb h => u = v ∧ (regL l C).p u Hb h
  im := fun e ⟨h0, h⟩ => ⟨h0, (regL l C).im e h⟩
  nt := fun ⟨_, h⟩ => (regL l C).nt h
  nf := fun ⟨_, h⟩ => (regL l C).nf h
section
variable {X : Cx} {Γ Γ' : List Sl} {e a b : Expr} {es : List Expr} {R R' : RR} {rs : List RR} {pos pos' p p2 apos : Pos} {rest body : List Stmt} {N : List Sl → Prop} {Rt : Rtn} {Hb H : Hp} {σ : L2.St} {hs : Nat → Hp} {l l' l1 l2 : List (Addr × HO)} {C C' : CC}
theorem reg_cc {v : V} {h : Hp} (c : ∀ H, C.p H → C'.p H) (q : (regL l C).p v Hb h) : (regL l C').p v Hb h := ⟨q.1, q.2.1, q.2.2.1, c _ q.2.2.2⟩
/-- a cell is known -/
structure Kn (Γ : List Sl) (a : Addr) (o : HO) : Prop where
  run : ∀ {Hb H : Hp} {σ : L2.St} {hs : Nat → Hp}, At Γ Hb H σ hs → Rd H a o
/-- a fact of the base -/
structure Kc (Γ : List Sl) (P : Hp → Prop) : Prop where
  run : ∀ {Hb H : Hp} {σ : L2.St} {hs : Nat → Hp}, At Γ Hb H σ hs → P Hb
/-- a cell of one's own is known -/
structure Ke (Γ : List Sl) (a : Addr) (o : HO) : Prop where
  run : ∀ {Hb H : Hp} {σ : L2.St} {hs : Nat → Hp}, At Γ Hb H σ hs → H a = some o
theorem Ke.kn {a : Addr} {o : HO} (k : Ke Γ a o) : Kn Γ a o := ⟨fun A => .inl (k.run A)⟩
/-- a region that is only read -/
def isReg (l : List (Addr × HO)) (C : CC) : RR := ⟨fun _ H => (∀ q ∈ l, Rd H q.1 q.2) ∧ C.p H, fun e ⟨h1, h2⟩ => ⟨fun q m => rd_same e (h1 q m), C.im (tx_of e) h2⟩⟩
/-- .. of a known value -/
def isRegV (v : V) (l : List (Addr × HO)) (C : CC) : RR := ⟨fun u H => u = v ∧ (isReg l C).p u H, fun e ⟨h0, h⟩ => ⟨h0, (isReg l C).mono e h⟩⟩
theorem rds_reg {w : V} : Rds (regL l C) w (isRegV w l C) := fun Hb h' ⟨h1, h2, h3, h4⟩ Hc c1 c2 => ⟨rfl, fun q m => .inl (c2 _ _ (by rw [h1]; exact ofL_get h2 m)), C.im (tx_of c1) h4⟩
/-- a cell of the base -/
structure Kb (Γ : List Sl) (a : Addr) (o : HO) : Prop where
  run : ∀ {Hb H : Hp} {σ : L2.St} {hs : Nat → Hp}, At Γ Hb H σ hs → Rd Hb a o
theorem Kb.kn {a : Addr} {o : HO} (k : Kb Γ a o) : Kn Γ a o := ⟨fun A => rd_same A.same (k.run A)⟩
end
end G
namespace G
open PySem PySem.Spec PyProof.Rows L2
/-- what a new fragment is apart of -/
def Frs (Hb H : Hp) (hs : Nat → Hp) (Hb' : Hp) (hs' : Nat → Hp) (h : Hp) : Prop := ∀ a o, h a = some o → Hb' a = none ∧ (∀ i, hs' i a = none) ∧ (Cl Hb hs a ∨ H a = none)
structure GX {δ : Type} (X : Cx) (Γ : List Sl) (e : Expr) (Po : δ → Prop) (Γ' : δ → List Sl) (s : δ → Sl) (Px : Value → List Sl → Prop) : Prop where
  run : ∀ (σ : L2.St) (H Hb : Hp) (hs : Nat → Hp) (Q : VK) (W : WX), At Γ Hb H σ hs → Takes X W →
    (∀ y v H' Hb' hs' h, Po y → Step Hb H hs Hb' H' hs' → At (Γ' y) Hb' H' σ hs' → SlAt (s y) (some (some v)) Hb' h → Same h H' → Frs Hb H hs Hb' hs' h → Q v H') →
    (∀ cls Γx H' Hb' hs', Px cls Γx → Step Hb H hs Hb' H' hs' → At Γx Hb' H' σ hs' → W cls none σ H') → WE X e σ H Q
section
variable {δ : Type} {X : Cx} {Γ : List Sl} {e a b : Expr} {es : List Expr} {R R' : RR} {rs : List RR} {pos pos' p p2 apos : Pos} {Po Po' : δ → Prop} {Γ' : δ → List Sl} {s s' : δ → Sl} {Px Px' : Value → List Sl → Prop}
end
def RtY {δ : Type} (Po : δ → Prop) (outs : δ → List Sl) (res : δ → Sl) (Px : Value → List Sl → Prop) (vs : List V) : Rtn :=
  ⟨fun v H' Hb' hs' => ∃ y, Po y ∧ At (outs y ++ [res y]) Hb' H' (vs.map some ++ [some v]) hs', fun cls d H' Hb' hs' => d = none ∧ ∃ Γx, Px cls Γx ∧ At Γx Hb' H' (vs.map some) hs'⟩
/-- a method of a class of the text -/
structure DfnM (K : PySem.W.Frag) (Cl m : Str) (qual : Str) (st : Stmt) (ps : List Str) : Prop where
  ex : ∃ f fd, Meth K (He.ga K Cl) m f ∧ Fun K m qual st f fd ∧ Binds K fd ps []
structure HasM (P : Program) (w : World) (K : PySem.W.Frag) (mg : Str → Option Value) (base : Heap) (k : Nat) (Cl m : Str) (ps : List Str) (sp : Sp) : Prop where
  ex : ∃ f fd, Meth K (He.ga K Cl) m f ∧ FnOk P w K mg base (L2.CX P w) k f fd ps sp ∧ Binds K fd ps []
/-- a class that can be made: its __init__ -/
structure DfnC (K : PySem.W.Frag) (mg : Str → Option Value) (Cl qual : Str) (st : Stmt) (ps : List Str) : Prop where
  ex : ∃ f fd, mg Cl = some (.ref (He.ga K Cl)) ∧ Mk K (He.ga K Cl) f ∧ Fun K "__init__" qual st f fd ∧ Binds K fd ps []
structure HasC (P : Program) (w : World) (K : PySem.W.Frag) (mg : Str → Option Value) (base : Heap) (k : Nat) (Cl : Str) (ps : List Str) (sp : Sp) : Prop where
  ex : ∃ f fd, mg Cl = some (.ref (He.ga K Cl)) ∧ Mk K (He.ga K Cl) f ∧ FnOk P w K mg base (L2.CX P w) k f fd ps sp ∧ Binds K fd ps []
section
variable {P : Program} {w : World} {K : PySem.W.Frag} {mg : Str → Option Value} {base : Heap} {k : Nat} {x qual Cl m : Str} {ps N : List Str} {st : Stmt} {γ δ : Type} {Pc : γ → Prop} {pre : γ → List Sl} {Po : γ → δ → Prop} {outs : γ → δ → List Sl} {res : γ → δ → Sl} {Px : γ → Value → List Sl → Prop} {sp : Sp}
theorem HasX.mono {j : Nat} (h : HasX P w K mg base j x ps sp) (l : j ≤ k) : HasX P w K mg base k x ps sp := by
  obtain ⟨f, fd, a, b, c⟩ := h.ex
  exact ⟨f, fd, a, b.mono l, c⟩
/-- how a body ends that hands back nothing -/
def EndsN (Po : δ → Prop) (outs : δ → List Sl) (res : δ → Sl) (vs : List V) (Γ' : List Sl) : Prop := ∃ y, Po y ∧ res y = .r isN ∧ Keeps Γ' (outs y) vs
end
/-- whatever value names it -/
def Ag (φ : OO) : Prop := ∀ v v' Hb h, φ.p v Hb h → φ.p v' Hb h
inductive AlK (Γ : List Sl) : List RR → List AK → Prop
  | nil : AlK Γ [] []
  | r {R : RR} {rs : List RR} {ks : List AK} : AlK Γ rs ks → AlK Γ (R :: rs) (.r R :: ks)
  | o (j : Nat) {u : V} {φ : OO} {rs : List RR} {ks : List AK} : Γ[j]? = some (.o u φ) → AlK Γ rs ks → AlK Γ (isV u :: rs) (.o j :: ks)
theorem AlK.at_ {Γ : List Sl} {Hb H : Hp} {σ : L2.St} {hs : Nat → Hp} (A : At Γ Hb H σ hs) {rs : List RR} {ks : List AK} (al : AlK Γ rs ks) : ∀ {vs : List V}, All2 rs vs Hb → AksAt σ Hb ks vs := by
  induction al with
  | nil => intro vs h; cases vs with | nil => trivial | cons _ _ => exact h.elim
  | r _ ih => intro vs h; cases vs with | nil => exact h.elim | cons v vs => exact ⟨h.1, ih h.2⟩
  | o j hj _ ih =>
    intro vs h
    cases vs with
    | nil => exact h.elim
    | cons v vs =>
      obtain ⟨e, _⟩ := A.sl j _ hj
      have : v = _ := h.1
      subst this
      exact ⟨e, ih h.2⟩
section
variable {Γ Γ2 : List Sl} {Hb H Hb' H' : Hp} {σ : L2.St} {hs hs' : Nat → Hp} {i : Nat} {w u : V} {φ ψ : OO}
/-- its slot gets its old name back -/
def bk (i : Nat) (w : V) (Γ : List Sl) : List Sl := Γ.set i (match Γ[i]? with | some (.o _ ψ) => .o w ψ | _ => .u)
def AgS (Γ : List Sl) (i : Nat) : Prop := ∀ u ψ, Γ[i]? = some (.o u ψ) → Ag ψ
end
/-- how a call hands over: its arguments' relations, the region at slot i under the name u -/
structure Hand (Γ : List Sl) (i : Nat) (w u : V) (φ : OO) (rs : List RR) (ks : List AK) (pre : List Sl) : Prop where
  at_ : Γ[i]? = some (.o w φ)
  ag : Ag φ
  al : AlK (Γ.set i (.o u φ)) rs ks
  pre : pre = preOf (Γ.set i (.o u φ)) ks
  nd : nodupB (ownsOf ks) = true
section
variable {γ δ : Type} {P : γ → Prop} {pre : γ → List Sl} {Po : γ → δ → Prop} {outs : γ → δ → List Sl} {res : γ → δ → Sl} {Px : γ → Value → List Sl → Prop} {X : Cx} {Γ : List Sl} {e a b : Expr} {es : List Expr} {R R' : RR} {rs : List RR} {pos pos' p p2 apos : Pos} {ks : List AK}
variable {Hb H Hb1 H1 : Hp} {σ : L2.St} {hs hs1 : Nat → Hp} {i : Nat} {w u : V} {φ : OO}
/-- the state behind a call -/
abbrev behind (Γ : List Sl) (i : Nat) (w u : V) (φ : OO) (ks : List AK) (outs : List Sl) : List Sl := bk i w (upOuts (Γ.set i (.o u φ)) ks outs)
structure OutsOk {γ δ : Type} (Γ : List Sl) (i : Nat) (u : V) (φ : OO) (ks : List AK) (Po : γ → δ → Prop) (outs : γ → δ → List Sl) (Px : γ → Value → List Sl → Prop) (g : γ) : Prop where
  len : ∀ y, Po g y → (outs g y).length = ks.length
  ag : ∀ y, Po g y → AgS (upOuts (Γ.set i (.o u φ)) ks (outs g y)) i
  lenX : ∀ cls Γx, Px g cls Γx → Γx.length = ks.length
  agX : ∀ cls Γx, Px g cls Γx → AgS (upOuts (Γ.set i (.o u φ)) ks Γx) i
variable {k : Nat} {ps : List Str} {x Cl m : Str}
end
end G
namespace G
open PySem PySem.Spec PyProof.Rows L2
section
variable {X : Cx} {CX : CXT} {k : Nat} {f C : Addr} {fd : FuncData} {ps : List Str} {sp : Sp} {E : L2.St → XK} {x m : Str} {p pos apos : Pos} {e o : Expr} {es : List Expr} {ta : TE} {t : TA}
end
section
variable {γ δ δ1 : Type} {P : γ → Prop} {pre : γ → List Sl} {Po : γ → δ → Prop} {outs : γ → δ → List Sl} {res : γ → δ → Sl} {Px : γ → Value → List Sl → Prop} {X : Cx} {Γ : List Sl} {e a b o : Expr} {es : List Expr} {R R' : RR} {rs : List RR} {pos pos' p p2 apos : Pos} {ks : List AK}
variable {Hb H Hb1 H1 : Hp} {σ : L2.St} {hs hs1 : Nat → Hp} {i : Nat} {w u : V} {φ : OO} {k : Nat} {ps : List Str} {x Cl m : Str}
/-- what is handed over without another name -/
structure HandP (Γ : List Sl) (rs : List RR) (ks : List AK) (pre : List Sl) : Prop where
  al : AlK Γ rs ks
  pre : pre = preOf Γ ks
  nd : nodupB (ownsOf ks) = true
structure OutsP {γ δ : Type} (ks : List AK) (Po : γ → δ → Prop) (outs : γ → δ → List Sl) (Px : γ → Value → List Sl → Prop) (g : γ) : Prop where
  len : ∀ y, Po g y → (outs g y).length = ks.length
  lenX : ∀ cls Γx, Px g cls Γx → Γx.length = ks.length
abbrev exBackP (Γ : List Sl) (ks : List AK) (Px : Value → List Sl → Prop) : Value → List Sl → Prop := fun cls Γx => ∃ Γc, Px cls Γc ∧ Γx = upOuts Γ ks Γc
end
def ofS (w : V) : Sl → Sl
  | .x φ => .o w φ
  | s => s
/-- how what is raised leaves -/
def XOut (Rt : Rtn) (cls : Value) (Γx : List Sl) : Prop := ∀ H' Hb' σ' hs', At Γx Hb' H' σ' hs' → ∃ hs2, Rt.x cls none H' Hb' hs2 ∧ ∀ a, Cl Hb' hs2 a → Cl Hb' hs' a
section
variable {δ δf : Type} {X : Cx} {Γ : List Sl} {e a b : Expr} {es : List Expr} {R R' : RR} {rs : List RR} {pos pos' p p2 apos tp : Pos} {Po : δ → Prop} {Γ' : δ → List Sl} {s : δ → Sl} {Px : Value → List Sl → Prop} {N N1 : List Sl → Prop} {Rt : Rtn} {rest s1 s2 : List Stmt}
variable {PoF : δf → Prop} {outs : δf → List Sl} {res : δf → Sl} {PxF : Value → List Sl → Prop} {vs : List V}
theorem At.setS {Hb H : Hp} {σ : L2.St} {hs : Nat → Hp} {sl : Sl} {v : V} {h : Hp} (A : At Γ Hb H σ hs) (i : Nat) (q : SlAt sl (some (some v)) Hb h) (z : Same h H) (f : ∀ a o, h a = some o → Hb a = none ∧ ∀ i, hs i a = none) (hs0 : ∀ w φ, sl ≠ .o w φ) : ∃ hs', At (Γ.set i (ofS v sl)) Hb H (σ.set i (some v)) hs' ∧ ∀ a, Cl Hb hs' a → Cl Hb hs a ∨ ∃ o, h a = some o := by
  cases sl with
  | u => 
    refine ⟨hs, ?_, fun a c => .inl c⟩
    have A2 := (A.drop i)
    refine ⟨by rw [List.length_set, List.length_set, A.len], A.same, A.sub, A.off, A.dis, fun j t e => ?_⟩
    by_cases w : i = j
    · subst w
      have hl : i < Γ.length := by have := lt_of_get e; rwa [List.length_set] at this
      rw [List.getElem?_set_self hl] at e
      cases e; trivial
    · rw [List.getElem?_set_ne w] at e ⊢; exact A.sl j t e
  | r R => obtain ⟨v', e1, r⟩ := q; cases e1; exact ⟨hs, A.set r, fun a c => .inl c⟩
  | o w φ => exact absurd rfl (hs0 w φ)
  | x φ =>
    obtain ⟨v', e1, r⟩ := q
    cases e1
    refine ⟨putN hs i h, A.setO r z f, fun a c => ?_⟩
    rcases c with c | ⟨j, o, c⟩
    · exact .inl (.inl c)
    · by_cases w : j = i
      · subst w; rw [putN_same] at c; exact .inr ⟨o, c⟩
      · rw [putN_ne w] at c; exact .inl (.inr ⟨j, o, c⟩)
end
end G
namespace G
open PySem PySem.Spec PyProof.Rows L2
section
variable {X : Cx} {Γ Γ' : List Sl} {e a b o : Expr} {es : List Expr} {R R' : RR} {rs : List RR} {pos pos' p p2 apos spos tpos : Pos} {rest body : List Stmt} {N : List Sl → Prop} {Rt : Rtn} {Hb H : Hp} {σ : L2.St} {hs : Nat → Hp} {l l' l0 l1 l2 : List (Addr × HO)} {C C' C0 : CC} {w : V}
/-- go on behind a change -/
theorem ws_go {D : Ends} {W : WX} {H1 Hb1 : Hp} {hs1 : Nat → Hp} {σ1 : L2.St} (hr : GS X Γ' rest N Rt) (A1 : At Γ' Hb1 H1 σ1 hs1) (t : Step Hb H hs Hb1 H1 hs1) (q : ∀ Γ' σ' H' Hb' hs', N Γ' → Step Hb H hs Hb' H' hs' → At Γ' Hb' H' σ' hs' → D.nx σ' H') (r : ∀ v H' Hb' hs', Step Hb H hs Hb' H' hs' → Rt.r v H' Hb' hs' → D.rt v H') (tk : Takes X W) (xc : ∀ cls d σ' H' Hb' hs', Step Hb H hs Hb' H' hs' → Rt.x cls d H' Hb' hs' → W cls d σ' H') : WSs X rest D σ1 H1 :=
  hr.run σ1 H1 Hb1 hs1 D A1 (fun Γ2 σ2 H2 Hb2 hs2 n2 s2 A2 => q Γ2 σ2 H2 Hb2 hs2 n2 (A1.trans t s2) A2) (fun v H2 Hb2 hs2 s2 r2 => r v H2 Hb2 hs2 (A1.trans t s2) r2) W tk (fun c9 d9 σ9 H2 Hb2 hs2 s2 x9 => xc c9 d9 σ9 H2 Hb2 hs2 (A1.trans t s2) x9)
end
end G
namespace G
open PySem PySem.Spec PyProof.Rows L2
abbrev cells {β : Type} (l : β → List (Addr × HO)) (ys : List β) : List (Addr × HO) := ys.flatMap l
section
variable {X : Cx} {Γ : List Sl} {elt it : Expr} {β : Type} {f : β → V} {l : β → List (Addr × HO)} {C : β → CC} {rs : List RR} {j : Nat} {I : Nat → List β → Prop} {σ : L2.St} {Hb1 H1 : Hp} {hs1 : Nat → Hp} {D : Addr} {scope : Scope} {x : Str} {xp pos : Pos}
structure LcTR (X : Cx) (Γ : List Sl) (scope : Scope) (elt : Expr) (j : Nat) (I : Nat → List β → Prop) (f : β → V) (l : β → List (Addr × HO)) (C : β → CC) (i : Nat) (R : RR) : Prop where
  run : ∀ ys, I i ys → ∀ s H Cc cl fp, GO (Blk X scope s H Cc cl fp) (Γ.set j (.r R)) elt (exO (fun y => I (i + 1) (ys ++ [y])) fun y => regV (f y) (l y) (C y))
end
section
variable {X : Cx} {Γ Γ' : List Sl} {e a b o : Expr} {es : List Expr} {R R' : RR} {rs : List RR} {pos pos' p p2 apos spos tpos : Pos} {rest body : List Stmt} {N : List Sl → Prop} {Rt : Rtn} {Hb H : Hp} {σ : L2.St} {hs : Nat → Hp} {l l' l0 l1 l2 : List (Addr × HO)} {C C' C0 : CC} {w : V}
theorem nd_one {q : Addr} {o : HO} : Nd [(q, o)] := List.nodup_cons.mpr ⟨List.not_mem_nil, List.nodup_nil⟩
theorem ofL_one {q : Addr} {o : HO} : ofL [(q, o)] = sing q o := funext fun b => by rw [ofL_cons]; rfl
theorem reg_one {v : V} {q : Addr} {o : HO} {Hb : Hp} (nt : NT o) (hc : C.p Hb) : (regL [(q, o)] C).p v Hb (sing q o) := ⟨ofL_one.symm, nd_one, (fun z m => by cases List.mem_singleton.mp m; exact nt), hc⟩
end
section
variable {X : Cx} {Γ : List Sl} {e : Expr} {pos pos' : Pos} {rest body : List Stmt} {N : List Sl → Prop} {Rt : Rtn}
end
section
variable {δ : Type} {X : Cx} {Γ : List Sl} {e : Expr} {Po : δ → Prop} {s : δ → Sl}
end
end G
namespace G
open PySem PySem.Spec PyProof.Rows L2
section
variable {X : Cx} {Γ Γ' : List Sl} {e a b o : Expr} {es : List Expr} {R R' : RR} {rs : List RR} {pos pos' p p2 apos spos tpos : Pos} {rest body : List Stmt} {N : List Sl → Prop} {Rt : Rtn} {Hb H Hb1 H1 Hb2 H2 : Hp} {σ : L2.St} {hs hs1 hs2 : Nat → Hp} {l l' l0 l1 l2 : List (Addr × HO)} {C C' C0 : CC} {w : V}
variable {α : Type} {P : α → Prop} {v : α → V} {ln : α → List (Addr × HO)} {Cn : α → CC}
end
section
variable {γ δ : Type} {P : γ → Prop} {X : Cx} {Γ : List Sl} {e a b o : Expr} {es : List Expr} {rs : List RR} {pos pos' p p2 apos : Pos} {k : Nat} {ps : List Str} {Cl : Str}
variable {Hb H Hb1 H1 : Hp} {σ : L2.St} {hs hs1 : Nat → Hp} {Po : γ × Addr × Addr → δ → Prop} {L : γ × Addr × Addr → δ → List (Addr × HO)} {CN : γ × Addr × Addr → δ → CC} {rsG : γ → List RR}
end
end G
namespace G
open PySem PySem.Spec PyProof.Rows L2
/-- a frozen cell of the base -/
structure Kf (Γ : List Sl) (a : Addr) (o : HO) : Prop where
  run : ∀ {Hb H : Hp} {σ : L2.St} {hs : Nat → Hp}, At Γ Hb H σ hs → ∃ ob, Hb a = some (.frz ob o)
section
variable {X : Cx} {Γ : List Sl} {e a b o : Expr} {pos pos' apos cpos : Pos} {rest body : List Stmt} {N : List Sl → Prop} {Rt : Rtn} {l : List (Addr × HO)} {C : CC} {w : V}
end
/-- a body in a try: what it raises is told with the state there -/
structure GB (X : Cx) (Γ : List Sl) (sts : List Stmt) (N : List Sl → Prop) (Rr : V → Hp → Hp → (Nat → Hp) → Prop) (Px : Value → List Sl → Prop) : Prop where
  run : ∀ (σ : L2.St) (H Hb : Hp) (hs : Nat → Hp) (D : Ends), At Γ Hb H σ hs → (∀ Γ' σ' H' Hb' hs', N Γ' → Step Hb H hs Hb' H' hs' → At Γ' Hb' H' σ' hs' → D.nx σ' H') →
    (∀ v H' Hb' hs', Step Hb H hs Hb' H' hs' → Rr v H' Hb' hs' → D.rt v H') → ∀ W, Takes X W → (∀ cls Γx σ' H' Hb' hs', Px cls Γx → Step Hb H hs Hb' H' hs' → At Γx Hb' H' σ' hs' → W cls none σ' H') → WSs X sts D σ H
section
variable {δ : Type} {X : Cx} {Γ : List Sl} {e : Expr} {pos pos' : Pos} {rest s1 s2 : List Stmt} {N N1 : List Sl → Prop} {Rr : V → Hp → Hp → (Nat → Hp) → Prop} {Px : Value → List Sl → Prop} {Po : δ → Prop} {Γ' : δ → List Sl} {s : δ → Sl} {Rt : Rtn}
/-- the clauses of a try, told: the class, what its suite leads to -/
inductive Hds (X : Cx) (Px : Value → List Sl → Prop) (N : List Sl → Prop) (Rt : Rtn) : List ExceptHandler → (Value → List Sl → Prop) → Prop
  | nil {Pl : Value → List Sl → Prop} (h : ∀ cls Γx, Px cls Γx → Pl cls Γx → XOut Rt cls Γx) : Hds X Px N Rt [] Pl
  | cons {x : Str} {Cc : Addr} {b₀ : Stmt} {suite : List Stmt} {np pos' : Pos} {hds : List ExceptHandler} {Pl : Value → List Sl → Prop} (hc : Names X x (.ref Cc)) (f : Value → Bool) (hf : ∀ cls Γx, Px cls Γx → Pl cls Γx → PySem.W.exmOne X.K cls (.ref Cc) = some (f cls))
      (hsu : ∀ cls Γx, Px cls Γx → Pl cls Γx → f cls = true → ∀ a pn, GS (X.suite a pn) Γx (b₀ :: suite) N ⟨Rt.r, fun _ _ _ _ _ => False⟩) (r : Hds X Px N Rt hds (fun cls Γx => Pl cls Γx ∧ f cls = false)) :
      Hds X Px N Rt (.ExceptHandler (some (.Name x np)) none (b₀ :: suite) pos' :: hds) Pl
end
end G
namespace G
open PySem PySem.Spec PyProof.Rows L2
section
variable {K : PySem.W.Frag} {h : Heap} {mg : Str → Option Value} {w : World}
theorem hd_fun {x qual : Str} {st : Stmt} {f : Addr} (c : ∃ fd, FunD K x qual (defArgs st) (defBody st) (defScope st) [] [] f fd) : ∃ fd, Fun K x qual st f fd := by
  obtain ⟨fd, ⟨oc, od, dV, kV, doc, pm, an, cdv, ct, osl, e, lk, hcd, hD, hK⟩, kp⟩ := c
  rcases hD with ⟨_, e2⟩ | ⟨e2, _⟩
  · subst e2
    exact ⟨fd, ⟨oc, od, kV, doc, pm, an, cdv, ct, osl, e, lk, hcd⟩, kp⟩
  · exact absurd rfl e2
abbrev BindT (x qual : Str) (st : Stmt) (ps : List Str) : Prop := ∀ (kV doc pm : Value) (an : Option Addr) (cdv ct : Value) (us : List Value), us.length = ps.length → bindArgs (PySem.W.fnOf x qual (defArgs st) (defBody st) (defScope st) .none kV doc pm an cdv ct) ⟨us, []⟩ = pure (ps.zip us)
theorem hd_dfn {x : Str} {st : Stmt} {ps : List Str} (X : K.In h) (G : h.Ns mainGlobals mg) (c : ∃ fd, FunD K x x (defArgs st) (defBody st) (defScope st) [] [] (He.ga K x) fd) (g : (He.Fa.glo x).ok K = true) (b : BindT x x st ps) : Dfn K mg x st ps := by
  obtain ⟨fd, F⟩ := hd_fun c
  exact ⟨_, fd, He.glo_ok X G g, F, F.binds b⟩
theorem hd_dfnM {Cl m qual : Str} {st : Stmt} {ps : List Str} (c : ∃ fd, FunD K m qual (defArgs st) (defBody st) (defScope st) [] [] (He.ma K (He.ga K Cl) m) fd) (g : (He.Fa.meth Cl m).ok K = true) (b : BindT m qual st ps) : DfnM K Cl m qual st ps := by
  obtain ⟨fd, F⟩ := hd_fun c
  exact ⟨_, fd, He.meth_ok g, F, F.binds b⟩
theorem hd_int {x : Str} {n : Int} (X : K.In h) (G : h.Ns mainGlobals mg) (g : (He.Fa.int x n).ok K = true) : CVal mg x (.int n) := by
  obtain ⟨t, e⟩ := He.int_ok X G g
  exact ⟨_, e, ⟨t, rfl⟩⟩
theorem hd_str {x z : Str} (X : K.In h) (G : h.Ns mainGlobals mg) (g : (He.Fa.str x z).ok K = true) : CVal mg x (.str z) := by
  obtain ⟨t, e⟩ := He.str_ok X G g
  exact ⟨_, e, ⟨t, rfl⟩⟩
theorem hd_exc {x : Str} (X : K.In h) (G : h.Ns mainGlobals mg) (g : (He.Fa.glo x).ok K = true) (c : (He.Fa.exc x).ok K = true) : Exc K mg x (He.ga K x) := by
  obtain ⟨a, b, c, d⟩ := He.exc_ok c
  exact ⟨He.glo_ok X G g, a, b, c, d⟩
/-- a table of the module with text keys -/
structure CTab (K : PySem.W.Frag) (w : World) (mg : Str → Option Value) (x : Str) (kvs : List (Str × V)) : Prop where
  g : mg x = some (.ref (He.ga K x))
  at_ : ∀ q ∈ kvs, KDct K w (He.ga K x) q.1 q.2
theorem hd_tab {x : Str} {kvs : List (Str × He.Dv)} (X : K.In h) (G : h.Ns mainGlobals mg) (g : (He.Fa.glo x).ok K = true) (t : ∃ es n, KDict K w (He.ga K x) es n) (v : He.valsB K (He.ga K x) kvs = true) : CTab K w mg x (kvs.map fun q => (q.1, q.2.v K)) :=
  ⟨He.glo_ok X G g, fun q m => by
    obtain ⟨z, mz, rfl⟩ := List.mem_map.mp m
    obtain ⟨es, n, D⟩ := t
    obtain ⟨u, e, r⟩ := He.valsB_ok v mz
    exact ⟨es, n, u, D.at_, D.lit, e, r⟩⟩
end
section
variable {X : Cx} {Γ : List Sl} {a b : Expr} {pos p : Pos}
theorem ge_tab {x z : Str} {v : V} {kvs : List (Str × V)} (T : CTab X.K X.w X.mg x kvs) (hb : GE X Γ b (isS z)) (hm : (z, v) ∈ kvs) (hg : Gl X x := by rfl) (hd : (x == ("__debug__" : Str)) = false := by decide) (hs : PlainIx b := by exact fun _ _ => rfl) : GE X Γ (.Subscript (.Name x p) b pos) (isV v) := .mk fun σ H Hb hs' Q A q => by
  refine we_of (pe_ix ix_kdict pe_sem pe_sem hs) ((ge_glob (R := isV (.ref (He.ga X.K x))) hg T.g (v := .ref (He.ga X.K x)) rfl (fun _ => rfl) hd).run σ H Hb hs' _ A fun v1 H1 Hb1 hs1 s1 A1 r1 => hb.run σ H1 Hb1 hs1 _ A1 fun u H2 Hb2 hs2 s2 A2 r2 => ?_)
  exact ⟨_, z, v, r1, r2, T.at_ (z, v) hm, q v H2 Hb2 hs2 (A1.trans s1 s2) A2 rfl⟩
end
end G
namespace G
open PySem PySem.Spec PyProof.Rows L2
section
variable {X : Cx} {Γ : List Sl} {e a b o : Expr} {pos pos' p : Pos} {rest : List Stmt} {N : List Sl → Prop} {Rt : Rtn} {l l0 : List (Addr × HO)} {C C0 : CC} {w : V} {Px : Value → List Sl → Prop}
theorem gt_eqS {i j : Str} (ha : GE X Γ a (isS i)) (hb : GE X Γ b (isS j)) : GT X Γ (.Compare a [.Eq] [b] pos) (· = decide (i = j)) := gt_cmp op_eq ha hb rv_eqS (nomark _)
end
structure GTX {δ : Type} (X : Cx) (Γ : List Sl) (e : Expr) (Po : δ → Prop) (Γ' : δ → List Sl) (c : δ → Bool) (Px : Value → List Sl → Prop) : Prop where
  run : ∀ (σ : L2.St) (H Hb : Hp) (hs : Nat → Hp) (Q : Bool → Hp → Prop) (W : WX), At Γ Hb H σ hs → Takes X W → (∀ y H' Hb' hs', Po y → Step Hb H hs Hb' H' hs' → At (Γ' y) Hb' H' σ hs' → Q (c y) H') →
    (∀ cls Γx H' Hb' hs', Px cls Γx → Step Hb H hs Hb' H' hs' → At Γx Hb' H' σ hs' → W cls none σ H') → WT X e σ H Q
section
variable {δ : Type} {X : Cx} {Γ : List Sl} {e : Expr} {pos pos' : Pos} {rest s1 s2 : List Stmt} {N N1 : List Sl → Prop} {Rt : Rtn} {Rr : V → Hp → Hp → (Nat → Hp) → Prop} {Px : Value → List Sl → Prop} {Po : δ → Prop} {Γ' : δ → List Sl} {s : δ → Sl} {c : δ → Bool}
end
end G
namespace G
open PySem PySem.Spec PyProof.Rows L2
section
variable {P : Program} {w : World} {A : Around} {E : Value → Shared → Prop} {s : Shared}
end
abbrev pLt (a b : Int × Int) : Bool := SrtO.lexB a b
theorem pLt_asym {a b : Int × Int} (h : pLt a b = true) : pLt b a = false := SrtO.lexB_no.mpr (by have := SrtO.lexB_iff.mp h; omega)
theorem pLt_refl (a : Int × Int) : pLt a a = false := SrtO.lexB_no.mpr (by omega)
def SortedP (ks out : List (Int × Int)) : Prop := out.Pairwise (fun a b => pLt a b = true) ∧ ∀ k, k ∈ out ↔ k ∈ ks
/-- each once -/
def ddup : List (Int × Int) → List (Int × Int)
  | [] => []
  | a :: l => if a ∈ ddup l then ddup l else a :: ddup l
theorem mem_ddup {k : Int × Int} : ∀ l : List (Int × Int), k ∈ ddup l ↔ k ∈ l
  | [] => Iff.rfl
  | a :: l => by
    unfold ddup
    split
    · rename_i h
      rw [mem_ddup l, List.mem_cons]
      refine ⟨.inr, fun q => ?_⟩
      rcases q with q | q
      · rw [q]; exact (mem_ddup l).mp h
      · exact q
    · rw [List.mem_cons, List.mem_cons, mem_ddup l]
theorem nd_ddup : ∀ l : List (Int × Int), (ddup l).Nodup
  | [] => List.nodup_nil
  | a :: l => by
    unfold ddup
    split
    · exact nd_ddup l
    · rename_i h
      exact List.nodup_cons.mpr ⟨h, nd_ddup l⟩
theorem ddup_len {l m : List (Int × Int)} (hl : l.Nodup) (h : ∀ k, k ∈ l ↔ k ∈ m) : l.length = (ddup m).length :=
  ((List.perm_ext_iff_of_nodup hl (nd_ddup m)).mpr fun k => (h k).trans (mem_ddup m).symm).length_eq
/-- how many unlike ones stand ahead -/
def rnk (ks : List (Int × Int)) (k : Int × Int) : Nat := (ddup (ks.filter fun o => pLt o k)).length
theorem SortedP.nodup {ks out : List (Int × Int)} (h : SortedP ks out) : out.Nodup := h.1.imp fun {a b} q e => by
  rw [e, pLt_refl] at q
  cases q
theorem SortedP.at {ks out : List (Int × Int)} {k : Int × Int} (h : SortedP ks out) (hk : k ∈ ks) : out[rnk ks k]? = some k ∧ ∀ m, m < rnk ks k → out[m]? ≠ some k := by
  obtain ⟨l1, l2, e⟩ := List.append_of_mem ((h.2 k).mpr hk)
  have nd := h.nodup
  have pw := h.1
  rw [e] at pw nd
  obtain ⟨_, p2, p3⟩ := List.pairwise_append.mp pw
  have p4 := (List.pairwise_cons.mp p2).1
  have e1 : l1.length = rnk ks k := by
    refine ddup_len (List.nodup_append.mp nd).1 fun o => ?_
    rw [List.mem_filter, ← h.2 o, e]
    constructor
    · exact fun q => ⟨List.mem_append_left _ q, p3 o q k (.head _)⟩
    · rintro ⟨q, z⟩
      rcases List.mem_append.mp q with q | q
      · exact q
      · rcases List.mem_cons.mp q with q | q
        · rw [q, pLt_refl] at z; cases z
        · rw [pLt_asym (p4 o q)] at z; cases z
  rw [← e1, e]
  refine ⟨by rw [List.getElem?_append_right (Nat.le_refl _), Nat.sub_self]; rfl, fun m hm c => ?_⟩
  rw [List.getElem?_append_left hm] at c
  have q := p3 k (List.mem_of_getElem? c) k (.head _)
  rw [pLt_refl] at q
  cases q
section
variable {X : Cx} {Γ : List Sl} {a b e : Expr} {pos pos2 p p2 apos : Pos} {ks : List (Int × Int)} {k0 : Nat}
variable {α : Type} [DecidableEq α] {c : α → RR} {n : Nat} {dom : α → Prop} {x : α} {ys : List α}
/-- isinstance(a, (T1, T2)) -/
theorem ge_isiT {R : RR} {t t1 t2 : String} {T1 T2 : Str} {r b1 b2 : Bool} {q1 q2 q3 : Pos} {kk : Nat} (hm : X.mg "isinstance" = none) (hT1 : X.mg T1 = none) (hT2 : X.mg T2 = none) (ha : GE X Γ a R) (ty : TyR X.K R t) (hk1 : kitB t t1 = some b1) (hk2 : kitB t t2 = some b2) (hr : r = (b1 || b2)) (hv1 : bootBuiltins T1 = some (.type t1)) (hv2 : bootBuiltins T2 = some (.type t2)) (hg : Gl X "isinstance" := by rfl) (hg1 : Gl X T1 := by rfl) (hg2 : Gl X T2 := by rfl)
    (hb : bootBuiltins ("isinstance" : Str) = some (.builtin "isinstance") := by decide +kernel) (n1 : T1 ≠ "__name__" := by decide) (n2 : T2 ≠ "__name__" := by decide) (d1 : (T1 == ("__debug__" : Str)) = false := by decide) (d2 : (T2 == ("__debug__" : Str)) = false := by decide)
    (h1 : starEach [a, .Tuple [.Name T1 q1, .Name T2 q2] kk q3] X.env = (false, eval a X.env) :: starEach [.Tuple [.Name T1 q1, .Name T2 q2] kk q3] X.env := by rfl) (h2 : starEach [.Tuple [.Name T1 q1, .Name T2 q2] kk q3] X.env = (false, eval (.Tuple [.Name T1 q1, .Name T2 q2] kk q3) X.env) :: starEach [] X.env := by rfl)
    (h3 : starEach [.Name T1 q1, .Name T2 q2] X.env = (false, eval (.Name T1 q1) X.env) :: starEach [.Name T2 q2] X.env := by rfl) (h4 : starEach [.Name T2 q2] X.env = (false, eval (.Name T2 q2) X.env) :: starEach [] X.env := by rfl)
    (hpl : (backTo pos (starEach [.Tuple [.Name T1 q1, .Name T2 q2] kk q3] X.env)).any (·.1) = false := by rfl) : GE X Γ (.Call (.Name "isinstance" p) [a, .Tuple [.Name T1 q1, .Name T2 q2] kk q3] [] pos) (isB r) := .mk fun σ H Hb hs Q A q => by
  refine we_of (pe_callB call_isiT hg hm hb (pa_cons pe_sem (pa_cons (pe_tup pa_sem) pa_nil h2) h1) (by decide) (by decide) h1 hpl) (ha.run σ H Hb hs _ A fun v H1 Hb1 hs1 s1 A1 r1 => ?_)
  refine (show GA X Γ [.Name T1 q1, .Name T2 q2] [.r (isV (.ty t1)), .r (isV (.ty t2))] from ga_cons (ge_const (v := .ty t1) (pe_bltn hg1 hT1 hv1 rfl n1 d1) fun _ => rfl) (ga_cons (ge_const (v := .ty t2) (pe_bltn hg2 hT2 hv2 rfl n2 d2) fun _ => rfl) ga_nil h4) h3).run σ H1 Hb1 hs1 _ A1 fun us H2 Hb2 hs2 s2 A2 r2 => ?_
  obtain ⟨u1, u2, rfl, e1, e2⟩ := all2_2 (aks_all (rs := [isV (.ty t1), isV (.ty t2)]) r2)
  have e1' : u1 = .ty t1 := e1
  have e2' : u2 = .ty t2 := e2
  subst e1' e2'
  refine ⟨by show 2 ≤ sizeLine; rw [sizeLine_eq]; omega, fun tp ntp => ?_⟩
  obtain ⟨A3, s3⟩ := A2.layN (o := .tup [.ty t1, .ty t2]) ntp
  refine ⟨v, tp, [.ty t1, .ty t2], .type t, [.type t1, .type t2], r, rfl, upd_same, .cons (.ty t1) (.cons (.ty t2) .nil), ty v _ (R.mono A3.same (R.mono s2.b r1)), ?_, q _ _ _ _ (A2.trans (A1.trans s1 s2) s3) A3 rfl⟩
  subst hr
  refine kitAny_cons (kit_ty hk1) (fun z => ?_) fun z => by rw [z]; rfl
  rw [z, Bool.false_or]
  refine kitAny_cons (kit_ty hk2) (fun z2 => ?_) fun z2 => z2
  rw [z2]
  rfl
end
end G
namespace G
open PySem PySem.Spec PyProof.Rows L2
section
variable {X : Cx} {Γ Γ' : List Sl} {elt it : Expr} {ifs : List Expr} {β : Type} {c : β → RR} [ic : ∀ x, Im (c x)] {I : Nat → List β → Prop} {scope : Scope} {pos spos py : Pos}
end
end G
namespace G
open PySem PySem.Spec PyProof.Rows L2
def isFz (v : V) (l : List (Addr × HO)) (C : CC) : RR := ⟨fun u H => u = v ∧ (∀ q ∈ l, ∃ ob, H q.1 = some (.frz ob q.2)) ∧ C.p H, fun e ⟨h0, h1, h2⟩ => ⟨h0, fun q m => let ⟨ob, z⟩ := h1 q m; ⟨ob, e _ _ z⟩, C.im (tx_of e) h2⟩⟩
instance {v : V} {l : List (Addr × HO)} {C : CC} : Im (isFz v l C) := ⟨fun e ⟨h0, h1, h2⟩ => ⟨h0, fun q m => let ⟨ob, z⟩ := h1 q m; ⟨ob, e.f _ _ _ z⟩, C.im e h2⟩⟩
section
variable {X : Cx} {Γ Γ2 : List Sl} {e a b o : Expr} {pos pos' p : Pos} {rest : List Stmt} {N : List Sl → Prop} {Rt : Rtn} {l l0 : List (Addr × HO)} {C C0 : CC} {w : V} {Hb H H' : Hp} {σ : L2.St} {hs : Nat → Hp} {R : RR}
end
/-- a frozen list -/
def isFL (rs : List RR) : RR := ⟨fun v H => ∃ a ob vs, v = .ref a ∧ H a = some (.frz ob (.lst vs)) ∧ All2 rs vs H, fun e ⟨a, ob, vs, h1, h2, h3⟩ => ⟨a, ob, vs, h1, e _ _ h2, h3.mono e⟩⟩
instance {rs : List RR} [i : Ims rs] : Im (isFL rs) := ⟨fun e ⟨a, ob, vs, h1, h2, h3⟩ => ⟨a, ob, vs, h1, e.f _ _ _ h2, i.all e h3⟩⟩
section
variable {Γ : List Sl} {l : List (Addr × HO)} {C : CC} {v : V}
/-- off a fact of the base -/
theorem Kc.kn {u : V} {a : Addr} {o : HO} (k : Kc Γ fun H => (isRegV v l C).p u H) (m : (a, o) ∈ l) : Kn Γ a o := ⟨fun A => rd_same A.same ((k.run A).2.1 _ m)⟩
theorem Kc.kc {u : V} {P : Hp → Prop} (k : Kc Γ fun H => (isRegV v l C).p u H) (c : ∀ H, C.p H → P H) : Kc Γ P := ⟨fun A => c _ (k.run A).2.2⟩
end
end G
namespace G
open PySem PySem.Spec PyProof.Rows L2
section
variable {X : Cx} {Γ Γ2 : List Sl} {e a b o : Expr} {es : List Expr} {pos pos' p apos : Pos} {rest : List Stmt} {N : List Sl → Prop} {Rt : Rtn} {l l0 : List (Addr × HO)} {C C0 : CC} {w : V} {Hb H H' : Hp} {σ : L2.St} {hs : Nat → Hp} {R R' : RR} {rs : List RR}
end
section
variable {γ δ δ1 : Type} {P : γ → Prop} {pre : γ → List Sl} {Po : γ → δ → Prop} {outs : γ → δ → List Sl} {res : γ → δ → Sl} {Px : γ → Value → List Sl → Prop} {X : Cx} {Γ : List Sl} {e a b o : Expr} {es : List Expr} {R R' : RR} {rs : List RR} {pos pos' p p2 apos : Pos} {ks : List AK} {w : V} {φ : OO} {k : Nat} {ps : List Str} {x Cl m : Str}
end
end G
namespace G
open PySem PySem.Spec PyProof.Rows L2
section
variable {X : Cx} {Γ : List Sl} {a b : Expr} {rs : List RR} {pos : Pos} {k : Nat}
end
section
variable {X : Cx} {Γ : List Sl} {e a b o : Expr} {pos pos' apos cpos : Pos} {rest body : List Stmt} {N : List Sl → Prop} {Rt : Rtn} {w : V}
end
end G
namespace G
open PySem PySem.Spec PyProof.Rows L2
section
variable {X : Cx} {Γ : List Sl} {a b e o : Expr} {es : List Expr} {pos pos' p apos spos : Pos} {rest : List Stmt} {N : List Sl → Prop} {Rt : Rtn} {w : V} {R R' R1 R2 : RR} {δ : Type} {Po : δ → Prop} {Γ1 : δ → List Sl} {Px : Value → List Sl → Prop}
end
end G
namespace G
open PySem PySem.Spec PyProof.Rows L2
section
variable {X : Cx} {Γ : List Sl} {a e o it elt : Expr} {pos p : Pos} {R : RR} {δ : Type} {Po : δ → Prop} {Γ1 : δ → List Sl} {Px : Value → List Sl → Prop}
end
end G
namespace G
open PySem PySem.Spec PyProof.Rows L2
def tupAt (K : PySem.W.Frag) (t : Addr) (vs : List Str) : Bool := match K.lookup t with
  | some ⟨.type c, _, .seq its _, _⟩ => decide (c = "tuple") && (decide (its.size ≤ sizeLine) && He.relAll (vs.map V.str) its.toList)
  | _ => false
def tupsB (K : PySem.W.Frag) (a : Addr) (kvs : List (Str × List Str)) : Bool := kvs.all fun q => match PySem.W.nsIn K a q.1 with
  | some (some (.ref t)) => tupAt K t q.2
  | _ => false
theorem tupAt_ok {K : PySem.W.Frag} {t : Addr} {vs : List Str} (h : tupAt K t vs = true) (H : Hp) : SqT K H t (vs.map V.str) := by
  unfold tupAt at h
  cases q : K.lookup t with
  | none =>
    rw [q] at h
    cases h
  | some o =>
    obtain ⟨oc, od, dt, osl⟩ := o
    rw [q] at h
    cases oc with
    | type c =>
      cases dt with
      | seq its n =>
        have h : (decide (c = "tuple") && (decide (its.size ≤ sizeLine) && He.relAll (vs.map V.str) its.toList)) = true := h
        rw [Bool.and_eq_true, Bool.and_eq_true] at h
        exact .inr ⟨_, its, n, q, congrArg Value.type (of_decide_eq_true h.1), rfl, of_decide_eq_true h.2.1, He.relAll_ok h.2.2⟩
      | _ => cases h
    | _ => cases od <;> cases dt <;> cases h
/-- a table of the module with text keys, its values tuples of texts -/
structure CTabT (K : PySem.W.Frag) (w : World) (mg : Str → Option Value) (x : Str) (kvs : List (Str × List Str)) : Prop where
  g : mg x = some (.ref (He.ga K x))
  at_ : ∀ q ∈ kvs, ∃ t, KDct K w (He.ga K x) q.1 (.ref t) ∧ ∀ H, SqT K H t (q.2.map V.str)
  d : ∃ es n, KDict K w (He.ga K x) es n
theorem hd_tabT {h : Heap} {K : PySem.W.Frag} {mg : Str → Option Value} {w : World} {x : Str} {kvs : List (Str × List Str)} (X : K.In h) (G : h.Ns mainGlobals mg) (g : (He.Fa.glo x).ok K = true) (t : ∃ es n, KDict K w (He.ga K x) es n) (v : tupsB K (He.ga K x) kvs = true) : CTabT K w mg x kvs :=
  ⟨He.glo_ok X G g, fun q m => (by
    obtain ⟨es, n, D⟩ := t
    have h2 := List.all_eq_true.mp v q m
    cases e : PySem.W.nsIn K (He.ga K x) q.1 with
    | none =>
      rw [e] at h2
      cases h2
    | some r =>
      rw [e] at h2
      cases r with
      | none => cases h2
      | some u =>
        cases u with
        | ref t => exact ⟨t, ⟨es, n, .ref t, D.at_, D.lit, e, rfl⟩, tupAt_ok h2⟩
        | _ => cases h2), t⟩
section
variable {X : Cx} {Γ : List Sl} {a b : Expr} {pos p : Pos}
theorem ge_tabT {x z : Str} {ts : List Str} {kvs : List (Str × List Str)} (T : CTabT X.K X.w X.mg x kvs) (hb : GE X Γ b (isS z)) (hm : (z, ts) ∈ kvs) (hg : Gl X x := by rfl) (hd : (x == ("__debug__" : Str)) = false := by decide) (hs : PlainIx b := by exact fun _ _ => rfl) : GE X Γ (.Subscript (.Name x p) b pos) (isTup X.K (ts.map isS)) := .mk fun σ H Hb hs' Q A q => by
  obtain ⟨t, t1, t2⟩ := T.at_ (z, ts) hm
  refine we_of (pe_ix ix_kdict pe_sem pe_sem hs) ((ge_glob (R := isV (.ref (He.ga X.K x))) hg T.g (v := .ref (He.ga X.K x)) rfl (fun _ => rfl) hd).run σ H Hb hs' _ A fun v1 H1 Hb1 hs1 s1 A1 r1 => hb.run σ H1 Hb1 hs1 _ A1 fun u H2 Hb2 hs2 s2 A2 r2 => ?_)
  exact ⟨_, z, .ref t, r1, r2, t1, q (.ref t) H2 Hb2 hs2 (A1.trans s1 s2) A2 ⟨t, _, rfl, t2 Hb2, All2.map (fun _ => rfl) ts⟩⟩
end
end G
namespace G
open PySem PySem.Spec PyProof.Rows L2
def numS (i : Int) : Str := Str.ofString (toString i)
section
variable {X : Cx} {Γ : List Sl} {a b e : Expr} {pos p apos : Pos} {z sep : Str} {i : Int}
theorem ge_strI (hm : X.mg "str" = none) (ha : GE X Γ a (isInt i)) (hi : i.natAbs.log2 < 1920) (hg : Gl X "str" := by rfl) (h1 : starEach [a] X.env = (false, eval a X.env) :: starEach [] X.env := by rfl) (h2 : (backTo pos (starEach [] X.env)).any (·.1) = false := by rfl) : GE X Γ (.Call (.Name "str" p) [a] [] pos) (isS (numS i)) := .mk fun σ H Hb hs Q A q => by
  refine we_of (pe_callTy call_str_int hg hm (by rfl) (pa_cons pe_sem pa_nil h1) (by decide) (by decide) h1 h2) (ha.run σ H Hb hs _ A fun v H1 Hb1 hs1 s1 A1 r1 => ?_)
  exact ⟨i, by rw [r1], hi, q (.str (numS i)) H1 Hb1 hs1 s1 A1 rfl⟩
theorem ge_strS (hm : X.mg "str" = none) (ha : GE X Γ a (isS z)) (hg : Gl X "str" := by rfl) (h1 : starEach [a] X.env = (false, eval a X.env) :: starEach [] X.env := by rfl) (h2 : (backTo pos (starEach [] X.env)).any (·.1) = false := by rfl) : GE X Γ (.Call (.Name "str" p) [a] [] pos) (isS z) := .mk fun σ H Hb hs Q A q => by
  refine we_of (pe_callTy SkE.call_str_str hg hm (by rfl) (pa_cons pe_sem pa_nil h1) (by decide) (by decide) h1 h2) (ha.run σ H Hb hs _ A fun v H1 Hb1 hs1 s1 A1 r1 => ?_)
  exact ⟨z, by rw [r1], q (.str z) H1 Hb1 hs1 s1 A1 rfl⟩
theorem go_split (ha : GE X Γ a (isS z)) (hb : GE X Γ b (isS sep)) (hz : z.length + 2 ≤ sizeLine) (hs0 : (sep.length == 0) = false) (hs : starEach [b] X.env = [(false, eval b X.env)] := by rfl) (hbase : attributeBase a "split" X.env (eval a X.env) = eval a X.env := by rfl) (hline : (apos.endLine == pos.line) = true := by rfl) : GO X Γ (.Call (.Attribute a "split" apos) [b] [] pos) (ownL ((Txt.split z sep).map isS)) := .mk fun σ H Hb hs' Q A q => by
  refine we_of (pe_split pe_sem pe_sem hs hbase hline) (ha.run σ H Hb hs' _ A fun v H1 Hb1 hs1 s1 A1 r1 => ?_)
  cases r1
  refine ⟨⟨_, rfl⟩, hb.run σ H1 Hb1 hs1 _ A1 fun u H2 Hb2 hs2 s2 A2 r2 => ⟨z, sep, rfl, by rw [r2], hs0, hz, ?_⟩⟩
  exact GO.new A2 (A1.trans s1 s2) A2.off (All2.map (fun _ => rfl) (Txt.split z sep)) q
end
end G
namespace G
open PySem PySem.Spec PyProof.Rows L2
theorem lc_sgn {x : Str} {g : TG} {tt : TT} {te : TE} {vs : List Nat} {σ : L2.St} {H1 : Hp} {D : Addr} {Qd : Hp → Prop} (Pv : Nat → Hp → Prop) (h0 : Pv 0 (upd H1 D (.lst [])))
    (hs : ∀ i ch H, x.cps[i]? = some ch → Pv i H → g (.str ⟨#[ch]⟩) (wipe σ vs) H fun σ2 H2 => wipe σ2 vs = wipe σ vs ∧ tt σ2 H2 fun b H3 =>
      if b = true then te σ2 H3 fun y H4 => ∃ acc, H4 D = some (.lst acc) ∧ acc.length < sizeLine ∧ Pv (i + 1) (upd H4 D (.lst (acc ++ [y]))) else Pv (i + 1) H3) (hd : ∀ H, Pv x.cps.size H → Qd H) :
    ∃ W : Nat → Nat → Hp → Prop, (∃ m, W 0 m (upd H1 D (.lst []))) ∧ ∀ i m H, W i m H →
      ((Its x).stop i H ∧ Qd H) ∨ ((Its x).go i H ∧ ∃ Nx : Hp → Prop, (∀ H', Nx H' → ∃ m', m' < m ∧ W (i + 1) m' H') ∧ ∀ y H', (Its x).yld i H y H' → g y (wipe σ vs) H' fun σ2 H2 => wipe σ2 vs = wipe σ vs ∧ tt σ2 H2 fun b H3 =>
        if b = true then te σ2 H3 fun y H4 => ∃ acc, H4 D = some (.lst acc) ∧ acc.length < sizeLine ∧ Nx (upd H4 D (.lst (acc ++ [y]))) else Nx H3) := by
  refine ⟨fun i m H => m = x.cps.size - i ∧ i ≤ x.cps.size ∧ Pv i H, ⟨x.cps.size, by simp, Nat.zero_le _, h0⟩, ?_⟩
  rintro i m H ⟨rfl, hi, p⟩
  by_cases hlt : i < x.cps.size
  · refine .inr ⟨hlt, Pv (i + 1), fun H' p' => ⟨x.cps.size - (i + 1), by omega, rfl, hlt, p'⟩, fun y H' hy => ?_⟩
    obtain ⟨e, ch, hc, e2⟩ := hy
    subst e e2
    exact hs i ch _ hc p
  · have e : i = x.cps.size := by omega
    subst e
    exact .inl ⟨Nat.le_refl _, hd H p⟩
section
variable {X : Cx} {Γ : List Sl} {it : Expr} {z : Str}
theorem src_str (hi : GE X Γ it (isS z)) : Src X Γ it ((tx z).map fun ch => isS ⟨#[ch]⟩) := ⟨_, fun tg => pi_str pe_sem, fun β c ic elt ifs scope j I hif h0 T hI hsz hj σ H0 Hb0 hs0 Q A q => by
  refine hi.run σ H0 Hb0 hs0 _ A fun v H1 Hb1 hs1 s1 A1 e1 => ?_
  cases e1
  refine ⟨z, rfl, fun D hn => ?_⟩
  have hl : ((tx z).map fun ch => isS ⟨#[ch]⟩).length = z.cps.size := by rw [List.length_map]; exact Array.length_toList
  refine lc_sgn (x := z) (Qd := fun H => Q (.ref D) H) (fun i H => LcI Γ (wipe σ [j]) c Hb1 H1 hs1 D I i H) (lc_start hj A1 hn h0) (fun i ch H hx p => ?_) fun H p => lc_done hj s1 A1.off hn q (by rw [hl]; exact p)
  have hx2 : (tx z)[i]? = some ch := by show z.cps.toList[i]? = _; rw [Array.getElem?_toList]; exact hx
  have hlt := lt_of_get hx2
  have hr : ((tx z).map fun ch => isS ⟨#[ch]⟩)[i]? = some (isS ⟨#[ch]⟩) := by rw [List.getElem?_map, hx2]; rfl
  exact lc_turn2 hif (T i _ hr) hj hn rfl hI (by rw [hl] at hsz; have : z.cps.size = (tx z).length := Array.length_toList.symm; omega) p⟩
end
end G
namespace G
open PySem PySem.Spec PyProof.Rows L2
section
variable {X : Cx} {Γ : List Sl} {a b c e : Expr} {pos pos' p : Pos} {N : List Sl → Prop} {Rt : Rtn} {rest body : List Stmt} {rs : List RR} {R : RR}
end
end G
namespace G
open PySem PySem.Spec PyProof.Rows L2
section
variable {δ δa : Type} {X : Cx} {Γ : List Sl} {a b e : Expr} {pos : Pos} {Px : Value → List Sl → Prop} {Po : δ → Prop} {Γ' : δ → List Sl} {c : δ → Bool} {Pa : δa → Prop} {Γa : δa → List Sl} {ca : δa → Bool}
variable {N N1 : List Sl → Prop} {Rt : Rtn} {rest s1 : List Stmt}
end
section
variable {X : Cx} {Γ : List Sl} {a b e : Expr} {pos p : Pos}
end
end G
namespace G
open PySem PySem.Spec PyProof.Rows L2
section
variable {X : Cx} {Γ : List Sl} {a b : Expr} {pos : Pos} {z : Str} {l : List Str}
end
section
variable {X : Cx} {Γ : List Sl} {a b : Expr} {rs : List RR} {pos : Pos} {k : Nat}
end
section
variable {X : Cx} {Γ : List Sl} {a b : Expr} {pos : Pos}
end
section
variable {X : Cx} {Γ : List Sl} {e a b o : Expr} {pos pos' p : Pos} {rest : List Stmt} {N : List Sl → Prop} {Rt : Rtn} {w : V} {Px : Value → List Sl → Prop}
end
structure HD (K : PySem.W.Frag) (R : RR) (d : PyData) (n : Nat) : Prop where
  h : ∀ v H, R.p v H → Dp K H v d
  l : d.canLay0 = true
  n : d.depth ≤ n
structure HDs (K : PySem.W.Frag) (rs : List RR) (ds : List PyData) (n : Nat) : Prop where
  h : ∀ vs H, All2 rs vs H → DpAll K H vs ds
  l : PyData.canLayAll0 ds = true
  n : PyData.depthAll ds ≤ n
section
variable {K : PySem.W.Frag} {R : RR} {rs : List RR} {d : PyData} {ds : List PyData} {n m : Nat}
theorem HD.mono (h : HD K R d n) (l : n ≤ m) : HD K R d m := ⟨h.h, h.l, Nat.le_trans h.n l⟩
theorem dt_int {i : Int} : HD K (isInt i) (.int i) n := ⟨fun v H h => by cases h; exact .int i, rfl, Nat.zero_le _⟩
theorem dt_non : HD K isN .none n := ⟨fun v H h => by cases h; exact .non, rfl, Nat.zero_le _⟩
theorem dt_str {z : Str} (o : PyData.strOk z = true) : HD K (isS z) (.str z) n := ⟨fun v H h => by cases h; exact .str z, o, Nat.zero_le _⟩
theorem dts_nil : HDs K [] [] n := ⟨fun vs H h => by cases vs with | nil => exact .nil | cons _ _ => exact h.elim, rfl, Nat.zero_le _⟩
theorem dts_cons (h : HD K R d n) (t : HDs K rs ds n) : HDs K (R :: rs) (d :: ds) n := ⟨fun vs H q => by
  cases vs with
  | nil => exact q.elim
  | cons v vs => exact .cons (h.h v H q.1) (t.h vs H q.2), by show (PyData.canLay0 _ && PyData.canLayAll0 _) = true; rw [h.l, t.l]; rfl, by
    show max (PyData.depth _) (PyData.depthAll _) ≤ n
    have := h.n
    have := t.n
    omega⟩
theorem dt_tup (h : HDs K rs ds n) : HD K (isTup K rs) (.tuple ds) (n + 1) := ⟨fun v H ⟨a, vs, e1, e2, e3⟩ => by subst e1; exact .tup e2 (h.h vs H e3), h.l, Nat.succ_le_succ h.n⟩
theorem HD.sh (h : HD K R d n) (hn : n ≤ 64) : SeqAt.shaped d = true := by
  show (PyData.canLay0 _ && decide _) = true
  rw [h.l, decide_eq_true (Nat.le_trans h.n hn)]; rfl
end
section
variable {X : Cx} {Γ : List Sl} {a b : Expr} {pos : Pos} {Ra Rb : RR} {d e : PyData} {n k : Nat}
theorem rv_eqH {K : PySem.W.Frag} (ha : HD K Ra d n) (hb : HD K Rb e n) (hn : n ≤ 64) : RV (rEqD K) Ra Rb (isB (PyData.eqv d e)) := fun v w Hb H Q s h1 h2 q => ⟨d, e, ha.h _ _ (Ra.mono s h1), hb.h _ _ (Rb.mono s h2), ha.sh hn, hb.sh hn, q _ rfl⟩
theorem eqv_self {K : PySem.W.Frag} (ha : HD K Ra d n) : PyData.eqv d d = true := SeqAt.eqv_refl d ha.l
theorem ge_eqH (ha : HD X.K Ra d n) (hb : HD X.K Rb d n) (hr : Room k X.A) (h1 : GE X Γ a Ra) (h2 : GE X Γ b Rb) (hn : n ≤ 64 := by decide) : GE X Γ (.Compare a [.Eq] [b] pos) (isB true) := ge_eq (ge_cmp (op_eqD hr.units) h1 h2 (rv_eqH ha hb hn) (nomark _)) (by rw [eqv_self ha])
end
end G
namespace G
open PySem PySem.Spec PyProof.Rows L2
section
variable {X : Cx} {Γ : List Sl} {elt it : Expr} {β : Type} {f : β → V} {l : β → List (Addr × HO)} {C : β → CC} {rs : List RR} {j : Nat} {I : Nat → List β → Prop} {σ : L2.St} {Hb1 H1 : Hp} {hs1 : Nat → Hp} {D : Addr} {scope : Scope} {x : Str} {xp pos : Pos}
end
section
variable {X : Cx} {Γ : List Sl} {rest : List Stmt} {N : List Sl → Prop} {Rt : Rtn} {w : V} {φ ψ : OO}
end
section
variable {X : Cx} {Γ : List Sl} {elt it : Expr} {β : Type} {c : β → RR} [ic : ∀ x, Im (c x)] {rs : List RR} {j : Nat} {I : Nat → List (List β) → Prop} {scope : Scope} {x : Str} {xp pos spos py : Pos} {N : List Sl → Prop} {Rt : Rtn} {rest : List Stmt}
end
end G
namespace G
open PySem PySem.Spec PyProof.Rows L2
def Hx (K : PySem.W.Frag) (R : RR) (n : Nat) : Prop := ∃ d, HD K R d n
def Hxs (K : PySem.W.Frag) (rs : List RR) (n : Nat) : Prop := ∃ ds, HDs K rs ds n
section
variable {K : PySem.W.Frag} {R : RR} {rs rs' : List RR} {n m : Nat}
theorem HDs.mono {ds : List PyData} (h : HDs K rs ds n) (l : n ≤ m) : HDs K rs ds m := ⟨h.h, h.l, Nat.le_trans h.n l⟩
theorem Hx.mono (h : Hx K R n) (l : n ≤ m) : Hx K R m := h.imp fun _ q => q.mono l
theorem Hxs.mono (h : Hxs K rs n) (l : n ≤ m) : Hxs K rs m := h.imp fun _ q => q.mono l
theorem hx_int {i : Int} : Hx K (isInt i) n := ⟨_, dt_int⟩
theorem hx_non : Hx K isN n := ⟨_, dt_non⟩
theorem hxs_nil : Hxs K [] n := ⟨_, dts_nil⟩
theorem hxs_cons (h : Hx K R n) (t : Hxs K rs n) : Hxs K (R :: rs) n := by
  obtain ⟨d, h⟩ := h
  obtain ⟨ds, t⟩ := t
  exact ⟨_, dts_cons h t⟩
theorem hx_tup (h : Hxs K rs n) : Hx K (isTup K rs) (n + 1) := h.elim fun _ q => ⟨_, dt_tup q⟩
end
section
variable {X : Cx} {Γ : List Sl} {a b : Expr} {pos : Pos} {Ra Rb R : RR} {n k : Nat}
theorem ge_eqx (ha : Hx X.K R n) (hr : Room k X.A) (h1 : GE X Γ a R) (h2 : GE X Γ b R) (hn : n ≤ 64 := by decide) : GE X Γ (.Compare a [.Eq] [b] pos) (isB true) := by
  obtain ⟨d, ha⟩ := ha
  exact ge_eqH ha ha hr h1 h2 hn
end
end G
namespace G
open PySem PySem.Spec PyProof.Rows L2
section
variable {X : Cx} {Γ : List Sl} {e o : Expr} {pos pos' p apos : Pos} {rest : List Stmt} {N : List Sl → Prop} {Rt : Rtn} {w : V} {Hb H Hb' H' : Hp} {σ : L2.St} {hs hs' : Nat → Hp} {R : RR} {rs : List RR} {x : Str} {Cl m : Str} {k : Nat} {ps : List Str} {γ δ δ1 : Type} {P : γ → Prop} {pre : γ → List Sl} {Po : γ → δ → Prop} {outs : γ → δ → List Sl} {res : γ → δ → Sl}
end
end G
namespace G
open PySem PySem.Spec PyProof.Rows L2
section
variable {δ : Type} {X : Cx} {Γ : List Sl} {a b : Expr} {pos : Pos} {Po : δ → Prop} {Γ' : δ → List Sl} {Px : Value → List Sl → Prop} {R : δ → RR} {n k : Nat}
end
end G
namespace G
open PySem PySem.Spec PyProof.Rows L2
section
variable {X : Cx} {Γ : List Sl} {e a b o : Expr} {pos pos' p apos : Pos} {rest body : List Stmt} {N : List Sl → Prop} {Rt : Rtn} {l : List (Addr × HO)} {C : CC} {w : V} {rs : List RR}
end
end G
namespace G
open PySem PySem.Spec PyProof.Rows L2
section
variable {X : Cx} {Γ : List Sl} {elt it : Expr} {α β : Type} {c : β → RR} [ic : ∀ x, Im (c x)] {rs : List RR} {j : Nat} {Γf : α → List Sl} {I : Nat → α → List β → Prop} {σ : L2.St} {Hb1 H1 : Hp} {hs1 : Nat → Hp} {D : Addr} {scope : Scope} {x : Str} {xp pos : Pos} {Px : Value → List Sl → Prop}
end
section
variable {X : Cx} {Γ : List Sl} {e : Expr} {es : List Expr} {pos p : Pos} {x : Str} {k : Nat} {ps : List Str} {γ δ ι : Type} {P : γ → Prop} {pre : γ → List Sl} {Po : γ → δ → Prop} {outs : γ → δ → List Sl} {res : γ → δ → Sl} {rs : List RR}
end
section
variable {δ : Type} {X : Cx} {Γ : List Sl} {a b e : Expr} {pos p : Pos} {Po : δ → Prop} {Γ' : δ → List Sl} {Px : Value → List Sl → Prop}
end
end G
namespace G
open PySem PySem.Spec PyProof.Rows L2
section
variable {Γ : List Sl} {Hb H : Hp} {σ : L2.St} {hs : Nat → Hp} {i : Nat} {w v' : V} {Φ φ : OO} {h1 h2 : Hp}
end
section
variable {X : Cx} {Γ : List Sl} {e o : Expr} {es : List Expr} {pos p apos : Pos} {x m Cl : Str} {k i : Nat} {ps : List Str} {γ δ : Type} {P : γ → Prop} {pre : γ → List Sl} {Po : γ → δ → Prop} {outs : γ → δ → List Sl} {res : γ → δ → Sl} {rs : List RR} {ks : List AK} {w v' : V} {Φ φ : OO} {Ψ : OO → OO} {Γo : δ → List Sl} {φo : δ → OO}
end
theorem join_eq {a b : Hp} {x : Addr} : join a b x = (match a x with | some o => some o | none => b x) := rfl
end G
namespace G
open PySem PySem.Spec PyProof.Rows L2
end G
namespace G
open PySem PySem.Spec PyProof.Rows L2
section
variable {X : Cx} {Γ : List Sl} {e o : Expr} {es : List Expr} {pos p apos : Pos} {x m Cl : Str} {k i : Nat} {ps : List Str} {γ δ : Type} {P : γ → Prop} {pre : γ → List Sl} {Po : γ → δ → Prop} {outs : γ → δ → List Sl} {res : γ → δ → Sl} {rs : List RR} {w v' : V} {Φ φ : OO} {Ψ : OO → OO} {φo : δ → OO} {us : List Sl}
end
end G
namespace G
open PySem PySem.Spec PyProof.Rows L2
section
variable {X : Cx} {Γ : List Sl} {rest : List Stmt} {N : List Sl → Prop} {Rt : Rtn} {elt it : Expr} {α β : Type} {c : β → RR} [ic : ∀ x, Im (c x)] {rs : List RR} {j : Nat} {Γf : α → List Sl} {I : Nat → α → List β → Prop} {scope : Scope} {x : Str} {xp pos : Pos} {Px : Value → List Sl → Prop} {as : List Addr} {φs : List OO} {w : V} {q : Addr}
end
section
variable {X : Cx} {Γ : List Sl} {elt it : Expr} {β : Type} {f : β → V} {l : β → List (Addr × HO)} {C : β → CC} {rs : List RR} {j : Nat} {I : Nat → List β → Prop} {scope : Scope} {x : Str} {xp pos spos py : Pos} {N : List Sl → Prop} {Rt : Rtn} {rest : List Stmt}
end
end G
namespace G
open PySem PySem.Spec PyProof.Rows L2
section
variable {X : Cx} {Γ : List Sl} {elt it a b : Expr} {ifs : List Expr} {β γ : Type} {c : β → RR} [ic : ∀ x, Im (c x)] {scope : Scope} {x : Str} {xp pos : Pos} {R : RR} {j : Nat}
end
end G
namespace G
open PySem PySem.Spec PyProof.Rows L2
section
variable {X : Cx} {Γ : List Sl} {e a b o it : Expr} {pos pos' p apos px py pt : Pos} {kt : Nat} {rest body : List Stmt} {N : List Sl → Prop} {Rt : Rtn} {w : V} {q : Addr} {vs : List V} {ps : List Addr} {m : Nat}
end
end G
namespace G
open PySem PySem.Spec PyProof.Rows L2
section
variable {X : Cx} {Γ : List Sl} {e a it elt : Expr} {pos pos' p px apos xp spos py : Pos} {rest : List Stmt} {N : List Sl → Prop} {Rt : Rtn} {δ : Type}
variable {α β : Type} {c : β → RR} [ic : ∀ x, Im (c x)] {rs : List RR} {Γf : α → List Sl} {I : Nat → α → List β → Prop} {scope : Scope} {x y : Str} {q : Addr} {vs : List V}
end
end G
namespace G
open PySem PySem.Spec PyProof.Rows L2
def andC (R : RR) (C : CC) : RR := ⟨fun v H => R.p v H ∧ C.p H, fun e h => ⟨R.mono e h.1, C.im (tx_of e) h.2⟩⟩
instance {R : RR} {C : CC} [i : Im R] : Im (andC R C) := ⟨fun e h => ⟨i.im e h.1, C.im e h.2⟩⟩
section
variable {X : Cx} {Γ : List Sl} {e a b o it : Expr} {pos pos' p apos px py pt : Pos} {kt : Nat} {rest body : List Stmt} {N : List Sl → Prop} {Rt : Rtn} {w : V} {q : Addr} {vs : List V} {ps : List Addr} {m : Nat} {R : RR} {C : CC}
variable {δ : Type} {Po : δ → Prop} {Γ' : δ → List Sl} {Px : Value → List Sl → Prop}
end
end G
namespace G
open PySem PySem.Spec PyProof.Rows L2
section
variable {X : Cx} {Γ : List Sl} {e a b o it : Expr} {pos pos' p apos px py pt : Pos} {kt : Nat} {rest body : List Stmt} {N : List Sl → Prop} {Rt : Rtn} {δ : Type} {Po : δ → Prop} {Γ1 : δ → List Sl}
end
end G
namespace G
open PySem PySem.Spec PyProof.Rows L2
section
variable {X : Cx} {Γ : List Sl} {e a b : Expr} {pos p : Pos}
section
variable {α : Type} [DecidableEq α] {c : α → RR} {n k : Nat} {dom : α → Prop} {x : α} {ys : List α}
theorem rv_notInE (E : En X.K c n dom) (hn : n < 64) (hx : dom x) (hy : ∀ y ∈ ys, dom y) : RV (rNotInD X.K) (c x) (isLst X.K (ys.map c)) (isB (!decide (x ∈ ys))) := fun v w Hb H Q s h1 h2 q => by
  obtain ⟨f, f1, f2, f3, f4⟩ := E.ex
  obtain ⟨g, g1, g2, g3, g4⟩ := (en_lstL E).ex
  obtain ⟨a, vs, e1, e2, e3⟩ := (isLst X.K (ys.map c)).mono s h2
  subst e1
  refine ⟨f x, ys.map f, f1 _ _ _ ((c x).mono s h1), .lst e2 (enc_all f1 e3), ?_, ?_, ?_⟩
  · unfold SeqAt.shaped
    rw [f2 _ hx, decide_eq_true (by have := f3 x; omega)]; rfl
  · unfold SeqAt.shaped
    have h1 : (PyData.list (ys.map f)).canLay0 = true := lay_all f2 ys hy
    have h2 : (PyData.list (ys.map f)).depth ≤ 64 := by
      show PyData.depthAll (ys.map f) + 1 ≤ 64
      have := dep_all f3 ys
      omega
    rw [h1, decide_eq_true h2]; rfl
  · rw [any_dec f4]
    exact q _ rfl
theorem gt_notInE (E : En X.K c n dom) (hr : Room k X.A) (ha : GE X Γ a (c x)) (hb : GE X Γ b (isLst X.K (ys.map c))) (hx : dom x) (hy : ∀ y ∈ ys, dom y) (hn : n < 64 := by decide) (hm : behindInMarks .NotIn b = false := by rfl) : GT X Γ (.Compare a [.NotIn] [b] pos) (· = !decide (x ∈ ys)) := gt_cmp (op_notInD (by have := hr.un; omega)) ha hb (rv_notInE E hn hx hy) hm
end
end
end G
namespace G
open PySem PySem.Spec PyProof.Rows L2
section
variable {X : Cx} {Γ : List Sl} {pos p px pp pb : Pos} {x y0 : Str} {k : Nat} {ps : List Str} {γ δ : Type} {P : γ → Prop} {pre : γ → List Sl} {Po : γ → δ → Prop} {outs : γ → δ → List Sl} {res : γ → δ → Sl} {R : RR} {w0 : V} {φ φ2 : OO} {e2 ei : Expr}
end
end G
namespace G
open PySem PySem.Spec PyProof.Rows L2
end G
namespace G
open PySem PySem.Spec PyProof.Rows L2
def rkvs (fs : List (Str × V)) : List (Key × V) := fs.map fun p => ((.inr p.1 : Key), p.2)
abbrev dR (fs : List (Str × V)) : HO := .dK (rkvs fs)
theorem valV_r {f : Str} : ∀ {fs : List (Str × V)}, valV (rkvs fs) (.inr f) = fs.lookup f
  | [] => rfl
  | p :: fs => by
    unfold rkvs
    rw [List.map_cons, List.lookup_cons]
    by_cases h : f = p.1
    · rw [show (f == p.1) = true from beq_iff_eq.mpr h, valV_pos (by rw [h])]
    · rw [show (f == p.1) = false from beq_eq_false_iff_ne.mpr h, valV_neg (fun e => h (Sum.inr.inj e).symm)]
      exact valV_r
theorem putK_rn {f : Str} {v : V} {fs : List (Str × V)} (h : f ∉ fs.map (·.1)) : putK (rkvs fs) (.inr f) v = rkvs (fs ++ [(f, v)]) := by
  have e : fs.lookup f = none := by
    induction fs with
    | nil => rfl
    | cons p fs ih =>
      rw [List.map_cons, List.mem_cons, not_or] at h
      rw [List.lookup_cons, show (f == p.1) = false from beq_eq_false_iff_ne.mpr h.1]
      exact ih h.2
  rw [putK_new v (by rw [valV_r]; exact e)]
  unfold rkvs
  rw [List.map_append]; rfl
theorem mergeK_r : ∀ {gs fs : List (Str × V)}, ((fs ++ gs).map (·.1)).Nodup → mergeK (rkvs fs) (rkvs gs) = rkvs (fs ++ gs)
  | [], fs, _ => by rw [List.append_nil]; rfl
  | p :: gs, fs, nd => by
    show mergeK (putK (rkvs fs) (.inr p.1) p.2) (rkvs gs) = _
    have e : fs ++ p :: gs = (fs ++ [p]) ++ gs := by simp
    rw [putK_rn, e]
    · exact mergeK_r (by rw [← e]; exact nd)
    · rw [List.map_append, List.map_cons, List.nodup_append] at nd
      intro m
      exact nd.2.2 _ m _ (List.mem_cons_self ..) rfl
section
variable {X : Cx} {Γ : List Sl} {e a b o : Expr} {pos spos p1 p2 p apos tpos pos' : Pos} {R : RR} {l l0 : List (Addr × HO)} {C C0 : CC} {w : V} {rest : List Stmt} {N : List Sl → Prop} {Rt : Rtn}
structure GP {α : Type} (X : Cx) (Γ : List Sl) (keys : List (Option Expr)) (vals : List Expr) (P : α → Prop) (kvs : α → List (Str × V)) (l : α → List (Addr × HO)) (C : α → CC) : Prop where
  run : ∃ trs, (∀ pos, PPs X pos keys vals trs) ∧ ∀ (σ : L2.St) (H Hb : Hp) (hs : Nat → Hp) (Q : List (V × V) → Hp → Prop), At Γ Hb H σ hs → (∀ y H' Hb' hs' h, P y → Step Hb H hs Hb' H' hs' → At Γ Hb' H' σ hs' → (regL (l y) (C y)).p .non Hb' h → Same h H' → Frs Hb H hs Hb' hs' h → Q ((kvs y).map fun p => (V.str p.1, p.2)) H') → tPairs trs σ H Q
theorem frs_tr {Hb H Hb1 H1 Hb2 : Hp} {hs hs1 hs2 : Nat → Hp} {h : Hp} (s : Step Hb H hs Hb1 H1 hs1) (f : Frs Hb1 H1 hs1 Hb2 hs2 h) : Frs Hb H hs Hb2 hs2 h := fun a o e => ⟨(f a o e).1, (f a o e).2.1, (f a o e).2.2.elim (fun c => s.c a c) fun n => step_new s n⟩
theorem reg_nil {v : V} {Hb : Hp} : (regL [] cT).p v Hb no := ⟨rfl, List.nodup_nil, (fun q m => nomatch m), trivial⟩
theorem gp_nil : GP X Γ [] [] (fun _ : Unit => True) (fun _ => []) (fun _ => []) (fun _ => cT) := ⟨[], fun _ => pps_nil, fun σ H Hb hs Q A q => q () H Hb hs no trivial Step.refl A reg_nil (fun _ _ e => nomatch e) fun _ _ e => nomatch e⟩
variable {α β : Type} {P : α → Prop} {kvs : α → List (Str × V)} {la : α → List (Addr × HO)} {Ca : α → CC} {ks : List (Option Expr)} {es : List Expr} {f : Str} {k : Expr}
theorem gp_v {v : V} (hk : GE X Γ k (isS f)) (he : GE X Γ e (isV v)) (hr : GP X Γ ks es P kvs la Ca) : GP X Γ (some k :: ks) (e :: es) P (fun y => (f, v) :: kvs y) la Ca := by
  obtain ⟨trs, hp, h⟩ := hr
  refine ⟨(WE X k, WE X e) :: trs, fun pos => pps_cons pe_sem pe_sem (hp pos), fun σ H Hb hs Q A q => ?_⟩
  refine hk.run σ H Hb hs _ A fun x H1 Hb1 hs1 s1 A1 r1 => he.run σ H1 Hb1 hs1 _ A1 fun y H2 Hb2 hs2 s2 A2 r2 => h σ H2 Hb2 hs2 _ A2 fun z H3 Hb3 hs3 h3 pz s3 A3 r3 z3 f3 => ?_
  cases r1
  cases r2
  exact q z H3 Hb3 hs3 h3 pz (A1.trans s1 (A2.trans s2 s3)) A3 r3 z3 (frs_tr s1 (frs_tr s2 f3))
theorem reg_app {l1 l2 : List (Addr × HO)} {C1 C2 : CC} {v u w : V} {Hb h1 h2 : Hp} (d : Apart h1 h2) (p : (regL l1 C1).p v Hb h1) (q : (regL l2 C2).p u Hb h2) : (regL (l1 ++ l2) (C1.and C2)).p w Hb (join h1 h2) := by
  obtain ⟨e1, n1, t1, c1⟩ := p
  obtain ⟨e2, n2, t2, c2⟩ := q
  subst e1 e2
  refine ⟨ofL_join.symm, ?_, fun q m => ?_, c1, c2⟩
  · show ((l1 ++ l2).map (·.1)).Nodup
    rw [List.map_append, List.nodup_append]
    refine ⟨n1, n2, fun a ha b hb e => ?_⟩
    subst e
    obtain ⟨o1, z1⟩ := keys_ofL n1 ha
    obtain ⟨o2, z2⟩ := keys_ofL n2 hb
    rw [d a o1 z1] at z2; cases z2
  · rcases List.mem_append.mp m with m | m
    · exact t1 q m
    · exact t2 q m
theorem join_some {h1 h2 : Hp} {a : Addr} {o : HO} (e : join h1 h2 a = some o) : h1 a = some o ∨ h2 a = some o := by
  unfold join at e
  cases z : h1 a with
  | some u => rw [z] at e; exact .inl e
  | none => rw [z] at e; exact .inr e
theorem go_disp {keys : List (Option Expr)} {vals : List Expr} (h : GP X Γ keys vals P kvs la Ca) (nd : ∀ y, P y → ((kvs y).map (·.1)).Nodup) (hz : ∀ y, P y → (kvs y).length ≤ 15) (hall : keys.all (·.isSome) = true := by rfl) (hl : keys.length = vals.length := by rfl) (h0 : keys ≠ [] := by exact List.cons_ne_nil _ _) (h15 : keys.length ≤ 15 := by exact Nat.le_of_ble_eq_true rfl) : GO X Γ (.Dict keys vals pos) (exO (fun z : Addr × α => P z.2) fun z => regV (.ref z.1) ((z.1, dR (kvs z.2)) :: la z.2) (Ca z.2)) := .mk fun σ H Hb hs Q A q => by
  obtain ⟨trs, hp, h⟩ := h
  refine we_of (pe_disp (hp pos) hall hl h0 h15) fun p np => ?_
  obtain ⟨A2, s2⟩ := A.layN (o := .dK []) np
  obtain ⟨nb, ni⟩ := A.fresh np
  refine h σ _ _ _ _ A2 fun y H3 Hb3 hs3 h3 py s3 A3 r3 z3 f3 => ?_
  have hp3 : H3 p = some (.dK []) := s3.k p _ upd_same ni
  have ncl : ¬ Cl Hb3 hs3 p := fun c => by
    rcases s3.c p c with (⟨o, c⟩ | ⟨i, o, c⟩) | c
    · rw [nb] at c; cases c
    · rw [ni i] at c; cases c
    · rw [upd_same] at c; cases c
  have nb3 : Hb3 p = none := by
    cases z : Hb3 p with
    | none => rfl
    | some o => exact absurd (.inl ⟨o, z⟩) ncl
  have ni3 : ∀ i, hs3 i p = none := fun i => by
    cases z : hs3 i p with
    | none => rfl
    | some o => exact absurd (.inr ⟨i, o, z⟩) ncl
  have hn : h3 p = none := by
    cases z : h3 p with
    | none => rfl
    | some o =>
      rcases (f3 p o z).2.2 with (⟨u, c⟩ | ⟨i, u, c⟩) | c
      · rw [nb] at c; cases c
      · rw [ni i] at c; cases c
      · rw [upd_same] at c; cases c
  refine ⟨hp3, rkvs (kvs y), by unfold rkvs; rw [List.map_map]; rfl, by unfold rkvs; rw [List.length_map]; exact hz y py, ?_⟩
  have em : mergeK [] (rkvs (kvs y)) = rkvs (kvs y) := mergeK_r (fs := []) (nd y py)
  rw [em]
  have A4 := A3.poke (o := .dK (rkvs (kvs y))) nb3 ni3
  have np3 : ∀ a o, h3 a = some o → a ≠ p := fun a o e z => by rw [z, hn] at e; cases e
  have dd : Apart (sing p (.dK (rkvs (kvs y)))) h3 := fun a o e => by
    obtain ⟨rfl, _⟩ := sing_some e
    exact hn
  have st : Step Hb H hs Hb3 (upd H3 p (.dK (rkvs (kvs y)))) hs3 := by
    refine ⟨s2.b.trans s3.b, fun a o ha hu => ?_, fun a c => ?_⟩
    · have ne : a ≠ p := fun z => by rw [z, np] at ha; cases ha
      rw [upd_ne ne]
      exact s3.k a o (by rw [upd_ne ne]; exact ha) hu
    · rcases s3.c a c with c | c
      · exact .inl c
      · by_cases z : a = p
        · rw [z]; exact .inr np
        · rw [upd_ne z] at c; exact .inr c
  refine q _ _ _ _ (join (sing p (.dK (rkvs (kvs y)))) h3) st A4 ⟨(p, y), py, rfl, reg_cc (C := cT.and (Ca y)) (fun H (h : (cT.and (Ca y)).p H) => h.2) (reg_app (v := .non) (u := .non) dd (reg_one (C := cT) nt_dK trivial) r3)⟩ (same_join (fun a o e => ?_) fun a o e => ?_) fun a o e => ?_
  · obtain ⟨rfl, rfl⟩ := sing_some e; exact upd_same
  · rw [upd_ne (np3 a o e)]; exact z3 a o e
  · rcases join_some e with e | e
    · obtain ⟨rfl, rfl⟩ := sing_some e
      exact ⟨nb3, ni3, .inr np⟩
    · refine ⟨(f3 a o e).1, (f3 a o e).2.1, (f3 a o e).2.2.elim .inl fun c => ?_⟩
      rw [upd_ne (np3 a o e)] at c
      exact .inr c
theorem ge_frzR {v : β → V} {lb : β → List (Addr × HO)} {Cb : β → CC} {P0 : β → Prop} (h : GO X Γ e (exO P0 fun y => regV (v y) (lb y) (Cb y))) : GE X Γ e (exR P0 fun y => isRegV (v y) (lb y) (Cb y)) := ge_frz h fun u Hb h' d ⟨y, py, e1, r⟩ Hc c1 c2 => by
  subst e1
  exact ⟨y, py, rds_reg Hb h' r Hc c1 c2⟩
theorem ge_dget2 {Ro Rd' Rr : RR} {z : Str} {n : Nat} (hr : Room n X.A) (ho : GE X Γ o Ro) (hk : GE X Γ a (isS z)) (hd : GE X Γ b Rd') (hR : ∀ v H, Ro.p v H → ∃ q kvs, v = .ref q ∧ Rd H q (.dK kvs) ∧ (∀ u, valV kvs (.inr z) = some u → Rr.p u H) ∧ (valV kvs (.inr z) = none → ∀ u, Rd'.p u H → Rr.p u H)) (m : M2 X o "get" apos a b pos := by exact ⟨by rfl, by rfl, by rfl, by rfl⟩) : GE X Γ (.Call (.Attribute o "get" apos) [a, b] [] pos) Rr := .mk fun σ H Hb hs Q A q => by
  refine we_of (pe_dget2 (by have := hr.units; omega) pe_sem pe_sem pe_sem m) (ho.run σ H Hb hs _ A fun v1 H1 Hb1 hs1 s1 A1 r1 => ?_)
  obtain ⟨d, kvs, rfl, h3, _⟩ := hR _ _ r1
  refine ⟨d, rfl, .inl ⟨kvs, rd_same A1.same h3⟩, hk.run σ H1 Hb1 hs1 _ A1 fun u H2 Hb2 hs2 s2 A2 r2 => hd.run σ H2 Hb2 hs2 _ A2 fun x H3 Hb3 hs3 s3 A3 r3 => ?_⟩
  cases r2
  obtain ⟨d', kvs', e', h4, q1, q2⟩ := hR _ _ (Ro.mono (A2.trans s2 s3).b r1)
  cases e'
  refine ⟨valV kvs' (.inr z), .inl ⟨kvs', .inr z, rd_same A3.same h4, rfl, rfl⟩, q _ H3 Hb3 hs3 (A1.trans s1 (A2.trans s2 s3)) A3 ?_⟩
  cases e : valV kvs' (.inr z) with
  | some u => exact q1 u e
  | none => exact q2 e x r3
end
end G
namespace G
open PySem PySem.Spec PyProof.Rows L2
end G
namespace G
open PySem PySem.Spec PyProof.Rows L2
section
variable {X : Cx} {Γ : List Sl} {elt it a b : Expr} {ifs : List Expr} {β γ : Type} {c : β → RR} [ic : ∀ x, Im (c x)] {scope : Scope} {x : Str} {xp pos : Pos} {R : RR} {j : Nat}
end
end G
namespace G
open PySem PySem.Spec PyProof.Rows L2
section
variable {X : Cx} {Γ : List Sl} {e a b : Expr} {es : List Expr} {R : RR} {pos p : Pos} {γ : Type} {P : γ → Prop} {pre outs : γ → List Sl} {res : γ → Sl} {k : Nat} {f : Addr} {fd : FuncData} {ps : List Str} {CX : CXT} {x : Str} {ks : List AK} {E : XK}
/-- a call of the def that slot j holds -/
theorem ge_callL (j : Nat) (g : γ) (F : FnOk X.prog X.w X.K X.mg X.base CX k f fd ps (FS P pre outs res)) (hr : Room k X.A) (hk : PySem.W.keepIn X.K (.ref f) = true) (hb : Binds X.K fd ps []) (hP : P g) (ha : GA X Γ (e :: es) ks) (hj : Γ[j]? = some (.r (isV (.ref f)))) (hN : X.N[j]? = some x := by rfl) (hv : Vis X.env.scope x := by first | exact Or.inl rfl | exact Or.inr (Or.inl rfl) | exact Or.inr (Or.inr rfl))
    (hpre : pre g = preOf Γ ks := by rfl) (hres : res g = .r R := by rfl) (hout : upOuts Γ ks (outs g) = Γ := by rfl) (hl : (outs g).length = ks.length := by rfl) (nd : nodupB (ownsOf ks) = true := by rfl) (hx : Passes CX X E := by exact pass0)
    (hdb : (x == ("__debug__" : Str)) = false := by decide) (hcd : (x == ("__classdict__" : Str)) = false := by decide) (he : starEach (e :: es) X.env = (false, eval e X.env) :: starEach es X.env := by rfl) (hpl : (backTo pos (starEach es X.env)).any (·.1) = false := by rfl) : GE X Γ (.Call (.Name x p) (e :: es) [] pos) R := .mk fun σ H Hb hs Q A q => by
  obtain ⟨v, e1, e2⟩ := A.sl j _ hj
  cases e2
  refine we_of (pe_callL F hr hN hv hk hb .nil hx pa_sem hdb hcd he hpl) ⟨e1, ha.run σ H Hb hs _ A fun vs H1 Hb1 hs1 s1 A1 r1 => ?_⟩
  rw [List.append_nil]
  refine ⟨g, Hb1, _, hP, by rw [hpre]; exact A1.call nd r1, fun v H2 Hb2 hs2 s2 A2 => ?_⟩
  obtain ⟨A3, s3, r3, _⟩ := A1.ret nd r1 hl s2 A2
  rw [hout] at A3
  rw [hres] at r3
  obtain ⟨w, e1, r3⟩ := r3
  cases e1
  exact q v H2 Hb2 _ (A1.trans s1 s3) A3 r3
/-- int(text) -/
theorem ge_intS {z : Str} {n : Int} (hm : X.mg "int" = none) (ha : GE X Γ a (isS z)) (hn : PySem.intText? z = some n) (hl : z.length ≤ 640) (hg : Gl X "int" := by rfl) (h1 : starEach [a] X.env = (false, eval a X.env) :: starEach [] X.env := by rfl) (h2 : (backTo pos (starEach [] X.env)).any (·.1) = false := by rfl) : GE X Γ (.Call (.Name "int" p) [a] [] pos) (isInt n) := .mk fun σ H Hb hs Q A q => by
  refine we_of (pe_callTy call_int_str hg hm (by rfl) (pa_cons pe_sem pa_nil h1) (by decide) (by decide) h1 h2) (ha.run σ H Hb hs _ A fun v H1 Hb1 hs1 s1 A1 r1 => ?_)
  exact ⟨z, n, by rw [r1], hn, hl, q (.int n) H1 Hb1 hs1 s1 A1 rfl⟩
/-- a text that is a key of a table of the module -/
theorem gt_notInTabT {x z : Str} {ts : List Str} {kvs : List (Str × List Str)} (T : CTabT X.K X.w X.mg x kvs) (ha : GE X Γ a (isS z)) (hm : (z, ts) ∈ kvs) (hg : Gl X x := by rfl) (hd : (x == ("__debug__" : Str)) = false := by decide) (hmk : behindInMarks .NotIn (.Name x p) = false := by rfl) : GT X Γ (.Compare a [.NotIn] [.Name x p] pos) (· = false) := by
  obtain ⟨es, n, D⟩ := T.d
  obtain ⟨t, ⟨_, _, u, _, _, e, _⟩, _⟩ := T.at_ (z, ts) hm
  exact gt_cmp (op_notIn_kd D) ha (ge_glob (R := isV (.ref (He.ga X.K x))) hg T.g (v := .ref (He.ga X.K x)) rfl (fun _ => rfl) hd) (fun v w Hb H Q _ h1 h2 q => by cases h1; cases h2; exact ⟨z, some u, rfl, rfl, e, q _ rfl⟩) hmk
end
end G
namespace G
open PySem PySem.Spec PyProof.Rows L2
section
variable {X : Cx} {Γ : List Sl} {a b : Expr} {pos : Pos} {δ : Type} {Po : δ → Prop} {Γ' : δ → List Sl} {Px : Value → List Sl → Prop} {k n : Nat} {R : δ → RR}
end
end G
namespace G
open PySem PySem.Spec PyProof.Rows L2
/-- an own exception class over ValueError, told of the written part -/
def oexB (K : PySem.W.Frag) (C : Addr) : Bool :=
  (match K.lookup C with
    | some ⟨.type "type", _, .cls cd, sl⟩ => (match cd.mro, sl.toList with
      | .ref C' :: bm, [_, _, _, _, some (.builtin n), _] => C' == C && n == "ValueError.__new__" && !cd.hasDel && cd.hasDict && PySem.HandSPX.refsVE bm
      | _, _ => false)
    | _ => false) &&
  (match PySem.W.findIn K (.ref C) "__setattr__" with | some (some (.builtin n)) => n == "object.__setattr__" | _ => false) &&
  (match PySem.W.subIn K (.ref C) (.type "BaseException") with | some b => b | _ => false) &&
  (match PySem.W.typeIn K (.ref C) with | some (.type n) => n == "type" | _ => false) && PySem.W.keepIn K (.ref C)
theorem oexB_ok {K : PySem.W.Frag} {C : Addr} (h : oexB K C = true) : OexC K C := by
  unfold oexB at h
  simp only [Bool.and_eq_true] at h
  obtain ⟨⟨⟨⟨h1, h2⟩, h3⟩, h4⟩, h5⟩ := h
  refine ⟨?_, ?_, ?_, ?_, h5⟩
  · split at h1
    · rename_i dd cd sl ho
      split at h1
      · rename_i C' bm k0 k1 k2 k3 n k5 hm hs
        simp only [Bool.and_eq_true, beq_iff_eq, Bool.not_eq_true'] at h1
        obtain ⟨⟨⟨⟨rfl, rfl⟩, hdel⟩, hdd⟩, hre⟩ := h1
        obtain ⟨nm, bs, mro, ns, qn, hd, sn, sub, ab, col, del⟩ := cd
        dsimp only at hm hdel hdd
        subst hm hdel hdd
        have hsl : sl = #[k0, k1, k2, k3, some (.builtin "ValueError.__new__"), k5] := by
          obtain ⟨l⟩ := sl
          simp only at hs
          rw [hs]
        subst hsl
        exact ⟨nm, qn, ns, bs, bm, sn, sub, ab, col, dd, k0, k1, k2, k3, k5, ho, hre⟩
      · cases h1
    · cases h1
  · split at h2
    · rename_i n e
      rw [e, eq_of_beq h2]
    · cases h2
  · split at h3
    · rename_i b e
      rw [e, h3]
    · cases h3
  · split at h4
    · rename_i n e
      rw [e, eq_of_beq h4]
    · cases h4
/-- a class of the text that has ValueError's __init__ -/
structure KeI (K : PySem.W.Frag) (C : Addr) : Prop where
  ga : PySem.W.specialIn K (.ref C) "__getattribute__" = some (some (.builtin "type.__getattribute__"))
  rd : PySem.W.readsIn K C (.type "type") = true
  fi : PySem.W.findCls K (.ref C) (.type "type") "__init__" = some (.val (.builtin "ValueError.__init__"))
def keiB (K : PySem.W.Frag) (C : Addr) : Bool :=
  (match PySem.W.specialIn K (.ref C) "__getattribute__" with | some (some (.builtin n)) => n == "type.__getattribute__" | _ => false) && PySem.W.readsIn K C (.type "type") &&
  (match PySem.W.findCls K (.ref C) (.type "type") "__init__" with | some (.val (.builtin n)) => n == "ValueError.__init__" | _ => false)
theorem keiB_ok {K : PySem.W.Frag} {C : Addr} (h : keiB K C = true) : KeI K C := by
  unfold keiB at h
  simp only [Bool.and_eq_true] at h
  obtain ⟨⟨h1, h2⟩, h3⟩ := h
  refine ⟨?_, h2, ?_⟩
  · split at h1
    · rename_i n e
      rw [e, eq_of_beq h1]
    · cases h1
  · split at h3
    · rename_i n e
      rw [e, eq_of_beq h3]
    · cases h3
def xcfB (K : PySem.W.Frag) (C : Addr) (nm : Str) : Bool :=
  (match PySem.W.findIn K (.ref C) "__getattribute__" with | some (some (.builtin n)) => n == "BaseException.__getattribute__" | _ => false) &&
  (match PySem.W.findIn K (.ref C) "__getattr__" with | some none => true | _ => false) && PySem.W.hasDictIn K C &&
  (match PySem.W.findIn K (.ref C) nm with | some none => true | _ => false)
theorem xcfB_ok {K : PySem.W.Frag} {C : Addr} {nm : Str} (T : OexC K C) (h : xcfB K C nm = true) : XfC K C ∧ PySem.W.findIn K (.ref C) nm = some none := by
  unfold xcfB at h
  simp only [Bool.and_eq_true] at h
  obtain ⟨⟨⟨h1, h2⟩, h3⟩, h4⟩ := h
  refine ⟨⟨?_, ?_, T.exC, h3⟩, ?_⟩
  · split at h1
    · rename_i n e
      rw [e, eq_of_beq h1]
    · cases h1
  · split at h2
    · rename_i e; exact e
    · cases h2
  · split at h4
    · rename_i e; exact e
    · cases h4
def oexAll (K : PySem.W.Frag) (C C0 : Addr) (nm : Str) : Bool := oexB K C && keiB K C0 && xcfB K C nm
theorem oexAll_ok {K : PySem.W.Frag} {C C0 : Addr} {nm : Str} (h : oexAll K C C0 nm = true) : OexC K C ∧ KeI K C0 ∧ XfC K C ∧ PySem.W.findIn K (.ref C) nm = some none := by
  unfold oexAll at h
  simp only [Bool.and_eq_true] at h
  have t := oexB_ok h.1.1
  have x := xcfB_ok t h.2
  exact ⟨t, keiB_ok h.1.2, x.1, x.2⟩
section
variable {X : Cx} {o e : Expr} {es : List Expr} {to te : TE} {ta : TA} {f : Str} {p p' p1 p2 pos : Pos}
/-- C.__init__(self, ..), C such a class -/
theorem pe_keinit {x : Str} {C0 : Addr} {pl : Sem Bool} (hg : Gl X x) (hm : X.mg x = some (.ref C0)) (T0 : KeI X.K C0) (ha : PA X (e :: es) ta) (hdb : (x == ("__debug__" : Str)) = false)
    (hc : eval (.Call (.Attribute (.Name x p1) "__init__" p2) (e :: es) [] pos) X.env = (do
      let ov ← eval (.Name x p1) X.env
      standAt p2.atName
      let (f, first) ← holding [ov] (getMethod ov "__init__" pl)
      callWith pos f first (backTo pos (starEach (e :: es) X.env)) (backToKw pos (keywordEach [] X.env))) := by rfl)
    (he : starEach (e :: es) X.env = (false, eval e X.env) :: starEach es X.env := by rfl) (hpl : (backTo pos (starEach es X.env)).any (·.1) = false := by rfl) :
    PE X (.Call (.Attribute (.Name x p1) "__init__" p2) (e :: es) [] pos) (tVeI X.K ta) := by
  refine ⟨fun pins s σ H Q I h => ?_⟩
  refine PySem.W.methodCall_KW (ld_glob I hg hm ?_ hdb) hc
  refine PySem.W.method_cls I.kIn T0.ga (PySem.W.cls_value I.kIn T0.rd T0.fi (by decide +kernel) ?_)
  show wpAny _ _ (callWith pos (Value.builtin "ValueError.__init__") [] (backTo pos (starEach (e :: es) X.env)) []) _ _ _
  refine PyProof.Rows.callWith_method1 (thn (ha.run pos pins _ σ H _ (I.tok _) h) fun us s1 ⟨vs, H1, I1, r1, a, C, ws, ev, hl, T, ea, q⟩ => ?_) he hpl
  subst ev
  cases r1 with
  | @cons _ u0 _ ur ra rw' =>
    obtain rfl : u0 = Value.ref a := ra
    have hlen : ur.length ≤ sizeLine := by
      rw [← Paired.length rw', sizeLine_eq]
      omega
    exact oinit_ok T I1 ea hlen fun s' J => ⟨.non, H1, J, rfl, q⟩
end
end G
namespace G
open PySem PySem.Spec PyProof.Rows L2
section
variable {Γ : List Sl} {Hb H : Hp} {σ : L2.St} {hs : Nat → Hp} {d : Addr} {o : HO}
theorem same_upd {h : Hp} (s : Same h H) (n : H d = none) : Same h (upd H d o) := fun a u e => by
  have e2 := s a u e
  rw [upd_ne (fun z => by rw [z, n] at e2; cases e2)]
  exact e2
theorem At.base (A : At Γ Hb H σ hs) (n : H d = none) : At Γ (upd Hb d o) (upd H d o) σ hs := by
  have nb : Hb d = none := by
    cases q : Hb d with
    | none => rfl
    | some u => have := A.same d u q; rw [n] at this; cases this
  have sb : Same Hb (upd Hb d o) := same_upd (Same.refl _) nb
  have nh : ∀ i, hs i d = none := fun i => by
    cases q : hs i d with
    | none => rfl
    | some u => have := A.sub i d u q; rw [n] at this; cases this
  refine ⟨A.len, fun a u e => ?_, fun i => same_upd (A.sub i) n, fun i a u e => ?_, A.dis, fun i s e => (A.sl i s e).mono sb⟩
  · by_cases z : a = d
    · subst z
      rw [upd_same] at e ⊢
      exact e
    · rw [upd_ne z] at e ⊢
      exact A.same a u e
  · rw [upd_ne (fun z => by rw [z, nh i] at e; cases e)]
    exact A.off i a u e
theorem step_base (A : At Γ Hb H σ hs) (n : H d = none) : Step Hb H hs (upd Hb d o) (upd H d o) hs := by
  have nb : Hb d = none := by
    cases q : Hb d with
    | none => rfl
    | some u => have := A.same d u q; rw [n] at this; cases this
  refine ⟨same_upd (Same.refl _) nb, fun a u e _ => by rw [upd_ne (fun z => by rw [z, n] at e; cases e)]; exact e, fun a c => ?_⟩
  by_cases z : a = d
  · exact .inr (by rw [z]; exact n)
  · refine .inl ?_
    rcases c with ⟨u, e⟩ | c
    · rw [upd_ne z] at e
      exact .inl ⟨u, e⟩
    · exact .inr c
end
/-- what an __init__ of an exception does that keeps one field -/
def spXI (K : PySem.W.Frag) (nm : Str) : Sp := fun vs H Q E => ∃ (a C : Addr) (y : V), vs = [.ref a, y] ∧ OexC K C ∧ PySem.W.findIn K (.ref C) nm = some none ∧ H a = some (exo a C none) ∧ ∀ dx, H dx = none → dx ≠ a → Q .non (upd (upd H dx (exd dx [(nm, y)])) a (exo a C (some dx)))
/-- a class of exceptions that keep one field -/
structure OexI (P : Program) (w : World) (K : PySem.W.Frag) (mg : Str → Option Value) (base : Heap) (k : Nat) (x nm : Str) (C : Addr) : Prop where
  t : OexC K C
  g : mg x = some (.ref C)
  no : PySem.W.findIn K (.ref C) nm = some none
  i : ∃ f fd ps, PySem.W.findIn K (.ref C) "__init__" = some (some (.ref f)) ∧ PySem.W.typeIn K (.ref f) = some (.type "function") ∧ FnOk P w K mg base CX0 k f fd ps (spXI K nm) ∧ Binds K fd ps []
def XOutO (Rt : Rtn) (cls : Value) (nm : Str) (R : RR) (Γ : List Sl) : Prop := ∀ H' Hb' σ' hs' d y, At Γ Hb' H' σ' hs' → R.p y Hb' → Hb' d = some (.xd [(nm, y)]) → ∃ hs2, Rt.x cls (some d) H' Hb' hs2 ∧ ∀ a, Cl Hb' hs2 a → Cl Hb' hs' a
section
variable {X : Cx} {Γ : List Sl} {e : Expr} {R : RR} {p tp pos : Pos} {N : List Sl → Prop} {Rt : Rtn} {rest : List Stmt} {x nm : Str} {C : Addr} {k : Nat}
/-- raise C(e) -/
theorem gs_raiseO (T : OexI X.prog X.w X.K X.mg X.base k x nm C) (hr : Room (k + 1) X.A) (he : GE X Γ e R) (hx : XOutO Rt (.ref C) nm R Γ) (hc : X.calm = true := by rfl) (hg : Gl X x := by rfl) (hd : (x == ("__debug__" : Str)) = false := by decide) (h1 : starEach [e] X.env = (false, eval e X.env) :: starEach [] X.env := by rfl) (h2 : (backTo pos (starEach [] X.env)).any (·.1) = false := by rfl) :
    GS X Γ (.Raise (some (.Call (.Name x p) [e] [] pos)) none tp :: rest) N Rt := .mk fun σ H Hb hs D A q r W tk xc => by
  obtain ⟨f, fd, ps, i1, i2, F, hb⟩ := T.i
  refine wss_of (pss_cons (ps_raise hc tk (pmk_oex (dvs := []) T.t i1 i2 F hr hb .nil pass0 hg T.g (pa_cons pe_sem pa_nil h1) hd h1 h2)) pss_sem) ?_
  refine he.run σ H Hb hs _ A fun y H1 Hb1 hs1 s1 A1 r1 => ?_
  refine ⟨(show 1 ≤ 1000 by decide), fun a ha => ?_⟩
  refine ⟨a, C, y, rfl, T.t, T.no, upd_same, fun dx hdx ne => ?_⟩
  have n1 : H1 dx = none := by rw [upd_ne ne] at hdx; exact hdx
  refine ⟨rfl, dx, [(nm, y)], upd_same, by rw [upd_ne ne, upd_same], n1, ?_⟩
  have eH : upd (del (upd (upd (upd H1 a (exo a C none)) dx (exd dx [(nm, y)])) a (exo a C (some dx))) a) dx (.xd [(nm, y)]) = upd H1 dx (.xd [(nm, y)]) := by
    funext b
    by_cases z : b = dx
    · rw [z, upd_same, upd_same]
    · rw [upd_ne z, upd_ne z]
      by_cases z2 : b = a
      · rw [z2, del_same, ha]
      · rw [del_ne z2, upd_ne z2, upd_ne z, upd_ne z2]
  rw [eH]
  have A2 := A1.base (o := .xd [(nm, y)]) n1
  have s2 := step_base (o := .xd [(nm, y)]) A1 n1
  obtain ⟨hs2, g1, g2⟩ := hx _ _ σ hs1 dx y A2 (R.mono s2.b r1) upd_same
  have s3 := A1.trans s1 s2
  exact xc _ _ σ _ _ hs2 ⟨s3.b, s3.k, fun a c => s3.c a (g2 a c)⟩ g1
end
end G
namespace G
open PySem PySem.Spec PyProof.Rows L2
def FZ {γ δ : Type} (P : γ → Prop) (pre : γ → List Sl) (Po : γ → δ → Prop) (outs : γ → δ → List Sl) (res : γ → δ → Sl) (Px : γ → Value → List Sl → Prop) (Pz : γ → Value → Str → RR → List Sl → Prop) : Sp := fun vs H Q E => ∃ g Hb hs, P g ∧ At (pre g) Hb H (vs.map some) hs ∧
  (∀ y v H' Hb' hs', Po g y → Step Hb H hs Hb' H' hs' → At (outs g y ++ [res g y]) Hb' H' (vs.map some ++ [some v]) hs' → Q v H') ∧
  (∀ cls Γx H' Hb' hs', Px g cls Γx → Step Hb H hs Hb' H' hs' → At Γx Hb' H' (vs.map some) hs' → E cls none H') ∧
  ∀ cls nm R Γx d y H' Hb' hs', Pz g cls nm R Γx → Step Hb H hs Hb' H' hs' → At Γx Hb' H' (vs.map some) hs' → R.p y Hb' → Hb' d = some (.xd [(nm, y)]) → E cls (some d) H'
def RtZ {δ : Type} (Po : δ → Prop) (outs : δ → List Sl) (res : δ → Sl) (Px : Value → List Sl → Prop) (Pz : Value → Str → RR → List Sl → Prop) (vs : List V) : Rtn :=
  ⟨(RtY Po outs res Px vs).r, fun cls d H' Hb' hs' => (RtY Po outs res Px vs).x cls d H' Hb' hs' ∨ ∃ nm R Γx dd y, d = some dd ∧ Pz cls nm R Γx ∧ At Γx Hb' H' (vs.map some) hs' ∧ R.p y Hb' ∧ Hb' dd = some (.xd [(nm, y)])⟩
section
variable {δf : Type} {X : Cx} {Γ : List Sl} {N : List Sl → Prop} {rest : List Stmt} {PoF : δf → Prop} {outs : δf → List Sl} {res : δf → Sl} {PxF : Value → List Sl → Prop} {PzF : Value → Str → RR → List Sl → Prop} {vs : List V}
theorem xout_Z {cls : Value} {nm : Str} {R : RR} {Γx Γo : List Sl} (h : PzF cls nm R Γo) (k : Keeps Γx Γo vs) : XOutO (RtZ PoF outs res PxF PzF vs) cls nm R Γx := fun H' Hb' σ' hs' d y A ry ed => by
  have z := res_atK (s := .u) (v := .non) (h := no) A k (fun _ _ e => nomatch e) (fun _ _ e => nomatch e) trivial
  refine ⟨kpN Γo hs' vs.length no, .inr ⟨nm, R, Γo, d, y, rfl, h, ?_, ry, ed⟩, fun a c => ?_⟩
  · have z' : At (Γo ++ [.u]) Hb' H' (vs.map some ++ [some .non]) _ := z
    have ln := k.get.1
    refine ⟨by rw [List.length_map]; exact ln.symm, z'.same, z'.sub, z'.off, z'.dis, fun i s e => ?_⟩
    have := z'.sl i s (by rw [List.getElem?_append_left (lt_of_get e)]; exact e)
    rwa [List.getElem?_append_left (by rw [List.length_map, ← ln]; exact lt_of_get e)] at this
  · rcases cl_kpN c with c | ⟨o, c⟩
    · exact c
    · cases c
end
section
variable {γ δ : Type} {P : Program} {w : World} {K : PySem.W.Frag} {mg : Str → Option Value} {base : Heap} {x qual : Str} {st : Stmt} {N ps : List Str} {k : Nat} {Pc : γ → Prop} {pre : γ → List Sl} {Po : γ → δ → Prop} {outs : γ → δ → List Sl} {res : γ → δ → Sl} {Px : γ → Value → List Sl → Prop} {Pz : γ → Value → Str → RR → List Sl → Prop}
theorem fnZ {f : Addr} {fd : FuncData} (F : Fun K x qual st f fd) (S : FnScope N ps (defScope st)) (hl : ∀ g, (pre g).length = ps.length)
    (body : ∀ (g : γ) (vs : List V) (cdv : Value) (A : Around) (outer : List Env) (s : Shared) (H : Hp) (E : XK), Room k (A.deeper (envOfC qual (defScope st) s.heap.objs.size f cdv)) → vs.length = ps.length → (∀ (i : Nat) (w : V) (φ : OO), (pre g)[i]? = some (Sl.o w φ) → vs[i]? = some w) → Pc g →
      GS (BY P w K mg base N qual (defScope st) f cdv A outer s H E) (pre g ++ List.replicate (N.length - ps.length) .u) (defBody st) (EndsN (Po g) (outs g) (res g) vs) (RtZ (Po g) (outs g) (res g) (Px g) (Pz g) vs)) : FnOk P w K mg base (L2.CX P w) (k + 1) f fd ps (FZ Pc pre Po outs res Px Pz) := by
  refine F.okX S (fun vs H Q E h => ?_) (fun cdv A outer s H vs Q E hr h => ?_)
  · obtain ⟨g, Hb, hs, _, A, _⟩ := h
    have := A.len
    rw [List.length_map, hl g] at this
    exact this
  · obtain ⟨g, Hb, hs, hP, A0, q, qx, qz⟩ := h
    have hvl : vs.length = ps.length := by
      have := A0.len
      rw [List.length_map, hl g] at this
      exact this
    have tk : Takes (BY P w K mg base N qual (defScope st) f cdv A outer s H E) (fun cls d _ H => E cls d H) := takes_of rfl rfl rfl rfl
    refine ⟨_, pss_sem, (body g vs cdv A outer s H E hr hvl (fun i w φ e => ?_) hP).run (L2.start N vs) H Hb hs _ ?_ (fun Γ' σ' H' Hb' hs' n t A' => ?_) (fun v H' Hb' hs' t rt => ?_) _ tk (fun cls d σ' H' Hb' hs' t x => ?_)⟩
    · obtain ⟨e1, _⟩ := A0.sl i _ e
      rw [List.getElem?_map] at e1
      cases q : vs[i]? with
      | none => rw [q] at e1; cases e1
      | some u => rw [q] at e1; cases e1; rfl
    · refine ⟨by unfold L2.start; rw [List.length_append, List.length_append, List.length_map, List.length_replicate, List.length_replicate, hl g, hvl], A0.same, A0.sub, A0.off, A0.dis, fun i s e => ?_⟩
      by_cases z : i < ps.length
      · rw [List.getElem?_append_left (by rw [hl g]; exact z)] at e
        unfold L2.start
        rw [List.getElem?_append_left (by rw [List.length_map, hvl]; exact z)]
        exact A0.sl i s e
      · rw [List.getElem?_append_right (by rw [hl g]; omega)] at e
        rw [rep_get e]; trivial
    · obtain ⟨y, py, ry, ky⟩ := n
      have z := res_atK (s := .r isN) (v := .non) (h := no) A' ky (fun _ _ e => nomatch e) (fun _ _ e => nomatch e) ⟨_, rfl, rfl⟩
      refine q y .non H' Hb' _ py ⟨t.b, t.k, fun a c => ?_⟩ (by rw [ry]; exact z)
      rcases cl_kpN c with c | ⟨o, c⟩
      · exact t.c a c
      · cases c
    · obtain ⟨y, py, z⟩ := rt
      exact q y v H' Hb' hs' py t z
    · rcases x with ⟨rfl, Γx, px, z⟩ | ⟨nm, R, Γx, dd, y, rfl, pz, z, ry, ed⟩
      · exact qx cls Γx H' Hb' hs' px t z
      · exact qz cls nm R Γx dd y H' Hb' hs' pz t z ry ed
theorem has_okZ (D : Dfn K mg x st ps) (S : FnScope N ps (defScope st)) (hl : ∀ g, (pre g).length = ps.length)
    (body : ∀ (g : γ) (vs : List V) (f : Addr) (cdv : Value) (A : Around) (outer : List Env) (s : Shared) (H : Hp) (E : XK), Room k (A.deeper (envOfC x (defScope st) s.heap.objs.size f cdv)) → vs.length = ps.length → (∀ (i : Nat) (w : V) (φ : OO), (pre g)[i]? = some (Sl.o w φ) → vs[i]? = some w) → Pc g →
      GS (BY P w K mg base N x (defScope st) f cdv A outer s H E) (pre g ++ List.replicate (N.length - ps.length) .u) (defBody st) (EndsN (Po g) (outs g) (res g) vs) (RtZ (Po g) (outs g) (res g) (Px g) (Pz g) vs)) : HasX P w K mg base (k + 1) x ps (FZ Pc pre Po outs res Px Pz) := by
  obtain ⟨f, fd, a, b, c⟩ := D.ex
  exact ⟨f, fd, a, fnZ b S hl fun g vs cdv A outer s H E => body g vs f cdv A outer s H E, b.kp, c⟩
end
structure GXZ {δ : Type} (X : Cx) (Γ : List Sl) (e : Expr) (Po : δ → Prop) (Γ' : δ → List Sl) (s : δ → Sl) (Px : Value → List Sl → Prop) (Pz : Value → Str → RR → List Sl → Prop) : Prop where
  run : ∀ (σ : L2.St) (H Hb : Hp) (hs : Nat → Hp) (Q : VK) (W : WX), At Γ Hb H σ hs → Takes X W →
    (∀ y v H' Hb' hs' h, Po y → Step Hb H hs Hb' H' hs' → At (Γ' y) Hb' H' σ hs' → SlAt (s y) (some (some v)) Hb' h → Same h H' → Frs Hb H hs Hb' hs' h → Q v H') →
    (∀ cls Γx H' Hb' hs', Px cls Γx → Step Hb H hs Hb' H' hs' → At Γx Hb' H' σ hs' → W cls none σ H') →
    (∀ cls nm R Γx d y H' Hb' hs', Pz cls nm R Γx → Step Hb H hs Hb' H' hs' → At Γx Hb' H' σ hs' → R.p y Hb' → Hb' d = some (.xd [(nm, y)]) → W cls (some d) σ H') → WE X e σ H Q
section
variable {γ δ : Type} {X : Cx} {Γ : List Sl} {e : Expr} {es : List Expr} {rs : List RR} {ks : List AK} {pos p : Pos} {P : γ → Prop} {pre : γ → List Sl} {Po : γ → δ → Prop} {outs : γ → δ → List Sl} {res : γ → δ → Sl} {Px : γ → Value → List Sl → Prop} {Pz : γ → Value → Str → RR → List Sl → Prop} {k : Nat} {x : Str} {ps : List Str}
abbrev exBackZ (Γ : List Sl) (ks : List AK) (Pz : Value → Str → RR → List Sl → Prop) : Value → Str → RR → List Sl → Prop := fun cls nm R Γx => ∃ Γc, Pz cls nm R Γc ∧ Γx = upOuts Γ ks Γc
/-- f(e, ..) -/
theorem gz_callP (g : γ) (F : HasX X.prog X.w X.K X.mg X.base k x ps (FZ P pre Po outs res Px Pz)) (hr : Room k X.A) (hP : P g) (ha : GA X Γ (e :: es) (rs.map .r)) (hd : HandP Γ rs ks (pre g)) (oo : OutsP ks Po outs Px g) (oz : ∀ cls nm R Γc, Pz g cls nm R Γc → Γc.length = ks.length) (hg : Gl X x := by rfl)
    (hdb : (x == ("__debug__" : Str)) = false := by decide) (he : starEach (e :: es) X.env = (false, eval e X.env) :: starEach es X.env := by rfl) (hpl : (backTo pos (starEach es X.env)).any (·.1) = false := by rfl) :
    GXZ X Γ (.Call (.Name x p) (e :: es) [] pos) (Po g) (fun y => upOuts Γ ks (outs g y)) (res g) (exBackP Γ ks (Px g)) (exBackZ Γ ks (Pz g)) := .mk fun σ H Hb hs Q W A tk q qx qz => by
  obtain ⟨f, fd, h1, h2, h3, h4⟩ := F.ex
  refine we_of (pe_callS h2 hr hg h1 h3 h4 (fun σ => passAt tk σ) pa_sem hdb he hpl) (ha.run σ H Hb hs _ A fun vs H1 Hb1 hs1 s1 A1 r1 => ?_)
  have r1 := aks_all r1
  have kk := hd.al.at_ A1 r1
  refine ⟨g, Hb1, _, hP, by rw [hd.pre]; exact A1.call hd.nd kk, fun y v H2 Hb2 hs2 py s2 A3 => ?_, fun cls Γc H2 Hb2 hs2 px s2 A3 => ?_, fun cls nm R Γc d y H2 Hb2 hs2 pz s2 A3 ry ed => ?_⟩
  · obtain ⟨A4, s3, r3, z3, f3⟩ := A1.ret hd.nd kk (oo.len y py) s2 A3
    have st := A1.trans s1 s3
    refine q y v H2 Hb2 _ _ py st A4 r3 z3 fun a o e => ?_
    obtain ⟨f1, f2, f4⟩ := f3 a o e
    refine ⟨f1, f2, ?_⟩
    rcases f4 with c | c
    · rcases s1.c a c with c | c
      · exact .inl c
      · exact .inr c
    · cases q : H a with
      | none => exact .inr rfl
      | some u =>
        by_cases n : ∀ i, hs i a = none
        · rw [s1.k a u q n] at c; cases c
        · obtain ⟨i, hi⟩ := Classical.not_forall.mp n
          cases z : hs i a with
          | none => exact absurd z hi
          | some t => exact .inl (.inr ⟨i, t, z⟩)
  · have A3' : At (Γc ++ [.u]) Hb2 H2 (vs.map some ++ [some V.non]) hs2 := by
      refine ⟨?_, A3.same, A3.sub, A3.off, A3.dis, fun i s e => ?_⟩
      · have := A3.len
        rw [List.length_append, List.length_append, this]; rfl
      · by_cases z : i < Γc.length
        · rw [List.getElem?_append_left z] at e
          have l2 := A3.len
          rw [List.getElem?_append_left (by rw [l2]; exact z)]
          exact A3.sl i s e
        · rw [List.getElem?_append_right (by omega)] at e
          have : s = .u := by
            cases q : i - Γc.length with
            | zero => rw [q] at e; exact (Option.some.inj e).symm
            | succ n => rw [q] at e; simp at e
          subst this
          trivial
    obtain ⟨A4, s3, _, _⟩ := A1.ret hd.nd kk (oo.lenX cls Γc px) s2 A3'
    exact qx cls _ H2 Hb2 _ ⟨Γc, px, rfl⟩ (A1.trans s1 s3) A4
  · have A3' : At (Γc ++ [.u]) Hb2 H2 (vs.map some ++ [some V.non]) hs2 := by
      refine ⟨?_, A3.same, A3.sub, A3.off, A3.dis, fun i s e => ?_⟩
      · have := A3.len
        rw [List.length_append, List.length_append, this]; rfl
      · by_cases z : i < Γc.length
        · rw [List.getElem?_append_left z] at e
          have l2 := A3.len
          rw [List.getElem?_append_left (by rw [l2]; exact z)]
          exact A3.sl i s e
        · rw [List.getElem?_append_right (by omega)] at e
          have : s = .u := by
            cases q : i - Γc.length with
            | zero => rw [q] at e; exact (Option.some.inj e).symm
            | succ n => rw [q] at e; simp at e
          subst this
          trivial
    obtain ⟨A4, s3, _, _⟩ := A1.ret hd.nd kk (oz cls nm R Γc pz) s2 A3'
    exact qz cls nm R _ d y H2 Hb2 _ ⟨Γc, pz, rfl⟩ (A1.trans s1 s3) A4 ry ed
end
end G
namespace G
open PySem PySem.Spec PyProof.Rows L2
/-- the exception caught, its dict at d with one field -/
def exnR (a d : Addr) (nm : Str) (R : RR) : RR := ⟨fun v H => v = .ref a ∧ ∃ y, R.p y H ∧ H d = some (.xd [(nm, y)]), fun s h => by
  obtain ⟨h1, y, h2, h3⟩ := h
  exact ⟨h1, y, R.mono s h2, s _ _ h3⟩⟩
theorem At.slotn {Γ : List Sl} {Hb H : Hp} {σ : L2.St} {hs : Nat → Hp} (A : At Γ Hb H σ hs) (j : Nat) : At (Γ.set j .u) Hb H (σ.set j none) hs := by
  refine ⟨by rw [List.length_set, List.length_set, A.len], A.same, A.sub, A.off, A.dis, fun i s q => ?_⟩
  by_cases z : j = i
  · subst z
    have hl : j < Γ.length := by have := lt_of_get q; rwa [List.length_set] at this
    rw [List.getElem?_set_self hl] at q
    cases q; trivial
  · rw [List.getElem?_set_ne z] at q ⊢; exact A.sl i s q
structure GBZ (X : Cx) (Γ : List Sl) (sts : List Stmt) (N : List Sl → Prop) (Rr : V → Hp → Hp → (Nat → Hp) → Prop) (Px : Value → List Sl → Prop) (Pz : Value → Str → RR → List Sl → Prop) : Prop where
  run : ∀ (σ : L2.St) (H Hb : Hp) (hs : Nat → Hp) (D : Ends), At Γ Hb H σ hs → (∀ Γ' σ' H' Hb' hs', N Γ' → Step Hb H hs Hb' H' hs' → At Γ' Hb' H' σ' hs' → D.nx σ' H') →
    (∀ v H' Hb' hs', Step Hb H hs Hb' H' hs' → Rr v H' Hb' hs' → D.rt v H') → ∀ W, Takes X W → (∀ cls Γx σ' H' Hb' hs', Px cls Γx → Step Hb H hs Hb' H' hs' → At Γx Hb' H' σ' hs' → W cls none σ' H') →
    (∀ cls nm R Γx d y σ' H' Hb' hs', Pz cls nm R Γx → Step Hb H hs Hb' H' hs' → At Γx Hb' H' σ' hs' → R.p y Hb' → Hb' d = some (.xd [(nm, y)]) → W cls (some d) σ' H') → WSs X sts D σ H
section
variable {δ : Type} {X : Cx} {Γ : List Sl} {e : Expr} {pos pos' : Pos} {rest s1 : List Stmt} {N N1 : List Sl → Prop} {Rr : V → Hp → Hp → (Nat → Hp) → Prop} {Px : Value → List Sl → Prop} {Pz : Value → Str → RR → List Sl → Prop} {Po : δ → Prop} {Γ' : δ → List Sl} {s : δ → Sl} {Rt : Rtn}
/-- x = e, e may raise; then what raises nothing -/
theorem gbz_set {x : Str} (i : Nat) (he : GXZ X Γ e Po Γ' s Px Pz) (hr : ∀ y w, Po y → GS X ((Γ' y).set i (ofS w (s y))) rest N ⟨Rr, fun _ _ _ _ _ => False⟩) (hN : X.N.Nodup) (hs0 : ∀ y w φ, s y ≠ .o w φ := by intro _ _ _; exact fun h => nomatch h) (hi : X.N[i]? = some x := by rfl) (hx : Loc X.env.scope x := by first | exact Or.inl rfl | exact Or.inr rfl) (hw : swapsWith e (some (.Name x pos')) pos.line X.env = pure false := by rfl)
    (hf : X.fn x = true ∨ X.env.scope.names.lookup x = some .local := by first | exact .inl rfl | exact .inr rfl) : GBZ X Γ (.Assign [.Name x pos'] e pos :: rest) N Rr Px Pz := .mk fun σ H Hb hs D A q r W tk xc xz => by
  refine wss_of (pss_cons (ps_set hN hi hx pe_sem hw hf) pss_sem) (he.run σ H Hb hs _ W A tk (fun y v H1 Hb1 hs1 h1 py s1 A1 r1 z1 f1 => ?_) (fun cls Γx H1 Hb1 hs1 px s1 A1 => xc cls Γx σ H1 Hb1 hs1 px s1 A1) (fun cls nm R Γx d y H1 Hb1 hs1 pz s1 A1 ry ed => xz cls nm R Γx d y σ H1 Hb1 hs1 pz s1 A1 ry ed))
  obtain ⟨hs2, A2, c2⟩ := A1.setS i r1 z1 (fun a o e => ⟨(f1 a o e).1, (f1 a o e).2.1⟩) (hs0 y)
  have st : Step Hb H hs Hb1 H1 hs2 := ⟨s1.b, s1.k, fun a c => by
    rcases c2 a c with c | ⟨o, c⟩
    · exact s1.c a c
    · exact (f1 a o c).2.2⟩
  exact ws_go (hr y v py) A2 st q r tk (fun _ _ _ _ _ _ _ z => z.elim)
/-- try: .. except C as n: .. -/
theorem gs_tryAs {x n : Str} {C : Addr} {b₀ : Stmt} {suite : List Stmt} {np pos2 tpos : Pos} (i : Nat) (f : Value → Bool) (hb : ∀ pn xe, PassesOwn (model X.prog X.w) X.A X.env xe → GBZ (X.tr pn xe) Γ s1 N1 Rt.r Px Pz) (hc : Names X x (.ref C))
    (hfx : ∀ cls Γx, Px cls Γx → PySem.W.exmOne X.K cls (.ref C) = some (f cls)) (hfz : ∀ cls nm R Γx, Pz cls nm R Γx → PySem.W.exmOne X.K cls (.ref C) = some (f cls))
    (hsx : ∀ cls Γx, Px cls Γx → f cls = true → ∀ a oe pn, Zc cls none oe → (∃ vs, oe.data = .fields vs) → GS (X.suite a ((a, oe) :: pn)) (Γx.set i (.r (isV (.ref a)))) (b₀ :: suite) (fun Γ' => N1 (Γ'.set i .u)) ⟨Rt.r, fun _ _ _ _ _ => False⟩)
    (hsz : ∀ cls nm R Γx, Pz cls nm R Γx → f cls = true → ∀ a oe pn d, Zc cls (some d) oe → (∃ vs, oe.data = .fields vs) → GS (X.suite a ((a, oe) :: pn)) (Γx.set i (.r (exnR a d nm R))) (b₀ :: suite) (fun Γ' => N1 (Γ'.set i .u)) ⟨Rt.r, fun _ _ _ _ _ => False⟩)
    (hox : ∀ cls Γx, Px cls Γx → f cls = false → XOut Rt cls Γx) (hoz : ∀ cls nm R Γx, Pz cls nm R Γx → f cls = false → XOutO Rt cls nm R Γx)
    (hr : ∀ Γ', N1 Γ' → GS X Γ' rest N Rt) (hN : X.N.Nodup) (hi : X.N[i]? = some n := by rfl) (hln : X.env.kindOf n = some .local := by rfl) (hst : X.stack = X.env :: X.outer := by rfl) (hf : X.env.frame = some X.env.locals := by rfl) :
    GS X Γ (.Try s1 [.ExceptHandler (some (.Name x np)) (some n) (b₀ :: suite) pos2] [] [] tpos :: rest) N Rt := .mk fun σ H Hb hs D A q r W tk xc => by
  refine wss_of (pss_cons (ps_try_as (i := i) (tb := fun W D σ H => ∀ pn xe, Takes (X.tr pn xe) W → PassesOwn (model X.prog X.w) X.A X.env xe → WSs (X.tr pn xe) s1 D σ H) (ts := fun a cls d D σ H => ∀ oe pn, Zc cls d oe → (∃ vs, oe.data = .fields vs) → WSs (X.suite a ((a, oe) :: pn)) (b₀ :: suite) D σ H) hst hf hN hi hln hc tk (fun W pn xe tk po => ⟨fun pins s σ H D I h => h pn xe tk po pins s I⟩) (fun a oe cls d pn z v => ⟨fun pins s σ H D I h => h oe pn z v pins s I⟩)) pss_sem) ?_
  intro pn xe tk1 po
  have go : ∀ Γ2 σ2 H2 Hb2 hs2, N1 Γ2 → Step Hb H hs Hb2 H2 hs2 → At Γ2 Hb2 H2 σ2 hs2 → WSs X rest D σ2 H2 := fun Γ2 σ2 H2 Hb2 hs2 n2 s2 A2 => ws_go (hr Γ2 n2) A2 s2 q r tk xc
  refine (hb pn xe po).run σ H Hb hs { D with nx := WSs X rest D } A go r _ tk1 (fun cls Γx σ' H' Hb' hs' px st A' => ?_) (fun cls nm R Γx d y σ' H' Hb' hs' pz st A' ry ed => ?_)
  · refine ⟨f cls, hfx cls Γx px, fun z a na oe pn2 zc zf => ?_, fun z => ?_⟩
    · have A2 := A'.set (i := i) (R := isV (.ref a)) (v := .ref a) rfl
      exact (hsx cls Γx px z a oe pn2 zc zf).run _ H' Hb' hs' _ A2 (fun Γ2 σ2 H2 Hb2 hs2 n2 s2 A3 => go _ _ H2 Hb2 hs2 n2 (A'.trans st s2) (A3.slotn i)) (fun v H2 Hb2 hs2 s2 r2 => r v H2 Hb2 hs2 (A'.trans st s2) r2) (fun _ _ _ _ => False) takes0 (fun _ _ _ _ _ _ _ z => z.elim)
    · obtain ⟨hs2, g1, g2⟩ := hox cls Γx px z H' Hb' σ' hs' A'
      exact xc cls none σ' H' Hb' hs2 ⟨st.b, st.k, fun a c => st.c a (g2 a c)⟩ g1
  · refine ⟨f cls, hfz cls nm R Γx pz, fun z a na oe pn2 zc zf => ?_, fun z => ?_⟩
    · have A2 := A'.set (i := i) (R := exnR a d nm R) (v := .ref a) ⟨rfl, y, ry, ed⟩
      exact (hsz cls nm R Γx pz z a oe pn2 d zc zf).run _ H' Hb' hs' _ A2 (fun Γ2 σ2 H2 Hb2 hs2 n2 s2 A3 => go _ _ H2 Hb2 hs2 n2 (A'.trans st s2) (A3.slotn i)) (fun v H2 Hb2 hs2 s2 r2 => r v H2 Hb2 hs2 (A'.trans st s2) r2) (fun _ _ _ _ => False) takes0 (fun _ _ _ _ _ _ _ z => z.elim)
    · obtain ⟨hs2, g1, g2⟩ := hoz cls nm R Γx pz z H' Hb' σ' hs' d y A' ry ed
      exact xc cls (some d) σ' H' Hb' hs2 ⟨st.b, st.k, fun a c => st.c a (g2 a c)⟩ g1
/-- e.f of the exception caught -/
theorem ge_xf {C a d : Addr} {oe : Obj} {pn : List (Addr × Obj)} {n nm : Str} {R : RR} {p : Pos} (i : Nat) (T : XfC X.K C) (hno : PySem.W.findIn X.K (.ref C) nm = some none) (hz : Zc (.ref C) (some d) oe) (hv : ∃ vs, oe.data = .fields vs) (hΓ : Γ[i]? = some (.r (exnR a d nm R)) := by rfl) (hN : X.N[i]? = some n := by rfl) (hvis : Vis X.env.scope n := by first | exact Or.inl rfl | exact Or.inr (Or.inl rfl) | exact Or.inr (Or.inr rfl))
    (hb : attributeBase (.Name n p) nm X.env (eval (.Name n p) X.env) = eval (.Name n p) X.env := by rfl) (hd : (n == ("__debug__" : Str)) = false := by decide) (hcd : (n == ("__classdict__" : Str)) = false := by decide) : GE (X.suite a ((a, oe) :: pn)) Γ (.Attribute (.Name n p) nm pos) R := .mk fun σ H Hb hs Q A q => by
  obtain ⟨v, e1, e2, y, ry, ed⟩ := A.sl i _ hΓ
  refine we_of (pe_xf T hno hz hv (pe_var (X := X.suite a ((a, oe) :: pn)) hN hvis hd hcd) hb) ?_
  refine ⟨v, e1, e2, rfl, d, [(nm, y)], y, rfl, A.same _ _ ed, by simp [List.lookup], ?_⟩
  exact q y H Hb hs (Step.refl) A ry
end
end G
namespace G
open PySem PySem.Spec PyProof.Rows L2
def keysB (K : PySem.W.Frag) (a : Addr) (ks : List Str) : Bool := match K.lookup a with
  | some ⟨_, _, .dict es _, _⟩ => es.toList.all fun e => ks.any (fun k => e.key.isStr k) && !e.refKey
  | _ => false
theorem isStr_inj {v : Value} {a b : Str} (h1 : v.isStr a = true) (h2 : v.isStr b = true) : a = b := by
  cases v with
  | str s t =>
    have e1 : (s == a) = true := h1
    have e2 : (s == b) = true := h2
    exact (eq_of_beq e1).symm.trans (eq_of_beq e2)
  | _ => cases h1
theorem keysB_none {K : PySem.W.Frag} {a : Addr} {ks : List Str} (h : keysB K a ks = true) {z : Str} (hz : z ∉ ks) : PySem.W.nsIn K a z = some none := by
  unfold keysB at h
  unfold PySem.W.nsIn
  split at h
  · rename_i es n _ e
    rw [e]
    have hall := List.all_eq_true.mp h
    have f : es.toList.find? (·.key.isStr z) = none := by
      rw [List.find?_eq_none]
      intro x hx q
      have := hall x hx
      rw [Bool.and_eq_true, List.any_eq_true] at this
      obtain ⟨⟨k, hk, q2⟩, _⟩ := this
      exact hz (isStr_inj q q2 ▸ hk)
    have g : es.toList.any (·.refKey) = false := by
      rw [List.any_eq_false]
      intro x hx q
      have := hall x hx
      rw [Bool.and_eq_true] at this
      rw [q] at this
      exact absurd this.2 (by decide)
    show (match es.toList.find? (·.key.isStr z) with | some e => some (some e.val) | none => if es.toList.any (·.refKey) = true then none else some none) = _
    rw [f, g]; rfl
  · cases h
section
variable {X : Cx} {Γ : List Sl} {a : Expr} {pos p : Pos}
theorem gt_notInTabN {x z : Str} {kvs : List (Str × List Str)} (T : CTabT X.K X.w X.mg x kvs) (Tk : keysB X.K (He.ga X.K x) (kvs.map (·.1)) = true) (ha : GE X Γ a (isS z)) (hm : z ∉ kvs.map (·.1)) (hg : Gl X x := by rfl) (hd : (x == ("__debug__" : Str)) = false := by decide) (hmk : behindInMarks .NotIn (.Name x p) = false := by rfl) : GT X Γ (.Compare a [.NotIn] [.Name x p] pos) (· = true) := by
  obtain ⟨es, n, D⟩ := T.d
  have e := keysB_none Tk hm
  exact gt_cmp (op_notIn_kd D) ha (ge_glob (R := isV (.ref (He.ga X.K x))) hg T.g (v := .ref (He.ga X.K x)) rfl (fun _ => rfl) hd) (fun v w Hb H Q _ h1 h2 q => by cases h1; cases h2; exact ⟨z, none, rfl, rfl, e, q _ rfl⟩) hmk
end
end G
namespace G
open PySem PySem.Spec PyProof.Rows L2
def repS (z : Str) (n : Nat) : Str := ⟨(List.replicate n z.cps.toList).flatten.toArray⟩
theorem rep_fold (z : List Nat) : ∀ (n : Nat) (a : List Nat), (List.replicate n z.toArray).foldl (· ++ ·) a.toArray = (a ++ (List.replicate n z).flatten).toArray
  | 0, a => by simp
  | n + 1, a => by
    rw [List.replicate_succ, List.replicate_succ, List.foldl_cons, List.append_toArray, rep_fold z n, List.flatten_cons, List.append_assoc]
theorem repS_fold (z : Str) (n : Nat) : (⟨(List.replicate n z.cps).foldl (· ++ ·) #[]⟩ : Str) = repS z n := by
  have := rep_fold z.cps.toList n []
  rw [List.nil_append] at this
  exact congrArg Str.mk this
theorem repS_one (z : Str) : repS z 1 = z := by
  unfold repS
  rw [List.replicate_one, List.flatten_cons, List.flatten_nil, List.append_nil]
theorem repS_len (z : Str) (n : Nat) : (repS z n).length = n * z.length := by
  rw [tx_len]
  show ((List.replicate n z.cps.toList).flatten.toArray.toList).length = _
  rw [List.toList_toArray, List.length_flatten, List.map_replicate, List.sum_replicate_nat, tx_len]
  rfl
theorem op_repS {X : Cx} : OpR X (binaryOp .Mult) (fun x y H Q => ∃ z n, x = .str z ∧ y = .int n ∧ 1 ≤ n ∧ n ≤ 1000 ∧ z.length ≤ 1000 ∧ Q (.str (repS z n.toNat)) H) := by
  intro pins s σ H x y v u Q I rx ry h
  obtain ⟨z, n, rfl, rfl, h1, h2, hz, q⟩ := h
  obtain ⟨t, rfl⟩ := rx
  obtain ⟨t', rfl⟩ := ry
  have hm : z.length * n.toNat ≤ 1000000 := by
    have := Nat.mul_le_mul hz (show n.toNat ≤ 1000 by omega)
    omega
  refine PySem.P.mul_str ?_ (fun _ _ hh => ?_) (fun _ _ => ?_) ?_
  · rw [decide_eq_false (show ¬ n < -(2 ^ 63 : Int) by omega), decide_eq_false (show ¬ n ≥ 2 ^ 63 by omega)]; rfl
  · have hd : (2 ^ 63 - 1 : Int) / n ≥ 1000000 := by
      rw [ge_iff_le, Int.le_ediv_iff_mul_le (by omega)]
      omega
    omega
  · unfold Builtin.Str.tooLong
    have : (1000000 : Nat) ≤ sizeLine := by decide
    exact decide_eq_false (by omega)
  · rw [if_neg (by omega)]
    by_cases e : (n == 1 || z.length == 0) = true
    · rw [if_pos e]
      have ez : repS z n.toNat = z := by
        rcases Bool.or_eq_true_iff.mp e with e | e
        · have : n = 1 := eq_of_beq e
          subst this
          exact repS_one z
        · have l0 : z.length = 0 := eq_of_beq e
          have : z.cps = #[] := Array.eq_empty_of_size_eq_zero l0
          cases z with
          | mk c =>
            cases this
            unfold repS
            congr 1
            simp
      exact ⟨.str (repS z n.toNat), H, I, by rw [ez]; exact ⟨_, rfl⟩, q⟩
    · rw [if_neg e, repS_fold]
      have hle : (repS z n.toNat).length ≤ sizeLine := by
        rw [repS_len, Nat.mul_comm]
        exact Nat.le_trans hm (by decide)
      exact ⟨hle, .str (repS z n.toNat), H, I.tok _, ⟨_, rfl⟩, q⟩
section
variable {X : Cx} {Γ : List Sl} {a b : Expr} {pos : Pos} {P Z : Str → Prop} {Q : Int → Prop}
theorem ge_repSx (ha : GE X Γ a (exR P isS)) (hb : GE X Γ b (exR Q isInt)) (h : ∀ x n, P x → Q n → 1 ≤ n ∧ n ≤ 1000 ∧ x.length ≤ 1000 ∧ Z (repS x n.toNat)) : GE X Γ (.BinOp a .Mult b pos) (exR Z isS) :=
  ge_op op_repS ha hb (rv_exl fun x px => rv_exr fun n qn => fun v w Hb H Q _ h1 h2 q => by
    cases h1; cases h2
    obtain ⟨i1, i2, i3, i4⟩ := h x n px qn
    exact ⟨x, n, rfl, rfl, i1, i2, i3, q _ ⟨_, i4, rfl⟩⟩)
end
end G
namespace M
abbrev Q := Int × Int
/-- a part as it is written -/
def IsP (q : Q) : Prop := 0 < q.2 ∧ Int.gcd q.1 q.2 = 1
instance (q : Q) : Decidable (IsP q) := inferInstanceAs (Decidable (_ ∧ _))
/-- the same value -/
def Eqv (q r : Q) : Prop := q.1 * r.2 = r.1 * q.2
theorem Eqv.trans {q r s : Q} (hr : r.2 ≠ 0) (h : Eqv q r) (h' : Eqv r s) : Eqv q s := by
  unfold Eqv at *
  refine Int.eq_of_mul_eq_mul_right hr ?_
  calc q.1 * s.2 * r.2 = (q.1 * r.2) * s.2 := by rw [Int.mul_right_comm]
    _ = (r.1 * q.2) * s.2 := by rw [h]
    _ = (r.1 * s.2) * q.2 := by rw [Int.mul_right_comm]
    _ = (s.1 * r.2) * q.2 := by rw [h']
    _ = s.1 * q.2 * r.2 := by rw [Int.mul_right_comm]
theorem Eqv.symm {q r : Q} (h : Eqv q r) : Eqv r q := Eq.symm h
/-- sizes -/
def Sm (b : Nat) (q : Q) : Prop := q.1.natAbs < 2 ^ b ∧ q.2.natAbs < 2 ^ b ∧ 0 < q.2
theorem small_of {n : Int} {k : Nat} (B : Nat) (h : n.natAbs ≤ B) (hb : B < 2 ^ k := by decide) : n.natAbs < 2 ^ k := Nat.lt_of_le_of_lt h hb
/-- the size that parts have here -/
@[irreducible] def bB : Nat := 4400
theorem Sm.mono {a b : Nat} {q : Q} (h : Sm a q) (l : a ≤ b) : Sm b q :=
  ⟨Nat.lt_of_lt_of_le h.1 (Nat.pow_le_pow_right (by decide) l), Nat.lt_of_lt_of_le h.2.1 (Nat.pow_le_pow_right (by decide) l), h.2.2⟩
end M
namespace M
def ofR (r : Rat) : Q := (r.num, (r.den : Int))
def val (q : Q) : Rat := (q.1 : Rat) / (q.2 : Rat)
theorem num_div (r : Rat) : (r.num : Rat) / ((r.den : Int) : Rat) = r := by rw [← Rat.divInt_eq_div]; exact Rat.num_divInt_den r
theorem num_den (r : Rat) : (r.num : Rat) = r * (r.den : Rat) ∧ (r.den : Rat) ≠ 0 := by
  have h : (r.den : Rat) ≠ 0 := by exact_mod_cast r.den_nz
  have h2 := num_div r
  have h3 : ((r.den : Int) : Rat) = (r.den : Rat) := by norm_cast
  rw [h3] at h2
  refine ⟨?_, h⟩
  grind
def Dn (m : Nat) (r : Rat) : Prop := ∃ k : Int, r * (m : Rat) = (k : Rat)
theorem Dn.add {m : Nat} {a b : Rat} : Dn m a → Dn m b → Dn m (a + b) := fun ⟨i, h⟩ ⟨j, h'⟩ => ⟨i + j, by push_cast; grind⟩
theorem Dn.sub {m : Nat} {a b : Rat} : Dn m a → Dn m b → Dn m (a - b) := fun ⟨i, h⟩ ⟨j, h'⟩ => ⟨i - j, by push_cast; grind⟩
theorem Dn.int {m : Nat} (n : Int) : Dn m (n : Rat) := ⟨n * m, by push_cast; rfl⟩
theorem Dn.sum {m : Nat} : ∀ {l : List Rat}, (∀ x ∈ l, Dn m x) → Dn m l.sum
  | [], _ => by simpa using Dn.int (m := m) 0
  | x :: l, h => by
    rw [List.sum_cons]
    exact (h x (List.mem_cons_self ..)).add (Dn.sum fun y hy => h y (List.mem_cons_of_mem _ hy))
theorem Dn.den {r : Rat} : Dn r.den r := ⟨r.num, (num_den r).1.symm⟩
end M
namespace M
open G
/-- all heaps of so many funds, as the loop lays them -/
def rawH : Nat → List (List Int)
  | 0 => [[]]
  | n + 1 => rawH n ++ (rawH n).map (· ++ [(n : Int)])
theorem rawH_len : ∀ n, (rawH n).length = 2 ^ n
  | 0 => rfl
  | n + 1 => by
    show (rawH n ++ (rawH n).map (· ++ [(n : Int)])).length = _
    rw [List.length_append, List.length_map, rawH_len n, Nat.pow_succ]; omega
theorem rawH_short : ∀ (n : Nat) (h : List Int), h ∈ rawH n → h.length ≤ n
  | 0, h, q => by
    have e : h = [] := by simpa [rawH] using q
    subst e; exact Nat.le_refl _
  | n + 1, h, q => by
    rcases List.mem_append.mp (show h ∈ rawH n ++ (rawH n).map (· ++ [(n : Int)]) from q) with q | q
    · have := rawH_short n h q; omega
    · obtain ⟨g, q2, rfl⟩ := List.mem_map.mp q
      have := rawH_short n g q2
      rw [List.length_append, List.length_singleton]; omega
/-- a heap of so many funds -/
def IsHp (n : Int) (h : List Int) : Prop := h.Pairwise (· < ·) ∧ ∀ x ∈ h, 0 ≤ x ∧ x < n
instance (n : Int) (h : List Int) : Decidable (IsHp n h) := inferInstanceAs (Decidable (_ ∧ _))
theorem mem_rawH : ∀ (n : Nat) (h : List Int), h ∈ rawH n ↔ IsHp n h
  | 0, h => by
    constructor
    · intro q
      have e : h = [] := by simpa [rawH] using q
      subst e
      exact ⟨List.Pairwise.nil, fun _ h => absurd h List.not_mem_nil⟩
    · rintro ⟨_, q⟩
      cases h with
      | nil => simp [rawH]
      | cons x xs =>
        have := q x (.head _)
        omega
  | n + 1, h => by
    show h ∈ rawH n ++ (rawH n).map (· ++ [(n : Int)]) ↔ _
    rw [List.mem_append, List.mem_map]
    constructor
    · rintro (q | ⟨g, q, rfl⟩)
      · obtain ⟨h1, h2⟩ := (mem_rawH n h).mp q
        exact ⟨h1, fun x hx => by have := h2 x hx; omega⟩
      · obtain ⟨h1, h2⟩ := (mem_rawH n g).mp q
        refine ⟨?_, fun x hx => ?_⟩
        · rw [List.pairwise_append]
          refine ⟨h1, List.pairwise_singleton _ _, fun a ha b hb => ?_⟩
          rw [List.mem_singleton.mp hb]
          exact (h2 a ha).2
        · rcases List.mem_append.mp hx with hx | hx
          · have := h2 x hx; omega
          · rw [List.mem_singleton.mp hx]; omega
    · rintro ⟨h1, h2⟩
      by_cases hn : (n : Int) ∈ h
      · right
        -- n is the last one
        rcases List.eq_nil_or_concat h with e | ⟨g, x, e⟩
        · subst e; cases hn
        · subst e
          rw [List.concat_eq_append] at *
          rw [List.pairwise_append] at h1
          obtain ⟨p1, p2, p3⟩ := h1
          have ex : x = (n : Int) := by
            rcases List.mem_append.mp hn with q | q
            · have := p3 _ q x (by simp)
              have := h2 x (by simp)
              omega
            · exact (List.mem_singleton.mp q).symm
          subst ex
          refine ⟨g, (mem_rawH n g).mpr ⟨p1, fun y hy => ?_⟩, rfl⟩
          have := p3 y hy _ (List.mem_singleton.mpr rfl)
          have := h2 y (List.mem_append_left _ hy)
          omega
      · left
        refine (mem_rawH n h).mpr ⟨h1, fun x hx => ?_⟩
        have := h2 x hx
        have : x ≠ (n : Int) := fun e => hn (e ▸ hx)
        omega
/-- all heaps, rising -/
def heapsL (n : Nat) : List (List Int) := srtH (rawH n)
end M
namespace M
/-- a claim: due, touch, rank -/
abbrev Clm := Rat × List Int × Int
def nC : Clm := (0, [], 0)
def due (cs : List Clm) (i : Nat) : Rat := (cs.getD i nC).1
def tch (cs : List Clm) (i : Nat) : List Int := (cs.getD i nC).2.1
def rnk (cs : List Clm) (i : Nat) : Int := (cs.getD i nC).2.2
def liesM (t h : List Int) : Bool := decide (∀ x ∈ t, x ∈ h)
/-- the places of the claims within a heap -/
def wthn (cs : List Clm) (h : List Int) : List Nat := (List.range cs.length).filter fun i => liesM (tch cs i) h
def hw (ws h : List Int) : Int := (h.map fun x => ws.getD x.toNat 0).sum
/-- what a heap has left by the others' parts -/
def room (ws : List Int) (cs : List Clm) (ps : List Rat) (pl : List Nat) (h : List Int) : Rat := (hw ws h : Rat) - (((wthn cs h).filter fun i => !decide (i ∈ pl)).map fun i => ps.getD i 0).sum
/-- the sum of the dues at places within it -/
def need (cs : List Clm) (pl : List Nat) (h : List Int) : Rat := (((wthn cs h).filter fun i => decide (i ∈ pl)).map (due cs)).sum
def fillAt (ws : List Int) (cs : List Clm) (ps : List Rat) (pl : List Nat) (h : List Int) : Rat := room ws cs ps pl h / need cs pl h
/-- heaps with their fills -/
def meas (ws : List Int) (cs : List Clm) (ps : List Rat) (pl : List Nat) : List (List Int × Rat) := ((heapsL ws.length).filter fun h => !decide (need cs pl h = 0)).map fun h => (h, fillAt ws cs ps pl h)
def lmin (a b : Rat) : Rat := if b < a then b else a
def least (hf : List (List Int × Rat)) : Rat := hf.foldl (fun t x => lmin t x.2) 1
def halted (cs : List Clm) (pl : List Nat) (hf : List (List Int × Rat)) (top : Rat) : List Nat := if top = 1 then pl else pl.filter fun i => hf.any fun x => decide (x.2 = top) && liesM (tch cs i) x.1
def DD : Nat := 9690712164777231700912800
/-- room for claims that were parted -/
def DE : Nat := 9690712164777231700912800 * 27720
def dE : Nat := 2 ^ 80
def dB : Nat := 2 ^ 40
def pB : Nat := 2 ^ 81
def wB : Nat := 2 ^ 100
def B44 : Nat := 2 ^ 84
structure CsOk (ws : List Int) (cs : List Clm) : Prop where
  wl : ws.length ≤ 8
  w : ∀ x ∈ ws, x.natAbs ≤ wB
  cl : cs.length ≤ 16
  d : ∀ c ∈ cs, 0 ≤ c.1 ∧ c.1 ≤ (dE : Rat)
  dn : ∀ l : List Nat, (∀ i ∈ l, i < cs.length) → l.Nodup → ∃ D : Nat, 0 < D ∧ D ≤ 2 ^ (99 * l.length) ∧ D ≤ 2 ^ 460 ∧ ∀ i ∈ l, Dn D (due cs i)
  t : ∀ c ∈ cs, c.2.1.length ≤ 8
structure LvOk (m : Nat) (ws : List Int) (cs : List Clm) (ps : List Rat) (pl : List Nat) : Prop extends CsOk ws cs where
  pn : ps.length = cs.length
  p : ∀ x ∈ ps, Dn m x ∧ 0 ≤ x ∧ x ≤ (pB : Rat)
  m0 : 0 < m
  mB : m < 2 ^ 3500
  q : ∀ i ∈ pl, i < cs.length
theorem sum_bd {B : Nat} : ∀ {l : List Rat}, (∀ x ∈ l, 0 ≤ x ∧ x ≤ (B : Rat)) → 0 ≤ l.sum ∧ l.sum ≤ ((B * l.length : Nat) : Rat)
  | [], _ => by constructor <;> simp
  | x :: l, h => by
    have h1 := h x (List.mem_cons_self ..)
    have h2 := sum_bd (B := B) (l := l) fun y hy => h y (List.mem_cons_of_mem _ hy)
    rw [List.sum_cons, List.length_cons, Nat.mul_add]
    push_cast at *
    constructor <;> grind
theorem getD_mem {α : Type} {l : List α} {d : α} {i : Nat} (h : i < l.length) : l.getD i d ∈ l := by
  rw [List.getD_eq_getElem?_getD, List.getElem?_eq_getElem h]; exact List.getElem_mem h
theorem wthn_lt {cs : List Clm} {h : List Int} {i : Nat} (q : i ∈ wthn cs h) : i < cs.length := List.mem_range.mp (List.mem_filter.mp q).1
theorem CsOk.due {ws : List Int} {cs : List Clm} (o : CsOk ws cs) {i : Nat} (h : i < cs.length) : (∃ D : Nat, 0 < D ∧ D ≤ 2 ^ 99 ∧ Dn D (due cs i)) ∧ 0 ≤ M.due cs i ∧ M.due cs i ≤ (dE : Rat) := by
  obtain ⟨D, h1, h2, _, h3⟩ := o.dn [i] (fun j hj => by rw [List.mem_singleton.mp hj]; exact h) (by simp)
  exact ⟨⟨D, h1, by simpa using h2, h3 i (by simp)⟩, o.d _ (getD_mem h)⟩
theorem CsOk.tl {ws : List Int} {cs : List Clm} (o : CsOk ws cs) {i : Nat} (h : i < cs.length) : (tch cs i).length ≤ 8 := o.t _ (getD_mem h)
/-- sums of dues -/
theorem CsOk.dues {ws : List Int} {cs : List Clm} (o : CsOk ws cs) {l : List Nat} (hl : l.length ≤ 16) (h : ∀ i ∈ l, i < cs.length) : (∃ D : Nat, 0 < D ∧ D ≤ 2 ^ 460 ∧ Dn D (l.map (M.due cs)).sum) ∧ 0 ≤ (l.map (M.due cs)).sum ∧ (l.map (M.due cs)).sum ≤ (B44 : Rat) := by
  have hm : ∀ x ∈ l.map (M.due cs), 0 ≤ x ∧ x ≤ (dE : Rat) := fun x hx => by
    obtain ⟨i, hi, rfl⟩ := List.mem_map.mp hx
    exact (o.due (h i hi)).2
  have b := sum_bd (B := dE) hm
  obtain ⟨D, D0, _, D1, D2⟩ := o.dn (List.range cs.length) (fun i hi => List.mem_range.mp hi) List.nodup_range
  refine ⟨⟨D, D0, D1, Dn.sum fun x hx => ?_⟩, b.1, Rat.le_trans b.2 ?_⟩
  · obtain ⟨i, hi, rfl⟩ := List.mem_map.mp hx
    exact D2 i (List.mem_range.mpr (h i hi))
  rw [List.length_map]
  have : dE * l.length ≤ B44 := Nat.le_trans (Nat.mul_le_mul_left dE hl) (by decide)
  exact_mod_cast this
theorem LvOk.part {m : Nat} {ws : List Int} {cs : List Clm} {ps : List Rat} {pl : List Nat} (o : LvOk m ws cs ps pl) {i : Nat} (h : i < cs.length) : Dn m (ps.getD i 0) ∧ 0 ≤ ps.getD i 0 ∧ ps.getD i 0 ≤ (pB : Rat) := o.p _ (getD_mem (by rw [o.pn]; exact h))
end M
namespace M
/-- a row of a table and its claim -/
def eB : Nat := 2 ^ 30
def EntryOk (x : Rat) : Prop := Dn DD x ∧ 0 ≤ x ∧ x ≤ (eB : Rat)
structure RowOk (n : Nat) (p : Clm × List Rat) : Prop where
  l : p.2.length = n
  e : ∀ x ∈ p.2, EntryOk x
  h : IsHp n p.1.2.1
  d : Dn DD p.1.1 ∧ 0 ≤ p.1.1 ∧ p.1.1 ≤ (dB : Rat)
  z : ∀ f : Nat, (f : Int) ∉ p.1.2.1 → p.2.getD f 0 = 0
  s : p.2.sum ≤ p.1.1
  rk : -9 ≤ p.1.2.2 ∧ p.1.2.2 < 21
abbrev Tab := Nat × List Int × List (Clm × List Rat)
def Tab.cs (t : Tab) : List Clm := t.2.2.map Prod.fst
def Tab.xss (t : Tab) : List (List Rat) := t.2.2.map Prod.snd
def Tab.ps (t : Tab) : List Rat := t.xss.map List.sum
def col (L : List (Clm × List Rat)) (f : Nat) : Rat := (L.map fun p => p.2.getD f 0).sum
def wI : Int := 1125899906842624
structure TabOk (t : Tab) : Prop where
  n6 : t.1 ≤ 6
  wl : t.2.1.length = t.1
  wb : ∀ x ∈ t.2.1, 0 ≤ x ∧ x ≤ wI
  cl : t.2.2.length ≤ 16
  r : ∀ p ∈ t.2.2, RowOk t.1 p
  f : ∀ f, f < t.1 → col t.2.2 f ≤ (t.2.1.getD f 0 : Rat)
end M
namespace M
def PlOk (cs : List Clm) (pl : List Nat) : Prop := pl.Pairwise (· < ·) ∧ ∀ i ∈ pl, i < cs.length
theorem range_sorted (n : Nat) : (List.range n).Pairwise (· < ·) := List.pairwise_lt_range
/-- heaps that some of the places lie within, with their fills -/
def fills (ws : List Int) (cs : List Clm) (ps : List Rat) (pl : List Nat) (L : List (List Int)) : List (List Int × Rat) := (L.filter fun h => !decide (need cs pl h = 0)).map fun h => (h, fillAt ws cs ps pl h)
end M
namespace M
theorem sum_filter_le {α : Type} {p : α → Bool} {f : α → Rat} : ∀ {L : List α}, (∀ i ∈ L, 0 ≤ f i) → ((L.filter p).map f).sum ≤ (L.map f).sum
  | [], _ => Rat.le_refl
  | a :: L, h => by
    have ih := sum_filter_le (p := p) (f := f) (L := L) fun i hi => h i (List.mem_cons_of_mem _ hi)
    have := h a (List.mem_cons_self ..)
    rw [List.map_cons, List.sum_cons, List.filter_cons]
    cases e : p a with
    | true => rw [if_pos rfl, List.map_cons, List.sum_cons]; grind
    | false => rw [if_neg (by decide)]; grind
/-- what a stage has: worths, claims, parts, places -/
abbrev Stg := List Int × List Clm × List Rat × List Nat
def M6 : Nat := 6 * DE
structure StgOk (s : Stg) : Prop where
  lv : LvOk M6 s.1 s.2.1 s.2.2.1 s.2.2.2
  pl : PlOk s.2.1 s.2.2.2
  pos : ∀ i ∈ s.2.2.2, 0 < due s.2.1 i
  hp : ∀ c ∈ s.2.1, IsHp s.1.length c.2.1
  wn : ∀ x ∈ s.1, 0 ≤ x
  room : ∀ h, IsHp s.1.length h → 0 ≤ room s.1 s.2.1 s.2.2.1 s.2.2.2 h
end M
namespace M
def setAll (l : List Rat) (d : List Nat) (f : Nat → Rat) : List Rat := d.foldl (fun l i => l.set i (f i)) l
abbrev FSt := List Rat × List Nat
def topOf (ws : List Int) (cs : List Clm) (s : FSt) : Rat := least (meas ws cs s.1 s.2)
def doneOf (ws : List Int) (cs : List Clm) (s : FSt) : List Nat := halted cs s.2 (meas ws cs s.1 s.2) (topOf ws cs s)
def rise (ws : List Int) (cs : List Clm) (s : FSt) : FSt := (setAll s.1 (doneOf ws cs s) (fun i => due cs i * topOf ws cs s), s.2.filter fun i => !decide (i ∈ doneOf ws cs s))
inductive FillTo (ws : List Int) (cs : List Clm) : FSt → List Rat → Prop
  | stop {now : List Rat} : FillTo ws cs (now, []) now
  | step {s : FSt} {r : List Rat} : s.2 ≠ [] → FillTo ws cs (rise ws cs s) r → FillTo ws cs s r
/-- what is kept on the way -/
def Bg : Nat := 183
structure FlOk (m C : Nat) (ws : List Int) (cs : List Clm) (s : FSt) : Prop where
  cso : CsOk ws cs
  n : s.1.length = cs.length
  p : ∀ x ∈ s.1, Dn m x ∧ 0 ≤ x ∧ x ≤ (pB : Rat)
  m0 : 0 < m
  mg : m * 2 ^ (Bg * s.2.length) ≤ C
  cB : C < 2 ^ 3500
  po : PlOk cs s.2
  pos : ∀ i ∈ s.2, 0 < due cs i
  rn : ∀ h, IsHp ws.length h → 0 ≤ room ws cs s.1 s.2 h
theorem FlOk.lv {m C : Nat} {ws : List Int} {cs : List Clm} {s : FSt} (o : FlOk m C ws cs s) : LvOk m ws cs s.1 s.2 := { o.cso with pn := o.n, p := o.p, m0 := o.m0, mB := Nat.lt_of_le_of_lt (Nat.le_trans (Nat.le_mul_of_pos_right _ (Nat.pow_pos (by decide))) o.mg) o.cB, q := o.po.2 }
end M
namespace M
def plr (cs : List Clm) (r : Int) : List Nat := (List.range cs.length).filter fun i => decide (rnk cs i = r) && !decide (due cs i = 0)
/-- ranks told the last first -/
def ShTo (ws : List Int) (cs : List Clm) : List Int → List Rat → Prop
  | [], ps => ps = List.replicate cs.length 0
  | r :: rs, ps' => ∃ ps, ShTo ws cs rs ps ∧ FillTo ws cs (ps, plr cs r) ps'
theorem plr_ok (cs : List Clm) (r : Int) : PlOk cs (plr cs r) := ⟨(range_sorted _).sublist List.filter_sublist, fun i hi => List.mem_range.mp (List.mem_filter.mp hi).1⟩
theorem mem_plr {cs : List Clm} {r : Int} {i : Nat} : i ∈ plr cs r ↔ i < cs.length ∧ rnk cs i = r ∧ due cs i ≠ 0 := by
  unfold plr
  rw [List.mem_filter, List.mem_range]
  simp
/-- how many places the ranks have -/
def cnt (cs : List Clm) (rs : List Int) : Nat := (rs.map fun r => (plr cs r).length).sum
theorem cnt_aux {p : Int → Nat → Bool} {rs : List Int} (h : ∀ i, (rs.filter fun r => p r i).length ≤ 1) : ∀ I : List Nat, (rs.map fun r => (I.filter (p r)).length).sum ≤ I.length
  | [] => by
    have : ∀ l : List Int, (l.map fun _ => 0).sum = 0 := by
      intro l
      induction l with
      | nil => rfl
      | cons a l ih => rw [List.map_cons, List.sum_cons, ih]
    show (rs.map fun _ => 0).sum ≤ 0
    rw [this]; exact Nat.le_refl _
  | a :: I => by
    have ih := cnt_aux h I
    have h1 := h a
    have : (rs.map fun r => ((a :: I).filter (p r)).length).sum = (rs.filter fun r => p r a).length + (rs.map fun r => (I.filter (p r)).length).sum := by
      clear ih h1 h
      induction rs with
      | nil => rfl
      | cons r rs ih =>
        rw [List.map_cons, List.sum_cons, ih, List.map_cons, List.sum_cons, List.filter_cons, List.filter_cons]
        cases p r a
        · rw [if_neg (by decide), if_neg (by decide)]; omega
        · rw [if_pos rfl, if_pos rfl, List.length_cons, List.length_cons]; omega
    rw [this, List.length_cons]
    omega
theorem cnt_le {cs : List Clm} {rs : List Int} (h : rs.Nodup) : cnt cs rs ≤ cs.length := by
  have := cnt_aux (p := fun r i => decide (rnk cs i = r) && !decide (due cs i = 0)) (rs := rs) (fun i => ?_) (List.range cs.length)
  · rw [List.length_range] at this
    exact this
  · have h2 : ∀ l : List Int, l.Nodup → (l.filter fun r => decide (rnk cs i = r) && !decide (due cs i = 0)).length ≤ 1 := by
      intro l
      induction l with
      | nil => intro _; simp
      | cons a l ih =>
        intro hn
        obtain ⟨n1, n2⟩ := List.nodup_cons.mp hn
        rw [List.filter_cons]
        split
        · rename_i q
          rw [Bool.and_eq_true, decide_eq_true_iff] at q
          have : l.filter (fun r => decide (rnk cs i = r) && !decide (due cs i = 0)) = [] := by
            rw [List.filter_eq_nil_iff]
            intro b hb q2
            rw [Bool.and_eq_true, decide_eq_true_iff] at q2
            exact n1 (by rw [← q.1, q2.1]; exact hb)
          rw [this]; simp
        · exact ih n2
    exact h2 rs h
/-- what is kept from rank to rank -/
structure ShOk (m : Nat) (ws : List Int) (cs : List Clm) (rs : List Int) (ps : List Rat) : Prop where
  cso : CsOk ws cs
  n : ps.length = cs.length
  p : ∀ x ∈ ps, Dn m x ∧ 0 ≤ x ∧ x ≤ (pB : Rat)
  m0 : 0 < m
  mb : m ≤ 2 ^ (Bg * cnt cs rs)
  rn : ∀ h, IsHp ws.length h → 0 ≤ room ws cs ps [] h
  le : ∀ i, i < cs.length → ps.getD i 0 ≤ due cs i
theorem due_pos {ws : List Int} {cs : List Clm} (o : CsOk ws cs) {i : Nat} (h : i < cs.length) (hn : due cs i ≠ 0) : 0 < due cs i := by
  have := (o.due h).2.1
  grind
theorem ShOk.fl {m : Nat} {ws : List Int} {cs : List Clm} {rs : List Int} {ps : List Rat} (o : ShOk m ws cs rs ps) {r : Int} (hn : (r :: rs).Nodup) : FlOk m (2 ^ (Bg * cnt cs (r :: rs))) ws cs (ps, plr cs r) := by
  have c16 := o.cso.cl
  have cl := cnt_le (cs := cs) hn
  refine ⟨o.cso, o.n, o.p, o.m0, ?_, ?_, plr_ok cs r, fun i hi => ?_, fun h hh => ?_⟩
  · have e : cnt cs (r :: rs) = (plr cs r).length + cnt cs rs := by unfold cnt; rw [List.map_cons, List.sum_cons]
    rw [e, Nat.mul_add, Nat.pow_add, Nat.mul_comm]
    exact Nat.mul_le_mul_left _ o.mb
  · refine Nat.pow_lt_pow_right (by decide) ?_
    unfold Bg
    omega
  · obtain ⟨h1, h2, h3⟩ := mem_plr.mp hi
    exact due_pos o.cso h1 h3
  · have h1 := o.rn h hh
    unfold room at h1 ⊢
    have h2 : (((wthn cs h).filter fun i => !decide (i ∈ plr cs r)).map fun i => ps.getD i 0).sum ≤ (((wthn cs h).filter fun i => !decide (i ∈ ([] : List Nat))).map fun i => ps.getD i 0).sum := by
      have e : (wthn cs h).filter (fun i => !decide (i ∈ ([] : List Nat))) = wthn cs h := by simp
      rw [e]
      refine sum_filter_le fun i hi => ?_
      exact (o.p _ (getD_mem (by rw [o.n]; exact wthn_lt hi))).2.1
    dsimp only
    grind
end M
namespace M
open PySem G L2
def ordW (z : Str) : Int := if z = "wage" then 0 else if z = "old" then 2 else if z = "owner" then 3 else 1
def pkey (k : Str × Int) : Int × Int := if ordW k.1 = 0 ∨ ordW k.1 = 3 then (ordW k.1, 0) else (ordW k.1, -k.2)
abbrev rnks (ks : List (Str × Int)) : List Int := (ks.map pkey).map fun k => (G.rnk (ks.map pkey) k : Int)
def rks (cs : List Clm) : List Int := cs.map fun c => c.2.2
def ShEnd (ws : List Int) (cs : List Clm) (r : List Rat) : Prop := ∃ rs, SortedSet (rks cs) rs ∧ ShTo ws cs rs.reverse r ∧ ∃ m, ShOk m ws cs rs.reverse r
structure CaseOk (ws : List Int) (cs : List Clm) : Prop where
  cso : CsOk ws cs
  hp : ∀ c ∈ cs, IsHp ws.length c.2.1
  wn : ∀ x ∈ ws, 0 ≤ x
/-- the sharing out -/
noncomputable def shareOf (ws : List Int) (cs : List Clm) : List Rat := open Classical in if h : ∃ r, ShEnd ws cs r then Classical.choose h else []
def lettersS : Str := "abcdefghijklmnopqrstuvwxyz"
def lettersL : List Nat := tx lettersS
def nameOk (z : Str) : Bool := decide ((1 : Int) ≤ z.length) && decide ((z.length : Int) ≤ 8) && decide (∀ ch ∈ tx z, ch ∈ lettersL)
structure Debt where
  number : Int
  word : Str
  moment : Int
  touched : List Int
  lent : Int
  gain : Int
  base : Int
  lost : Int
  ended : Option Int
def debt0 : Debt := ⟨0, "", 0, [], 0, 0, 1, 0, none⟩
def Debt.due (d : Debt) (today : Int) : Rat :=
  if d.word = "loan" then ((d.lent * (100 + d.gain) : Int) : Rat) / ((100 : Int) : Rat) * (((max 0 (d.base - d.lost) : Int) : Rat) / (d.base : Rat))
  else if d.word = "wage" then ((d.lent * (d.ended.getD today - d.moment) : Int) : Rat)
  else (d.lent : Rat)
abbrev Stand := List (Int × Rat) × List Rat
structure Ship where
  today : Int
  voyage : Int
  afloat : Bool
  funds : List Int
  lots : List Int
  debts : List Debt
  made : Int
  results : List Stand
def Ship.kinds (s : Ship) : List (Str × Int) := s.debts.map (fun d => (d.word, d.moment)) ++ (List.range 6).map fun _ => (("owner" : Str), (0 : Int))
def Ship.rows (s : Ship) : List (Rat × List Int) := s.debts.map (fun d => (d.due s.today, d.touched)) ++ (List.range 6).map fun f : Nat => (((s.funds.getD f 0 : Int) : Rat), [(f : Int)])
def Ship.bill (s : Ship) : List Clm := (List.range s.rows.length).map fun i => ((s.rows.getD i (0, [])).1, (s.rows.getD i (0, [])).2, (rnks s.kinds).getD i 0)
noncomputable def Ship.parts (s : Ship) : List Rat := shareOf s.funds s.bill
noncomputable def Ship.stand (s : Ship) : Stand := ((List.range s.debts.length).map fun i => ((s.debts.getD i debt0).number, s.parts.getD i 0), s.parts.drop s.debts.length)
/-- what stays of a claim -/
noncomputable def Ship.rest (s : Ship) (i : Nat) : Int := (ofR ((s.debts.getD i debt0).due s.today - s.parts.getD i 0)).1 / (ofR ((s.debts.getD i debt0).due s.today - s.parts.getD i 0)).2
noncomputable def Ship.old (s : Ship) (i : Nat) : Debt := let d := s.debts.getD i debt0; ⟨d.number, "old", if d.word = "old" then d.moment else s.voyage, [0, 1], s.rest i, 0, 1, 0, none⟩
noncomputable def Ship.left (s : Ship) (n : Nat) : List Debt := (List.range n).flatMap fun i => if 0 < s.rest i then [s.old i] else []
def Ship.claims (s : Ship) : List (Int × Str × Int × Rat × List Int) := s.debts.map fun d => (d.number, d.word, d.moment, d.due s.today, d.touched)
inductive Deed
  | out (n : Str) (w : Int)
  | load (n : Str) (lot w f : Int)
  | sail (n : Str) (d : Int)
  | hire (n : Str) (w : Int)
  | dismiss (n : Str) (k : Int)
  | lend (n : Str) (h : List Int) (s g : Int)
  | rescue (n : Str) (h : List Int) (s : Int)
  | lose (n : Str) (f w : Int)
  | land (n : Str)
  | settle (n : Str) (k s : Int)
def Deed.word : Deed → Str
  | .out .. => "out" | .load .. => "load" | .sail .. => "sail" | .hire .. => "hire" | .dismiss .. => "dismiss" | .lend .. => "lend" | .rescue .. => "rescue" | .lose .. => "lose" | .land .. => "land" | .settle .. => "settle"
def Deed.name : Deed → Str
  | .out n _ => n | .load n _ _ _ => n | .sail n _ => n | .hire n _ => n | .dismiss n _ => n | .lend n _ _ _ => n | .rescue n _ _ => n | .lose n _ _ => n | .land n => n | .settle n _ _ => n
def Deed.Ok : Deed → Prop
  | .out n _ => n.length ≤ 1000
  | .lend _ h _ _ => h.length ≤ 1000
  | .rescue _ h _ => h.length ≤ 1000
  | .settle _ _ p => p.natAbs < 2 ^ 200
  | _ => True
inductive Rf
  | BadName | NoShip | AtSea | AtHome | Full | Crowded | BadWorth | BadLot | Laden | BadDays | BadSum | BadGain | BadHeap | Worthless | BadFund | NoClaim | NotHired
  deriving DecidableEq
abbrev Fleet := List (Str × Ship)
def Fleet.get (F : Fleet) (n : Str) : Option Ship := F.lookup n
def e9 : Int := 1000000000
structure Bk where
  kept : List Deed
  fleets : List Fleet
  undone : List (Deed × Fleet)
/-- the book that is well made: a fleet for each deed, and the first one -/
structure Bk.Ok (b : Bk) : Prop where
  l : b.fleets.length = b.kept.length + 1
structure Debt.Fit (n : Nat) (today : Int) (d : Debt) : Prop where
  hp : IsHp 6 d.touched
  l0 : 0 ≤ d.lent
  b1 : 1 ≤ d.base
  b : d.base ≤ 17179869184
  o0 : 0 ≤ d.lost
  o1 : d.lost ≤ 4294967296 * n
  g0 : 0 ≤ d.gain
  g1 : d.gain ≤ 1000
  w : (d.word = "wage" ∧ d.lent ≤ 1000000 ∧ 0 ≤ d.moment ∧ d.moment ≤ d.ended.getD today ∧ d.ended.getD today ≤ today) ∨ (d.word = "loan" ∧ d.lent ≤ 1000000000) ∨ (d.word = "rescue" ∧ d.lent ≤ 1000000000) ∨ (d.word = "old" ∧ d.lent ≤ 17179869184 * (n + 1))
structure Ship.Fit (n : Nat) (s : Ship) : Prop where
  t0 : 0 ≤ s.today
  t : s.today ≤ 1000 * n
  fl : s.funds.length = 6
  f0 : ∀ x ∈ s.funds, 0 ≤ x
  f1 : s.funds.getD 1 0 ≤ 1000000000 * s.lots.length
  f : ∀ i, i ≠ 1 → s.funds.getD i 0 ≤ 1000000000
  ln : s.lots.Nodup
  lb : ∀ x ∈ s.lots, 2 ≤ x ∧ x < 6
  dl : s.debts.length ≤ 10
  d : ∀ d ∈ s.debts, d.Fit n s.today
  rn : s.results.length ≤ n
def Fleet.Fit (n : Nat) (F : Fleet) : Prop := (F.length ≤ 4 ∧ (F.map (·.1)).Nodup) ∧ ∀ p ∈ F, p.2.Fit n
end M
namespace M
open PySem G L2
theorem tx_num (i : Int) : tx (numS i) = if 0 ≤ i then TL.numL i.natAbs else 45 :: TL.numL i.natAbs := by
  cases i with
  | ofNat n =>
    rw [if_pos (show (0 : Int) ≤ Int.ofNat n from Int.natCast_nonneg n)]
    exact TL.tl_num n
  | negSucc n =>
    rw [if_neg (by omega)]
    have e : numS (Int.negSucc n) = Str.ofString ("-" ++ toString (n + 1)) := rfl
    rw [e]
    show TL.tl (Str.ofString ("-" ++ toString (n + 1))) = _
    rw [TL.tl_ofString, String.toList_append, List.map_append]
    have h : (toString (n + 1)).toList.map Char.toNat = TL.numL (n + 1) := by
      have := TL.tl_num (n + 1)
      rw [TL.tl_ofString] at this
      exact this
    rw [h]; rfl
theorem num_free {i : Int} {s : Nat} (h : s < 45 ∨ 57 < s) : s ∉ tx (numS i) := by
  rw [tx_num]
  have f : s ∉ TL.numL i.natAbs := TL.numL_free (by omega)
  split
  · exact f
  · rw [List.mem_cons, not_or]; exact ⟨by omega, f⟩
theorem num_len {i : Int} {k : Nat} (hk : 0 < k) (h : i.natAbs < 10 ^ k) : (numS i).length ≤ k + 1 := by
  have l := TL.numL_len hk h
  have e : (numS i).length = (tx (numS i)).length := TL.len_tl _
  rw [e, tx_num]
  split
  · omega
  · rw [List.length_cons]; omega
inductive Thing | s (z : Str) | i (n : Int) | h (l : List Int)
def heapS (l : List Int) : Str := Txt.join "" (l.map numS)
def Thing.txt : Thing → Str | .s z => z | .i n => numS n | .h l => heapS l
def Thing.kind : Thing → Str | .s _ => "name" | .i _ => "number" | .h _ => "heap"
def Deed.things : Deed → List Thing
  | .out n w => [.s n, .i w]
  | .load n l w f => [.s n, .i l, .i w, .i f]
  | .sail n d => [.s n, .i d]
  | .hire n w => [.s n, .i w]
  | .dismiss n k => [.s n, .i k]
  | .lend n h s g => [.s n, .h h, .i s, .i g]
  | .rescue n h s => [.s n, .h h, .i s]
  | .lose n f w => [.s n, .i f, .i w]
  | .land n => [.s n]
  | .settle n k s => [.s n, .i k, .i s]
def Deed.line (d : Deed) : Str := Txt.join " " (d.word :: d.things.map Thing.txt)
/-- short enough to be written -/
def Thing.Fits : Thing → Prop | .s z => z.length ≤ 1000 | .i n => n.natAbs < 10 ^ 60 | .h l => l.length ≤ 1000 ∧ ∀ x ∈ l, x.natAbs < 10 ^ 60
def Deed.Fits (d : Deed) : Prop := ∀ t ∈ d.things, t.Fits
theorem log_of {i : Int} (h : i.natAbs < 10 ^ 60) : i.natAbs.log2 < 1920 := by
  by_cases z : i.natAbs = 0
  · rw [z]; decide
  · exact (Nat.log2_lt z).mpr (Nat.lt_of_lt_of_le h (by decide))
theorem sum_lenM {l : List Str} {m : Nat} (h : ∀ x ∈ l, x.length ≤ m) : (l.map (·.length)).sum ≤ l.length * m := by
  induction l with
  | nil => simp
  | cons x l ih =>
    rw [List.map_cons, List.sum_cons, List.length_cons, Nat.succ_mul]
    have := ih fun y hy => h y (List.mem_cons_of_mem _ hy)
    have := h x (List.mem_cons_self ..)
    omega
theorem joinL_len {S : List Nat} : ∀ {l : List (List Nat)}, (TL.joinL S l).length ≤ (l.map (·.length)).sum + l.length * S.length
  | [] => by simp [TL.joinL]
  | [p] => by simp [TL.joinL]
  | p :: q :: r => by
    have := joinL_len (S := S) (l := q :: r)
    show (p ++ (S ++ TL.joinL S (q :: r))).length ≤ _
    rw [List.length_append, List.length_append, List.map_cons, List.sum_cons, List.length_cons (as := q :: r), Nat.succ_mul]
    omega
theorem tx_join (sep : Str) (l : List Str) : tx (Txt.join sep l) = TL.joinL (tx sep) (l.map tx) := by
  rw [TL.join_eq]; exact TL.tl_join sep l
theorem join_len {sep : Str} {l : List Str} : (Txt.join sep l).length ≤ (l.map (·.length)).sum + l.length * sep.length := by
  have e : ∀ z : Str, z.length = (tx z).length := TL.len_tl
  rw [e, e sep, tx_join]
  refine Nat.le_trans joinL_len ?_
  rw [List.map_map, List.length_map]
  have : (l.map (List.length ∘ tx)) = l.map (·.length) := List.map_congr_left fun x _ => (e x).symm
  rw [this]; exact Nat.le_refl _
theorem heap_len {l : List Int} (h : l.length ≤ 1000 ∧ ∀ x ∈ l, x.natAbs < 10 ^ 60) : (heapS l).length ≤ 61000 := by
  refine Nat.le_trans join_len ?_
  have h1 := sum_lenM (l := l.map numS) (m := 61) fun x hx => by
    obtain ⟨y, hy, rfl⟩ := List.mem_map.mp hx
    exact num_len (by decide) (h.2 y hy)
  rw [List.length_map] at h1
  rw [List.length_map]
  have : ("" : Str).length = 0 := rfl
  rw [this]
  have := h.1
  omega
theorem Thing.Fits.len {t : Thing} (f : t.Fits) : t.txt.length ≤ 61000 := by
  cases t with
  | s z => have : z.length ≤ 1000 := f; show z.length ≤ 61000; omega
  | i n => exact Nat.le_trans (num_len (by decide) f) (by decide)
  | h l => exact heap_len f
def wordsL : List Str := ["out", "load", "sail", "hire", "dismiss", "lend", "rescue", "lose", "land", "settle"]
theorem word_mem (d : Deed) : d.word ∈ wordsL := by cases d <;> (dsimp only [Deed.word]; decide +kernel)
theorem words_ok : ∀ z ∈ wordsL, z.length ≤ 7 ∧ ∀ x ∈ tx z, 32 ≤ x := by decide +kernel
theorem word_len (d : Deed) : d.word.length ≤ 7 := (words_ok _ (word_mem d)).1
theorem things_len (d : Deed) : d.things.length ≤ 4 := by cases d <;> (dsimp only [Deed.things, List.length]; omega)
theorem Deed.Fits.sum {d : Deed} (f : d.Fits) : ((d.word :: d.things.map Thing.txt).map (·.length)).sum + (d.word :: d.things.map Thing.txt).length * (" " : Str).length ≤ 300000 := by
  have h1 := sum_lenM (l := d.things.map Thing.txt) (m := 61000) fun x hx => by
    obtain ⟨t, ht, rfl⟩ := List.mem_map.mp hx
    exact (f t ht).len
  rw [List.map_cons, List.sum_cons, List.length_cons]
  rw [List.length_map] at h1 ⊢
  have := word_len d
  have := things_len d
  have e : (" " : Str).length = 1 := rfl
  rw [e]
  omega
theorem Deed.Fits.len {d : Deed} (f : d.Fits) : d.line.length ≤ 300000 := Nat.le_trans join_len f.sum
theorem joinL_free {S : List Nat} {c : Nat} (hS : c ∉ S) : ∀ {l : List (List Nat)}, (∀ p ∈ l, c ∉ p) → c ∉ TL.joinL S l
  | [], _ => List.not_mem_nil
  | [p], h => h p (List.mem_singleton.mpr rfl)
  | p :: q :: r, h => by
    show c ∉ p ++ (S ++ TL.joinL S (q :: r))
    rw [List.mem_append, List.mem_append, not_or, not_or]
    exact ⟨h p (List.mem_cons_self ..), hS, joinL_free hS fun z hz => h z (List.mem_cons_of_mem _ hz)⟩
theorem joinL_nil : ∀ l : List (List Nat), TL.joinL [] l = l.flatten
  | [] => rfl
  | [p] => by show p = [p].flatten; simp
  | p :: q :: r => by
    show p ++ ([] ++ TL.joinL [] (q :: r)) = _
    rw [joinL_nil, List.nil_append]; rfl
end M
namespace M
open PySem G L2
def figL : List Nat := tx "0123456789"
theorem mem_fig {c : Nat} : c ∈ figL ↔ 48 ≤ c ∧ c ≤ 57 := by
  have e : figL = [48, 49, 50, 51, 52, 53, 54, 55, 56, 57] := by decide +kernel
  rw [e]
  simp only [List.mem_cons, List.not_mem_nil, or_false]
  omega
def figB (z : Str) : Bool := !decide (z = "") && decide (∀ ch ∈ tx z, ch ∈ figL)
theorem figB_dig {z : Str} (h : figB z = true) : NumText.AllDigits (tx z) ∧ tx z ≠ [] := by
  unfold figB at h
  rw [Bool.and_eq_true] at h
  refine ⟨fun c hc => mem_fig.mp (of_decide_eq_true h.2 c hc), fun e => ?_⟩
  have h1 : ¬ z = "" := by simpa using h.1
  exact h1 (TL.ext_tl (by show tx z = tx ""; rw [e]; rfl))
theorem figB_of {z : Str} (h : NumText.AllDigits (tx z)) (hn : tx z ≠ []) : figB z = true := by
  unfold figB
  rw [Bool.and_eq_true]
  refine ⟨?_, decide_eq_true fun c hc => mem_fig.mpr (h c hc)⟩
  rw [Bool.not_eq_true', decide_eq_false_iff_not]
  intro e
  rw [e] at hn
  exact hn rfl
/-- the number that a text writes -/
def numOf (z : Str) : Option Int :=
  if (decide ((13 : Int) < z.length) || !figB z) = true then none
  else if (decide ((tx z).head? = some 48) && decide ((1 : Int) < z.length)) = true then none
  else some ((NumText.digitsVal (tx z) : Nat) : Int)
def figI (c : Nat) : Int := (c : Int) - 48
def heapOf (z : Str) : Option (List Int) :=
  if (decide ((6 : Int) < z.length) || !figB z) = true then none
  else if (!decide (IsHp 6 ((tx z).map figI))) = true then none
  else some ((tx z).map figI)
theorem numL_head : ∀ n : Nat, (TL.numL n).head? = some 48 → n = 0 := fun n => by
  induction n using Nat.strongRecOn with
  | ind n ih =>
    intro h
    by_cases l : n < 10
    · rw [TL.numL_lt l] at h
      simp at h
      exact h
    · rw [TL.numL_step (by omega)] at h
      have ne := TL.numL_ne (n / 10)
      cases e : TL.numL (n / 10) with
      | nil => exact absurd e ne
      | cons a t =>
        have := ih (n / 10) (by omega) (by rw [e]; rw [e] at h; exact h)
        omega
theorem tx_nat {n : Int} (h : 0 ≤ n) : tx (numS n) = TL.numL n.natAbs := by rw [tx_num, if_pos h]
theorem numOf_num {n : Int} (h0 : 0 ≤ n) (h1 : n < 10000000000000) : numOf (numS n) = some n := by
  have e := tx_nat h0
  have d : NumText.AllDigits (tx (numS n)) := by rw [e]; exact TL.numL_digits _
  have ne : tx (numS n) ≠ [] := by rw [e]; exact TL.numL_ne _
  have l : (numS n).length ≤ 13 := by
    rw [tx_len, e]
    exact TL.numL_len (by decide) (by omega)
  unfold numOf
  rw [if_neg, if_neg, e, TL.numL_val]
  · congr 1; omega
  · rw [Bool.and_eq_true, decide_eq_true_eq, decide_eq_true_eq, e]
    rintro ⟨a, b⟩
    have z := numL_head _ a
    have : (numS n).length = 1 := by rw [tx_len, e, z]; rfl
    omega
  · rw [figB_of d ne]
    simp only [Bool.not_true, Bool.or_false, decide_eq_true_eq]
    omega
theorem tx_dig {x : Int} (h : 0 ≤ x ∧ x < 10) : tx (numS x) = [48 + x.toNat] := by
  rw [tx_nat h.1, TL.numL_lt (by omega)]
  congr 2
  omega
theorem tx_heap {l : List Int} (h : ∀ x ∈ l, 0 ≤ x ∧ x < 10) : tx (heapS l) = l.map fun x => 48 + x.toNat := by
  unfold heapS
  rw [tx_join]
  show TL.joinL [] _ = _
  rw [joinL_nil, List.map_map]
  induction l with
  | nil => rfl
  | cons x l ih =>
    rw [List.map_cons, List.flatten_cons, ih fun y hy => h y (List.mem_cons_of_mem _ hy), List.map_cons]
    show tx (numS x) ++ _ = _
    rw [tx_dig (h x (List.mem_cons_self ..))]; rfl
theorem heapOf_heap {l : List Int} (h : IsHp 6 l) (ne : l ≠ []) : heapOf (heapS l) = some l := by
  have b : ∀ x ∈ l, 0 ≤ x ∧ x < 6 := h.2
  have e := tx_heap (l := l) fun x hx => by have := b x hx; omega
  have back : (tx (heapS l)).map figI = l := by
    rw [e, List.map_map]
    have : ∀ x ∈ l, (figI ∘ fun x : Int => 48 + x.toNat) x = x := fun x hx => by
      have := b x hx
      show ((48 + x.toNat : Nat) : Int) - 48 = x
      omega
    rw [List.map_congr_left this, List.map_id']
  have d : NumText.AllDigits (tx (heapS l)) := fun c hc => by
    rw [e] at hc
    obtain ⟨x, hx, rfl⟩ := List.mem_map.mp hc
    have := b x hx
    omega
  have ne2 : tx (heapS l) ≠ [] := by
    rw [e]
    intro z
    exact ne (List.map_eq_nil_iff.mp z)
  have len : (heapS l).length ≤ 6 := by
    rw [tx_len, e, List.length_map]
    exact rawH_short 6 l ((mem_rawH 6 l).mpr h)
  unfold heapOf
  rw [if_neg, if_neg, back]
  · rw [back, decide_eq_true h]; decide
  · rw [figB_of d ne2]
    simp only [Bool.not_true, Bool.or_false, decide_eq_true_eq]
    omega
/-- a thing that its text writes -/
def Thing.Good : Thing → Prop | .s z => nameOk z = true | .i n => 0 ≤ n ∧ n < 10000000000000 | .h l => IsHp 6 l ∧ l ≠ []
def Deed.Good (d : Deed) : Prop := ∀ t ∈ d.things, t.Good
theorem word_free (d : Deed) : 32 ∉ tx d.word := by
  have : ∀ z ∈ wordsL, 32 ∉ tx z := by decide +kernel
  exact this _ (word_mem d)
theorem good_free {t : Thing} (h : t.Good) : 32 ∉ tx t.txt := by
  cases t with
  | s z =>
    have h : nameOk z = true := h
    unfold nameOk at h
    rw [Bool.and_eq_true] at h
    have h2 := of_decide_eq_true h.2
    intro m
    have : ∀ c ∈ lettersL, c ≠ 32 := by decide +kernel
    exact this 32 (h2 32 m) rfl
  | i n => exact num_free (by omega)
  | h l =>
    show 32 ∉ tx (heapS l)
    unfold heapS
    rw [tx_join]
    refine joinL_free List.not_mem_nil fun p hp => ?_
    obtain ⟨z, hz, rfl⟩ := List.mem_map.mp hp
    obtain ⟨i, _, rfl⟩ := List.mem_map.mp hz
    exact num_free (by omega)
theorem line_split {d : Deed} (h : d.Good) : Txt.split d.line " " = d.word :: d.things.map Thing.txt := by
  unfold Deed.line
  refine TL.split_join (s := 32) (S := []) rfl (by decide +kernel) (by simp) fun p hp => ?_
  rcases List.mem_cons.mp hp with rfl | hp
  · exact word_free d
  · obtain ⟨t, ht, rfl⟩ := List.mem_map.mp hp
    exact good_free (h t ht)
theorem nameOk_short {z : Str} (h : nameOk z = true) : z.length ≤ 8 := by
  unfold nameOk at h
  simp only [Bool.and_eq_true, decide_eq_true_eq] at h
  omega
theorem Deed.Good.fits {d : Deed} (h : d.Good) : d.Fits := fun t ht => by
  have g := h t ht
  cases t with
  | s z => show z.length ≤ 1000; have := nameOk_short g; omega
  | i n => obtain ⟨a, b⟩ := g; show n.natAbs < 10 ^ 60; exact Nat.lt_of_lt_of_le (show n.natAbs < 10000000000000 by omega) (by decide)
  | h l =>
    obtain ⟨a, _⟩ := g
    have := rawH_short 6 l ((mem_rawH 6 l).mpr a)
    exact ⟨by omega, fun x hx => Nat.lt_of_lt_of_le (show x.natAbs < 10 by have := a.2 x hx; omega) (by decide)⟩
end M
namespace M
open PySem G L2
theorem dval_snoc (l : List Nat) (c : Nat) : NumText.digitsVal (l ++ [c]) = NumText.digitsVal l * 10 + (c - 48) := by
  unfold NumText.digitsVal
  rw [List.foldl_append]; rfl
theorem last_split {l : List Nat} (h : l ≠ []) : ∃ m c, l = m ++ [c] := ⟨l.dropLast, l.getLast h, (List.dropLast_concat_getLast h).symm⟩
theorem dval_pos : ∀ (n : Nat) (l : List Nat), l.length = n → NumText.AllDigits l → l ≠ [] → l.head? ≠ some 48 → 0 < NumText.digitsVal l := fun n => by
  induction n with
  | zero => intro l e _ ne _; exact absurd (List.length_eq_zero_iff.mp e) ne
  | succ n ih =>
    intro l e d ne hd
    obtain ⟨m, c, rfl⟩ := last_split ne
    rw [dval_snoc]
    by_cases hm : m = []
    · subst hm
      have hc := d c (by simp)
      have : c ≠ 48 := fun e => hd (by rw [e]; rfl)
      show 0 < NumText.digitsVal [] * 10 + (c - 48)
      omega
    · have : 0 < NumText.digitsVal m := ih m (by simpa using e) (fun x hx => d x (by simp [hx])) hm (fun e2 => hd (by rw [List.head?_append, e2]; rfl))
      omega
theorem numL_dval : ∀ (n : Nat) (l : List Nat), l.length = n → NumText.AllDigits l → l ≠ [] → (l.head? = some 48 → l.length ≤ 1) → TL.numL (NumText.digitsVal l) = l := fun n => by
  induction n with
  | zero => intro l e _ ne _; exact absurd (List.length_eq_zero_iff.mp e) ne
  | succ n ih =>
    intro l e d ne hd
    obtain ⟨m, c, rfl⟩ := last_split ne
    have hc := d c (by simp)
    rw [dval_snoc]
    by_cases hm : m = []
    · subst hm
      show TL.numL (NumText.digitsVal [] * 10 + (c - 48)) = [c]
      have : NumText.digitsVal [] * 10 + (c - 48) = c - 48 := by show 0 * 10 + (c - 48) = c - 48; omega
      rw [this, TL.numL_lt (by omega)]
      congr 1; omega
    · have dm : NumText.AllDigits m := fun x hx => d x (by simp [hx])
      have h48 : m.head? ≠ some 48 := fun e2 => by
        have := hd (by rw [List.head?_append, e2]; rfl)
        rw [List.length_append] at this
        have : m.length ≠ 0 := fun z => hm (List.length_eq_zero_iff.mp z)
        simp only [List.length_singleton] at *
        omega
      have p := dval_pos m.length m rfl dm hm h48
      rw [TL.numL_step (by omega)]
      rw [show (NumText.digitsVal m * 10 + (c - 48)) / 10 = NumText.digitsVal m by omega, show (NumText.digitsVal m * 10 + (c - 48)) % 10 = c - 48 by omega]
      rw [ih m (by simpa using e) dm hm (fun e2 => absurd e2 h48)]
      congr 2; omega
theorem dval_lt : ∀ (n : Nat) (l : List Nat), l.length = n → NumText.AllDigits l → NumText.digitsVal l < 10 ^ n := fun n => by
  induction n with
  | zero => intro l e _; rw [List.length_eq_zero_iff.mp e]; exact (by decide : (0 : Nat) < 10 ^ 0)
  | succ n ih =>
    intro l e d
    obtain ⟨m, c, rfl⟩ := last_split (l := l) (fun z => by rw [z] at e; cases e)
    have hc := d c (by simp)
    have := ih m (by simpa using e) (fun x hx => d x (by simp [hx]))
    rw [dval_snoc, Nat.pow_succ]
    omega
theorem numOf_inv {z : Str} {n : Int} (h : numOf z = some n) : (0 ≤ n ∧ n < 10000000000000) ∧ numS n = z := by
  unfold numOf at h
  split at h
  · cases h
  rename_i h1
  split at h
  · cases h
  rename_i h2
  cases h
  have h1 : ¬ (13 : Int) < z.length ∧ figB z = true := by
    rw [Bool.not_eq_true, Bool.or_eq_false_iff] at h1
    exact ⟨of_decide_eq_false h1.1, by simpa using h1.2⟩
  obtain ⟨dg, ne⟩ := figB_dig h1.2
  have lz : (tx z).length = z.length := (tx_len z).symm
  have l13 : (tx z).length ≤ 13 := by omega
  have lt := dval_lt _ (tx z) rfl dg
  have lt2 : NumText.digitsVal (tx z) < 10 ^ 13 := Nat.lt_of_lt_of_le lt (Nat.pow_le_pow_right (by decide) l13)
  refine ⟨⟨by omega, by omega⟩, TL.ext_tl ?_⟩
  show tx (numS _) = tx z
  rw [tx_nat (by omega), Int.natAbs_natCast]
  refine numL_dval _ _ rfl dg ne fun e => ?_
  rw [Bool.and_eq_true, decide_eq_true_eq, decide_eq_true_eq] at h2
  have : ¬ (1 : Int) < z.length := fun q => h2 ⟨e, q⟩
  omega
theorem heapOf_inv {z : Str} {l : List Int} (h : heapOf z = some l) : (IsHp 6 l ∧ l ≠ []) ∧ heapS l = z := by
  unfold heapOf at h
  split at h
  · cases h
  rename_i h1
  split at h
  · cases h
  rename_i h2
  cases h
  have h1 : figB z = true := by
    rw [Bool.not_eq_true, Bool.or_eq_false_iff] at h1
    simpa using h1.2
  have h2 : IsHp 6 ((tx z).map figI) := by simpa using h2
  obtain ⟨dg, ne⟩ := figB_dig h1
  refine ⟨⟨h2, fun e => ne (List.map_eq_nil_iff.mp e)⟩, TL.ext_tl ?_⟩
  show tx (heapS _) = tx z
  rw [tx_heap fun x hx => by
    obtain ⟨c, hc, rfl⟩ := List.mem_map.mp hx
    have := dg c hc
    show 0 ≤ (c : Int) - 48 ∧ (c : Int) - 48 < 10
    omega]
  rw [List.map_map]
  have : ∀ c ∈ tx z, ((fun x : Int => 48 + x.toNat) ∘ figI) c = c := fun c hc => by
    have := dg c hc
    show 48 + ((c : Int) - 48).toNat = c
    omega
  rw [List.map_congr_left this, List.map_id']
/-- a line that can be read -/
def GoodLine (z : Str) : Prop := ∃ d : Deed, d.Good ∧ d.line = z
theorem goodLine_of {z : Str} {d : Deed} (g : d.Good) (h : Txt.split z " " = d.word :: d.things.map Thing.txt) : GoodLine z := by
  refine ⟨d, g, ?_⟩
  unfold Deed.line
  rw [← h, TL.join_eq]
  exact PySem.StrLaws.join_split z " "
end M
namespace W
open PySem L2 G
theorem sc_BadText___init__ : FnScope n_BadText___init__ p_BadText___init__ (defScope s_BadText___init__) := ⟨rfl, rfl, rfl, by decide +kernel, rfl, by decide +kernel, by decide +kernel⟩
theorem sc_is_name : FnScope n_is_name p_is_name (defScope s_is_name) := ⟨rfl, rfl, rfl, by decide +kernel, rfl, by decide +kernel, by decide +kernel⟩
theorem sc_is_heap : FnScope n_is_heap p_is_heap (defScope s_is_heap) := ⟨rfl, rfl, rfl, by decide +kernel, rfl, by decide +kernel, by decide +kernel⟩
theorem sc_figured : FnScope n_figured p_figured (defScope s_figured) := ⟨rfl, rfl, rfl, by decide +kernel, rfl, by decide +kernel, by decide +kernel⟩
theorem sc_number_of : FnScope n_number_of p_number_of (defScope s_number_of) := ⟨rfl, rfl, rfl, by decide +kernel, rfl, by decide +kernel, by decide +kernel⟩
theorem sc_heap_of : FnScope n_heap_of p_heap_of (defScope s_heap_of) := ⟨rfl, rfl, rfl, by decide +kernel, rfl, by decide +kernel, by decide +kernel⟩
theorem sc_name_of : FnScope n_name_of p_name_of (defScope s_name_of) := ⟨rfl, rfl, rfl, by decide +kernel, rfl, by decide +kernel, by decide +kernel⟩
theorem sc_things_of : FnScope n_things_of p_things_of (defScope s_things_of) := ⟨rfl, rfl, rfl, by decide +kernel, rfl, by decide +kernel, by decide +kernel⟩
theorem sc_read_deed : FnScope n_read_deed p_read_deed (defScope s_read_deed) := ⟨rfl, rfl, rfl, by decide +kernel, rfl, by decide +kernel, by decide +kernel⟩
theorem sc__law_bag : FnScope n__law_bag p__law_bag (defScope s__law_bag) := ⟨rfl, rfl, rfl, by decide +kernel, rfl, by decide +kernel, by decide +kernel⟩
theorem sc__law_pull : FnScope n__law_pull p__law_pull (defScope s__law_pull) := ⟨rfl, rfl, rfl, by decide +kernel, rfl, by decide +kernel, by decide +kernel⟩
theorem sc__law_whole : FnScope n__law_whole p__law_whole (defScope s__law_whole) := ⟨rfl, rfl, rfl, by decide +kernel, rfl, by decide +kernel, by decide +kernel⟩
theorem sc__law_heaps : FnScope n__law_heaps p__law_heaps (defScope s__law_heaps) := ⟨rfl, rfl, rfl, by decide +kernel, rfl, by decide +kernel, by decide +kernel⟩
theorem sc__law_word : FnScope n__law_word p__law_word (defScope s__law_word) := ⟨rfl, rfl, rfl, by decide +kernel, rfl, by decide +kernel, by decide +kernel⟩
theorem sc__law_alike : FnScope n__law_alike p__law_alike (defScope s__law_alike) := ⟨rfl, rfl, rfl, by decide +kernel, rfl, by decide +kernel, by decide +kernel⟩
theorem sc__law_any_number : FnScope n__law_any_number p__law_any_number (defScope s__law_any_number) := ⟨rfl, rfl, rfl, by decide +kernel, rfl, by decide +kernel, by decide +kernel⟩
theorem sc__law_any_name : FnScope n__law_any_name p__law_any_name (defScope s__law_any_name) := ⟨rfl, rfl, rfl, by decide +kernel, rfl, by decide +kernel, by decide +kernel⟩
theorem sc__law_any_heap : FnScope n__law_any_heap p__law_any_heap (defScope s__law_any_heap) := ⟨rfl, rfl, rfl, by decide +kernel, rfl, by decide +kernel, by decide +kernel⟩
theorem sc__law_any_deed : FnScope n__law_any_deed p__law_any_deed (defScope s__law_any_deed) := ⟨rfl, rfl, rfl, by decide +kernel, rfl, by decide +kernel, by decide +kernel⟩
theorem sc__law_thing_text : FnScope n__law_thing_text p__law_thing_text (defScope s__law_thing_text) := ⟨rfl, rfl, rfl, by decide +kernel, rfl, by decide +kernel, by decide +kernel⟩
theorem sc__law_deed_text : FnScope n__law_deed_text p__law_deed_text (defScope s__law_deed_text) := ⟨rfl, rfl, rfl, by decide +kernel, rfl, by decide +kernel, by decide +kernel⟩
theorem sc__law_figures : FnScope n__law_figures p__law_figures (defScope s__law_figures) := ⟨rfl, rfl, rfl, by decide +kernel, rfl, by decide +kernel, by decide +kernel⟩
theorem sc__law_thing_in : FnScope n__law_thing_in p__law_thing_in (defScope s__law_thing_in) := ⟨rfl, rfl, rfl, by decide +kernel, rfl, by decide +kernel, by decide +kernel⟩
theorem sc__law_read : FnScope n__law_read p__law_read (defScope s__law_read) := ⟨rfl, rfl, rfl, by decide +kernel, rfl, by decide +kernel, by decide +kernel⟩
theorem sc__law_spoilt : FnScope n__law_spoilt p__law_spoilt (defScope s__law_spoilt) := ⟨rfl, rfl, rfl, by decide +kernel, rfl, by decide +kernel, by decide +kernel⟩
theorem sc__law_told : FnScope n__law_told p__law_told (defScope s__law_told) := ⟨rfl, rfl, rfl, by decide +kernel, rfl, by decide +kernel, by decide +kernel⟩
theorem sc_law : FnScope n_law p_law (defScope s_law) := ⟨rfl, rfl, rfl, by decide +kernel, rfl, by decide +kernel, by decide +kernel⟩
structure Txt (K : PySem.W.Frag) (mg : Str → Option Value) : Prop where
  d_is_name : Dfn K mg "is_name" s_is_name p_is_name
  d_is_heap : Dfn K mg "is_heap" s_is_heap p_is_heap
  d_figured : Dfn K mg "figured" s_figured p_figured
  d_number_of : Dfn K mg "number_of" s_number_of p_number_of
  d_heap_of : Dfn K mg "heap_of" s_heap_of p_heap_of
  d_name_of : Dfn K mg "name_of" s_name_of p_name_of
  d_things_of : Dfn K mg "things_of" s_things_of p_things_of
  d_read_deed : Dfn K mg "read_deed" s_read_deed p_read_deed
  d__law_bag : Dfn K mg "_law_bag" s__law_bag p__law_bag
  d__law_pull : Dfn K mg "_law_pull" s__law_pull p__law_pull
  d__law_whole : Dfn K mg "_law_whole" s__law_whole p__law_whole
  d__law_heaps : Dfn K mg "_law_heaps" s__law_heaps p__law_heaps
  d__law_word : Dfn K mg "_law_word" s__law_word p__law_word
  d__law_alike : Dfn K mg "_law_alike" s__law_alike p__law_alike
  d__law_any_number : Dfn K mg "_law_any_number" s__law_any_number p__law_any_number
  d__law_any_name : Dfn K mg "_law_any_name" s__law_any_name p__law_any_name
  d__law_any_heap : Dfn K mg "_law_any_heap" s__law_any_heap p__law_any_heap
  d__law_any_deed : Dfn K mg "_law_any_deed" s__law_any_deed p__law_any_deed
  d__law_thing_text : Dfn K mg "_law_thing_text" s__law_thing_text p__law_thing_text
  d__law_deed_text : Dfn K mg "_law_deed_text" s__law_deed_text p__law_deed_text
  d__law_figures : Dfn K mg "_law_figures" s__law_figures p__law_figures
  d__law_thing_in : Dfn K mg "_law_thing_in" s__law_thing_in p__law_thing_in
  d__law_read : Dfn K mg "_law_read" s__law_read p__law_read
  d__law_spoilt : Dfn K mg "_law_spoilt" s__law_spoilt p__law_spoilt
  d__law_told : Dfn K mg "_law_told" s__law_told p__law_told
  d_law : Dfn K mg "law" s_law p_law
  m_all : mg "all" = none
  m_bool : mg "bool" = none
  m_int : mg "int" = none
  m_isinstance : mg "isinstance" = none
  m_len : mg "len" = none
  m_list : mg "list" = none
  m_range : mg "range" = none
  m_str : mg "str" = none
  m_tuple : mg "tuple" = none
  v_LETTERS : CVal mg "LETTERS" (.str "abcdefghijklmnopqrstuvwxyz")
  v_MOST_SIGNS : CVal mg "MOST_SIGNS" (.int 8)
  v_FIGURES : CVal mg "FIGURES" (.str "0123456789")
  v_MOST_FIGURES : CVal mg "MOST_FIGURES" (.int 13)
  e_KeelError : ∃ C, Exc K mg "KeelError" C ∧ PySem.W.exmOne K (.ref C) (.ref C) = some true
structure Txo (K : PySem.W.Frag) (w : World) (mg : Str → Option Value) : Prop where
  t : Txt K mg
  e_KeelError : Exc K mg "KeelError" (He.ga K "KeelError")
  dx_BadText : DfnM K "BadText" "__init__" "BadText.__init__" s_BadText___init__ p_BadText___init__
  gx_BadText : mg "BadText" = some (.ref (He.ga K "BadText"))
  ox_BadText : oexAll K (He.ga K "BadText") (He.ga K "KeelError") "at" = true
  tt_FORMS : CTabT K w mg "FORMS" [("out", (["name", "number"] : List PySem.Str)), ("load", (["name", "number", "number", "number"] : List PySem.Str)), ("sail", (["name", "number"] : List PySem.Str)), ("hire", (["name", "number"] : List PySem.Str)), ("dismiss", (["name", "number"] : List PySem.Str)), ("lend", (["name", "heap", "number", "number"] : List PySem.Str)), ("rescue", (["name", "heap", "number"] : List PySem.Str)), ("lose", (["name", "number", "number"] : List PySem.Str)), ("land", (["name"] : List PySem.Str)), ("settle", (["name", "number", "number"] : List PySem.Str))]
  tk_FORMS : keysB K (He.ga K "FORMS") (["out", "load", "sail", "hire", "dismiss", "lend", "rescue", "lose", "land", "settle"] : List PySem.Str) = true
  tb_READERS : CTab K w mg "READERS" [("name", .ref (He.ga K "name_of")), ("number", .ref (He.ga K "number_of")), ("heap", .ref (He.ga K "heap_of"))]
  g_name_of : mg "name_of" = some (.ref (He.ga K "name_of"))
  g_number_of : mg "number_of" = some (.ref (He.ga K "number_of"))
  g_heap_of : mg "heap_of" = some (.ref (He.ga K "heap_of"))
  x_BadText_BadText : PySem.W.exmOne K (.ref (He.ga K "BadText")) (.ref (He.ga K "BadText")) = some true
theorem txo_of {K : PySem.W.Frag} {h : Heap} {mg : Str → Option Value} {w : World} (X : K.In h) (G : h.Ns mainGlobals mg) (z : hdSays w K) : Txo K w mg := by
  have c0 : He.SaysT hdFa hdFn hdTs w K := congrArg (fun z : He.AlX × He.AlX => z.1.1) z
  have c0b : He.SaysT [] hdFn2 [] w K := congrArg (fun z : He.AlX × He.AlX => z.2.1) z
  have c2 : He.SaysD [] hdFn2 K := c0b.d
  have cx : hdEx K = true := congrArg (fun z : He.AlX × He.AlX => z.1.2) z
  have c : He.SaysD hdFa hdFn K := c0.d
  unfold hdEx at cx
  simp only [Bool.and_eq_true] at cx
  obtain ⟨⟨⟨x0, x1⟩, x2⟩, x3⟩ := cx
  exact {
    t := {
      d_is_name := hd_dfn X G (c.def_ 1 (d := hd_is_name) rfl) (c.fact 0 (f := .glo "is_name") rfl) (fun _ _ _ _ _ _ us hl => match us, hl with | [_], _ => rfl)
      d_is_heap := hd_dfn X G (c.def_ 2 (d := hd_is_heap) rfl) (c.fact 1 (f := .glo "is_heap") rfl) (fun _ _ _ _ _ _ us hl => match us, hl with | [_, _], _ => rfl)
      d_figured := hd_dfn X G (c.def_ 3 (d := hd_figured) rfl) (c.fact 2 (f := .glo "figured") rfl) (fun _ _ _ _ _ _ us hl => match us, hl with | [_], _ => rfl)
      d_number_of := hd_dfn X G (c.def_ 4 (d := hd_number_of) rfl) (c.fact 3 (f := .glo "number_of") rfl) (fun _ _ _ _ _ _ us hl => match us, hl with | [_], _ => rfl)
      d_heap_of := hd_dfn X G (c.def_ 5 (d := hd_heap_of) rfl) (c.fact 4 (f := .glo "heap_of") rfl) (fun _ _ _ _ _ _ us hl => match us, hl with | [_], _ => rfl)
      d_name_of := hd_dfn X G (c.def_ 6 (d := hd_name_of) rfl) (c.fact 5 (f := .glo "name_of") rfl) (fun _ _ _ _ _ _ us hl => match us, hl with | [_], _ => rfl)
      d_things_of := hd_dfn X G (c.def_ 7 (d := hd_things_of) rfl) (c.fact 6 (f := .glo "things_of") rfl) (fun _ _ _ _ _ _ us hl => match us, hl with | [_, _], _ => rfl)
      d_read_deed := hd_dfn X G (c2.def_ 0 (d := hd_read_deed) rfl) (c.fact 7 (f := .glo "read_deed") rfl) (fun _ _ _ _ _ _ us hl => match us, hl with | [_], _ => rfl)
      d__law_bag := hd_dfn X G (c2.def_ 1 (d := hd__law_bag) rfl) (c.fact 8 (f := .glo "_law_bag") rfl) (fun _ _ _ _ _ _ us hl => match us, hl with | [_], _ => rfl)
      d__law_pull := hd_dfn X G (c2.def_ 2 (d := hd__law_pull) rfl) (c.fact 9 (f := .glo "_law_pull") rfl) (fun _ _ _ _ _ _ us hl => match us, hl with | [_, _], _ => rfl)
      d__law_whole := hd_dfn X G (c2.def_ 3 (d := hd__law_whole) rfl) (c.fact 10 (f := .glo "_law_whole") rfl) (fun _ _ _ _ _ _ us hl => match us, hl with | [_], _ => rfl)
      d__law_heaps := hd_dfn X G (c2.def_ 4 (d := hd__law_heaps) rfl) (c.fact 11 (f := .glo "_law_heaps") rfl) (fun _ _ _ _ _ _ us hl => match us, hl with | [_], _ => rfl)
      d__law_word := hd_dfn X G (c2.def_ 5 (d := hd__law_word) rfl) (c.fact 12 (f := .glo "_law_word") rfl) (fun _ _ _ _ _ _ us hl => match us, hl with | [_, _], _ => rfl)
      d__law_alike := hd_dfn X G (c2.def_ 6 (d := hd__law_alike) rfl) (c.fact 13 (f := .glo "_law_alike") rfl) (fun _ _ _ _ _ _ us hl => match us, hl with | [_, _], _ => rfl)
      d__law_any_number := hd_dfn X G (c2.def_ 7 (d := hd__law_any_number) rfl) (c.fact 14 (f := .glo "_law_any_number") rfl) (fun _ _ _ _ _ _ us hl => match us, hl with | [_], _ => rfl)
      d__law_any_name := hd_dfn X G (c2.def_ 8 (d := hd__law_any_name) rfl) (c.fact 15 (f := .glo "_law_any_name") rfl) (fun _ _ _ _ _ _ us hl => match us, hl with | [_], _ => rfl)
      d__law_any_heap := hd_dfn X G (c2.def_ 9 (d := hd__law_any_heap) rfl) (c.fact 16 (f := .glo "_law_any_heap") rfl) (fun _ _ _ _ _ _ us hl => match us, hl with | [_], _ => rfl)
      d__law_any_deed := hd_dfn X G (c2.def_ 10 (d := hd__law_any_deed) rfl) (c.fact 17 (f := .glo "_law_any_deed") rfl) (fun _ _ _ _ _ _ us hl => match us, hl with | [_], _ => rfl)
      d__law_thing_text := hd_dfn X G (c2.def_ 11 (d := hd__law_thing_text) rfl) (c.fact 18 (f := .glo "_law_thing_text") rfl) (fun _ _ _ _ _ _ us hl => match us, hl with | [_], _ => rfl)
      d__law_deed_text := hd_dfn X G (c2.def_ 12 (d := hd__law_deed_text) rfl) (c.fact 19 (f := .glo "_law_deed_text") rfl) (fun _ _ _ _ _ _ us hl => match us, hl with | [_], _ => rfl)
      d__law_figures := hd_dfn X G (c2.def_ 13 (d := hd__law_figures) rfl) (c.fact 20 (f := .glo "_law_figures") rfl) (fun _ _ _ _ _ _ us hl => match us, hl with | [_], _ => rfl)
      d__law_thing_in := hd_dfn X G (c2.def_ 14 (d := hd__law_thing_in) rfl) (c.fact 21 (f := .glo "_law_thing_in") rfl) (fun _ _ _ _ _ _ us hl => match us, hl with | [_, _], _ => rfl)
      d__law_read := hd_dfn X G (c2.def_ 15 (d := hd__law_read) rfl) (c.fact 22 (f := .glo "_law_read") rfl) (fun _ _ _ _ _ _ us hl => match us, hl with | [_], _ => rfl)
      d__law_spoilt := hd_dfn X G (c2.def_ 16 (d := hd__law_spoilt) rfl) (c.fact 23 (f := .glo "_law_spoilt") rfl) (fun _ _ _ _ _ _ us hl => match us, hl with | [_, _], _ => rfl)
      d__law_told := hd_dfn X G (c2.def_ 17 (d := hd__law_told) rfl) (c.fact 24 (f := .glo "_law_told") rfl) (fun _ _ _ _ _ _ us hl => match us, hl with | [_], _ => rfl)
      d_law := hd_dfn X G (c2.def_ 18 (d := hd_law) rfl) (c.fact 25 (f := .glo "law") rfl) (fun _ _ _ _ _ _ us hl => match us, hl with | [_], _ => rfl)
      m_all := He.free_ok X G (c.fact 26 (f := .free "all") rfl)
      m_bool := He.free_ok X G (c.fact 27 (f := .free "bool") rfl)
      m_int := He.free_ok X G (c.fact 28 (f := .free "int") rfl)
      m_isinstance := He.free_ok X G (c.fact 29 (f := .free "isinstance") rfl)
      m_len := He.free_ok X G (c.fact 30 (f := .free "len") rfl)
      m_list := He.free_ok X G (c.fact 31 (f := .free "list") rfl)
      m_range := He.free_ok X G (c.fact 32 (f := .free "range") rfl)
      m_str := He.free_ok X G (c.fact 33 (f := .free "str") rfl)
      m_tuple := He.free_ok X G (c.fact 34 (f := .free "tuple") rfl)
      v_LETTERS := hd_str X G (c.fact 35 (f := .str "LETTERS" "abcdefghijklmnopqrstuvwxyz") rfl)
      v_MOST_SIGNS := hd_int X G (c.fact 36 (f := .int "MOST_SIGNS" (8)) rfl)
      v_FIGURES := hd_str X G (c.fact 37 (f := .str "FIGURES" "0123456789") rfl)
      v_MOST_FIGURES := hd_int X G (c.fact 38 (f := .int "MOST_FIGURES" (13)) rfl)
      e_KeelError := ⟨_, hd_exc X G (c.fact 41 (f := .glo "KeelError") rfl) (c.fact 42 (f := .exc "KeelError") rfl), He.exm_ok (c.fact 45 (f := .exm "KeelError" "KeelError" true) rfl)⟩
    }
    e_KeelError := hd_exc X G (c.fact 41 (f := .glo "KeelError") rfl) (c.fact 42 (f := .exc "KeelError") rfl)
    dx_BadText := hd_dfnM (c.def_ 0 (d := hd_BadText___init__) rfl) (c.fact 44 (f := .meth "BadText" "__init__") rfl) (fun _ _ _ _ _ _ us hl => match us, hl with | [_, _], _ => rfl)
    gx_BadText := He.glo_ok X G (c.fact 43 (f := .glo "BadText") rfl)
    ox_BadText := x3
    tt_FORMS := hd_tabT X G (c.fact 39 (f := .glo "FORMS") rfl) (c0.tab 0 (t := hdTab_FORMS) rfl) x1
    tk_FORMS := x2
    tb_READERS := hd_tab X G (c.fact 40 (f := .glo "READERS") rfl) (c0.tab 1 (t := hdTab_READERS) rfl) x0
    g_name_of := He.glo_ok X G (c.fact 5 (f := .glo "name_of") rfl)
    g_number_of := He.glo_ok X G (c.fact 3 (f := .glo "number_of") rfl)
    g_heap_of := He.glo_ok X G (c.fact 4 (f := .glo "heap_of") rfl)
    x_BadText_BadText := He.exm_ok (c.fact 46 (f := .exm "BadText" "BadText" true) rfl)
  }
end W
set_option synthInstance.maxHeartbeats 400000
set_option synthInstance.maxSize 1000
namespace W
open PySem L2 G M
section
variable {P : Program} {w : World} {K : PySem.W.Frag} {mg : Str → Option Value} {base : Heap}
def deedRs (K : PySem.W.Frag) : Deed → List RR
  | .out n w => [isS "out", isS n, isInt w]
  | .load n l w f => [isS "load", isS n, isInt l, isInt w, isInt f]
  | .sail n d => [isS "sail", isS n, isInt d]
  | .hire n w => [isS "hire", isS n, isInt w]
  | .dismiss n k => [isS "dismiss", isS n, isInt k]
  | .lend n h s g => [isS "lend", isS n, isH K h, isInt s, isInt g]
  | .rescue n h s => [isS "rescue", isS n, isH K h, isInt s]
  | .lose n f w => [isS "lose", isS n, isInt f, isInt w]
  | .land n => [isS "land", isS n]
  | .settle n k s => [isS "settle", isS n, isInt k, isInt s]
abbrev isDeed (K : PySem.W.Frag) (d : Deed) : RR := isTup K (deedRs K d)
instance {d : Deed} : Ims (deedRs K d) := by cases d <;> (unfold deedRs; infer_instance)
end
end W
namespace W
open PySem L2 G M
section
variable {P : Program} {w : World} {K : PySem.W.Frag} {mg : Str → Option Value} {base : Heap}
abbrev spBag : Sp := FS (γ := List Int) (fun _ => True) (fun ns => [.r (isLst K (ns.map isInt))]) (fun _ => [.u]) (fun _ => .x bagO)
theorem ok_bag (D : Dfn K mg "_law_bag" s__law_bag p__law_bag) (ml : mg "len" = none) (mL : mg "list" = none) : Has P w K mg base 1 "_law_bag" p__law_bag (spBag (K := K)) := by
  refine has_ok D sc__law_bag (fun _ => rfl) fun ns vs f cdv A outer s H E hr hv _ _ => ?_
  have nd := sc__law_bag.nd
  refine gs_setx 1 (P := fun n : Int => 0 ≤ n ∧ n < 2000000) (c := isInt) (ge_conv (ge_len ml (ge_frzL (go_to (n := 63) (ge_var 0) ge_int))) fun v _ h => ⟨_, ⟨Int.natCast_nonneg _, ?_⟩, h⟩) (fun n hn => ?_) nd
  · rw [List.length_take]; omega
  refine gs_forL (α := Int) 2 (fun _ n => 0 ≤ n ∧ n < 2000000) (fun n => [.r (isLst K (ns.map isInt)), .r (isInt n), .u]) n (ge_frzL (go_to (n := 63) (ge_var 0) ge_int)) hn (fun i n R hR hn => ?_) (fun n hn => ?_) PassesOwn.never nd
  · rw [← List.map_take, List.getElem?_map] at hR
    cases q : (ns.take 63)[i]? with
    | none => rw [q] at hR; cases hR
    | some m =>
      rw [q] at hR
      cases hR
      refine gs_set 1 (ge_mod (ge_add (ge_mulS (ge_var 1) ge_int (.inl ⟨by omega, by omega⟩)) (ge_var 2)) ge_int (by decide)) (gs_nil ?_) nd
      exact ⟨_, ⟨Int.emod_nonneg _ (by decide), Int.lt_trans (Int.emod_lt_of_pos _ (by decide)) (by decide)⟩, rfl⟩
  · refine gs_retPO (go_conv (φ' := bagO) (go_bag (ns := ns.take 63) (go_eq (go_list mL (ge_frzL (go_to (n := 63) (ge_var 0) ge_int))) ?_) ge_int ge_int (ge_var 1)) fun v H h p => ⟨_, _, _, _, ⟨?_, ?_⟩, p⟩) hv
    · congr 1; exact List.map_take.symm
    · rw [List.length_take]; omega
    · exact Int.le_refl 0
/-- a drawn number -/
abbrev drawn (n : Int) : RR := exR (fun r : Int => 0 ≤ r ∧ r < n) isInt
abbrev spPull : Sp := FS (γ := V × Int) (fun g => 0 < g.2 ∧ g.2.natAbs < 2 ^ 200) (fun g => [.o g.1 bagO, .r (isInt g.2)]) (fun g => [.o g.1 bagO, .u]) (fun g => .r (drawn g.2))
theorem pull_div {m : Int} (h : 0 < m) (h2 : m.natAbs < 2 ^ 200) {i : Int} : CDivW i m := wide_div h (b := 200) h2 (by decide) (by decide)
theorem ok_pull (D : Dfn K mg "_law_pull" s__law_pull p__law_pull) (ml : mg "len" = none) : Has P w K mg base 1 "_law_pull" p__law_pull spPull := by
  refine has_ok D sc__law_pull (fun _ => rfl) fun g vs f cdv A outer s H E hr hv ho hp => ?_
  obtain ⟨b, m⟩ := g
  obtain ⟨h0, h1⟩ := hp
  dsimp only at h0 h1
  obtain ⟨vs, rfl⟩ := own_first (ho 0 b bagO rfl)
  have hv' : vs.length = 1 := by simpa using hv
  have nd := sc__law_pull.nd
  have mod : ∀ x : Int, (fun r : Int => 0 ≤ r ∧ r < m) (x % m) := fun x => ⟨Int.emod_nonneg _ (by omega), Int.emod_lt_of_pos _ h0⟩
  refine gs_oex (w := b) (α := List Int × Int × Int × Int) (P := fun x => x.1.length ≤ 63 ∧ 0 ≤ x.2.1) (ψ := fun x => bagX x.1 x.2.1 x.2.2.1 x.2.2.2) 0 (φ := bagO) (fun Hb h ⟨ns, i, d, s, p, q⟩ => ⟨(ns, i, d, s), p, q⟩) ?_
  rintro ⟨ns, i, d, sa⟩ ⟨hl, hi⟩
  dsimp only at hl hi
  show GS _ [.o b (bagX ns i d sa), .r (isInt m), .u, .u, .u] _ _ _
  refine gs_if (N1 := fun Γ' => ∃ i' d', 0 ≤ i' ∧ Γ' = [.o b (bagX ns i' d' sa), .r (isInt m), .u, .u, .u]) (gt_le (ge_lend 0 rfl (bag_rds K) (ge_ixL 2 (ge_var 0) ge_int)) ge_int) (fun _ => ?_) (fun _ => gs_nil ⟨i, d, hi, rfl⟩) ?_
  · refine gs_augW 0 ge_int ge_int bag_rd1 bag_wr1 ?_
    show GS _ [.o b (bagX ns (i + 1) d sa), .r (isInt m), .u, .u, .u] _ _ _
    refine gs_set 2 (ge_lend 0 rfl (bag_rds K) (ge_ixL 3 (ge_var 0) ge_int)) ?_ nd
    show GS _ [.o b (bagX ns (i + 1) d sa), .r (isInt m), .r (isInt sa), .u, .u] _ _ _
    refine gs_if (N1 := fun Γ' => ∃ sd, Γ' = [.o b (bagX ns (i + 1) d sa), .r (isInt m), .r (isInt sd), .u, .u]) (P := (· = decide (i + 1 ≤ (ns.length : Int)))) (gt_lend 0 rfl (bag_rds K) (gt_le (ge_ixL 1 (ge_var 0) ge_int) (ge_len (n := ns.length) ml (ge_ixL 0 (ge_var 0) ge_int) (by simp)))) (fun z => ?_) (fun _ => gs_nil ⟨sa, rfl⟩) ?_
    · have hlt : i + 1 ≤ (ns.length : Int) := of_decide_eq_true z.symm
      have hlt2 : i.toNat < ns.length := by omega
      refine gs_set 2 (ge_lend 0 rfl (bag_rds K) (ge_ixL i.toNat (R := isInt ns[i.toNat]) (ge_ixL 0 (ge_var 0) ge_int) (ge_sub (ge_ixL 1 (ge_var 0) ge_int) ge_int) ?_ ?_)) (gs_nil ⟨_, rfl⟩) nd
      · rw [List.getElem?_map, List.getElem?_eq_getElem hlt2]; rfl
      · omega
    · rintro Γ' ⟨sd, rfl⟩
      refine gs_ifR (P := fun _ => True) (gt_conv (gt_or (gt_lend 0 rfl (bag_rds K) (gt_gt (ge_ixL 1 (ge_var 0) ge_int) (ge_len (n := ns.length) ml (ge_ixL 0 (ge_var 0) ge_int) (by simp)))) fun _ => gt_lt (ge_var 2) (ge_pow ge_int ge_int ⟨by decide, by decide, by decide⟩)) fun _ _ => trivial) (fun _ => ?_) fun _ => ?_
      · refine gs_setx 3 (P := fun x : Int => 0 ≤ x ∧ x < 2147483647) (c := isInt) (ge_conv (ge_mod (ge_add (ge_add (ge_mulS (ge_var 2) ge_int (.inr ⟨by decide, by decide⟩)) (ge_mulS (ge_lend 0 rfl (bag_rds K) (ge_ixL 1 (ge_var 0) ge_int)) ge_int (.inr ⟨by decide, by decide⟩))) ge_int) ge_int (by decide)) fun v _ h => ⟨_, ⟨Int.emod_nonneg _ (by decide), Int.emod_lt_of_pos _ (by decide)⟩, h⟩) ?_ nd
        rintro x ⟨x0, x1⟩
        refine gs_setx 3 (P := fun x : Int => 0 ≤ x ∧ x < 2147483647) (c := isInt) (ge_conv (ge_mod (ge_mulS (ge_var 3) (ge_var 3) (.inl ⟨by omega, by omega⟩)) ge_int (by decide)) fun v _ h => ⟨_, ⟨Int.emod_nonneg _ (by decide), Int.lt_trans (Int.emod_lt_of_pos _ (by decide)) (by decide)⟩, h⟩) ?_ nd
        rintro y ⟨y0, y1⟩
        refine gs_ret1c (R := drawn m) (n := 1) (ge_conv (ge_mod (ge_fdivS (ge_mod (ge_mulS (ge_add (ge_var 3) (ge_lend 0 rfl (bag_rds K) (ge_ixL 1 (ge_var 0) ge_int))) ge_int (.inr ⟨by decide, by decide⟩)) ge_int (by decide)) ge_int ⟨by decide, by decide⟩) (ge_var 1) h0) fun v _ h => ⟨_, mod _, h⟩) hv' (fun Hb h p => ⟨ns, i + 1, d, sa, ⟨hl, by omega⟩, p⟩)
      · exact gs_setW 0 (ge_var 2) ge_int bag_wr2 (gs_drop 2 (gs_nil ⟨i + 1, _, by omega, rfl⟩))
  · rintro Γ' ⟨i', d', hi', rfl⟩
    refine gs_set 4 (ge_mod (ge_lend 0 rfl (bag_rds K) (ge_ixL 2 (ge_var 0) ge_int)) (ge_var 1) h0) ?_ nd
    refine gs_setW 0 (ge_fdiv (ge_lend 0 rfl (bag_rds K) (ge_ixL 2 (ge_var 0) ge_int)) (ge_var 1) (pull_div h0 h1)) ge_int bag_wr2 ?_
    exact gs_ret1c (R := drawn m) (n := 1) (ge_conv (ge_var 4) fun v _ h => ⟨_, mod _, h⟩) hv' fun Hb h p => ⟨_, _, _, _, ⟨hl, hi'⟩, p⟩
section
variable {X : Cx} {Γ : List Sl} {e0 a : Expr} {pos pn : Pos} {k : Nat}
/-- pull(bag, n) -/
theorem ge_pull (i : Nat) {n : Int} {p : Pos} {x : Str} {b : V} (F : Has X.prog X.w X.K X.mg X.base 1 "_law_pull" p__law_pull spPull) (hr : Room 1 X.A) (ha : GE X Γ a (isInt n)) (hn : 0 < n ∧ n.natAbs < 2 ^ 200 := by decide) (hΓ : Γ[i]? = some (.o b bagO) := by rfl) (hN : X.N[i]? = some x := by rfl) (hv : Vis X.env.scope x := by first | exact Or.inl rfl | exact Or.inr (Or.inl rfl) | exact Or.inr (Or.inr rfl))
    (hout : Γ.set i (.o b bagO) = Γ := by rfl) (hg : Gl X "_law_pull" := by rfl) (hd : (x == ("__debug__" : Str)) = false := by decide) (hcd : (x == ("__classdict__" : Str)) = false := by decide)
    (h1 : starEach [.Name x p, a] X.env = (false, eval (.Name x p) X.env) :: starEach [a] X.env := by rfl) (h2 : starEach [a] X.env = (false, eval a X.env) :: starEach [] X.env := by rfl) (h3 : (backTo pos (starEach [a] X.env)).any (·.1) = false := by rfl) : GE X Γ (.Call (.Name "_law_pull" pn) [.Name x p, a] [] pos) (drawn n) :=
  ge_callH (b, n) F hr hn (ga_own i (ga_cons ha ga_nil h2) hΓ hN hv h1 hd hcd) (by show [Sl.o b bagO, .r (isInt n)] = [Γ.getD i .u, .r (isInt n)]; rw [List.getD_eq_getElem?_getD, hΓ]; rfl) rfl hout rfl rfl hg (by decide) h1 h3
end
end
end W
set_option synthInstance.maxHeartbeats 400000
set_option synthInstance.maxSize 1000
namespace W
open PySem L2 G M
section
variable {P : Program} {w : World} {K : PySem.W.Frag} {mg : Str → Option Value} {base : Heap}
abbrev formsT : List (Str × List Str) := [("out", ["name", "number"]), ("load", ["name", "number", "number", "number"]), ("sail", ["name", "number"]), ("hire", ["name", "number"]), ("dismiss", ["name", "number"]), ("lend", ["name", "heap", "number", "number"]), ("rescue", ["name", "heap", "number"]), ("lose", ["name", "number", "number"]), ("land", ["name"]), ("settle", ["name", "number", "number"])]
theorem form_mem (d : Deed) : (d.word, d.things.map Thing.kind) ∈ formsT := by
  cases d <;> (dsimp only [Deed.word, Deed.things, List.map, Thing.kind]; simp [formsT])
def thingR (K : PySem.W.Frag) : Thing → RR | .s z => isS z | .i n => isInt n | .h l => isH K l
theorem deed_things (d : Deed) : deedRs K d = isS d.word :: d.things.map (thingR K) := by cases d <;> rfl
theorem slO_eq {v : V} {a b : List RR} [Ims a] [Ims b] (e : a = b) : Sl.o v (ownL a) = Sl.o v (ownL b) := by subst e; rfl
abbrev spDeedText (K : PySem.W.Frag) : Sp := FS (γ := Deed) (fun d => d.Fits) (fun d => [.r (isDeed K d)]) (fun _ => [.u]) (fun d => .r (isS d.line))
end
end W
namespace W
open PySem L2 G M
section
variable {P : Program} {w : World} {K : PySem.W.Frag} {mg : Str → Option Value} {base : Heap}
@[irreducible] def GcdOk (n u : Int) : Prop := Int.gcd n u < 2 ^ 9000
end
end W
namespace W
open PySem L2 G M
section
variable {P : Program} {w : World} {K : PySem.W.Frag} {mg : Str → Option Value} {base : Heap}
theorem letters_len : lettersL.length = 26 := by decide +kernel
abbrev spName : Sp := FS (γ := Str) (fun z => z.length ≤ sizeLine) (fun z => [.r (isS z)]) (fun _ => [.u]) (fun z => .r (isB (nameOk z)))
theorem ok_is_name (D : Dfn K mg "is_name" s_is_name p_is_name) (ml : mg "len" = none) (T1 : CVal mg "LETTERS" (.str "abcdefghijklmnopqrstuvwxyz")) (T2 : CVal mg "MOST_SIGNS" (.int 8)) : Has P w K mg base 1 "is_name" p_is_name spName := by
  refine has_ok D sc_is_name (fun _ => rfl) fun z vs f cdv A outer s H E hr hv _ hz => ?_
  have nd := sc_is_name.nd
  refine gs_ifR (gt_not (gt_chain op_le op_le ge_int (ge_lenS ml (ge_var 0) hz) fun _ => ge_cint T2)) (fun h => gs_retP (ge_eq ge_bl ?_) hv) fun h => ?_
  · have h2 : (decide ((1 : Int) ≤ z.length) && decide ((z.length : Int) ≤ 8)) = false := by
      generalize (decide ((1 : Int) ≤ z.length) && decide ((z.length : Int) ≤ 8)) = b at h ⊢
      cases b <;> simp at h ⊢
    show isB false = isB (nameOk z)
    unfold nameOk
    rw [h2]; rfl
  have h2 : (decide ((1 : Int) ≤ z.length) && decide ((z.length : Int) ≤ 8)) = true := by
    generalize (decide ((1 : Int) ≤ z.length) && decide ((z.length : Int) ≤ 8)) = b at h ⊢
    cases b <;> simp at h ⊢
  refine gs_forS (α := Unit) 1 (fun i _ => ∀ ch ∈ (tx z).take i, ch ∈ lettersL) (fun _ => [.r (isS z), .u]) () (ge_var 0) (fun _ h => absurd h (by simp)) (fun i _ ch hc hi => ?_) (fun _ hi => gs_retP (ge_eq ge_bl ?_) hv) PassesOwn.never nd
  · refine gs_ifR (gt_notInS (ge_var 1) (ge_cstr T1)) (fun h => gs_retP (ge_eq ge_bl ?_) hv) fun h => gs_drops [1] (gs_nil ⟨(), ?_, rfl⟩)
    · have h3 : ch ∉ lettersL := by
        have : (!decide (ch ∈ tx ("abcdefghijklmnopqrstuvwxyz" : Str))) = true := h.symm
        show ¬ (ch ∈ tx ("abcdefghijklmnopqrstuvwxyz" : Str))
        simpa using this
      show isB false = isB (nameOk z)
      unfold nameOk
      rw [decide_eq_false (p := ∀ ch ∈ tx z, ch ∈ lettersL) fun q => h3 (q ch (List.mem_of_getElem? hc)), Bool.and_false]
    · have h3 : ch ∈ lettersL := by
        have : (!decide (ch ∈ tx ("abcdefghijklmnopqrstuvwxyz" : Str))) = false := h.symm
        show ch ∈ tx ("abcdefghijklmnopqrstuvwxyz" : Str)
        simpa using this
      intro c hc2
      rw [take_succ_get hc] at hc2
      rcases List.mem_append.mp hc2 with h4 | h4
      · exact hi c h4
      · rw [List.mem_singleton.mp h4]; exact h3
  · rw [List.take_length] at hi
    show isB true = isB (nameOk z)
    unfold nameOk
    rw [h2, decide_eq_true hi]; rfl
/-- a drawn word -/
def WordOf (n : Nat) (t : Str) : Prop := (tx t).length = n ∧ ∀ ch ∈ tx t, ch ∈ lettersL
abbrev spWord : Sp := FS (γ := V × Int) (fun g => 0 ≤ g.2 ∧ g.2 ≤ 1000) (fun g => [.o g.1 bagO, .r (isInt g.2)]) (fun g => [.o g.1 bagO, .u]) (fun g => .r (exR (WordOf g.2.toNat) isS))
def SignOf (t : Str) : Prop := ∃ ch, t = ⟨#[ch]⟩ ∧ ch ∈ lettersL
theorem word_join : ∀ ys : List Str, (∀ y ∈ ys, SignOf y) → (ys.map (·.length)).sum = ys.length ∧ WordOf ys.length (Str.join "" ys) := by
  intro ys h
  have e1 : ∀ ys : List Str, (∀ y ∈ ys, SignOf y) → TL.joinL [] (ys.map tx) = (ys.map tx).flatten ∧ ((ys.map tx).flatten).length = ys.length ∧ (∀ ch ∈ (ys.map tx).flatten, ch ∈ lettersL) ∧ (ys.map (·.length)).sum = ys.length := by
    intro ys
    induction ys with
    | nil => intro _; exact ⟨rfl, rfl, fun _ h => absurd h (by simp), rfl⟩
    | cons y ys ih =>
      intro h
      obtain ⟨a1, a2, a3, a4⟩ := ih fun z hz => h z (List.mem_cons_of_mem _ hz)
      obtain ⟨ch, rfl, hc⟩ := h y (by simp)
      have e2 : tx (⟨#[ch]⟩ : Str) = [ch] := rfl
      refine ⟨?_, ?_, ?_, ?_⟩
      · rw [List.map_cons, e2, List.flatten_cons, ← a1]
        cases ys with
        | nil => rfl
        | cons z zs => rfl
      · rw [List.map_cons, e2, List.flatten_cons, List.length_append, a2]; simp [Nat.add_comm]
      · intro c hc2
        rw [List.map_cons, e2, List.flatten_cons] at hc2
        rcases List.mem_append.mp hc2 with h4 | h4
        · rw [List.mem_singleton.mp h4]; exact hc
        · exact a3 c h4
      · rw [List.map_cons, List.sum_cons, a4, tx_len, e2]; simp [Nat.add_comm]
  obtain ⟨a1, a2, a3, a4⟩ := e1 ys h
  have e3 : tx (Str.join "" ys) = (ys.map tx).flatten := by rw [← a1]; exact TL.tl_join "" ys
  exact ⟨a4, by rw [e3]; exact a2, by rw [e3]; exact a3⟩
theorem ok_law_word (D : Dfn K mg "_law_word" s__law_word p__law_word) (mr : mg "range" = none) (F1 : Has P w K mg base 1 "_law_pull" p__law_pull spPull) : Has P w K mg base 2 "_law_word" p__law_word spWord := by
  refine has_ok D sc__law_word (fun _ => rfl) fun g vs f cdv A outer s H E hr hv ho hp => ?_
  obtain ⟨b, n⟩ := g
  obtain ⟨h0, h1⟩ := hp
  dsimp only at h0 h1
  obtain ⟨vs, rfl⟩ := own_first (ho 0 b bagO rfl)
  have hv' : vs.length = 1 := by simpa using hv
  have nd := sc__law_word.nd
  refine gs_ret1 (R := exR (WordOf n.toNat) isS) (ge_joinx (P := Idrawn SignOf n.toNat) ge_str (ge_conv (ge_frzx (go_lc (c := isS) 2 (src_range mr (ge_var 1) ⟨by omega, by omega⟩) (Idrawn SignOf) ⟨rfl, fun _ h => absurd h (by simp)⟩ (fun i R hR => lcT_drawn fun s H C cl fp => ge_ixSx (P := (· = lettersS)) (p' := fun j => 0 ≤ j ∧ j < 26) (q := fun ch => ch ∈ lettersL) (ge_sx ge_str rfl) (ge_pull 0 (n := 26) F1 hr ge_int) fun z j hz hj => ?_) len_drawn (show BlkOk n__law_word (defScope s__law_word) _ _ from blkOk_by (by decide +kernel)) sc__law_word.nd (by rw [rngR_len]; omega))) fun v H q => ?_) fun ys hy => ?_) hv'
  · subst hz
    have hj2 : j.toNat < lettersL.length := by rw [letters_len]; omega
    refine ⟨lettersL[j.toNat], ?_, List.getElem_mem _, by rw [tx_len]; show lettersL.length ≤ _; rw [letters_len]; decide⟩
    have : atI lettersL j = lettersL[j.toNat]? := by
      unfold atI ixN
      rw [if_pos hj.1, if_pos (by rw [letters_len]; omega)]; rfl
    show atI lettersL j = _
    rw [this, List.getElem?_eq_getElem hj2]
  · rw [rngR_len] at q; exact q
  · obtain ⟨a1, a2⟩ := word_join ys hy.2
    refine ⟨by rw [a1, hy.1]; show n.toNat + n.toNat * 0 ≤ _; omega, ?_⟩
    rw [← hy.1, TL.join_eq]; exact a2
abbrev spWordx : Sp := FS (γ := V × (Int → Prop)) (fun g => ∀ n, g.2 n → 0 ≤ n ∧ n ≤ 1000) (fun g => [.o g.1 bagO, .r (exR g.2 isInt)]) (fun g => [.o g.1 bagO, .u]) (fun g => .r (exR (fun t => ∃ n : Int, g.2 n ∧ WordOf n.toNat t) isS))
theorem wordx (F : Has P w K mg base 2 "_law_word" p__law_word spWord) : Has P w K mg base 2 "_law_word" p__law_word spWordx :=
  F.imp fun ⟨b, p⟩ hp Hb H σ hs A => by
    obtain ⟨m, pm, A'⟩ := A.ex 1 rfl
    exact ⟨(b, m), hp m pm, A', rfl, fun o Hb h ⟨v, e, r, hr, q⟩ => ⟨v, e, r, ⟨m, pm, hr⟩, q⟩⟩
end
end W
namespace W
open PySem L2 G M
section
variable {P : Program} {w : World} {K : PySem.W.Frag} {mg : Str → Option Value} {base : Heap}
abbrev spIsHeap (K : PySem.W.Frag) : Sp := FS (γ := Int × List Int) (fun g => g.2.length ≤ 100000) (fun g => [.r (isInt g.1), .r (isH K g.2)]) (fun _ => [.u, .u]) (fun g => .r (isB (decide (IsHp g.1 g.2))))
theorem isHp_take {n : Int} {h : List Int} {i : Nat} {x : Int} (hx : h[i]? = some x) : IsHp n (h.take (i + 1)) ↔ IsHp n (h.take i) ∧ (0 ≤ x ∧ x < n) ∧ ∀ y ∈ h.take i, y < x := by
  rw [take_succ_get hx]
  unfold IsHp
  rw [List.pairwise_append]
  constructor
  · rintro ⟨⟨h1, _, h3⟩, h4⟩
    exact ⟨⟨h1, fun y hy => h4 y (List.mem_append_left _ hy)⟩, h4 x (by simp), fun y hy => h3 y hy x (by simp)⟩
  · rintro ⟨⟨h1, h2⟩, h3, h4⟩
    refine ⟨⟨h1, List.pairwise_singleton _ _, fun y hy z hz => by rw [List.mem_singleton.mp hz]; exact h4 y hy⟩, fun y hy => ?_⟩
    rcases List.mem_append.mp hy with q | q
    · exact h2 y q
    · rw [List.mem_singleton.mp q]; exact h3
theorem isHp_no {n : Int} {h : List Int} {i : Nat} (q : ¬ IsHp n (h.take i)) : ¬ IsHp n h := fun ⟨h1, h2⟩ => q ⟨h1.sublist (List.take_sublist _ _), fun x hx => h2 x (List.mem_of_mem_take hx)⟩
theorem rs_prev {K : PySem.W.Frag} {h : List Int} {i : Nat} (hlt : i < h.length) : (h.map isInt)[i - 1]? = some (isInt (h.getD (i - 1) 0)) := by
  rw [List.getElem?_map, List.getElem?_eq_getElem (show i - 1 < h.length by omega), List.getD_eq_getElem?_getD, List.getElem?_eq_getElem (show i - 1 < h.length by omega)]; rfl
theorem ok_is_heap (D : Dfn K mg "is_heap" s_is_heap p_is_heap) (mr : mg "range" = none) (ml : mg "len" = none) : Has P w K mg base 1 "is_heap" p_is_heap (spIsHeap K) := by
  refine has_ok D sc_is_heap (fun _ => rfl) fun g vs f cdv A outer s H E hr hv _ hz => ?_
  obtain ⟨n, h⟩ := g
  have hz : h.length ≤ 100000 := hz
  have nd := sc_is_heap.nd
  refine gs_forR (α := Unit) 2 (fun i _ => IsHp n (h.take i)) (fun _ => [.r (isInt n), .r (isH K h), .u]) () (ge_lenT (n := h.length) ml (ge_var 1) (by simp)) ⟨by omega, by omega⟩ ⟨List.Pairwise.nil, fun _ q => absurd q List.not_mem_nil⟩ (fun i _ hi q => ?_) (fun _ q => gs_retP (ge_eq ge_bl ?_) hv) mr PassesOwn.never nd
  · have hlt : i < h.length := by omega
    have hx : h[i]? = some h[i] := List.getElem?_eq_getElem hlt
    refine gs_ifR (gt_not (gt_chain op_le op_lt ge_int (ge_ixT i (R := isInt h[i]) (ge_var 1) (ge_var 2) (by rw [List.getElem?_map, hx]; rfl) rfl) fun _ => ge_var 0)) (fun z => gs_retP (ge_eq ge_bl ?_) hv) fun z => ?_
    · show isB false = isB (decide (IsHp n h))
      rw [decide_eq_false]
      refine isHp_no (i := i + 1) fun q2 => ?_
      have := ((isHp_take hx).mp q2).2.1
      rw [decide_eq_true this.1, decide_eq_true this.2] at z
      cases z
    have z1 : 0 ≤ h[i] ∧ h[i] < n := by
      by_cases a1 : 0 ≤ h[i]
      · by_cases a2 : h[i] < n
        · exact ⟨a1, a2⟩
        · rw [decide_eq_false a2, Bool.and_false] at z; cases z
      · rw [decide_eq_false a1] at z; cases z
    refine gs_ifR (gt_and (d := decide (h[i] ≤ h.getD (i - 1) 0)) (gt_gt (ge_var 2) ge_int) fun z2 => ?_) (fun z => gs_retP (ge_eq ge_bl ?_) hv) fun z => ?_
    · have z5 : 0 < (i : Int) := of_decide_eq_true z2
      refine gt_ge (ge_ixT (i - 1) (R := isInt (h.getD (i - 1) 0)) (ge_var 1) (ge_sub (ge_var 2) ge_int) (rs_prev (K := K) hlt) (by omega)) (ge_ixT i (R := isInt h[i]) (ge_var 1) (ge_var 2) (by rw [List.getElem?_map, hx]; rfl) rfl)
    · show isB false = isB (decide (IsHp n h))
      have z3 := (Bool.and_eq_true _ _).mp z.symm
      have a1 := of_decide_eq_true z3.1
      have a2 := of_decide_eq_true z3.2
      rw [decide_eq_false]
      refine isHp_no (i := i + 1) fun q2 => ?_
      have q3 := ((isHp_take hx).mp q2).2.2 (h.getD (i - 1) 0) ?_
      · omega
      · rw [List.getD_eq_getElem?_getD, List.getElem?_eq_getElem (show i - 1 < h.length by omega)]
        exact List.mem_take_iff_getElem.mpr ⟨i - 1, by omega, rfl⟩
    · refine gs_drops [2] (gs_nil ⟨(), (isHp_take hx).mpr ⟨q, z1, fun y hy => ?_⟩, rfl⟩)
      obtain ⟨j, hj, rfl⟩ := List.mem_take_iff_getElem.mp hy
      have i0 : 0 < i := by omega
      have z4 : h.getD (i - 1) 0 < h[i] := by
        have : ¬ (h[i] ≤ h.getD (i - 1) 0) := fun w => by
          rw [decide_eq_true w, decide_eq_true (show 0 < (i : Int) by omega)] at z
          cases z
        omega
      have e5 : h.getD (i - 1) 0 = h[i - 1] := by
        rw [List.getD_eq_getElem?_getD, List.getElem?_eq_getElem (show i - 1 < h.length by omega)]; rfl
      rw [e5] at z4
      by_cases ej : j = i - 1
      · subst ej; exact z4
      · have pw := (List.pairwise_iff_getElem.mp q.1) j (i - 1) (by rw [List.length_take]; omega) (by rw [List.length_take]; omega) (by omega)
        rw [List.getElem_take, List.getElem_take] at pw
        omega
  · have e : ((h.length : Int)).toNat = h.length := by omega
    rw [e, List.take_length] at q
    show isB true = isB (decide (IsHp n h))
    rw [decide_eq_true q]
end
end W
set_option synthInstance.maxHeartbeats 400000
set_option synthInstance.maxSize 1000
namespace W
open PySem L2 G M
section
variable {P : Program} {w : World} {K : PySem.W.Frag} {mg : Str → Option Value} {base : Heap}
instance {t : Thing} : Im (thingR K t) := by cases t <;> (unfold thingR; infer_instance)
abbrev spFigured : Sp := FS (γ := Str) (fun z => z.length ≤ sizeLine) (fun z => [.r (isS z)]) (fun _ => [.u]) (fun z => .r (isB (figB z)))
theorem ok_figured (D : Dfn K mg "figured" s_figured p_figured) (T : CVal mg "FIGURES" (.str "0123456789")) : Has P w K mg base 1 "figured" p_figured spFigured := by
  refine has_ok D sc_figured (fun _ => rfl) fun z vs f cdv A outer s H E hr hv _ hz => ?_
  have nd := sc_figured.nd
  refine gs_ifR (gt_eqS (i := z) (j := "") (ge_var 0) ge_str) (fun h => gs_retP (ge_eq ge_bl ?_) hv) fun h => ?_
  · have h : z = "" := of_decide_eq_true h.symm
    subst h
    rfl
  have h : ¬ z = "" := of_decide_eq_false h.symm
  refine gs_forS (α := Unit) 1 (fun i _ => ∀ ch ∈ (tx z).take i, ch ∈ figL) (fun _ => [.r (isS z), .u]) () (ge_var 0) (fun _ h => absurd h (by simp)) (fun i _ ch hc hi => ?_) (fun _ hi => gs_retP (ge_eq ge_bl ?_) hv) PassesOwn.never nd
  · refine gs_ifR (gt_notInS (ge_var 1) (ge_cstr T)) (fun h => gs_retP (ge_eq ge_bl ?_) hv) fun h => gs_drops [1] (gs_nil ⟨(), ?_, rfl⟩)
    · have h3 : ch ∉ figL := by
        have : (!decide (ch ∈ tx ("0123456789" : Str))) = true := h.symm
        show ¬ (ch ∈ tx ("0123456789" : Str))
        simpa using this
      show isB false = isB (figB z)
      unfold figB
      rw [decide_eq_false (p := ∀ ch ∈ tx z, ch ∈ figL) fun q => h3 (q ch (List.mem_of_getElem? hc)), Bool.and_false]
    · have h3 : ch ∈ figL := by
        have : (!decide (ch ∈ tx ("0123456789" : Str))) = false := h.symm
        show ch ∈ tx ("0123456789" : Str)
        simpa using this
      intro c hc2
      rw [take_succ_get hc] at hc2
      rcases List.mem_append.mp hc2 with h4 | h4
      · exact hi c h4
      · rw [List.mem_singleton.mp h4]; exact h3
  · rw [List.take_length] at hi
    show isB true = isB (figB z)
    unfold figB
    rw [decide_eq_false h, decide_eq_true hi]; rfl
theorem head_at {z : Str} {ch : Nat} (h : (tx z).head? = some ch) : atI (tx z) 0 = some ch := by
  cases e : tx z with
  | nil => rw [e] at h; cases h
  | cons a t =>
    rw [e] at h
    cases h
    unfold atI ixN
    rw [if_pos (by decide), if_pos (by simp)]; rfl
theorem sign_eq {a b : Nat} (h : (⟨#[a]⟩ : Str) = ⟨#[b]⟩) : a = b := by
  have e : tx (⟨#[a]⟩ : Str) = tx (⟨#[b]⟩ : Str) := by rw [h]
  have e2 : [a] = [b] := e
  exact (List.cons.inj e2).1
abbrev spNumberOf : Sp := FS (γ := Str) (fun z => z.length ≤ sizeLine) (fun z => [.r (isS z)]) (fun _ => [.u]) (fun z => .r (isOpt isInt (numOf z)))
theorem ok_number_of (D : Dfn K mg "number_of" s_number_of p_number_of) (F : Has P w K mg base 1 "figured" p_figured spFigured) (ml : mg "len" = none) (mi : mg "int" = none) (T : CVal mg "MOST_FIGURES" (.int 13)) : Has P w K mg base 2 "number_of" p_number_of spNumberOf := by
  refine has_ok D sc_number_of (fun _ => rfl) fun z vs f cdv A outer s H E hr hv _ hz => ?_
  have hz : z.length ≤ sizeLine := hz
  refine gs_ifR (gt_or (gt_gt (ge_lenS ml (ge_var 0) hz) (ge_cint T)) fun _ => gt_not (gt_v (ge_call1 z F hr hz (ge_var 0)))) (fun h => ?_) (fun h => ?_)
  · exact gs_retP (ge_eq ge_non (by unfold numOf; rw [if_pos h.symm]; rfl)) hv
  have h13 : ¬ (13 : Int) < z.length ∧ figB z = true := by
    rcases Bool.or_eq_false_iff.mp h.symm with ⟨a, b⟩
    exact ⟨of_decide_eq_false a, by simpa using b⟩
  obtain ⟨dg, ne⟩ := figB_dig h13.2
  obtain ⟨ch, t, et⟩ : ∃ ch t, tx z = ch :: t := by
    cases e : tx z with
    | nil => exact absurd e ne
    | cons a t => exact ⟨a, t, rfl⟩
  have hd : (tx z).head? = some ch := by rw [et]; rfl
  refine gs_ifR (gt_and (gt_eqS (i := ⟨#[ch]⟩) (j := "0") (ge_ixS ch (ge_var 0) ge_int (head_at hd) hz) ge_str) fun _ => gt_gt (ge_lenS ml (ge_var 0) hz) ge_int) (fun h2 => ?_) (fun h2 => ?_)
  · refine gs_retP (ge_eq ge_non ?_) hv
    unfold numOf
    rw [if_neg (by rw [← h]; decide), if_pos]
    · rfl
    rcases (Bool.and_eq_true ..).mp h2.symm with ⟨a, b⟩
    rw [Bool.and_eq_true]
    refine ⟨decide_eq_true ?_, b⟩
    have : ch = 48 := sign_eq (of_decide_eq_true a)
    rw [hd, this]
  · refine gs_retP (ge_eq (ge_intS mi (ge_var 0) (intText_digits dg ne (by omega)) (by omega)) ?_) hv
    unfold numOf
    rw [if_neg (by rw [← h]; decide), if_neg]
    · rfl
    intro c
    rcases (Bool.and_eq_true ..).mp c with ⟨a, b⟩
    have a : (tx z).head? = some 48 := of_decide_eq_true a
    rw [hd] at a
    cases a
    rw [b, decide_eq_true (show (⟨#[48]⟩ : Str) = "0" from rfl)] at h2
    cases h2
abbrev spHeapOf (K : PySem.W.Frag) : Sp := FS (γ := Str) (fun z => z.length ≤ sizeLine) (fun z => [.r (isS z)]) (fun _ => [.u]) (fun z => .r (isOpt (isH K) (heapOf z)))
theorem dig_one {c : Nat} (h : 48 ≤ c ∧ c ≤ 57) : PySem.intText? (⟨#[c]⟩ : Str) = some (figI c) := by
  have e : (⟨#[c]⟩ : Str).cps.toList = [c] := rfl
  rw [intText_digits (x := ⟨#[c]⟩) (by rw [e]; intro d hd; rw [List.mem_singleton.mp hd]; exact h) (by rw [e]; simp) (show 1 ≤ 4300 by decide), e]
  congr 1
  show (((0 * 10 + (c - 48) : Nat)) : Int) = (c : Int) - 48
  omega
theorem ok_heap_of (D : Dfn K mg "heap_of" s_heap_of p_heap_of) (F : Has P w K mg base 1 "figured" p_figured spFigured) (F2 : Has P w K mg base 1 "is_heap" p_is_heap (spIsHeap K)) (ml : mg "len" = none) (mi : mg "int" = none) (mt : mg "tuple" = none) : Has P w K mg base 2 "heap_of" p_heap_of (spHeapOf K) := by
  refine has_ok D sc_heap_of (fun _ => rfl) fun z vs f cdv A outer s H E hr hv _ hz => ?_
  have hz : z.length ≤ sizeLine := hz
  have nd := sc_heap_of.nd
  refine gs_ifR (gt_or (gt_gt (ge_lenS ml (ge_var 0) hz) ge_int) fun _ => gt_not (gt_v (ge_call1 z F hr hz (ge_var 0)))) (fun h => ?_) (fun h => ?_)
  · exact gs_retP (ge_eq ge_non (by unfold heapOf; rw [if_pos h.symm]; rfl)) hv
  have h6 : ¬ (6 : Int) < z.length ∧ figB z = true := by
    rcases Bool.or_eq_false_iff.mp h.symm with ⟨a, b⟩
    exact ⟨of_decide_eq_false a, by simpa using b⟩
  obtain ⟨dg, ne⟩ := figB_dig h6.2
  have lz : (tx z).length ≤ 6 := by rw [← tx_len]; omega
  refine gs_set 1 (R := isH K ((tx z).map figI)) (ge_tuple mt (ge_frzL (go_conv (go_lc (β := Int) (c := isInt) 2 (src_str (ge_var 0)) (Imap (tx z) figI) rfl (fun i R hR => ?_) len_map (show BlkOk n_heap_of (defScope s_heap_of) _ _ from blkOk_by (by decide +kernel)) nd (by rw [List.length_map]; omega)) fun v H h q => ?_))) ?_ nd
  · rw [List.getElem?_map] at hR
    cases e : (tx z)[i]? with
    | none => rw [e] at hR; cases hR
    | some c =>
      rw [e] at hR
      cases hR
      exact lcT_map e fun s' H C cl fp => ge_intS mi (ge_var 2) (dig_one (dg c (List.mem_of_getElem? e))) (show 1 ≤ 640 by decide)
  · obtain ⟨ys, hys, q⟩ := q
    have ey := map_all (by rw [List.length_map]) hys
    rw [ey] at q
    exact q
  refine gs_ifR (gt_not (gt_v (ge_call2 (6, (tx z).map figI) F2 hr (show ((tx z).map figI).length ≤ 100000 by rw [List.length_map]; omega) ge_int (ge_var 1)))) (fun h2 => ?_) (fun h2 => ?_)
  · exact gs_retP (ge_eq ge_non (by unfold heapOf; rw [if_neg (by rw [← h]; decide), if_pos h2.symm]; rfl)) hv
  · exact gs_retP (ge_eq (ge_var 1) (by unfold heapOf; rw [if_neg (by rw [← h]; decide), if_neg (by rw [← h2]; decide)]; rfl)) hv
abbrev spNameOf : Sp := FS (γ := Str) (fun z => z.length ≤ sizeLine) (fun z => [.r (isS z)]) (fun _ => [.u]) (fun z => .r (isOpt isS (if nameOk z = true then some z else none)))
theorem ok_name_of (D : Dfn K mg "name_of" s_name_of p_name_of) (F : Has P w K mg base 1 "is_name" p_is_name spName) : Has P w K mg base 2 "name_of" p_name_of spNameOf := by
  refine has_ok D sc_name_of (fun _ => rfl) fun z vs f cdv A outer s H E hr hv _ hz => ?_
  refine gs_ifR (gt_v (ge_call1 z F hr hz (ge_var 0))) (fun h => ?_) (fun h => ?_)
  · exact gs_retP (ge_eq (ge_var 0) (by rw [if_pos h.symm]; rfl)) hv
  · exact gs_retP (ge_eq ge_non (by rw [if_neg (by rw [← h]; decide)]; rfl)) hv
abbrev rdTab (K : PySem.W.Frag) : List (Str × V) := [("name", .ref (He.ga K "name_of")), ("number", .ref (He.ga K "number_of")), ("heap", .ref (He.ga K "heap_of"))]
abbrev spThings (K : PySem.W.Frag) : Sp := FS (γ := List Thing) (fun ts => ts.length ≤ 4 ∧ ∀ t ∈ ts, t.Good) (fun ts => [.r (isTup K ((ts.map Thing.kind).map isS)), .r (isLst K ((ts.map Thing.txt).map isS))]) (fun _ => [.u, .u]) (fun ts => .x (ownL (ts.map (thingR K))))
theorem good_len {t : Thing} (h : t.Good) : t.txt.length ≤ sizeLine := by
  have d : (Deed.land "").Fits := fun t ht => by
    rw [show (Deed.land "").things = [.s ""] from rfl] at ht
    rw [List.mem_singleton.mp ht]
    exact (by decide : (0 : Nat) ≤ 1000)
  have f : t.Fits := by
    cases t with
    | s z => show z.length ≤ 1000; have := nameOk_short h; omega
    | i n => obtain ⟨a, b⟩ := h; show n.natAbs < 10 ^ 60; exact Nat.lt_of_lt_of_le (show n.natAbs < 10000000000000 by omega) (by decide)
    | h l =>
      obtain ⟨a, _⟩ := h
      have := rawH_short 6 l ((mem_rawH 6 l).mpr a)
      exact ⟨by omega, fun x hx => Nat.lt_of_lt_of_le (show x.natAbs < 10 by have := a.2 x hx; omega) (by decide)⟩
  exact Nat.le_trans f.len (by decide)
theorem thing_nn {t : Thing} : ∀ v H, (thingR K t).p v H → decide (v = .non) = false := fun v H q => by
  cases t with
  | s z => exact decide_eq_false (by rw [show v = .str z from q]; exact fun h => by cases h)
  | i n => exact decide_eq_false (by rw [show v = .int n from q]; exact fun h => by cases h)
  | h l => obtain ⟨a, us, e, _⟩ := q; exact decide_eq_false (by rw [e]; exact fun h => by cases h)
theorem ok_things_of (D : Dfn K mg "things_of" s_things_of p_things_of) (T : CTab K w mg "READERS" (rdTab K)) (g1 : mg "name_of" = some (.ref (He.ga K "name_of"))) (g2 : mg "number_of" = some (.ref (He.ga K "number_of"))) (g3 : mg "heap_of" = some (.ref (He.ga K "heap_of"))) (F1 : Has P w K mg base 2 "name_of" p_name_of spNameOf) (F2 : Has P w K mg base 2 "number_of" p_number_of spNumberOf) (F3 : Has P w K mg base 2 "heap_of" p_heap_of (spHeapOf K)) (ml : mg "len" = none) (mr : mg "range" = none) : Has P w K mg base 3 "things_of" p_things_of (spThings K) := by
  refine has_ok D sc_things_of (fun _ => rfl) fun ts vs f cdv A outer s H E hr hv _ hp => ?_
  obtain ⟨l4, gd⟩ := hp
  have nd := sc_things_of.nd
  obtain ⟨f1, fd1, a1, b1, c1, d1, _⟩ := F1.ex
  obtain ⟨f2, fd2, a2, b2, c2, d2, _⟩ := F2.ex
  obtain ⟨f3, fd3, a3, b3, c3, d3, _⟩ := F3.ex
  rw [g1] at a1
  rw [g2] at a2
  rw [g3] at a3
  cases a1
  cases a2
  cases a3
  refine gs_ifR (P := (· = false)) (gt_conv (gt_neI (i := (ts.length : Int)) (j := (ts.length : Int)) (ge_len (n := ts.length) ml (ge_var 1) (by simp)) (ge_lenT (n := ts.length) ml (ge_var 0) (by simp))) fun b e => by rw [e]; simp) (fun z => by cases z) (fun _ => ?_)
  refine gs_setO 2 (φ := ownL (([] : List Thing).map (thingR K))) (go_lst (rs := []) ga_nil) (fun w2 => ?_) nd
  refine gs_forR (α := List Thing) 3 (fun i us => us = ts.take i) (fun us => [.r (isTup K ((ts.map Thing.kind).map isS)), .r (isLst K ((ts.map Thing.txt).map isS)), .o w2 (ownL (us.map (thingR K))), .u, .u, .u]) [] (ge_lenT (n := ts.length) ml (ge_var 0) (by simp)) ⟨by omega, by omega⟩ rfl (fun i us hi hI => ?_) (fun us hI => ?_) mr PassesOwn.never nd
  · have hi2 : i < ts.length := by omega
    obtain ⟨t, et⟩ : ∃ t, ts[i]? = some t := ⟨_, List.getElem?_eq_getElem hi2⟩
    have ek : ((ts.map Thing.kind).map (isS ·))[i]? = some (isS t.kind) := by rw [List.getElem?_map, List.getElem?_map, et]; rfl
    have ex : ((ts.map Thing.txt).map (isS ·))[i]? = some (isS t.txt) := by rw [List.getElem?_map, List.getElem?_map, et]; rfl
    have gt := gd t (List.mem_of_getElem? et)
    have lt := good_len gt
    have lu : us.length ≤ 4 := by rw [hI, List.length_take]; omega
    have step : us ++ [t] = ts.take (i + 1) := by rw [hI, take_succ_get et]
    have ap : ∀ x : Thing, (us ++ [x]).map (thingR K) = us.map (thingR K) ++ [thingR K x] := fun x => List.map_append
    cases t with
    | s z =>
      refine gs_set 4 (R := isV (.ref (He.ga K "name_of"))) (ge_tab T (ge_ixT i (ge_var 0) (ge_var 3) ek) (.head _)) ?_ nd
      refine gs_set 5 (R := thingR K (.s z)) (ge_conv (ge_callL 4 z b1 hr c1 d1 lt (ga_cons (ge_ixL i (ge_var 1) (ge_var 3) ex rfl) ga_nil) rfl) fun v H q => ?_) ?_ nd
      · rw [if_pos (show nameOk z = true from gt)] at q
        exact q
      refine gs_ifR (gt_isN (o := false) (ge_var 5) thing_nn) (fun z => by cases z) (fun _ => ?_)
      refine gs_append (rs := us.map (thingR K)) (R := thingR K (.s z)) 2 (ge_var 5) (gs_drops [3, 4, 5] (gs_nil ⟨us ++ [.s z], step, ?_⟩)) (by rw [List.length_map]; omega)
      exact congrArg (fun z => [.r (isTup K ((ts.map Thing.kind).map isS)), .r (isLst K ((ts.map Thing.txt).map isS)), z, .u, .u, .u]) (slO_eq (ap _).symm)
    | i n =>
      refine gs_set 4 (R := isV (.ref (He.ga K "number_of"))) (ge_tab T (ge_ixT i (ge_var 0) (ge_var 3) ek) (.tail _ (.head _))) ?_ nd
      refine gs_set 5 (R := thingR K (.i n)) (ge_conv (ge_callL 4 (numS n) b2 hr c2 d2 lt (ga_cons (ge_ixL i (ge_var 1) (ge_var 3) ex rfl) ga_nil) rfl) fun v H q => ?_) ?_ nd
      · rw [numOf_num gt.1 gt.2] at q
        exact q
      refine gs_ifR (gt_isN (o := false) (ge_var 5) thing_nn) (fun z => by cases z) (fun _ => ?_)
      refine gs_append (rs := us.map (thingR K)) (R := thingR K (.i n)) 2 (ge_var 5) (gs_drops [3, 4, 5] (gs_nil ⟨us ++ [.i n], step, ?_⟩)) (by rw [List.length_map]; omega)
      exact congrArg (fun z => [.r (isTup K ((ts.map Thing.kind).map isS)), .r (isLst K ((ts.map Thing.txt).map isS)), z, .u, .u, .u]) (slO_eq (ap _).symm)
    | h l =>
      refine gs_set 4 (R := isV (.ref (He.ga K "heap_of"))) (ge_tab T (ge_ixT i (ge_var 0) (ge_var 3) ek) (.tail _ (.tail _ (.head _)))) ?_ nd
      refine gs_set 5 (R := thingR K (.h l)) (ge_conv (ge_callL 4 (heapS l) b3 hr c3 d3 lt (ga_cons (ge_ixL i (ge_var 1) (ge_var 3) ex rfl) ga_nil) rfl) fun v H q => ?_) ?_ nd
      · rw [heapOf_heap gt.1 gt.2] at q
        exact q
      refine gs_ifR (gt_isN (o := false) (ge_var 5) thing_nn) (fun z => by cases z) (fun _ => ?_)
      refine gs_append (rs := us.map (thingR K)) (R := thingR K (.h l)) 2 (ge_var 5) (gs_drops [3, 4, 5] (gs_nil ⟨us ++ [.h l], step, ?_⟩)) (by rw [List.length_map]; omega)
      exact congrArg (fun z => [.r (isTup K ((ts.map Thing.kind).map isS)), .r (isLst K ((ts.map Thing.txt).map isS)), z, .u, .u, .u]) (slO_eq (ap _).symm)
  · have hI : us = ts := by
      have h2 : us = ts.take ts.length := hI
      rw [h2, List.take_length]
    subst hI
    exact gs_retS 2 hv
abbrev spReadDeed (K : PySem.W.Frag) : Sp := FS (γ := Deed) (fun d => d.Good) (fun d => [.r (isS d.line)]) (fun _ => [.u]) (fun d => .r (isDeed K d))
theorem ok_read_deed (D : Dfn K mg "read_deed" s_read_deed p_read_deed) (F : Has P w K mg base 3 "things_of" p_things_of (spThings K)) (T : CTabT K w mg "FORMS" formsT) (mt : mg "tuple" = none) : Has P w K mg base 4 "read_deed" p_read_deed (spReadDeed K) := by
  refine has_ok D sc_read_deed (fun _ => rfl) fun d vs f cdv A outer s H E hr hv _ hd => ?_
  have hd : d.Good := hd
  have nd := sc_read_deed.nd
  have ft := hd.fits
  have tl := things_len d
  refine gs_setO 1 (φ := ownL ((d.word :: d.things.map Thing.txt).map isS)) (go_conv (go_split (ge_var 0) ge_str (Nat.le_trans (Nat.add_le_add_right ft.len 2) (by decide)) rfl) fun v H h q => by rw [line_split hd] at q; exact q) (fun w1 => ?_) nd
  refine gs_frzL 1 ?_
  refine gs_ifR (gt_notInTabT T (ge_ixL 0 (R := isS d.word) (ge_var 1) ge_int rfl rfl) (form_mem d)) (fun z => by cases z) (fun _ => ?_)
  refine gs_setO 2 (go_callH d.things F hr ⟨tl, hd⟩ (ga_cons (ge_tabT T (ge_ixL 0 (R := isS d.word) (ge_var 1) ge_int rfl rfl) (form_mem d)) (ga_cons (ge_frzL (go_from (n := 1) (ge_var 1) ge_int)) ga_nil))) (fun w2 => ?_) nd
  refine gs_frzL 2 ?_
  refine gs_ifR (gt_isN (o := false) (ge_var 2) fun v H q => by obtain ⟨a, us, e, _⟩ := q; exact decide_eq_false (by rw [e]; exact fun h => by cases h)) (fun z => by cases z) (fun _ => ?_)
  refine gs_retP (ge_eq (ge_tuple mt (ge_frzL (go_catL (rs := [isS d.word]) (rs' := d.things.map (thingR K)) (ge_lstK (ga_cons (ge_ixL 0 (R := isS d.word) (ge_var 1) ge_int rfl rfl) ga_nil)) (ge_var 2) (by rw [List.length_map]; exact Nat.le_trans (show 1 + d.things.length ≤ 5 by omega) (by decide))))) (by show isTup K _ = isTup K _; rw [deed_things]; rfl)) hv
end
end W
namespace W
open PySem L2 G M
section
variable {P : Program} {w : World} {K : PySem.W.Frag} {mg : Str → Option Value} {base : Heap}
abbrev spWhole : Sp := FS (γ := Int) (fun _ => True) (fun g => [.r (isInt g)]) (fun _ => [.u]) (fun _ => .r (isB true))
theorem ok_law_whole (D : Dfn K mg "_law_whole" s__law_whole p__law_whole) (mi : mg "isinstance" = none) (mI : mg "int" = none) (mB : mg "bool" = none) : Has P w K mg base 1 "_law_whole" p__law_whole spWhole := by
  refine has_ok D sc__law_whole (fun _ => rfl) fun g vs f cdv A outer s H E hr hv _ hp => ?_
  exact gs_retP (ge_eq (ge_and (ge_isi (r := true) mi mI (ge_var 0) ty_int (by decide +kernel) PyProof.Rows.boot_int) fun _ => ge_not (ge_isi (tn := "bool") (r := false) mi mB (ge_var 0) ty_int (by decide +kernel) (by decide +kernel))) rfl) hv
def Num (n : Int) : Prop := n.natAbs ≤ 1000000000000000000000000000000
theorem Num.lt {n : Int} (h : Num n) : n.natAbs < 2 ^ 100 := Nat.lt_of_le_of_lt h (by decide)
abbrev spLaw : Sp := FS (γ := List Int) (fun _ => True) (fun ns => [.r (isLst K (ns.map isInt))]) (fun _ => [.u]) (fun _ => .r (isB true))
theorem law_start {H : Hp} {a : Addr} {ns : List Int} (hl : ns.length ≤ 63) (ho : Only H) (hS : SqL K H a (ns.map V.int)) : (spLaw (K := K)) [.ref a] H (fun v _ => v = .bl true) fun _ _ _ => False :=
  ⟨ns, H, _, trivial, law_at hS, fun v H' Hb' hs' s A => by
    obtain ⟨u, e, h⟩ := A.sl 1 (.r (isB true)) rfl
    cases e
    exact h⟩
theorem nb {a : Bool} (h : a = true) : (!a) = false := by rw [h]; rfl
end
end W
namespace W
open PySem L2 G M
section
variable {P : Program} {w : World} {K : PySem.W.Frag} {mg : Str → Option Value} {base : Heap}
abbrev spLawHeaps (K : PySem.W.Frag) : Sp := FS (γ := Int) (fun n => 0 ≤ n ∧ n ≤ 8) (fun n => [.r (isInt n)]) (fun _ => [.u]) (fun n => .x (ownL ((rawH n.toNat).map (isH K))))
theorem ok_law_heaps (D : Dfn K mg "_law_heaps" s__law_heaps p__law_heaps) (mr : mg "range" = none) : Has P w K mg base 1 "_law_heaps" p__law_heaps (spLawHeaps K) := by
  refine has_ok D sc__law_heaps (fun _ => rfl) fun n vs f cdv A outer s H E hr hv _ hp => ?_
  obtain ⟨h0, h8⟩ := hp
  have nd := sc__law_heaps.nd
  refine gs_setO 1 (go_lst (rs := [isH K []]) (ga_cons (ge_tupK (rs := []) ga_nil) ga_nil)) (fun w0 => ?_) nd
  refine gs_forR (α := V × List (List Int)) 2 (fun i a => a.2 = rawH i) (fun a => [.r (isInt n), .o a.1 (ownL (a.2.map (isH K))), .u, .u]) (w0, [[]]) (ge_var 0) ⟨by omega, by omega⟩ rfl (fun i a hi ha => ?_) (fun a ha => ?_) mr PassesOwn.never nd
  · obtain ⟨w1, hs1⟩ := a
    have e : hs1 = rawH i := ha
    have hl : hs1.length ≤ 256 := by
      rw [e, rawH_len]
      have : 2 ^ i ≤ 2 ^ 8 := Nat.pow_le_pow_right (by decide) (by omega)
      omega
    have hz : (hs1.map (isH K)).length + ((hs1.map (· ++ [(i : Int)])).map (isH K)).length ≤ sizeLine := by
      rw [List.length_map, List.length_map, List.length_map]
      exact Nat.le_trans (show hs1.length + hs1.length ≤ 1000 by omega) (by decide)
    refine gs_setO 1 (φ := ownL ((hs1 ++ hs1.map (· ++ [(i : Int)])).map (isH K))) (go_eq (go_lend 1 rfl rds_L (go_catL (rs' := (hs1.map (· ++ [(i : Int)])).map (isH K)) (ge_var 1) (ge_frzL (go_conv (go_lc (β := List Int) (c := isH K) 3 (src_list (ge_var 1)) (Imap hs1 (· ++ [(i : Int)])) rfl (fun j R hR => ?_) len_map (show BlkOk n__law_heaps (defScope s__law_heaps) _ _ from blkOk_by (by decide +kernel)) nd (by rw [List.length_map]; show hs1.length < 1000000; omega)) fun v H h q => ?_)) hz)) ?_) (fun w4 => ?_) nd
    · rw [List.getElem?_map] at hR
      cases q : hs1[j]? with
      | none => rw [q] at hR; cases hR
      | some x =>
        rw [q] at hR
        cases hR
        have hx := rawH_short i x (e ▸ List.mem_of_getElem? q)
        have hz : (x.map isInt).length + [isInt (i : Int)].length ≤ sizeLine := by
          rw [List.length_map, List.length_singleton]
          exact Nat.le_trans (show x.length + 1 ≤ 100 by omega) (by decide)
        exact lcT_map q fun s H C cl fp => ge_eq (ge_catT (rs := x.map isInt) (rs' := [isInt (i : Int)]) (ge_var 3) (ge_tup1 (ge_var 2)) hz) (by show isTup K _ = isTup K _; rw [List.map_append]; rfl)
    · obtain ⟨ys, hys, q⟩ := q
      have ey : ys = hs1.map (· ++ [(i : Int)]) := map_all (by rw [List.length_map]) hys
      subst ey
      exact q
    · congr 1
      exact List.map_append.symm
    · refine gs_drops [2] (gs_nil ⟨(w4, hs1 ++ hs1.map (· ++ [(i : Int)])), ?_, rfl⟩)
      show hs1 ++ hs1.map (· ++ [(i : Int)]) = rawH i ++ (rawH i).map (· ++ [(i : Int)])
      rw [e]
  · obtain ⟨w1, hs1⟩ := a
    have e : hs1 = rawH n.toNat := ha
    subst e
    exact gs_retS 1 hv
end
end W
namespace W
open PySem L2 G M
mutual
theorem dp_mono {K : PySem.W.Frag} {H H' : Hp} (s : Same H H') : ∀ {v : V} {d : PyData}, Dp K H v d → Dp K H' v d
  | _, _, .non => .non
  | _, _, .bl b => .bl b
  | _, _, .int i => .int i
  | _, _, .str x => .str x
  | _, _, .lst h t => .lst (same_sqL s h) (dpAll_mono s t)
  | _, _, .tup h t => .tup (tx_sqT (tx_of s) h) (dpAll_mono s t)
theorem dpAll_mono {K : PySem.W.Frag} {H H' : Hp} (s : Same H H') : ∀ {vs : List V} {ds : List PyData}, DpAll K H vs ds → DpAll K H' vs ds
  | _, _, .nil => .nil
  | _, _, .cons h t => .cons (dp_mono s h) (dpAll_mono s t)
end
/-- what d tells -/
def isDp (K : PySem.W.Frag) (d : PyData) : RR := ⟨fun v H => Dp K H v d, fun s h => dp_mono s h⟩
theorem dp_all2 {K : PySem.W.Frag} {H : Hp} : ∀ {vs : List V} {ds : List PyData}, DpAll K H vs ds → All2 (ds.map (isDp K)) vs H
  | _, _, .nil => trivial
  | _, _, .cons h t => ⟨h, dp_all2 t⟩
theorem dp_lst {K : PySem.W.Frag} {ds : List PyData} {v : V} {H : Hp} (h : (isDp K (.list ds)).p v H) : (isLst K (ds.map (isDp K))).p v H := by
  cases h with
  | lst h t => exact ⟨_, _, rfl, h, dp_all2 t⟩
theorem dp_tup {K : PySem.W.Frag} {ds : List PyData} {v : V} {H : Hp} (h : (isDp K (.tuple ds)).p v H) : (isTup K (ds.map (isDp K))).p v H := by
  cases h with
  | tup h t => exact ⟨_, _, rfl, h, dp_all2 t⟩
def Leaf : PyData → Prop
  | .none => True
  | .bool _ => True
  | .int _ => True
  | .str _ => True
  | _ => False
/-- data of so many levels -/
def Al : Nat → PyData → Prop
  | 0, d => Leaf d
  | n + 1, d => Leaf d ∨ ∃ ds, (d = .list ds ∨ d = .tuple ds) ∧ ds.length < 1000 ∧ ∀ e ∈ ds, Al n e
theorem Al.leaf {d : PyData} (h : Leaf d) : ∀ n, Al n d
  | 0 => h
  | n + 1 => .inl h
theorem Al.mono {d : PyData} : ∀ {n m : Nat}, n ≤ m → Al n d → Al m d
  | 0, _, _, h => .leaf h _
  | n + 1, 0, l, _ => by omega
  | n + 1, m + 1, l, h => by
    rcases h with h | ⟨ds, e, hl, h⟩
    · exact .inl h
    · exact .inr ⟨ds, e, hl, fun x hx => Al.mono (by omega) (h x hx)⟩
section
variable {P : Program} {w : World} {K : PySem.W.Frag} {mg : Str → Option Value} {base : Heap}
abbrev spAl (K : PySem.W.Frag) (n : Nat) : Sp := FS (γ := PyData) (Al n) (fun d => [.r (isDp K d), .r (isDp K d)]) (fun _ => [.u, .u]) (fun _ => .r (isB true))
theorem b_bool : bootBuiltins ("bool" : Str) = some (.type "bool") := by decide +kernel
theorem b_str : bootBuiltins ("str" : Str) = some (.type "str") := by decide +kernel
theorem b_list : bootBuiltins ("list" : Str) = some (.type "list") := by decide +kernel
theorem alike_step (D : Dfn K mg "_law_alike" s__law_alike p__law_alike) (mi : mg "isinstance" = none) (mb : mg "bool" = none) (mI : mg "int" = none) (ms : mg "str" = none) (mL : mg "list" = none) (mT : mg "tuple" = none) (ml : mg "len" = none) (mr : mg "range" = none) (ma : mg "all" = none) (F : Has P w K mg base 1 "_law_whole" p__law_whole spWhole) (n : Nat) (ih : ∀ m, n = m + 1 → Has P w K mg base (m + 2) "_law_alike" p__law_alike (spAl K m)) : Has P w K mg base (n + 2) "_law_alike" p__law_alike (spAl K n) := by
  refine has_ok D sc__law_alike (fun _ => rfl) fun d vs f cdv A outer s H E hr hv _ hp => ?_
  have nd := sc__law_alike.nd
  have r1 := hr.mono (show 1 ≤ n + 1 by omega)
  have c : Leaf d ∨ ∃ ds m, n = m + 1 ∧ (d = .list ds ∨ d = .tuple ds) ∧ ds.length < 1000 ∧ ∀ e ∈ ds, Al m e := by
    cases n with
    | zero => exact .inl hp
    | succ m =>
      rcases hp with h | ⟨ds, e, hl, h⟩
      · exact .inl h
      · exact .inr ⟨ds, m, rfl, e, hl, h⟩
  cases d with
  | none =>
    refine gs_ifR (gt_isN (o := true) (ge_var 1) (fun v H h => by cases h; rfl)) (fun _ => ?_) (fun z => by cases z)
    exact gs_retP (ge_isN (o := true) (ge_var 0) (fun v H h => by cases h; rfl)) hv
  | bool b =>
    refine gs_ifR (gt_isN (o := false) (ge_var 1) (fun v H h => by cases h; rfl)) (fun z => by cases z) fun _ => ?_
    refine gs_ifR (gt_v (ge_isi (tn := "bool") (r := true) mi mb (ge_conv (R' := isB b) (ge_var 1) fun v H h => by cases h; rfl) ty_bl (by decide +kernel) b_bool)) (fun _ => ?_) (fun z => by cases z)
    exact gs_retP (ge_eq (ge_and (ge_isi (tn := "bool") (r := true) mi mb (ge_conv (R' := isB b) (ge_var 0) fun v H h => by cases h; rfl) ty_bl (by decide +kernel) b_bool) fun _ => ge_eqE en_bl hr (ge_conv (R' := isB b) (ge_var 0) fun v H h => by cases h; rfl) (ge_conv (R' := isB b) (ge_var 1) fun v H h => by cases h; rfl) trivial trivial) (by rw [decide_eq_true rfl]; rfl)) hv
  | int i =>
    refine gs_ifR (gt_isN (o := false) (ge_var 1) (fun v H h => by cases h; rfl)) (fun z => by cases z) fun _ => ?_
    refine gs_ifR (gt_v (ge_isi (tn := "bool") (r := false) mi mb (ge_conv (R' := isInt i) (ge_var 1) fun v H h => by cases h; rfl) ty_int (by decide +kernel) b_bool)) (fun z => by cases z) fun _ => ?_
    refine gs_ifR (gt_v (ge_isi (tn := "int") (r := true) mi mI (ge_conv (R' := isInt i) (ge_var 1) fun v H h => by cases h; rfl) ty_int (by decide +kernel) PyProof.Rows.boot_int)) (fun _ => ?_) (fun z => by cases z)
    exact gs_retP (ge_eq (ge_and (ge_call1 i F r1 trivial (ge_conv (R' := isInt i) (ge_var 0) fun v H h => by cases h; rfl)) fun _ => ge_eqI (ge_conv (R' := isInt i) (ge_var 0) fun v H h => by cases h; rfl) (ge_conv (R' := isInt i) (ge_var 1) fun v H h => by cases h; rfl)) (by rw [decide_eq_true rfl]; rfl)) hv
  | str z =>
    refine gs_ifR (gt_isN (o := false) (ge_var 1) (fun v H h => by cases h; rfl)) (fun z => by cases z) fun _ => ?_
    refine gs_ifR (gt_v (ge_isi (tn := "bool") (r := false) mi mb (ge_conv (R' := isS z) (ge_var 1) fun v H h => by cases h; rfl) ty_str (by decide +kernel) b_bool)) (fun z => by cases z) fun _ => ?_
    refine gs_ifR (gt_v (ge_isi (tn := "int") (r := false) mi mI (ge_conv (R' := isS z) (ge_var 1) fun v H h => by cases h; rfl) ty_str (by decide +kernel) PyProof.Rows.boot_int)) (fun z => by cases z) fun _ => ?_
    refine gs_ifR (gt_v (ge_isi (tn := "str") (r := true) mi ms (ge_conv (R' := isS z) (ge_var 1) fun v H h => by cases h; rfl) ty_str (by decide +kernel) b_str)) (fun _ => ?_) (fun z => by cases z)
    exact gs_retP (ge_eq (ge_and (ge_isi (tn := "str") (r := true) mi ms (ge_conv (R' := isS z) (ge_var 0) fun v H h => by cases h; rfl) ty_str (by decide +kernel) b_str) fun _ => ge_eqS (ge_conv (R' := isS z) (ge_var 0) fun v H h => by cases h; rfl) (ge_conv (R' := isS z) (ge_var 1) fun v H h => by cases h; rfl)) (by rw [decide_eq_true rfl]; rfl)) hv
  | list ds =>
    rcases c with c | ⟨ds', m, rfl, c, hl, ha⟩
    · exact c.elim
    have e' : ds' = ds := by rcases c with c | c <;> cases c <;> rfl
    subst e'
    refine gs_ifR (gt_isN (o := false) (ge_var 1) (fun v H h => by cases h; rfl)) (fun z => by cases z) fun _ => ?_
    refine gs_ifR (gt_v (ge_isi (tn := "bool") (r := false) mi mb (ge_conv (R' := isLst K (ds'.map (isDp K))) (ge_var 1) fun v H h => dp_lst h) ty_lst (by decide +kernel) b_bool)) (fun z => by cases z) fun _ => ?_
    refine gs_ifR (gt_v (ge_isi (tn := "int") (r := false) mi mI (ge_conv (R' := isLst K (ds'.map (isDp K))) (ge_var 1) fun v H h => dp_lst h) ty_lst (by decide +kernel) PyProof.Rows.boot_int)) (fun z => by cases z) fun _ => ?_
    refine gs_ifR (gt_v (ge_isi (tn := "str") (r := false) mi ms (ge_conv (R' := isLst K (ds'.map (isDp K))) (ge_var 1) fun v H h => dp_lst h) ty_lst (by decide +kernel) b_str)) (fun z => by cases z) fun _ => ?_
    refine gs_ifR (gt_or (gt_neE en_bl hr (ge_isi (tn := "list") (r := true) mi mL (ge_conv (R' := isLst K (ds'.map (isDp K))) (ge_var 1) fun v H h => dp_lst h) ty_lst (by decide +kernel) b_list) (ge_isi (tn := "list") (r := true) mi mL (ge_conv (R' := isLst K (ds'.map (isDp K))) (ge_var 0) fun v H h => dp_lst h) ty_lst (by decide +kernel) b_list) trivial trivial) fun _ => gt_neE en_bl hr (ge_isi (tn := "tuple") (r := false) mi mT (ge_conv (R' := isLst K (ds'.map (isDp K))) (ge_var 1) fun v H h => dp_lst h) ty_lst (by decide +kernel) PyProof.Rows.boot_tuple) (ge_isi (tn := "tuple") (r := false) mi mT (ge_conv (R' := isLst K (ds'.map (isDp K))) (ge_var 0) fun v H h => dp_lst h) ty_lst (by decide +kernel) PyProof.Rows.boot_tuple) trivial trivial) (fun z => by cases z) fun _ => ?_
    refine gs_ifR (gt_or (gt_not (gt_v (ge_isiT (r := true) (b1 := true) (b2 := false) (t1 := "list") (t2 := "tuple") mi mL mT (ge_conv (R' := isLst K (ds'.map (isDp K))) (ge_var 0) fun v H h => dp_lst h) ty_lst (by decide +kernel) (by decide +kernel) rfl b_list PyProof.Rows.boot_tuple))) fun _ => gt_neI (ge_len (n := ds'.length) ml (ge_conv (R' := isLst K (ds'.map (isDp K))) (ge_var 0) fun v H h => dp_lst h) (by rw [List.length_map])) (ge_len (n := ds'.length) ml (ge_conv (R' := isLst K (ds'.map (isDp K))) (ge_var 1) fun v H h => dp_lst h) (by rw [List.length_map]))) (fun z => ?_) fun _ => ?_
    · rw [decide_eq_true rfl] at z; cases z
    refine gs_retP (ge_eq (ge_all (bs := List.replicate ds'.length true) ma (ge_frzL (go_conv (go_lc (β := Bool) (c := isB) 2 (src_range mr (ge_len (n := ds'.length) ml (ge_conv (R' := isLst K (ds'.map (isDp K))) (ge_var 1) fun v H h => dp_lst h) (by rw [List.length_map])) ⟨by omega, by omega⟩) (Idrawn (· = true)) ⟨rfl, fun _ h => absurd h (by simp)⟩ (fun i R hR => ?_) len_drawn (show BlkOk n__law_alike (defScope s__law_alike) _ _ from blkOk_by (by decide +kernel)) nd (by rw [rngR_len]; omega)) fun v H h ⟨ys, hy, q⟩ => ?_))) (by simp)) hv
    · obtain ⟨hi, rfl⟩ := rngR_get hR
      have hi' : i < ds'.length := by simpa using hi
      have he : (ds'.map (isDp K))[i]? = some (isDp K ds'[i]) := by rw [List.getElem?_map, List.getElem?_eq_getElem hi']; rfl
      exact lcT_drawn fun s H C cl fp => ge_conv (ge_call2 ds'[i] (ih m rfl) hr (ha _ (List.getElem_mem _)) (ge_ixL i (ge_conv (R' := isLst K (ds'.map (isDp K))) (ge_var 0) fun v H h => dp_lst h) (ge_var 2) he rfl) (ge_ixL i (ge_conv (R' := isLst K (ds'.map (isDp K))) (ge_var 1) fun v H h => dp_lst h) (ge_var 2) he rfl)) fun v H h => ⟨true, rfl, h⟩
    · rw [rngR_len] at hy
      have e : ys = List.replicate ds'.length true := List.eq_replicate_iff.mpr ⟨by rw [hy.1]; omega, hy.2⟩
      rw [e] at q
      exact q
  | tuple ds =>
    rcases c with c | ⟨ds', m, rfl, c, hl, ha⟩
    · exact c.elim
    have e' : ds' = ds := by rcases c with c | c <;> cases c <;> rfl
    subst e'
    refine gs_ifR (gt_isN (o := false) (ge_var 1) (fun v H h => by cases h; rfl)) (fun z => by cases z) fun _ => ?_
    refine gs_ifR (gt_v (ge_isi (tn := "bool") (r := false) mi mb (ge_conv (R' := isTup K (ds'.map (isDp K))) (ge_var 1) fun v H h => dp_tup h) ty_tup (by decide +kernel) b_bool)) (fun z => by cases z) fun _ => ?_
    refine gs_ifR (gt_v (ge_isi (tn := "int") (r := false) mi mI (ge_conv (R' := isTup K (ds'.map (isDp K))) (ge_var 1) fun v H h => dp_tup h) ty_tup (by decide +kernel) PyProof.Rows.boot_int)) (fun z => by cases z) fun _ => ?_
    refine gs_ifR (gt_v (ge_isi (tn := "str") (r := false) mi ms (ge_conv (R' := isTup K (ds'.map (isDp K))) (ge_var 1) fun v H h => dp_tup h) ty_tup (by decide +kernel) b_str)) (fun z => by cases z) fun _ => ?_
    refine gs_ifR (gt_or (gt_neE en_bl hr (ge_isi (tn := "list") (r := false) mi mL (ge_conv (R' := isTup K (ds'.map (isDp K))) (ge_var 1) fun v H h => dp_tup h) ty_tup (by decide +kernel) b_list) (ge_isi (tn := "list") (r := false) mi mL (ge_conv (R' := isTup K (ds'.map (isDp K))) (ge_var 0) fun v H h => dp_tup h) ty_tup (by decide +kernel) b_list) trivial trivial) fun _ => gt_neE en_bl hr (ge_isi (tn := "tuple") (r := true) mi mT (ge_conv (R' := isTup K (ds'.map (isDp K))) (ge_var 1) fun v H h => dp_tup h) ty_tup (by decide +kernel) PyProof.Rows.boot_tuple) (ge_isi (tn := "tuple") (r := true) mi mT (ge_conv (R' := isTup K (ds'.map (isDp K))) (ge_var 0) fun v H h => dp_tup h) ty_tup (by decide +kernel) PyProof.Rows.boot_tuple) trivial trivial) (fun z => by cases z) fun _ => ?_
    refine gs_ifR (gt_or (gt_not (gt_v (ge_isiT (r := true) (b1 := false) (b2 := true) (t1 := "list") (t2 := "tuple") mi mL mT (ge_conv (R' := isTup K (ds'.map (isDp K))) (ge_var 0) fun v H h => dp_tup h) ty_tup (by decide +kernel) (by decide +kernel) rfl b_list PyProof.Rows.boot_tuple))) fun _ => gt_neI (ge_lenT (n := ds'.length) ml (ge_conv (R' := isTup K (ds'.map (isDp K))) (ge_var 0) fun v H h => dp_tup h) (by rw [List.length_map])) (ge_lenT (n := ds'.length) ml (ge_conv (R' := isTup K (ds'.map (isDp K))) (ge_var 1) fun v H h => dp_tup h) (by rw [List.length_map]))) (fun z => ?_) fun _ => ?_
    · rw [decide_eq_true rfl] at z; cases z
    refine gs_retP (ge_eq (ge_all (bs := List.replicate ds'.length true) ma (ge_frzL (go_conv (go_lc (β := Bool) (c := isB) 2 (src_range mr (ge_lenT (n := ds'.length) ml (ge_conv (R' := isTup K (ds'.map (isDp K))) (ge_var 1) fun v H h => dp_tup h) (by rw [List.length_map])) ⟨by omega, by omega⟩) (Idrawn (· = true)) ⟨rfl, fun _ h => absurd h (by simp)⟩ (fun i R hR => ?_) len_drawn (show BlkOk n__law_alike (defScope s__law_alike) _ _ from blkOk_by (by decide +kernel)) nd (by rw [rngR_len]; omega)) fun v H h ⟨ys, hy, q⟩ => ?_))) (by simp)) hv
    · obtain ⟨hi, rfl⟩ := rngR_get hR
      have hi' : i < ds'.length := by simpa using hi
      have he : (ds'.map (isDp K))[i]? = some (isDp K ds'[i]) := by rw [List.getElem?_map, List.getElem?_eq_getElem hi']; rfl
      exact lcT_drawn fun s H C cl fp => ge_conv (ge_call2 ds'[i] (ih m rfl) hr (ha _ (List.getElem_mem _)) (ge_ixT i (ge_conv (R' := isTup K (ds'.map (isDp K))) (ge_var 0) fun v H h => dp_tup h) (ge_var 2) he rfl) (ge_ixT i (ge_conv (R' := isTup K (ds'.map (isDp K))) (ge_var 1) fun v H h => dp_tup h) (ge_var 2) he rfl)) fun v H h => ⟨true, rfl, h⟩
    · rw [rngR_len] at hy
      have e : ys = List.replicate ds'.length true := List.eq_replicate_iff.mpr ⟨by rw [hy.1]; omega, hy.2⟩
      rw [e] at q
      exact q
  | dict kvs => exact (by rcases c with c | ⟨_, _, _, c | c, _⟩; exact c.elim; cases c; cases c)
theorem ok_law_alike (D : Dfn K mg "_law_alike" s__law_alike p__law_alike) (mi : mg "isinstance" = none) (mb : mg "bool" = none) (mI : mg "int" = none) (ms : mg "str" = none) (mL : mg "list" = none) (mT : mg "tuple" = none) (ml : mg "len" = none) (mr : mg "range" = none) (ma : mg "all" = none) (F : Has P w K mg base 1 "_law_whole" p__law_whole spWhole) : ∀ n, Has P w K mg base (n + 2) "_law_alike" p__law_alike (spAl K n)
  | 0 => alike_step D mi mb mI ms mL mT ml mr ma F 0 fun m e => by omega
  | n + 1 => alike_step D mi mb mI ms mL mT ml mr ma F (n + 1) fun m e => by
    cases e
    exact ok_law_alike D mi mb mI ms mL mT ml mr ma F n
end
end W
set_option synthInstance.maxHeartbeats 400000
set_option synthInstance.maxSize 1000
namespace W
open PySem L2 G M
section
variable {P : Program} {w : World} {K : PySem.W.Frag} {mg : Str → Option Value} {base : Heap}
def HA (K : PySem.W.Frag) (R : RR) (n : Nat) : Prop := ∃ d, HD K R d n ∧ Al n d
def HAs (K : PySem.W.Frag) (rs : List RR) (n : Nat) : Prop := ∃ ds, HDs K rs ds n ∧ (∀ e ∈ ds, Al n e) ∧ ds.length = rs.length
theorem HA.mono {R : RR} {n m : Nat} (h : HA K R n) (l : n ≤ m) : HA K R m := by
  obtain ⟨d, h1, h2⟩ := h
  exact ⟨d, h1.mono l, h2.mono l⟩
theorem ha_int {i : Int} {n : Nat} : HA K (isInt i) n := ⟨.int i, dt_int, Al.leaf (d := .int i) (show Leaf (.int i) from trivial) n⟩
theorem ha_str {z : Str} {n : Nat} (o : PyData.strOk z = true) : HA K (isS z) n := ⟨.str z, dt_str o, Al.leaf (d := .str z) (show Leaf (.str z) from trivial) n⟩
theorem has_nil {n : Nat} : HAs K [] n := ⟨[], dts_nil, (fun _ m => nomatch m), rfl⟩
theorem has_cons {R : RR} {rs : List RR} {n : Nat} (h : HA K R n) (t : HAs K rs n) : HAs K (R :: rs) n := by
  obtain ⟨d, h1, h2⟩ := h
  obtain ⟨ds, t1, t2, t3⟩ := t
  refine ⟨d :: ds, dts_cons h1 t1, fun e m => ?_, by rw [List.length_cons, List.length_cons, t3]⟩
  rcases List.mem_cons.mp m with rfl | m
  · exact h2
  · exact t2 e m
theorem has_map {α : Type} {c : α → RR} {n : Nat} : ∀ {xs : List α}, (∀ x ∈ xs, HA K (c x) n) → HAs K (xs.map c) n
  | [], _ => has_nil
  | x :: xs, h => has_cons (h x (List.mem_cons_self ..)) (has_map fun y m => h y (List.mem_cons_of_mem _ m))
theorem ha_tup {rs : List RR} {n : Nat} (h : HAs K rs n) (hl : rs.length < 1000) : HA K (isTup K rs) (n + 1) := by
  obtain ⟨ds, t1, t2, t3⟩ := h
  exact ⟨_, dt_tup t1, .inr ⟨ds, .inr rfl, by omega, t2⟩⟩
theorem ha_H {h : List Int} (hl : h.length < 1000) : HA K (isH K h) 1 := ha_tup (has_map fun x _ => ha_int) (by rw [List.length_map]; exact hl)
abbrev spAlX (K : PySem.W.Frag) : Sp := FS (γ := PyData) (fun d => Al 8 d ∧ d.canLay0 = true ∧ d.depth ≤ 8) (fun d => [.r (isDp K d), .r (isDp K d)]) (fun _ => [.u, .u]) (fun _ => .r (isB true))
theorem alx_of (F : Has P w K mg base 10 "_law_alike" p__law_alike (spAl K 8)) : Has P w K mg base 10 "_law_alike" p__law_alike (spAlX K) := Has.map F (fun d => d) (fun _ h => h.1) (fun _ _ => rfl) (fun _ _ => rfl) (fun _ _ => rfl)
theorem ge_alike {X : Cx} {Γ : List Sl} {a b : Expr} {R : RR} {pos p : Pos} (F : Has X.prog X.w X.K X.mg X.base 10 "_law_alike" p__law_alike (spAlX X.K)) (hr : Room 10 X.A) (h : HA X.K R 8) (ha : GE X Γ a R) (hb : GE X Γ b R) (hg : Gl X "_law_alike" := by rfl) (h1 : starEach [a, b] X.env = (false, eval a X.env) :: starEach [b] X.env := by rfl) (h2 : starEach [b] X.env = (false, eval b X.env) :: starEach [] X.env := by rfl) (h3 : (backTo pos (starEach [b] X.env)).any (·.1) = false := by rfl) : GE X Γ (.Call (.Name "_law_alike" p) [a, b] [] pos) (isB true) := by
  obtain ⟨d, hd, al⟩ := h
  exact ge_callH d F hr ⟨al, hd.l, hd.n⟩ (ga_cons (ge_conv (R' := isDp X.K d) ha fun v H q => hd.h v H q) (ga_cons (ge_conv (R' := isDp X.K d) hb fun v H q => hd.h v H q) ga_nil h2) h1) rfl rfl rfl rfl rfl hg (by decide) h1 h3
end
end W
set_option synthInstance.maxHeartbeats 400000
set_option synthInstance.maxSize 1000
namespace W
open PySem L2 G M
section
variable {P : Program} {w : World} {K : PySem.W.Frag} {mg : Str → Option Value} {base : Heap}
abbrev spThingText (K : PySem.W.Frag) : Sp := FS (γ := Thing) (fun t => t.Fits) (fun t => [.r (thingR K t)]) (fun _ => [.u]) (fun t => .r (isS t.txt))
theorem ok_thing_text (D : Dfn K mg "_law_thing_text" s__law_thing_text p__law_thing_text) (mi : mg "isinstance" = none) (mT : mg "tuple" = none) (ms : mg "str" = none) : Has P w K mg base 1 "_law_thing_text" p__law_thing_text (spThingText K) := by
  refine has_ok D sc__law_thing_text (fun _ => rfl) fun t vs f cdv A outer s H E hr hv _ hl => ?_
  have nd := sc__law_thing_text.nd
  cases t with
  | s z =>
    refine gs_ifR (gt_v (ge_isi (R := isS z) (t := "str") (r := false) mi mT (ge_var 0) ty_str (by decide +kernel) PyProof.Rows.boot_tuple)) (fun z => by cases z) (fun _ => ?_)
    exact gs_retP (ge_strS ms (ge_var (R := isS z) 0)) hv
  | i n =>
    refine gs_ifR (gt_v (ge_isi (R := isInt n) (t := "int") (r := false) mi mT (ge_var 0) ty_int (by decide +kernel) PyProof.Rows.boot_tuple)) (fun z => by cases z) (fun _ => ?_)
    exact gs_retP (ge_strI ms (ge_var (R := isInt n) 0) (log_of hl)) hv
  | h l =>
    have hl : l.length ≤ 1000 ∧ ∀ x ∈ l, x.natAbs < 10 ^ 60 := hl
    refine gs_ifR (gt_v (ge_isi (R := isH K l) (t := "tuple") (r := true) mi mT (ge_var 0) ty_tup (by decide +kernel) PyProof.Rows.boot_tuple)) (fun _ => ?_) (fun z => by cases z)
    refine gs_retP (ge_conv (ge_joinx (P := fun ys => ys = l.map numS) (Z := fun z => z = heapS l) ge_str (ge_conv (ge_frzx (go_lc (β := Str) (c := isS) (rs := l.map isInt) 1 (src_tup (ge_var 0)) (Imap l numS) rfl (fun i R hR => ?_) len_map (show BlkOk n__law_thing_text (defScope s__law_thing_text) _ _ from blkOk_by (by decide +kernel)) nd (by rw [List.length_map]; omega))) fun v H q => ?_) fun ys hy => ?_) fun v H q => ?_) hv
    · rw [List.getElem?_map] at hR
      cases e : l[i]? with
      | none => rw [e] at hR; cases hR
      | some x =>
        rw [e] at hR
        cases hR
        exact lcT_map e fun s' H C cl fp => ge_strI ms (ge_var 1) (log_of (hl.2 x (List.mem_of_getElem? e)))
    · rw [List.length_map] at q
      obtain ⟨ys, hy, q⟩ := q
      refine ⟨ys, ?_, q⟩
      rw [show Imap l numS l.length ys = (ys = (l.take l.length).map numS) from rfl, List.take_length] at hy
      exact hy
    · subst hy
      refine ⟨?_, rfl⟩
      have h1 := sum_lenM (l := l.map numS) (m := 61) fun x hx => by
        obtain ⟨y, hy, rfl⟩ := List.mem_map.mp hx
        exact num_len (by decide) (hl.2 y hy)
      rw [List.length_map] at h1 ⊢
      have : ("" : Str).length = 0 := rfl
      rw [this]
      have := hl.1
      omega
    · obtain ⟨z, rfl, q⟩ := q
      exact q
theorem word_fits (d : Deed) : (Thing.s d.word).Fits := Nat.le_trans (word_len d) (by decide)
theorem ok_ldeed_text (D : Dfn K mg "_law_deed_text" s__law_deed_text p__law_deed_text) (F : Has P w K mg base 1 "_law_thing_text" p__law_thing_text (spThingText K)) : Has P w K mg base 2 "_law_deed_text" p__law_deed_text (spDeedText K) := by
  refine has_ok D sc__law_deed_text (fun _ => rfl) fun d vs f cdv A outer s H E hr hv _ hd => ?_
  have hd : d.Fits := hd
  have nd := sc__law_deed_text.nd
  have tl := things_len d
  have er : deedRs K d = (Thing.s d.word :: d.things).map (thingR K) := by rw [deed_things]; rfl
  refine gs_retP (ge_conv (ge_joinx (P := fun ys => ys = d.word :: d.things.map Thing.txt) (Z := fun z => z = d.line) ge_str (ge_conv (ge_frzx (go_lc (β := Str) (c := isS) (rs := (Thing.s d.word :: d.things).map (thingR K)) 1 (src_tup (ge_eq (ge_var 0) (by show isTup K (deedRs K d) = _; rw [er]; rfl))) (Imap (Thing.s d.word :: d.things) Thing.txt) rfl (fun i R hR => ?_) len_map (show BlkOk n__law_deed_text (defScope s__law_deed_text) _ _ from blkOk_by (by decide +kernel)) nd (by rw [List.length_map, List.length_cons]; omega))) fun v H q => ?_) fun ys hy => ?_) fun v H q => ?_) hv
  · rw [List.getElem?_map] at hR
    cases e : (Thing.s d.word :: d.things)[i]? with
    | none => rw [e] at hR; cases hR
    | some t =>
      rw [e] at hR
      cases hR
      have ft : t.Fits := by
        rcases List.mem_cons.mp (List.mem_of_getElem? e) with rfl | m
        · exact word_fits d
        · exact hd t m
      exact lcT_map e fun s' H C cl fp => ge_call1 t F hr ft (ge_var 1)
  · obtain ⟨ys, hy, q⟩ := q
    have ey := map_all (by rw [List.length_map]) hy
    exact ⟨ys, ey, q⟩
  · subst hy
    exact ⟨Nat.le_trans hd.sum (by decide), rfl⟩
  · obtain ⟨z, rfl, q⟩ := q
    exact q
theorem strOk_tx {z : Str} (h : ∀ c ∈ tx z, c < 1114112) : PyData.strOk z = true := by
  show (z.cps.all fun x => decide (x < 1114112)) = true
  rw [← Array.all_toList, List.all_eq_true]
  exact fun c hc => decide_eq_true (h c hc)
theorem ha_thing {t : Thing} (h : t.Good) : HA K (thingR K t) 1 := by
  cases t with
  | s z =>
    refine ha_str (strOk_tx fun c hc => ?_)
    have h : nameOk z = true := h
    unfold nameOk at h
    rw [Bool.and_eq_true] at h
    have m := of_decide_eq_true h.2 c hc
    have : ∀ c ∈ lettersL, c < 1114112 := by decide +kernel
    exact this c m
  | i n => exact ha_int
  | h l => exact ha_H (by have := rawH_short 6 l ((mem_rawH 6 l).mpr h.1); omega)
theorem ha_deed {d : Deed} (h : d.Good) : HA K (isDeed K d) 8 := by
  show HA K (isTup K (deedRs K d)) 8
  rw [deed_things]
  have ok : PyData.strOk d.word = true := by
    have : ∀ z ∈ wordsL, PyData.strOk z = true := by decide +kernel
    exact this _ (word_mem d)
  exact (ha_tup (n := 1) (has_cons (ha_str ok) (has_map fun t ht => ha_thing (h t ht))) (by rw [List.length_cons, List.length_map]; have := things_len d; omega)).mono (by decide)
end
end W
set_option synthInstance.maxHeartbeats 400000
set_option synthInstance.maxSize 1000
namespace W
open PySem L2 G M
section
variable {P : Program} {w : World} {K : PySem.W.Frag} {mg : Str → Option Value} {base : Heap}
abbrev LowN (n : Int) : Prop := 0 ≤ n ∧ n < 10000000000000
theorem ok_any_number (D : Dfn K mg "_law_any_number" s__law_any_number p__law_any_number) (F1 : Has P w K mg base 1 "_law_pull" p__law_pull spPull) : Has P w K mg base 2 "_law_any_number" p__law_any_number (FS (γ := V) (fun _ => True) (fun b => [.o b bagO]) (fun b => [.o b bagO]) (fun _ => .r (exR LowN isInt))) := by
  refine has_ok D sc__law_any_number (fun _ => rfl) fun b vs f cdv A outer s H E hr hv ho _ => ?_
  obtain ⟨vs, rfl⟩ := own_first (ho 0 b bagO rfl)
  have hv' : vs.length = 0 := by simpa using hv
  have nd := sc__law_any_number.nd
  refine gs_setx 1 (P := fun n : Int => 0 < n ∧ n ≤ 10000000000000) (c := isInt) (ge_pick (rs := [isInt 10, isInt 1000, isInt 1000000, isInt 1000000000000, isInt 10000000000000]) (ge_lstK (ga_cons ge_int (ga_cons ge_int (ga_cons (ge_powL 1000000) (ga_cons (ge_powL 1000000000000) (ga_cons (ge_powL 10000000000000) ga_nil)))))) (ge_pull 0 (n := 5) F1 hr ge_int) ⟨pk (by decide), pk (by decide), pk (by decide), pk (by decide), pk (by decide), trivial⟩) (fun n hn => ?_) nd
  exact gs_ret1 (R := exR LowN isInt) (ge_conv (ge_pull 0 (n := n) F1 hr (ge_var 1) ⟨hn.1, small_of 10000000000000 (by omega)⟩) fun v H ⟨x, hx, q⟩ => ⟨x, (show LowN x from ⟨hx.1, by omega⟩), q⟩) hv'
abbrev spAnyName : Sp := FS (γ := V) (fun _ => True) (fun b => [.o b bagO]) (fun b => [.o b bagO]) (fun _ => .r (exR (fun z => nameOk z = true) isS))
theorem ok_any_name (D : Dfn K mg "_law_any_name" s__law_any_name p__law_any_name) (F1 : Has P w K mg base 1 "_law_pull" p__law_pull spPull) (F2 : Has P w K mg base 2 "_law_word" p__law_word spWord) : Has P w K mg base 3 "_law_any_name" p__law_any_name spAnyName := by
  refine has_ok D sc__law_any_name (fun _ => rfl) fun b vs f cdv A outer s H E hr hv ho _ => ?_
  obtain ⟨vs, rfl⟩ := own_first (ho 0 b bagO rfl)
  have hv' : vs.length = 0 := by simpa using hv
  refine gs_ret1 (R := exR (fun z => nameOk z = true) isS) (ge_conv (ge_callH (b, fun n : Int => 1 ≤ n ∧ n ≤ 8) (wordx F2) hr (fun n hn => ⟨by omega, by omega⟩) (ga_own 0 (ga_cons (ge_opx0 (p := fun n : Int => n = 1) (q := fun y => 0 ≤ y ∧ y < 8) op_add (ge_x ge_int rfl) (ge_pull 0 (n := 8) F1 (hr.mono (by decide)) ge_int) fun a r e1 h => by omega) ga_nil)) rfl rfl rfl) fun v H ⟨t, ⟨n, hn, ht⟩, q⟩ => ⟨t, ?_, q⟩) hv'
  obtain ⟨l, a⟩ := ht
  unfold nameOk
  rw [tx_len, l, decide_eq_true (show (1 : Int) ≤ ((n.toNat : Nat) : Int) by omega), decide_eq_true (show ((n.toNat : Nat) : Int) ≤ 8 by omega), decide_eq_true a]; rfl
theorem raw_ne : ∀ i, i < 64 → 0 < i → (rawH 6)[i]? ≠ some [] := by decide +kernel
abbrev GoodH (l : List Int) : Prop := IsHp 6 l ∧ l ≠ []
abbrev spAnyHeap (K : PySem.W.Frag) : Sp := FS (γ := V) (fun _ => True) (fun b => [.o b bagO]) (fun b => [.o b bagO]) (fun _ => .r (exR GoodH (isH K)))
theorem ok_any_heap (D : Dfn K mg "_law_any_heap" s__law_any_heap p__law_any_heap) (F1 : Has P w K mg base 1 "_law_pull" p__law_pull spPull) (F2 : Has P w K mg base 1 "_law_heaps" p__law_heaps (spLawHeaps K)) (ml : mg "len" = none) : Has P w K mg base 2 "_law_any_heap" p__law_any_heap (spAnyHeap K) := by
  refine has_ok D sc__law_any_heap (fun _ => rfl) fun b vs f cdv A outer s H E hr hv ho _ => ?_
  obtain ⟨vs, rfl⟩ := own_first (ho 0 b bagO rfl)
  have hv' : vs.length = 0 := by simpa using hv
  have nd := sc__law_any_heap.nd
  have l64 : (rawH 6).length = 64 := by rw [rawH_len]
  refine gs_setO 1 (go_callH 6 F2 hr ⟨by decide, by decide⟩ (ga_cons ge_int ga_nil)) (fun w1 => ?_) nd
  refine gs_frzL 1 ?_
  refine gs_ret1 (R := exR GoodH (isH K)) (ge_ixLx (rs := (rawH 6).map (isH K)) (ge_var 1) (ge_opx0 (p := fun n : Int => n = 1) (q := fun y => 0 ≤ y ∧ y < 63) (z := fun y => 1 ≤ y ∧ y < 64) op_add (ge_x ge_int rfl) (ge_pull 0 (n := 63) F1 hr (ge_eq (ge_sub (i := 64) (j := 1) (ge_eq (ge_len (n := (rawH 6).length) ml (ge_var 1) (by rw [List.length_map]; rfl)) (by rw [l64]; rfl)) ge_int) rfl)) fun a r e1 h => by omega) fun k hk => ?_) hv'
  have hlt : k.toNat < (rawH 6).length := by rw [l64]; omega
  refine ⟨k.toNat, isH K (rawH 6)[k.toNat], by omega, by rw [List.getElem?_map, List.getElem?_eq_getElem hlt]; rfl, fun v H q => ⟨_, ⟨(mem_rawH 6 _).mp (List.getElem_mem hlt), fun e => ?_⟩, q⟩⟩
  exact raw_ne k.toNat (by omega) (by omega) (by rw [List.getElem?_eq_getElem hlt, e])
def kindOf (c : Nat) : Str := if c = 110 then "name" else if c = 104 then "heap" else "number"
abbrev goodR (K : PySem.W.Frag) (k : Str) : RR := exR (fun t : Thing => t.kind = k ∧ t.Good) (thingR K)
abbrev lawForms : List (Str × Str) := [("out", "nk"), ("load", "nkkk"), ("sail", "nk"), ("hire", "nk"), ("dismiss", "nk"), ("lend", "nhkk"), ("rescue", "nhk"), ("lose", "nkk"), ("land", "n"), ("settle", "nkk")]
theorem all2_good {H : Hp} : ∀ {ks : List Str} {vs : List V}, All2 (ks.map (goodR K)) vs H → ∃ ts : List Thing, ts.map Thing.kind = ks ∧ (∀ t ∈ ts, t.Good) ∧ All2 (ts.map (thingR K)) vs H
  | [], [], _ => ⟨[], rfl, fun _ h => (nomatch h), trivial⟩
  | [], _ :: _, h => h.elim
  | _ :: _, [], h => h.elim
  | k :: ks, v :: vs, h => by
    obtain ⟨⟨t, ⟨h1, h2⟩, h3⟩, h4⟩ := h
    obtain ⟨ts, e, g, a⟩ := all2_good h4
    refine ⟨t :: ts, by rw [List.map_cons, h1, e], fun x hx => ?_, h3, a⟩
    rcases List.mem_cons.mp hx with rfl | hx
    · exact h2
    · exact g x hx
theorem kne : ¬ ("number" : Str) = "name" ∧ ¬ ("heap" : Str) = "name" ∧ ¬ ("name" : Str) = "number" ∧ ¬ ("heap" : Str) = "number" ∧ ¬ ("name" : Str) = "heap" ∧ ¬ ("number" : Str) = "heap" := by decide +kernel
theorem kind_name {t : Thing} (h : t.kind = "name") : ∃ z, t = .s z := by
  cases t with
  | s z => exact ⟨z, rfl⟩
  | i n => exact absurd h kne.1
  | h l => exact absurd h kne.2.1
theorem kind_num {t : Thing} (h : t.kind = "number") : ∃ z, t = .i z := by
  cases t with
  | s z => exact absurd h kne.2.2.1
  | i n => exact ⟨n, rfl⟩
  | h l => exact absurd h kne.2.2.2.1
theorem kind_heap {t : Thing} (h : t.kind = "heap") : ∃ z, t = .h z := by
  cases t with
  | s z => exact absurd h kne.2.2.2.2.1
  | i n => exact absurd h kne.2.2.2.2.2
  | h l => exact ⟨l, rfl⟩
theorem k1 {ts : List Thing} {a : Str} (h : ts.map Thing.kind = [a]) : ∃ x, ts = [x] ∧ x.kind = a := by
  match ts, h with
  | [x], h => exact ⟨x, rfl, (List.cons.inj h).1⟩
theorem kc {ts : List Thing} {a : Str} {ks : List Str} (h : ts.map Thing.kind = a :: ks) : ∃ x us, ts = x :: us ∧ x.kind = a ∧ us.map Thing.kind = ks := by
  match ts, h with
  | x :: us, h => exact ⟨x, us, rfl, (List.cons.inj h).1, (List.cons.inj h).2⟩
theorem kn {ts : List Thing} (h : ts.map Thing.kind = []) : ts = [] := List.map_eq_nil_iff.mp h
theorem deed_of {g : Str × Str} (hg : g ∈ lawForms) {ts : List Thing} (h : ts.map Thing.kind = (tx g.2).map kindOf) : ∃ d : Deed, d.word = g.1 ∧ d.things = ts := by
  have e1 : (tx "nk").map kindOf = (["name", "number"] : List Str) := by decide +kernel
  have e2 : (tx "nkkk").map kindOf = (["name", "number", "number", "number"] : List Str) := by decide +kernel
  have e3 : (tx "nhkk").map kindOf = (["name", "heap", "number", "number"] : List Str) := by decide +kernel
  have e4 : (tx "nhk").map kindOf = (["name", "heap", "number"] : List Str) := by decide +kernel
  have e5 : (tx "nkk").map kindOf = (["name", "number", "number"] : List Str) := by decide +kernel
  have e6 : (tx "n").map kindOf = (["name"] : List Str) := by decide +kernel
  simp only [lawForms, List.mem_cons, List.not_mem_nil, or_false] at hg
  rcases hg with rfl | rfl | rfl | rfl | rfl | rfl | rfl | rfl | rfl | rfl
  · rw [e1] at h
    obtain ⟨x, us, rfl, hx, h⟩ := kc h; obtain ⟨y, us, rfl, hy, h⟩ := kc h; cases kn h
    obtain ⟨n, rfl⟩ := kind_name hx; obtain ⟨a, rfl⟩ := kind_num hy
    exact ⟨.out n a, rfl, rfl⟩
  · rw [e2] at h
    obtain ⟨x, us, rfl, hx, h⟩ := kc h; obtain ⟨y, us, rfl, hy, h⟩ := kc h; obtain ⟨z, us, rfl, hz, h⟩ := kc h; obtain ⟨u, us, rfl, hu, h⟩ := kc h; cases kn h
    obtain ⟨n, rfl⟩ := kind_name hx; obtain ⟨a, rfl⟩ := kind_num hy; obtain ⟨b, rfl⟩ := kind_num hz; obtain ⟨c, rfl⟩ := kind_num hu
    exact ⟨.load n a b c, rfl, rfl⟩
  · rw [e1] at h
    obtain ⟨x, us, rfl, hx, h⟩ := kc h; obtain ⟨y, us, rfl, hy, h⟩ := kc h; cases kn h
    obtain ⟨n, rfl⟩ := kind_name hx; obtain ⟨a, rfl⟩ := kind_num hy
    exact ⟨.sail n a, rfl, rfl⟩
  · rw [e1] at h
    obtain ⟨x, us, rfl, hx, h⟩ := kc h; obtain ⟨y, us, rfl, hy, h⟩ := kc h; cases kn h
    obtain ⟨n, rfl⟩ := kind_name hx; obtain ⟨a, rfl⟩ := kind_num hy
    exact ⟨.hire n a, rfl, rfl⟩
  · rw [e1] at h
    obtain ⟨x, us, rfl, hx, h⟩ := kc h; obtain ⟨y, us, rfl, hy, h⟩ := kc h; cases kn h
    obtain ⟨n, rfl⟩ := kind_name hx; obtain ⟨a, rfl⟩ := kind_num hy
    exact ⟨.dismiss n a, rfl, rfl⟩
  · rw [e3] at h
    obtain ⟨x, us, rfl, hx, h⟩ := kc h; obtain ⟨y, us, rfl, hy, h⟩ := kc h; obtain ⟨z, us, rfl, hz, h⟩ := kc h; obtain ⟨u, us, rfl, hu, h⟩ := kc h; cases kn h
    obtain ⟨n, rfl⟩ := kind_name hx; obtain ⟨a, rfl⟩ := kind_heap hy; obtain ⟨b, rfl⟩ := kind_num hz; obtain ⟨c, rfl⟩ := kind_num hu
    exact ⟨.lend n a b c, rfl, rfl⟩
  · rw [e4] at h
    obtain ⟨x, us, rfl, hx, h⟩ := kc h; obtain ⟨y, us, rfl, hy, h⟩ := kc h; obtain ⟨z, us, rfl, hz, h⟩ := kc h; cases kn h
    obtain ⟨n, rfl⟩ := kind_name hx; obtain ⟨a, rfl⟩ := kind_heap hy; obtain ⟨b, rfl⟩ := kind_num hz
    exact ⟨.rescue n a b, rfl, rfl⟩
  · rw [e5] at h
    obtain ⟨x, us, rfl, hx, h⟩ := kc h; obtain ⟨y, us, rfl, hy, h⟩ := kc h; obtain ⟨z, us, rfl, hz, h⟩ := kc h; cases kn h
    obtain ⟨n, rfl⟩ := kind_name hx; obtain ⟨a, rfl⟩ := kind_num hy; obtain ⟨b, rfl⟩ := kind_num hz
    exact ⟨.lose n a b, rfl, rfl⟩
  · rw [e6] at h
    obtain ⟨x, us, rfl, hx, h⟩ := kc h; cases kn h
    obtain ⟨n, rfl⟩ := kind_name hx
    exact ⟨.land n, rfl, rfl⟩
  · rw [e5] at h
    obtain ⟨x, us, rfl, hx, h⟩ := kc h; obtain ⟨y, us, rfl, hy, h⟩ := kc h; obtain ⟨z, us, rfl, hz, h⟩ := kc h; cases kn h
    obtain ⟨n, rfl⟩ := kind_name hx; obtain ⟨a, rfl⟩ := kind_num hy; obtain ⟨b, rfl⟩ := kind_num hz
    exact ⟨.settle n a b, rfl, rfl⟩
theorem deed_good {g : Str × Str} (hg : g ∈ lawForms) : ∀ v H, (isTup K (isS g.1 :: ((tx g.2).map kindOf).map (goodR K))).p v H → (exR (fun d : Deed => d.Good) (isDeed K)).p v H := fun v H ⟨a, us, e1, e2, e3⟩ => by
  cases us with
  | nil => exact e3.elim
  | cons u us =>
    obtain ⟨h1, h2⟩ := e3
    obtain ⟨ts, ek, eg, ea⟩ := all2_good h2
    obtain ⟨d, d1, d2⟩ := deed_of hg ek
    refine ⟨d, by show ∀ t ∈ d.things, t.Good; rw [d2]; exact eg, a, u :: us, e1, e2, ?_⟩
    rw [deed_things, d1, d2]
    exact ⟨h1, ea⟩
theorem forms_short : ∀ g ∈ lawForms, (tx g.2).length ≤ 4 := by decide +kernel
abbrev spAnyDeed (K : PySem.W.Frag) : Sp := FS (γ := V) (fun _ => True) (fun b => [.o b bagO]) (fun b => [.o b bagO]) (fun _ => .r (exR (fun d : Deed => d.Good) (isDeed K)))
theorem ok_any_deed (D : Dfn K mg "_law_any_deed" s__law_any_deed p__law_any_deed) (F1 : Has P w K mg base 1 "_law_pull" p__law_pull spPull) (F2 : Has P w K mg base 2 "_law_any_number" p__law_any_number (FS (γ := V) (fun _ => True) (fun b => [.o b bagO]) (fun b => [.o b bagO]) (fun _ => .r (exR LowN isInt)))) (F3 : Has P w K mg base 3 "_law_any_name" p__law_any_name spAnyName) (F4 : Has P w K mg base 2 "_law_any_heap" p__law_any_heap (spAnyHeap K)) (mt : mg "tuple" = none) : Has P w K mg base 4 "_law_any_deed" p__law_any_deed (spAnyDeed K) := by
  refine has_ok D sc__law_any_deed (fun _ => rfl) fun b vs f cdv A outer s H E hr hv ho _ => ?_
  obtain ⟨vs, rfl⟩ := own_first (ho 0 b bagO rfl)
  have hv' : vs.length = 0 := by simpa using hv
  have nd := sc__law_any_deed.nd
  have r1 := hr.mono (show 1 ≤ 3 by decide)
  have r2 := hr.mono (show 2 ≤ 3 by decide)
  have pr : ∀ {X : Cx} {Γ : List Sl} {a c : Str}, True := trivial
  refine gs_setO 1 (φ := ownL (lawForms.map fun g => isTup K [isS g.1, isS g.2])) (go_lst (rs := lawForms.map fun g => isTup K [isS g.1, isS g.2]) (ga_cons (ge_tup2 ge_str ge_str) (ga_cons (ge_tup2 ge_str ge_str) (ga_cons (ge_tup2 ge_str ge_str) (ga_cons (ge_tup2 ge_str ge_str) (ga_cons (ge_tup2 ge_str ge_str) (ga_cons (ge_tup2 ge_str ge_str) (ga_cons (ge_tup2 ge_str ge_str) (ga_cons (ge_tup2 ge_str ge_str) (ga_cons (ge_tup2 ge_str ge_str) (ga_cons (ge_tup2 ge_str ge_str) ga_nil))))))))))) (fun w1 => ?_) nd
  refine gs_frzL 1 ?_
  refine gs_unpTx2 (α := Str × Str) (P := (· ∈ lawForms)) (R1 := fun g => isS g.1) (R2 := fun g => isS g.2) 2 3 (ge_pick (rs := lawForms.map fun g => isTup K [isS g.1, isS g.2]) (ge_var 1) (ge_pull 0 (n := 10) F1 r1 ge_int) (allR_map (c := fun g : Str × Str => isTup K [isS g.1, isS g.2]) fun x hx => hx)) (fun g hg => ?_) nd
  have l4 := forms_short g hg
  let Gs : List Str → V → List Sl := fun ks w4 => [.o b bagO, .r (isLst K (lawForms.map fun g => isTup K [isS g.1, isS g.2])), .r (isS g.1), .r (isS g.2), .o w4 (ownL (isS g.1 :: ks.map (goodR K))), .u]
  refine gs_setO 4 (φ := ownL (isS g.1 :: ([] : List Str).map (goodR K))) (go_lst (rs := [isS g.1]) (ga_cons (ge_var 2) ga_nil)) (fun w4 => ?_) nd
  show GS _ (Gs [] w4) _ _ _
  refine gs_forS (z := g.2) (α := List Str) 5 (fun i ks => ks = ((tx g.2).take i).map kindOf) (fun ks => Gs ks w4) [] (ge_var 3) rfl (fun i ks ch hc hI => ?_) (fun ks hI => ?_) PassesOwn.never nd
  · have lk : ks.length ≤ 4 := by rw [hI, List.length_map, List.length_take]; omega
    have step : ks ++ [kindOf ch] = ((tx g.2).take (i + 1)).map kindOf := by rw [hI, take_succ_get hc, List.map_append]; rfl
    have ap : (ks ++ [kindOf ch]).map (goodR K) = ks.map (goodR K) ++ [goodR K (kindOf ch)] := List.map_append
    have ec : Sl.o w4 (ownL ((isS g.1 :: ks.map (goodR K)) ++ [goodR K (kindOf ch)])) = Sl.o w4 (ownL (isS g.1 :: (ks ++ [kindOf ch]).map (goodR K))) := slO_eq (by rw [ap]; rfl)
    refine gs_if2 (gt_eqS (i := ⟨#[ch]⟩) (j := "n") (ge_var 5) ge_str) (fun z => ?_) (fun z => ?_)
    · have hk : ch = 110 := sign_eq (of_decide_eq_true z.symm)
      refine gs_append (rs := isS g.1 :: ks.map (goodR K)) (R := goodR K (kindOf ch)) 4 (ge_conv (ge_callH b F3 hr trivial (ga_own 0 ga_nil) rfl rfl rfl) fun v H ⟨x, hx, q⟩ => ⟨.s x, ⟨by rw [hk]; rfl, hx⟩, q⟩) (gs_drops [5] (gs_nil ⟨ks ++ [kindOf ch], step, ?_⟩)) (by simp; omega)
      exact congrArg (fun z => [.o b bagO, .r (isLst K (lawForms.map fun g => isTup K [isS g.1, isS g.2])), .r (isS g.1), .r (isS g.2), z, .u]) ec
    have h1 : ¬ ch = 110 := fun e => by rw [e] at z; cases (of_decide_eq_false z.symm) rfl
    refine gs_if2 (gt_eqS (i := ⟨#[ch]⟩) (j := "h") (ge_var 5) ge_str) (fun z2 => ?_) (fun z2 => ?_)
    · have hk : ch = 104 := sign_eq (of_decide_eq_true z2.symm)
      refine gs_append (rs := isS g.1 :: ks.map (goodR K)) (R := goodR K (kindOf ch)) 4 (ge_conv (ge_callH b F4 r2 trivial (ga_own 0 ga_nil) rfl rfl rfl) fun v H ⟨x, hx, q⟩ => ⟨.h x, ⟨by rw [hk]; rfl, hx⟩, q⟩) (gs_drops [5] (gs_nil ⟨ks ++ [kindOf ch], step, ?_⟩)) (by simp; omega)
      exact congrArg (fun z => [.o b bagO, .r (isLst K (lawForms.map fun g => isTup K [isS g.1, isS g.2])), .r (isS g.1), .r (isS g.2), z, .u]) ec
    have h2 : ¬ ch = 104 := fun e => by rw [e] at z2; cases (of_decide_eq_false z2.symm) rfl
    · refine gs_append (rs := isS g.1 :: ks.map (goodR K)) (R := goodR K (kindOf ch)) 4 (ge_conv (ge_callH b F2 r2 trivial (ga_own 0 ga_nil) rfl rfl rfl) fun v H ⟨x, hx, q⟩ => ⟨.i x, ⟨by unfold kindOf; rw [if_neg h1, if_neg h2]; rfl, hx⟩, q⟩) (gs_drops [5] (gs_nil ⟨ks ++ [kindOf ch], step, ?_⟩)) (by simp; omega)
      exact congrArg (fun z => [.o b bagO, .r (isLst K (lawForms.map fun g => isTup K [isS g.1, isS g.2])), .r (isS g.1), .r (isS g.2), z, .u]) ec
  · have hI : ks = (tx g.2).map kindOf := by
      have h2 : ks = ((tx g.2).take (tx g.2).length).map kindOf := hI
      rw [h2, List.take_length]
    subst hI
    refine gs_frzL 4 ?_
    exact gs_ret1 (R := exR (fun d : Deed => d.Good) (isDeed K)) (ge_conv (ge_tuple mt (ge_var 4)) (deed_good hg)) hv'
end
end W
namespace W
open PySem L2 G
section
variable {P : Program} {w : World} {K : PySem.W.Frag} {mg : Str → Option Value} {base : Heap}
theorem ok_BadText_init (D : DfnM K "BadText" "__init__" "BadText.__init__" s_BadText___init__ p_BadText___init__) (g : mg "BadText" = some (.ref (He.ga K "BadText"))) (gk : mg "KeelError" = some (.ref (He.ga K "KeelError"))) (O : oexAll K (He.ga K "BadText") (He.ga K "KeelError") "at" = true) : OexI P w K mg base 1 "BadText" "at" (He.ga K "BadText") := by
  obtain ⟨T, Ke, Xf, no⟩ := oexAll_ok O
  obtain ⟨f, fd, m, fu, b⟩ := D.ex
  have ty : PySem.W.typeIn K (.ref f) = some (.type "function") := by
    have := m.fn
    unfold PySem.W.isFn at this
    exact eq_of_beq this
  refine ⟨T, g, no, f, fd, p_BadText___init__, m.at_, ty, ?_, b⟩
  refine fu.ok sc_BadText___init__ (fun vs H Q E h => by obtain ⟨a, C, y, rfl, _⟩ := h; rfl) fun cdv A outer s H vs Q E hr h => ?_
  obtain ⟨a, C, y, rfl, T2, hno, ea, q⟩ := h
  refine ⟨_, pss_cons (ps_expr (pe_keinit (by rfl) gk Ke (pa_cons (pv 0) (pa_cons pe_str pa_nil)) (by decide))) (pss_cons (ps_ost (pv 0) (pv 1)) pss_nil), ?_⟩
  exact ⟨.ref a, rfl, a, C, [.str "a line that cannot be read"], rfl, (show 1 ≤ 1000 by decide), T2, ea, y, rfl, .ref a, rfl, a, C, rfl, T2, hno, .inl ⟨ea, fun dx hd ne => q dx hd ne⟩⟩
end
end W
set_option synthInstance.maxHeartbeats 400000
set_option synthInstance.maxSize 1000
namespace W
open PySem L2 G M
section
variable {P : Program} {w : World} {K : PySem.W.Frag} {mg : Str → Option Value} {base : Heap}
abbrev kindsL : List Str := ["name", "number", "heap"]
abbrev Unread (g : List Str × List Str) : Prop := ¬ ∃ ts : List Thing, (∀ t ∈ ts, t.Good) ∧ ts.map Thing.kind = g.1 ∧ ts.map Thing.txt = g.2
abbrev spThingsN (K : PySem.W.Frag) : Sp := FS (γ := List Str × List Str) (fun g => g.1.length ≤ 4 ∧ (∀ k ∈ g.1, k ∈ kindsL) ∧ g.2.length ≤ sizeLine ∧ (∀ z ∈ g.2, z.length ≤ sizeLine) ∧ Unread g) (fun g => [.r (isTup K (g.1.map isS)), .r (isLst K (g.2.map isS))]) (fun _ => [.u, .u]) (fun _ => .r isN)
theorem map_snoc {α β : Type} {f : α → β} {us : List α} {t : α} {l : List β} {i : Nat} (h : us.map f = l.take i) (e : l[i]? = some (f t)) : (us ++ [t]).map f = l.take (i + 1) := by
  rw [List.map_append, h, take_succ_get e]; rfl
theorem isN_nn : ∀ v H, isN.p v H → decide (v = .non) = true := fun v H q => decide_eq_true q
theorem ok_things_N (D : Dfn K mg "things_of" s_things_of p_things_of) (T : CTab K w mg "READERS" (rdTab K)) (g1 : mg "name_of" = some (.ref (He.ga K "name_of"))) (g2 : mg "number_of" = some (.ref (He.ga K "number_of"))) (g3 : mg "heap_of" = some (.ref (He.ga K "heap_of"))) (F1 : Has P w K mg base 2 "name_of" p_name_of spNameOf) (F2 : Has P w K mg base 2 "number_of" p_number_of spNumberOf) (F3 : Has P w K mg base 2 "heap_of" p_heap_of (spHeapOf K)) (ml : mg "len" = none) (mr : mg "range" = none) : Has P w K mg base 3 "things_of" p_things_of (spThingsN K) := by
  refine has_ok D sc_things_of (fun _ => rfl) fun g vs f cdv A outer s H E hr hv _ hp => ?_
  obtain ⟨ks, ws⟩ := g
  obtain ⟨l4, hk, lw, hz, un⟩ := hp
  have l4 : ks.length ≤ 4 := l4
  have lw : ws.length ≤ sizeLine := lw
  have nd := sc_things_of.nd
  obtain ⟨f1, fd1, a1, b1, c1, d1, _⟩ := F1.ex
  obtain ⟨f2, fd2, a2, b2, c2, d2, _⟩ := F2.ex
  obtain ⟨f3, fd3, a3, b3, c3, d3, _⟩ := F3.ex
  rw [g1] at a1
  rw [g2] at a2
  rw [g3] at a3
  cases a1
  cases a2
  cases a3
  refine gs_ifR (gt_neI (i := (ws.length : Int)) (j := (ks.length : Int)) (ge_len (n := ws.length) ml (ge_var 1) (by simp)) (ge_lenT (n := ks.length) ml (ge_var 0) (by simp))) (fun _ => gs_retP ge_non hv) (fun h => ?_)
  have hl : ws.length = ks.length := by
    have : decide ((ws.length : Int) = (ks.length : Int)) = true := by simpa using h.symm
    have := of_decide_eq_true this
    omega
  refine gs_setO 2 (φ := ownL (([] : List Thing).map (thingR K))) (go_lst (rs := []) ga_nil) (fun w2 => ?_) nd
  refine gs_forR (α := List Thing) 3 (fun i us => us.map Thing.kind = ks.take i ∧ us.map Thing.txt = ws.take i ∧ ∀ t ∈ us, t.Good) (fun us => [.r (isTup K (ks.map isS)), .r (isLst K (ws.map isS)), .o w2 (ownL (us.map (thingR K))), .u, .u, .u]) [] (ge_lenT (n := ks.length) ml (ge_var 0) (by simp)) ⟨by omega, by omega⟩ ⟨rfl, rfl, fun _ h => nomatch h⟩ (fun i us hi hI => ?_) (fun us hI => ?_) mr PassesOwn.never nd
  · have hi2 : i < ks.length := by omega
    obtain ⟨i1, i2, i3⟩ := hI
    obtain ⟨k, ek0⟩ : ∃ t, ks[i]? = some t := ⟨_, List.getElem?_eq_getElem hi2⟩
    obtain ⟨z, ez0⟩ : ∃ t, ws[i]? = some t := ⟨_, List.getElem?_eq_getElem (by omega)⟩
    have ek : (ks.map (isS ·))[i]? = some (isS k) := by rw [List.getElem?_map, ek0]; rfl
    have ex : (ws.map (isS ·))[i]? = some (isS z) := by rw [List.getElem?_map, ez0]; rfl
    have lz := hz z (List.mem_of_getElem? ez0)
    have lu : us.length ≤ 4 := by
      have : us.length = (ks.take i).length := by rw [← i1, List.length_map]
      rw [this, List.length_take]; omega
    have ap : ∀ x : Thing, (us ++ [x]).map (thingR K) = us.map (thingR K) ++ [thingR K x] := fun x => List.map_append
    have fin : ∀ t : Thing, t.Good → t.kind = k → t.txt = z → (us ++ [t]).map Thing.kind = ks.take (i + 1) ∧ (us ++ [t]).map Thing.txt = ws.take (i + 1) ∧ ∀ x ∈ us ++ [t], x.Good := fun t g e1 e2 => ⟨map_snoc i1 (by rw [e1]; exact ek0), map_snoc i2 (by rw [e2]; exact ez0), fun x hx => by
      rcases List.mem_append.mp hx with hx | hx
      · exact i3 x hx
      · rw [List.mem_singleton.mp hx]; exact g⟩
    have hk1 := hk k (List.mem_of_getElem? ek0)
    have hk2 : k = "name" ∨ k = "number" ∨ k = "heap" := by simpa [kindsL] using hk1
    rcases hk2 with rfl | rfl | rfl
    · refine gs_set 4 (R := isV (.ref (He.ga K "name_of"))) (ge_tab T (ge_ixT i (ge_var 0) (ge_var 3) ek) (.head _)) ?_ nd
      by_cases hn : nameOk z = true
      · refine gs_set 5 (R := thingR K (.s z)) (ge_conv (ge_callL 4 z b1 hr c1 d1 lz (ga_cons (ge_ixL i (ge_var 1) (ge_var 3) ex rfl) ga_nil) rfl) fun v H q => ?_) ?_ nd
        · rw [if_pos hn] at q
          exact q
        refine gs_ifR (gt_isN (o := false) (ge_var 5) thing_nn) (fun z => by cases z) (fun _ => ?_)
        refine gs_append (rs := us.map (thingR K)) (R := thingR K (.s z)) 2 (ge_var 5) (gs_drops [3, 4, 5] (gs_nil ⟨us ++ [.s z], fin (.s z) hn rfl rfl, ?_⟩)) (by rw [List.length_map]; omega)
        exact congrArg (fun z => [.r (isTup K (ks.map isS)), .r (isLst K (ws.map isS)), z, .u, .u, .u]) (slO_eq (ap _).symm)
      · refine gs_set 5 (R := isN) (ge_conv (ge_callL 4 z b1 hr c1 d1 lz (ga_cons (ge_ixL i (ge_var 1) (ge_var 3) ex rfl) ga_nil) rfl) fun v H q => ?_) ?_ nd
        · rw [if_neg hn] at q
          exact q
        exact gs_ifR (gt_isN (o := true) (ge_var 5) isN_nn) (fun _ => gs_retP ge_non hv) (fun z => by cases z)
    · refine gs_set 4 (R := isV (.ref (He.ga K "number_of"))) (ge_tab T (ge_ixT i (ge_var 0) (ge_var 3) ek) (.tail _ (.head _))) ?_ nd
      cases hn : numOf z with
      | some n =>
        obtain ⟨gn, en⟩ := numOf_inv hn
        refine gs_set 5 (R := thingR K (.i n)) (ge_conv (ge_callL 4 z b2 hr c2 d2 lz (ga_cons (ge_ixL i (ge_var 1) (ge_var 3) ex rfl) ga_nil) rfl) fun v H q => ?_) ?_ nd
        · rw [hn] at q
          exact q
        refine gs_ifR (gt_isN (o := false) (ge_var 5) thing_nn) (fun z => by cases z) (fun _ => ?_)
        refine gs_append (rs := us.map (thingR K)) (R := thingR K (.i n)) 2 (ge_var 5) (gs_drops [3, 4, 5] (gs_nil ⟨us ++ [.i n], fin (.i n) gn rfl en, ?_⟩)) (by rw [List.length_map]; omega)
        exact congrArg (fun z => [.r (isTup K (ks.map isS)), .r (isLst K (ws.map isS)), z, .u, .u, .u]) (slO_eq (ap _).symm)
      | none =>
        refine gs_set 5 (R := isN) (ge_conv (ge_callL 4 z b2 hr c2 d2 lz (ga_cons (ge_ixL i (ge_var 1) (ge_var 3) ex rfl) ga_nil) rfl) fun v H q => ?_) ?_ nd
        · rw [hn] at q
          exact q
        exact gs_ifR (gt_isN (o := true) (ge_var 5) isN_nn) (fun _ => gs_retP ge_non hv) (fun z => by cases z)
    · refine gs_set 4 (R := isV (.ref (He.ga K "heap_of"))) (ge_tab T (ge_ixT i (ge_var 0) (ge_var 3) ek) (.tail _ (.tail _ (.head _)))) ?_ nd
      cases hn : heapOf z with
      | some n =>
        obtain ⟨gn, en⟩ := heapOf_inv hn
        refine gs_set 5 (R := thingR K (.h n)) (ge_conv (ge_callL 4 z b3 hr c3 d3 lz (ga_cons (ge_ixL i (ge_var 1) (ge_var 3) ex rfl) ga_nil) rfl) fun v H q => ?_) ?_ nd
        · rw [hn] at q
          exact q
        refine gs_ifR (gt_isN (o := false) (ge_var 5) thing_nn) (fun z => by cases z) (fun _ => ?_)
        refine gs_append (rs := us.map (thingR K)) (R := thingR K (.h n)) 2 (ge_var 5) (gs_drops [3, 4, 5] (gs_nil ⟨us ++ [.h n], fin (.h n) gn rfl en, ?_⟩)) (by rw [List.length_map]; omega)
        exact congrArg (fun z => [.r (isTup K (ks.map isS)), .r (isLst K (ws.map isS)), z, .u, .u, .u]) (slO_eq (ap _).symm)
      | none =>
        refine gs_set 5 (R := isN) (ge_conv (ge_callL 4 z b3 hr c3 d3 lz (ga_cons (ge_ixL i (ge_var 1) (ge_var 3) ex rfl) ga_nil) rfl) fun v H q => ?_) ?_ nd
        · rw [hn] at q
          exact q
        exact gs_ifR (gt_isN (o := true) (ge_var 5) isN_nn) (fun _ => gs_retP ge_non hv) (fun z => by cases z)
  · obtain ⟨i1, i2, i3⟩ := hI
    refine absurd ⟨us, i3, ?_, ?_⟩ un
    · rw [i1]; exact List.take_of_length_le (Nat.le_refl _)
    · rw [i2]; exact List.take_of_length_le (show ws.length ≤ ks.length by omega)
end
end W
set_option synthInstance.maxHeartbeats 400000
set_option synthInstance.maxSize 1000
namespace W
open PySem L2 G M
section
variable {P : Program} {w : World} {K : PySem.W.Frag} {mg : Str → Option Value} {base : Heap}
theorem deed_ofT {g : Str × List Str} (hg : g ∈ formsT) {ts : List Thing} (h : ts.map Thing.kind = g.2) : ∃ d : Deed, d.word = g.1 ∧ d.things = ts := by
  have e1 : (tx "nk").map kindOf = (["name", "number"] : List Str) := by decide +kernel
  have e2 : (tx "nkkk").map kindOf = (["name", "number", "number", "number"] : List Str) := by decide +kernel
  have e3 : (tx "nhkk").map kindOf = (["name", "heap", "number", "number"] : List Str) := by decide +kernel
  have e4 : (tx "nhk").map kindOf = (["name", "heap", "number"] : List Str) := by decide +kernel
  have e5 : (tx "nkk").map kindOf = (["name", "number", "number"] : List Str) := by decide +kernel
  have e6 : (tx "n").map kindOf = (["name"] : List Str) := by decide +kernel
  have go : ∀ c : Str, (g.1, c) ∈ lawForms → (tx c).map kindOf = g.2 → ∃ d : Deed, d.word = g.1 ∧ d.things = ts := fun c m e => deed_of m (h.trans e.symm)
  simp only [formsT, List.mem_cons, List.not_mem_nil, or_false] at hg
  rcases hg with rfl | rfl | rfl | rfl | rfl | rfl | rfl | rfl | rfl | rfl
  · exact go "nk" (by simp [lawForms]) e1
  · exact go "nkkk" (by simp [lawForms]) e2
  · exact go "nk" (by simp [lawForms]) e1
  · exact go "nk" (by simp [lawForms]) e1
  · exact go "nk" (by simp [lawForms]) e1
  · exact go "nhkk" (by simp [lawForms]) e3
  · exact go "nhk" (by simp [lawForms]) e4
  · exact go "nkk" (by simp [lawForms]) e5
  · exact go "n" (by simp [lawForms]) e6
  · exact go "nkk" (by simp [lawForms]) e5
theorem forms_kinds : ∀ g ∈ formsT, g.2.length ≤ 4 ∧ ∀ k ∈ g.2, k ∈ kindsL := by decide +kernel
theorem split_ne (z : Str) : Txt.split z " " ≠ [] := fun e => by
  have h := PySem.StrLaws.join_split z " "
  rw [e] at h
  have hz : z = "" := h.symm
  subst hz
  have : Txt.split ("" : Str) " " = ([("" : Str)] : List Str) := by decide +kernel
  rw [this] at e
  cases e
theorem joinL_part {S : List Nat} : ∀ {l : List (List Nat)} {p : List Nat}, p ∈ l → p.length ≤ (TL.joinL S l).length
  | [q], p, h => by rw [List.mem_singleton.mp h]; exact Nat.le_refl _
  | a :: b :: r, p, h => by
    show p.length ≤ (a ++ (S ++ TL.joinL S (b :: r))).length
    rw [List.length_append, List.length_append]
    rcases List.mem_cons.mp h with rfl | h
    · omega
    · have := joinL_part (S := S) (l := b :: r) h
      omega
theorem joinL_many {c : Nat} : ∀ {l : List (List Nat)}, l.length ≤ (TL.joinL [c] l).length + 1
  | [] => Nat.zero_le _
  | [q] => by show 1 ≤ q.length + 1; omega
  | a :: b :: r => by
    show (b :: r).length + 1 ≤ (a ++ ([c] ++ TL.joinL [c] (b :: r))).length + 1
    have := joinL_many (c := c) (l := b :: r)
    rw [List.length_append, List.length_append, List.length_singleton]
    omega
theorem split_small {z : Str} {l : List Str} (h : Txt.split z " " = l) : l.length ≤ z.length + 1 ∧ ∀ x ∈ l, x.length ≤ z.length := by
  have e : tx z = TL.joinL [32] (l.map tx) := by
    have h2 := PySem.StrLaws.join_split z " "
    rw [h, ← TL.join_eq] at h2
    rw [← h2, tx_join]; rfl
  rw [tx_len z, e]
  refine ⟨?_, fun x hx => ?_⟩
  · have := joinL_many (c := 32) (l := l.map tx)
    rwa [List.length_map] at this
  · rw [tx_len x]
    exact joinL_part (List.mem_map.mpr ⟨x, hx, rfl⟩)
abbrev badZ (K : PySem.W.Frag) (Γo : List Sl) : Value → Str → RR → List Sl → Prop := fun cls nm R Γc => cls = .ref (He.ga K "BadText") ∧ nm = "at" ∧ R = isInt 0 ∧ Γc = Γo
abbrev spReadBad (K : PySem.W.Frag) : Sp := FZ (γ := Str) (δ := Unit) (fun z => z.length ≤ 100000 ∧ ¬ GoodLine z) (fun z => [.r (isS z)]) (fun _ _ => False) (fun _ _ => [.u]) (fun _ _ => .u) (fun _ _ _ => False) (fun _ => badZ K [.u])
theorem ok_read_bad (D : Dfn K mg "read_deed" s_read_deed p_read_deed) (F : Has P w K mg base 3 "things_of" p_things_of (spThingsN K)) (T : CTabT K w mg "FORMS" formsT) (Tk : keysB K (He.ga K "FORMS") (formsT.map (·.1)) = true) (O : OexI P w K mg base 1 "BadText" "at" (He.ga K "BadText")) (mt : mg "tuple" = none) : HasX P w K mg base 4 "read_deed" p_read_deed (spReadBad K) := by
  refine has_okZ D sc_read_deed (fun _ => rfl) fun z vs f cdv A outer s H E hr hv _ hz => ?_
  obtain ⟨hz, ng⟩ := hz
  have nd := sc_read_deed.nd
  refine gs_setO 1 (φ := ownL ((Txt.split z " ").map isS)) (go_split (ge_var 0) ge_str (Nat.le_trans (Nat.add_le_add_right hz 2) (by decide)) rfl) (fun w1 => ?_) nd
  refine gs_frzL 1 ?_
  obtain ⟨w0, ws, ew⟩ : ∃ a l, Txt.split z " " = a :: l := by
    cases e : Txt.split z " " with
    | nil => exact absurd e (split_ne z)
    | cons a l => exact ⟨a, l, rfl⟩
  rw [ew]
  have R2 := hr.mono (show 2 ≤ 3 by decide)
  have xo : ∀ Γ, XOutO (RtZ (fun _ : Unit => False) (fun _ => [.u]) (fun _ => .u) (fun _ _ => False) (badZ K [.u]) vs) (.ref (He.ga K "BadText")) "at" (isInt 0) Γ := fun Γ => xout_Z (Γo := [.u]) ⟨rfl, rfl, rfl, rfl⟩ (.us hv)
  by_cases hm : w0 ∈ formsT.map (·.1)
  · obtain ⟨g, hg, rfl⟩ := List.mem_map.mp hm
    refine gs_ifR (gt_notInTabT T (ge_ixL 0 (R := isS g.1) (ge_var 1) ge_int rfl rfl) (show (g.1, g.2) ∈ formsT from hg)) (fun z => by cases z) (fun _ => ?_)
    have fk := forms_kinds g hg
    have un : Unread (g.2, ws) := fun ⟨ts, h1, h2, h3⟩ => by
      obtain ⟨d, d1, d2⟩ := deed_ofT hg h2
      refine ng (goodLine_of (d := d) (by show ∀ t ∈ d.things, t.Good; rw [d2]; exact h1) ?_)
      rw [ew, d1, d2, h3]
    obtain ⟨s1, s2⟩ := split_small ew
    have hw : ws.length ≤ sizeLine := by
      have : ws.length + 1 ≤ z.length + 1 := s1
      exact Nat.le_trans (show ws.length ≤ 100000 by omega) (by decide)
    refine gs_set 2 (R := isN) (ge_callH (g.2, ws) F hr ⟨fk.1, fk.2, hw, fun x hx => Nat.le_trans (Nat.le_trans (s2 x (List.mem_cons_of_mem _ hx)) hz) (by decide), un⟩ (ga_cons (ge_tabT T (ge_ixL 0 (R := isS g.1) (ge_var 1) ge_int rfl rfl) (show (g.1, g.2) ∈ formsT from hg)) (ga_cons (ge_frzL (go_from (n := 1) (ge_var 1) ge_int)) ga_nil))) ?_ nd
    exact gs_ifR (gt_isN (o := true) (ge_var 2) isN_nn) (fun _ => gs_raiseO O R2 ge_int (xo _)) (fun z => by cases z)
  · exact gs_ifR (gt_notInTabN T Tk (ge_ixL 0 (R := isS w0) (ge_var 1) ge_int rfl rfl) hm) (fun _ => gs_raiseO O R2 ge_int (xo _)) (fun z => by cases z)
end
end W
set_option synthInstance.maxHeartbeats 400000
set_option synthInstance.maxSize 1000
namespace W
open PySem L2 G M
section
variable {P : Program} {w : World} {K : PySem.W.Frag} {mg : Str → Option Value} {base : Heap}
/-- the signs of all words and one for each -/
def tot (ys : List Str) : Nat := (ys.map (·.length)).sum + ys.length
theorem joinL_exact {S : List Nat} : ∀ {l : List (List Nat)}, l ≠ [] → (TL.joinL S l).length + S.length = (l.map (·.length)).sum + l.length * S.length
  | [], h => absurd rfl h
  | [p], _ => by simp [TL.joinL]
  | p :: q :: r, _ => by
    have := joinL_exact (S := S) (l := q :: r) (by simp)
    show (p ++ (S ++ TL.joinL S (q :: r))).length + S.length = _
    rw [List.length_append, List.length_append, List.map_cons, List.sum_cons, List.length_cons, Nat.add_mul]
    omega
theorem tot_split (z : Str) : tot (Txt.split z " ") = z.length + 1 := by
  have h := joinL_exact (S := tx " ") (l := (Txt.split z " ").map tx) (by simpa using split_ne z)
  rw [← tx_join, TL.join_eq, PySem.StrLaws.join_split z " ", ← tx_len, List.map_map, List.length_map] at h
  have e1 : (tx " ").length = 1 := by decide +kernel
  rw [e1, Nat.mul_one, show (List.length ∘ tx) = (fun x : Str => x.length) from funext fun x => (tx_len x).symm] at h
  exact h.symm
theorem tot_join (ys : List Str) : (Txt.join " " ys).length ≤ tot ys := by
  have := join_len (sep := " ") (l := ys)
  rw [show (" " : Str).length = 1 by decide +kernel, Nat.mul_one] at this
  exact this
theorem tot_mem : ∀ {ys : List Str} {y : Str}, y ∈ ys → y.length + 1 ≤ tot ys
  | x :: ys, y, h => by
    unfold tot
    rw [List.map_cons, List.sum_cons, List.length_cons]
    rcases List.mem_cons.mp h with rfl | h
    · omega
    · have := tot_mem h
      unfold tot at this
      omega
theorem tot_app (a b : List Str) : tot (a ++ b) = tot a + tot b := by
  unfold tot
  rw [List.map_append, List.sum_append_nat, List.length_append]
  omega
theorem tot_cons (a : Str) (b : List Str) : tot (a :: b) = a.length + 1 + tot b := by
  unfold tot
  rw [List.map_cons, List.sum_cons, List.length_cons]
  omega
theorem tot_cut (ys : List Str) (n : Nat) : tot ys = tot (ys.take n) + tot (ys.drop n) := by
  rw [← tot_app, List.take_append_drop]
theorem tot_drop1 (ys : List Str) (n : Nat) : tot (ys.drop (n + 1)) ≤ tot (ys.drop n) := by
  rw [← List.drop_drop]
  have := tot_cut (ys.drop n) 1
  omega
theorem tot_set (ys : List Str) (n : Nat) (y : Str) : tot (ys.set n y) ≤ tot ys + y.length := by
  by_cases h : n < ys.length
  · rw [List.set_eq_take_append_cons_drop, if_pos h, tot_app, tot_cons]
    have e := tot_cut ys n
    have : tot (ys.drop n) = ys[n].length + 1 + tot (ys.drop (n + 1)) := by rw [List.drop_eq_getElem_cons h, tot_cons]
    omega
  · rw [List.set_eq_of_length_le (by omega)]; omega
theorem tot_ins (ys : List Str) (n : Nat) (y : Str) : tot (ys.take n ++ [y] ++ ys.drop n) = tot ys + y.length + 1 := by
  rw [tot_app, tot_app, tot_cons, tot_cut ys n]
  show tot (ys.take n) + (y.length + 1 + 0) + _ = _
  omega
theorem tot_out (ys : List Str) (n : Nat) : tot (ys.take n ++ ys.drop (n + 1)) ≤ tot ys := by
  rw [tot_app, tot_cut ys n]
  have := tot_drop1 ys n
  omega
theorem tot_len (ys : List Str) : ys.length ≤ tot ys := by unfold tot; omega
theorem allR_map {α : Type} {c : α → RR} {R : RR} : ∀ {xs : List α}, (∀ x ∈ xs, ∀ v H, (c x).p v H → R.p v H) → AllR (xs.map c) R
  | [], _ => trivial
  | x :: xs, h => ⟨h x (List.mem_cons_self ..), allR_map fun y hy => h y (List.mem_cons_of_mem _ hy)⟩
theorem pks {P : Str → Prop} {i : Str} (h : P i) : ∀ v H, (isS i).p v H → (exR P isS).p v H := fun v H q => ⟨i, h, q⟩
theorem own_eq {rs rs' : List RR} [i1 : Ims rs] [i2 : Ims rs'] {v : V} {H h : Hp} (e : rs = rs') (q : (ownL rs).p v H h) : (ownL rs').p v H h := by
  subst e
  exact q
abbrev sg1 : Str := " !\"#$&'()*+,-./0123456789:;<=>?@ABCDEFGHIJKLMNOPQRSTUVWXYZ[\\]^_`{|}~\n"
abbrev sg2 : Str := "abcdefghijklmnopqrstuvwxyz"
abbrev spSpoil : Sp := FS (γ := V × Str) (fun g => g.2.length ≤ 10000) (fun g => [.o g.1 bagO, .r (isS g.2)]) (fun g => [.o g.1 bagO, .u]) (fun g => .r (exR (fun t : Str => t.length ≤ 2 * g.2.length + 100) isS))
abbrev spSpoilx : Sp := FS (γ := V × Nat) (fun g => g.2 ≤ 10000) (fun g => [.o g.1 bagO, .r (exR (fun z : Str => z.length ≤ g.2) isS)]) (fun g => [.o g.1 bagO, .u]) (fun g => .r (exR (fun t : Str => t.length ≤ 2 * g.2 + 100) isS))
theorem ok_spoilt (D : Dfn K mg "_law_spoilt" s__law_spoilt p__law_spoilt) (F1 : Has P w K mg base 1 "_law_pull" p__law_pull spPull) (ml : mg "len" = none) : Has P w K mg base 2 "_law_spoilt" p__law_spoilt spSpoil := by
  refine has_ok D sc__law_spoilt (fun _ => rfl) fun g vs f cdv A outer s H E hr hv ho hz => ?_
  obtain ⟨b, z⟩ := g
  obtain ⟨vs, rfl⟩ := own_first (ho 0 b bagO rfl)
  have hv' : vs.length = 1 := by simpa using hv
  have nd := sc__law_spoilt.nd
  have r1 : Room 1 _ := hr
  have big : (1000000 : Nat) ≤ sizeLine := by decide
  have hz : z.length ≤ 10000 := hz
  refine gs_set 2 (R := isS sg1) ge_str ?_ nd
  refine gs_set 2 (R := isS (sg1 ++ sg2)) (ge_addS (ge_var 2) ge_str (by decide +kernel)) ?_ nd
  refine gs_setO 3 (φ := ownL ((Txt.split z " ").map isS)) (go_split (ge_var 1) ge_str (by omega) rfl) (fun w0 => ?_) nd
  have et := tot_split z
  have ey := split_ne z
  generalize Txt.split z " " = ys0 at et ey
  have ly := tot_len ys0
  have l0 : 0 < ys0.length := List.length_pos_iff.mpr ey
  refine gs_setx 4 (P := fun n : Int => 0 ≤ n ∧ n < (ys0.length : Int)) (c := isInt) (ge_pull 0 (n := (ys0.length : Int)) F1 r1 (ge_lend 3 rfl (rds_L (K := K)) (ge_len (n := ys0.length) ml (ge_var 3) (by simp))) ⟨by omega, small_of 1000000 (by omega)⟩) (fun a ha => ?_) nd
  refine gs_setx 5 (P := fun n : Int => 0 ≤ n ∧ n < 9) (c := isInt) (ge_pull 0 (n := 9) F1 r1 ge_int) (fun n hn => ?_) nd
  obtain ⟨k, rfl⟩ := Int.eq_ofNat_of_zero_le ha.1
  have hk : k < ys0.length := by omega
  let B := 2 * (z.length + 1) + 20
  let Gs : List Str → V → List Sl := fun ys w' => [.o b bagO, .r (isS z), .r (isS (sg1 ++ sg2)), .o w' (ownL (ys.map isS)), .r (isInt (k : Int)), .r (isInt n)]
  let St : Int → List Sl → Prop := fun m Γ' => ∃ ys w', Γ' = Gs ys w' ∧ tot ys ≤ B ∧ (m < n → ys = ys0)
  have ix : ixN ys0.length (k : Int) = some k := by unfold ixN; rw [if_pos (by omega), if_pos (by omega)]; rfl
  have gk : (ys0.map isS)[k]? = some (isS ys0[k]) := by rw [List.getElem?_map, List.getElem?_eq_getElem hk]; rfl
  have mk := tot_mem (List.getElem_mem hk)
  refine gs_if (N1 := St 0) (gt_eqI (ge_var 5) ge_int) (fun h => ?_) (fun h => ?_) (fun Γ' hΓ => ?_)
  · have h : n = 0 := of_decide_eq_true h.symm
    refine gs_setIxx (xs := ys0) (c := isS) (P := fun t : Str => t.length + 1 ≤ tot ys0) 3 k (ge_lend 3 rfl (rds_L (K := K)) (ge_pick (rs := ys0.map isS) (ge_var 3) (ge_pull 0 (n := ((ys0.map isS).length : Int)) F1 r1 (ge_len (n := (ys0.map isS).length) ml (ge_var 3) rfl) ⟨by rw [List.length_map]; omega, small_of 1000000 (by rw [List.length_map]; omega)⟩) ?_)) (ge_var 4) (fun y hy => gs_nil ⟨_, _, rfl, ?_, fun q => ?_⟩) ix hk
    · exact allR_map fun y hy v H q => ⟨y, tot_mem hy, q⟩
    · have := tot_set ys0 k y
      show _ ≤ 2 * (z.length + 1) + 20
      omega
    · omega
  · exact gs_nil ⟨ys0, w0, rfl, by show _ ≤ 2 * (z.length + 1) + 20; omega, fun _ => rfl⟩
  obtain ⟨ys, w1, rfl, hB, he⟩ := hΓ
  refine gs_if (N1 := St 1) (gt_eqI (ge_var 5) ge_int) (fun h => ?_) (fun h => ?_) (fun Γ' hΓ => ?_)
  · have h : n = 1 := of_decide_eq_true h.symm
    cases he (by omega)
    refine gs_setO 3 (φ := ownL ((ys0.take k ++ ys0.drop (k + 1)).map isS)) (go_lend 3 rfl (rds_L (K := K)) (go_conv (go_catL (rs := (ys0.map isS).take k) (rs' := (ys0.map isS).drop (k + 1)) (ge_frzL (go_to (n := k) (ge_var 3) (ge_var 4))) (ge_frzL (go_from (n := k + 1) (ge_var 3) (ge_add (ge_var 4) ge_int) (by omega))) (by rw [List.length_take, List.length_drop, List.length_map]; omega)) fun v H h q => ?_)) (fun w2 => gs_nil ⟨_, _, rfl, ?_, fun q => ?_⟩) nd
    · exact own_eq (by rw [List.map_append, List.map_take, List.map_drop]) q
    · have := tot_out ys0 k
      show _ ≤ 2 * (z.length + 1) + 20
      omega
    · omega
  · have h : ¬ n = 1 := of_decide_eq_false h.symm
    exact gs_nil ⟨ys, w1, rfl, hB, fun _ => he (by omega)⟩
  obtain ⟨ys, w1, rfl, hB, he⟩ := hΓ
  refine gs_if (N1 := St 2) (gt_eqI (ge_var 5) ge_int) (fun h => ?_) (fun h => ?_) (fun Γ' hΓ => ?_)
  · have h : n = 2 := of_decide_eq_true h.symm
    cases he (by omega)
    refine gs_insert (c := isS) (xs := ys0) (y := ys0[k]) 3 (k := k) (ge_var 4) (ge_lend 3 rfl (rds_L (K := K)) (ge_ixL k (R := isS ys0[k]) (ge_var 3) (ge_var 4) gk rfl)) (gs_nil ⟨_, _, rfl, ?_, fun q => ?_⟩) (by omega) (by omega)
    · have := tot_ins ys0 k ys0[k]
      show _ ≤ 2 * (z.length + 1) + 20
      omega
    · omega
  · have h : ¬ n = 2 := of_decide_eq_false h.symm
    exact gs_nil ⟨ys, w1, rfl, hB, fun _ => he (by omega)⟩
  obtain ⟨ys, w1, rfl, hB, he⟩ := hΓ
  refine gs_if (N1 := St 3) (gt_eqI (ge_var 5) ge_int) (fun h => ?_) (fun h => ?_) (fun Γ' hΓ => ?_)
  · have h : n = 3 := of_decide_eq_true h.symm
    cases he (by omega)
    have l1 : ("0" ++ ys0[k]).length = 1 + ys0[k].length := by rw [tx_len, tx_app, List.length_append, ← tx_len, ← tx_len]; rfl
    refine gs_setIxL (c := isS) (xs := ys0) ("0" ++ ys0[k]) 3 k (ge_addS ge_str (ge_lend 3 rfl (rds_L (K := K)) (ge_ixL k (R := isS ys0[k]) (ge_var 3) (ge_var 4) gk rfl)) (by show 1 + _ ≤ _; omega)) (ge_var 4) (gs_nil ⟨_, _, rfl, ?_, fun q => ?_⟩) ix
    · have := tot_set ys0 k ("0" ++ ys0[k])
      show _ ≤ 2 * (z.length + 1) + 20
      omega
    · omega
  · have h : ¬ n = 3 := of_decide_eq_false h.symm
    exact gs_nil ⟨ys, w1, rfl, hB, fun _ => he (by omega)⟩
  obtain ⟨ys, w1, rfl, hB, he⟩ := hΓ
  refine gs_if (N1 := St 4) (gt_eqI (ge_var 5) ge_int) (fun h => ?_) (fun h => ?_) (fun Γ' hΓ => ?_)
  · have h : n = 4 := of_decide_eq_true h.symm
    cases he (by omega)
    refine gs_setIxx (xs := ys0) (c := isS) (P := fun t : Str => t.length ≤ ys0[k].length + 14) 3 k (ge_addSx (P := (· = ys0[k])) (Q := fun t : Str => t.length ≤ 14) (ge_sx (ge_lend 3 rfl (rds_L (K := K)) (ge_ixL k (R := isS ys0[k]) (ge_var 3) (ge_var 4) gk rfl)) rfl) (ge_repSx (P := fun t : Str => ∃ ch : Nat, t = ⟨#[ch]⟩ ∧ True) (Q := fun m : Int => 1 ≤ m ∧ m ≤ 14) (ge_ixSx (P := (· = ("0123456789" : Str))) (q := fun _ => True) (ge_sx ge_str rfl) (ge_pull 0 (n := 10) F1 r1 ge_int) fun t j ht hj => ?_) (ge_opx0 (p := fun n : Int => n = 1) (q := fun y => 0 ≤ y ∧ y < 14) op_add (ge_x ge_int rfl) (ge_pull 0 (n := 14) F1 r1 ge_int) fun a r e1 h => by omega) fun x m hx hm => ?_) fun x y hx hy => ?_) (ge_var 4) (fun y hy => gs_nil ⟨_, _, rfl, ?_, fun q => ?_⟩) ix hk
    · subst ht
      obtain ⟨j, rfl⟩ := Int.eq_ofNat_of_zero_le hj.1
      have lt : j < (tx "0123456789").length := by rw [show (tx "0123456789").length = 10 by decide +kernel]; omega
      exact ⟨(tx "0123456789")[j], by unfold atI ixN; rw [if_pos (by omega), if_pos (by omega)]; exact List.getElem?_eq_getElem lt, trivial, Nat.le_trans (show _ ≤ 10 by decide +kernel) (by decide)⟩
    · obtain ⟨ch, rfl, _⟩ := hx
      refine ⟨hm.1, by omega, by show (1 : Nat) ≤ 1000; omega, ?_⟩
      show (repS _ _).length ≤ 14
      rw [repS_len]
      show m.toNat * 1 ≤ 14
      omega
    · subst hx
      have hy : y.length ≤ 14 := hy
      refine ⟨by omega, ?_⟩
      show (ys0[k] ++ y).length ≤ _
      rw [tx_len, tx_app, List.length_append, ← tx_len, ← tx_len]; omega
    · have := tot_set ys0 k y
      show _ ≤ 2 * (z.length + 1) + 20
      omega
    · omega
  · have h : ¬ n = 4 := of_decide_eq_false h.symm
    exact gs_nil ⟨ys, w1, rfl, hB, fun _ => he (by omega)⟩
  obtain ⟨ys, w1, rfl, hB, he⟩ := hΓ
  refine gs_if (N1 := St 5) (gt_eqI (ge_var 5) ge_int) (fun h => ?_) (fun h => ?_) (fun Γ' hΓ => ?_)
  · have h : n = 5 := of_decide_eq_true h.symm
    cases he (by omega)
    refine gs_setIxx (xs := ys0) (c := isS) (P := fun t : Str => t.length ≤ 14) 3 k (ge_pick (rs := [isS "", isS "-1", isS "10", isS "9999999999999", isS "10000000000000", isS "out", isS "012345", isS "-"]) (ge_lstK (ga_cons ge_str (ga_cons ge_str (ga_cons ge_str (ga_cons ge_str (ga_cons ge_str (ga_cons ge_str (ga_cons ge_str (ga_cons ge_str ga_nil))))))))) (ge_pull 0 (n := 8) F1 r1 ge_int) ⟨pks (by decide +kernel), pks (by decide +kernel), pks (by decide +kernel), pks (by decide +kernel), pks (by decide +kernel), pks (by decide +kernel), pks (by decide +kernel), pks (by decide +kernel), trivial⟩) (ge_var 4) (fun y hy => gs_nil ⟨_, _, rfl, ?_, fun q => ?_⟩) ix hk
    · have := tot_set ys0 k y
      have hy : y.length ≤ 14 := hy
      show _ ≤ 2 * (z.length + 1) + 20
      omega
    · omega
  · have h : ¬ n = 5 := of_decide_eq_false h.symm
    exact gs_nil ⟨ys, w1, rfl, hB, fun _ => he (by omega)⟩
  obtain ⟨ys, w1, rfl, hB, _⟩ := hΓ
  have hB : tot ys ≤ 2 * (z.length + 1) + 20 := hB
  have lj := tot_join ys
  have jb : (ys.map (·.length)).sum + ys.length * (" " : Str).length ≤ 16777216 := by
    rw [show (" " : Str).length = 1 by decide +kernel, Nat.mul_one]
    show tot ys ≤ _
    omega
  refine gs_set 1 (R := isS (Txt.join " " ys)) (ge_lend 3 rfl (rds_L (K := K)) (ge_conv (ge_joinx (P := (· = ys)) (Z := (· = Txt.join " " ys)) ge_str (ge_conv (ge_var 3) fun v H h => ⟨ys, rfl, h⟩) fun t ht => by subst ht; exact ⟨jb, rfl⟩) fun v H ⟨t, ht, q⟩ => by subst ht; exact q)) ?_ nd
  generalize Txt.join " " ys = z1 at lj
  have ls : (sg1 ++ sg2).length = 95 := by decide +kernel
  refine gs_if (N1 := fun Γ' => ∃ (z2 : Str) (a2 : Int), z2.length ≤ 2 * z.length + 100 ∧ Γ' = [.o b bagO, .r (isS z2), .r (isS (sg1 ++ sg2)), .o w1 (ownL (ys.map isS)), .r (isInt a2), .r (isInt n)]) (gt_gt (ge_var 5) ge_int) (fun h => ?_) (fun h => ?_) (fun Γ' hΓ => ?_)
  · refine gs_setx 4 (P := fun m : Int => 0 ≤ m ∧ m < (z1.length : Int) + 1) (c := isInt) (ge_pull 0 (n := (z1.length : Int) + 1) F1 r1 (ge_add (ge_lenS ml (ge_var 1) (by omega)) ge_int) ⟨by omega, small_of 1000000 (by omega)⟩) (fun a2 ha2 => ?_) nd
    refine gs_setx 1 (P := fun t : Str => t.length ≤ 2 * z.length + 100) (c := isS) (ge_addSx (P := fun t : Str => t.length ≤ a2.toNat + 1) (Q := fun t : Str => t.length ≤ z1.length - a2.toNat) (ge_addSx (P := fun t : Str => t.length ≤ a2.toNat) (Q := fun t : Str => ∃ ch : Nat, t = ⟨#[ch]⟩ ∧ True) (ge_toSx (p' := (· = a2)) (ge_var 1) (ge_x (ge_var 4) rfl) (by omega) fun j hj => ?_) (ge_ixSx (P := (· = sg1 ++ sg2)) (q := fun _ => True) (ge_sx (ge_var 2) rfl) (ge_pull 0 (n := ((sg1 ++ sg2).length : Int)) F1 r1 (ge_lenS ml (ge_var 2) (by rw [ls]; omega)) ⟨by rw [ls]; decide, by rw [ls]; decide⟩) fun t j ht hj => ?_) fun x y hx hy => ?_) (ge_fromSx (p' := fun j : Int => a2 ≤ j) (ge_var 1) (ge_opx0 (p := fun n : Int => n = a2) (q := fun y => 0 ≤ y ∧ y < 2) op_add (ge_x (ge_var 4) rfl) (ge_pull 0 (n := 2) F1 r1 ge_int) fun a r e1 h => by omega) (by omega) fun j hj => ?_) fun x y hx hy => ?_) (fun z2 hz2 => gs_nil ⟨z2, a2, hz2, rfl⟩) nd
    · subst hj
      obtain ⟨m, rfl⟩ := Int.eq_ofNat_of_zero_le ha2.1
      show (cutS z1 none (some (m : Int))).length ≤ m
      rw [tx_len, cut_to, List.length_take]; omega
    · subst ht
      obtain ⟨j, rfl⟩ := Int.eq_ofNat_of_zero_le hj.1
      have lt : j < (tx (sg1 ++ sg2)).length := by rw [← tx_len]; omega
      exact ⟨(tx (sg1 ++ sg2))[j], by unfold atI ixN; rw [if_pos (by omega), if_pos (by omega)]; exact List.getElem?_eq_getElem lt, trivial, by rw [ls]; omega⟩
    · obtain ⟨ch, rfl, _⟩ := hy
      have hx : x.length ≤ a2.toNat := hx
      have e1 : (⟨#[ch]⟩ : Str).length = 1 := rfl
      refine ⟨by rw [e1]; omega, ?_⟩
      show (x ++ (⟨#[ch]⟩ : Str)).length ≤ _
      rw [tx_len, tx_app, List.length_append, ← tx_len, ← tx_len, e1]; omega
    · obtain ⟨m, rfl⟩ := Int.eq_ofNat_of_zero_le (show 0 ≤ j by omega)
      show (cutS z1 (some (m : Int)) none).length ≤ _
      rw [tx_len, cut_from, List.length_drop, ← tx_len]; omega
    · have hx : x.length ≤ a2.toNat + 1 := hx
      have hy : y.length ≤ z1.length - a2.toNat := hy
      refine ⟨by omega, ?_⟩
      show (x ++ y).length ≤ _
      rw [tx_len, tx_app, List.length_append, ← tx_len, ← tx_len]; omega
  · exact gs_nil ⟨z1, (k : Int), by omega, rfl⟩
  obtain ⟨z2, a2, hz2, rfl⟩ := hΓ
  exact gs_ret1 (R := exR (fun t : Str => t.length ≤ 2 * z.length + 100) isS) (ge_conv (ge_var 1) fun v H q => ⟨z2, hz2, q⟩) hv'
theorem spoilx (F : Has P w K mg base 2 "_law_spoilt" p__law_spoilt spSpoil) : Has P w K mg base 2 "_law_spoilt" p__law_spoilt spSpoilx :=
  F.imp fun ⟨b, m⟩ hm Hb H σ hs A => by
    obtain ⟨z, pz, A'⟩ := A.ex 1 rfl
    have hm : m ≤ 10000 := hm
    exact ⟨(b, z), Nat.le_trans pz hm, A', rfl, fun o Hb h ⟨v, e, t, ht, q⟩ => ⟨v, e, t, Nat.le_trans ht (by show 2 * z.length + 100 ≤ 2 * m + 100; omega), q⟩⟩
end
end W
set_option synthInstance.maxHeartbeats 400000
set_option synthInstance.maxSize 1000
namespace W
open PySem L2 G M
section
variable {P : Program} {w : World} {K : PySem.W.Frag} {mg : Str → Option Value} {base : Heap}
theorem gbz_gs {X : Cx} {Γ : List Sl} {sts : List Stmt} {N : List Sl → Prop} {Rr : V → Hp → Hp → (Nat → Hp) → Prop} {Px : Value → List Sl → Prop} {Pz : Value → Str → RR → List Sl → Prop} (h : GS X Γ sts N ⟨Rr, fun _ _ _ _ _ => False⟩) : GBZ X Γ sts N Rr Px Pz := .mk fun σ H Hb hs D A q r W tk xc xz => h.run σ H Hb hs D A q r W tk fun _ _ _ _ _ _ _ z => z.elim
abbrev spTold (K : PySem.W.Frag) : Sp := FS (γ := Deed) (fun d => d.Good) (fun d => [.r (isS d.line)]) (fun _ => [.u]) (fun d => .r (isTup K [isDeed K d, isN]))
abbrev spToldN (K : PySem.W.Frag) : Sp := FS (γ := Str) (fun z => z.length ≤ 100000 ∧ ¬ GoodLine z) (fun z => [.r (isS z)]) (fun _ => [.u]) (fun _ => .r (isTup K [isN, isInt 0]))
theorem ok_told (D : Dfn K mg "_law_told" s__law_told p__law_told) (F : Has P w K mg base 4 "read_deed" p_read_deed (spReadDeed K)) (g : mg "BadText" = some (.ref (He.ga K "BadText"))) : Has P w K mg base 5 "_law_told" p__law_told (spTold K) := by
  refine has_ok D sc__law_told (fun _ => rfl) fun d vs f cdv A outer s H E hr hv _ hd => ?_
  have nd := sc__law_told.nd
  refine gs_set 1 (R := isN) ge_non ?_ nd
  refine gs_set 2 (R := isN) ge_non ?_ nd
  refine gs_tryAs (N1 := fun Γ' => Γ' = [.r (isS d.line), .r (isDeed K d), .r isN, .u]) (Px := fun _ _ => False) (Pz := fun _ _ _ _ => False) 3 (fun _ => true) (fun pn xe po => gbz_gs (gs_set 1 (R := isDeed K d) (ge_callH d F hr hd (ga_cons (ge_var 0) ga_nil)) (gs_nil rfl) nd)) ⟨rfl, by decide, .inl g⟩ (fun _ _ z => z.elim) (fun _ _ _ _ z => z.elim) (fun _ _ z => z.elim) (fun _ _ _ _ z => z.elim) (fun _ _ z => z.elim) (fun _ _ _ _ z => z.elim) (fun Γ' h => ?_) nd
  subst h
  exact gs_retP (ge_tup2 (ge_var 1) (ge_var 2)) hv
theorem ok_told_N (D : Dfn K mg "_law_told" s__law_told p__law_told) (F : HasX P w K mg base 4 "read_deed" p_read_deed (spReadBad K)) (O : oexAll K (He.ga K "BadText") (He.ga K "KeelError") "at" = true) (g : mg "BadText" = some (.ref (He.ga K "BadText"))) (xm : PySem.W.exmOne K (.ref (He.ga K "BadText")) (.ref (He.ga K "BadText")) = some true) : Has P w K mg base 5 "_law_told" p__law_told (spToldN K) := by
  refine has_ok D sc__law_told (fun _ => rfl) fun z vs f cdv A outer s H E hr hv _ hz => ?_
  have nd := sc__law_told.nd
  obtain ⟨_, _, Xf, no⟩ := oexAll_ok O
  refine gs_set 1 (R := isN) ge_non ?_ nd
  refine gs_set 2 (R := isN) ge_non ?_ nd
  show GS _ [.r (isS z), .r isN, .r isN, .u] _ _ _
  refine gs_tryAs (N1 := fun Γ' => Γ' = [.r (isS z), .r isN, .r (isInt 0), .u]) (Px := exBackP [.r (isS z), .r isN, .r isN, .u] [.r (isS z)] (fun _ _ => False)) (Pz := exBackZ [.r (isS z), .r isN, .r isN, .u] [.r (isS z)] (badZ K [.u])) 3 (fun _ => true) (fun pn xe po => ?_) ⟨rfl, by decide, .inl g⟩ (fun _ _ z => by obtain ⟨_, z, _⟩ := z; exact z.elim) (fun _ _ _ _ pz => by obtain ⟨_, ⟨rfl, _⟩, _⟩ := pz; exact xm) (fun _ _ z => by obtain ⟨_, z, _⟩ := z; exact z.elim) (fun cls nm R Γx pz _ a oe pn d zc zf => ?_) (fun _ _ z => by obtain ⟨_, z, _⟩ := z; exact z.elim) (fun _ _ _ _ _ z => by cases z) (fun Γ' h => ?_) nd
  · refine gbz_set (δ := Unit) (Po := fun _ => False) (Γ' := fun _ => upOuts [.r (isS z), .r isN, .r isN, .u] [.r (isS z)] [.u]) (s := fun _ => .u) 1 ?_ (fun _ _ (h : False) => h.elim) nd
    exact gz_callP (X := Cx.tr (BX P w K mg base n__law_told "_law_told" (defScope s__law_told) f cdv A outer s H E) pn xe) (Γ := [.r (isS z), .r isN, .r isN, .u]) (rs := [isS z]) (ks := [.r (isS z)]) z F hr hz (ga_cons (ge_var 0) ga_nil) ⟨.r .nil, rfl, rfl⟩ ⟨fun _ (h : False) => h.elim, fun _ _ (h : False) => h.elim⟩ (fun _ _ _ _ z => by obtain ⟨_, _, _, rfl⟩ := z; rfl)
  · obtain ⟨_, ⟨rfl, rfl, rfl, rfl⟩, rfl⟩ := pz
    exact gs_set 2 (R := isInt 0) (ge_xf 3 Xf no zc zf) (gs_nil rfl) nd
  · subst h
    exact gs_retP (ge_tup2 (ge_var 1) (ge_var 2)) hv
end
end W
set_option synthInstance.maxHeartbeats 400000
set_option synthInstance.maxSize 1000
namespace W
open PySem L2 G M
section
variable {P : Program} {w : World} {K : PySem.W.Frag} {mg : Str → Option Value} {base : Heap}
theorem ge_inS {X : Cx} {Γ : List Sl} {a b : Expr} {pos : Pos} {ch : Nat} {z : Str} (ha : GE X Γ a (isS ⟨#[ch]⟩)) (hb : GE X Γ b (isS z)) (hm : behindInMarks .In b = false := by rfl) : GE X Γ (.Compare a [.In] [b] pos) (isB (decide (ch ∈ tx z))) := ge_cmp op_in_sign ha hb rv_inS hm
theorem all_mem {l L : List Nat} : (l.map fun ch => decide (ch ∈ L)).all id = decide (∀ ch ∈ l, ch ∈ L) := by
  rw [Bool.eq_iff_iff, List.all_eq_true, decide_eq_true_eq]
  constructor
  · intro h c hc
    exact of_decide_eq_true (h _ (List.mem_map.mpr ⟨c, hc, rfl⟩))
  · intro h b hb
    obtain ⟨c, hc, rfl⟩ := List.mem_map.mp hb
    exact decide_eq_true (h c hc)
abbrev spFigs : Sp := FS (γ := Str) (fun z => z.length ≤ 100000) (fun z => [.r (isS z)]) (fun _ => [.u]) (fun z => .r (isB (figB z)))
theorem ok_law_figures (D : Dfn K mg "_law_figures" s__law_figures p__law_figures) (mA : mg "all" = none) : Has P w K mg base 1 "_law_figures" p__law_figures spFigs := by
  refine has_ok D sc__law_figures (fun _ => rfl) fun z vs f cdv A outer s H E hr hv _ hz => ?_
  have hz : z.length ≤ 100000 := hz
  have nd := sc__law_figures.nd
  refine gs_retP (ge_eq (ge_and (ge_neS (j := "") (ge_var 0) ge_str) fun _ => ge_all (bs := (tx z).map fun ch => decide (ch ∈ figL)) mA (ge_frzL (go_conv (go_lc (β := Bool) (c := isB) 1 (src_str (ge_var 0)) (Imap (tx z) fun ch => decide (ch ∈ figL)) rfl (fun i R hR => ?_) len_map (show BlkOk n__law_figures (defScope s__law_figures) _ _ from blkOk_by (by decide +kernel)) nd (by rw [List.length_map, ← tx_len]; exact Nat.lt_of_le_of_lt hz (by decide))) fun v H h q => ?_))) ?_) hv
  · rw [List.getElem?_map] at hR
    cases e : (tx z)[i]? with
    | none => rw [e] at hR; cases hR
    | some c =>
      rw [e] at hR
      cases hR
      exact lcT_map e fun s' H C cl fp => ge_inS (z := "0123456789") (ge_var 1) ge_str
  · obtain ⟨ys, hys, q⟩ := q
    have ey := map_all (by rw [List.length_map]) hys
    subst ey
    exact q
  · rw [all_mem]; rfl
theorem en_hp {K : PySem.W.Frag} : En K (isH K) 1 (fun xs => ∀ x ∈ xs, All1 x) := en_tupL en_int
/-- what a word reads as -/
def rdOf (ch : Nat) (z : Str) : Option Thing := if ch = 110 then (if nameOk z = true then some (.s z) else none) else if ch = 107 then (numOf z).map .i else (heapOf z).map .h
abbrev spThingIn (K : PySem.W.Frag) : Sp := FS (γ := Nat × Str) (fun g => g.2.length ≤ 100000) (fun g => [.r (isS ⟨#[g.1]⟩), .r (isS g.2)]) (fun _ => [.u, .u]) (fun g => .r (isOpt (thingR K) (rdOf g.1 g.2)))
theorem ok_thing_in (D : Dfn K mg "_law_thing_in" s__law_thing_in p__law_thing_in) (F1 : Has P w K mg base 1 "_law_figures" p__law_figures spFigs) (F2 : Has P w K mg base 1 "_law_heaps" p__law_heaps (spLawHeaps K)) (mA : mg "all" = none) (ml : mg "len" = none) (mi : mg "int" = none) (mt : mg "tuple" = none) : Has P w K mg base 2 "_law_thing_in" p__law_thing_in (spThingIn K) := by
  refine has_ok D sc__law_thing_in (fun _ => rfl) fun g vs f cdv A outer s H E hr hv _ hz => ?_
  obtain ⟨ch, z⟩ := g
  have hz : z.length ≤ 100000 := hz
  have hz2 : z.length ≤ sizeLine := Nat.le_trans hz (by decide)
  have nd := sc__law_thing_in.nd
  refine gs_ifR (gt_eqS (i := ⟨#[ch]⟩) (j := "n") (ge_var 0) ge_str) (fun h => ?_) (fun h => ?_)
  · have hc : ch = 110 := sign_eq (of_decide_eq_true h.symm)
    subst hc
    refine gs_ifR (gt_and (gt_chain op_le op_le ge_int (ge_lenS ml (ge_var 1) hz2) fun _ => ge_int) fun _ => gt_v (ge_all (bs := (tx z).map fun ch => decide (ch ∈ lettersL)) mA (ge_frzL (go_conv (go_lc (β := Bool) (c := isB) 3 (src_str (ge_var 1)) (Imap (tx z) fun ch => decide (ch ∈ lettersL)) rfl (fun i R hR => ?_) len_map (show BlkOk n__law_thing_in (defScope s__law_thing_in) _ _ from blkOk_by (by decide +kernel)) nd (by rw [List.length_map, ← tx_len]; exact Nat.lt_of_le_of_lt hz (by decide))) fun v H h q => ?_)))) (fun h2 => ?_) (fun h2 => ?_)
    · rw [List.getElem?_map] at hR
      cases e : (tx z)[i]? with
      | none => rw [e] at hR; cases hR
      | some c =>
        rw [e] at hR
        cases hR
        exact lcT_map e fun s' H C cl fp => ge_inS (z := "abcdefghijklmnopqrstuvwxyz") (ge_var 3) ge_str
    · obtain ⟨ys, hys, q⟩ := q
      have ey := map_all (by rw [List.length_map]) hys
      subst ey
      exact q
    · rw [all_mem] at h2
      refine gs_retP (ge_eq (ge_var 1) ?_) hv
      unfold rdOf
      rw [if_pos rfl, if_pos (show nameOk z = true from h2.symm)]; rfl
    · rw [all_mem] at h2
      refine gs_retP (ge_eq ge_non ?_) hv
      unfold rdOf
      rw [if_pos rfl, if_neg (by rw [show nameOk z = false from h2.symm]; decide)]; rfl
  have hc : ¬ ch = 110 := fun e => by rw [e] at h; cases (of_decide_eq_false h.symm) rfl
  refine gs_ifR (gt_not (gt_v (ge_callH z F1 hr hz (ga_cons (ge_var 1) ga_nil)))) (fun h3 => ?_) (fun h3 => ?_)
  · have fb : figB z = false := by simpa using h3.symm
    refine gs_retP (ge_eq ge_non ?_) hv
    have e1 : numOf z = none := by unfold numOf; rw [fb, Bool.not_false, Bool.or_true, if_pos rfl]
    have e2 : heapOf z = none := by unfold heapOf; rw [fb, Bool.not_false, Bool.or_true, if_pos rfl]
    unfold rdOf
    rw [if_neg hc, e1, e2]
    split <;> rfl
  have fb : figB z = true := by simpa using h3.symm
  obtain ⟨dg, ne⟩ := figB_dig fb
  refine gs_ifR (gt_eqS (i := ⟨#[ch]⟩) (j := "k") (ge_var 0) ge_str) (fun h4 => ?_) (fun h4 => ?_)
  · have hk : ch = 107 := sign_eq (of_decide_eq_true h4.symm)
    subst hk
    obtain ⟨c0, t, et⟩ : ∃ ch t, tx z = ch :: t := by
      cases e : tx z with
      | nil => exact absurd e ne
      | cons a t => exact ⟨a, t, rfl⟩
    have hd : (tx z).head? = some c0 := by rw [et]; rfl
    refine gs_ifR (gt_or (gt_gt (ge_lenS ml (ge_var 1) hz2) ge_int) fun _ => gt_and (gt_gt (ge_lenS ml (ge_var 1) hz2) ge_int) fun _ => gt_eqS (i := ⟨#[c0]⟩) (j := "0") (ge_ixS c0 (ge_var 1) ge_int (head_at hd) hz2) ge_str) (fun h5 => ?_) (fun h5 => ?_)
    · refine gs_retP (ge_eq ge_non ?_) hv
      unfold rdOf
      rw [if_neg hc, if_pos rfl]
      unfold numOf
      rw [fb]
      rcases (Bool.or_eq_true ..).mp h5.symm with a | a
      · rw [if_pos (by rw [a]; rfl)]; rfl
      · rcases (Bool.and_eq_true ..).mp a with ⟨a2, b⟩
        have : c0 = 48 := sign_eq (of_decide_eq_true b)
        subst this
        split
        · rfl
        · rw [if_pos (by rw [hd]; show (decide ((some 48 : Option Nat) = some 48) && decide ((1 : Int) < z.length)) = true; rw [a2]; rfl)]; rfl
    · rcases Bool.or_eq_false_iff.mp h5.symm with ⟨a, b⟩
      have h13 : ¬ (13 : Int) < z.length := of_decide_eq_false a
      refine gs_retP (ge_eq (ge_intS mi (ge_var 1) (intText_digits dg ne (by omega)) (by omega)) ?_) hv
      unfold rdOf
      rw [if_neg hc, if_pos rfl]
      unfold numOf
      rw [fb, if_neg (by rw [a]; decide), if_neg]
      · rfl
      intro q
      rcases (Bool.and_eq_true ..).mp q with ⟨q1, q2⟩
      have q1 : (tx z).head? = some 48 := of_decide_eq_true q1
      rw [hd] at q1
      cases q1
      rw [q2, decide_eq_true (show (⟨#[48]⟩ : Str) = "0" from rfl)] at b
      cases b
  have hk : ¬ ch = 107 := fun e => by rw [e] at h4; cases (of_decide_eq_false h4.symm) rfl
  have l9 : ((tx z).take 9).length ≤ 9 := by rw [List.length_take]; omega
  refine gs_set 2 (R := isH K (((tx z).take 9).map figI)) (ge_tuple mt (ge_frzL (go_conv (go_lc (β := Int) (c := isInt) 3 (src_str (z := cutS z none (some ((9 : Nat) : Int))) (ge_conv (ge_toSx (Z := (· = cutS z none (some ((9 : Nat) : Int)))) (ge_var 1) (ge_x (p := (· = ((9 : Nat) : Int))) ge_int rfl) hz2 fun k e => by subst e; rfl) fun v H ⟨y, e, q⟩ => by subst e; exact q)) (Imap ((tx z).take 9) figI) rfl (fun i R hR => ?_) len_map (show BlkOk n__law_thing_in (defScope s__law_thing_in) _ _ from blkOk_by (by decide +kernel)) nd (by rw [List.length_map]; rw [cut_to]; omega)) fun v H h q => ?_))) ?_ nd
  · rw [List.getElem?_map, cut_to] at hR
    cases e : ((tx z).take 9)[i]? with
    | none => rw [e] at hR; cases hR
    | some c =>
      rw [e] at hR
      cases hR
      exact lcT_map e fun s' H C cl fp => ge_intS mi (ge_var 3) (dig_one (dg c (List.mem_of_mem_take (List.mem_of_getElem? e)))) (show 1 ≤ 640 by decide)
  · obtain ⟨ys, hys, q⟩ := q
    have ey := map_all (by rw [List.length_map, cut_to]) hys
    rw [ey] at q
    exact q
  refine gs_ifR (gt_or (gt_gt (ge_lenS ml (ge_var 1) hz2) ge_int) fun _ => gt_notInE (x := ((tx z).take 9).map figI) (ys := rawH 6) (c := isH K) en_hp hr (ge_var 2) (ge_frzL (go_callH (6 : Int) F2 hr ⟨by decide, by decide⟩ (ga_cons ge_int ga_nil))) (fun _ _ => trivial) (fun _ _ _ _ => trivial)) (fun h5 => ?_) (fun h5 => ?_)
  · refine gs_retP (ge_eq ge_non ?_) hv
    unfold rdOf
    rw [if_neg hc, if_neg hk]
    unfold heapOf
    rw [fb]
    by_cases l6 : (6 : Int) < z.length
    · rw [if_pos (by rw [decide_eq_true l6]; rfl)]; rfl
    · have e9 : (tx z).take 9 = tx z := List.take_of_length_le (by rw [← tx_len]; omega)
      rw [e9, decide_eq_false l6, Bool.false_or] at h5
      have h6 : ¬ IsHp 6 ((tx z).map figI) := fun q => absurd ((mem_rawH 6 _).mpr q) (by simpa only [Bool.not_eq_true', decide_eq_false_iff_not] using h5.symm)
      rw [if_neg (by rw [decide_eq_false l6]; decide), if_pos (by rw [decide_eq_false h6]; rfl)]; rfl
  · rcases Bool.or_eq_false_iff.mp h5.symm with ⟨a, b⟩
    have l6 : ¬ (6 : Int) < z.length := of_decide_eq_false a
    have e9 : (tx z).take 9 = tx z := List.take_of_length_le (by rw [← tx_len]; omega)
    rw [e9] at b ⊢
    have h6 : IsHp 6 ((tx z).map figI) := (mem_rawH 6 _).mp (by simpa using b)
    refine gs_retP (ge_eq (ge_var 2) ?_) hv
    unfold rdOf
    rw [if_neg hc, if_neg hk]
    unfold heapOf
    rw [fb, if_neg (by rw [a]; decide), if_neg (by rw [decide_eq_true h6]; decide)]; rfl
end
end W
namespace W
open PySem L2 G M
section
variable {K : PySem.W.Frag}
instance thingDec : DecidableEq Thing
  | .s a, .s b => if h : a = b then .isTrue (by rw [h]) else .isFalse fun e => h (by cases e; rfl)
  | .i a, .i b => if h : a = b then .isTrue (by rw [h]) else .isFalse fun e => h (by cases e; rfl)
  | .h a, .h b => if h : a = b then .isTrue (by rw [h]) else .isFalse fun e => h (by cases e; rfl)
  | .s _, .i _ => .isFalse nofun
  | .s _, .h _ => .isFalse nofun
  | .i _, .s _ => .isFalse nofun
  | .i _, .h _ => .isFalse nofun
  | .h _, .s _ => .isFalse nofun
  | .h _, .i _ => .isFalse nofun
def thingOk : Option Thing → Prop | some (.s z) => PyData.strOk z = true | _ => True
theorem en_thing : En K (isOpt (thingR K)) 1 thingOk := by
  refine ⟨fun o => match o with | none => .none | some (.s z) => .str z | some (.i n) => .int n | some (.h l) => .tuple (l.map fun x : Int => PyData.int x), fun x v H h => ?_, fun x h => ?_, fun x => ?_, fun x y => ?_⟩
  · match x, h with
    | none, h => cases h; exact .non
    | some (.s z), h => cases h; exact .str z
    | some (.i n), h => cases h; exact .int n
    | some (.h l), ⟨a, vs, e1, e2, e3⟩ => subst e1; exact .tup e2 (enc_all (f := fun x : Int => PyData.int x) (fun x v H h => by cases h; exact .int x) e3)
  · match x, h with
    | none, _ => rfl
    | some (.s z), h => exact h
    | some (.i n), _ => rfl
    | some (.h l), _ => exact lay_all (f := fun x : Int => PyData.int x) (dom := All1) (fun _ _ => rfl) l fun _ _ => trivial
  · match x with
    | none => exact Nat.zero_le _
    | some (.s z) => exact Nat.zero_le _
    | some (.i n) => exact Nat.zero_le _
    | some (.h l) => exact Nat.succ_le_succ (dep_all (f := fun x : Int => PyData.int x) (n := 0) (fun _ => Nat.le_refl _) l)
  · match x, y with
    | none, none => exact (decide_eq_true rfl).symm
    | none, some (.s _) => exact (decide_eq_false nofun).symm
    | none, some (.i _) => exact (decide_eq_false nofun).symm
    | none, some (.h _) => exact (decide_eq_false nofun).symm
    | some (.s _), none => exact (decide_eq_false nofun).symm
    | some (.i _), none => exact (decide_eq_false nofun).symm
    | some (.h _), none => exact (decide_eq_false nofun).symm
    | some (.s _), some (.i _) => exact (decide_eq_false nofun).symm
    | some (.s _), some (.h _) => exact (decide_eq_false nofun).symm
    | some (.i _), some (.s _) => exact (decide_eq_false nofun).symm
    | some (.i _), some (.h _) => exact (decide_eq_false nofun).symm
    | some (.h _), some (.s _) => exact (decide_eq_false nofun).symm
    | some (.h _), some (.i _) => exact (decide_eq_false nofun).symm
    | some (.s a), some (.s b) =>
      show (a == b) = _
      rw [Bool.beq_eq_decide_eq]
      exact decide_eq_decide.mpr ⟨fun e => by rw [e], fun e => by cases e; rfl⟩
    | some (.i a), some (.i b) =>
      show (a == b) = _
      rw [Bool.beq_eq_decide_eq]
      exact decide_eq_decide.mpr ⟨fun e => by rw [e], fun e => by cases e; rfl⟩
    | some (.h a), some (.h b) =>
      refine (eqv_all (f := fun x : Int => PyData.int x) (fun x y => by show (x == y) = _; exact Bool.beq_eq_decide_eq x y) a b).trans ?_
      exact decide_eq_decide.mpr ⟨fun e => by rw [e], fun e => by cases e; rfl⟩
end
end W
set_option synthInstance.maxHeartbeats 400000
set_option synthInstance.maxSize 1000
namespace W
open PySem L2 G M
section
variable {P : Program} {w : World} {K : PySem.W.Frag} {mg : Str → Option Value} {base : Heap}
abbrev formKv : List (Str × V) := lawForms.map fun g => (g.1, V.str g.2)
def formOf (z : Str) : Str := (lawForms.lookup z).getD ""
theorem lookup_mapV {z : Str} : ∀ {l : List (Str × Str)}, (l.map fun g => (g.1, V.str g.2)).lookup z = (l.lookup z).map V.str
  | [] => rfl
  | g :: l => by
    rw [List.map_cons, List.lookup_cons, List.lookup_cons, lookup_mapV]
    cases z == g.1 <;> rfl
theorem no_of {p : Prop} (d : Decidable p) (h : false = @decide p d) : ¬ p := fun q => by
  cases d with
  | isTrue _ => cases h
  | isFalse n => exact n q
theorem lk_mem {z t : Str} : ∀ {l : List (Str × Str)}, l.lookup z = some t → (z, t) ∈ l
  | [], h => by cases h
  | g :: l, h => by
    rw [List.lookup_cons] at h
    cases e : z == g.1 with
    | true =>
      rw [e] at h
      cases h
      rw [eq_of_beq e]
      exact List.mem_cons_self ..
    | false =>
      rw [e] at h
      exact List.mem_cons_of_mem _ (lk_mem h)
theorem rdOf_inv {ch : Nat} {z : Str} {t : Thing} (h : rdOf ch z = some t) : t.kind = kindOf ch ∨ ¬ (ch = 110 ∨ ch = 107 ∨ ch = 104) := by
  unfold rdOf at h
  unfold kindOf
  by_cases c1 : ch = 110
  · rw [if_pos c1] at h ⊢
    split at h
    · cases h; exact .inl rfl
    · cases h
  · by_cases c2 : ch = 107
    · subst c2
      rw [if_neg c1, if_pos rfl] at h
      rw [if_neg c1, if_neg (by decide)]
      cases e : numOf z with
      | none => rw [e] at h; cases h
      | some n => rw [e] at h; cases h; exact .inl rfl
    · by_cases c3 : ch = 104
      · rw [if_neg c1, if_neg c2] at h
        rw [if_neg c1, if_pos c3]
        cases e : heapOf z with
        | none => rw [e] at h; cases h
        | some n => rw [e] at h; cases h; exact .inl rfl
      · exact .inr (by rintro (h | h | h) <;> contradiction)
theorem rd_ok (ch : Nat) (z : Str) : thingOk (rdOf ch z) := by
  unfold rdOf
  split
  · split
    · rename_i hn
      refine strOk_tx fun c hc => ?_
      unfold nameOk at hn
      rw [Bool.and_eq_true] at hn
      exact (show ∀ c ∈ lettersL, c < 1114112 by decide +kernel) c (of_decide_eq_true hn.2 c hc)
    · trivial
  · split
    · cases numOf z <;> trivial
    · cases heapOf z <;> trivial
theorem rdOf_good {ch : Nat} {z : Str} {t : Thing} (h : rdOf ch z = some t) : t.Good ∧ t.txt = z := by
  unfold rdOf at h
  split at h
  · split at h
    · rename_i hn; cases h; exact ⟨hn, rfl⟩
    · cases h
  · split at h
    · cases e : numOf z with
      | none => rw [e] at h; cases h
      | some n => rw [e] at h; cases h; exact numOf_inv e
    · cases e : heapOf z with
      | none => rw [e] at h; cases h
      | some n => rw [e] at h; cases h; exact heapOf_inv e
abbrev spLawReadN : Sp := FS (γ := Str) (fun z => z.length ≤ 100000 ∧ ¬ GoodLine z) (fun z => [.r (isS z)]) (fun _ => [.u]) (fun _ => .r isN)
theorem ok_read_N (D : Dfn K mg "_law_read" s__law_read p__law_read) (F : Has P w K mg base 2 "_law_thing_in" p__law_thing_in (spThingIn K)) (ml : mg "len" = none) (mr : mg "range" = none) (mt : mg "tuple" = none) : Has P w K mg base 3 "_law_read" p__law_read spLawReadN := by
  refine has_ok D sc__law_read (fun _ => rfl) fun z vs f cdv A outer s H E hr hv _ hz => ?_
  obtain ⟨hz, ng⟩ := hz
  have nd := sc__law_read.nd
  refine gs_set 1 (R := exR (fun _ : Addr × Unit => True) fun y => isRegV (.ref y.1) [(y.1, dR formKv)] cT) (ge_conv (ge_frzR (go_disp (gp_v (v := .str "nk") ge_str ge_str (gp_v (v := .str "nkkk") ge_str ge_str (gp_v (v := .str "nk") ge_str ge_str (gp_v (v := .str "nk") ge_str ge_str (gp_v (v := .str "nk") ge_str ge_str (gp_v (v := .str "nhkk") ge_str ge_str (gp_v (v := .str "nhk") ge_str ge_str (gp_v (v := .str "nkk") ge_str ge_str (gp_v (v := .str "n") ge_str ge_str (gp_v (v := .str "nkk") ge_str ge_str gp_nil)))))))))) (fun _ _ => by decide +kernel) (fun _ _ => by decide +kernel))) fun v H h => h) ?_ nd
  refine gs_setO 2 (φ := ownL ((Txt.split z " ").map isS)) (go_split (ge_var 0) ge_str (Nat.le_trans (Nat.add_le_add_right hz 2) (by decide)) rfl) (fun w1 => ?_) nd
  refine gs_frzL 2 ?_
  obtain ⟨w0, ws, ew⟩ : ∃ a l, Txt.split z " " = a :: l := by
    cases e : Txt.split z " " with
    | nil => exact absurd e (split_ne z)
    | cons a l => exact ⟨a, l, rfl⟩
  rw [ew]
  refine gs_set 3 (R := isS (formOf w0)) (ge_dget2 hr (ge_var 1) (ge_ixL 0 (R := isS w0) (ge_var 2) ge_int rfl rfl) ge_str fun v H h => ?_) ?_ nd
  · obtain ⟨y, _, h⟩ := h
    refine ⟨y.1, rkvs formKv, h.1, h.2.1 (y.1, dR formKv) (List.mem_cons_self ..), fun u hu => ?_, fun hn u q => ?_⟩
    · rw [valV_r, lookup_mapV] at hu
      unfold formOf
      cases e : lawForms.lookup w0 with
      | none => rw [e] at hu; cases hu
      | some t => rw [e] at hu; cases hu; rfl
    · rw [valV_r, lookup_mapV] at hn
      unfold formOf
      cases e : lawForms.lookup w0 with
      | none => exact q
      | some t => rw [e] at hn; cases hn
  have lf : (formOf w0).length ≤ 4 := by
    unfold formOf
    cases e : lawForms.lookup w0 with
    | none => exact (by decide : (0 : Nat) ≤ 4)
    | some t =>
      have := forms_short _ (lk_mem e)
      rw [← tx_len] at this
      exact this
  refine gs_ifR (gt_or (gt_eqS (i := formOf w0) (j := "") (ge_var 3) ge_str) fun _ => gt_neI (i := ((w0 :: ws).length : Int)) (j := ((formOf w0).length : Int) + 1) (ge_len (n := (w0 :: ws).length) ml (ge_var 2) (by simp)) (ge_add (ge_lenS ml (ge_var 3) (Nat.le_trans lf (by decide))) ge_int)) (fun _ => gs_retP ge_non hv) (fun h => ?_)
  obtain ⟨hf, hlen⟩ := Bool.or_eq_false_iff.mp h.symm
  have hlen : (w0 :: ws).length = (formOf w0).length + 1 := by
    have h1 : decide ((((w0 :: ws).length : Nat) : Int) = ((formOf w0).length : Int) + 1) = true := by simpa using hlen
    have := of_decide_eq_true h1
    omega
  have hl : ws.length = (formOf w0).length := by simpa using hlen
  have tl : (tx (formOf w0)).length = (formOf w0).length := (tx_len _).symm
  obtain ⟨s1, s2⟩ := split_small ew
  let fs : List (Option Thing) := (List.range (formOf w0).length).map fun i => rdOf ((tx (formOf w0)).getD i 0) (ws.getD i "")
  have lfs : fs.length = (formOf w0).length := by show (List.map _ _).length = _; rw [List.length_map, List.length_range]
  refine gs_setO 4 (φ := ownL ((some (.s w0) :: fs).map (isOpt (thingR K)))) (go_catL (rs := [isOpt (thingR K) (some (.s w0))]) (rs' := fs.map (isOpt (thingR K))) (ge_lstK (ga_cons (ge_conv (ge_ixL 0 (R := isS w0) (ge_var 2) ge_int rfl rfl) fun v H h => h) ga_nil)) (ge_frzL (go_conv (go_lc (β := Option Thing) (c := isOpt (thingR K)) 5 (src_range mr (ge_lenS ml (ge_var 3) (Nat.le_trans lf (by decide))) ⟨by omega, by omega⟩) (Imap (List.range (formOf w0).length) fun i => rdOf ((tx (formOf w0)).getD i 0) (ws.getD i "")) rfl (fun j R hR => ?_) len_map (show BlkOk n__law_read (defScope s__law_read) _ _ from blkOk_by (by decide +kernel)) nd (by rw [rngR_len]; omega) (hg := fun _ _ _ _ _ => pg_name nd rfl (by first | exact Or.inl rfl | exact Or.inr rfl))) fun v H h q => ?_)) (by rw [List.length_map, lfs]; exact Nat.le_trans (show 1 + (formOf w0).length ≤ 5 by omega) (by decide))) (fun w4 => ?_) nd
  · obtain ⟨hlt, rfl⟩ := rngR_get hR
    have hx : j < (formOf w0).length := by omega
    have g1 : (tx (formOf w0))[j]? = some ((tx (formOf w0)).getD j 0) := by rw [List.getD_eq_getElem?_getD, List.getElem?_eq_getElem (by omega)]; rfl
    have g2 : ws[j]? = some (ws.getD j "") := by rw [List.getD_eq_getElem?_getD, List.getElem?_eq_getElem (by omega)]; rfl
    have at1 : atI (tx (formOf w0)) ((j : Nat) : Int) = some ((tx (formOf w0)).getD j 0) := by
      unfold atI ixN
      rw [if_pos (by omega), if_pos (by omega)]
      exact g1
    have g3 : ((w0 :: ws).map (isS ·))[j + 1]? = some (isS (ws.getD j "")) := by rw [List.map_cons, List.getElem?_cons_succ, List.getElem?_map, g2]; rfl
    exact lcT_map (a := j) (List.getElem?_range hx) fun s H C cl fp => ge_callH ((tx (formOf w0)).getD j 0, ws.getD j "") F hr (Nat.le_trans (s2 _ (List.mem_cons_of_mem _ (List.mem_of_getElem? g2))) hz) (ga_cons (ge_ixS _ (ge_var 3) (ge_var 5) at1 (Nat.le_trans lf (by decide))) (ga_cons (ge_ixL (j + 1) (ge_var 2) (ge_add (ge_var 5) ge_int) g3 (by omega)) ga_nil))
  · obtain ⟨ys, hys, q⟩ := q
    have ey := map_all (by rw [rngR_len, List.length_range]; omega) hys
    subst ey
    exact q
  refine gs_frzL 4 ?_
  refine gs_ifR (gt_inE (c := isOpt (thingR K)) (x := none) (ys := some (.s w0) :: fs) en_thing hr (ge_conv ge_non fun v H h => h) (ge_var 4) trivial (fun y hy => ?_)) (fun _ => gs_retP ge_non hv) (fun h6 => ?_)
  · rcases List.mem_cons.mp hy with rfl | hy
    · cases el : lawForms.lookup w0 with
      | none =>
        have : formOf w0 = "" := by unfold formOf; rw [el]; rfl
        exact absurd this (of_decide_eq_false hf)
      | some t => exact (show ∀ g ∈ lawForms, PyData.strOk g.1 = true by decide +kernel) _ (lk_mem el)
    · obtain ⟨i, _, rfl⟩ := List.mem_map.mp hy
      exact rd_ok _ _
  · have hno : none ∉ (some (.s w0) :: fs : List (Option Thing)) := no_of _ h6
    have hex : ∀ i, i < (formOf w0).length → ∃ t, rdOf ((tx (formOf w0)).getD i 0) (ws.getD i "") = some t := fun i hi => by
      cases e : rdOf ((tx (formOf w0)).getD i 0) (ws.getD i "") with
      | some t => exact ⟨t, rfl⟩
      | none => exact absurd (List.mem_cons_of_mem _ (List.mem_map.mpr ⟨i, List.mem_range.mpr hi, e⟩)) hno
    cases el : lawForms.lookup w0 with
    | none =>
      have : formOf w0 = "" := by unfold formOf; rw [el]; rfl
      exact absurd this (of_decide_eq_false hf)
    | some t =>
      have ef : formOf w0 = t := by unfold formOf; rw [el]; rfl
      have hm := lk_mem el
      rw [← ef] at hm
      have hch : ∀ c ∈ tx (formOf w0), c = 110 ∨ c = 107 ∨ c = 104 := (show ∀ g ∈ lawForms, ∀ c ∈ tx g.2, c = 110 ∨ c = 107 ∨ c = 104 by decide +kernel) _ hm
      obtain ⟨ts, hts⟩ : ∃ ts : List Thing, ts = (List.range (formOf w0).length).map fun i => (rdOf ((tx (formOf w0)).getD i 0) (ws.getD i "")).getD (.i 0) := ⟨_, rfl⟩
      have lts : ts.length = (formOf w0).length := by rw [hts, List.length_map, List.length_range]
      have gts : ∀ i (hi : i < ts.length), ts[i].kind = kindOf ((tx (formOf w0)).getD i 0) ∧ ts[i].Good ∧ ts[i].txt = ws.getD i "" := fun i hi => by
        obtain ⟨t, et⟩ := hex i (by omega)
        have e0 : ts[i]? = some t := by
          rw [hts, List.getElem?_map, List.getElem?_range (by omega)]
          show some ((rdOf ((tx (formOf w0)).getD i 0) (ws.getD i "")).getD (.i 0)) = some t
          rw [et]; rfl
        have e1 : ts[i] = t := Option.some.inj ((List.getElem?_eq_getElem hi).symm.trans e0)
        rw [e1]
        refine ⟨(rdOf_inv et).resolve_right fun n => n (hch _ ?_), rdOf_good et⟩
        rw [List.getD_eq_getElem?_getD, List.getElem?_eq_getElem (by omega)]
        exact List.getElem_mem _
      have e1 : ts.map Thing.kind = (tx (formOf w0)).map kindOf := by
        refine List.ext_getElem (by rw [List.length_map, List.length_map]; omega) fun i h1 h2 => ?_
        rw [List.length_map] at h1 h2
        rw [List.getElem_map, List.getElem_map, (gts i h1).1, List.getD_eq_getElem?_getD, List.getElem?_eq_getElem h2]; rfl
      have e2 : ts.map Thing.txt = ws := by
        refine List.ext_getElem (by rw [List.length_map]; omega) fun i h1 h2 => ?_
        rw [List.length_map] at h1
        rw [List.getElem_map, (gts i h1).2.2, List.getD_eq_getElem?_getD, List.getElem?_eq_getElem h2]; rfl
      obtain ⟨d, d1, d2⟩ := deed_of hm e1
      refine absurd (goodLine_of (d := d) (fun t ht => ?_) ?_) ng
      · rw [d2] at ht
        obtain ⟨i, hi, rfl⟩ := List.getElem_of_mem ht
        exact (gts i hi).2.1
      · rw [ew, d1, d2, e2]
end
end W
set_option synthInstance.maxHeartbeats 400000
set_option synthInstance.maxSize 1000
namespace W
open PySem L2 G M
theorem rdOf_ok {ch : Nat} {t : Thing} (g : t.Good) (h : kindOf ch = t.kind) (hc : ch = 110 ∨ ch = 107 ∨ ch = 104) : rdOf ch t.txt = some t := by
  unfold rdOf
  rcases hc with rfl | rfl | rfl
  · obtain ⟨z, rfl⟩ := kind_name h.symm
    rw [if_pos rfl, if_pos (show nameOk (Thing.s z).txt = true from g)]; rfl
  · obtain ⟨z, rfl⟩ := kind_num h.symm
    rw [if_neg (by decide), if_pos rfl, show (Thing.i z).txt = numS z from rfl, numOf_num g.1 g.2]; rfl
  · obtain ⟨z, rfl⟩ := kind_heap h.symm
    rw [if_neg (by decide), if_neg (by decide), show (Thing.h z).txt = heapS z from rfl, heapOf_heap g.1 g.2]; rfl
theorem yes_of {p : Prop} (d : Decidable p) (h : true = @decide p d) : p := by
  cases d with
  | isTrue q => exact q
  | isFalse n => cases h
theorem form_kinds (d : Deed) : (tx (formOf d.word)).map kindOf = d.things.map Thing.kind := by
  have h : ∀ g ∈ formsT, (tx (formOf g.1)).map kindOf = g.2 := by decide +kernel
  exact h _ (form_mem d)
theorem form_chars (d : Deed) : ∀ c ∈ tx (formOf d.word), c = 110 ∨ c = 107 ∨ c = 104 := by
  have h : ∀ g ∈ formsT, ∀ c ∈ tx (formOf g.1), c = 110 ∨ c = 107 ∨ c = 104 := by decide +kernel
  exact h _ (form_mem d)
theorem form_nz (d : Deed) : formOf d.word ≠ "" := by
  have h : ∀ g ∈ formsT, formOf g.1 ≠ "" := by decide +kernel
  exact h _ (form_mem d)
theorem _root_.M.Thing.Good.short {t : Thing} (h : t.Good) : t.txt.length ≤ 100 := by
  cases t with
  | s z => have := nameOk_short h; show z.length ≤ 100; omega
  | i n =>
    have : (numS n).length ≤ 14 := num_len (by decide) (show n.natAbs < 10 ^ 13 by have := h.1; have := h.2; omega)
    show (numS n).length ≤ 100
    omega
  | h l =>
    obtain ⟨a, _⟩ := h
    have l6 := rawH_short 6 l ((mem_rawH 6 l).mpr a)
    show (heapS l).length ≤ 100
    refine Nat.le_trans join_len ?_
    have h1 := sum_lenM (l := l.map numS) (m := 2) fun x hx => by
      obtain ⟨y, hy, rfl⟩ := List.mem_map.mp hx
      exact num_len (k := 1) (by decide) (by have := a.2 y hy; omega)
    rw [List.length_map] at h1
    rw [List.length_map]
    have : ("" : Str).length = 0 := rfl
    rw [this]
    omega
theorem _root_.M.Deed.Good.short {d : Deed} (h : d.Good) : d.line.length ≤ 1000 := by
  unfold Deed.line
  refine Nat.le_trans join_len ?_
  have h1 := sum_lenM (l := d.word :: d.things.map Thing.txt) (m := 100) fun x hx => by
    rcases List.mem_cons.mp hx with rfl | hx
    · have : ∀ z ∈ wordsL, z.length ≤ 100 := by decide +kernel
      exact this _ (word_mem d)
    · obtain ⟨t, ht, rfl⟩ := List.mem_map.mp hx
      exact (h t ht).short
  have h2 := things_len d
  rw [List.length_cons, List.length_map] at h1 ⊢
  have : (" " : Str).length = 1 := rfl
  rw [this]
  omega
section
variable {P : Program} {w : World} {K : PySem.W.Frag} {mg : Str → Option Value} {base : Heap}
abbrev spLawRead (K : PySem.W.Frag) : Sp := FS (γ := Deed) (fun d => d.Good) (fun d => [.r (isS d.line)]) (fun _ => [.u]) (fun d => .r (isDeed K d))
theorem ok_read (D : Dfn K mg "_law_read" s__law_read p__law_read) (F : Has P w K mg base 2 "_law_thing_in" p__law_thing_in (spThingIn K)) (ml : mg "len" = none) (mr : mg "range" = none) (mt : mg "tuple" = none) : Has P w K mg base 3 "_law_read" p__law_read (spLawRead K) := by
  refine has_ok D sc__law_read (fun _ => rfl) fun d vs f cdv A outer s H E hr hv _ hd => ?_
  have hd : d.Good := hd
  have hz : d.line.length ≤ 100000 := Nat.le_trans hd.short (by decide)
  obtain ⟨z, ez⟩ : ∃ z, z = d.line := ⟨_, rfl⟩
  rw [← ez] at hz
  show GS _ [.r (isS d.line), .u, .u, .u, .u, .u] _ _ _
  rw [← ez]
  have nd := sc__law_read.nd
  refine gs_set 1 (R := exR (fun _ : Addr × Unit => True) fun y => isRegV (.ref y.1) [(y.1, dR formKv)] cT) (ge_conv (ge_frzR (go_disp (gp_v (v := .str "nk") ge_str ge_str (gp_v (v := .str "nkkk") ge_str ge_str (gp_v (v := .str "nk") ge_str ge_str (gp_v (v := .str "nk") ge_str ge_str (gp_v (v := .str "nk") ge_str ge_str (gp_v (v := .str "nhkk") ge_str ge_str (gp_v (v := .str "nhk") ge_str ge_str (gp_v (v := .str "nkk") ge_str ge_str (gp_v (v := .str "n") ge_str ge_str (gp_v (v := .str "nkk") ge_str ge_str gp_nil)))))))))) (fun _ _ => by decide +kernel) (fun _ _ => by decide +kernel))) fun v H h => h) ?_ nd
  refine gs_setO 2 (φ := ownL ((Txt.split z " ").map isS)) (go_split (ge_var 0) ge_str (Nat.le_trans (Nat.add_le_add_right hz 2) (by decide)) rfl) (fun w1 => ?_) nd
  refine gs_frzL 2 ?_
  obtain ⟨w0, ew0⟩ : ∃ w0, w0 = d.word := ⟨_, rfl⟩
  obtain ⟨ws, ews⟩ : ∃ ws, ws = d.things.map Thing.txt := ⟨_, rfl⟩
  have ew : Txt.split z " " = w0 :: ws := by rw [ez, line_split hd, ew0, ews]
  rw [ew]
  refine gs_set 3 (R := isS (formOf w0)) (ge_dget2 hr (ge_var 1) (ge_ixL 0 (R := isS w0) (ge_var 2) ge_int rfl rfl) ge_str fun v H h => ?_) ?_ nd
  · obtain ⟨y, _, h⟩ := h
    refine ⟨y.1, rkvs formKv, h.1, h.2.1 (y.1, dR formKv) (List.mem_cons_self ..), fun u hu => ?_, fun hn u q => ?_⟩
    · rw [valV_r, lookup_mapV] at hu
      unfold formOf
      cases e : lawForms.lookup w0 with
      | none => rw [e] at hu; cases hu
      | some t => rw [e] at hu; cases hu; rfl
    · rw [valV_r, lookup_mapV] at hn
      unfold formOf
      cases e : lawForms.lookup w0 with
      | none => exact q
      | some t => rw [e] at hn; cases hn
  have lf : (formOf w0).length ≤ 4 := by
    unfold formOf
    cases e : lawForms.lookup w0 with
    | none => exact (by decide : (0 : Nat) ≤ 4)
    | some t =>
      have := forms_short _ (lk_mem e)
      rw [← tx_len] at this
      exact this
  refine gs_ifR (gt_or (gt_eqS (i := formOf w0) (j := "") (ge_var 3) ge_str) fun _ => gt_neI (i := ((w0 :: ws).length : Int)) (j := ((formOf w0).length : Int) + 1) (ge_len (n := (w0 :: ws).length) ml (ge_var 2) (by simp)) (ge_add (ge_lenS ml (ge_var 3) (Nat.le_trans lf (by decide))) ge_int)) (fun h => ?_) (fun h => ?_)
  · exact absurd h (by
      have e1 : formOf w0 ≠ "" := by rw [ew0]; exact form_nz d
      have e2 : ws.length = (formOf w0).length := by
        have := congrArg List.length (form_kinds d)
        rw [List.length_map, List.length_map, ← tx_len] at this
        rw [ews, ew0, List.length_map, this]
      rw [decide_eq_false e1, List.length_cons, e2]
      simp)
  obtain ⟨hf, hlen⟩ := Bool.or_eq_false_iff.mp h.symm
  have hlen : (w0 :: ws).length = (formOf w0).length + 1 := by
    have h1 : decide ((((w0 :: ws).length : Nat) : Int) = ((formOf w0).length : Int) + 1) = true := by simpa using hlen
    have := of_decide_eq_true h1
    omega
  have hl : ws.length = (formOf w0).length := by simpa using hlen
  have tl : (tx (formOf w0)).length = (formOf w0).length := (tx_len _).symm
  obtain ⟨s1, s2⟩ := split_small ew
  let fs : List (Option Thing) := (List.range (formOf w0).length).map fun i => rdOf ((tx (formOf w0)).getD i 0) (ws.getD i "")
  have lfs : fs.length = (formOf w0).length := by show (List.map _ _).length = _; rw [List.length_map, List.length_range]
  refine gs_setO 4 (φ := ownL ((some (.s w0) :: fs).map (isOpt (thingR K)))) (go_catL (rs := [isOpt (thingR K) (some (.s w0))]) (rs' := fs.map (isOpt (thingR K))) (ge_lstK (ga_cons (ge_conv (ge_ixL 0 (R := isS w0) (ge_var 2) ge_int rfl rfl) fun v H h => h) ga_nil)) (ge_frzL (go_conv (go_lc (β := Option Thing) (c := isOpt (thingR K)) 5 (src_range mr (ge_lenS ml (ge_var 3) (Nat.le_trans lf (by decide))) ⟨by omega, by omega⟩) (Imap (List.range (formOf w0).length) fun i => rdOf ((tx (formOf w0)).getD i 0) (ws.getD i "")) rfl (fun j R hR => ?_) len_map (show BlkOk n__law_read (defScope s__law_read) _ _ from blkOk_by (by decide +kernel)) nd (by rw [rngR_len]; omega) (hg := fun _ _ _ _ _ => pg_name nd rfl (by first | exact Or.inl rfl | exact Or.inr rfl))) fun v H h q => ?_)) (by rw [List.length_map, lfs]; exact Nat.le_trans (show 1 + (formOf w0).length ≤ 5 by omega) (by decide))) (fun w4 => ?_) nd
  · obtain ⟨hlt, rfl⟩ := rngR_get hR
    have hx : j < (formOf w0).length := by omega
    have g1 : (tx (formOf w0))[j]? = some ((tx (formOf w0)).getD j 0) := by rw [List.getD_eq_getElem?_getD, List.getElem?_eq_getElem (by omega)]; rfl
    have g2 : ws[j]? = some (ws.getD j "") := by rw [List.getD_eq_getElem?_getD, List.getElem?_eq_getElem (by omega)]; rfl
    have at1 : atI (tx (formOf w0)) ((j : Nat) : Int) = some ((tx (formOf w0)).getD j 0) := by
      unfold atI ixN
      rw [if_pos (by omega), if_pos (by omega)]
      exact g1
    have g3 : ((w0 :: ws).map (isS ·))[j + 1]? = some (isS (ws.getD j "")) := by rw [List.map_cons, List.getElem?_cons_succ, List.getElem?_map, g2]; rfl
    exact lcT_map (a := j) (List.getElem?_range hx) fun s H C cl fp => ge_callH ((tx (formOf w0)).getD j 0, ws.getD j "") F hr (Nat.le_trans (s2 _ (List.mem_cons_of_mem _ (List.mem_of_getElem? g2))) hz) (ga_cons (ge_ixS _ (ge_var 3) (ge_var 5) at1 (Nat.le_trans lf (by decide))) (ga_cons (ge_ixL (j + 1) (ge_var 2) (ge_add (ge_var 5) ge_int) g3 (by omega)) ga_nil))
  · obtain ⟨ys, hys, q⟩ := q
    have ey := map_all (by rw [rngR_len, List.length_range]; omega) hys
    subst ey
    exact q
  refine gs_frzL 4 ?_
  have hfs : some (.s w0) :: fs = some (.s w0) :: d.things.map some := by
    refine congrArg (some (Thing.s w0) :: ·) (List.ext_getElem (by rw [lfs, List.length_map, ← hl, ews, List.length_map]) fun i h1 h2 => ?_)
    rw [List.length_map] at h2
    have q0 : i < (formOf w0).length := by rw [lfs] at h1; exact h1
    show ((List.range (formOf w0).length).map fun i => rdOf ((tx (formOf w0)).getD i 0) (ws.getD i ""))[i] = _
    rw [List.getElem_map, List.getElem_map, List.getElem_range]
    have fk := form_kinds d
    rw [← ew0] at fk
    have g1 : (tx (formOf w0)).getD i 0 = (tx (formOf w0))[i]'(by omega) := by rw [List.getD_eq_getElem?_getD, List.getElem?_eq_getElem (by omega)]; rfl
    have g2 : ws.getD i "" = d.things[i].txt := by rw [ews, List.getD_eq_getElem?_getD, List.getElem?_map, List.getElem?_eq_getElem h2]; rfl
    rw [g1, g2]
    refine rdOf_ok (hd _ (List.getElem_mem _)) ?_ ?_
    · have := congrArg (fun l => l[i]?) fk
      simp only [List.getElem?_map, List.getElem?_eq_getElem h2, List.getElem?_eq_getElem (show i < (tx (formOf w0)).length by omega), Option.map_some] at this
      exact Option.some.inj this
    · have := form_chars d
      rw [← ew0] at this
      exact this _ (List.getElem_mem _)
  rw [hfs]
  have hw : PyData.strOk w0 = true := by rw [ew0]; exact (show ∀ g ∈ formsT, PyData.strOk g.1 = true by decide +kernel) _ (form_mem d)
  refine gs_ifR (gt_inE (c := isOpt (thingR K)) (x := none) (ys := some (.s w0) :: d.things.map some) en_thing hr (ge_conv ge_non fun v H h => h) (ge_var 4) trivial (fun y hy => ?_)) (fun h6 => ?_) (fun h6 => ?_)
  · rcases List.mem_cons.mp hy with rfl | hy
    · exact hw
    · obtain ⟨t, ht, rfl⟩ := List.mem_map.mp hy
      cases t with
      | s z => have := rd_ok 110 z; unfold rdOf at this; rw [if_pos rfl, if_pos (show nameOk z = true from hd _ ht)] at this; exact this
      | i n => trivial
      | h l => trivial
  · exact absurd (yes_of _ h6) (by simp)
  · refine gs_retP (ge_eq (ge_tuple mt (ge_var 4)) ?_) hv
    show isTup K _ = isTup K _
    rw [deed_things, ← ew0, List.map_cons, List.map_map]; rfl
end
end W
set_option synthInstance.maxHeartbeats 400000
set_option synthInstance.maxSize 1000
namespace W
open PySem L2 G M
section
variable {P : Program} {w : World} {K : PySem.W.Frag} {mg : Str → Option Value} {base : Heap}
abbrev spLineX (K : PySem.W.Frag) : Sp := FS (γ := Unit) (fun _ => True) (fun _ => [.r (exR (fun d : Deed => d.Good) (isDeed K))]) (fun _ => [.u]) (fun _ => .r (exR (fun z : Str => z.length ≤ 1000) isS))
theorem linex (F : Has P w K mg base 2 "_law_deed_text" p__law_deed_text (spDeedText K)) : Has P w K mg base 2 "_law_deed_text" p__law_deed_text (spLineX K) :=
  F.imp fun _ _ Hb H σ hs A => by
    obtain ⟨d, pd, A'⟩ := A.ex 0 rfl
    exact ⟨d, pd.fits, A', rfl, fun o Hb h ⟨v, e, q⟩ => ⟨v, e, d.line, pd.short, q⟩⟩
theorem none_line : ¬ GoodLine "" := fun ⟨d, hd, e⟩ => by
  have h := line_split hd
  rw [e, show Txt.split "" " " = [("" : Str)] by decide +kernel] at h
  have h1 : d.word = "" := (List.cons.inj h).1.symm
  have := form_mem d
  rw [h1] at this
  exact absurd this (by
    have : ∀ g ∈ formsT, g.1 ≠ "" := by decide +kernel
    exact fun q => this _ q rfl)
theorem deed_nn {d : Deed} {v : V} {H : Hp} (q : (isDeed K d).p v H) : decide (v = .non) = false := by
  obtain ⟨l, vs, rfl, _⟩ := q
  rfl
theorem ok_law (D : Dfn K mg "law" s_law p_law) (T : Txo K w mg) (Fa : Has P w K mg base 10 "_law_alike" p__law_alike (spAlX K)) (F1 : Has P w K mg base 1 "_law_pull" p__law_pull spPull) (F2 : Has P w K mg base 1 "_law_bag" p__law_bag (spBag (K := K))) (F3 : Has P w K mg base 4 "_law_any_deed" p__law_any_deed (spAnyDeed K)) (F4 : Has P w K mg base 2 "_law_deed_text" p__law_deed_text (spLineX K)) (F5 : Has P w K mg base 2 "_law_spoilt" p__law_spoilt spSpoilx) (F6 : Has P w K mg base 3 "_law_read" p__law_read (spLawRead K)) (F7 : Has P w K mg base 3 "_law_read" p__law_read spLawReadN) (F8 : Has P w K mg base 5 "_law_told" p__law_told (spTold K)) (F9 : Has P w K mg base 5 "_law_told" p__law_told (spToldN K)) : Has P w K mg base 11 "law" p_law (spLaw (K := K)) := by
  refine has_ok D sc_law (fun _ => rfl) fun ns vs f cdv A outer s H E hr hv _ _ => ?_
  have nd := sc_law.nd
  have r1 := hr.mono (show 1 ≤ 10 by decide)
  have r2 := hr.mono (show 2 ≤ 10 by decide)
  have r3 := hr.mono (show 3 ≤ 10 by decide)
  have r4 := hr.mono (show 4 ≤ 10 by decide)
  have r5 := hr.mono (show 5 ≤ 10 by decide)
  have r10 := hr.mono (show 10 ≤ 10 by decide)
  refine gs_setO 1 (go_callH ns F2 r1 trivial (ga_cons (ge_var 0) ga_nil)) (fun b => ?_) nd
  let Gs : List Sl := [.r (isLst K (ns.map isInt)), .o b bagO, .u, .u, .u, .u, .u]
  show GS _ Gs _ _ _
  refine gs_forR (α := Unit) 2 (fun _ _ => True) (fun _ => Gs) () ge_int ⟨by decide, by decide⟩ trivial (fun i _ hi _ => ?_) (fun _ _ => gs_retP (ge_eqx (R := isTup K [isN, isInt 0]) (n := 3) (hx_tup (hxs_cons hx_non (hxs_cons hx_int hxs_nil))) hr (ge_callH ("" : Str) F9 r5 ⟨by decide, none_line⟩ (ga_cons ge_str ga_nil)) (ge_tup2 ge_non ge_int)) hv) T.t.m_range PassesOwn.never nd
  refine gs_setx 3 (P := fun z : Str => z.length ≤ 2100) (c := isS) (ge_callH (b, 1000) F5 r2 (show (1000 : Nat) ≤ 10000 by decide) (ga_own 1 (ga_cons (ge_callH () F4 r2 trivial (ga_cons (ge_callH b F3 r4 trivial (ga_own 1 ga_nil) rfl rfl rfl) ga_nil)) ga_nil)) rfl rfl rfl) (fun z hz => ?_) nd
  let Gz : Str → List Sl := fun z => [.r (isLst K (ns.map isInt)), .o b bagO, .r (isInt i), .r (isS z), .u, .u, .u]
  refine gs_if (P := fun _ => True) (N1 := fun Γ' => ∃ z : Str, z.length ≤ 10000 ∧ Γ' = Gz z) (gt_cmpP op_eq (ge_pull 1 (n := 4) F1 r1 ge_int) ge_int (rv_exl fun z _ => rv_conv rv_eqI fun v H h => ⟨_, trivial, h⟩)) (fun _ => ?_) (fun _ => ?_) (fun Γ' hΓ => ?_)
  · refine gs_setx 3 (P := fun z : Str => z.length ≤ 2 * 2100 + 100) (c := isS) (ge_callH (b, 2100) F5 r2 (show (2100 : Nat) ≤ 10000 by decide) (ga_own 1 (ga_cons (ge_sx (P := fun z : Str => z.length ≤ 2100) (ge_var 3) hz) ga_nil)) rfl rfl rfl) (fun z2 hz2 => gs_nil ⟨z2, Nat.le_trans hz2 (by decide), rfl⟩) nd
  · exact gs_nil ⟨z, Nat.le_trans hz (by decide), rfl⟩
  obtain ⟨z, hz, rfl⟩ := hΓ
  by_cases hg : GoodLine z
  · obtain ⟨d, hd, rfl⟩ := hg
    refine gs_set 4 (R := isDeed K d) (ge_call1 d F6 r3 hd (ge_var 3)) ?_ nd
    refine gs_unpT2 (R1 := isDeed K d) (R2 := isN) 5 6 (ge_call1 d F8 r5 hd (ge_var 3)) ?_ nd
    refine gs_ifR (P := (· = false)) (gt_andF (gt_isN (o := false) (ge_var 4) fun v H q => deed_nn q) rfl) (fun z => by cases z) (fun _ => ?_)
    refine gs_ifR (P := (· = false)) (gt_conv (gt_and (c := true) (d := false) (gt_notN (o := false) (ge_var 4) fun v H q => deed_nn q) fun _ => gt_not (c := true) (gt_v (ge_alike (R := isDeed K d) Fa r10 (ha_deed hd) (ge_var 5) (ge_var 4)))) fun c hc => by rw [hc]; rfl) (fun z => by cases z) (fun _ => ?_)
    exact gs_drops [2, 3, 4, 5, 6] (gs_nil ⟨(), trivial, rfl⟩)
  · have hz' : z.length ≤ 100000 := by omega
    refine gs_set 4 (R := isN) (ge_call1 z F7 r3 ⟨hz', hg⟩ (ge_var 3)) ?_ nd
    refine gs_unpT2 (R1 := isN) (R2 := isInt 0) 5 6 (ge_call1 z F9 r5 ⟨hz', hg⟩ (ge_var 3)) ?_ nd
    refine gs_ifR (P := (· = false)) (gt_conv (gt_and (c := true) (d := false) (gt_isN (o := true) (ge_var 4) isN_nn) fun _ => gt_or (c := false) (d := false) (gt_notN (o := true) (ge_var 5) isN_nn) fun _ => gt_not (c := true) (gt_v (ge_alike (R := isInt 0) Fa r10 ha_int (ge_var 6) ge_int))) fun c hc => by rw [hc]; rfl) (fun z => by cases z) (fun _ => ?_)
    refine gs_ifR (P := (· = false)) (gt_andF (gt_notN (o := true) (ge_var 4) isN_nn) rfl) (fun z => by cases z) (fun _ => ?_)
    exact gs_drops [2, 3, 4, 5, 6] (gs_nil ⟨(), trivial, rfl⟩)
theorem law_has (T : Txo K w mg) : Has P w K mg base 11 "law" p_law (spLaw (K := K)) := by
  have pu := ok_pull (P := P) (w := w) (base := base) T.t.d__law_pull T.t.m_len
  have ba := ok_bag (P := P) (w := w) (base := base) T.t.d__law_bag T.t.m_len T.t.m_list
  have al := alx_of (ok_law_alike (P := P) (w := w) (base := base) T.t.d__law_alike T.t.m_isinstance T.t.m_bool T.t.m_int T.t.m_str T.t.m_list T.t.m_tuple T.t.m_len T.t.m_range T.t.m_all (ok_law_whole T.t.d__law_whole T.t.m_isinstance T.t.m_int T.t.m_bool) 8)
  have fg := ok_figured (P := P) (w := w) (base := base) T.t.d_figured T.t.v_FIGURES
  have nu := ok_number_of T.t.d_number_of fg T.t.m_len T.t.m_int T.t.v_MOST_FIGURES
  have he := ok_heap_of T.t.d_heap_of fg (ok_is_heap (P := P) (w := w) (base := base) T.t.d_is_heap T.t.m_range T.t.m_len) T.t.m_len T.t.m_int T.t.m_tuple
  have na := ok_name_of T.t.d_name_of (ok_is_name (P := P) (w := w) (base := base) T.t.d_is_name T.t.m_len T.t.v_LETTERS T.t.v_MOST_SIGNS)
  have th := ok_things_of T.t.d_things_of T.tb_READERS T.g_name_of T.g_number_of T.g_heap_of na nu he T.t.m_len T.t.m_range
  have thN := ok_things_N T.t.d_things_of T.tb_READERS T.g_name_of T.g_number_of T.g_heap_of na nu he T.t.m_len T.t.m_range
  have rd := ok_read_deed T.t.d_read_deed th T.tt_FORMS T.t.m_tuple
  have rdN := ok_read_bad T.t.d_read_deed thN T.tt_FORMS T.tk_FORMS (ok_BadText_init (P := P) (w := w) (base := base) T.dx_BadText T.gx_BadText T.e_KeelError.g T.ox_BadText) T.t.m_tuple
  have lh := ok_law_heaps (P := P) (w := w) (base := base) T.t.d__law_heaps T.t.m_range
  have ad := ok_any_deed T.t.d__law_any_deed pu (ok_any_number T.t.d__law_any_number pu) (ok_any_name T.t.d__law_any_name pu (ok_law_word T.t.d__law_word T.t.m_range pu)) (ok_any_heap T.t.d__law_any_heap pu lh T.t.m_len) T.t.m_tuple
  have tt := ok_thing_text (P := P) (w := w) (base := base) T.t.d__law_thing_text T.t.m_isinstance T.t.m_tuple T.t.m_str
  have ti := ok_thing_in T.t.d__law_thing_in (ok_law_figures (P := P) (w := w) (base := base) T.t.d__law_figures T.t.m_all) lh T.t.m_all T.t.m_len T.t.m_int T.t.m_tuple
  exact ok_law T.t.d_law T al pu ba ad (linex (ok_ldeed_text T.t.d__law_deed_text tt)) (spoilx (ok_spoilt T.t.d__law_spoilt pu T.t.m_len)) (ok_read T.t.d__law_read ti T.t.m_len T.t.m_range T.t.m_tuple) (ok_read_N T.t.d__law_read ti T.t.m_len T.t.m_range T.t.m_tuple) (ok_told T.t.d__law_told rd T.gx_BadText) (ok_told_N T.t.d__law_told rdN T.ox_BadText T.gx_BadText T.x_BadText_BadText)
end
end W
namespace W
open PySem L2 G M
theorem hdLaw_ok {P : Program} {w : World} {K : PySem.W.Frag} {h : Heap} {mg : Str → Option Value} {f : Addr} (X : K.In h) (G : h.Ns mainGlobals mg) (hfa : mg ("law" : Str) = some (.ref f)) (z : hdSays w K) :
    ∃ fd : FuncData, (∀ (s : Shared) (v : Value), BindsTo s fd ⟨[v], []⟩ [("_law_script", v)]) ∧ ∀ base : Heap, K.In base → base.Ns mainGlobals mg → FnOk P w K mg base CX0 11 f fd ["_law_script"] (spLaw (K := K)) := by
  have c0 : He.SaysT hdFa hdFn hdTs w K := congrArg (fun z : He.AlX × He.AlX => z.1.1) z
  have c0b : He.SaysT [] hdFn2 [] w K := congrArg (fun z : He.AlX × He.AlX => z.2.1) z
  have c2 : He.SaysD [] hdFn2 K := c0b.d
  have c : He.SaysD hdFa hdFn K := c0.d
  obtain ⟨fd, F⟩ := c2.def_ 18 (d := hd_law) rfl
  have e := hfa.symm.trans (He.glo_ok X G (c.fact 25 (f := .glo "law") rfl))
  cases e
  have b := FunD.bindsA (ps := ["_law_script"]) F fun _ _ _ _ _ _ us hl => match us, hl with | [_], _ => rfl
  refine ⟨fd, fun s v => b s [v] rfl, fun base _ _ => ?_⟩
  obtain ⟨oc, od, dV, kV, doc, pm, an, cdv, ct, osl, q1, q2, _⟩ := F.ex
  exact Has.law (law_has (P := P) (w := w) (base := base) (txo_of X G z)) hfa q2
end W
open PySem PySem.W PySem.Calls PyProof.Rows
set_option maxHeartbeats 0 in
theorem PySem.Challenge.cw_keelbond_k56_lines_read_or_refused_holds : PySem.Challenge.rw_keelbond_k56_lines_read_or_refused.Holds := by
  w_on; o_law
  refine HandSHeadRun.head_any (r := OpenLaw.row PySem.Challenge.rw_keelbond_k56_lines_read_or_refused) (q := view (OpenLaw.row PySem.Challenge.rw_keelbond_k56_lines_read_or_refused).prog [38]) (H := W.hdHk) (ob := W.hdOb) (M := 20000) (loose := W.hdLoose) (d := HandSHeadRun.topDef (OpenLaw.row PySem.Challenge.rw_keelbond_k56_lines_read_or_refused).prog 38) (kwd := []) W.hdOb_eq
    (by kernel_rfl) (fun s => by kernel_rfl) W.hdRun (by kernel_rfl) (by kernel_rfl) (by kernel_rfl) (by rfl) (by first | assumption | decide +kernel) (by decide +kernel) ⟨rfl, rfl, rfl, rfl, rfl, by decide +kernel⟩ ?hw ?hc
  case hw => w_witness2
  case hc =>
    refine L2.walk_ofE (l := PySem.Challenge.rw_keelbond_k56_lines_read_or_refused) (n := 63) (k := 11) (x := "_law_script") (CX := L2.CX0) rfl (by decide) (by kernel_rfl) ⟨rfl, by decide, by decide⟩ ?F (fun _ _ _ _ z => z)
    intro w mg fa h Y G hmg0
    obtain ⟨K, KX, c⟩ := Y
    have hmg : mg ("law" : PySem.Str) = some (.ref fa) := by
      have e : (HandSHeadRun.topDef (OpenLaw.row PySem.Challenge.rw_keelbond_k56_lines_read_or_refused).prog 38).name = ("law" : PySem.Str) := by kernel_rfl
      rw [← e]
      exact hmg0
    obtain ⟨fd, hb, hF⟩ := W.hdLaw_ok (P := (PySem.Challenge.rw_keelbond_k56_lines_read_or_refused).prog) (w := w) KX G hmg c
    exact ⟨K, fd, W.spLaw (K := K), KX, hb, fun H a ns hl ho hS => W.law_start hl ho hS, hF⟩
