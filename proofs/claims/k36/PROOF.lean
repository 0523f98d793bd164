import PyProof.Rows.All
import Wide.All
import OpenK.AllK
import Wide.FinOn
import KE.KStateDown
import HandS.Base
import HandS.Call
import HandS.List
import HandS.Ends
import HandS.More
import HandS.Words
import HandS.WordsExc
import HandS.Defaults
import HandS.Head0
import HandS.Head1
import HandS.Head2
import HandS.HeadHook1
import HandS.HeadHook2
import HandS.HeadEnd
import HandS.Comp
import HandS.Iter
import HandS.Dict
import HandS.TupAny
import HandS.TupLe
import HandS.NoneIn
import HandS.Deep
import HandS.Strs
import HandS.SetKeys
import HandS.WordsList
import HandS.WordsDict
import KE.KDictKeyed
import KE.KDictSum
import KE.GoesEnum
import KE.GoesMore
import HandS.TupLen
import KE.SortData
import KE.SortKeyHeap
import HandS.SortKw
import PyProof.ReprRoads
import PyProof.ReprLen
import HandS.EndBits
import HandS.Text
import PySem.Challenge.RW_cardsback_k36_whole_late_pages
set_option Elab.async false
set_option linter.all false
set_option maxRecDepth 100000
set_option maxHeartbeats 0
/-! Part 1: the text by places; what the head is asked; the hook. -/
namespace CB
open PySem PySem.Spec PyProof.Rows L2
def top (i : Nat) : Stmt := PySem.Challenge.pw_cardsback_k36_whole_late_pages.main.body.getD i (.Pass ⟨0, 0, 0, 0⟩)
abbrev s_page_day : Stmt := top 8
abbrev s_page_kind : Stmt := top 9
abbrev s_names_of : Stmt := top 10
abbrev s_place_of : Stmt := top 11
abbrev s_in_order : Stmt := top 12
abbrev s_with_page : Stmt := top 14
abbrev s_without_page : Stmt := top 15
abbrev s_up_to : Stmt := top 16
abbrev s_Houses_init : Stmt := inClass (top 18) 0
abbrev s_Houses_can : Stmt := inClass (top 18) 1
abbrev s_Houses_come : Stmt := inClass (top 18) 2
abbrev s_Houses_do : Stmt := inClass (top 18) 3
abbrev s_Houses_meet : Stmt := inClass (top 18) 4
abbrev s_Houses_ask_standing : Stmt := inClass (top 18) 5
abbrev s_houses_behind : Stmt := top 19
abbrev s_standing : Stmt := top 20
abbrev s_home_of : Stmt := top 21
abbrev s_idle : Stmt := top 22
abbrev s_stays : Stmt := top 26
abbrev s_term_of : Stmt := top 27
abbrev s_Walk_init : Stmt := inClass (top 28) 0
abbrev s_Walk_mourns : Stmt := inClass (top 28) 1
abbrev s_Walk_is_met : Stmt := inClass (top 28) 2
abbrev s_Walk_go : Stmt := inClass (top 28) 3
abbrev s_Walk_part : Stmt := inClass (top 28) 4
abbrev s_Walk_join : Stmt := inClass (top 28) 5
abbrev s_Walk_lay : Stmt := inClass (top 28) 6
abbrev s_Walk_put : Stmt := inClass (top 28) 7
abbrev s_Walk_fall : Stmt := inClass (top 28) 8
abbrev s_Walk_go_to : Stmt := inClass (top 28) 9
abbrev s_Walk_places : Stmt := inClass (top 28) 10
abbrev s_Walk_dues_told : Stmt := inClass (top 28) 11
abbrev s_walked : Stmt := top 29
abbrev s_dues : Stmt := top 30
abbrev s_marks : Stmt := top 31
abbrev s_left : Stmt := top 33
abbrev s_last_known : Stmt := top 34
abbrev s_with_lasts : Stmt := top 36
abbrev s_soon : Stmt := top 37
abbrev s_first_rude : Stmt := top 38
abbrev s_answered : Stmt := top 40
abbrev s_matters : Stmt := top 42
abbrev s_sums : Stmt := top 43
abbrev s_rude_papers : Stmt := top 45
abbrev s_rude : Stmt := top 46
abbrev s_law_feed : Stmt := top 48
abbrev s_law_draw : Stmt := top 49
abbrev s_law_names : Stmt := top 50
abbrev s_law_home : Stmt := top 51
abbrev s_law_page : Stmt := top 52
abbrev s_law_rank : Stmt := top 53
abbrev s_law_standing_so : Stmt := top 54
abbrev s_law_book : Stmt := top 55
abbrev s_law_case : Stmt := top 56
abbrev s_law_all : Stmt := top 57
abbrev s_law : Stmt := top 58
def dd_page_day : He.DefD := ⟨("page_day", none), "page_day", "page_day", defArgs s_page_day, defBody s_page_day, defScope s_page_day, [], []⟩
def dd_page_kind : He.DefD := ⟨("page_kind", none), "page_kind", "page_kind", defArgs s_page_kind, defBody s_page_kind, defScope s_page_kind, [], []⟩
def dd_names_of : He.DefD := ⟨("names_of", none), "names_of", "names_of", defArgs s_names_of, defBody s_names_of, defScope s_names_of, [], []⟩
def dd_place_of : He.DefD := ⟨("place_of", none), "place_of", "place_of", defArgs s_place_of, defBody s_place_of, defScope s_place_of, [], []⟩
def dd_in_order : He.DefD := ⟨("in_order", none), "in_order", "in_order", defArgs s_in_order, defBody s_in_order, defScope s_in_order, [], []⟩
def dd_with_page : He.DefD := ⟨("with_page", none), "with_page", "with_page", defArgs s_with_page, defBody s_with_page, defScope s_with_page, [], []⟩
def dd_without_page : He.DefD := ⟨("without_page", none), "without_page", "without_page", defArgs s_without_page, defBody s_without_page, defScope s_without_page, [], []⟩
def dd_up_to : He.DefD := ⟨("up_to", none), "up_to", "up_to", defArgs s_up_to, defBody s_up_to, defScope s_up_to, [], []⟩
def dd_Houses_init : He.DefD := ⟨("Houses", some "__init__"), "__init__", "Houses.__init__", defArgs s_Houses_init, defBody s_Houses_init, defScope s_Houses_init, [], []⟩
def dd_Houses_can : He.DefD := ⟨("Houses", some "can"), "can", "Houses.can", defArgs s_Houses_can, defBody s_Houses_can, defScope s_Houses_can, [], []⟩
def dd_Houses_come : He.DefD := ⟨("Houses", some "come"), "come", "Houses.come", defArgs s_Houses_come, defBody s_Houses_come, defScope s_Houses_come, [], []⟩
def dd_Houses_do : He.DefD := ⟨("Houses", some "do"), "do", "Houses.do", defArgs s_Houses_do, defBody s_Houses_do, defScope s_Houses_do, [], []⟩
def dd_Houses_meet : He.DefD := ⟨("Houses", some "meet"), "meet", "Houses.meet", defArgs s_Houses_meet, defBody s_Houses_meet, defScope s_Houses_meet, [], []⟩
def dd_Houses_ask_standing : He.DefD := ⟨("Houses", some "ask_standing"), "ask_standing", "Houses.ask_standing", defArgs s_Houses_ask_standing, defBody s_Houses_ask_standing, defScope s_Houses_ask_standing, [], []⟩
def dd_houses_behind : He.DefD := ⟨("houses_behind", none), "houses_behind", "houses_behind", defArgs s_houses_behind, defBody s_houses_behind, defScope s_houses_behind, [], []⟩
def dd_standing : He.DefD := ⟨("standing", none), "standing", "standing", defArgs s_standing, defBody s_standing, defScope s_standing, [], []⟩
def dd_home_of : He.DefD := ⟨("home_of", none), "home_of", "home_of", defArgs s_home_of, defBody s_home_of, defScope s_home_of, [], []⟩
def dd_idle : He.DefD := ⟨("idle", none), "idle", "idle", defArgs s_idle, defBody s_idle, defScope s_idle, [], []⟩
def dd_stays : He.DefD := ⟨("stays", none), "stays", "stays", defArgs s_stays, defBody s_stays, defScope s_stays, [], []⟩
def dd_term_of : He.DefD := ⟨("term_of", none), "term_of", "term_of", defArgs s_term_of, defBody s_term_of, defScope s_term_of, [], []⟩
def dd_Walk_init : He.DefD := ⟨("Walk", some "__init__"), "__init__", "Walk.__init__", defArgs s_Walk_init, defBody s_Walk_init, defScope s_Walk_init, [], []⟩
def dd_Walk_mourns : He.DefD := ⟨("Walk", some "mourns"), "mourns", "Walk.mourns", defArgs s_Walk_mourns, defBody s_Walk_mourns, defScope s_Walk_mourns, [], []⟩
def dd_Walk_is_met : He.DefD := ⟨("Walk", some "is_met"), "is_met", "Walk.is_met", defArgs s_Walk_is_met, defBody s_Walk_is_met, defScope s_Walk_is_met, [], []⟩
def dd_Walk_go : He.DefD := ⟨("Walk", some "go"), "go", "Walk.go", defArgs s_Walk_go, defBody s_Walk_go, defScope s_Walk_go, [], []⟩
def dd_Walk_part : He.DefD := ⟨("Walk", some "part"), "part", "Walk.part", defArgs s_Walk_part, defBody s_Walk_part, defScope s_Walk_part, [], []⟩
def dd_Walk_join : He.DefD := ⟨("Walk", some "join"), "join", "Walk.join", defArgs s_Walk_join, defBody s_Walk_join, defScope s_Walk_join, [], []⟩
def dd_Walk_lay : He.DefD := ⟨("Walk", some "lay"), "lay", "Walk.lay", defArgs s_Walk_lay, defBody s_Walk_lay, defScope s_Walk_lay, [], []⟩
def dd_Walk_put : He.DefD := ⟨("Walk", some "put"), "put", "Walk.put", defArgs s_Walk_put, defBody s_Walk_put, defScope s_Walk_put, [], []⟩
def dd_Walk_fall : He.DefD := ⟨("Walk", some "fall"), "fall", "Walk.fall", defArgs s_Walk_fall, defBody s_Walk_fall, defScope s_Walk_fall, [], []⟩
def dd_Walk_go_to : He.DefD := ⟨("Walk", some "go_to"), "go_to", "Walk.go_to", defArgs s_Walk_go_to, defBody s_Walk_go_to, defScope s_Walk_go_to, [], []⟩
def dd_Walk_places : He.DefD := ⟨("Walk", some "places"), "places", "Walk.places", defArgs s_Walk_places, defBody s_Walk_places, defScope s_Walk_places, [], []⟩
def dd_Walk_dues_told : He.DefD := ⟨("Walk", some "dues_told"), "dues_told", "Walk.dues_told", defArgs s_Walk_dues_told, defBody s_Walk_dues_told, defScope s_Walk_dues_told, [], []⟩
def dd_walked : He.DefD := ⟨("walked", none), "walked", "walked", defArgs s_walked, defBody s_walked, defScope s_walked, [], []⟩
def dd_dues : He.DefD := ⟨("dues", none), "dues", "dues", defArgs s_dues, defBody s_dues, defScope s_dues, [], []⟩
def dd_marks : He.DefD := ⟨("marks", none), "marks", "marks", defArgs s_marks, defBody s_marks, defScope s_marks, [], []⟩
def dd_left : He.DefD := ⟨("left", none), "left", "left", defArgs s_left, defBody s_left, defScope s_left, [], []⟩
def dd_last_known : He.DefD := ⟨("last_known", none), "last_known", "last_known", defArgs s_last_known, defBody s_last_known, defScope s_last_known, [], []⟩
def dd_with_lasts : He.DefD := ⟨("with_lasts", none), "with_lasts", "with_lasts", defArgs s_with_lasts, defBody s_with_lasts, defScope s_with_lasts, [], []⟩
def dd_soon : He.DefD := ⟨("soon", none), "soon", "soon", defArgs s_soon, defBody s_soon, defScope s_soon, [], []⟩
def dd_first_rude : He.DefD := ⟨("first_rude", none), "first_rude", "first_rude", defArgs s_first_rude, defBody s_first_rude, defScope s_first_rude, [], []⟩
def dd_answered : He.DefD := ⟨("answered", none), "answered", "answered", defArgs s_answered, defBody s_answered, defScope s_answered, [], []⟩
def dd_matters : He.DefD := ⟨("matters", none), "matters", "matters", defArgs s_matters, defBody s_matters, defScope s_matters, [], []⟩
def dd_sums : He.DefD := ⟨("sums", none), "sums", "sums", defArgs s_sums, defBody s_sums, defScope s_sums, [], []⟩
def dd_rude_papers : He.DefD := ⟨("rude_papers", none), "rude_papers", "rude_papers", defArgs s_rude_papers, defBody s_rude_papers, defScope s_rude_papers, [], []⟩
def dd_rude : He.DefD := ⟨("rude", none), "rude", "rude", defArgs s_rude, defBody s_rude, defScope s_rude, [], []⟩
def dd_law_feed : He.DefD := ⟨("_law_feed", none), "_law_feed", "_law_feed", defArgs s_law_feed, defBody s_law_feed, defScope s_law_feed, [], []⟩
def dd_law_draw : He.DefD := ⟨("_law_draw", none), "_law_draw", "_law_draw", defArgs s_law_draw, defBody s_law_draw, defScope s_law_draw, [], []⟩
def dd_law_names : He.DefD := ⟨("_law_names", none), "_law_names", "_law_names", defArgs s_law_names, defBody s_law_names, defScope s_law_names, [], []⟩
def dd_law_home : He.DefD := ⟨("_law_home", none), "_law_home", "_law_home", defArgs s_law_home, defBody s_law_home, defScope s_law_home, [], []⟩
def dd_law_page : He.DefD := ⟨("_law_page", none), "_law_page", "_law_page", defArgs s_law_page, defBody s_law_page, defScope s_law_page, [], []⟩
def dd_law_rank : He.DefD := ⟨("_law_rank", none), "_law_rank", "_law_rank", defArgs s_law_rank, defBody s_law_rank, defScope s_law_rank, [], []⟩
def dd_law_standing_so : He.DefD := ⟨("_law_standing_so", none), "_law_standing_so", "_law_standing_so", defArgs s_law_standing_so, defBody s_law_standing_so, defScope s_law_standing_so, [], []⟩
def dd_law_book : He.DefD := ⟨("_law_book", none), "_law_book", "_law_book", defArgs s_law_book, defBody s_law_book, defScope s_law_book, [], []⟩
def dd_law_case : He.DefD := ⟨("_law_case", none), "_law_case", "_law_case", defArgs s_law_case, defBody s_law_case, defScope s_law_case, [], []⟩
def dd_law_all : He.DefD := ⟨("_law_all", none), "_law_all", "_law_all", defArgs s_law_all, defBody s_law_all, defScope s_law_all, [], []⟩
def dd_law : He.DefD := ⟨("law", none), "law", "law", defArgs s_law, defBody s_law, defScope s_law, [], []⟩
def fn : List He.DefD := [dd_page_day, dd_page_kind, dd_names_of, dd_place_of, dd_in_order, dd_with_page, dd_without_page, dd_up_to, dd_Houses_init, dd_Houses_can, dd_Houses_come, dd_Houses_do, dd_Houses_meet, dd_Houses_ask_standing, dd_houses_behind, dd_standing, dd_home_of, dd_idle, dd_stays, dd_term_of, dd_Walk_init, dd_Walk_mourns, dd_Walk_is_met, dd_Walk_go, dd_Walk_part, dd_Walk_join, dd_Walk_lay, dd_Walk_put, dd_Walk_fall, dd_Walk_go_to, dd_Walk_places, dd_Walk_dues_told, dd_walked, dd_dues, dd_marks, dd_left, dd_last_known, dd_with_lasts, dd_soon, dd_first_rude, dd_answered, dd_matters, dd_sums, dd_rude_papers, dd_rude, dd_law_feed, dd_law_draw, dd_law_names, dd_law_home, dd_law_page, dd_law_rank, dd_law_standing_so, dd_law_book, dd_law_case, dd_law_all, dd_law]
def fa : List He.Fa := [.glo "page_day", .glo "page_kind", .glo "names_of", .glo "place_of", .glo "in_order", .glo "with_page", .glo "without_page", .glo "up_to", .glo "houses_behind", .glo "standing", .glo "home_of", .glo "idle", .glo "stays", .glo "term_of", .glo "walked", .glo "dues", .glo "marks", .glo "left", .glo "last_known", .glo "with_lasts", .glo "soon", .glo "first_rude", .glo "answered", .glo "matters", .glo "sums", .glo "rude_papers", .glo "rude", .glo "_law_feed", .glo "_law_draw", .glo "_law_names", .glo "_law_home", .glo "_law_page", .glo "_law_rank", .glo "_law_standing_so", .glo "_law_book", .glo "_law_case", .glo "_law_all", .glo "law", .glo "Houses", .cls "Houses", .mkr "Houses", .noat "Houses" "homes", .noat "Houses" "parents", .noat "Houses" "joined", .noat "Houses" "mourned", .noat "Houses" "idle_pages", .meth "Houses" "can", .meth "Houses" "come", .meth "Houses" "do", .meth "Houses" "meet", .meth "Houses" "ask_standing", .glo "Walk", .cls "Walk", .mkr "Walk", .noat "Walk" "own_pages", .noat "Walk" "own_terms", .noat "Walk" "lost", .noat "Walk" "homes", .noat "Walk" "mourned", .noat "Walk" "sorts", .noat "Walk" "falls", .noat "Walk" "marks", .noat "Walk" "answers", .noat "Walk" "made", .noat "Walk" "copied", .noat "Walk" "struck", .noat "Walk" "merged", .meth "Walk" "mourns", .meth "Walk" "is_met", .meth "Walk" "go", .meth "Walk" "part", .meth "Walk" "join", .meth "Walk" "lay", .meth "Walk" "put", .meth "Walk" "fall", .meth "Walk" "go_to", .meth "Walk" "places", .meth "Walk" "dues_told", .free "tuple", .free "sorted", .free "list", .free "len", .free "dict", .free "enumerate", .free "any", .free "all", .free "sum", .free "range", .free "int", .free "repr", .int "WEEK" 7, .glo "KINDS", .glo "ALONE", .glo "GOINGS"]
def tb_KINDS : List He.Dv := [.str "house", .str "part", .str "join", .str "home", .str "mourn", .str "ahead", .str "card", .str "visit"]
def tb_ALONE : List He.Dv := [.str "house", .str "home", .str "mourn"]
def tb_GOINGS : List He.Dv := [.str "card", .str "visit"]
def tb : List (Str × List He.Dv) := [("KINDS", tb_KINDS), ("ALONE", tb_ALONE), ("GOINGS", tb_GOINGS)]
/-- what the hook looks at: the facts, the defs, the tables -/
def ndB (K : PySem.W.Frag) (x : Str) : Bool := match K.lookup (He.ga K x) with
  | some o => o.dict.isNone
  | none => false
def obsK (K : PySem.W.Frag) : He.AlD := (((fa.all fun f => f.ok K) && fn.all fun d => d.ok K) && tb.all fun t => (He.tupB K t.1 t.2 && ndB K t.1), fn.map fun d => He.fnW K d.at_)
def SaysK (K : PySem.W.Frag) : Prop := obsK K = He.valD fn
def obsKG (n : Nat) (g : Addr → Option Obj) : He.AlD := obsK (He.frG g (He.asD g n))
def hkK (n : Nat) : PySem.W.Hook where
  α := He.AlD
  obs := fun s => obsKG n s.heap.get?
  val := fun _ => He.valD fn
  says := fun _ h => ∃ K : PySem.W.Frag, K.In h ∧ SaysK K
  of := fun _ _ q => ⟨_, He.frG_in, q⟩
  keeps := fun _ _ _ ⟨K, k1, k2⟩ kp => ⟨K, PySem.W.Frag.In.keeps k1 kp, k2⟩
theorem obsKG_eq {n : Nat} {g : Addr → Option Obj} {s : Shared} (h : ∀ a, g a = s.heap.get? a) : obsKG n g = (hkK n).obs s := by
  have q : g = s.heap.get? := funext h
  rw [q] <;> rfl
section
variable {K : PySem.W.Frag}
theorem SaysK.says (c : SaysK K) : He.SaysD fa fn K := by
  unfold SaysK obsK He.valD at c
  obtain ⟨c1, c2⟩ := Prod.mk.inj c
  unfold He.SaysD He.obsD He.valD
  rw [(He.ba c1).1, c2]
theorem SaysK.tabs (c : SaysK K) (i : Nat) {t : Str × List He.Dv} (h : tb[i]? = some t := by rfl) : He.tupB K t.1 t.2 = true := by
  unfold SaysK obsK He.valD at c
  have c1 := (He.ba (Prod.mk.inj c).1).2
  exact (He.ba (List.all_eq_true.mp c1 t (List.mem_of_getElem? h))).1
theorem SaysK.tabd (c : SaysK K) (i : Nat) {t : Str × List He.Dv} (h : tb[i]? = some t := by rfl) : ∃ o, K.lookup (He.ga K t.1) = some o ∧ o.cls = .type "tuple" ∧ o.dict = none := by
  unfold SaysK obsK He.valD at c
  have c1 := (He.ba (Prod.mk.inj c).1).2
  obtain ⟨c2, c3⟩ := He.ba (List.all_eq_true.mp c1 t (List.mem_of_getElem? h))
  rcases He.tupB_ok c2 (fun _ => none) with (z | ⟨_, z⟩) | ⟨o, its, n, q, qc, _⟩
  · cases z
  · cases z
  · refine ⟨o, q, qc, ?_⟩
    unfold ndB at c3
    rw [q] at c3
    cases e : o.dict with
    | none => rfl
    | some a =>
      have c4 : o.dict.isNone = true := c3
      rw [e] at c4
      cases c4
end

/-- all that the walk leans on: K, the written part; mg, the module's names -/
structure Tx (K : PySem.W.Frag) (mg : Str → Option Value) : Prop where
  says : SaysK K
  glo : ∀ x : Str, (He.Fa.glo x).ok K = true → mg x = some (.ref (He.ga K x))
  free : ∀ x : Str, (He.Fa.free x).ok K = true → mg x = none
  int : ∀ (x : Str) (i : Int), (He.Fa.int x i).ok K = true → ∃ t, mg x = some (.int i t)
theorem Tx.of {K : PySem.W.Frag} {mg : Str → Option Value} {h : Heap} (X : K.In h) (G : h.Ns mainGlobals mg) (c : SaysK K) : Tx K mg :=
  ⟨c, fun _ q => He.glo_ok X G q, fun _ q => He.free_ok X G q, fun _ _ q => He.int_ok X G q⟩
section
variable {K : PySem.W.Frag} {mg : Str → Option Value}
theorem Tx.glo_page_day (T : Tx K mg) : mg "page_day" = some (.ref (He.ga K "page_day")) := T.glo _ (T.says.says.fact 0 (f := .glo "page_day"))
theorem Tx.glo_page_kind (T : Tx K mg) : mg "page_kind" = some (.ref (He.ga K "page_kind")) := T.glo _ (T.says.says.fact 1 (f := .glo "page_kind"))
theorem Tx.glo_names_of (T : Tx K mg) : mg "names_of" = some (.ref (He.ga K "names_of")) := T.glo _ (T.says.says.fact 2 (f := .glo "names_of"))
theorem Tx.glo_place_of (T : Tx K mg) : mg "place_of" = some (.ref (He.ga K "place_of")) := T.glo _ (T.says.says.fact 3 (f := .glo "place_of"))
theorem Tx.glo_in_order (T : Tx K mg) : mg "in_order" = some (.ref (He.ga K "in_order")) := T.glo _ (T.says.says.fact 4 (f := .glo "in_order"))
theorem Tx.glo_with_page (T : Tx K mg) : mg "with_page" = some (.ref (He.ga K "with_page")) := T.glo _ (T.says.says.fact 5 (f := .glo "with_page"))
theorem Tx.glo_without_page (T : Tx K mg) : mg "without_page" = some (.ref (He.ga K "without_page")) := T.glo _ (T.says.says.fact 6 (f := .glo "without_page"))
theorem Tx.glo_up_to (T : Tx K mg) : mg "up_to" = some (.ref (He.ga K "up_to")) := T.glo _ (T.says.says.fact 7 (f := .glo "up_to"))
theorem Tx.glo_houses_behind (T : Tx K mg) : mg "houses_behind" = some (.ref (He.ga K "houses_behind")) := T.glo _ (T.says.says.fact 8 (f := .glo "houses_behind"))
theorem Tx.glo_standing (T : Tx K mg) : mg "standing" = some (.ref (He.ga K "standing")) := T.glo _ (T.says.says.fact 9 (f := .glo "standing"))
theorem Tx.glo_home_of (T : Tx K mg) : mg "home_of" = some (.ref (He.ga K "home_of")) := T.glo _ (T.says.says.fact 10 (f := .glo "home_of"))
theorem Tx.glo_idle (T : Tx K mg) : mg "idle" = some (.ref (He.ga K "idle")) := T.glo _ (T.says.says.fact 11 (f := .glo "idle"))
theorem Tx.glo_stays (T : Tx K mg) : mg "stays" = some (.ref (He.ga K "stays")) := T.glo _ (T.says.says.fact 12 (f := .glo "stays"))
theorem Tx.glo_term_of (T : Tx K mg) : mg "term_of" = some (.ref (He.ga K "term_of")) := T.glo _ (T.says.says.fact 13 (f := .glo "term_of"))
theorem Tx.glo_walked (T : Tx K mg) : mg "walked" = some (.ref (He.ga K "walked")) := T.glo _ (T.says.says.fact 14 (f := .glo "walked"))
theorem Tx.glo_dues (T : Tx K mg) : mg "dues" = some (.ref (He.ga K "dues")) := T.glo _ (T.says.says.fact 15 (f := .glo "dues"))
theorem Tx.glo_marks (T : Tx K mg) : mg "marks" = some (.ref (He.ga K "marks")) := T.glo _ (T.says.says.fact 16 (f := .glo "marks"))
theorem Tx.glo_left (T : Tx K mg) : mg "left" = some (.ref (He.ga K "left")) := T.glo _ (T.says.says.fact 17 (f := .glo "left"))
theorem Tx.glo_last_known (T : Tx K mg) : mg "last_known" = some (.ref (He.ga K "last_known")) := T.glo _ (T.says.says.fact 18 (f := .glo "last_known"))
theorem Tx.glo_with_lasts (T : Tx K mg) : mg "with_lasts" = some (.ref (He.ga K "with_lasts")) := T.glo _ (T.says.says.fact 19 (f := .glo "with_lasts"))
theorem Tx.glo_soon (T : Tx K mg) : mg "soon" = some (.ref (He.ga K "soon")) := T.glo _ (T.says.says.fact 20 (f := .glo "soon"))
theorem Tx.glo_first_rude (T : Tx K mg) : mg "first_rude" = some (.ref (He.ga K "first_rude")) := T.glo _ (T.says.says.fact 21 (f := .glo "first_rude"))
theorem Tx.glo_answered (T : Tx K mg) : mg "answered" = some (.ref (He.ga K "answered")) := T.glo _ (T.says.says.fact 22 (f := .glo "answered"))
theorem Tx.glo_matters (T : Tx K mg) : mg "matters" = some (.ref (He.ga K "matters")) := T.glo _ (T.says.says.fact 23 (f := .glo "matters"))
theorem Tx.glo_sums (T : Tx K mg) : mg "sums" = some (.ref (He.ga K "sums")) := T.glo _ (T.says.says.fact 24 (f := .glo "sums"))
theorem Tx.glo_rude_papers (T : Tx K mg) : mg "rude_papers" = some (.ref (He.ga K "rude_papers")) := T.glo _ (T.says.says.fact 25 (f := .glo "rude_papers"))
theorem Tx.glo_rude (T : Tx K mg) : mg "rude" = some (.ref (He.ga K "rude")) := T.glo _ (T.says.says.fact 26 (f := .glo "rude"))
theorem Tx.glo_law_feed (T : Tx K mg) : mg "_law_feed" = some (.ref (He.ga K "_law_feed")) := T.glo _ (T.says.says.fact 27 (f := .glo "_law_feed"))
theorem Tx.glo_law_draw (T : Tx K mg) : mg "_law_draw" = some (.ref (He.ga K "_law_draw")) := T.glo _ (T.says.says.fact 28 (f := .glo "_law_draw"))
theorem Tx.glo_law_names (T : Tx K mg) : mg "_law_names" = some (.ref (He.ga K "_law_names")) := T.glo _ (T.says.says.fact 29 (f := .glo "_law_names"))
theorem Tx.glo_law_home (T : Tx K mg) : mg "_law_home" = some (.ref (He.ga K "_law_home")) := T.glo _ (T.says.says.fact 30 (f := .glo "_law_home"))
theorem Tx.glo_law_page (T : Tx K mg) : mg "_law_page" = some (.ref (He.ga K "_law_page")) := T.glo _ (T.says.says.fact 31 (f := .glo "_law_page"))
theorem Tx.glo_law_rank (T : Tx K mg) : mg "_law_rank" = some (.ref (He.ga K "_law_rank")) := T.glo _ (T.says.says.fact 32 (f := .glo "_law_rank"))
theorem Tx.glo_law_standing_so (T : Tx K mg) : mg "_law_standing_so" = some (.ref (He.ga K "_law_standing_so")) := T.glo _ (T.says.says.fact 33 (f := .glo "_law_standing_so"))
theorem Tx.glo_law_book (T : Tx K mg) : mg "_law_book" = some (.ref (He.ga K "_law_book")) := T.glo _ (T.says.says.fact 34 (f := .glo "_law_book"))
theorem Tx.glo_law_case (T : Tx K mg) : mg "_law_case" = some (.ref (He.ga K "_law_case")) := T.glo _ (T.says.says.fact 35 (f := .glo "_law_case"))
theorem Tx.glo_law_all (T : Tx K mg) : mg "_law_all" = some (.ref (He.ga K "_law_all")) := T.glo _ (T.says.says.fact 36 (f := .glo "_law_all"))
theorem Tx.glo_law (T : Tx K mg) : mg "law" = some (.ref (He.ga K "law")) := T.glo _ (T.says.says.fact 37 (f := .glo "law"))
theorem Tx.glo_Houses (T : Tx K mg) : mg "Houses" = some (.ref (He.ga K "Houses")) := T.glo _ (T.says.says.fact 38 (f := .glo "Houses"))
theorem Tx.cls_Houses (T : Tx K mg) : Cls K (He.ga K "Houses") := He.cls_ok (T.says.says.fact 39 (f := .cls "Houses"))
theorem Tx.mkr_Houses (T : Tx K mg) : Mk K (He.ga K "Houses") (He.ma K (He.ga K "Houses") "__init__") := He.mkr_ok (T.says.says.fact 40 (f := .mkr "Houses"))
theorem Tx.na_Houses_homes (T : Tx K mg) : NoAttr K (He.ga K "Houses") "homes" := He.noat_ok (T.says.says.fact 41 (f := .noat "Houses" "homes"))
theorem Tx.na_Houses_parents (T : Tx K mg) : NoAttr K (He.ga K "Houses") "parents" := He.noat_ok (T.says.says.fact 42 (f := .noat "Houses" "parents"))
theorem Tx.na_Houses_joined (T : Tx K mg) : NoAttr K (He.ga K "Houses") "joined" := He.noat_ok (T.says.says.fact 43 (f := .noat "Houses" "joined"))
theorem Tx.na_Houses_mourned (T : Tx K mg) : NoAttr K (He.ga K "Houses") "mourned" := He.noat_ok (T.says.says.fact 44 (f := .noat "Houses" "mourned"))
theorem Tx.na_Houses_idle_pages (T : Tx K mg) : NoAttr K (He.ga K "Houses") "idle_pages" := He.noat_ok (T.says.says.fact 45 (f := .noat "Houses" "idle_pages"))
theorem Tx.me_Houses_can (T : Tx K mg) : Meth K (He.ga K "Houses") "can" (He.ma K (He.ga K "Houses") "can") := He.meth_ok (T.says.says.fact 46 (f := .meth "Houses" "can"))
theorem Tx.me_Houses_come (T : Tx K mg) : Meth K (He.ga K "Houses") "come" (He.ma K (He.ga K "Houses") "come") := He.meth_ok (T.says.says.fact 47 (f := .meth "Houses" "come"))
theorem Tx.me_Houses_do (T : Tx K mg) : Meth K (He.ga K "Houses") "do" (He.ma K (He.ga K "Houses") "do") := He.meth_ok (T.says.says.fact 48 (f := .meth "Houses" "do"))
theorem Tx.me_Houses_meet (T : Tx K mg) : Meth K (He.ga K "Houses") "meet" (He.ma K (He.ga K "Houses") "meet") := He.meth_ok (T.says.says.fact 49 (f := .meth "Houses" "meet"))
theorem Tx.me_Houses_ask_standing (T : Tx K mg) : Meth K (He.ga K "Houses") "ask_standing" (He.ma K (He.ga K "Houses") "ask_standing") := He.meth_ok (T.says.says.fact 50 (f := .meth "Houses" "ask_standing"))
theorem Tx.glo_Walk (T : Tx K mg) : mg "Walk" = some (.ref (He.ga K "Walk")) := T.glo _ (T.says.says.fact 51 (f := .glo "Walk"))
theorem Tx.cls_Walk (T : Tx K mg) : Cls K (He.ga K "Walk") := He.cls_ok (T.says.says.fact 52 (f := .cls "Walk"))
theorem Tx.mkr_Walk (T : Tx K mg) : Mk K (He.ga K "Walk") (He.ma K (He.ga K "Walk") "__init__") := He.mkr_ok (T.says.says.fact 53 (f := .mkr "Walk"))
theorem Tx.na_Walk_own_pages (T : Tx K mg) : NoAttr K (He.ga K "Walk") "own_pages" := He.noat_ok (T.says.says.fact 54 (f := .noat "Walk" "own_pages"))
theorem Tx.na_Walk_own_terms (T : Tx K mg) : NoAttr K (He.ga K "Walk") "own_terms" := He.noat_ok (T.says.says.fact 55 (f := .noat "Walk" "own_terms"))
theorem Tx.na_Walk_lost (T : Tx K mg) : NoAttr K (He.ga K "Walk") "lost" := He.noat_ok (T.says.says.fact 56 (f := .noat "Walk" "lost"))
theorem Tx.na_Walk_homes (T : Tx K mg) : NoAttr K (He.ga K "Walk") "homes" := He.noat_ok (T.says.says.fact 57 (f := .noat "Walk" "homes"))
theorem Tx.na_Walk_mourned (T : Tx K mg) : NoAttr K (He.ga K "Walk") "mourned" := He.noat_ok (T.says.says.fact 58 (f := .noat "Walk" "mourned"))
theorem Tx.na_Walk_sorts (T : Tx K mg) : NoAttr K (He.ga K "Walk") "sorts" := He.noat_ok (T.says.says.fact 59 (f := .noat "Walk" "sorts"))
theorem Tx.na_Walk_falls (T : Tx K mg) : NoAttr K (He.ga K "Walk") "falls" := He.noat_ok (T.says.says.fact 60 (f := .noat "Walk" "falls"))
theorem Tx.na_Walk_marks (T : Tx K mg) : NoAttr K (He.ga K "Walk") "marks" := He.noat_ok (T.says.says.fact 61 (f := .noat "Walk" "marks"))
theorem Tx.na_Walk_answers (T : Tx K mg) : NoAttr K (He.ga K "Walk") "answers" := He.noat_ok (T.says.says.fact 62 (f := .noat "Walk" "answers"))
theorem Tx.na_Walk_made (T : Tx K mg) : NoAttr K (He.ga K "Walk") "made" := He.noat_ok (T.says.says.fact 63 (f := .noat "Walk" "made"))
theorem Tx.na_Walk_copied (T : Tx K mg) : NoAttr K (He.ga K "Walk") "copied" := He.noat_ok (T.says.says.fact 64 (f := .noat "Walk" "copied"))
theorem Tx.na_Walk_struck (T : Tx K mg) : NoAttr K (He.ga K "Walk") "struck" := He.noat_ok (T.says.says.fact 65 (f := .noat "Walk" "struck"))
theorem Tx.na_Walk_merged (T : Tx K mg) : NoAttr K (He.ga K "Walk") "merged" := He.noat_ok (T.says.says.fact 66 (f := .noat "Walk" "merged"))
theorem Tx.me_Walk_mourns (T : Tx K mg) : Meth K (He.ga K "Walk") "mourns" (He.ma K (He.ga K "Walk") "mourns") := He.meth_ok (T.says.says.fact 67 (f := .meth "Walk" "mourns"))
theorem Tx.me_Walk_is_met (T : Tx K mg) : Meth K (He.ga K "Walk") "is_met" (He.ma K (He.ga K "Walk") "is_met") := He.meth_ok (T.says.says.fact 68 (f := .meth "Walk" "is_met"))
theorem Tx.me_Walk_go (T : Tx K mg) : Meth K (He.ga K "Walk") "go" (He.ma K (He.ga K "Walk") "go") := He.meth_ok (T.says.says.fact 69 (f := .meth "Walk" "go"))
theorem Tx.me_Walk_part (T : Tx K mg) : Meth K (He.ga K "Walk") "part" (He.ma K (He.ga K "Walk") "part") := He.meth_ok (T.says.says.fact 70 (f := .meth "Walk" "part"))
theorem Tx.me_Walk_join (T : Tx K mg) : Meth K (He.ga K "Walk") "join" (He.ma K (He.ga K "Walk") "join") := He.meth_ok (T.says.says.fact 71 (f := .meth "Walk" "join"))
theorem Tx.me_Walk_lay (T : Tx K mg) : Meth K (He.ga K "Walk") "lay" (He.ma K (He.ga K "Walk") "lay") := He.meth_ok (T.says.says.fact 72 (f := .meth "Walk" "lay"))
theorem Tx.me_Walk_put (T : Tx K mg) : Meth K (He.ga K "Walk") "put" (He.ma K (He.ga K "Walk") "put") := He.meth_ok (T.says.says.fact 73 (f := .meth "Walk" "put"))
theorem Tx.me_Walk_fall (T : Tx K mg) : Meth K (He.ga K "Walk") "fall" (He.ma K (He.ga K "Walk") "fall") := He.meth_ok (T.says.says.fact 74 (f := .meth "Walk" "fall"))
theorem Tx.me_Walk_go_to (T : Tx K mg) : Meth K (He.ga K "Walk") "go_to" (He.ma K (He.ga K "Walk") "go_to") := He.meth_ok (T.says.says.fact 75 (f := .meth "Walk" "go_to"))
theorem Tx.me_Walk_places (T : Tx K mg) : Meth K (He.ga K "Walk") "places" (He.ma K (He.ga K "Walk") "places") := He.meth_ok (T.says.says.fact 76 (f := .meth "Walk" "places"))
theorem Tx.me_Walk_dues_told (T : Tx K mg) : Meth K (He.ga K "Walk") "dues_told" (He.ma K (He.ga K "Walk") "dues_told") := He.meth_ok (T.says.says.fact 77 (f := .meth "Walk" "dues_told"))
theorem Tx.free_tuple (T : Tx K mg) : mg "tuple" = none := T.free _ (T.says.says.fact 78 (f := .free "tuple"))
theorem Tx.free_sorted (T : Tx K mg) : mg "sorted" = none := T.free _ (T.says.says.fact 79 (f := .free "sorted"))
theorem Tx.free_list (T : Tx K mg) : mg "list" = none := T.free _ (T.says.says.fact 80 (f := .free "list"))
theorem Tx.free_len (T : Tx K mg) : mg "len" = none := T.free _ (T.says.says.fact 81 (f := .free "len"))
theorem Tx.free_dict (T : Tx K mg) : mg "dict" = none := T.free _ (T.says.says.fact 82 (f := .free "dict"))
theorem Tx.free_enumerate (T : Tx K mg) : mg "enumerate" = none := T.free _ (T.says.says.fact 83 (f := .free "enumerate"))
theorem Tx.free_any (T : Tx K mg) : mg "any" = none := T.free _ (T.says.says.fact 84 (f := .free "any"))
theorem Tx.free_all (T : Tx K mg) : mg "all" = none := T.free _ (T.says.says.fact 85 (f := .free "all"))
theorem Tx.free_sum (T : Tx K mg) : mg "sum" = none := T.free _ (T.says.says.fact 86 (f := .free "sum"))
theorem Tx.free_range (T : Tx K mg) : mg "range" = none := T.free _ (T.says.says.fact 87 (f := .free "range"))
theorem Tx.free_int (T : Tx K mg) : mg "int" = none := T.free _ (T.says.says.fact 88 (f := .free "int"))
theorem Tx.free_repr (T : Tx K mg) : mg "repr" = none := T.free _ (T.says.says.fact 89 (f := .free "repr"))
theorem Tx.int_WEEK (T : Tx K mg) : ∃ t, mg "WEEK" = some (.int 7 t) := T.int _ _ (T.says.says.fact 90 (f := .int "WEEK" 7))
theorem Tx.glo_KINDS (T : Tx K mg) : mg "KINDS" = some (.ref (He.ga K "KINDS")) := T.glo _ (T.says.says.fact 91 (f := .glo "KINDS"))
theorem Tx.glo_ALONE (T : Tx K mg) : mg "ALONE" = some (.ref (He.ga K "ALONE")) := T.glo _ (T.says.says.fact 92 (f := .glo "ALONE"))
theorem Tx.glo_GOINGS (T : Tx K mg) : mg "GOINGS" = some (.ref (He.ga K "GOINGS")) := T.glo _ (T.says.says.fact 93 (f := .glo "GOINGS"))
theorem Tx.tad_KINDS (T : Tx K mg) : ∃ o, K.lookup (He.ga K "KINDS") = some o ∧ o.cls = .type "tuple" ∧ o.dict = none := T.says.tabd 0 (t := ("KINDS", tb_KINDS))
theorem Tx.tab_KINDS (T : Tx K mg) (H : Hp) : SqT K H (He.ga K "KINDS") (tb_KINDS.map (He.Dv.v K)) := He.tupB_ok (x := "KINDS") (vs := tb_KINDS) (T.says.tabs 0 (t := ("KINDS", tb_KINDS))) H
theorem Tx.tad_ALONE (T : Tx K mg) : ∃ o, K.lookup (He.ga K "ALONE") = some o ∧ o.cls = .type "tuple" ∧ o.dict = none := T.says.tabd 1 (t := ("ALONE", tb_ALONE))
theorem Tx.tab_ALONE (T : Tx K mg) (H : Hp) : SqT K H (He.ga K "ALONE") (tb_ALONE.map (He.Dv.v K)) := He.tupB_ok (x := "ALONE") (vs := tb_ALONE) (T.says.tabs 1 (t := ("ALONE", tb_ALONE))) H
theorem Tx.tad_GOINGS (T : Tx K mg) : ∃ o, K.lookup (He.ga K "GOINGS") = some o ∧ o.cls = .type "tuple" ∧ o.dict = none := T.says.tabd 2 (t := ("GOINGS", tb_GOINGS))
theorem Tx.tab_GOINGS (T : Tx K mg) (H : Hp) : SqT K H (He.ga K "GOINGS") (tb_GOINGS.map (He.Dv.v K)) := He.tupB_ok (x := "GOINGS") (vs := tb_GOINGS) (T.says.tabs 2 (t := ("GOINGS", tb_GOINGS))) H
theorem Tx.fun_page_day (T : Tx K mg) : ∃ fd, FunD K "page_day" "page_day" (defArgs s_page_day) (defBody s_page_day) (defScope s_page_day) [] [] (He.fAd K ("page_day", none)) fd := T.says.says.def_ 0 (d := dd_page_day)
theorem Tx.fun_page_kind (T : Tx K mg) : ∃ fd, FunD K "page_kind" "page_kind" (defArgs s_page_kind) (defBody s_page_kind) (defScope s_page_kind) [] [] (He.fAd K ("page_kind", none)) fd := T.says.says.def_ 1 (d := dd_page_kind)
theorem Tx.fun_names_of (T : Tx K mg) : ∃ fd, FunD K "names_of" "names_of" (defArgs s_names_of) (defBody s_names_of) (defScope s_names_of) [] [] (He.fAd K ("names_of", none)) fd := T.says.says.def_ 2 (d := dd_names_of)
theorem Tx.fun_place_of (T : Tx K mg) : ∃ fd, FunD K "place_of" "place_of" (defArgs s_place_of) (defBody s_place_of) (defScope s_place_of) [] [] (He.fAd K ("place_of", none)) fd := T.says.says.def_ 3 (d := dd_place_of)
theorem Tx.fun_in_order (T : Tx K mg) : ∃ fd, FunD K "in_order" "in_order" (defArgs s_in_order) (defBody s_in_order) (defScope s_in_order) [] [] (He.fAd K ("in_order", none)) fd := T.says.says.def_ 4 (d := dd_in_order)
theorem Tx.fun_with_page (T : Tx K mg) : ∃ fd, FunD K "with_page" "with_page" (defArgs s_with_page) (defBody s_with_page) (defScope s_with_page) [] [] (He.fAd K ("with_page", none)) fd := T.says.says.def_ 5 (d := dd_with_page)
theorem Tx.fun_without_page (T : Tx K mg) : ∃ fd, FunD K "without_page" "without_page" (defArgs s_without_page) (defBody s_without_page) (defScope s_without_page) [] [] (He.fAd K ("without_page", none)) fd := T.says.says.def_ 6 (d := dd_without_page)
theorem Tx.fun_up_to (T : Tx K mg) : ∃ fd, FunD K "up_to" "up_to" (defArgs s_up_to) (defBody s_up_to) (defScope s_up_to) [] [] (He.fAd K ("up_to", none)) fd := T.says.says.def_ 7 (d := dd_up_to)
theorem Tx.fun_Houses_init (T : Tx K mg) : ∃ fd, FunD K "__init__" "Houses.__init__" (defArgs s_Houses_init) (defBody s_Houses_init) (defScope s_Houses_init) [] [] (He.fAd K ("Houses", some "__init__")) fd := T.says.says.def_ 8 (d := dd_Houses_init)
theorem Tx.fun_Houses_can (T : Tx K mg) : ∃ fd, FunD K "can" "Houses.can" (defArgs s_Houses_can) (defBody s_Houses_can) (defScope s_Houses_can) [] [] (He.fAd K ("Houses", some "can")) fd := T.says.says.def_ 9 (d := dd_Houses_can)
theorem Tx.fun_Houses_come (T : Tx K mg) : ∃ fd, FunD K "come" "Houses.come" (defArgs s_Houses_come) (defBody s_Houses_come) (defScope s_Houses_come) [] [] (He.fAd K ("Houses", some "come")) fd := T.says.says.def_ 10 (d := dd_Houses_come)
theorem Tx.fun_Houses_do (T : Tx K mg) : ∃ fd, FunD K "do" "Houses.do" (defArgs s_Houses_do) (defBody s_Houses_do) (defScope s_Houses_do) [] [] (He.fAd K ("Houses", some "do")) fd := T.says.says.def_ 11 (d := dd_Houses_do)
theorem Tx.fun_Houses_meet (T : Tx K mg) : ∃ fd, FunD K "meet" "Houses.meet" (defArgs s_Houses_meet) (defBody s_Houses_meet) (defScope s_Houses_meet) [] [] (He.fAd K ("Houses", some "meet")) fd := T.says.says.def_ 12 (d := dd_Houses_meet)
theorem Tx.fun_Houses_ask_standing (T : Tx K mg) : ∃ fd, FunD K "ask_standing" "Houses.ask_standing" (defArgs s_Houses_ask_standing) (defBody s_Houses_ask_standing) (defScope s_Houses_ask_standing) [] [] (He.fAd K ("Houses", some "ask_standing")) fd := T.says.says.def_ 13 (d := dd_Houses_ask_standing)
theorem Tx.fun_houses_behind (T : Tx K mg) : ∃ fd, FunD K "houses_behind" "houses_behind" (defArgs s_houses_behind) (defBody s_houses_behind) (defScope s_houses_behind) [] [] (He.fAd K ("houses_behind", none)) fd := T.says.says.def_ 14 (d := dd_houses_behind)
theorem Tx.fun_standing (T : Tx K mg) : ∃ fd, FunD K "standing" "standing" (defArgs s_standing) (defBody s_standing) (defScope s_standing) [] [] (He.fAd K ("standing", none)) fd := T.says.says.def_ 15 (d := dd_standing)
theorem Tx.fun_home_of (T : Tx K mg) : ∃ fd, FunD K "home_of" "home_of" (defArgs s_home_of) (defBody s_home_of) (defScope s_home_of) [] [] (He.fAd K ("home_of", none)) fd := T.says.says.def_ 16 (d := dd_home_of)
theorem Tx.fun_idle (T : Tx K mg) : ∃ fd, FunD K "idle" "idle" (defArgs s_idle) (defBody s_idle) (defScope s_idle) [] [] (He.fAd K ("idle", none)) fd := T.says.says.def_ 17 (d := dd_idle)
theorem Tx.fun_stays (T : Tx K mg) : ∃ fd, FunD K "stays" "stays" (defArgs s_stays) (defBody s_stays) (defScope s_stays) [] [] (He.fAd K ("stays", none)) fd := T.says.says.def_ 18 (d := dd_stays)
theorem Tx.fun_term_of (T : Tx K mg) : ∃ fd, FunD K "term_of" "term_of" (defArgs s_term_of) (defBody s_term_of) (defScope s_term_of) [] [] (He.fAd K ("term_of", none)) fd := T.says.says.def_ 19 (d := dd_term_of)
theorem Tx.fun_Walk_init (T : Tx K mg) : ∃ fd, FunD K "__init__" "Walk.__init__" (defArgs s_Walk_init) (defBody s_Walk_init) (defScope s_Walk_init) [] [] (He.fAd K ("Walk", some "__init__")) fd := T.says.says.def_ 20 (d := dd_Walk_init)
theorem Tx.fun_Walk_mourns (T : Tx K mg) : ∃ fd, FunD K "mourns" "Walk.mourns" (defArgs s_Walk_mourns) (defBody s_Walk_mourns) (defScope s_Walk_mourns) [] [] (He.fAd K ("Walk", some "mourns")) fd := T.says.says.def_ 21 (d := dd_Walk_mourns)
theorem Tx.fun_Walk_is_met (T : Tx K mg) : ∃ fd, FunD K "is_met" "Walk.is_met" (defArgs s_Walk_is_met) (defBody s_Walk_is_met) (defScope s_Walk_is_met) [] [] (He.fAd K ("Walk", some "is_met")) fd := T.says.says.def_ 22 (d := dd_Walk_is_met)
theorem Tx.fun_Walk_go (T : Tx K mg) : ∃ fd, FunD K "go" "Walk.go" (defArgs s_Walk_go) (defBody s_Walk_go) (defScope s_Walk_go) [] [] (He.fAd K ("Walk", some "go")) fd := T.says.says.def_ 23 (d := dd_Walk_go)
theorem Tx.fun_Walk_part (T : Tx K mg) : ∃ fd, FunD K "part" "Walk.part" (defArgs s_Walk_part) (defBody s_Walk_part) (defScope s_Walk_part) [] [] (He.fAd K ("Walk", some "part")) fd := T.says.says.def_ 24 (d := dd_Walk_part)
theorem Tx.fun_Walk_join (T : Tx K mg) : ∃ fd, FunD K "join" "Walk.join" (defArgs s_Walk_join) (defBody s_Walk_join) (defScope s_Walk_join) [] [] (He.fAd K ("Walk", some "join")) fd := T.says.says.def_ 25 (d := dd_Walk_join)
theorem Tx.fun_Walk_lay (T : Tx K mg) : ∃ fd, FunD K "lay" "Walk.lay" (defArgs s_Walk_lay) (defBody s_Walk_lay) (defScope s_Walk_lay) [] [] (He.fAd K ("Walk", some "lay")) fd := T.says.says.def_ 26 (d := dd_Walk_lay)
theorem Tx.fun_Walk_put (T : Tx K mg) : ∃ fd, FunD K "put" "Walk.put" (defArgs s_Walk_put) (defBody s_Walk_put) (defScope s_Walk_put) [] [] (He.fAd K ("Walk", some "put")) fd := T.says.says.def_ 27 (d := dd_Walk_put)
theorem Tx.fun_Walk_fall (T : Tx K mg) : ∃ fd, FunD K "fall" "Walk.fall" (defArgs s_Walk_fall) (defBody s_Walk_fall) (defScope s_Walk_fall) [] [] (He.fAd K ("Walk", some "fall")) fd := T.says.says.def_ 28 (d := dd_Walk_fall)
theorem Tx.fun_Walk_go_to (T : Tx K mg) : ∃ fd, FunD K "go_to" "Walk.go_to" (defArgs s_Walk_go_to) (defBody s_Walk_go_to) (defScope s_Walk_go_to) [] [] (He.fAd K ("Walk", some "go_to")) fd := T.says.says.def_ 29 (d := dd_Walk_go_to)
theorem Tx.fun_Walk_places (T : Tx K mg) : ∃ fd, FunD K "places" "Walk.places" (defArgs s_Walk_places) (defBody s_Walk_places) (defScope s_Walk_places) [] [] (He.fAd K ("Walk", some "places")) fd := T.says.says.def_ 30 (d := dd_Walk_places)
theorem Tx.fun_Walk_dues_told (T : Tx K mg) : ∃ fd, FunD K "dues_told" "Walk.dues_told" (defArgs s_Walk_dues_told) (defBody s_Walk_dues_told) (defScope s_Walk_dues_told) [] [] (He.fAd K ("Walk", some "dues_told")) fd := T.says.says.def_ 31 (d := dd_Walk_dues_told)
theorem Tx.fun_walked (T : Tx K mg) : ∃ fd, FunD K "walked" "walked" (defArgs s_walked) (defBody s_walked) (defScope s_walked) [] [] (He.fAd K ("walked", none)) fd := T.says.says.def_ 32 (d := dd_walked)
theorem Tx.fun_dues (T : Tx K mg) : ∃ fd, FunD K "dues" "dues" (defArgs s_dues) (defBody s_dues) (defScope s_dues) [] [] (He.fAd K ("dues", none)) fd := T.says.says.def_ 33 (d := dd_dues)
theorem Tx.fun_marks (T : Tx K mg) : ∃ fd, FunD K "marks" "marks" (defArgs s_marks) (defBody s_marks) (defScope s_marks) [] [] (He.fAd K ("marks", none)) fd := T.says.says.def_ 34 (d := dd_marks)
theorem Tx.fun_left (T : Tx K mg) : ∃ fd, FunD K "left" "left" (defArgs s_left) (defBody s_left) (defScope s_left) [] [] (He.fAd K ("left", none)) fd := T.says.says.def_ 35 (d := dd_left)
theorem Tx.fun_last_known (T : Tx K mg) : ∃ fd, FunD K "last_known" "last_known" (defArgs s_last_known) (defBody s_last_known) (defScope s_last_known) [] [] (He.fAd K ("last_known", none)) fd := T.says.says.def_ 36 (d := dd_last_known)
theorem Tx.fun_with_lasts (T : Tx K mg) : ∃ fd, FunD K "with_lasts" "with_lasts" (defArgs s_with_lasts) (defBody s_with_lasts) (defScope s_with_lasts) [] [] (He.fAd K ("with_lasts", none)) fd := T.says.says.def_ 37 (d := dd_with_lasts)
theorem Tx.fun_soon (T : Tx K mg) : ∃ fd, FunD K "soon" "soon" (defArgs s_soon) (defBody s_soon) (defScope s_soon) [] [] (He.fAd K ("soon", none)) fd := T.says.says.def_ 38 (d := dd_soon)
theorem Tx.fun_first_rude (T : Tx K mg) : ∃ fd, FunD K "first_rude" "first_rude" (defArgs s_first_rude) (defBody s_first_rude) (defScope s_first_rude) [] [] (He.fAd K ("first_rude", none)) fd := T.says.says.def_ 39 (d := dd_first_rude)
theorem Tx.fun_answered (T : Tx K mg) : ∃ fd, FunD K "answered" "answered" (defArgs s_answered) (defBody s_answered) (defScope s_answered) [] [] (He.fAd K ("answered", none)) fd := T.says.says.def_ 40 (d := dd_answered)
theorem Tx.fun_matters (T : Tx K mg) : ∃ fd, FunD K "matters" "matters" (defArgs s_matters) (defBody s_matters) (defScope s_matters) [] [] (He.fAd K ("matters", none)) fd := T.says.says.def_ 41 (d := dd_matters)
theorem Tx.fun_sums (T : Tx K mg) : ∃ fd, FunD K "sums" "sums" (defArgs s_sums) (defBody s_sums) (defScope s_sums) [] [] (He.fAd K ("sums", none)) fd := T.says.says.def_ 42 (d := dd_sums)
theorem Tx.fun_rude_papers (T : Tx K mg) : ∃ fd, FunD K "rude_papers" "rude_papers" (defArgs s_rude_papers) (defBody s_rude_papers) (defScope s_rude_papers) [] [] (He.fAd K ("rude_papers", none)) fd := T.says.says.def_ 43 (d := dd_rude_papers)
theorem Tx.fun_rude (T : Tx K mg) : ∃ fd, FunD K "rude" "rude" (defArgs s_rude) (defBody s_rude) (defScope s_rude) [] [] (He.fAd K ("rude", none)) fd := T.says.says.def_ 44 (d := dd_rude)
theorem Tx.fun_law_feed (T : Tx K mg) : ∃ fd, FunD K "_law_feed" "_law_feed" (defArgs s_law_feed) (defBody s_law_feed) (defScope s_law_feed) [] [] (He.fAd K ("_law_feed", none)) fd := T.says.says.def_ 45 (d := dd_law_feed)
theorem Tx.fun_law_draw (T : Tx K mg) : ∃ fd, FunD K "_law_draw" "_law_draw" (defArgs s_law_draw) (defBody s_law_draw) (defScope s_law_draw) [] [] (He.fAd K ("_law_draw", none)) fd := T.says.says.def_ 46 (d := dd_law_draw)
theorem Tx.fun_law_names (T : Tx K mg) : ∃ fd, FunD K "_law_names" "_law_names" (defArgs s_law_names) (defBody s_law_names) (defScope s_law_names) [] [] (He.fAd K ("_law_names", none)) fd := T.says.says.def_ 47 (d := dd_law_names)
theorem Tx.fun_law_home (T : Tx K mg) : ∃ fd, FunD K "_law_home" "_law_home" (defArgs s_law_home) (defBody s_law_home) (defScope s_law_home) [] [] (He.fAd K ("_law_home", none)) fd := T.says.says.def_ 48 (d := dd_law_home)
theorem Tx.fun_law_page (T : Tx K mg) : ∃ fd, FunD K "_law_page" "_law_page" (defArgs s_law_page) (defBody s_law_page) (defScope s_law_page) [] [] (He.fAd K ("_law_page", none)) fd := T.says.says.def_ 49 (d := dd_law_page)
theorem Tx.fun_law_rank (T : Tx K mg) : ∃ fd, FunD K "_law_rank" "_law_rank" (defArgs s_law_rank) (defBody s_law_rank) (defScope s_law_rank) [] [] (He.fAd K ("_law_rank", none)) fd := T.says.says.def_ 50 (d := dd_law_rank)
theorem Tx.fun_law_standing_so (T : Tx K mg) : ∃ fd, FunD K "_law_standing_so" "_law_standing_so" (defArgs s_law_standing_so) (defBody s_law_standing_so) (defScope s_law_standing_so) [] [] (He.fAd K ("_law_standing_so", none)) fd := T.says.says.def_ 51 (d := dd_law_standing_so)
theorem Tx.fun_law_book (T : Tx K mg) : ∃ fd, FunD K "_law_book" "_law_book" (defArgs s_law_book) (defBody s_law_book) (defScope s_law_book) [] [] (He.fAd K ("_law_book", none)) fd := T.says.says.def_ 52 (d := dd_law_book)
theorem Tx.fun_law_case (T : Tx K mg) : ∃ fd, FunD K "_law_case" "_law_case" (defArgs s_law_case) (defBody s_law_case) (defScope s_law_case) [] [] (He.fAd K ("_law_case", none)) fd := T.says.says.def_ 53 (d := dd_law_case)
theorem Tx.fun_law_all (T : Tx K mg) : ∃ fd, FunD K "_law_all" "_law_all" (defArgs s_law_all) (defBody s_law_all) (defScope s_law_all) [] [] (He.fAd K ("_law_all", none)) fd := T.says.says.def_ 54 (d := dd_law_all)
theorem Tx.fun_law (T : Tx K mg) : ∃ fd, FunD K "law" "law" (defArgs s_law) (defBody s_law) (defScope s_law) [] [] (He.fAd K ("law", none)) fd := T.says.says.def_ 55 (d := dd_law)
end
end CB

/-! The head's run. -/
namespace CB
open PySem PySem.Spec PyProof.Rows L2
abbrev Rw : PySem.W.OpenRow := PySem.W.OpenLaw.row PySem.Challenge.rw_cardsback_k36_whole_late_pages
def names0 : List Str := ["_wall", "CardsError", "NoHouse", "NoPage", "KINDS", "ALONE", "page_day", "page_kind", "names_of", "place_of"]
def names1 : List Str := ["in_order", "with_page", "without_page", "up_to", "Houses", "houses_behind", "standing", "home_of", "idle", "GOINGS"]
def names2 : List Str := ["WEEK", "stays", "term_of", "Walk", "walked", "dues", "marks", "left", "last_known", "with_lasts"]
def names3 : List Str := ["soon", "first_rude", "answered", "matters", "sums", "rude_papers", "rude", "_law_feed", "_law_draw", "_law_names"]
def names4 : List Str := ["_law_home", "_law_page", "_law_rank", "_law_standing_so", "_law_book", "_law_case", "_law_all"]
def namesC : List Str := names0 ++ names1 ++ names2 ++ names3 ++ names4
abbrev hkC : PySem.W.Hook := hkK 5
def obC (s : PySem.W.SharedT) : He.AlD := obsKG 5 (HandSHeadRun.getT s)
theorem obC_eq (s : PySem.W.SharedT) : obC s = hkC.obs s.abs := obsKG_eq (HandSHeadRun.getT_eq s)
theorem runC (w : World) : HandSHeadRun.RunEq Rw (PySem.W.view Rw.prog [58]) hkC obC 4000 namesC w := by
  intro os
  kernel_rfl
end CB

/-! Part 2: the stable heap R, what is owned, slots that read as data. -/
namespace CB
open PySem PySem.Spec PyProof.Rows L2

/-! ### data over a heap that grows -/
section
variable {K : PySem.W.Frag} {H H' : Hp}
theorem rd_up {a : Addr} {u : HO} (e : Same H H') (h : Rd H a u) : Rd H' a u := by
  rcases h with h | ⟨o, h⟩
  · exact .inl (e _ _ h)
  · exact .inr ⟨o, e _ _ h⟩
theorem sqt_up {a : Addr} {xs : List V} (e : Same H H') (h : SqT K H a xs) : SqT K H' a xs := by
  rcases h with h | h
  · exact .inl (rd_up e h)
  · exact .inr h
theorem sql_up {a : Addr} {xs : List V} (e : Same H H') (h : SqL K H a xs) : SqL K H' a xs := e.seq h
mutual
theorem dp_up (e : Same H H') : ∀ (d : PyData) (v : V), Dp K H v d → Dp K H' v d
  | .none, _, h => by cases h; exact .non
  | .bool b, _, h => by cases h; exact .bl b
  | .int i, _, h => by cases h; exact .int i
  | .str x, _, h => by cases h; exact .str x
  | .list ds, _, h => by
    cases h with
    | lst h1 h2 => exact .lst (sql_up e h1) (dps_up e ds _ h2)
  | .tuple ds, _, h => by
    cases h with
    | tup h1 h2 => exact .tup (sqt_up e h1) (dps_up e ds _ h2)
  | .dict _, _, h => by cases h
theorem dps_up (e : Same H H') : ∀ (ds : List PyData) (vs : List V), DpAll K H vs ds → DpAll K H' vs ds
  | [], _, h => by cases h; exact .nil
  | d :: ds, _, h => by
    cases h with
    | cons h1 h2 => exact .cons (dp_up e d _ h1) (dps_up e ds _ h2)
end
theorem dp_int {v : V} {i : Int} (h : Dp K H v (.int i)) : v = .int i := by cases h; rfl
theorem dp_str {v : V} {x : Str} (h : Dp K H v (.str x)) : v = .str x := by cases h; rfl
theorem dp_bool {v : V} {b : Bool} (h : Dp K H v (.bool b)) : v = .bl b := by cases h; rfl
theorem dp_none {v : V} (h : Dp K H v .none) : v = .non := by cases h; rfl
theorem dp_tup {v : V} {ds : List PyData} (h : Dp K H v (.tuple ds)) : ∃ a xs, v = .ref a ∧ SqT K H a xs ∧ DpAll K H xs ds := by
  cases h with
  | tup h1 h2 => exact ⟨_, _, rfl, h1, h2⟩
theorem dp_lst {v : V} {ds : List PyData} (h : Dp K H v (.list ds)) : ∃ a xs, v = .ref a ∧ SqL K H a xs ∧ DpAll K H xs ds := by
  cases h with
  | lst h1 h2 => exact ⟨_, _, rfl, h1, h2⟩
theorem dps_len : ∀ {vs : List V} {ds : List PyData}, DpAll K H vs ds → vs.length = ds.length
  | _, _, .nil => rfl
  | _, _, .cons _ t => by rw [List.length_cons, List.length_cons, dps_len t]
theorem dps_get : ∀ {vs : List V} {ds : List PyData} {i : Nat} {d : PyData}, DpAll K H vs ds → ds[i]? = some d → ∃ v, vs[i]? = some v ∧ Dp K H v d
  | _, _, _, _, .nil, e => by simp at e
  | _, _, 0, _, .cons h _, e => by
    simp at e
    subst e
    exact ⟨_, rfl, h⟩
  | _, _, i + 1, d, .cons _ t, e => by
    obtain ⟨v, q1, q2⟩ := dps_get (i := i) (d := d) t (by simpa using e)
    exact ⟨v, by simpa using q1, q2⟩
theorem dps_val : ∀ {vs : List V} {ds : List PyData} {i : Nat} {v : V}, DpAll K H vs ds → vs[i]? = some v → ∃ d, ds[i]? = some d ∧ Dp K H v d
  | _, _, _, _, .nil, e => by simp at e
  | _, _, 0, _, .cons h _, e => by
    simp at e
    subst e
    exact ⟨_, rfl, h⟩
  | _, _, i + 1, v, .cons _ t, e => by
    obtain ⟨d, q1, q2⟩ := dps_val (i := i) (v := v) t (by simpa using e)
    exact ⟨d, by simpa using q1, q2⟩
theorem dps_app : ∀ {vs ws : List V} {ds es : List PyData}, DpAll K H vs ds → DpAll K H ws es → DpAll K H (vs ++ ws) (ds ++ es)
  | _, _, _, _, .nil, h => h
  | _, _, _, _, .cons h t, h' => .cons h (dps_app t h')
theorem dps_one {v : V} {d : PyData} (h : Dp K H v d) : DpAll K H [v] [d] := .cons h .nil
theorem dps_take : ∀ {vs : List V} {ds : List PyData} (n : Nat), DpAll K H vs ds → DpAll K H (vs.take n) (ds.take n)
  | _, _, 0, _ => by simp; exact .nil
  | _, _, n + 1, .nil => .nil
  | _, _, n + 1, .cons h t => .cons h (dps_take n t)
theorem dps_drop : ∀ {vs : List V} {ds : List PyData} (n : Nat), DpAll K H vs ds → DpAll K H (vs.drop n) (ds.drop n)
  | _, _, 0, h => h
  | _, _, n + 1, .nil => .nil
  | _, _, n + 1, .cons h t => dps_drop n t
theorem dps_ints : ∀ {vs : List V} {ns : List Int}, DpAll K H vs (ns.map .int) → vs = ns.map V.int
  | _, [], h => by cases h; rfl
  | _, n :: ns, h => by
    cases h with
    | cons h1 h2 => rw [dp_int h1, dps_ints h2]; rfl
theorem ints_dps : ∀ (ns : List Int), DpAll K H (ns.map V.int) (ns.map .int)
  | [] => .nil
  | n :: ns => .cons (.int n) (ints_dps ns)
theorem dps_strs : ∀ {vs : List V} {ns : List Str}, DpAll K H vs (ns.map .str) → vs = ns.map V.str
  | _, [], h => by cases h; rfl
  | _, n :: ns, h => by
    cases h with
    | cons h1 h2 => rw [dp_str h1, dps_strs h2]; rfl
end

/-! ### slots -/
/-- what a slot (or a field) holds: nothing known, data, a very value -/
inductive Sl where
  | u | d (x : PyData) | v (x : V)
def SlR (K : PySem.W.Frag) (R : Hp) : Sl → Option V → Prop
  | .u, _ => True
  | .d x, o => ∃ y, o = some y ∧ Dp K R y x
  | .v x, o => o = some x
def Hold (K : PySem.W.Frag) (R : Hp) : List Sl → L2.St → Prop
  | [], [] => True
  | s :: G, o :: z => SlR K R s o ∧ Hold K R G z
  | _, _ => False
section
variable {K : PySem.W.Frag} {R R' : Hp}
theorem slr_up (e : Same R R') : ∀ {s : Sl} {o : Option V}, SlR K R s o → SlR K R' s o
  | .u, _, _ => trivial
  | .d x, _, ⟨y, h1, h2⟩ => ⟨y, h1, dp_up e x y h2⟩
  | .v x, _, h => h
theorem hold_up (e : Same R R') : ∀ {G : List Sl} {z : L2.St}, Hold K R G z → Hold K R' G z
  | [], [], _ => trivial
  | _ :: _, _ :: _, ⟨h1, h2⟩ => ⟨slr_up e h1, hold_up e h2⟩
theorem hold_get : ∀ {G : List Sl} {z : L2.St} {i : Nat} {s : Sl}, Hold K R G z → G[i]? = some s → ∃ o, z[i]? = some o ∧ SlR K R s o
  | [], [], _, _, _, e => by simp at e
  | _ :: _, _ :: _, 0, _, ⟨h1, _⟩, e => by
    simp at e
    subst e
    exact ⟨_, rfl, h1⟩
  | _ :: G, _ :: z, i + 1, s, ⟨_, h2⟩, e => by
    obtain ⟨o, q1, q2⟩ := hold_get (G := G) (z := z) (i := i) (s := s) h2 (by simpa using e)
    exact ⟨o, by simpa using q1, q2⟩
theorem hold_set {s : Sl} {y : V} (hs : SlR K R s (some y)) : ∀ {G : List Sl} {z : L2.St} (i : Nat), Hold K R G z → Hold K R (G.set i s) (z.set i (some y))
  | [], [], _, _ => trivial
  | _ :: _, _ :: _, 0, ⟨_, h2⟩ => ⟨hs, h2⟩
  | _ :: _, _ :: _, i + 1, ⟨h1, h2⟩ => ⟨h1, hold_set hs i h2⟩
/-- forgetting -/
def SlLe : Sl → Sl → Prop := fun s t => t = .u ∨ t = s
def GLe : List Sl → List Sl → Prop
  | [], [] => True
  | s :: G, t :: G' => SlLe s t ∧ GLe G G'
  | _, _ => False
theorem hold_le : ∀ {G G' : List Sl} {z : L2.St}, GLe G G' → Hold K R G z → Hold K R G' z
  | [], [], _, _, h => h
  | s :: G, t :: G', [], _, h => h.elim
  | s :: G, t :: G', o :: z, ⟨h1, h2⟩, ⟨q1, q2⟩ => by
    refine ⟨?_, hold_le h2 q2⟩
    rcases h1 with rfl | rfl
    · trivial
    · exact q1
theorem gle_refl : ∀ (G : List Sl), GLe G G
  | [] => trivial
  | _ :: G => ⟨.inr rfl, gle_refl G⟩
/-- what a comprehension's block forgets -/
def wipeG (G : List Sl) : List Nat → List Sl
  | [] => G
  | i :: vs => (wipeG G vs).set i .u
end

theorem nd_ix {α : Type} : ∀ {l : List α} {i j : Nat} {x : α}, l.Nodup → l[i]? = some x → l[j]? = some x → i = j
  | [], _, _, _, _, h, _ => by simp at h
  | a :: l, 0, 0, _, _, _, _ => rfl
  | a :: l, 0, j + 1, x, n, h1, h2 => by
    simp at h1
    subst h1
    exact absurd (List.mem_of_getElem? (l := l) (i := j) (by simpa using h2)) (List.nodup_cons.mp n).1
  | a :: l, i + 1, 0, x, n, h1, h2 => by
    simp at h2
    subst h2
    exact absurd (List.mem_of_getElem? (l := l) (i := i) (by simpa using h1)) (List.nodup_cons.mp n).1
  | a :: l, i + 1, j + 1, x, n, h1, h2 => by
    rw [nd_ix (l := l) (i := i) (j := j) (List.nodup_cons.mp n).2 (by simpa using h1) (by simpa using h2)]
/-! ### what is owned -/
/-- a description of an owned object at an address, over the stable heap -/
structure As where
  ok : Addr → Hp → HO → Prop
  up : ∀ a R R' o, Same R R' → ok a R o → ok a R' o
structure Ow (own : List (Addr × As)) (R H : Hp) : Prop where
  rh : Same R H
  at_ : ∀ p ∈ own, R p.1 = none ∧ ∃ o, H p.1 = some o ∧ p.2.ok p.1 R o
  nd : (own.map (·.1)).Nodup
/-- nothing that stood has turned; the stable heap has grown by new things -/
structure Grow (R H R' H' : Hp) : Prop where
  rr : Same R R'
  hh : Same H H'
  rh : Same R' H'
  old : ∀ a o, H a = some o → R' a = R a
section
variable {R H R' H' R2 H2 : Hp} {own : List (Addr × As)}
theorem Grow.refl (h : Same R H) : Grow R H R H := ⟨Same.refl _, Same.refl _, h, fun _ _ _ => rfl⟩
theorem Grow.trans (a : Grow R H R' H') (b : Grow R' H' R2 H2) : Grow R H R2 H2 :=
  ⟨a.rr.trans b.rr, a.hh.trans b.hh, b.rh, fun x o h => (b.old x o (a.hh x o h)).trans (a.old x o h)⟩
theorem same_new {p : Addr} {o : HO} (h : H p = none) : Same H (upd H p o) := fun b u e => by
  rw [upd_ne (ne_of_none e h)]
  exact e
theorem same_both {p : Addr} {o : HO} (h : Same R H) : Same (upd R p o) (upd H p o) := fun b u e => by
  by_cases hb : b = p
  · subst hb
    rw [upd_same] at e ⊢
    exact e
  · rw [upd_ne hb] at e ⊢
    exact h b u e
/-- a new thing that never turns -/
theorem Grow.imm {p : Addr} {o : HO} (h : Same R H) (hp : H p = none) : Grow R H (upd R p o) (upd H p o) :=
  ⟨same_new (h.free hp), same_new hp, same_both h, fun a u e => upd_ne (ne_of_none e hp)⟩
/-- a new thing, not told to be stable -/
theorem Grow.mut {p : Addr} {o : HO} (h : Same R H) (hp : H p = none) : Grow R H R (upd H p o) :=
  ⟨Same.refl _, same_new hp, h.trans (same_new hp), fun _ _ _ => rfl⟩
/-- what stands in H and is new since R0, H0 is told to be stable -/
theorem Grow.freeze {p : Addr} {o : HO} (g : Grow R H R' H') (hp : H p = none) (h1 : R' p = none) (h2 : H' p = some o) : Grow R H (upd R' p o) H' :=
  ⟨g.rr.trans (same_new h1), g.hh, fun b u e => by
    by_cases hb : b = p
    · subst hb
      rw [upd_same] at e
      cases e
      exact h2
    · rw [upd_ne hb] at e
      exact g.rh b u e, fun a u e => by
    rw [upd_ne (ne_of_none e hp)]
    exact g.old a u e⟩
theorem Ow.grow (w : Ow own R H) (g : Grow R H R' H') : Ow own R' H' := by
  refine ⟨g.rh, fun p hp => ?_, w.nd⟩
  obtain ⟨h1, o, h2, h3⟩ := w.at_ p hp
  exact ⟨(g.old _ _ h2).trans h1, o, g.hh _ _ h2, p.2.up _ _ _ _ g.rr h3⟩
theorem Ow.get {i : Nat} {p : Addr} {A : As} (w : Ow own R H) (h : own[i]? = some (p, A)) : R p = none ∧ ∃ o, H p = some o ∧ A.ok p R o := w.at_ (p, A) (List.mem_of_getElem? h)
theorem Ow.sub {l r : List (Addr × As)} (w : Ow (l ++ r) R H) : Ow l R H ∧ Ow r R H := by
  have nd := w.nd
  rw [List.map_append] at nd
  exact ⟨⟨w.rh, fun p hp => w.at_ p (List.mem_append_left _ hp), (List.nodup_append.mp nd).1⟩, ⟨w.rh, fun p hp => w.at_ p (List.mem_append_right _ hp), (List.nodup_append.mp nd).2.1⟩⟩
/-- the owned thing at p turns -/
theorem Ow.put {i : Nat} {p : Addr} {A A' : As} {o : HO} (w : Ow own R H) (h : own[i]? = some (p, A)) (ho : A'.ok p R o) : Ow (own.set i (p, A')) R (upd H p o) := by
  obtain ⟨h1, _⟩ := w.get h
  have hi : i < own.length := (List.getElem?_eq_some_iff.mp h).1
  have hm : (own.set i (p, A')).map (·.1) = own.map (·.1) := by
    rw [List.map_set]
    apply List.ext_getElem?
    intro j
    by_cases hj : i = j
    · subst hj
      rw [List.getElem?_set_self (by simpa using hi), List.getElem?_map, h]
      rfl
    · rw [List.getElem?_set_ne hj]
  refine ⟨fun b u e => ?_, fun q hq => ?_, by rw [hm]; exact w.nd⟩
  · have hb : b ≠ p := fun z => by
      rw [z, h1] at e
      cases e
    rw [upd_ne hb]
    exact w.rh b u e
  · obtain ⟨j, hj⟩ := List.getElem?_of_mem hq
    by_cases hij : i = j
    · subst hij
      rw [List.getElem?_set_self hi] at hj
      cases hj
      exact ⟨h1, o, upd_same, ho⟩
    · rw [List.getElem?_set_ne hij] at hj
      obtain ⟨g1, u, g2, g3⟩ := w.at_ q (List.mem_of_getElem? hj)
      have hne : q.1 ≠ p := fun z => by
        have a1 : (own.map (·.1))[i]? = some p := by rw [List.getElem?_map, h]; rfl
        have a2 : (own.map (·.1))[j]? = some p := by rw [List.getElem?_map, hj, ← z]; rfl
        exact hij (nd_ix w.nd a1 a2)
      exact ⟨g1, u, by rw [upd_ne hne]; exact g2, g3⟩
/-- a new owned thing -/
theorem Ow.new {p : Addr} {A : As} {o : HO} (w : Ow own R H) (hp : H p = none) (ho : A.ok p R o) : Ow ((p, A) :: own) R (upd H p o) := by
  refine ⟨w.rh.trans (same_new hp), fun q hq => ?_, ?_⟩
  · rcases List.mem_cons.mp hq with rfl | hq
    · exact ⟨w.rh.free hp, o, upd_same, ho⟩
    · obtain ⟨g1, u, g2, g3⟩ := w.at_ q hq
      exact ⟨g1, u, by rw [upd_ne (ne_of_none g2 hp)]; exact g2, g3⟩
  · rw [List.map_cons]
    refine List.nodup_cons.mpr ⟨fun hm => ?_, w.nd⟩
    obtain ⟨q, hq, e⟩ := List.mem_map.mp hm
    obtain ⟨_, u, g2, _⟩ := w.at_ q hq
    have e' : q.1 = p := e
    rw [e', hp] at g2
    cases g2
end

/-- since R0, H0, where F0 was owned: own is owned now, nothing else that stood has turned -/
structure Sep (R0 H0 : Hp) (F0 : List Addr) (own : List (Addr × As)) (R H : Hp) : Prop where
  ow : Ow own R H
  rr : Same R0 R
  old : ∀ a o, H0 a = some o → R a = R0 a
  keep : ∀ a o, H0 a = some o → a ∉ own.map (·.1) → H a = some o
  fr : ∀ p ∈ own, H0 p.1 = none ∨ p.1 ∈ F0
  all : ∀ a ∈ F0, a ∈ own.map (·.1)
section
variable {R0 H0 R H R' H' : Hp} {F0 : List Addr} {own oc oc' or : List (Addr × As)}
theorem Sep.rh (s : Sep R0 H0 F0 own R H) : Same R H := s.ow.rh
theorem Sep.start (w : Ow own R H) : Sep R H (own.map (·.1)) own R H :=
  ⟨w, Same.refl _, fun _ _ _ => rfl, fun _ _ e _ => e, fun p hp => .inr (List.mem_map_of_mem hp), fun _ h => h⟩
theorem Sep.begin (h : Same R H) : Sep R H [] [] R H := Sep.start (own := []) ⟨h, (fun _ q => nomatch q), List.nodup_nil⟩
theorem Sep.grow (s : Sep R0 H0 F0 own R H) (g : Grow R H R' H') : Sep R0 H0 F0 own R' H' := by
  refine ⟨s.ow.grow g, s.rr.trans g.rr, fun a o e => ?_, fun a o e n => g.hh _ _ (s.keep a o e n), s.fr, s.all⟩
  by_cases hm : a ∈ own.map (·.1)
  · obtain ⟨q, hq, e2⟩ := List.mem_map.mp hm
    obtain ⟨_, u, g2, _⟩ := s.ow.at_ q hq
    have e2' : q.1 = a := e2
    rw [e2'] at g2
    exact (g.old a u g2).trans (s.old a o e)
  · exact (g.old a o (s.keep a o e hm)).trans (s.old a o e)
theorem Sep.put {i : Nat} {p : Addr} {A A' : As} {o : HO} (s : Sep R0 H0 F0 own R H) (h : own[i]? = some (p, A)) (ho : A'.ok p R o) : Sep R0 H0 F0 (own.set i (p, A')) R (upd H p o) := by
  have hi : i < own.length := (List.getElem?_eq_some_iff.mp h).1
  have hm : (own.set i (p, A')).map (·.1) = own.map (·.1) := by
    rw [List.map_set]
    apply List.ext_getElem?
    intro j
    by_cases hj : i = j
    · subst hj
      rw [List.getElem?_set_self (by simpa using hi), List.getElem?_map, h]
      rfl
    · rw [List.getElem?_set_ne hj]
  have hp : p ∈ own.map (·.1) := List.mem_map.mpr ⟨_, List.mem_of_getElem? h, rfl⟩
  refine ⟨s.ow.put h ho, s.rr, s.old, fun a u e n => ?_, fun q hq => ?_, fun a ha => by rw [hm]; exact s.all a ha⟩
  · rw [hm] at n
    have hne : a ≠ p := fun z => n (z ▸ hp)
    rw [upd_ne hne]
    exact s.keep a u e n
  · have hq1 : q.1 ∈ own.map (·.1) := by rw [← hm]; exact List.mem_map_of_mem hq
    obtain ⟨r, hr, e⟩ := List.mem_map.mp hq1
    have e' : r.1 = q.1 := e
    have := s.fr r hr
    rw [e'] at this
    exact this
theorem Sep.new {p : Addr} {A : As} {o : HO} (s : Sep R0 H0 F0 own R H) (hp : H p = none) (ho : A.ok p R o) : Sep R0 H0 F0 ((p, A) :: own) R (upd H p o) := by
  have h0 : H0 p = none := by
    cases q : H0 p with
    | none => rfl
    | some u =>
      exfalso
      by_cases hm : p ∈ own.map (·.1)
      · obtain ⟨r, hr, e⟩ := List.mem_map.mp hm
        obtain ⟨_, u, g2, _⟩ := s.ow.at_ r hr
        have e' : r.1 = p := e
        rw [e', hp] at g2
        cases g2
      · have := s.keep p u q hm
        rw [hp] at this
        cases this
  refine ⟨s.ow.new hp ho, s.rr, s.old, fun a u e n => ?_, fun q hq => ?_, fun a ha => ?_⟩
  · rw [List.map_cons] at n
    have n1 : a ≠ p := fun z => n (z ▸ List.mem_cons_self)
    rw [upd_ne n1]
    exact s.keep a u e fun z => n (List.mem_cons_of_mem _ z)
  · rcases List.mem_cons.mp hq with rfl | hq
    · exact .inl h0
    · exact s.fr q hq
  · rw [List.map_cons]
    exact List.mem_cons_of_mem _ (s.all a ha)
/-- a callee that owned oc gives oc' back -/
theorem Sep.call (s : Sep R0 H0 F0 (oc ++ or) R H) (c : Sep R H (oc.map (·.1)) oc' R' H') : Sep R0 H0 F0 (oc' ++ or) R' H' := by
  have kn : ∀ a o, H0 a = some o → ∃ u, H a = some u := fun a o e => by
    by_cases hm : a ∈ (oc ++ or).map (·.1)
    · obtain ⟨q, hq, e2⟩ := List.mem_map.mp hm
      obtain ⟨_, u, g2, _⟩ := s.ow.at_ q hq
      have e2' : q.1 = a := e2
      rw [e2'] at g2
      exact ⟨u, g2⟩
    · exact ⟨o, s.keep a o e hm⟩
  have nd := s.ow.nd
  rw [List.map_append] at nd
  have dj := (List.nodup_append.mp nd).2.2
  have nin : ∀ q ∈ or, q.1 ∉ oc'.map (·.1) := fun q hq hm => by
    obtain ⟨r, hr, e⟩ := List.mem_map.mp hm
    have e' : r.1 = q.1 := e
    rcases c.fr r hr with z | z
    · obtain ⟨_, u, g2, _⟩ := s.ow.at_ q (List.mem_append_right _ hq)
      rw [e', g2] at z
      cases z
    · rw [e'] at z
      exact dj _ z _ (List.mem_map_of_mem hq) rfl
  have orat : ∀ q ∈ or, R' q.1 = none ∧ ∃ o, H' q.1 = some o ∧ q.2.ok q.1 R' o := fun q hq => by
    obtain ⟨g1, u, g2, g3⟩ := s.ow.at_ q (List.mem_append_right _ hq)
    exact ⟨(c.old _ _ g2).trans g1, u, c.keep _ _ g2 (nin q hq), q.2.up _ _ _ _ c.rr g3⟩
  refine ⟨⟨c.ow.rh, fun q hq => ?_, ?_⟩, s.rr.trans c.rr, fun a o e => ?_, fun a o e n => ?_, fun q hq => ?_, fun a ha => ?_⟩
  · rcases List.mem_append.mp hq with hq | hq
    · exact c.ow.at_ q hq
    · exact orat q hq
  · rw [List.map_append]
    refine List.nodup_append.mpr ⟨c.ow.nd, (List.nodup_append.mp nd).2.1, fun x hx y hy e => ?_⟩
    obtain ⟨q, hq, e2⟩ := List.mem_map.mp hy
    have e2' : q.1 = y := e2
    exact nin q hq (by rw [e2', ← e]; exact hx)
  · obtain ⟨u, hu⟩ := kn a o e
    exact (c.old a u hu).trans (s.old a o e)
  · rw [List.map_append] at n
    have n1 : a ∉ oc'.map (·.1) := fun z => n (List.mem_append_left _ z)
    have n2 : a ∉ oc.map (·.1) := fun z => n1 (c.all a z)
    refine c.keep a o (s.keep a o e fun z => ?_) n1
    rw [List.map_append] at z
    rcases List.mem_append.mp z with z | z
    · exact n2 z
    · exact n (List.mem_append_right _ z)
  · rcases List.mem_append.mp hq with hq | hq
    · rcases c.fr q hq with z | z
      · left
        cases y : H0 q.1 with
        | none => rfl
        | some u =>
          obtain ⟨u', hu'⟩ := kn _ _ y
          rw [z] at hu'
          cases hu'
      · obtain ⟨r, hr, e⟩ := List.mem_map.mp z
        have e' : r.1 = q.1 := e
        have := s.fr r (List.mem_append_left _ hr)
        rw [e'] at this
        exact this
    · exact s.fr q (List.mem_append_right _ hq)
  · have := s.all a ha
    rw [List.map_append] at this ⊢
    rcases List.mem_append.mp this with z | z
    · exact List.mem_append_left _ (c.all a z)
    · exact List.mem_append_right _ z
/-- nothing was owned at the start: at the end nothing that stood has turned -/
theorem Sep.toGrow (s : Sep R0 H0 [] own R H) : Grow R0 H0 R H := by
  refine ⟨s.rr, fun a o e => s.keep a o e fun hm => ?_, s.ow.rh, s.old⟩
  obtain ⟨q, hq, e2⟩ := List.mem_map.mp hm
  have e2' : q.1 = a := e2
  rcases s.fr q hq with z | z
  · rw [e2', e] at z
    cases z
  · cases z
/-- what is owned no more and was new is told to be stable -/
theorem Sep.freeze {p : Addr} {A : As} {o : HO} (s : Sep R0 H0 F0 ((p, A) :: own) R H) (hp : p ∉ F0) (h2 : H p = some o) : Sep R0 H0 F0 own (upd R p o) H := by
  have h1 : R p = none := (s.ow.at_ (p, A) (List.mem_cons_self)).1
  have h0 : H0 p = none := (s.fr (p, A) List.mem_cons_self).resolve_right hp
  have nd := s.ow.nd
  rw [List.map_cons] at nd
  obtain ⟨n1, n2⟩ := List.nodup_cons.mp nd
  refine ⟨⟨fun b u e => ?_, fun q hq => ?_, n2⟩, s.rr.trans (same_new h1), fun a u e => ?_, fun a u e n => ?_, fun q hq => s.fr q (List.mem_cons_of_mem _ hq), fun a ha => ?_⟩
  · by_cases hb : b = p
    · subst hb
      rw [upd_same] at e
      cases e
      exact h2
    · rw [upd_ne hb] at e
      exact s.ow.rh b u e
  · obtain ⟨g1, u, g2, g3⟩ := s.ow.at_ q (List.mem_cons_of_mem _ hq)
    have hne : q.1 ≠ p := fun z => n1 (List.mem_map.mpr ⟨q, hq, z⟩)
    exact ⟨by rw [upd_ne hne]; exact g1, u, g2, q.2.up _ _ _ _ (same_new h1) g3⟩
  · rw [upd_ne (ne_of_none e h0)]
    exact s.old a u e
  · refine s.keep a u e fun z => ?_
    rw [List.map_cons] at z
    rcases List.mem_cons.mp z with z | z
    · rw [z, h0] at e
      cases e
    · exact n z
  · have := s.all a ha
    rw [List.map_cons] at this
    rcases List.mem_cons.mp this with z | z
    · have z' : a = p := z
      rw [z'] at ha
      exact absurd ha hp
    · exact z
theorem Sep.perm {own' : List (Addr × As)} (s : Sep R0 H0 F0 own R H) (h : own.Perm own') : Sep R0 H0 F0 own' R H := by
  have hm : (own.map (·.1)).Perm (own'.map (·.1)) := h.map _
  exact ⟨⟨s.ow.rh, fun p hp => s.ow.at_ p (h.mem_iff.mpr hp), hm.nodup_iff.mp s.ow.nd⟩, s.rr, s.old, fun a o e n => s.keep a o e fun z => n (hm.mem_iff.mp z), fun p hp => s.fr p (h.mem_iff.mpr hp), fun a ha => hm.mem_iff.mp (s.all a ha)⟩
end
end CB

/-! Part 3: what expressions are worth as data. -/
namespace CB
open PySem PySem.Spec PyProof.Rows L2
abbrev OL := List (Addr × As)
/-- e is worth s: by the slots G and what is owned; nothing that stands turns -/
def Ev (K : PySem.W.Frag) (G : List Sl) (own : OL) (te : TE) (s : Sl) : Prop :=
  ∀ R H z, Ow own R H → Hold K R G z → ∀ Q : VK, (∀ v R' H', Grow R H R' H' → SlR K R' s (some v) → Q v H') → te z H Q
def EvT (K : PySem.W.Frag) (G : List Sl) (own : OL) (tt : TT) (b : Bool) : Prop :=
  ∀ R H z, Ow own R H → Hold K R G z → ∀ Q : Bool → Hp → Prop, (∀ R' H', Grow R H R' H' → Q b H') → tt z H Q
def Args (K : PySem.W.Frag) (R : Hp) : List Sl → List V → Prop
  | [], [] => True
  | s :: ss, v :: vs => SlR K R s (some v) ∧ Args K R ss vs
  | _, _ => False
def EvA (K : PySem.W.Frag) (G : List Sl) (own : OL) (ta : TA) (ss : List Sl) : Prop :=
  ∀ R H z, Ow own R H → Hold K R G z → ∀ Q : List V → Hp → Prop, (∀ vs R' H', Grow R H R' H' → Args K R' ss vs → Q vs H') → ta z H Q
section
variable {K : PySem.W.Frag} {G : List Sl} {own : OL} {R R' H : Hp}
theorem args_up (e : Same R R') : ∀ {ss : List Sl} {vs : List V}, Args K R ss vs → Args K R' ss vs
  | [], [], _ => trivial
  | _ :: _, _ :: _, ⟨h1, h2⟩ => ⟨slr_up e h1, args_up e h2⟩
theorem args_len : ∀ {ss : List Sl} {vs : List V}, Args K R ss vs → vs.length = ss.length
  | [], [], _ => rfl
  | _ :: _, _ :: _, ⟨_, h2⟩ => by rw [List.length_cons, List.length_cons, args_len h2]
theorem args_dps : ∀ {ds : List PyData} {vs : List V}, Args K R (ds.map .d) vs → DpAll K R vs ds
  | [], [], _ => .nil
  | _ :: _, _ :: _, ⟨⟨y, e, h⟩, h2⟩ => by
    cases e
    exact .cons h (args_dps h2)
  | [], _ :: _, h => h.elim
  | _ :: _, [], h => h.elim
theorem slr_d {x : PyData} {v : V} (h : Dp K R v x) : SlR K R (.d x) (some v) := ⟨v, rfl, h⟩
theorem d_slr {x : PyData} {v : V} (h : SlR K R (.d x) (some v)) : Dp K R v x := by
  obtain ⟨y, e, h⟩ := h
  cases e
  exact h
theorem v_slr {x v : V} (h : SlR K R (.v x) (some v)) : v = x := Option.some.inj h

theorem ev_var {i : Nat} {s : Sl} (h : G[i]? = some s) (hs : s ≠ .u := by intro h; cases h) : Ev K G own (tVar i) s := fun R H z w hz Q q => by
  obtain ⟨o, h1, h2⟩ := hold_get hz h
  cases s with
  | u => exact absurd rfl hs
  | d x =>
    obtain ⟨y, rfl, h3⟩ := h2
    exact ⟨y, h1, q y R H (Grow.refl w.rh) (slr_d h3)⟩
  | v x =>
    have e : o = some x := h2
    subst e
    exact ⟨x, h1, q x R H (Grow.refl w.rh) rfl⟩
theorem ev_int {i : Int} : Ev K G own (tC (.int i)) (.d (.int i)) := fun R H z w hz Q q => q _ R H (Grow.refl w.rh) (slr_d (.int i))
theorem ev_str {x : Str} : Ev K G own (tC (.str x)) (.d (.str x)) := fun R H z w hz Q q => q _ R H (Grow.refl w.rh) (slr_d (.str x))
theorem ev_bl {b : Bool} : Ev K G own (tC (.bl b)) (.d (.bool b)) := fun R H z w hz Q q => q _ R H (Grow.refl w.rh) (slr_d (.bl b))
theorem ev_non : Ev K G own (tC .non) (.d .none) := fun R H z w hz Q q => q _ R H (Grow.refl w.rh) (slr_d .non)
/-- a module's tuple -/
theorem ev_tab {a : Addr} {xs : List V} {ds : List PyData} (h : ∀ H, SqT K H a xs) (hd : ∀ H, DpAll K H xs ds) : Ev K G own (tC (.ref a)) (.d (.tuple ds)) := fun R H z w hz Q q =>
  q _ R H (Grow.refl w.rh) (slr_d (.tup (h R) (hd R)))

/-! ### operations by values -/
def RD (K : PySem.W.Frag) (own : OL) (r : R2) (x y s : Sl) : Prop :=
  ∀ R H u v, Ow own R H → SlR K R x (some u) → SlR K R y (some v) → ∀ Q : VK, (∀ w R' H', Grow R H R' H' → SlR K R' s (some w) → Q w H') → r u v H Q
theorem ev_op {ta tb : TE} {r : R2} {x y s : Sl} (ha : Ev K G own ta x) (hb : Ev K G own tb y) (hr : RD K own r x y s) : Ev K G own (tOp r ta tb) s := fun R H z w hz Q q =>
  ha R H z w hz _ fun u R1 H1 g1 e1 => hb R1 H1 z (w.grow g1) (hold_up g1.rr hz) _ fun v R2 H2 g2 e2 =>
    hr R2 H2 u v ((w.grow g1).grow g2) (slr_up g2.rr e1) e2 Q fun o R3 H3 g3 e3 => q o R3 H3 ((g1.trans g2).trans g3) e3
/-- what gives a value at once, the heap as it is -/
theorem rd_now {r : R2} {x y s : Sl} (h : ∀ R H u v, Ow own R H → SlR K R x (some u) → SlR K R y (some v) → ∀ Q : VK, (∀ w, SlR K R s (some w) → Q w H) → r u v H Q) : RD K own r x y s :=
  fun R H u v w hx hy Q q => h R H u v w hx hy Q fun o e => q o R H (Grow.refl w.rh) e
theorem rd_I0 {g : Int → Int → V} {s : Sl} {i j : Int} (h : ∀ R, SlR K R s (some (g i j))) : RD K own (rI0 g) (.d (.int i)) (.d (.int j)) s := rd_now fun R H u v w hx hy Q q => by
  rw [dp_int (d_slr hx), dp_int (d_slr hy)]
  exact ⟨i, j, rfl, rfl, q _ (h R)⟩
theorem rd_Ii {g : Int → Int → Int} {i j : Int} : RD K own (rI0 fun i j => .int (g i j)) (.d (.int i)) (.d (.int j)) (.d (.int (g i j))) := rd_I0 fun _ => slr_d (.int _)
theorem rd_Ib {g : Int → Int → Bool} {i j : Int} : RD K own (rI0 fun i j => .bl (g i j)) (.d (.int i)) (.d (.int j)) (.d (.bool (g i j))) := rd_I0 fun _ => slr_d (.bl _)
theorem rd_IC {C : Int → Int → Prop} {g : Int → Int → Int} {i j : Int} (hc : C i j) : RD K own (rI C fun i j => .int (g i j)) (.d (.int i)) (.d (.int j)) (.d (.int (g i j))) := rd_now fun R H u v w hx hy Q q => by
  rw [dp_int (d_slr hx), dp_int (d_slr hy)]
  exact ⟨i, j, rfl, rfl, hc, q _ (slr_d (.int _))⟩
theorem rd_eqI {i j : Int} : RD K own rEq (.d (.int i)) (.d (.int j)) (.d (.bool (decide (i = j)))) := rd_now fun R H u v w hx hy Q q => by
  rw [dp_int (d_slr hx), dp_int (d_slr hy)]
  refine ⟨rfl, ?_⟩
  have e : decide (V.int i = V.int j) = decide (i = j) := decide_eq_decide.mpr ⟨fun z => by cases z; rfl, fun z => by rw [z]⟩
  rw [e]
  exact q _ (slr_d (.bl _))
theorem rd_eqS {i j : Str} : RD K own rEq (.d (.str i)) (.d (.str j)) (.d (.bool (decide (i = j)))) := rd_now fun R H u v w hx hy Q q => by
  rw [dp_str (d_slr hx), dp_str (d_slr hy)]
  refine ⟨rfl, ?_⟩
  have e : decide (V.str i = V.str j) = decide (i = j) := decide_eq_decide.mpr ⟨fun z => by cases z; rfl, fun z => by rw [z]⟩
  rw [e]
  exact q _ (slr_d (.bl _))
theorem rd_neS {i j : Str} : RD K own rNe (.d (.str i)) (.d (.str j)) (.d (.bool (!decide (i = j)))) := rd_now fun R H u v w hx hy Q q => by
  rw [dp_str (d_slr hx), dp_str (d_slr hy)]
  refine ⟨rfl, ?_⟩
  have e : decide (V.str i = V.str j) = decide (i = j) := decide_eq_decide.mpr ⟨fun z => by cases z; rfl, fun z => by rw [z]⟩
  rw [e]
  exact q _ (slr_d (.bl _))
theorem rd_neI {i j : Int} : RD K own rNe (.d (.int i)) (.d (.int j)) (.d (.bool (!decide (i = j)))) := rd_now fun R H u v w hx hy Q q => by
  rw [dp_int (d_slr hx), dp_int (d_slr hy)]
  refine ⟨rfl, ?_⟩
  have e : decide (V.int i = V.int j) = decide (i = j) := decide_eq_decide.mpr ⟨fun z => by cases z; rfl, fun z => by rw [z]⟩
  rw [e]
  exact q _ (slr_d (.bl _))
/-- == of data -/
theorem rd_eqD {x y : PyData} (hx : SeqAt.shaped x = true) (hy : SeqAt.shaped y = true) : RD K own (rEqD K) (.d x) (.d y) (.d (.bool (PyData.eqv x y))) := rd_now fun R H u v w ux uy Q q =>
  ⟨x, y, dp_up w.rh _ _ (d_slr ux), dp_up w.rh _ _ (d_slr uy), hx, hy, q _ (slr_d (.bl _))⟩
theorem rd_neD {x y : PyData} (hx : SeqAt.shaped x = true) (hy : SeqAt.shaped y = true) : RD K own (rNeD K) (.d x) (.d y) (.d (.bool (!PyData.eqv x y))) := rd_now fun R H u v w ux uy Q q =>
  ⟨x, y, dp_up w.rh _ _ (d_slr ux), dp_up w.rh _ _ (d_slr uy), hx, hy, q _ (slr_d (.bl _))⟩
/-- t[i] -/
theorem atI_dps {xs : List V} {ds : List PyData} {i : Int} {d : PyData} (h : DpAll K R xs ds) (e : atI ds i = some d) : ∃ v, atI xs i = some v ∧ Dp K R v d := by
  unfold atI at e ⊢
  rw [dps_len h]
  cases q : ixN ds.length i with
  | none =>
    rw [q] at e
    cases e
  | some j =>
    rw [q] at e
    have e' : ds[j]? = some d := e
    obtain ⟨v, h1, h2⟩ := dps_get h e'
    exact ⟨v, h1, h2⟩
theorem rd_ixT {ds : List PyData} {i : Int} {d : PyData} (e : atI ds i = some d) : RD K own (rIxT K) (.d (.tuple ds)) (.d (.int i)) (.d d) := rd_now fun R H u v w ux uy Q q => by
  obtain ⟨a, xs, rfl, h1, h2⟩ := dp_tup (d_slr ux)
  obtain ⟨y, h3, h4⟩ := atI_dps h2 e
  rw [dp_int (d_slr uy)]
  exact ⟨a, xs, i, y, rfl, rfl, sqt_up w.rh h1, h3, q y (slr_d h4)⟩
theorem rd_ixL {ds : List PyData} {i : Int} {d : PyData} (e : atI ds i = some d) : RD K own (rIxL K) (.d (.list ds)) (.d (.int i)) (.d d) := rd_now fun R H u v w ux uy Q q => by
  obtain ⟨a, xs, rfl, h1, h2⟩ := dp_lst (d_slr ux)
  obtain ⟨y, h3, h4⟩ := atI_dps h2 e
  rw [dp_int (d_slr uy)]
  exact ⟨a, xs, i, y, rfl, rfl, sql_up w.rh h1, h3, q y (slr_d h4)⟩
/-- t + u -/
theorem rd_cat {ds es : List PyData} (hz : ds.length + es.length ≤ sizeLine) : RD K own (rCatA K) (.d (.tuple ds)) (.d (.tuple es)) (.d (.tuple (ds ++ es))) := fun R H u v w ux uy Q q => by
  obtain ⟨a, xs, rfl, h1, h2⟩ := dp_tup (d_slr ux)
  obtain ⟨b, ys, rfl, h3, h4⟩ := dp_tup (d_slr uy)
  have g := Grow.refl w.rh
  refine ⟨a, b, xs, ys, rfl, rfl, sqt_up w.rh h1, sqt_up w.rh h3, by rw [dps_len h2, dps_len h4]; exact hz, fun e => ?_, fun _ e => ?_, fun _ _ p hp => ?_⟩
  · subst e
    cases h2
    exact q _ R H g (slr_d (.tup h3 h4))
  · subst e
    cases h4
    rw [List.append_nil] at q
    exact q _ R H g (slr_d (.tup h1 h2))
  · have g1 := Grow.imm (o := .tup (xs ++ ys)) w.rh hp
    exact q _ _ _ g1 (slr_d (.tup (SqT.of upd_same) (dps_app (dps_up g1.rr _ _ h2) (dps_up g1.rr _ _ h4))))
/-- x in t, x not in t (flat things) -/
def flatD : PyData → Bool
  | .none => true
  | .bool _ => true
  | .int _ => true
  | .str _ => true
  | _ => false
def vOf : PyData → V
  | .bool b => .bl b
  | .int i => .int i
  | .str x => .str x
  | _ => .non
theorem dp_flat {v : V} {d : PyData} (h : Dp K R v d) (f : flatD d = true) : v = vOf d := by
  cases h <;> first | rfl | cases f
theorem dps_flat : ∀ {vs : List V} {ds : List PyData}, DpAll K R vs ds → ds.all flatD = true → vs = ds.map vOf
  | _, _, .nil, _ => rfl
  | _, _, .cons h t, f => by
    rw [List.all_cons, Bool.and_eq_true] at f
    rw [dp_flat h f.1, dps_flat t f.2]
    rfl
theorem flat_vOf : ∀ {d : PyData}, flatD d = true → flatV (vOf d) = true
  | .none, _ => rfl
  | .bool _, _ => rfl
  | .int _, _ => rfl
  | .str _, _ => rfl
theorem flats_vOf : ∀ {ds : List PyData}, ds.all flatD = true → (ds.map vOf).all flatV = true
  | [], _ => rfl
  | d :: ds, f => by
    rw [List.all_cons, Bool.and_eq_true] at f
    rw [List.map_cons, List.all_cons, flat_vOf f.1, flats_vOf f.2]
    rfl
theorem rd_in {neg : Bool} {x : PyData} {ds : List PyData} (hx : flatD x = true) (hd : ds.all flatD = true) : RD K own (rIn K neg) (.d x) (.d (.tuple ds)) (.d (.bool (if neg then !inV (vOf x) (ds.map vOf) else inV (vOf x) (ds.map vOf)))) :=
  rd_now fun R H u v w ux uy Q q => by
    obtain ⟨a, xs, rfl, h1, h2⟩ := dp_tup (d_slr uy)
    have e1 := dps_flat h2 hd
    have e2 := dp_flat (d_slr ux) hx
    subst e1 e2
    exact ⟨a, _, rfl, .inr (sqt_up w.rh h1), flat_vOf hx, flats_vOf hd, q _ (slr_d (.bl _))⟩

/-! ### fields of an owned instance -/
def FldR (K : PySem.W.Frag) (R : Hp) : List (Str × Sl) → List (Str × V) → Prop
  | [], [] => True
  | p :: fs, q :: vs => p.1 = q.1 ∧ SlR K R p.2 (some q.2) ∧ FldR K R fs vs
  | _, _ => False
theorem fld_up (e : Same R R') : ∀ {fs : List (Str × Sl)} {vs : List (Str × V)}, FldR K R fs vs → FldR K R' fs vs
  | [], [], _ => trivial
  | _ :: _, _ :: _, ⟨h1, h2, h3⟩ => ⟨h1, slr_up e h2, fld_up e h3⟩
theorem fld_get : ∀ {fs : List (Str × Sl)} {vs : List (Str × V)} {f : Str} {s : Sl}, FldR K R fs vs → fs.lookup f = some s → ∃ v, vs.lookup f = some v ∧ SlR K R s (some v)
  | [], [], _, _, _, e => by cases e
  | p :: fs, q :: vs, f, s, ⟨h1, h2, h3⟩, e => by
    rw [List.lookup_cons] at e ⊢
    rw [← h1]
    cases c : f == p.1 with
    | true =>
      rw [c] at e
      cases e
      exact ⟨_, rfl, h2⟩
    | false =>
      rw [c] at e
      exact fld_get h3 e
theorem fld_none : ∀ {fs : List (Str × Sl)} {vs : List (Str × V)} {f : Str}, FldR K R fs vs → fs.lookup f = none → vs.lookup f = none
  | [], [], _, _, _ => rfl
  | p :: fs, q :: vs, f, ⟨h1, h2, h3⟩, e => by
    rw [List.lookup_cons] at e ⊢
    rw [← h1]
    cases c : f == p.1 with
    | true =>
      rw [c] at e
      cases e
    | false =>
      rw [c] at e
      exact fld_none h3 e
theorem fld_len : ∀ {fs : List (Str × Sl)} {vs : List (Str × V)}, FldR K R fs vs → vs.length = fs.length
  | [], [], _ => rfl
  | _ :: _, _ :: _, ⟨_, _, h3⟩ => by rw [List.length_cons, List.length_cons, fld_len h3]
def putS (f : Str) (s : Sl) : List (Str × Sl) → List (Str × Sl)
  | [] => [(f, s)]
  | p :: fs => if p.1 = f then (p.1, s) :: fs else p :: putS f s fs
theorem fld_put {f : Str} {s : Sl} {v : V} (hs : SlR K R s (some v)) : ∀ {fs : List (Str × Sl)} {vs : List (Str × V)}, FldR K R fs vs → FldR K R (putS f s fs) (putF f v vs)
  | [], [], _ => ⟨rfl, hs, trivial⟩
  | p :: fs, q :: vs, ⟨h1, h2, h3⟩ => by
    unfold putS putF
    by_cases c : p.1 = f
    · rw [if_pos c, if_pos (h1 ▸ c)]
      exact ⟨h1, hs, h3⟩
    · rw [if_neg c, if_neg (h1 ▸ c)]
      exact ⟨h1, h2, fld_put hs h3⟩
/-- an instance of the class at C with these fields -/
def asI (K : PySem.W.Frag) (C : Addr) (fs : List (Str × Sl)) : As :=
  ⟨fun _ R o => ∃ dx vs, o = .ins C dx vs ∧ FldR K R fs vs, fun _ _ _ _ e ⟨dx, vs, h1, h2⟩ => ⟨dx, vs, h1, fld_up e h2⟩⟩
/-- a list that reads so -/
def asL (K : PySem.W.Frag) (ds : List PyData) : As :=
  ⟨fun _ R o => ∃ vs, o = .lst vs ∧ DpAll K R vs ds, fun _ _ _ _ e ⟨vs, h1, h2⟩ => ⟨vs, h1, dps_up e _ _ h2⟩⟩
theorem ev_fld {ta : TE} {p C : Addr} {fs : List (Str × Sl)} {f : Str} {s : Sl} {i : Nat} (ha : Ev K G own ta (.v (.ref p))) (ho : own[i]? = some (p, asI K C fs)) (hc : Cls K C) (hn : NoAttr K C f) (hl : fs.lookup f = some s) : Ev K G own (tFld K ta f) s :=
  fun R H z w hz Q q => ha R H z w hz _ fun v R1 H1 g1 e1 => by
    obtain rfl := v_slr e1
    obtain ⟨_, o, h1, dx, vs, rfl, h2⟩ := (w.grow g1).get ho
    obtain ⟨y, h3, h4⟩ := fld_get h2 hl
    exact ⟨p, C, dx, vs, y, rfl, h1, hc, hn, h3, q y R1 H1 g1 h4⟩

/-! ### tuples, lists, arguments -/
theorem ea_nil : EvA K G own tNil [] := fun R H z w hz Q q => q [] R H (Grow.refl w.rh) trivial
theorem ea_cons {te : TE} {ta : TA} {s : Sl} {ss : List Sl} (h : Ev K G own te s) (ht : EvA K G own ta ss) : EvA K G own (tCons te ta) (s :: ss) := fun R H z w hz Q q =>
  h R H z w hz _ fun v R1 H1 g1 e1 => ht R1 H1 z (w.grow g1) (hold_up g1.rr hz) _ fun vs R2 H2 g2 e2 => q (v :: vs) R2 H2 (g1.trans g2) ⟨slr_up g2.rr e1, e2⟩
theorem ev_tup {ta : TA} {ds : List PyData} (h : EvA K G own ta (ds.map .d)) (hz : ds.length ≤ 1000) : Ev K G own (tTup ta) (.d (.tuple ds)) := fun R H z w hzz Q q =>
  h R H z w hzz _ fun vs R1 H1 g1 e1 => by
    have e2 := args_dps e1
    refine ⟨by rw [dps_len e2]; exact Nat.le_trans hz (by decide), fun p hp => ?_⟩
    have g2 := Grow.imm (o := .tup vs) g1.rh hp
    exact q _ _ _ (g1.trans g2) (slr_d (.tup (SqT.of upd_same) (dps_up g2.rr _ _ e2)))
theorem ev_lst {ta : TA} {ds : List PyData} (h : EvA K G own ta (ds.map .d)) (hz : ds.length ≤ 1000) : Ev K G own (tLst ta) (.d (.list ds)) := fun R H z w hzz Q q =>
  h R H z w hzz _ fun vs R1 H1 g1 e1 => by
    have e2 := args_dps e1
    refine ⟨by rw [dps_len e2]; exact Nat.le_trans hz (by decide), fun p hp => ?_⟩
    have g2 := Grow.imm (o := .lst vs) g1.rh hp
    exact q _ _ _ (g1.trans g2) (slr_d (.lst (SqL.of upd_same) (dps_up g2.rr _ _ e2)))

/-! ### tests -/
theorem et_test {te : TE} {b : Bool} (h : Ev K G own te (.d (.bool b))) : EvT K G own (tTest te) b := fun R H z w hz Q q =>
  h R H z w hz _ fun v R1 H1 g1 e1 => ⟨b, dp_bool (d_slr e1), q R1 H1 g1⟩
theorem et_B {te : TE} {b : Bool} (h : Ev K G own te (.d (.bool b))) : EvT K G own (tB te) b := fun R H z w hz Q q =>
  h R H z w hz _ fun v R1 H1 g1 e1 => ⟨b, dp_bool (d_slr e1), q R1 H1 g1⟩
theorem et_and {t u : TT} {a b : Bool} (h1 : EvT K G own t a) (h2 : a = true → EvT K G own u b) : EvT K G own (tAnd t u) (a && b) := fun R H z w hz Q q =>
  h1 R H z w hz _ fun R1 H1 g1 => by
    cases a with
    | true =>
      rw [if_pos rfl]
      exact h2 rfl R1 H1 z (w.grow g1) (hold_up g1.rr hz) _ fun R2 H2 g2 => q R2 H2 (g1.trans g2)
    | false =>
      rw [if_neg Bool.false_ne_true]
      exact q R1 H1 g1
theorem et_or {t u : TT} {a b : Bool} (h1 : EvT K G own t a) (h2 : a = false → EvT K G own u b) : EvT K G own (tOr t u) (a || b) := fun R H z w hz Q q =>
  h1 R H z w hz _ fun R1 H1 g1 => by
    cases a with
    | true =>
      rw [if_pos rfl]
      exact q R1 H1 g1
    | false =>
      rw [if_neg Bool.false_ne_true]
      exact h2 rfl R1 H1 z (w.grow g1) (hold_up g1.rr hz) _ fun R2 H2 g2 => q R2 H2 (g1.trans g2)
theorem et_not {t : TT} {a : Bool} (h : EvT K G own t a) : EvT K G own (tNot t) (!a) := fun R H z w hz Q q => h R H z w hz _ fun R1 H1 g1 => q R1 H1 g1
theorem et_is {t : TT} {a b : Bool} (h : EvT K G own t a) (e : a = b) : EvT K G own t b := e ▸ h
theorem ev_is {te : TE} {s t : Sl} (h : Ev K G own te s) (e : s = t) : Ev K G own te t := e ▸ h
theorem ev_if {t : TT} {ta tb : TE} {b : Bool} {s : Sl} (h : EvT K G own t b) (h1 : b = true → Ev K G own ta s) (h2 : b = false → Ev K G own tb s) : Ev K G own (tIf t ta tb) s := fun R H z w hz Q q =>
  h R H z w hz _ fun R1 H1 g1 => by
    cases b with
    | true =>
      rw [if_pos rfl]
      exact h1 rfl R1 H1 z (w.grow g1) (hold_up g1.rr hz) _ fun v R2 H2 g2 => q v R2 H2 (g1.trans g2)
    | false =>
      rw [if_neg Bool.false_ne_true]
      exact h2 rfl R1 H1 z (w.grow g1) (hold_up g1.rr hz) _ fun v R2 H2 g2 => q v R2 H2 (g1.trans g2)
theorem ev_andV {ta tb : TE} {a b : Bool} (h1 : Ev K G own ta (.d (.bool a))) (h2 : a = true → Ev K G own tb (.d (.bool b))) : Ev K G own (tAndV ta tb) (.d (.bool (a && b))) := fun R H z w hz Q q =>
  h1 R H z w hz _ fun v R1 H1 g1 e1 => ⟨a, dp_bool (d_slr e1), by
    cases a with
    | true =>
      rw [if_pos rfl]
      exact h2 rfl R1 H1 z (w.grow g1) (hold_up g1.rr hz) _ fun v R2 H2 g2 => q v R2 H2 (g1.trans g2)
    | false =>
      rw [if_neg Bool.false_ne_true]
      exact q _ R1 H1 g1 (slr_d (.bl _))⟩
theorem ev_notV {ta : TE} {a : Bool} (h1 : Ev K G own ta (.d (.bool a))) : Ev K G own (tNotV ta) (.d (.bool (!a))) := fun R H z w hz Q q =>
  h1 R H z w hz _ fun v R1 H1 g1 e1 => ⟨a, dp_bool (d_slr e1), q _ R1 H1 g1 (slr_d (.bl _))⟩

/-! ### slices -/
def EvO (K : PySem.W.Frag) (G : List Sl) (own : OL) (to : TO) (o : Option Int) : Prop :=
  ∀ R H z, Ow own R H → Hold K R G z → ∀ Q : Option Int → Hp → Prop, (∀ R' H', Grow R H R' H' → Q o H') → to z H Q
theorem eo_none : EvO K G own tNoPart none := fun R H z w hz Q q => q R H (Grow.refl w.rh)
theorem eo_some {te : TE} {i : Int} (h : Ev K G own te (.d (.int i))) : EvO K G own (tPart te) (some i) := fun R H z w hz Q q =>
  h R H z w hz _ fun v R1 H1 g1 e1 => ⟨i, dp_int (d_slr e1), q R1 H1 g1⟩
/-- the slice of a list of anything -/
def cutA {α : Type} (xs : List α) (lo hi : Option Int) : List α := (xs.drop (HT.sIx xs.length 0 lo)).take (HT.sIx xs.length xs.length hi - HT.sIx xs.length 0 lo)
theorem dps_cut {vs : List V} {ds : List PyData} {lo hi : Option Int} (h : DpAll K R vs ds) : DpAll K R (cutV vs lo hi) (cutA ds lo hi) := by
  unfold cutV cutA
  rw [dps_len h]
  exact dps_take _ (dps_drop _ h)
theorem cut_whole {α : Type} {xs : List α} {lo hi : Option Int} (h : HT.sIx xs.length 0 lo = 0 ∧ HT.sIx xs.length xs.length hi = xs.length) : cutA xs lo hi = xs := by
  unfold cutA
  rw [h.1, h.2, Nat.sub_zero, List.drop_zero, List.take_length]
theorem ev_slT {te : TE} {tl th : TO} {ds : List PyData} {lo hi : Option Int} (h : Ev K G own te (.d (.tuple ds))) (h1 : EvO K G own tl lo) (h2 : EvO K G own th hi) : Ev K G own (tSl (rSlA K) te tl th) (.d (.tuple (cutA ds lo hi))) := fun R H z w hz Q q =>
  h R H z w hz _ fun v R1 H1 g1 e1 => h1 R1 H1 z (w.grow g1) (hold_up g1.rr hz) _ fun R2 H2 g2 => h2 R2 H2 z ((w.grow g1).grow g2) (hold_up g2.rr (hold_up g1.rr hz)) _ fun R3 H3 g3 => by
    obtain ⟨a, xs, rfl, q1, q2⟩ := dp_tup (d_slr (slr_up g3.rr (slr_up g2.rr e1)))
    refine ⟨a, xs, rfl, sqt_up g3.rh q1, fun e => ?_, fun _ p hp => ?_⟩
    · rw [dps_len q2] at e
      rw [cut_whole e] at q
      exact q _ R3 H3 ((g1.trans g2).trans g3) (slr_d (.tup q1 q2))
    · have g4 := Grow.imm (o := .tup (cutV xs lo hi)) g3.rh hp
      exact q _ _ _ (((g1.trans g2).trans g3).trans g4) (slr_d (.tup (SqT.of upd_same) (dps_up g4.rr _ _ (dps_cut q2))))
theorem ev_slL {te : TE} {tl th : TO} {ds : List PyData} {lo hi : Option Int} (h : Ev K G own te (.d (.list ds))) (h1 : EvO K G own tl lo) (h2 : EvO K G own th hi) : Ev K G own (tSl (rSlL K) te tl th) (.d (.list (cutA ds lo hi))) := fun R H z w hz Q q =>
  h R H z w hz _ fun v R1 H1 g1 e1 => h1 R1 H1 z (w.grow g1) (hold_up g1.rr hz) _ fun R2 H2 g2 => h2 R2 H2 z ((w.grow g1).grow g2) (hold_up g2.rr (hold_up g1.rr hz)) _ fun R3 H3 g3 => by
    obtain ⟨a, xs, rfl, q1, q2⟩ := dp_lst (d_slr (slr_up g3.rr (slr_up g2.rr e1)))
    refine ⟨a, xs, rfl, sql_up g3.rh q1, fun p hp => ?_⟩
    have g4 := Grow.imm (o := .lst (cutV xs lo hi)) g3.rh hp
    exact q _ _ _ (((g1.trans g2).trans g3).trans g4) (slr_d (.lst (SqL.of upd_same) (dps_up g4.rr _ _ (dps_cut q2))))

/-! ### calls -/
/-- a call of a built-in by values -/
def RC (K : PySem.W.Frag) (own : OL) (r : List V → Hp → VK → Prop) (ss : List Sl) (s : Sl) : Prop :=
  ∀ R H vs, Ow own R H → Args K R ss vs → ∀ Q : VK, (∀ w R' H', Grow R H R' H' → SlR K R' s (some w) → Q w H') → r vs H Q
theorem ev_cb {r : List V → Hp → VK → Prop} {ta : TA} {ss : List Sl} {s : Sl} (h : EvA K G own ta ss) (hr : RC K own r ss s) : Ev K G own (tCB r ta) s := fun R H z w hz Q q =>
  h R H z w hz _ fun vs R1 H1 g1 e1 => hr R1 H1 vs (w.grow g1) e1 Q fun o R2 H2 g2 e2 => q o R2 H2 (g1.trans g2) e2
/-- a def's promise, by what its arguments are worth, where nothing turns -/
def SpE (K : PySem.W.Frag) (own : OL) (sp : Sp) (ss : List Sl) (s : Sl) : Prop :=
  ∀ R H vs, Ow own R H → Args K R ss vs → ∀ (Q : VK) (E : XK), (∀ w R' H', Grow R H R' H' → SlR K R' s (some w) → Q w H') → sp vs H Q E
theorem ev_call {sp : Sp} {E : XK} {ta : TA} {ss : List Sl} {s : Sl} (h : EvA K G own ta ss) (hs : SpE K own sp ss s) : Ev K G own (tCall sp [] E ta) s := fun R H z w hz Q q =>
  h R H z w hz _ fun vs R1 H1 g1 e1 => by
    rw [List.append_nil]
    exact hs R1 H1 vs (w.grow g1) e1 Q E fun o R2 H2 g2 e2 => q o R2 H2 (g1.trans g2) e2
theorem ev_meth {C p : Addr} {m : Str} {fs : List (Str × Sl)} {i : Nat} {sp : Sp} {E : XK} {to : TE} {ta : TA} {ss : List Sl} {s : Sl} (ho : Ev K G own to (.v (.ref p))) (hi : own[i]? = some (p, asI K C fs)) (hl : fs.lookup m = none) (h : EvA K G own ta ss)
    (hs : SpE K own sp (.v (.ref p) :: ss) s) : Ev K G own (tMeth C m sp [] E to ta) s := fun R H z w hz Q q =>
  ho R H z w hz _ fun v R1 H1 g1 e1 => by
    obtain rfl := v_slr e1
    obtain ⟨_, o, h1, dx, vs, rfl, h2⟩ := (w.grow g1).get hi
    refine ⟨p, dx, vs, rfl, h1, fld_none h2 hl, h R1 H1 z (w.grow g1) (hold_up g1.rr hz) _ fun us R2 H2 g2 e2 => ?_⟩
    rw [List.append_nil]
    exact hs R2 H2 (.ref p :: us) ((w.grow g1).grow g2) ⟨rfl, e2⟩ Q E fun o R3 H3 g3 e3 => q o R3 H3 ((g1.trans g2).trans g3) e3
/-- len of a tuple, a list -/
theorem rc_lenT {ds : List PyData} : RC K own (fun xs H Q => ∃ p ys, xs = [.ref p] ∧ (SqL K H p ys ∨ SqT K H p ys) ∧ Q (.int (ys.length : Int)) H) [.d (.tuple ds)] (.d (.int ds.length)) := fun R H vs w h Q q => by
  match vs, h with
  | [v], ⟨h1, _⟩ =>
    obtain ⟨a, xs, rfl, h2, h3⟩ := dp_tup (d_slr h1)
    refine ⟨a, xs, rfl, .inr (sqt_up w.rh h2), q _ R H (Grow.refl w.rh) ?_⟩
    rw [dps_len h3]
    exact slr_d (.int _)
theorem rc_lenL {ds : List PyData} : RC K own (fun xs H Q => ∃ p ys, xs = [.ref p] ∧ (SqL K H p ys ∨ SqT K H p ys) ∧ Q (.int (ys.length : Int)) H) [.d (.list ds)] (.d (.int ds.length)) := fun R H vs w h Q q => by
  match vs, h with
  | [v], ⟨h1, _⟩ =>
    obtain ⟨a, xs, rfl, h2, h3⟩ := dp_lst (d_slr h1)
    refine ⟨a, xs, rfl, .inl (sql_up w.rh h2), q _ R H (Grow.refl w.rh) ?_⟩
    rw [dps_len h3]
    exact slr_d (.int _)
/-- len of an owned list -/
theorem rc_lenO {ds : List PyData} {p : Addr} {i : Nat} (ho : own[i]? = some (p, asL K ds)) : RC K own (fun xs H Q => ∃ p ys, xs = [.ref p] ∧ (SqL K H p ys ∨ SqT K H p ys) ∧ Q (.int (ys.length : Int)) H) [.v (.ref p)] (.d (.int ds.length)) := fun R H vs w h Q q => by
  match vs, h with
  | [v], ⟨h1, _⟩ =>
    obtain rfl := v_slr h1
    obtain ⟨_, o, h2, xs, rfl, h3⟩ := w.get ho
    refine ⟨p, xs, rfl, .inl (SqL.of h2), q _ R H (Grow.refl w.rh) ?_⟩
    rw [dps_len h3]
    exact slr_d (.int _)
/-- tuple(..), list(..) -/
abbrev rTupOf (K : PySem.W.Frag) : List V → Hp → VK → Prop := fun xs H Q => ∃ p ys, xs = [.ref p] ∧ ((SqL K H p ys ∧ ∀ l, H l = none → Q (.ref l) (upd H l (.tup ys))) ∨ (SqT K H p ys ∧ Q (.ref p) H))
abbrev rLstOf (K : PySem.W.Frag) : List V → Hp → VK → Prop := fun xs H Q => ∃ p ys, xs = [.ref p] ∧ (SqL K H p ys ∨ SqT K H p ys) ∧ ∀ l, H l = none → Q (.ref l) (upd H l (.lst ys))
theorem rc_tupL {ds : List PyData} : RC K own (rTupOf K) [.d (.list ds)] (.d (.tuple ds)) := fun R H vs w h Q q => by
  match vs, h with
  | [v], ⟨h1, _⟩ =>
    obtain ⟨a, xs, rfl, h2, h3⟩ := dp_lst (d_slr h1)
    refine ⟨a, xs, rfl, .inl ⟨sql_up w.rh h2, fun l hl => ?_⟩⟩
    have g := Grow.imm (o := .tup xs) w.rh hl
    exact q _ _ _ g (slr_d (.tup (SqT.of upd_same) (dps_up g.rr _ _ h3)))
theorem rc_lstL {ds : List PyData} : RC K own (rLstOf K) [.d (.list ds)] (.d (.list ds)) := fun R H vs w h Q q => by
  match vs, h with
  | [v], ⟨h1, _⟩ =>
    obtain ⟨a, xs, rfl, h2, h3⟩ := dp_lst (d_slr h1)
    refine ⟨a, xs, rfl, .inl (sql_up w.rh h2), fun l hl => ?_⟩
    have g := Grow.imm (o := .lst xs) w.rh hl
    exact q _ _ _ g (slr_d (.lst (SqL.of upd_same) (dps_up g.rr _ _ h3)))
theorem rc_lstO {ds : List PyData} {p : Addr} {i : Nat} (ho : own[i]? = some (p, asL K ds)) : RC K own (rLstOf K) [.v (.ref p)] (.d (.list ds)) := fun R H vs w h Q q => by
  match vs, h with
  | [v], ⟨h1, _⟩ =>
    obtain rfl := v_slr h1
    obtain ⟨_, o, h2, xs, rfl, h3⟩ := w.get ho
    refine ⟨p, xs, rfl, .inl (SqL.of h2), fun l hl => ?_⟩
    have g := Grow.imm (o := .lst xs) w.rh hl
    exact q _ _ _ g (slr_d (.lst (SqL.of upd_same) (dps_up g.rr _ _ h3)))
/-- all, any, sum of a list -/
theorem dps_bools : ∀ {vs : List V} {bs : List Bool}, DpAll K R vs (bs.map .bool) → vs = bs.map V.bl
  | _, [], h => by cases h; rfl
  | _, b :: bs, h => by
    cases h with
    | cons h1 h2 => rw [dp_bool h1, dps_bools h2]; rfl
theorem rc_all {bs : List Bool} : RC K own (rAll K) [.d (.list (bs.map .bool))] (.d (.bool (bs.all id))) := fun R H vs w h Q q => by
  match vs, h with
  | [v], ⟨h1, _⟩ =>
    obtain ⟨a, xs, rfl, h2, h3⟩ := dp_lst (d_slr h1)
    obtain rfl := dps_bools h3
    exact ⟨a, bs, rfl, sql_up w.rh h2, q _ R H (Grow.refl w.rh) (slr_d (.bl _))⟩
theorem rc_any {bs : List Bool} : RC K own (rAny K) [.d (.list (bs.map .bool))] (.d (.bool (bs.any id))) := fun R H vs w h Q q => by
  match vs, h with
  | [v], ⟨h1, _⟩ =>
    obtain ⟨a, xs, rfl, h2, h3⟩ := dp_lst (d_slr h1)
    obtain rfl := dps_bools h3
    exact ⟨a, bs, rfl, sql_up w.rh h2, q _ R H (Grow.refl w.rh) (slr_d (.bl _))⟩
theorem rc_sum {ns : List Int} : RC K own (rSum K) [.d (.list (ns.map .int))] (.d (.int ns.sum)) := fun R H vs w h Q q => by
  match vs, h with
  | [v], ⟨h1, _⟩ =>
    obtain ⟨a, xs, rfl, h2, h3⟩ := dp_lst (d_slr h1)
    obtain rfl := dps_ints h3
    exact ⟨a, ns, rfl, sql_up w.rh h2, q _ R H (Grow.refl w.rh) (slr_d (.int _))⟩

/-! ### targets by data -/
/-- the target g, given x, leaves the slots so -/
def GD (K : PySem.W.Frag) (g : TG) (x : Sl) (f : List Sl → List Sl) : Prop :=
  ∀ R H (z : L2.St) v G, Same R H → SlR K R x (some v) → Hold K R G z → ∀ Q : L2.St → Hp → Prop, (∀ z', Hold K R (f G) z' → Q z' H) → g v z H Q
theorem gd_name {i : Nat} {x : Sl} : GD K (gName i) x fun G => G.set i x := fun R H z v G h hx hz Q q => q _ (hold_set hx i hz)
def GDs (K : PySem.W.Frag) (g : TGs) (xs : List PyData) (f : List Sl → List Sl) : Prop :=
  ∀ R H (z : L2.St) vs G, Same R H → DpAll K R vs xs → Hold K R G z → ∀ Q : L2.St → Hp → Prop, (∀ z', Hold K R (f G) z' → Q z' H) → g vs z H Q
theorem gds_nil : GDs K gNil [] id := fun R H z vs G h hx hz Q q => by
  cases hx
  exact ⟨rfl, q z hz⟩
theorem gds_cons {g : TG} {gs : TGs} {x : PyData} {xs : List PyData} {f f' : List Sl → List Sl} (h1 : GD K g (.d x) f) (h2 : GDs K gs xs f') : GDs K (gCons g gs) (x :: xs) fun G => f' (f G) := fun R H z vs G h hx hz Q q => by
  cases hx with
  | cons a b => exact ⟨_, _, rfl, h1 R H z _ G h (slr_d a) hz _ fun z' hz' => h2 R H z' _ _ h b hz' Q q⟩
theorem gd_tup {n : Nat} {gs : TGs} {xs : List PyData} {f : List Sl → List Sl} (h : GDs K gs xs f) (hn : xs.length = n) : GD K (gTup K n gs) (.d (.tuple xs)) f := fun R H z v G hs hx hz Q q => by
  obtain ⟨a, vs, rfl, h2, h3⟩ := dp_tup (d_slr hx)
  exact ⟨a, vs, rfl, sqt_up hs h2, (dps_len h3).trans hn, h R H z vs G hs h3 hz Q q⟩
theorem gd_unl {n : Nat} {gs : TGs} {xs : List PyData} {f : List Sl → List Sl} (h : GDs K gs xs f) (hn : xs.length = n) : GD K (gUnl K n gs) (.d (.list xs)) f := fun R H z v G hs hx hz Q q => by
  obtain ⟨a, vs, rfl, h2, h3⟩ := dp_lst (d_slr hx)
  exact ⟨a, vs, rfl, sql_up hs h2, (dps_len h3).trans hn, h R H z vs G hs h3 hz Q q⟩

/-! ### comprehensions -/
theorem hold_wipe {z : L2.St} : ∀ (vs : List Nat), Hold K R G z → Hold K R (wipeG G vs) (wipe z vs)
  | [], h => h
  | i :: vs, h => by
    have h1 := hold_wipe vs h
    show Hold K R ((wipeG G vs).set i .u) ((wipe z vs).set i none)
    revert h1
    generalize wipeG G vs = G1
    generalize wipe z vs = z1
    intro h1
    induction G1 generalizing z1 i with
    | nil =>
      cases z1 with
      | nil => exact trivial
      | cons _ _ => exact h1.elim
    | cons s G1 ih =>
      cases z1 with
      | nil => exact h1.elim
      | cons o z1 =>
        cases i with
        | zero => exact ⟨trivial, h1.2⟩
        | succ i => exact ⟨h1.1, ih i z1 h1.2⟩
/-- a target that sets slots within vs alone -/
def GW (g : TG) (vs : List Nat) : Prop := ∀ v z H (Q : L2.St → Hp → Prop), g v (wipe z vs) H Q → g v (wipe z vs) H fun z' H' => wipe z' vs = wipe z vs ∧ Q z' H'
theorem wipe_set_mem {o : Option V} : ∀ {vs : List Nat} {i : Nat} {z : L2.St}, i ∈ vs → wipe (z.set i o) vs = wipe z vs
  | [], _, _, h => nomatch h
  | j :: vs, i, z, h => by
    show (wipe (z.set i o) vs).set j none = (wipe z vs).set j none
    by_cases hm : i ∈ vs
    · rw [wipe_set_mem hm]
    · have e : i = j := (List.mem_cons.mp h).resolve_right hm
      subst e
      have key : ∀ (l : List Nat) (z : L2.St), i ∉ l → wipe (z.set i o) l = (wipe z l).set i o := by
        intro l
        induction l with
        | nil => intro z _; rfl
        | cons k l ih =>
          intro z hk
          show (wipe (z.set i o) l).set k none = ((wipe z l).set k none).set i o
          rw [ih z fun q => hk (List.mem_cons_of_mem _ q), List.set_comm _ _ fun q => hk (List.mem_cons.mpr (.inl (by first | exact q | exact q.symm)))]
      rw [key vs z hm, List.set_set]
theorem wipe_wipe {vs : List Nat} {z : L2.St} : wipe (wipe z vs) vs = wipe z vs := by
  have key : ∀ (l : List Nat), (∀ i ∈ l, i ∈ vs) → wipe (wipe z l) vs = wipe z vs := by
    intro l
    induction l with
    | nil => intro _; rfl
    | cons k l ih =>
      intro h
      show wipe ((wipe z l).set k none) vs = _
      rw [wipe_set_mem (h k List.mem_cons_self), ih fun i hi => h i (List.mem_cons_of_mem _ hi)]
  exact key vs fun _ h => h
theorem gw_name {i : Nat} {vs : List Nat} (h : i ∈ vs) : GW (gName i) vs := fun v z H Q q => ⟨by rw [wipe_set_mem h, wipe_wipe], q⟩
theorem gw_tup2 {n i j : Nat} {vs : List Nat} (hi : i ∈ vs) (hj : j ∈ vs) : GW (gTup K n (gCons (gName i) (gCons (gName j) gNil))) vs := fun v z H Q q => by
  obtain ⟨a, xs, e1, e2, e3, b, r, e4, c, r', e5, e6, q⟩ := q
  exact ⟨a, xs, e1, e2, e3, b, r, e4, c, r', e5, e6, by rw [wipe_set_mem hj, wipe_set_mem hi, wipe_wipe], q⟩
theorem gw_tup3 {n i j k : Nat} {vs : List Nat} (hi : i ∈ vs) (hj : j ∈ vs) (hk : k ∈ vs) : GW (gTup K n (gCons (gName i) (gCons (gName j) (gCons (gName k) gNil)))) vs := fun v z H Q q => by
  obtain ⟨a, xs, e1, e2, e3, b, r, e4, c, r', e5, d, r'', e6, e7, q⟩ := q
  exact ⟨a, xs, e1, e2, e3, b, r, e4, c, r', e5, d, r'', e6, e7, by rw [wipe_set_mem hk, wipe_set_mem hj, wipe_set_mem hi, wipe_wipe], q⟩
/-- what the turns give -/
def outs {α : Type} (t : α → Option PyData) (l : List α) : List PyData := l.filterMap t
/-- a turn of a comprehension: x comes; the test, the element -/
def LcTurn (K : PySem.W.Frag) (G : List Sl) (own : OL) (g : TG) (tt : TT) (te : TE) (vs : List Nat) (x : PyData) (o : Option PyData) : Prop :=
  ∃ f b, GD K g (.d x) f ∧ GW g vs ∧ EvT K (f (wipeG G vs)) own tt b ∧ (b = true → ∃ d, o = some d ∧ Ev K (f (wipeG G vs)) own te (.d d)) ∧ (b = false → o = none)
theorem lc_step {g : TG} {tt : TT} {te : TE} {vs : List Nat} {x : PyData} {o : Option PyData} {z : L2.St} {H' : Hp} {D : Addr} {acc : List V} {acd : List PyData} {v : V} {Nx : Hp → Prop}
    (T : LcTurn K G own g tt te vs x o) (w : Ow own R H') (hz : Hold K R G z) (hv : Dp K R v x) (hD : H' D = some (.lst acc)) (hR : R D = none) (ha : DpAll K R acc acd) (hl : acc.length < sizeLine)
    (q : ∀ R2 H2 acc2, Grow R H' R2 H2 → R2 D = none → DpAll K R2 acc2 (acd ++ o.toList) → Nx (upd H2 D (.lst acc2))) (q0 : o = none → ∀ R2 H2, Grow R H' R2 H2 → Nx H2) :
    g v (wipe z vs) H' fun z2 H2 => wipe z2 vs = wipe z vs ∧ tt z2 H2 fun b H3 => if b = true then te z2 H3 fun y H4 => ∃ acc, H4 D = some (.lst acc) ∧ acc.length < sizeLine ∧ Nx (upd H4 D (.lst (acc ++ [y]))) else Nx H3 := by
  obtain ⟨f, b, h1, h2, h3, h4, h5⟩ := T
  refine h2 v z H' _ ?_
  refine h1 R H' _ v _ w.rh (slr_d hv) (hold_wipe vs hz) _ fun z' hz' => ?_
  refine h3 R H' z' w hz' _ fun R1 H1 g1 => ?_
  cases b with
  | false =>
    rw [if_neg Bool.false_ne_true]
    exact q0 (h5 rfl) R1 H1 g1
  | true =>
    rw [if_pos rfl]
    obtain ⟨d, rfl, h6⟩ := h4 rfl
    refine h6 R1 H1 z' (w.grow g1) (hold_up g1.rr hz') _ fun y R2 H2 g2 e2 => ?_
    have g3 := g1.trans g2
    exact ⟨acc, g3.hh _ _ hD, hl, q R2 H2 _ g3 ((g3.old _ _ hD).trans hR) (dps_app (dps_up g3.rr _ _ ha) (dps_one (d_slr e2)))⟩
theorem outs_snoc {α : Type} {t : α → Option PyData} {l : List α} {i : Nat} {x : α} (h : l[i]? = some x) : outs t (l.take (i + 1)) = outs t (l.take i) ++ (t x).toList := by
  unfold outs
  rw [List.take_add_one, h, List.filterMap_append]
  cases e : t x with
  | none => simp [e]
  | some y => simp [e]
/-- the state of a comprehension at a turn -/
def LcAt (K : PySem.W.Frag) (R1 H1 : Hp) (D : Addr) (ds : List PyData) (H' : Hp) : Prop :=
  ∃ R' vs, Grow R1 H1 R' H' ∧ R' D = none ∧ H' D = some (.lst vs) ∧ DpAll K R' vs ds
theorem lcAt_start {R1 H1 : Hp} {D : Addr} (h : Same R1 H1) (hD : H1 D = none) : LcAt K R1 H1 D [] (upd H1 D (.lst [])) := ⟨R1, [], Grow.mut h hD, h.free hD, upd_same, .nil⟩
theorem lcAt_end {R1 H1 : Hp} {D : Addr} {ds : List PyData} {H' : Hp} (hD : H1 D = none) (h : LcAt K R1 H1 D ds H') : ∃ R', Grow R1 H1 R' H' ∧ Dp K R' (.ref D) (.list ds) := by
  obtain ⟨R', vs, g, h1, h2, h3⟩ := h
  have g2 := g.freeze hD h1 h2
  exact ⟨_, g2, .lst (SqL.of upd_same) (dps_up (same_new h1) _ _ h3)⟩
theorem lcAt_put {R1 H1 R' R2 : Hp} {D : Addr} {ds : List PyData} {H' H2 : Hp} {acc : List V} (hD : H1 D = none) (g : Grow R1 H1 R' H') (g2 : Grow R' H' R2 H2) (h1 : R2 D = none) (ha : DpAll K R2 acc ds) : LcAt K R1 H1 D ds (upd H2 D (.lst acc)) := by
  have g3 := g.trans g2
  refine ⟨R2, acc, ⟨g3.rr, fun a u e => ?_, fun a u e => ?_, g3.old⟩, h1, upd_same, ha⟩
  · rw [upd_ne (ne_of_none e hD)]
    exact g3.hh a u e
  · have hne : a ≠ D := fun q => by
      rw [q, h1] at e
      cases e
    rw [upd_ne hne]
    exact g3.rh a u e
theorem lc_loop {g : TG} {tt : TT} {te : TE} {vs : List Nat} {R1 H1 : Hp} {z : L2.St} {D : Addr} {ds : List PyData} {t : PyData → Option PyData} {i : Nat} {x : PyData} {v : V} {H' : Hp} (hlen : ds.length < sizeLine) (w : Ow own R1 H1) (hz : Hold K R1 G z) (hD : H1 D = none)
    (hx : ds[i]? = some x) (T : LcTurn K G own g tt te vs x (t x)) (hv : Dp K R1 v x) (p : LcAt K R1 H1 D (outs t (ds.take i)) H') :
    g v (wipe z vs) H' fun z2 H2 => wipe z2 vs = wipe z vs ∧ tt z2 H2 fun b H3 => if b = true then te z2 H3 fun y H4 => ∃ acc, H4 D = some (.lst acc) ∧ acc.length < sizeLine ∧ LcAt K R1 H1 D (outs t (ds.take (i + 1))) (upd H4 D (.lst (acc ++ [y]))) else LcAt K R1 H1 D (outs t (ds.take (i + 1))) H3 := by
  obtain ⟨R', vs', g1, h1, h2, h3⟩ := p
  have hl : vs'.length < sizeLine := by
    rw [dps_len h3]
    refine Nat.lt_of_le_of_lt (Nat.le_trans (List.length_filterMap_le _ _) ?_) hlen
    rw [List.length_take]
    exact Nat.min_le_right _ _
  refine lc_step T (w.grow g1) (hold_up g1.rr hz) (dp_up g1.rr _ _ hv) h2 h1 h3 hl (fun R2 H2 acc2 g2 q1 q2 => ?_) fun e R2 H2 g2 => ?_
  · rw [outs_snoc hx]
    exact lcAt_put hD g1 g2 q1 q2
  · rw [outs_snoc hx, e]
    simp only [Option.toList_none, List.append_nil]
    exact ⟨R2, vs', g1.trans g2, (g2.old _ _ h2).trans h1, g2.hh _ _ h2, dps_up g2.rr _ _ h3⟩
/-- over a tuple, a list, a range -/
theorem ev_lcT {tl : TE} {g : TG} {tt : TT} {te : TE} {vs : List Nat} {ds : List PyData} (t : PyData → Option PyData) (h : Ev K G own tl (.d (.tuple ds))) (hz : ds.length ≤ 100000) (T : ∀ x ∈ ds, LcTurn K G own g tt te vs x (t x)) :
    Ev K G own (tLc (iTup K tl) g tt te vs) (.d (.list (outs t ds))) := fun R H z w hzz Q q =>
  h R H z w hzz _ fun v R1 H1 g1 e1 => by
    obtain ⟨a, xs, rfl, h2, h3⟩ := dp_tup (d_slr e1)
    refine ⟨a, rfl, ⟨xs, sqt_up g1.rh h2⟩, fun D hD => ?_⟩
    refine lc_tup (xs := xs) (fun i H' => LcAt K R1 H1 D (outs t (ds.take i)) H') (lcAt_start g1.rh hD) (fun i H' _ ⟨R', _, g2, _⟩ => sqt_up (g1.rh.trans g2.hh) h2) (fun i x H' hx p => ?_) fun H' p => ?_
    · obtain ⟨d, hd, hv⟩ := dps_val h3 hx
      exact lc_loop (Nat.lt_of_le_of_lt hz (by decide)) (w.grow g1) (hold_up g1.rr hzz) hD hd (T d (List.mem_of_getElem? hd)) hv p
    · rw [dps_len h3, List.take_length] at p
      obtain ⟨R', g2, e2⟩ := lcAt_end hD p
      exact q _ R' H' (g1.trans g2) (slr_d e2)
theorem ev_lcL {tl : TE} {g : TG} {tt : TT} {te : TE} {vs : List Nat} {ds : List PyData} (t : PyData → Option PyData) (h : Ev K G own tl (.d (.list ds))) (hz : ds.length ≤ 100000) (T : ∀ x ∈ ds, LcTurn K G own g tt te vs x (t x)) :
    Ev K G own (tLc (iList K tl) g tt te vs) (.d (.list (outs t ds))) := fun R H z w hzz Q q =>
  h R H z w hzz _ fun v R1 H1 g1 e1 => by
    obtain ⟨a, xs, rfl, h2, h3⟩ := dp_lst (d_slr e1)
    refine ⟨a, rfl, ⟨xs, sql_up g1.rh h2⟩, fun D hD => ?_⟩
    refine lc_list (xs := xs) (fun i H' => LcAt K R1 H1 D (outs t (ds.take i)) H') (lcAt_start g1.rh hD) (fun i H' _ ⟨R', _, g2, _⟩ => sql_up (g1.rh.trans g2.hh) h2) (fun i x H' hx p => ?_) fun H' p => ?_
    · obtain ⟨d, hd, hv⟩ := dps_val h3 hx
      exact lc_loop (Nat.lt_of_le_of_lt hz (by decide)) (w.grow g1) (hold_up g1.rr hzz) hD hd (T d (List.mem_of_getElem? hd)) hv p
    · rw [dps_len h3, List.take_length] at p
      obtain ⟨R', g2, e2⟩ := lcAt_end hD p
      exact q _ R' H' (g1.trans g2) (slr_d e2)
/-- over an owned list -/
theorem ev_lcO {tl : TE} {g : TG} {tt : TT} {te : TE} {vs : List Nat} {ds : List PyData} {p : Addr} {j : Nat} (t : PyData → Option PyData) (h : Ev K G own tl (.v (.ref p))) (ho : own[j]? = some (p, asL K ds)) (hz : ds.length ≤ 100000) (T : ∀ x ∈ ds, LcTurn K G own g tt te vs x (t x)) :
    Ev K G own (tLc (iList K tl) g tt te vs) (.d (.list (outs t ds))) := fun R H z w hzz Q q =>
  h R H z w hzz _ fun v R1 H1 g1 e1 => by
    obtain rfl := v_slr e1
    obtain ⟨_, o, h2, xs, rfl, h3⟩ := (w.grow g1).get ho
    refine ⟨p, rfl, ⟨xs, SqL.of h2⟩, fun D hD => ?_⟩
    refine lc_list (xs := xs) (fun i H' => LcAt K R1 H1 D (outs t (ds.take i)) H') (lcAt_start g1.rh hD) (fun i H' _ ⟨R', _, g2, _⟩ => SqL.of (g2.hh _ _ h2)) (fun i x H' hx p => ?_) fun H' p => ?_
    · obtain ⟨d, hd, hv⟩ := dps_val h3 hx
      exact lc_loop (Nat.lt_of_le_of_lt hz (by decide)) (w.grow g1) (hold_up g1.rr hzz) hD hd (T d (List.mem_of_getElem? hd)) hv p
    · rw [dps_len h3, List.take_length] at p
      obtain ⟨R', g2, e2⟩ := lcAt_end hD p
      exact q _ R' H' (g1.trans g2) (slr_d e2)
end
end CB

/-! Part 4: dicts whose keys are tuples within tuples. -/
namespace CB
open PySem PySem.Spec PyProof.Rows L2
abbrev NK := NestedKey

/-! ### tables -/
section
variable {κ β γ : Type} [DecidableEq κ]
def aGet (l : List (κ × β)) (k : κ) : Option β := (l.find? fun p => decide (p.1 = k)).map (·.2)
def aPut (l : List (κ × β)) (k : κ) (v : β) : List (κ × β) :=
  if (l.any fun p => decide (p.1 = k)) = true then l.map (fun p => if p.1 = k then (p.1, v) else p) else l ++ [(k, v)]
def aDrop (l : List (κ × β)) (k : κ) : List (κ × β) := l.filter fun p => decide (p.1 ≠ k)
theorem aGet_nil {k : κ} : aGet ([] : List (κ × β)) k = none := rfl
theorem aGet_pos {p : κ × β} {l : List (κ × β)} {k : κ} (e : p.1 = k) : aGet (p :: l) k = some p.2 := by simp [aGet, List.find?_cons, e]
theorem aGet_neg {p : κ × β} {l : List (κ × β)} {k : κ} (e : ¬ p.1 = k) : aGet (p :: l) k = aGet l k := by simp [aGet, List.find?_cons, e]
theorem aGet_any (k : κ) : ∀ l : List (κ × β), (l.any fun p => decide (p.1 = k)) = (aGet l k).isSome
  | [] => rfl
  | p :: l => by
    rw [List.any_cons]
    by_cases e : p.1 = k
    · rw [aGet_pos e, decide_eq_true e]; rfl
    · rw [aGet_neg e, decide_eq_false e, Bool.false_or]; exact aGet_any k l
theorem aGet_mem {k : κ} : ∀ {l : List (κ × β)}, k ∈ l.map (·.1) ↔ (aGet l k).isSome = true
  | [] => by simp [aGet]
  | p :: l => by
    by_cases e : p.1 = k
    · rw [aGet_pos e]; simp [e]
    · rw [aGet_neg e, List.map_cons, List.mem_cons, ← aGet_mem (l := l)]
      constructor
      · rintro (z | z)
        · exact absurd z.symm e
        · exact z
      · exact .inr
theorem aGet_some_mem {k : κ} {v : β} : ∀ {l : List (κ × β)}, aGet l k = some v → (k, v) ∈ l
  | [], h => by cases h
  | p :: l, h => by
    by_cases e : p.1 = k
    · rw [aGet_pos e] at h
      cases h
      rw [← e]
      exact List.mem_cons_self
    · rw [aGet_neg e] at h
      exact List.mem_cons_of_mem _ (aGet_some_mem h)
theorem aGet_of_mem {k : κ} {v : β} : ∀ {l : List (κ × β)}, (l.map (·.1)).Nodup → (k, v) ∈ l → aGet l k = some v
  | p :: l, nd, h => by
    rw [List.map_cons] at nd
    obtain ⟨n1, n2⟩ := List.nodup_cons.mp nd
    rcases List.mem_cons.mp h with e | h
    · subst e
      exact aGet_pos rfl
    · have hne : ¬ p.1 = k := fun z => n1 (z ▸ List.mem_map.mpr ⟨_, h, rfl⟩)
      rw [aGet_neg hne]
      exact aGet_of_mem n2 h
theorem aPut_new {l : List (κ × β)} {k : κ} (v : β) (h : aGet l k = none) : aPut l k v = l ++ [(k, v)] := by
  unfold aPut
  rw [aGet_any, h, Option.isSome_none]
  exact if_neg Bool.false_ne_true
theorem aPut_keys (l : List (κ × β)) (k : κ) (v : β) : (aPut l k v).map (·.1) = if k ∈ l.map (·.1) then l.map (·.1) else l.map (·.1) ++ [k] := by
  unfold aPut
  rw [aGet_any]
  by_cases h : k ∈ l.map (·.1)
  · rw [if_pos (aGet_mem.mp h), if_pos h, List.map_map]
    apply List.map_congr_left
    intro p _
    show (if p.1 = k then (p.1, v) else p).1 = p.1
    split <;> rfl
  · rw [if_neg (fun z => h (aGet_mem.mpr z)), if_neg h, List.map_append]
    rfl
theorem aPut_len (l : List (κ × β)) (k : κ) (v : β) : (aPut l k v).length ≤ l.length + 1 := by
  have h := congrArg List.length (aPut_keys l k v)
  rw [List.length_map] at h
  rw [h]
  split
  · rw [List.length_map]; omega
  · rw [List.length_append, List.length_map, List.length_singleton]
    exact Nat.le_refl _
theorem aPut_nd {l : List (κ × β)} {k : κ} {v : β} (h : (l.map (·.1)).Nodup) : ((aPut l k v).map (·.1)).Nodup := by
  rw [aPut_keys]
  split
  · exact h
  · rename_i hn
    exact List.nodup_append.mpr ⟨h, by simp, fun a ha b hb e => hn (by
      have : b = k := by simpa using hb
      rw [← this, ← e]
      exact ha)⟩
theorem aDrop_nd {l : List (κ × β)} {k : κ} (h : (l.map (·.1)).Nodup) : ((aDrop l k).map (·.1)).Nodup := (List.filter_sublist.map _).nodup h
theorem aDrop_len (l : List (κ × β)) (k : κ) : (aDrop l k).length ≤ l.length := List.length_filter_le _ _
theorem aGet_put (l : List (κ × β)) (k j : κ) (v : β) : aGet (aPut l k v) j = if j = k then some v else aGet l j := by
  unfold aPut
  rw [aGet_any]
  cases q : aGet l k with
  | some y =>
    rw [Option.isSome_some, if_pos rfl]
    have key : ∀ l : List (κ × β), aGet (l.map fun p => if p.1 = k then (p.1, v) else p) j = (aGet l j).map fun x => if j = k then v else x := by
      intro l
      induction l with
      | nil => rfl
      | cons p l ih =>
        rw [List.map_cons]
        by_cases e : p.1 = k
        · rw [if_pos e]
          by_cases c : p.1 = j
          · rw [aGet_pos (p := (p.1, v)) c, aGet_pos c, Option.map_some, if_pos (c.symm.trans e)]
          · rw [aGet_neg (p := (p.1, v)) c, aGet_neg c, ih]
        · rw [if_neg e]
          by_cases c : p.1 = j
          · rw [aGet_pos c, aGet_pos c, Option.map_some, if_neg fun z => e (c.trans z)]
          · rw [aGet_neg c, aGet_neg c, ih]
    rw [key]
    by_cases c : j = k
    · rw [if_pos c, c, q, Option.map_some, if_pos rfl]
    · rw [if_neg c]
      cases aGet l j with
      | none => rfl
      | some x => rw [Option.map_some, if_neg c]
  | none =>
    rw [Option.isSome_none, if_neg Bool.false_ne_true]
    have key : ∀ l : List (κ × β), aGet l k = none → aGet (l ++ [(k, v)]) j = if j = k then some v else aGet l j := by
      intro l
      induction l with
      | nil =>
        intro _
        by_cases c : k = j
        · rw [List.nil_append, aGet_pos c, if_pos c.symm]
        · rw [List.nil_append, aGet_neg c, if_neg fun z => c z.symm]
      | cons p l ih =>
        intro hn
        have hk : ¬ p.1 = k := fun z => by rw [aGet_pos z] at hn; cases hn
        rw [aGet_neg hk] at hn
        rw [List.cons_append]
        by_cases c : p.1 = j
        · rw [aGet_pos c, aGet_pos c, if_neg fun z => hk (c.trans z)]
        · rw [aGet_neg c, aGet_neg c, ih hn]
    exact key l q
theorem aGet_drop (l : List (κ × β)) (k j : κ) : aGet (aDrop l k) j = if j = k then none else aGet l j := by
  unfold aDrop
  induction l with
  | nil => rw [List.filter_nil, aGet_nil]; split <;> rfl
  | cons p l ih =>
    rw [List.filter_cons]
    by_cases e : p.1 = k
    · rw [if_neg (by simp [e]), ih]
      by_cases c : j = k
      · rw [if_pos c, if_pos c]
      · rw [if_neg c, if_neg c, aGet_neg fun z => c (z.symm.trans e)]
    · rw [if_pos (by simp [e])]
      by_cases c : p.1 = j
      · rw [aGet_pos c, aGet_pos c, if_neg fun z => e (c.trans z)]
      · rw [aGet_neg c, aGet_neg c, ih]
/-- the same by other names -/
def aMap {κ' β' : Type} (e : κ → κ') (f : β → β') (l : List (κ × β)) : List (κ' × β') := l.map fun p => (e p.1, f p.2)
section
variable {κ' β' : Type} [DecidableEq κ'] {e : κ → κ'} {f : β → β'}
theorem aMap_get (inj : ∀ a b, e a = e b → a = b) (k : κ) : ∀ l : List (κ × β), aGet (aMap e f l) (e k) = (aGet l k).map f
  | [] => rfl
  | p :: l => by
    have ih := aMap_get inj k l
    show aGet ((e p.1, f p.2) :: aMap e f l) (e k) = _
    by_cases c : p.1 = k
    · rw [aGet_pos c, aGet_pos (p := (e p.1, f p.2)) (by rw [← c])]; rfl
    · rw [aGet_neg c, aGet_neg (p := (e p.1, f p.2)) fun z => c (inj _ _ z), ih]
theorem aMap_put (inj : ∀ a b, e a = e b → a = b) (k : κ) (v : β) (l : List (κ × β)) : aPut (aMap e f l) (e k) (f v) = aMap e f (aPut l k v) := by
  unfold aPut
  rw [aGet_any, aGet_any, aMap_get inj]
  cases q : aGet l k with
  | none =>
    rw [Option.map_none, Option.isSome_none, Option.isSome_none, if_neg Bool.false_ne_true, if_neg Bool.false_ne_true]
    unfold aMap
    rw [List.map_append]
    rfl
  | some y =>
    rw [Option.map_some, Option.isSome_some, Option.isSome_some, if_pos rfl, if_pos rfl]
    unfold aMap
    rw [List.map_map, List.map_map]
    apply List.map_congr_left
    intro p _
    show (if e p.1 = e k then (e p.1, f v) else (e p.1, f p.2)) = (e (if p.1 = k then (p.1, v) else p).1, f (if p.1 = k then (p.1, v) else p).2)
    by_cases c : p.1 = k
    · rw [if_pos (by rw [c]), if_pos c]
    · rw [if_neg fun z => c (inj _ _ z), if_neg c]
theorem aMap_drop (inj : ∀ a b, e a = e b → a = b) (k : κ) (l : List (κ × β)) : aDrop (aMap e f l) (e k) = aMap e f (aDrop l k) := by
  unfold aDrop aMap
  rw [List.filter_map]
  congr 1
  apply List.filter_congr
  intro p _
  show decide (e p.1 ≠ e k) = decide (p.1 ≠ k)
  exact decide_eq_decide.mpr ⟨fun z c => z (by rw [c]), fun z c => z (inj _ _ c)⟩
theorem aMap_len (l : List (κ × β)) : (aMap e f l).length = l.length := List.length_map _
theorem aMap_keys (l : List (κ × β)) : (aMap e f l).map (·.1) = (l.map (·.1)).map e := by unfold aMap; rw [List.map_map, List.map_map]; rfl
end
end

/-! ### the object -/
def NKt (K : PySem.W.Frag) (H : Hp) (k : NK) (a : Addr) : Prop := Dp K H (.ref a) k.data ∧ k.depth ≤ 8
abbrev NX := List (NK × Addr × V)
abbrev NY := List (NK × Addr × Value)
abbrev NRel : NX → NY → Prop := Paired fun x y => x.1 = y.1 ∧ x.2.1 = y.2.1 ∧ RelV x.2.2 y.2.2
def rawN (P : Program) (w : World) (a : Addr) (xs : NX) (h : Heap) : Prop :=
  xs.length ≤ sizeLine ∧ (a == sysModules) = false ∧ ∃ ys, NRel xs ys ∧ ∃ o es ep, h.get? a = some o ∧ o.ExactDict ∧ o.data = .dict es ep ∧ es.toList = ys.map (entryOfKey (nestedKind P w)) ∧ (ys.map (·.1)).Nodup
abbrev ndO (P : Program) (w : World) (a : Addr) (xs : NX) : HO := .ext (rawN P w a xs)
structure NDr (P : Program) (w : World) (K : PySem.W.Frag) (H : Hp) (a : Addr) (xs : NX) : Prop where
  ob : Rd H a (ndO P w a xs)
  ks : ∀ x ∈ xs, NKt K H x.1 x.2.1
mutual
theorem nested_of {h : Heap} : ∀ (k : NK) (v : Value) (as : List Addr), Reads h v k.data as → NestedIs h k v
  | .none, _, _, r => by cases r; exact .none
  | .num i, _, _, r => by cases r; exact .int _ _
  | .text x, _, _, r => by cases r; exact .text _ _
  | .tup ks, _, _, r => by
    cases r with
    | tuple h1 h2 h3 h4 => exact .tup h1 h2 h3 (nesteds_of ks _ _ h4)
theorem nesteds_of {h : Heap} : ∀ (ks : List NK) (vs : List Value) (as : List Addr), ReadsAll h vs (NestedKey.datas ks) as → NestedAll h ks vs
  | [], _, _, r => by cases r; exact .nil
  | k :: ks, _, _, r => by
    cases r with
    | cons h1 h2 => exact .cons (nested_of k _ _ h1) (nesteds_of ks _ _ h2)
end
section
variable {X : Cx} {pins : List (Addr × Obj)} {σ : L2.St} {H : Hp} {s : Shared} {a b : Addr} {xs : NX} {k : NK}
theorem nk_is (I : Inv X pins σ H s) (h : NKt X.K H k b) : (nestedKind X.prog X.w).is s.heap k b := by
  obtain ⟨as, r⟩ := Dp.reads I k.data (.ref b) (.ref b) h.1 rfl
  exact ⟨nested_of k _ _ r, h.2⟩
theorem nd_at (I : Inv X pins σ H s) (n : NDr X.prog X.w X.K H a xs) : xs.length ≤ sizeLine ∧ (a == sysModules) = false ∧ ∃ ys, NRel xs ys ∧ s.heap.DictOfH (nestedKind X.prog X.w) a ys := by
  obtain ⟨q, -, -⟩ := (show ObjOk X.prog X.w H s.heap a (ndO X.prog X.w a xs) from n.ob.ok I.hok)
  obtain ⟨h1, h2, ys, r, o, es, ep, e1, e2, e3, e4, e5⟩ := q
  refine ⟨h1, h2, ys, r, o, es, ep, e1, e2, e3, e4, ?_, e5⟩
  have ks := n.ks
  clear e4 e5 h1 n
  induction r with
  | nil => intro x hx; exact nomatch hx
  | @cons x y xs' ys' hr t ih =>
    intro z hz
    rcases List.mem_cons.mp hz with rfl | hz
    · have q := nk_is I (ks x List.mem_cons_self)
      rw [hr.1, hr.2.1] at q
      exact q
    · exact ih (fun u hu => ks u (List.mem_cons_of_mem _ hu)) z hz
def atV (xs : NX) (k : NK) : Option (Addr × V) := (xs.find? fun x => decide (x.1 = k)).map (·.2)
theorem nrel_at {ys : NY} (r : NRel xs ys) (k : NK) : (∃ p q, atV xs k = some p ∧ atKey ys k = some q ∧ p.1 = q.1 ∧ RelV p.2 q.2) ∨ (atV xs k = none ∧ atKey ys k = none) := by
  unfold atV atKey
  induction r with
  | nil => exact .inr ⟨rfl, rfl⟩
  | @cons x y xs ys h t ih =>
    by_cases e : x.1 = k
    · exact .inl ⟨x.2, y.2, by simp [List.find?_cons, e], by simp [List.find?_cons, h.1.symm.trans e], h.2⟩
    · have e' : ¬ y.1 = k := fun z => e (h.1.trans z)
      rcases ih with ⟨p, q, h1, h2, h3⟩ | ⟨h1, h2⟩
      · exact .inl ⟨p, q, by simpa [List.find?_cons, e] using h1, by simpa [List.find?_cons, e'] using h2, h3⟩
      · exact .inr ⟨by simpa [List.find?_cons, e] using h1, by simpa [List.find?_cons, e'] using h2⟩
def putX (xs : NX) (k : NK) (b : Addr) (v : V) : NX := if (atV xs k).isSome = true then xs.map (fun x => if x.1 = k then (x.1, x.2.1, v) else x) else xs ++ [(k, b, v)]
def dropX (xs : NX) (k : NK) : NX := xs.filter fun x => decide (x.1 ≠ k)
theorem nrel_put {ys : NY} (r : NRel xs ys) (k : NK) (b : Addr) {v : V} {u : Value} (rv : RelV v u) : NRel (putX xs k b v) (storedH ys k b u) := by
  unfold putX storedH
  have e : (atV xs k).isSome = (atKey ys k).isSome := by
    rcases nrel_at r k with ⟨p, q, h1, h2, _⟩ | ⟨h1, h2⟩ <;> rw [h1, h2] <;> rfl
  rw [e]
  by_cases c : (atKey ys k).isSome = true
  · rw [if_pos c, if_pos c]
    clear c e
    induction r with
    | nil => exact .nil
    | @cons x y xs ys h t ih =>
      rw [List.map_cons, List.map_cons]
      refine .cons ?_ ih
      unfold putAt
      by_cases c : x.1 = k
      · rw [if_pos c, if_pos (h.1.symm.trans c)]
        exact ⟨h.1, h.2.1, rv⟩
      · rw [if_neg c, if_neg fun z => c (h.1.trans z)]
        exact h
  · rw [if_neg c, if_neg c]
    exact Paired.snoc r ⟨rfl, rfl, rv⟩
theorem nrel_drop {ys : NY} (r : NRel xs ys) (k : NK) : NRel (dropX xs k) (withoutH ys k) := by
  unfold dropX withoutH
  induction r with
  | nil => exact .nil
  | @cons x y xs ys h t ih =>
    rw [List.filter_cons, List.filter_cons]
    by_cases c : x.1 = k
    · rw [if_neg (by simp [c]), if_neg (by simp [h.1.symm.trans c])]
      exact ih
    · have c' : ¬ y.1 = k := fun z => c (h.1.trans z)
      rw [if_pos (by simp [c]), if_pos (by simp [c'])]
      exact .cons h ih
theorem nrel_len {ys : NY} (r : NRel xs ys) : xs.length = ys.length := Paired.length r
theorem putX_len (xs : NX) (k : NK) (b : Addr) (v : V) : (putX xs k b v).length ≤ xs.length + 1 := by
  unfold putX
  split
  · rw [List.length_map]; omega
  · rw [List.length_append, List.length_singleton]
    exact Nat.le_refl _
theorem dropX_len (xs : NX) (k : NK) : (dropX xs k).length ≤ xs.length := List.length_filter_le _ _
theorem nd_new {P : Program} {w : World} {H' : Hp} {h' : Heap} {ys : NY} (hz : xs.length ≤ sizeLine) (hd : (a == sysModules) = false) (r : NRel xs ys) (dd : h'.DictOfH (nestedKind P w) a ys) : ObjOk P w H' h' a (ndO P w a xs) := by
  obtain ⟨o, es, ep, e1, e2, e3, e4, _, e5⟩ := dd
  refine ⟨⟨hz, hd, ys, r, o, es, ep, e1, e2, e3, e4, e5⟩, ⟨o, e1⟩, fun h1 h2 q k => ?_⟩
  obtain ⟨g1, g2, ys', r', o', es', ep', f1, f2⟩ := q
  exact ⟨g1, g2, ys', r', o', es', ep', k _ f1, f2⟩
/-- the dict's object is replaced -/
theorem nd_write {ys : NY} {xs' : NX} {h' : Heap} {t' : Nat} (I : Inv X pins σ H s) (e : H a = some (ndO X.prog X.w a xs)) (hz : xs'.length ≤ sizeLine) (hd : (a == sysModules) = false) (r : NRel xs' ys) (dd : h'.DictOfH (nestedKind X.prog X.w) a ys) (hs : Heap.SameBut a s.heap h') :
    Inv X pins σ (upd H a (ndO X.prog X.w a xs')) { s with heap := h', toks := t' } :=
  I.write (x := a) (e := a) (by rw [e]; exact True.intro) (.inl rfl) (fun b q hb z => (hs.2 b hb).trans z) (let ⟨q, _, _, hq, _⟩ := dd; ⟨q, hq⟩) (nd_new hz hd r dd)
end

/-! ### readings and rules -/
section
variable (P : Program) (w : World) (K : PySem.W.Frag)
def tNNew : TE := fun _ H Q => ∀ p, H p = none → Q (.ref p) (upd H p (ndO P w p []))
def tNGet (td ty : TE) : TE := fun σ H Q => td σ H fun x H1 => ty σ H1 fun y H2 => ∃ a xs k b p, x = .ref a ∧ y = .ref b ∧ NDr P w K H2 a xs ∧ NKt K H2 k b ∧ atV xs k = some p ∧ Q p.2 H2
def tNIn (ty td : TE) : TE := fun σ H Q => ty σ H fun y H1 => td σ H1 fun x H2 => ∃ a xs k b, x = .ref a ∧ y = .ref b ∧ NDr P w K H2 a xs ∧ NKt K H2 k b ∧ Q (.bl (atV xs k).isSome) H2
def sNPut (td ty tv : TE) : TS := fun D σ H => tv σ H fun v H1 => td σ H1 fun x H2 => ty σ H2 fun y H3 => ∃ a xs k b, x = .ref a ∧ y = .ref b ∧ H3 a = some (ndO P w a xs) ∧ (∀ z ∈ xs, NKt K H3 z.1 z.2.1) ∧ NKt K H3 k b ∧ xs.length < sizeLine ∧ D.nx σ (upd H3 a (ndO P w a (putX xs k b v)))
def tNPop (td ty : TE) : TE := fun σ H Q => td σ H fun x H1 => ∃ a, x = .ref a ∧ (∃ xs, Rd H1 a (ndO P w a xs)) ∧ ty σ H1 fun y H2 => ∃ xs k b p, y = .ref b ∧ H2 a = some (ndO P w a xs) ∧ (∀ z ∈ xs, NKt K H2 z.1 z.2.1) ∧ NKt K H2 k b ∧ atV xs k = some p ∧ Q p.2 (upd H2 a (ndO P w a (dropX xs k)))
def tNGet2 (td ty tx : TE) : TE := fun σ H Q => td σ H fun x H1 => ∃ a, x = .ref a ∧ (∃ xs, Rd H1 a (ndO P w a xs)) ∧ ty σ H1 fun y H2 => tx σ H2 fun z H3 => ∃ xs k b, y = .ref b ∧ NDr P w K H3 a xs ∧ NKt K H3 k b ∧ Q (((atV xs k).map (·.2)).getD z) H3
end
section
variable {X : Cx} {o i e f value : Expr} {pos pos' apos cpos : Pos} {td ty tv tx : TE}
theorem nd_typeIs {pins : List (Addr × Obj)} {σ : L2.St} {H : Hp} {s : Shared} {a : Addr} {xs : NX} (I : Inv X pins σ H s) (n : Rd H a (ndO X.prog X.w a xs)) : s.TypeIs (.ref a) "dict" ∧ (∀ b, Value.ref a = .ref b → ∃ ob, s.heap.get? b = some ob ∧ ob.dict = none) ∧ (a == sysModules) = false := by
  obtain ⟨q, _, _⟩ := (show ObjOk X.prog X.w H s.heap a (ndO X.prog X.w a xs) from n.ok I.hok)
  obtain ⟨h1, h2, ys, r, ob, es, ep, e1, e2, e3, e4, e5⟩ := q
  refine ⟨⟨ob, e1, e2.1⟩, fun b z => ?_, h2⟩
  cases z
  exact ⟨ob, e1, e2.2.1⟩
theorem nroom {A : Around} (hu : A.units + 64 < cLine) : (nestedKind X.prog X.w).room A.in1 := by
  show A.units + 1 + 8 < cLine
  omega
theorem pe_nnew : PE X (.Dict [] [] pos) (tNNew X.prog X.w) := ⟨fun pins s σ H Q I h =>
  wpAny_Dict_empty ⟨.ref s.heap.objs.size, _, I.laid (a := s.heap.objs.size) (o := ndO X.prog X.w s.heap.objs.size []) (t' := s.toks) (fun _ _ q => Heap.get?_push_of_some _ q) (Nat.le_refl _)
    (nd_new (Nat.zero_le _) (beq_eq_false_iff_ne.mpr (Ne.symm (Nat.ne_of_lt I.big))) .nil (Heap.DictOfH.new s.heap)), rfl, h _ (I.hok.fresh (Nat.le_refl _))⟩⟩
theorem pe_nget (hu : X.A.units + 64 < cLine) (ho : PE X o td) (hi : PE X i ty) (hs : NoSl i) : PE X (.Subscript o i pos) (tNGet X.prog X.w X.K td ty) := by
  refine ⟨fun pins s σ H Q I h => ?_⟩
  refine subD_of PySem.F.slot_dict_getitem.lookup hs (thn (ho.run pins s σ H _ I h) fun u s1 ⟨x, H1, I1, rx, q1⟩ => thn (hi.run pins s1 σ H1 _ I1 q1) fun iv s2 ⟨y, H2, I2, ry, a, xs, k, b, p, ex, ey, n, nk, hp, q2⟩ => ?_)
  subst ex ey
  cases rx
  cases ry
  obtain ⟨_, _, ys, r, dd⟩ := nd_at I2 n
  rcases nrel_at r k with ⟨p', q', h1, h2, h3, h4⟩ | ⟨h1, _⟩
  · rw [hp] at h1
    cases h1
    exact ⟨(nd_typeIs I2 n.ob).1, wpAny_getItem_heap (nroom hu) (nk_is I2 nk) dd h2 ⟨p.2, H2, I2.tok _, h4, q2⟩⟩
  · rw [hp] at h1
    cases h1
theorem pc_nin (hu : X.A.units + 64 < cLine) (hi : PE X i ty) (ho : PE X o td) : PC X .In i o (tNIn X.prog X.w X.K ty td) := by
  refine ⟨fun pins s σ H Q I h => ?_⟩
  refine thn (hi.run pins s σ H _ I h) fun iv s1 ⟨y, H1, I1, ry, q1⟩ => thn (ho.run pins s1 σ H1 _ I1 q1) fun u s2 ⟨x, H2, I2, rx, a, xs, k, b, ex, ey, n, nk, q2⟩ => ?_
  subst ex ey
  cases rx
  cases ry
  obtain ⟨_, hd, ys, r, dd⟩ := nd_at I2 n
  refine wpAny_in_heap (nroom hu) (nk_is I2 nk) hd dd ⟨.bl (atV xs k).isSome, H2, I2.tok _, ?_, q2⟩
  rcases nrel_at r k with ⟨p', q', h1, h2, _⟩ | ⟨h1, h2⟩ <;> rw [h1, h2] <;> rfl
theorem ps_nput (hu : X.A.units + 64 < cLine) (ho : PE X o td) (hi : PE X i ty) (hv : PE X value tv) (hs : swapsWith value (some (.Subscript o i pos')) pos.line X.env = pure false := by rfl) :
    PS X (.Assign [.Subscript o i pos'] value pos) (sNPut X.prog X.w X.K td ty tv) := by
  refine ⟨fun pins s σ H D I h => ?_⟩
  refine wpAny_Assign_Subscript (thn (hv.run pins s σ H _ I h) fun r s1 ⟨v, H1, I1, rv, q1⟩ => thn (ho.run pins s1 σ H1 _ I1 q1) fun u s2 ⟨x, H2, I2, rx, q2⟩ => thn (hi.run pins s2 σ H2 _ I2 q2) fun iv s3 ⟨y, H3, I3, ry, a, xs, k, b, ex, ey, n, ks, nk, hz, q3⟩ => ?_) hs
  subst ex ey
  cases rx
  cases ry
  obtain ⟨_, hd, ys, rr, dd⟩ := nd_at I3 ⟨.inl n, ks⟩
  refine wpAny_setItem_heap (hsz := by rw [← nrel_len rr]; exact Nat.le_of_lt hz) (nroom hu) (nk_is I3 nk) dd fun h' dd' sb => ⟨σ, _, nd_write I3 n ?_ hd (nrel_put rr k b rv) dd' sb, q3⟩
  have := putX_len xs k b v
  omega
theorem pe_npop (hu : X.A.units + 64 < cLine) (ho : PE X o td) (he : PE X e ty) (m : M1 X o "pop" apos e cpos) : PE X (.Call (.Attribute o "pop" apos) [e] [] cpos) (tNPop X.prog X.w X.K td ty) := by
  refine ⟨fun pins s σ H Q I h => ?_⟩
  refine wpAny_Call_method m.base m.few m.line PySem.F.plainAttrs_dict PySem.F.slot_dict_pop PySem.F.type_dict_pop (thn (ho.run pins s σ H _ I h) fun u s1 ⟨x, H1, I1, rx, a, ex, ⟨xs0, d⟩, q1⟩ => ?_)
  subst ex
  cases rx
  obtain ⟨t1, t2, _⟩ := nd_typeIs I1 d
  refine ⟨t1, t2, ?_⟩
  rw [m.trees]
  refine Calls.callWith_builtin rfl (Calls.evalArgs_plain (Calls.spliced_cons (thn (he.run pins s1 σ H1 _ I1 q1) fun iv s2 ⟨y, H2, I2, ry, xs, k, b, p, ey, n, ks, nk, hp, q2⟩ => Calls.spliced_nil ?_)))
  subst ey
  cases ry
  obtain ⟨hz, hd, ys, rr, dd⟩ := nd_at I2 ⟨.inl n, ks⟩
  rcases nrel_at rr k with ⟨p', q', h1, h2, h3, h4⟩ | ⟨h1, _⟩
  · rw [hp] at h1
    cases h1
    refine call_pop_heap (more := []) (hsz := by rw [← nrel_len rr]; exact hz) (.inl rfl) (PySem.F.args_dict_pop_2 _ _) (nroom hu) (nk_is I2 nk) hd dd h2 fun h' dd' sb => ⟨p.2, _, nd_write I2 n (Nat.le_trans (dropX_len xs k) hz) hd (nrel_drop rr k) dd' sb, h4, q2⟩
  · rw [hp] at h1
    cases h1
theorem pe_nget2 (hu : X.A.units + 64 < cLine) (ho : PE X o td) (he : PE X e ty) (hf : PE X f tx) (m : M2 X o "get" apos e f cpos) : PE X (.Call (.Attribute o "get" apos) [e, f] [] cpos) (tNGet2 X.prog X.w X.K td ty tx) := by
  refine ⟨fun pins s σ H Q I h => ?_⟩
  refine wpAny_Call_method m.base m.few m.line PySem.F.plainAttrs_dict PySem.F.slot_dict_get PySem.F.type_dict_get (thn (ho.run pins s σ H _ I h) fun u s1 ⟨x, H1, I1, rx, a, ex, ⟨xs0, d⟩, q1⟩ => ?_)
  subst ex
  cases rx
  obtain ⟨t1, t2, _⟩ := nd_typeIs I1 d
  refine ⟨t1, t2, ?_⟩
  rw [m.trees]
  refine Calls.callWith_builtin rfl (Calls.evalArgs_plain (Calls.spliced_cons (thn (he.run pins s1 σ H1 _ I1 q1) fun iv s2 ⟨y, H2, I2, ry, q2⟩ =>
    Calls.spliced_cons (thn (hf.run pins s2 σ H2 _ I2 q2) fun fv s3 ⟨z, H3, I3, rz, xs, k, b, ey, n, nk, q3⟩ => Calls.spliced_nil ?_))))
  subst ey
  cases ry
  obtain ⟨hz, hd, ys, rr, dd⟩ := nd_at I3 n
  refine call_meetsIn PySem.F.slot_dict_get dd.typeIs PySem.F.entry_dict_get (PySem.F.args_dict_get_3 _ _ _) (meetsH_dict_get_default (nestedKind X.prog X.w) a b hd fv) ⟨nroom hu, k, ys, nk_is I3 nk, dd, ⟨_, H3, I3.tok _, ?_, q3⟩⟩
  rcases nrel_at rr k with ⟨p', q', h1, h2, h3, h4⟩ | ⟨h1, h2⟩
  · rw [h1, h2]
    exact h4
  · rw [h1, h2]
    exact rz
end
end CB

/-! Part 5: nested dicts: len, list, dict of pairs, walked by keys; enumerate of a tuple. -/
namespace CB
open PySem PySem.Spec PyProof.Rows L2

section
variable {X : Cx}
def rNLen (P : Program) (w : World) (K : PySem.W.Frag) : List V → Hp → VK → Prop := fun vs H Q => ∃ a xs, vs = [.ref a] ∧ NDr P w K H a xs ∧ Q (.int ((xs.length : Nat) : Int)) H
theorem call_nlen : CallR X (.builtin "len") (rNLen X.prog X.w X.K) := by
  intro pins s σ H xs us Q I r h
  obtain ⟨a, ns, rfl, n, q⟩ := h
  obtain ⟨u, rfl, rx⟩ := vals1 r
  cases rx
  obtain ⟨z, hd, ys, rr, dd⟩ := nd_at I n
  have hl := nrel_len rr
  refine call_len_dictH hd dd (by rw [← hl]; rw [sizeLine_eq] at z; omega) ?_
  rw [← hl]
  exact ⟨.int ((ns.length : Nat) : Int), H, I.tok _, ⟨_, rfl⟩, q⟩
/-- the entries as the walks want them -/
theorem nd_raw {pins : List (Addr × Obj)} {σ : L2.St} {H : Hp} {s : Shared} {a : Addr} {xs : NX} (I : Inv X pins σ H s) (n : Rd H a (ndO X.prog X.w a xs)) :
    xs.length ≤ sizeLine ∧ (a == sysModules) = false ∧ ∃ o es ep, s.heap.get? a = some o ∧ o.ExactDict ∧ o.data = .dict es ep ∧ es.size = xs.length ∧ ∀ (i : Nat) (x : NK × Addr × V), xs[i]? = some x → ∃ en : DictEntry, es[i]? = some en ∧ en.key = .ref x.2.1 := by
  obtain ⟨q, -, -⟩ := (show ObjOk X.prog X.w H s.heap a (ndO X.prog X.w a xs) from n.ok I.hok)
  obtain ⟨h1, h2, ys, r, o, es, ep, e1, e2, e3, e4, e5⟩ := q
  have hl := nrel_len r
  refine ⟨h1, h2, o, es, ep, e1, e2, e3, by rw [size_of_entries e4, hl], fun i x hx => ?_⟩
  obtain ⟨y, hy, g1, g2, g3⟩ := paired_get r hx
  have z := entry_at e4 i
  rw [hy] at z
  exact ⟨_, z, by show Value.ref y.2.1 = _; rw [g2]⟩
def keysX (xs : NX) : List V := xs.map fun x => V.ref x.2.1
/-- what the walk of the keys has drawn -/
theorem items_keys {o : Obj} {es : Array DictEntry} {xs : NX} {acc : Array Value} {n : Nat} (hn : n = es.size) (hs : es.size = xs.length) (he : ∀ (i : Nat) (x : NK × Addr × V), xs[i]? = some x → ∃ en : DictEntry, es[i]? = some en ∧ en.key = .ref x.2.1)
    (h : ItemsOf (fun i v => ∃ hi : i < es.size, v = es[i].key) acc n) : Vals (keysX xs) acc.toList := by
  have e : acc.toList = xs.map fun x => Value.ref x.2.1 := by
    apply List.ext_getElem?
    intro i
    rw [List.getElem?_map]
    cases q : xs[i]? with
    | none =>
      have : xs.length ≤ i := List.getElem?_eq_none_iff.mp q
      rw [List.getElem?_eq_none]
      · rfl
      · rw [Array.length_toList, h.1]; omega
    | some x =>
      obtain ⟨en, h1, h2⟩ := he i x q
      have hi : i < acc.size := by
        rw [h.1, hn]
        exact (Array.getElem?_eq_some_iff.mp h1).1
      have h3 : acc[i]? = some acc[i] := Array.getElem?_eq_getElem hi
      obtain ⟨hi', h4⟩ := h.2 i _ h3
      have h5 : es[i] = en := by
        have := (Array.getElem?_eq_some_iff.mp h1).2
        exact this
      rw [Array.getElem?_toList, h3, h4, h5, h2]
      rfl
  rw [e]
  unfold keysX
  clear e h he hs hn
  induction xs with
  | nil => exact .nil
  | cons x xs ih => exact .cons rfl ih
def rNList (P : Program) (w : World) (K : PySem.W.Frag) : List V → Hp → VK → Prop := fun vs H Q => ∃ a xs, vs = [.ref a] ∧ Rd H a (ndO P w a xs) ∧ ∀ l, H l = none → Q (.ref l) (upd H l (.lst (keysX xs)))
theorem call_nlist (hc : X.calm = true) : CallR X (.type "list") (rNList X.prog X.w X.K) := by
  intro pins s σ H xs us Q I r h
  obtain ⟨a, ns, rfl, n, q⟩ := h
  obtain ⟨u, rfl, rx⟩ := vals1 r
  cases rx
  obtain ⟨hz, hd, o, es, ep, e1, e2, e3, e4, e5⟩ := nd_raw I n
  refine PySem.W.kdl_call (KdlSrc.rawDict (es := es) (ep := ep) hd) (I.ok.hd hc) ⟨o, e1, e2, e3⟩ (by rw [e4]; exact hz) fun h' tk acc c hk ho hacc => ?_
  have rv := items_keys (o := o) rfl e4 e5 hacc
  refine ⟨.ref s.heap.objs.size, upd H s.heap.objs.size (.lst (keysX ns)), I.laid (t' := tk) hk (Nat.le_refl _) ⟨?_, acc.toList, c, rv, ?_⟩, rfl, q _ (I.hok.fresh (Nat.le_refl _))⟩
  · unfold keysX
    rw [List.length_map]
    exact hz
  · rw [ho]
/-- dict(xs), xs a list of pairs whose firsts are keys -/
def mergeX (xs more : NX) : NX := more.foldl (fun acc x => putX acc x.1 x.2.1 x.2.2) xs
theorem nrel_merge : ∀ {more : NX} {ms : NY} {xs : NX} {ys : NY}, NRel more ms → NRel xs ys → NRel (mergeX xs more) (storedAllH ys ms)
  | [], _, _, _, .nil, h => h
  | x :: more, _, xs, ys, .cons (b := y) h t, h2 => by
    have q := nrel_put h2 x.1 x.2.1 h.2.2
    have e : storedH ys x.1 x.2.1 y.2.2 = storedH ys y.1 y.2.1 y.2.2 := by rw [h.1, h.2.1]
    rw [e] at q
    have z := nrel_merge (more := more) t q
    exact z
theorem mergeX_len : ∀ (more xs : NX), (mergeX xs more).length ≤ xs.length + more.length
  | [], xs => Nat.le_refl _
  | x :: more, xs => by
    have h1 := mergeX_len more (putX xs x.1 x.2.1 x.2.2)
    have h2 := putX_len xs x.1 x.2.1 x.2.2
    show (mergeX (putX xs x.1 x.2.1 x.2.2) more).length ≤ _
    rw [List.length_cons]
    omega
def rNDict (P : Program) (w : World) (K : PySem.W.Frag) : List V → Hp → VK → Prop := fun vs H Q => ∃ (a : Addr) (ps : List Addr) (xs : NX), vs = [.ref a] ∧ SqL K H a (ps.map V.ref) ∧ Paired (fun p x => SqT K H p [.ref x.2.1, x.2.2]) ps xs ∧ (∀ x ∈ xs, NKt K H x.1 x.2.1) ∧
  ∀ p, H p = none → Q (.ref p) (upd H p (ndO P w p (mergeX [] xs)))
theorem pairs_raw {pins : List (Addr × Obj)} {σ : L2.St} {H : Hp} {s : Shared} (I : Inv X pins σ H s) : ∀ {ps : List Addr} {xs : NX}, Paired (fun p x => SqT X.K H p [.ref x.2.1, x.2.2]) ps xs →
    ∃ ys : NY, NRel xs ys ∧ ys.length = ps.length ∧ ∀ (j : Nat) (y : NK × Addr × Value), ys[j]? = some y → ∃ b, ps[j]? = some b ∧ IsTup s.heap b #[.ref y.2.1, y.2.2]
  | _, _, .nil => ⟨[], .nil, rfl, fun j q e => by simp at e⟩
  | _, _, .cons (a := p) (b := x) h t => by
    obtain ⟨ys, r, hl, hp⟩ := pairs_raw I t
    obtain ⟨its, rv, ht, _⟩ := I.tuple h
    obtain ⟨u, y, ei, ru, ry⟩ := vals2 rv
    subst ei
    cases ru
    refine ⟨(x.1, x.2.1, y) :: ys, .cons ⟨rfl, rfl, ry⟩ r, by rw [List.length_cons, List.length_cons, hl], fun j q e => ?_⟩
    cases j with
    | zero =>
      have e' : (x.1, x.2.1, y) = q := Option.some.inj e
      subst e'
      exact ⟨p, rfl, ht⟩
    | succ j =>
      obtain ⟨b, e1, e2⟩ := hp j q (by simpa using e)
      exact ⟨b, by simpa using e1, e2⟩
theorem call_ndict (hu : X.A.units + 64 < cLine) (hc : X.calm = true) : CallR X (.type "dict") (rNDict X.prog X.w X.K) := by
  intro pins s σ H vs us Q I r h
  obtain ⟨a, ps, xs, rfl, hq, hp, hk, q⟩ := h
  obtain ⟨u, rfl, rx⟩ := vals1 r
  cases rx
  obtain ⟨its, rv, ⟨ol, m, ho, hcl, hdn, hdat⟩, hz⟩ := I.list hq
  have ei := refs_at rv
  subst ei
  rw [List.length_map] at hz
  obtain ⟨ys, rr, hl, hy⟩ := pairs_raw I hp
  have hlx : ps.length = xs.length := Paired.length hp
  have his : ∀ y ∈ ys, (nestedKind X.prog X.w).is s.heap y.1 y.2.1 := by
    have key : ∀ {xs : NX} {ys : NY}, NRel xs ys → (∀ x ∈ xs, NKt X.K H x.1 x.2.1) → ∀ y ∈ ys, (nestedKind X.prog X.w).is s.heap y.1 y.2.1 := by
      intro xs ys r
      induction r with
      | nil => intro _ y hy; exact nomatch hy
      | @cons x y xs' ys' hr t ih =>
        intro ks z hz
        rcases List.mem_cons.mp hz with rfl | hz
        · have q := nk_is I (ks x List.mem_cons_self)
          rw [hr.1, hr.2.1] at q
          exact q
        · exact ih (fun u hu => ks u (List.mem_cons_of_mem _ hu)) z hz
    exact key rr hk
  have hrm : (nestedKind X.prog X.w).room X.A.in1.in1 := by
    show X.A.units + 1 + 1 + 8 < cLine
    omega
  refine call_dict_pairsH (knd := nestedKind X.prog X.w) (ps := ys) (PairArg.list a (ps.map Value.ref).toArray (fun j => ps.getD j 0) (ys.map fun y => (Value.ref y.2.1, y.2.2))) (I.ok.hd hc) hrm
    ⟨⟨ol, m, ho, hcl, hdn, hdat⟩, by simp [hl], fun j k v e => ?_⟩ ⟨by rw [List.length_map], fun i key v e => ?_⟩ (fun h' hh y hm => nestedKind_stays.stays (fun b o _ _ e _ => hh b o (Nat.ne_of_lt (Heap.lt_size e)) (by simp) e) (his y hm)) (by rw [List.length_map, hl]; exact hz) fun h' tk hd' hh => ?_
  · rw [List.getElem?_map] at e
    cases q : ys[j]? with
    | none => rw [q] at e; cases e
    | some y =>
      rw [q] at e
      cases e
      obtain ⟨b, e1, e2⟩ := hy j y q
      have eg : ps.getD j 0 = b := by rw [List.getD_eq_getElem?_getD, e1]; rfl
      refine ⟨by simp [e1], ?_⟩
      obtain ⟨o, f1, f2, n, f3⟩ := e2
      show PairAt s.heap (ps.getD j 0) _ _
      rw [eg]
      exact .inl ⟨o, f1, f2, n, f3⟩
  · have e' : (ys.map fun y => (Value.ref y.2.1, y.2.2))[i]? = some (key, v) := e
    rw [List.getElem?_map] at e'
    cases q : ys[i]? with
    | none => rw [q] at e'; cases e'
    | some y =>
      rw [q] at e'
      cases e'
      exact ⟨y.1, y.2.1, rfl, rfl⟩
  · have hm : (s.heap.objs.size == sysModules) = false := beq_eq_false_iff_ne.mpr (Nat.ne_of_gt I.big)
    have hlen : (mergeX [] xs).length ≤ sizeLine := by
      refine Nat.le_trans (mergeX_len xs []) ?_
      rw [List.length_nil, Nat.zero_add, ← hlx]
      exact hz
    exact ⟨.ref s.heap.objs.size, upd H s.heap.objs.size (ndO X.prog X.w s.heap.objs.size (mergeX [] xs)), I.laid (t' := tk) (fun b o e => hh b o (by simp) e) (Nat.le_refl _) (nd_new hlen hm (nrel_merge rr .nil) hd'), rfl, q _ (I.hok.fresh (Nat.le_refl _))⟩

/-! ### the keys walked (the dict locked) -/
def ItN (P : Program) (w : World) (d : Addr) (o : Obj) (xs : NX) : It :=
  ⟨fun i H => H d = some (.frz o (ndO P w d xs)) ∧ i < xs.length, fun i H x H' => H' = H ∧ ∃ y, xs[i]? = some y ∧ x = .ref y.2.1, fun i H => H d = some (.frz o (ndO P w d xs)) ∧ xs.length ≤ i⟩
theorem turn_nkeys {P : Program} {w : World} {K : PySem.W.Frag} {tg : Expr} {d : Addr} {o : Obj} {es : Array DictEntry} {ep : Nat} {xs : NX} (it : Addr) (hod : o.data = .dict es ep) : Turn P w K tg (ItN P w d o xs) [it] it (fun i h => h.IsKeyIter it d i xs.length ep) where
  mem := by simp
  obj := fun i h st b hb => by
    have e : b = it := by simpa using hb
    subst e
    obtain ⟨oi, e, c, dd⟩ := st
    exact ⟨oi, e, fun v z => by rw [dd] at z; cases z⟩
  keep := fun i h h' st k => st.at fun oi e => k it (by simp) oi e
  item := by
    intro X hP hw hK hc i pins s σ H E I hf st hg
    subst hP hw hK
    obtain ⟨hd, hi⟩ := hg
    obtain ⟨f0, f1, f2, f3, f4, f5⟩ := hf it (by simp)
    obtain ⟨hz, hgd, o', es', ep', e1, e2, e3, e4, e5⟩ := nd_raw I (.inr ⟨o, hd⟩)
    have e6 : s.heap.get? d = some o := (I.hok d _ hd).1
    rw [e6] at e1
    cases e1
    obtain ⟨rfl, rfl⟩ := dict_ep hod e3
    obtain ⟨y, hy⟩ : ∃ y, xs[i]? = some y := ⟨xs[i], List.getElem?_eq_getElem hi⟩
    obtain ⟨en, hen, hkey⟩ := e5 i y hy
    refine next_key_item st e6 e3 e4 hen fun h' st' sb => ?_
    have I1 : Inv X pins σ H { s with heap := h' } := I.turned (t' := s.toks) (fun b ob hb e => (sb.2 b hb).trans e) f0 f1 f3 f4 f5
    obtain ⟨oi, e, c, dd⟩ := id st'
    exact ⟨en.key, rfl, go_of (s := { s with heap := h' }) e c dd (by decide) ⟨.ref y.2.1, H, I1, hkey, ⟨rfl, y, hy, rfl⟩, st', fun b hb => (hf b hb).1⟩⟩
  done := by
    intro X hP hw hK hc i pins s σ H E I hf st hg
    subst hP hw hK
    obtain ⟨hd, hi⟩ := hg
    obtain ⟨f0, f1, f2, f3, f4, f5⟩ := hf it (by simp)
    obtain ⟨hz, hgd, o', es', ep', e1, e2, e3, e4, e5⟩ := nd_raw I (.inr ⟨o, hd⟩)
    have e6 : s.heap.get? d = some o := (I.hok d _ hd).1
    rw [e6] at e1
    cases e1
    obtain ⟨rfl, rfl⟩ := dict_ep hod e3
    exact next_key_end (I.ok.hd hc) st e6 e3 e4 hi fun h' eb => ⟨rfl, I.turned (t' := s.toks) (fun b ob hb e => eb b ob hb e) f0 f1 f3 f4 f5⟩
  self := fun A i s Q E st h => by
    refine wpAny_pyIter_slot st.typeIs F.slot_dict_keyiterator_iter (wpAny_call_entry F.slot_dict_keyiterator_iter st.typeIs F.entry_dict_keyiterator_iter ?_ (F.args_dict_keyiterator_iter_1 _))
    show wpAny _ _ (ret (.ref it)) _ _ s
    exact wpAny_pure ⟨_, rfl, "dict_keyiterator", _, st.typeIs, F.slot_dict_keyiterator_next.lookup, h⟩
def iNKeys (P : Program) (w : World) (td : TE) : TI := fun σ H R => td σ H fun x H1 => ∃ d o xs, x = .ref d ∧ H1 d = some (.frz o (ndO P w d xs)) ∧ R (ItN P w d o xs) H1
theorem pi_nkeys {tg e : Expr} {td : TE} (he : PE X e td) : PI X tg e (iNKeys X.prog X.w td) := by
  refine ⟨fun pins s σ H R I h => ?_⟩
  refine thn (he.run pins s σ H _ I h) fun u s1 ⟨x, H1, I1, rx, d, o, xs, ex, hd, q⟩ => ?_
  subst ex
  cases rx
  obtain ⟨hz, hgd, o', es, ep, e1, e2, e3, e4, e5⟩ := nd_raw I1 (.inr ⟨o, hd⟩)
  have e6 : s1.heap.get? d = some o := (I1.hok d _ hd).1
  rw [e6] at e1
  cases e1
  refine iter_keys hgd e6 e2 e3 (pi_one (tk := s1.toks) I1 _ (turn_nkeys _ e3) ⟨_, Heap.get?_push_size _ rfl, rfl, ?_⟩ q)
  rw [e4] <;> rfl

/-! ### enumerate of a tuple -/
set_option maxHeartbeats 1000000 in
theorem meets_enum1 {v : Value} {o : Obj} {T : Heap → Prop} (B : Begins v o T) :
    Meets (Builtin.«enumerate.__new__» ⟨[.type "enumerate", v], []⟩) (fun _ R s => T s.heap ∧ R (.ok (.ret (.ref (s.heap.push o).objs.size)))
      { s with heap := (s.heap.push o).push { cls := .type "enumerate", data := .fields #[.none, .bool false, .ref s.heap.objs.size, rawInt 0, .none, .none] } }) :=
  .of_wp fun prog w A R s h => by
    obtain ⟨hp, g, d, tk, os⟩ := s
    obtain ⟨b1, h⟩ := h
    have sub1 := sub_enumerate
    have it1 : ∀ {A' : Around} {E : Value → Shared → Prop} {Q : Value → Shared → Prop}, Q (.ref hp.objs.size) ⟨hp.push o, g, d, tk, os⟩ → wpAny (model prog w) A' (pyIter v) Q E ⟨hp, g, d, tk, os⟩ :=
      fun z => B.iter prog w _ _ ⟨hp, g, d, tk, os⟩ _ b1 z
    wp_walk using it1
    refine wpAny_stack_any fun st => wpAny_pure ?_
    split
    · rename_i c _ _ _ _ _
      cases (c == Value.type "enumerate") <;> (wp_walk using it1; exact ⟨_, rfl, h⟩)
    · wp_walk using it1
      exact ⟨_, rfl, h⟩
theorem call_enum_tup {prog : Program} {w : World} {A : Around} {E : Value → Shared → Prop} {s : Shared} {t : Addr} {items : Array Value} {Q : Value → Shared → Prop} (ht : s.heap.IsTuple t items)
    (h : ∀ h', IsEnum h' (s.heap.objs.size + 1) s.heap.objs.size 0 .none → h'.IsTupleIter s.heap.objs.size t 0 → h'.objs.size = s.heap.objs.size + 2 → (∀ b o, s.heap.get? b = some o → h'.get? b = some o) → Q (.ref (s.heap.objs.size + 1)) { s with heap := h' }) :
    wpAny (model prog w) A (call (.type "enumerate") [.ref t]) Q E s := by
  refine callType_new F.called_enumerate (by decide) (F.typeCall_enumerate_1 _) (F.newCall_enumerate_1 _) (fun obj => F.args_object_init_2 obj _) F.entry_enumerate_new (meets_enum1 (begins_tuple t items)) ⟨ht, ?_⟩
  have e0 : (s.heap.push { cls := .type "tuple_iterator", data := .fields #[.ref t, .int 0 0] }).objs.size = s.heap.objs.size + 1 := Heap.size_push ..
  show _ ∧ _
  rw [e0]
  have he : IsEnum ((s.heap.push { cls := .type "tuple_iterator", data := .fields #[.ref t, .int 0 0] }).push { cls := .type "enumerate", data := .fields #[.none, .bool false, .ref s.heap.objs.size, rawInt 0, .none, .none] }) (s.heap.objs.size + 1) s.heap.objs.size 0 .none := by
    have z := Heap.get?_push_size (s.heap.push { cls := .type "tuple_iterator", data := .fields #[.ref t, .int 0 0] }) (o := { cls := .type "enumerate", data := .fields #[.none, .bool false, .ref s.heap.objs.size, rawInt 0, .none, .none] }) rfl
    rw [e0] at z
    exact z
  exact ⟨⟨_, he, rfl⟩, h _ he ⟨_, Heap.get?_push_of_some _ (Heap.get?_push_size _ rfl), rfl, rfl⟩ (by rw [Heap.size_push, e0]) fun b o y => Heap.get?_push_of_some _ (Heap.get?_push_of_some _ y)⟩
def ItE (K : PySem.W.Frag) (a : Addr) : It :=
  ⟨fun i H => ∃ (xs : List V) (x : V), SqT K H a xs ∧ xs[i]? = some x, fun i H v H' => ∃ T x, v = .ref T ∧ H T = none ∧ H' = upd H T (.tup [.int (i : Nat), x]) ∧ ∀ xs, SqT K H a xs → xs[i]? = some x, fun i H => ∃ xs : List V, SqT K H a xs ∧ xs.length ≤ i⟩
theorem turn_enumT {P : Program} {w : World} {K : PySem.W.Frag} {elts : List Expr} {kk : Nat} {tpos : Pos} (a e it : Addr) (hne : a ≠ it) (hae : a ≠ e) :
    Turn P w K (.Tuple elts kk tpos) (ItE K a) [e, it] e (fun i h => (∃ old, IsEnum h e it ((i : Nat) : Int) old) ∧ h.IsTupleIter it a i ∧ e ≠ it) where
  mem := by simp
  obj := fun i h st b hb => by
    obtain ⟨⟨old, he⟩, ⟨o, ho, hc, hd⟩, _⟩ := st
    rcases (show b = e ∨ b = it by simpa using hb) with z | z
    · rw [z]; exact ⟨_, he, fun v q => nomatch q⟩
    · rw [z]; exact ⟨o, ho, fun v q => by rw [hd] at q; cases q⟩
  keep := fun i h h' st k => let ⟨⟨old, he⟩, hi, hn⟩ := st; ⟨⟨old, k e (by simp) _ he⟩, hi.at fun o q => k it (by simp) o q, hn⟩
  item := by
    intro X hP hw hK hc i pins s σ H E I hf st hg
    subst hP hw hK
    obtain ⟨xs, x, hq, hx⟩ := hg
    obtain ⟨⟨old, he⟩, hit, hni⟩ := st
    obtain ⟨its, rv, p, hz⟩ := I.tuple hq
    obtain ⟨u, hu, ru⟩ := rv.get hx
    have pt : s.heap.IsTuple a its.toArray := p
    have D := Draws.tuple (prog := X.prog) (w := X.w) (A := X.A.in1) (I.ok.hd hc) it a hne its.toArray
    have hi : i < its.toArray.size := by
      rw [List.size_toArray]
      exact (List.getElem?_eq_some_iff.mp hu).1
    refine wpAny_pyNext_enum_itemD D he ⟨hit, pt⟩ hi hni (by simp only [List.mem_cons, List.not_mem_nil, or_false, not_or]; exact ⟨hni, hae.symm⟩) fun y h' tk hP ho st' hT hsz hk => ?_
    have ey : y = u := by
      have z : its.toArray[i]? = some u := by simpa using hu
      rw [z] at hP
      exact (Option.some.inj hP).symm
    subst ey
    have fe := hf e (by simp)
    have fi := hf it (by simp)
    have helt : e < s.heap.objs.size := Heap.lt_size he
    have hilt : it < s.heap.objs.size := by obtain ⟨_, y, _⟩ := hit; exact Heap.lt_size y
    refine ⟨_, rfl, ?_⟩
    refine wpAny_letOwnedTupleGo_enum ho fun h2 he2 hs2 => ?_
    have hfr : H s.heap.objs.size = none := I.hok.fresh (Nat.le_refl _)
    have kk : ∀ b o, b ≠ e → b ≠ it → s.heap.get? b = some o → h2.get? b = some o := fun b o n1 n2 q => (hs2.2 b n1).trans (hk b o n1 n2 q)
    have nfe : ∀ b u', H b = some u' → b ≠ e ∧ b ≠ it := fun b u' q => ⟨(fun z => by rw [z, fe.1] at q; cases q), (fun z => by rw [z, fi.1] at q; cases q)⟩
    have hT2 : h2.get? s.heap.objs.size = some { cls := .type "tuple", data := .seq #[.int i tk, y] } := (hs2.2 _ (Nat.ne_of_gt helt)).trans hT
    have I1 : Inv X pins σ (upd H s.heap.objs.size (.tup [.int (i : Nat), x])) { s with heap := h2, toks := tk + 1 } := by
      refine I.step (g' := s.gens) (d' := s.drawn) (ch := [e, it]) (fun b hb => ?_) (fun b o _ _ hc' q _ => kk b o (fun z => hc' (by simp [z])) (fun z => hc' (by simp [z])) q) (fun b o _ _ hc' q _ => ⟨o.slots, kk b o (fun z => hc' (by simp [z])) (fun z => hc' (by simp [z])) q⟩)
        (fun b o _ q n => by rw [upd_ne (Nat.ne_of_lt (Heap.lt_size q))]; exact n) (fun b o hc' q => ⟨o, kk b o (fun z => hc' (by simp [z])) (fun z => hc' (by simp [z])) q⟩) (fun b xs' q => by rw [upd_ne (ne_of_none q hfr)]; exact q) (fun b o' u' q => by rw [upd_ne (ne_of_none q hfr)]; exact q)
        (fun b ps q => ⟨#[], by rw [upd_ne (ne_of_none q hfr), q]; simp⟩) (fun m hm => ?_) (fun b u' q => ?_) I.bare
      · rcases (show b = e ∨ b = it by simpa using hb) with z | z
        · rw [z]; exact ⟨fe.2.2.2.1, fe.2.1, fe.2.2.2.2.1, fe.2.2.2.2.2⟩
        · rw [z]; exact ⟨fi.2.2.2.1, fi.2.1, fi.2.2.2.2.1, fi.2.2.2.2.2⟩
      · obtain ⟨o, es, ep, q1, q2⟩ := hm
        exact ⟨o, es, ep, kk _ _ (Ne.symm fe.2.1) (Ne.symm fi.2.1) q1, q2⟩
      · by_cases hb : b = s.heap.objs.size
        · subst hb
          rw [upd_same] at q
          cases q
          exact ⟨(by show 2 ≤ sizeLine; decide), [.int (i : Int) tk, y], .cons ⟨tk, rfl⟩ (.cons ru .nil), ⟨_, hT2, rfl, _, rfl⟩⟩
        · rw [upd_ne hb] at q
          refine (I.hok b u' q).stay (fun c v' hcc z => ?_) (fun c z => by rw [upd_ne (ne_of_none z hfr)]; exact z) fun c xs' z => by rw [upd_ne (ne_of_none z hfr)]; exact z
          have hcn : c ≠ e ∧ c ≠ it := by
            rcases hcc with z1 | z1
            · rw [z1]; exact nfe b u' q
            · exact nfe c _ z1
          exact kk c v' hcn.1 hcn.2 z
    refine ⟨.ref s.heap.objs.size, _, I1, rfl, ⟨_, x, rfl, hfr, rfl, fun ys hy => by rw [I.tuple_inj hy hq]; exact hx⟩, ⟨⟨y, ?_⟩, ?_, hni⟩, fun b hb => ?_⟩
    · have e1 : (((i + 1 : Nat)) : Int) = (i : Int) + 1 := by omega
      rw [e1]
      exact he2
    · exact st'.1.at fun o q => (hs2.2 it (Ne.symm hni)).trans q
    · rcases (show b = e ∨ b = it by simpa using hb) with z | z
      · rw [z, upd_ne (Nat.ne_of_lt helt)]; exact fe.1
      · rw [z, upd_ne (Nat.ne_of_lt hilt)]; exact fi.1
  done := by
    intro X hP hw hK hc i pins s σ H E I hf st hg
    subst hP hw hK
    obtain ⟨xs, hq, hx⟩ := hg
    obtain ⟨⟨old, he⟩, hit, hni⟩ := st
    obtain ⟨its, rv, p, hz⟩ := I.tuple hq
    have pt : s.heap.IsTuple a its.toArray := p
    have hl := rv.length
    obtain ⟨f0, f1, f2, f3, f4, f5⟩ := hf it (by simp)
    have D := Draws.tuple (prog := X.prog) (w := X.w) (A := X.A.in1) (I.ok.hd hc) it a hne its.toArray
    have D2 : Draws X.prog X.w X.A.in1 it [it, a] its.toArray.size (fun i v => its.toArray[i]? = some v) (fun j h => ∃ k, j = its.toArray.size ∧ its.toArray.size ≤ k ∧ h.IsTupleIter it a k ∧ h.IsTuple a its.toArray) := ⟨fun _ _ ⟨_, _, _, ⟨o, ho, _⟩, _⟩ => ⟨o, ho⟩,
      fun _ _ _ ⟨k, h1, h2, h3, h4⟩ hk => ⟨k, h1, h2, h3.at fun o e => hk it (by simp) o e, h4.at fun o e => hk a (by simp) o e⟩,
      fun j s' Q E' hj ⟨k, h1, _⟩ _ => absurd hj (by omega),
      fun s' Q E' ⟨k, h1, h2, h3, h4⟩ hE => wpAny_nextOf_tuple_end (I.ok.hd hc) h3 h4 (by simp; simpa using h2) hE⟩
    exact wpAny_pyNext_enum_endD D2 he ⟨i, rfl, by rw [List.size_toArray]; omega, hit, pt⟩ fun h' eb => ⟨rfl, I.turned (t' := s.toks) (fun b o hb q => eb b o hb q) f0 f1 f3 f4 f5⟩
  self := fun A i s Q E st h => let ⟨⟨_, he⟩, _⟩ := st; wpAny_pyIter_enum he h
def iEnumT (K : PySem.W.Frag) (ta : TA) : TI := fun σ H R => ta σ H fun vs H1 => ∃ a xs, vs = [.ref a] ∧ SqT K H1 a xs ∧ R (ItE K a) H1
theorem pi_enumT {e : Expr} {ta : TA} {p pos tpos : Pos} {elts : List Expr} {kk : Nat} (hg : Gl X "enumerate") (hm : X.mg "enumerate" = none) (ha : PA X [e] ta) (hs : starEach [e] X.env = [(false, eval e X.env)] := by rfl) :
    PI X (.Tuple elts kk tpos) (.Call (.Name "enumerate" p) [e] [] pos) (iEnumT X.K ta) := by
  refine ⟨fun pins s σ H R I h => ?_⟩
  refine Call_ (ld_blt I hg hm boot_enumerate (PyProof.Rows.callWith_type1 (thn (ha.run pos pins s σ H _ I h) fun us s1 ⟨vs, H1, I1, r1, q1⟩ => ?_) hs rfl))
  obtain ⟨a, xs, ex, hq, q⟩ := q1
  subst ex
  obtain ⟨u, rfl, rx⟩ := vals1 r1
  cases rx
  obtain ⟨its, rv, p', hz⟩ := I1.tuple hq
  have pt : s1.heap.IsTuple a its.toArray := p'
  have hlt : a < s1.heap.objs.size := by obtain ⟨o, ho, _⟩ := pt; exact Heap.lt_size ho
  refine call_enum_tup pt fun h' he hit hsz hk => wpAny_pyIter_enum he ?_
  have I2 : Inv X pins σ H1 { s1 with heap := h' } := I1.kept (t' := s1.toks) hk
  refine ⟨s1.heap.objs.size + 1, [s1.heap.objs.size + 1, s1.heap.objs.size], _, _, H1, rfl, I2, turn_enumT a (s1.heap.objs.size + 1) s1.heap.objs.size (Nat.ne_of_lt hlt) (Nat.ne_of_lt (Nat.lt_succ_of_lt hlt)), ⟨⟨.none, he⟩, hit, Nat.succ_ne_self _⟩, fun b hb => ?_, q⟩
  have hle : s1.heap.objs.size ≤ b := by
    rcases (show b = s1.heap.objs.size + 1 ∨ b = s1.heap.objs.size by simpa using hb) with z | z
    · rw [z]; exact Nat.le_add_right _ _
    · rw [z]; exact Nat.le_refl _
  exact I1.fpOk hle (I1.hok.fresh hle)
end
end CB

/-! Part 6: sorted(xs), sorted(d), sorted(xs, key=f), sorted(d, key=f) over data. -/
namespace CB
open PySem PySem.Spec PyProof.Rows L2
open PySem.W (EachIs AllAlike Sortable dataLe keyToks keyToksAll alike alikeAll SortsAt dataKind sortVals copyHeap)

/-! ### data, place by place, as far as the first place that differs -/
def cmpAll : List PyData → List PyData → Bool
  | x :: xs, y :: ys => alike x y && (!PyData.eqv x y || cmpAll xs ys)
  | [], _ => true
  | _ :: _, [] => true
theorem cmp_cons {x y : PyData} {xs ys : List PyData} (h : cmpAll (x :: xs) (y :: ys) = true) : alike x y = true ∧ (PyData.eqv x y = true → cmpAll xs ys = true) := by
  rw [cmpAll, Bool.and_eq_true] at h
  refine ⟨h.1, fun e => ?_⟩
  have h2 := h.2
  rw [e] at h2
  simpa using h2
section
variable {prog : Program} {w : World} {A : Around} {s : Shared}
theorem lex_cmp {b fin : Bool} {Q : Bool → Shared → Prop} : ∀ (xs ys : List PyData) (i : Nat) (vs ws : List Value) (as bs : List Addr), ReadsAll s.heap vs xs as → ReadsAll s.heap ws ys bs → cmpAll xs ys = true → A.units + min (PyData.depthAll xs) (PyData.depthAll ys) < cLine →
    (b = true → i = 0 → ∀ x r t, xs = x :: r → x ≠ .tuple t) → fin = decide (xs.length < ys.length) → Q (PyProof.Rows.lexLt itemOrd (keyToksAll xs) (keyToksAll ys)) s → PySem.W.KatLex prog w A b fin Q (vs.zip ws) i s
  | [], ys, i, vs, ws, as, bs, ra, rb, _, hu, hb, hf, hq => PySem.W.katLex_alike [] ys i vs ws as bs ra rb (by cases ys <;> rfl) hu hb hf hq
  | x :: xs, [], i, vs, ws, as, bs, ra, rb, _, hu, hb, hf, hq => PySem.W.katLex_alike (x :: xs) [] i vs ws as bs ra rb rfl hu hb hf hq
  | x :: xs, y :: ys, i, _, _, _, _, .cons r rs, .cons r' rs', h, hu, hb, hf, hq => by
    obtain ⟨h1, h2⟩ := cmp_cons h
    rw [List.zip_cons_cons]
    refine PySem.W.kat_cons (PySem.W.eqAt_alike x y A s _ _ _ _ r r' h1 (SeqAt.room_head hu) prog w _ _ ?_)
    cases hx : PyData.eqv x y with
    | true =>
      rw [PySem.W.dataLt_all_yes h1 hx] at hq
      refine PySem.W.kat_yes (lex_cmp xs ys (i + 1) _ _ _ _ rs rs' (h2 hx) (SeqAt.room_tail hu) (fun _ z => absurd z (Nat.succ_ne_zero i)) ?_ hq)
      rw [hf, List.length_cons, List.length_cons]
      exact decide_eq_decide.mpr (by omega)
    | false =>
      rw [PySem.W.dataLt_all_no h1 hx] at hq
      refine PySem.W.kat_no (PySem.W.oneLt_alike (fun hbi t => ?_) r r' h1 (PySem.W.ne_none_of h1 hx) (SeqAt.room_head hu) hq)
      rw [Bool.and_eq_true] at hbi
      exact hb hbi.1 (by simpa using hbi.2) x xs t rfl
mutual
theorem nk_nil {h : Heap} : ∀ (k : NK) (v : Value) (as : List Addr), Reads h v k.data as → as = []
  | .none, _, _, r => by cases r; rfl
  | .num _, _, _, r => by cases r; rfl
  | .text _, _, _, r => by cases r; rfl
  | .tup ks, _, _, r => by
    cases r with
    | tuple h1 h2 h3 h4 => exact nks_nil ks _ _ h4
theorem nks_nil {h : Heap} : ∀ (ks : List NK) (vs : List Value) (as : List Addr), ReadsAll h vs (NestedKey.datas ks) as → as = []
  | [], _, _, r => by cases r; rfl
  | k :: ks, _, _, r => by
    cases r with
    | cons h1 h2 => rw [nk_nil k _ _ h1, nks_nil ks _ _ h2]; rfl
end
theorem nk_fun {h : Heap} {v : Value} {k k' : NK} {as as' : List Addr} (r : Reads h v k.data as) (r' : Reads h v k'.data as') : k = k' := NestedIs.inj k k' v (nested_of k v as r) (nested_of k' v as' r')
/-- keys that can be told apart -/
structure Cmp (ks : List NK) : Prop where
  tup : ∀ k ∈ ks, ∃ a r, k = .tup (.num a :: r)
  two : ∀ k ∈ ks, ∀ k' ∈ ks, ∀ xs ys, k = .tup xs → k' = .tup ys → cmpAll (NestedKey.datas xs) (NestedKey.datas ys) = true
theorem cmp_kind {h : Heap} {ks : List NK} {v : Value} {k : NK} {as : List Addr} (hk : k ∈ ks) (r : Reads h v k.data as) : (dataKind h (ks.map NestedKey.data)).keyOf v = some (keyToks k.data) := by
  have q : ∃ d, d ∈ ks.map NestedKey.data ∧ ∃ as, Reads h v d as := ⟨_, List.mem_map_of_mem hk, as, r⟩
  have e : (dataKind h (ks.map NestedKey.data)).keyOf v = some (keyToks q.choose) := by
    show (open Classical in if q : ∃ d, d ∈ ks.map NestedKey.data ∧ ∃ as, Reads h v d as then some (keyToks q.choose) else none) = _
    rw [dif_pos q]
  obtain ⟨h1, as', h2⟩ := q.choose_spec
  obtain ⟨k', _, e'⟩ := List.mem_map.mp h1
  rw [e, ← e']
  rw [← e'] at h2
  rw [nk_fun h2 r]
theorem each_nks {h : Heap} {ks : List NK} {vs : List Value} (e : EachIs (fun v (k : NK) => ∃ as, Reads h v k.data as) vs ks) : EachIs (fun v d => ∃ as, Reads h v d as) vs (ks.map NestedKey.data) := PySem.W.each_map (R := fun v d => ∃ as, Reads h v d as) NestedKey.data e
theorem sorts_cmp {vs : List Value} {ks : List NK} (e : EachIs (fun v (k : NK) => ∃ as, Reads s.heap v k.data as) vs ks) (hc : Cmp ks) (hu : ∀ k ∈ ks, A.units + k.data.depth < cLine) : SortsAt prog w A s (dataKind s.heap (ks.map NestedKey.data)) vs := by
  refine ⟨fun v hv => ?_, ?_⟩
  · obtain ⟨k, hk, as, r⟩ := e.left v hv
    exact ⟨_, cmp_kind hk r⟩
  · refine ⟨tuples' true, fun E x y a b Q ha hb hq => ?_, fun h2 E Q hq => ?_⟩
    · obtain ⟨d, as, hd, ra, rfl⟩ := PySem.W.dataKind_inv ha
      obtain ⟨d', as', hd', rb, rfl⟩ := PySem.W.dataKind_inv hb
      obtain ⟨k, hk, rfl⟩ := List.mem_map.mp hd
      obtain ⟨k', hk', rfl⟩ := List.mem_map.mp hd'
      obtain ⟨a1, r1, rfl⟩ := hc.tup k hk
      obtain ⟨a2, r2, rfl⟩ := hc.tup k' hk'
      have hcm := hc.two _ hk _ hk' _ _ rfl rfl
      have hroom := hu _ hk
      have hq' : Q (PySem.W.dataLt (.tuple (NestedKey.datas (.num a1 :: r1))) (.tuple (NestedKey.datas (.num a2 :: r2)))) s := hq
      rw [PySem.W.dataLt_tuple] at hq'
      cases ra with
      | @tuple l o zs n _ _ h1 h2 h3 h4 =>
        cases rb with
        | @tuple l' o' zs' n' _ _ g1 g2 g3 g4 =>
          have n1 : zs.size = (NestedKey.datas (.num a1 :: r1)).length := by simpa using SeqAt.ReadsAll.length _ _ _ h4
          have n2 : zs'.size = (NestedKey.datas (.num a2 :: r2)).length := by simpa using SeqAt.ReadsAll.length _ _ _ g4
          refine PySem.W.kat_lt h1 h3 g1 g3 (lex_cmp _ _ 0 _ _ _ _ h4 g4 hcm ?_ (fun _ _ x r t ex => ?_) (by rw [n1, n2]) hq')
          · have e1 : PyData.depth (NestedKey.data (.tup (.num a1 :: r1))) = PyData.depthAll (NestedKey.datas (.num a1 :: r1)) + 1 := by
              first | rfl | simp only [NestedKey.data, PyData.depth]
            rw [e1] at hroom
            exact Nat.lt_of_le_of_lt (Nat.add_le_add_left (Nat.min_le_left _ _) _) (by omega)
          · obtain ⟨rfl, _⟩ := List.cons.inj ex
            exact fun z => nomatch z
    · have ht : ∀ d, d ∈ ks.map NestedKey.data → ∃ x r, d = .tuple (x :: r) := fun d hd => by
        obtain ⟨k, hk, rfl⟩ := List.mem_map.mp hd
        obtain ⟨a1, r1, rfl⟩ := hc.tup k hk
        exact ⟨_, _, rfl⟩
      obtain ⟨fs, t1, t2, t3⟩ := PySem.W.each_katTups (each_nks e) ht
      refine PySem.W.kat_kind (T := .type "int") t1 (by omega) (fun f hf => ?_) (beq_self_eq_true _) hq
      obtain ⟨x, r, as, m1, m2⟩ := t3 f hf
      obtain ⟨k, hk, ek⟩ := List.mem_map.mp m1
      obtain ⟨a1, r1, rfl⟩ := hc.tup k hk
      have ex : PyData.int a1 = x := by
        have := PyData.tuple.inj ek
        exact (List.cons.inj this).1
      subst ex
      exact PySem.W.looks_reads m2
end

/-! ### what is collected -/
/-- from such an argument the items xs are collected -/
def CollR (X : Cx) (src : Hp → Addr → List V → Prop) : Prop := ∀ (pins : List (Addr × Obj)) (s : Shared) (σ : L2.St) (H : Hp) (a : Addr) (xs : List V), Inv X pins σ H s → src H a xs →
  xs.length ≤ sizeLine ∧ ∀ (E : Value → Shared → Prop) (R' : List Value → Shared → Prop), (∀ h' tk us, (∀ b o, s.heap.get? b = some o → h'.get? b = some o) → Vals xs us → R' us { s with heap := h', toks := tk }) → wpAny (model X.prog X.w) X.A.in1 (collect (.ref a)) R' E s
def srcD (H : Hp) (a : Addr) (xs : List V) : Prop := ∃ kvs : List (Key × V), Rd H a (.dK kvs) ∧ xs = kvs.map fun p => kV p.1
def srcN (P : Program) (w : World) (H : Hp) (a : Addr) (xs : List V) : Prop := ∃ ns : NX, Rd H a (ndO P w a ns) ∧ xs = keysX ns
section
variable {X : Cx}
theorem coll_list : CollR X (SqL X.K) := fun pins s σ H a xs I h => by
  obtain ⟨its, rv, pl, hz⟩ := I.list h
  refine ⟨hz, fun E R' k => collect_list pl.isList (k _ s.toks its (fun b o e => ?_) rv) (by rw [← rv.length]; exact hz)⟩
  rw [Heap.get?_update_ne _ _ _ _ (Nat.ne_of_lt (Heap.lt_size e))]
  exact Heap.get?_push_of_some _ e
theorem coll_nd (hc : X.calm = true) : CollR X (srcN X.prog X.w) := fun pins s σ H a xs I ⟨ns, n, ex⟩ => by
  subst ex
  obtain ⟨hz, hd, o, es, ep, e1, e2, e3, e4, e5⟩ := nd_raw I n
  refine ⟨by unfold keysX; rw [List.length_map]; exact hz, fun E R' k => ?_⟩
  exact PySem.W.kdu_collect (A := X.A.in1) (KdlSrc.rawDict (es := es) (ep := ep) hd) (I.ok.hd hc) ⟨o, e1, e2, e3⟩ (by rw [e4]; exact hz) fun h' tk acc hk hacc => k h' tk _ hk (items_keys (o := o) rfl e4 e5 hacc)
theorem vals_keys : ∀ (kvs : List (Key × V)) (us : List Value), us.length = kvs.length → (∀ (j : Nat) (p : Key × V) (v : Value), kvs[j]? = some p → us[j]? = some v → L2.RelV (kV p.1) v) → Vals (kvs.map fun p => kV p.1) us
  | [], [], _, _ => .nil
  | [], _ :: _, h, _ => by simp at h
  | _ :: _, [], h, _ => by simp at h
  | p :: kvs, u :: us, hl, h => .cons (h 0 p u rfl rfl) (vals_keys kvs us (by simpa using hl) fun j p' v e1 e2 => h (j + 1) p' v (by simpa using e1) (by simpa using e2))
/-- a new object laid where nothing stood -/
theorem inv_laid {pins : List (Addr × Obj)} {σ : L2.St} {H : Hp} {s : Shared} {h' : Heap} {a : Addr} {o : HO} {t' : Nat} (I : Inv X pins σ H s) (k : ∀ b u, s.heap.get? b = some u → b ≠ a ∧ h'.get? b = some u) (new : ObjOk X.prog X.w (upd H a o) h' a o) :
    H a = none ∧ Inv X pins σ (upd H a o) { s with heap := h', toks := t' } := by
  have there : ∀ b u, H b = some u → ∃ x, s.heap.get? b = some x := fun b u e => by
    have h := (I.hok b u e).lt
    have z := I.hok b u e
    cases u with
    | lst xs => obtain ⟨_, _, _, _, e⟩ := z; exact ⟨_, e⟩
    | tup xs => obtain ⟨_, _, _, o, e, _⟩ := z; exact ⟨o, e⟩
    | dK kvs => obtain ⟨_, _, _, _, o, _, _, e, _⟩ := z; exact ⟨o, e⟩
    | dT kvs => obtain ⟨_, _, _, _, o, _, _, e, _⟩ := z; exact ⟨o, e⟩
    | set S n => obtain ⟨o, _, _, _, e, _⟩ := z; exact ⟨o, e⟩
    | ins C dx fs => obtain ⟨_, _, _, e, _⟩ := z; exact ⟨_, e⟩
    | own y => exact z
    | xd fs => obtain ⟨_, ⟨o, _, _, e, _⟩, _⟩ := z; exact ⟨o, e⟩
    | rng lo hi => obtain ⟨_, _, _, e⟩ := z; exact ⟨_, e⟩
    | frz ob u => exact ⟨ob, z.1⟩
    | tbl ps => exact ⟨_, z⟩
    | met f y => exact ⟨_, z⟩
    | ext g => exact z.2.1
  have ne : ∀ b u, H b = some u → b ≠ a := fun b u e => by
    obtain ⟨x, hx⟩ := there b u e
    exact (k b x hx).1
  have hn : H a = none := by
    cases q : H a with
    | none => rfl
    | some u => exact absurd rfl (ne a u q)
  refine ⟨hn, I.un ⟨fun b u e _ _ _ => (k b u e).2, fun b u e _ _ _ => ⟨u.slots, (k b u e).2⟩, fun b u e n _ => by rw [upd_ne (k b u e).1]; exact n, fun b u e _ => ⟨u, (k b u e).2⟩, fun b xs e => by rw [upd_ne (ne b _ e)]; exact e, fun b x u e => by rw [upd_ne (ne b _ e)]; exact e,
    fun b ps e => ⟨#[], by rw [upd_ne (ne b _ e), e]; simp⟩⟩ fun b u e => ?_⟩
  by_cases hb : b = a
  · subst hb
    rw [upd_same] at e
    cases e
    exact new
  · rw [upd_ne hb] at e
    exact (I.hok b u e).stay (fun c v _ q => (k c v q).2) (fun c q => by rw [upd_ne (ne c _ q)]; exact q) fun c xs q => by rw [upd_ne (ne c _ q)]; exact q
theorem coll_dk (hc : X.calm = true) : CollR X srcD := fun pins s σ H a xs I ⟨kvs, n, ex⟩ => by
  subst ex
  obtain ⟨z, lo, vs, rel, dd⟩ := dk_rd I.hok n
  obtain ⟨ep, hat⟩ := dd.dictAt
  have hl := rel.length
  refine ⟨by rw [List.length_map]; exact z, fun E R' k => ?_⟩
  refine PySem.W.kdu_collect (A := X.A.in1) (PySem.W.kdl_dict (knd := mixKind X.prog X.w) (kvs := vs) (ep := ep) lo) (I.ok.hd hc) hat (by rw [← hl]; exact z) fun h' tk acc hk hacc => k h' tk _ hk ?_
  have hal : acc.toList.length = kvs.length := by rw [Array.length_toList, hacc.1, hl]
  refine vals_keys kvs _ hal fun j p v e1 e2 => ?_
  obtain ⟨k', x, e3, e4⟩ := hacc.2 j v (by rw [← Array.getElem?_toList]; exact e2)
  obtain ⟨q, f1, f2, f3⟩ := paired_get rel e1
  rw [e3] at f1
  cases f1
  have f2' : p.1 = k' := f2
  rw [f2']
  exact relV_key (show keyIs k' v = true from e4)
/-- V's that are these values and read so -/
def VD (K : PySem.W.Frag) (H : Hp) (u : Value) (d : PyData) : Prop := ∃ y, L2.RelV y u ∧ Dp K H y d
theorem vd_of {K : PySem.W.Frag} {H : Hp} : ∀ {xs : List V} {us : List Value} {ds : List PyData}, Vals xs us → DpAll K H xs ds → EachIs (VD K H) us ds
  | _, _, _, .nil, .nil => .nil
  | _, _, _, .cons r t, .cons h h' => .cons ⟨_, r, h⟩ (vd_of t h')
theorem of_vd {K : PySem.W.Frag} {H : Hp} : ∀ {us : List Value} {ds : List PyData}, EachIs (VD K H) us ds → ∃ ys, Vals ys us ∧ DpAll K H ys ds
  | _, _, .nil => ⟨[], .nil, .nil⟩
  | _, _, .cons ⟨y, r, h⟩ t => by
    obtain ⟨ys, h1, h2⟩ := of_vd t
    exact ⟨y :: ys, .cons r h1, .cons h h2⟩
theorem sorted_col {prog : Program} {w : World} {A : Around} {E : Value → Shared → Prop} {s : Shared} {r : Value} {kw : List (Str × Value)} {Q : Value → Shared → Prop} {G : Heap → List Value → Prop} (hG : ∀ h vs, G h vs → vs.length ≤ sizeLine)
    (hcol : ∀ (E' : Value → Shared → Prop) (R' : List Value → Shared → Prop), (∀ h' tk vs, G h' vs → R' vs { s with heap := h', toks := tk }) → wpAny (model prog w) A.in1 (collect r) R' E' s)
    (ha1 : argsOk "sorted" ⟨[r], kw⟩) (ha2 : ∀ x, argsOk "list.sort" ⟨[.ref x], kw⟩)
    (body : ∀ (E' : Value → Shared → Prop) h' tk vs, G h' vs → wpAny (model prog w) A.in1.in1 (Builtin.«list.sort» ⟨[.ref h'.objs.size], kw⟩) (fun f s' => f = .done (.ret .none) ∧ Q (.ref h'.objs.size) s') E' { s with heap := h'.push (seqObj "list" vs.toArray 0), toks := tk }) :
    wpAny (model prog w) A (call (.builtin "sorted") [r] kw) Q E s := by
  refine call_function_entry_kw kind_sorted plain_sorted entry_sorted ha1 ?_
  unfold Builtin.«sorted»
  refine wpAny_bind (m := checkCount "sorted" 1 1 _) (wpAny_pure ?_)
  refine wpAny_bind (hcol _ _ fun h' tk vs g => ?_)
  refine wpAny_bind (wpAny_newList ?_ (hG _ _ g))
  have ho : (h'.push (seqObj "list" vs.toArray 0)).get? h'.objs.size = some (seqObj "list" vs.toArray 0) := Heap.get?_push_size _ rfl
  refine wpAny_bind (wpAny_holding (wpAny_call_entry_kw slot_list_sort ⟨_, ho, rfl⟩ entry_list_sort (wpAny_mono (body _ h' tk vs g) (fun f s' hf => ?_) fun _ _ e => e) (ha2 _)))
  obtain ⟨rfl, hq⟩ := hf
  exact ⟨_, rfl, wpAny_pure ⟨_, rfl, hq⟩⟩

/-! ### sorted(..) -/
def rSort0 (K : PySem.W.Frag) (src : Hp → Addr → List V → Prop) : List V → Hp → VK → Prop := fun vs H Q => ∃ R a xs ds, vs = [.ref a] ∧ src H a xs ∧ Same R H ∧ DpAll K R xs ds ∧ AllAlike ds ∧ Sortable ds ∧ (∀ d ∈ ds, d.depth ≤ 16) ∧
  ∀ p ys, H p = none → DpAll K R ys (ds.mergeSort (dataLe false id)) → Q (.ref p) (upd H p (.lst ys))
theorem call_sort0 {src : Hp → Addr → List V → Prop} (hs : CollR X src) (hu : X.A.units + 64 < cLine) : CallR X (.builtin "sorted") (rSort0 X.K src) := by
  intro pins s σ H vs us Q I r h
  obtain ⟨R, a, xs, ds, rfl, hsr, hRH, hd, hal, hso, hdep, q⟩ := h
  obtain ⟨u, rfl, rx⟩ := vals1 r
  cases rx
  obtain ⟨hz, hcol⟩ := hs pins s σ H a xs I hsr
  refine sorted_col (G := fun h' us => (∀ b o, s.heap.get? b = some o → h'.get? b = some o) ∧ Vals xs us) (fun _ us g => by rw [← g.2.length]; exact hz) (fun E' R' k => hcol E' R' fun h' tk us k1 k2 => k h' tk us ⟨k1, k2⟩) (args_sorted1 _) (fun _ => args_list_sort _) fun E' h' tk us ⟨hk, rv⟩ => ?_
  have ho : (h'.push (seqObj "list" us.toArray 0)).get? h'.objs.size = some (seqObj "list" us.toArray 0) := Heap.get?_push_size _ rfl
  have hk2 : ∀ b o, s.heap.get? b = some o → b ≠ h'.objs.size ∧ (h'.push (seqObj "list" us.toArray 0)).get? b = some o := fun b o e => ⟨Nat.ne_of_lt (Heap.lt_size (hk b o e)), Heap.get?_push_of_some _ (hk b o e)⟩
  have hlu : us.length ≤ sizeLine := by rw [← rv.length]; exact hz
  have ev := vd_of rv hd
  have er : EachIs (fun v d => ∃ as, Reads s.heap v d as) us ds := ev.mono fun v d ⟨y, r1, h1⟩ => Dp.reads I d y v (dp_up hRH _ _ h1) r1
  have er2 : EachIs (fun v d => ∃ as, Reads (PySem.W.sortingHeap (h'.push (seqObj "list" us.toArray 0)) h'.objs.size us) v d as) us ds := er.mono fun v d ⟨as, r1⟩ => ⟨as, PyProof.Rows.Reads.keeps (fun b o e => PySem.W.sortingHeap_old (hk2 b o e).1 (hk2 b o e).2) r1⟩
  refine PySem.W.list_sort_vals ho (SortsAt.data (s := { s with heap := PySem.W.sortingHeap (h'.push (seqObj "list" us.toArray 0)) h'.objs.size us, toks := tk }) er2 hal hso fun d hd' => ?_) hlu ⟨rfl, ?_⟩
  · have := hdep d hd'
    show X.A.units + 1 + 1 + d.depth < cLine
    omega
  · have e3 := PySem.W.sortVals_data (enc := id) false ev (by simpa using er2) (by rw [List.map_id]; exact hal)
    obtain ⟨ys, h1, h2⟩ := of_vd e3
    obtain ⟨ep, he⟩ := PyProof.Rows.sortedHeap_at (out := (sortVals (dataKind (PySem.W.sortingHeap (h'.push (seqObj "list" us.toArray 0)) h'.objs.size us) ds) false us us).toArray) ho
    rw [List.map_id] at h1
    have f1 : ∀ b o, s.heap.get? b = some o → b ≠ h'.objs.size ∧ (PyProof.Rows.sortedHeap (h'.push (seqObj "list" us.toArray 0)) h'.objs.size us (sortVals (dataKind (PySem.W.sortingHeap (h'.push (seqObj "list" us.toArray 0)) h'.objs.size us) ds) false us us).toArray).get? b = some o := fun b o e => by
      refine ⟨(hk2 b o e).1, ?_⟩
      rw [PyProof.Rows.sortedHeap_old (hk2 b o e).1 (Heap.lt_size (hk2 b o e).2)]
      exact (hk2 b o e).2
    have f2 : ys.length ≤ sizeLine := by
      rw [dps_len h2, List.length_mergeSort, ← dps_len hd]
      exact hz
    obtain ⟨hn, I2⟩ := inv_laid (t' := tk) (o := .lst ys) I f1 ⟨f2, _, ep, h1, he⟩
    exact ⟨.ref h'.objs.size, _, I2, rfl, q _ ys hn h2⟩

/-! ### sorted(.., key=f) -/
theorem inv_there {pins : List (Addr × Obj)} {σ : L2.St} {H : Hp} {s : Shared} (I : Inv X pins σ H s) {b : Addr} {u : HO} (e : H b = some u) : ∃ x, s.heap.get? b = some x := by
  have z := I.hok b u e
  cases u with
  | lst xs => obtain ⟨_, _, _, _, e⟩ := z; exact ⟨_, e⟩
  | tup xs => obtain ⟨_, _, _, o, e, _⟩ := z; exact ⟨o, e⟩
  | dK kvs => obtain ⟨_, _, _, _, o, _, _, e, _⟩ := z; exact ⟨o, e⟩
  | dT kvs => obtain ⟨_, _, _, _, o, _, _, e, _⟩ := z; exact ⟨o, e⟩
  | set S n => obtain ⟨o, _, _, _, e, _⟩ := z; exact ⟨o, e⟩
  | ins C dx fs => obtain ⟨_, _, _, e, _⟩ := z; exact ⟨_, e⟩
  | own y => exact z
  | xd fs => obtain ⟨_, ⟨o, _, _, e, _⟩, _⟩ := z; exact ⟨o, e⟩
  | rng lo hi => obtain ⟨_, _, _, e⟩ := z; exact ⟨_, e⟩
  | frz ob u => exact ⟨ob, z.1⟩
  | tbl ps => exact ⟨_, z⟩
  | met f y => exact ⟨_, z⟩
  | ext g => exact z.2.1
/-- an address beyond all that stands -/
theorem fp_beyond {pins : List (Addr × Obj)} {σ : L2.St} {H : Hp} {s : Shared} {a : Addr} (I : Inv X pins σ H s) (h : ∀ b o, s.heap.get? b = some o → b < a) : FpOk X pins H a := by
  have hl : X.env.locals < a := by
    obtain ⟨m, ⟨o, _, _, e, _⟩, _⟩ := I.loc
    exact h _ o e
  refine ⟨?_, Nat.ne_of_gt hl, fun hf => ?_, .inr (Nat.le_trans I.ok.above (Nat.le_of_lt hl)), fun x c e z => ?_, fun p hp z => ?_⟩
  · cases q : H a with
    | none => rfl
    | some u =>
      obtain ⟨x, hx⟩ := inv_there I q
      exact absurd (h a x hx) (Nat.lt_irrefl _)
  · obtain ⟨_, o, ho, _⟩ := I.ok.funs.mem hf
    obtain ⟨o', ho'⟩ := I.base.there a o ho (fun z => I.ok.exfs a z hf)
    exact absurd (h a o' ho') (Nat.lt_irrefl _)
  · obtain ⟨v, o, ho, _⟩ := I.cell x c e
    rw [z] at ho
    exact absurd (h a o ho) (Nat.lt_irrefl _)
  · have ho := (I.pin p hp).1
    rw [z] at ho
    exact absurd (h a p.2 ho) (Nat.lt_irrefl _)
def rSortK (K : PySem.W.Frag) (src : Hp → Addr → List V → Prop) (f : Addr) (sp : Sp) : List V → List V → Hp → VK → Prop := fun vs zs H Q => ∃ R a xs ds, ∃ kd : PyData → NK, vs = [.ref a] ∧ zs = [.ref f] ∧ src H a xs ∧ Same R H ∧ DpAll K R xs ds ∧ Cmp (ds.map kd) ∧
  (∀ d ∈ ds, (kd d).data.depth ≤ 16) ∧ (∀ d ∈ ds, SpE K [] sp [.d d] (.d (kd d).data)) ∧ ∀ p ys R' H', Grow R H R' H' → H' p = none → DpAll K R' ys (ds.mergeSort (dataLe false fun d => (kd d).data)) → Q (.ref p) (upd H' p (.lst ys))
theorem vd_up {K : PySem.W.Frag} {H H' : Hp} (e : Same H H') {us : List Value} {ds : List PyData} (h : EachIs (VD K H) us ds) : EachIs (VD K H') us ds := h.mono fun _ d ⟨y, r, q⟩ => ⟨y, r, dp_up e d y q⟩
theorem each_app {α β : Type} {R : α → β → Prop} : ∀ {as : List α} {bs : List β} {a : α} {b : β}, EachIs R as bs → R a b → EachIs R (as ++ [a]) (bs ++ [b])
  | _, _, _, _, .nil, h => .cons h .nil
  | _, _, _, _, .cons g t, h => .cons g (each_app t h)
theorem each_get {α β : Type} {R : α → β → Prop} : ∀ {as : List α} {bs : List β} {i : Nat} {a : α}, EachIs R as bs → as[i]? = some a → ∃ b, bs[i]? = some b ∧ R a b
  | _, _, _, _, .nil, e => by simp at e
  | _, _, 0, _, .cons g t, e => by
    simp at e
    subst e
    exact ⟨_, rfl, g⟩
  | _, _, i + 1, a, .cons g t, e => by
    obtain ⟨b, h1, h2⟩ := each_get (i := i) (a := a) t (by simpa using e)
    exact ⟨b, by simpa using h1, h2⟩
/-- the state between two keys -/
def KAt (X : Cx) (pins : List (Addr × Obj)) (σ : L2.St) (R H : Hp) (a kS : Addr) (e1 : Nat) (ks : List NK) (s' : Shared) : Prop :=
  ∃ R' H' keys e, Inv X pins σ H' s' ∧ s'.heap.get? kS = some (seqObj "list" keys e) ∧ s'.heap.get? a = some (seqObj "list" #[] e1) ∧ FpOk X pins H' a ∧ FpOk X pins H' kS ∧ Grow R H R' H' ∧ EachIs (VD X.K R') keys.toList (ks.map NestedKey.data)
theorem call_sortK {src : Hp → Addr → List V → Prop} {k : Nat} {f : Addr} {fd : FuncData} {x : Str} {sp : Sp} (hs : CollR X src) (hr : Room (k + 2) X.A) (F : FnOk X.prog X.w X.K X.mg X.base CX0 k f fd [x] sp) (hb : Binds X.K fd [x] []) :
    CallRK X (.builtin "sorted") [Str.ofString "key"] (rSortK X.K src f sp) := by
  intro pins s σ H vs zs us ws Q I r rz h
  obtain ⟨R, a0, xs, ds, kd, rfl, rfl, hsr, hRH, hd, hcm, hdep, hsp, q⟩ := h
  obtain ⟨u, rfl, rx⟩ := vals1 r
  cases rx
  obtain ⟨u, rfl, rx⟩ := vals1 rz
  cases rx
  obtain ⟨hz, hcol⟩ := hs pins s σ H a0 xs I hsr
  show wpAny (model X.prog X.w) X.A (call (.builtin "sorted") [.ref a0] [(Str.ofString "key", .ref f)]) _ _ _
  refine sorted_col (G := fun h' us => (∀ b o, s.heap.get? b = some o → h'.get? b = some o) ∧ Vals xs us) (fun _ us g => by rw [← g.2.length]; exact hz) (fun E' R' k => hcol E' R' fun h' tk us k1 k2 => k h' tk us ⟨k1, k2⟩) (PyProof.Rows.ksk_s1 _ _) (fun _ => PyProof.Rows.ksk_l1 _ _) fun E' h' tk us ⟨hk, rv⟩ => ?_
  have hlu : us.length ≤ sizeLine := by rw [← rv.length]; exact hz
  have hld : us.length = ds.length := by rw [← rv.length, dps_len hd]
  generalize ha : h'.objs.size = a
  have ho : (h'.push (seqObj "list" us.toArray 0)).get? a = some (seqObj "list" us.toArray 0) := by rw [← ha]; exact Heap.get?_push_size _ rfl
  have hlt : ∀ b o, s.heap.get? b = some o → b < a := fun b o e => by rw [← ha]; exact Heap.lt_size (hk b o e)
  have hk2 : ∀ b o, s.heap.get? b = some o → (h'.push (seqObj "list" us.toArray 0)).get? b = some o := fun b o e => Heap.get?_push_of_some _ (hk b o e)
  generalize hh2 : h'.push (seqObj "list" us.toArray 0) = h2 at ho hk2 ⊢
  have hz2 : h2.objs.size = a + 1 := by rw [← hh2, size_push', ha]
  obtain ⟨e1, ho1⟩ : ∃ e1, (h2.update a (Obj.mapSeq fun _ => (#[] : Array Value))).get? a = some (seqObj "list" #[] e1) := ⟨_, get?_update_seq ho fun _ => #[]⟩
  rw [ksk_t1]
  unfold ksk_tree
  refine wpAny_bind (listItems_at ho rfl ?_)
  refine wpAny_bind (listUpdate_at ho rfl ?_ (by rw [List.size_toArray]; exact hlu) (Nat.zero_le _))
  refine wpAny_bind (seqEpoch_at ho1 rfl ?_)
  refine wpAny_bind (wpAny_newTuple ?_ (by show us.length ≤ _; exact hlu))
  refine wpAny_bind (wpAny_newList ?_ (Nat.zero_le _))
  refine wpAny_holding ?_
  generalize hkS : ((h2.update a (Obj.mapSeq fun _ => (#[] : Array Value))).push (seqObj "tuple" us.toArray 0)).objs.size = kS
  have ekS : kS = a + 2 := by rw [← hkS, size_push', Heap.size_update, hz2]
  have hka : kS ≠ a := by
    rw [ekS]
    exact Nat.ne_of_gt (Nat.lt_add_of_pos_right (by decide))
  have hltS : ∀ b o, s.heap.get? b = some o → b < kS := fun b o e => by
    rw [ekS]
    exact Nat.lt_of_lt_of_le (hlt b o e) (Nat.le_add_right _ _)
  have h3k : ∀ b o, s.heap.get? b = some o → (((h2.update a (Obj.mapSeq fun _ => (#[] : Array Value))).push (seqObj "tuple" us.toArray 0)).push (seqObj "list" #[] 0)).get? b = some o := fun b o e =>
    Heap.get?_push_of_some _ (Heap.get?_push_of_some _ ((Heap.get?_update_ne _ _ _ _ (Nat.ne_of_lt (hlt b o e))).trans (hk2 b o e)))
  have nk0 : (((h2.update a (Obj.mapSeq fun _ => (#[] : Array Value))).push (seqObj "tuple" us.toArray 0)).push (seqObj "list" #[] 0)).get? kS = some (seqObj "list" #[] 0) := by
    rw [← hkS]
    exact Heap.get?_push_size _ rfl
  have na0 : (((h2.update a (Obj.mapSeq fun _ => (#[] : Array Value))).push (seqObj "tuple" us.toArray 0)).push (seqObj "list" #[] 0)).get? a = some (seqObj "list" #[] e1) := Heap.get?_push_of_some _ (Heap.get?_push_of_some _ ho1)
  generalize ((h2.update a (Obj.mapSeq fun _ => (#[] : Array Value))).push (seqObj "tuple" us.toArray 0)).push (seqObj "list" #[] 0) = h3 at h3k nk0 na0 ⊢
  have I3 : Inv X pins σ H { s with heap := h3, toks := tk } := I.kept h3k
  have fa : FpOk X pins H a := fp_beyond I hlt
  have fS : FpOk X pins H kS := fp_beyond I hltS
  have ev := vd_of rv hd
  unfold ksk_rest
  refine wpAny_bind (wpAny_rule ?_)
  first
    | rw [List.forIn_toArray]
    | (rw [← Array.forIn_toList]; simp only [List.toList_toArray])
    | rw [← Array.forIn_toList]
  refine wpAny_bind (ksk_fold (fun i s' => KAt X pins σ R H a kS e1 ((ds.take i).map kd) s') us 0 _ ⟨R, H, #[], 0, I3, nk0, na0, fa, fS, Grow.refl hRH, by simp; exact .nil⟩ ?step ?done)
  case step =>
    rintro j u s' hu ⟨R', H', keys, e, I', nk, na, fa', fS', g, ek⟩
    simp only [Nat.zero_add] at ek ⊢
    obtain ⟨d, hdj, y, ry, hy⟩ := each_get ev hu
    have hdm : d ∈ ds := List.mem_of_getElem? hdj
    have hA : Room k X.A.in1.in1 := hr.in1.in1
    refine wpAny_bind (wpAny_attempt (wpAny_call (codeAny_mono (F.run X.A.in1.in1 X.stack s' H' ⟨[u], []⟩ [u] [y] (fun v H2 => ∃ R2, Grow R' H' R2 H2 ∧ Dp X.K R2 v (kd d).data) E0 hA I'.env0.in1.in1 (hb s' [u] I'.kIn rfl) (.cons ry .nil)
      (hsp d hdm R' H' [y] ⟨g.rh, (fun _ q => nomatch q), List.nodup_nil⟩ ⟨slr_d (dp_up g.rr _ _ hy), trivial⟩ _ _ fun w R2 H2 g2 e2 => ⟨R2, g2, d_slr e2⟩)) fun r s2 hr2 => ?_)))
    cases r with
    | error e => exact False.elim hr2
    | ok fl =>
      cases fl with
      | next => exact False.elim hr2
      | brk => exact False.elim hr2
      | cont => exact False.elim hr2
      | ret kv =>
        obtain ⟨v, H2, os, bare, un, hok, rk, R2, g2, dk⟩ := hr2
        have I2 : Inv X pins σ H2 s2 := I'.call' (ch := []) os un hok bare (fun b z => nomatch z)
        have nfr : ∀ b, FpOk X pins H' b → b ∉ frs X.stack := fun b fb z => by
          rcases List.mem_cons.mp (I'.stkSub b z) with q | q
          · exact fb.2.1 q
          · exact fb.2.2.1 q
        have nk2 := un.keep kS _ nk fS'.1 (nfr kS fS') (by simp)
        have na2 := un.keep a _ na fa'.1 (nfr a fa') (by simp)
        have fa2 : FpOk X pins H2 a := ⟨un.free a _ na fa'.1 (by simp), fa'.2⟩
        have fS2 : FpOk X pins H2 kS := ⟨un.free kS _ nk fS'.1 (by simp), fS'.2⟩
        have hkl : keys.size ≤ us.length := by
          have h1 := ek.length
          rw [Array.length_toList, List.length_map, List.length_map, List.length_take] at h1
          have hj : j < us.length := (List.getElem?_eq_some_iff.mp hu).1
          omega
        have s1 := Heap.SameBut.update s2.heap kS (Obj.mapSeq (·.push kv))
        obtain ⟨c2, hc2⟩ : ∃ c2, (s2.heap.update kS (Obj.mapSeq (·.push kv))).get? kS = some (seqObj "list" (keys.push kv) c2) := ⟨_, get?_update_seq nk2 (·.push kv)⟩
        try dsimp only
        refine wpAny_bind (listUpdate_at nk2 rfl ?_ (Nat.le_trans hkl hlu) (Nat.le_trans (Nat.le_of_eq (Array.size_push ..)) (Nat.succ_le_succ (Nat.le_trans hkl hlu))))
        have I4 : Inv X pins σ H2 { s2 with heap := s2.heap.update kS (Obj.mapSeq (·.push kv)) } := I2.turned (t' := s2.toks) (it := kS) (fun b o hb' q => (s1.2 b hb').trans q) fS2.1 fS2.2.1 fS2.2.2.2.1 fS2.2.2.2.2.1 fS2.2.2.2.2.2
        refine wpAny_pure ⟨rfl, R2, H2, keys.push kv, c2, I4, hc2, (s1.2 a hka.symm).trans na2, fa2, fS2, g.trans g2, ?_⟩
        have e3 : ((ds.take (j + 1)).map kd).map NestedKey.data = ((ds.take j).map kd).map NestedKey.data ++ [(kd d).data] := by rw [List.take_add_one, hdj]; simp
        rw [Array.toList_push, e3]
        exact each_app (vd_up g2.rr ek) ⟨v, rk, dk⟩
  case done =>
    rintro s' ⟨R', H', keys, e, I', nk, na, fa', fS', g, ek⟩
    have e3 : ds.take (0 + us.length) = ds := List.take_of_length_le (by omega)
    rw [e3] at ek
    have hsz : keys.size = us.length := by
      have h1 := ek.length
      rw [Array.length_toList, List.length_map, List.length_map] at h1
      omega
    have er : EachIs (fun v (k : NK) => ∃ as, Reads s'.heap v k.data as) keys.toList (ds.map kd) := by
      refine (PySem.W.each_of_map NestedKey.data ek).mono fun v kk ⟨y, r1, h1⟩ => ?_
      exact Dp.reads I' kk.data y v (dp_up g.rh _ _ h1) r1
    try dsimp only
    refine wpAny_bind (listItems_at nk rfl ?_)
    have keep : ∀ {h4 : Heap}, PySem.W.KeepsBut a (PySem.W.hideAll s'.heap [kS]) h4 → ∀ b o, b ≠ a → b ≠ kS → s'.heap.get? b = some o → h4.get? b = some o := fun kp b o n1 n2 e => kp b o n1 (PySem.W.hideAll_get [kS] e (by simp; exact n2))
    refine PySem.W.keyH_end (κ := dataKind s'.heap ((ds.map kd).map NestedKey.data)) (h₁ := PySem.W.hideAll s'.heap [kS]) (fun b o _ e => PySem.W.of_hideAll [kS] e) (PySem.W.hideAll_none [kS] (by simp)) nk na hka (sorts_cmp er hcm fun kk hkk => ?_) hsz hlu fun h4 tk4 c kp n4 => ⟨rfl, ?_⟩
    · obtain ⟨d, hdm, rfl⟩ := List.mem_map.mp hkk
      have := hdep d hdm
      have h5 := hr.un
      show X.A.units + 1 + 1 + (kd d).data.depth < cLine
      omega
    · have ek1 : EachIs (fun v (kk : NK) => (dataKind s'.heap ((ds.map kd).map NestedKey.data)).keyOf v = some (keyToks kk.data)) keys.toList (ds.map kd) :=
        (PySem.W.each_mem er).mono fun v kk ⟨⟨as, r1⟩, hm⟩ => cmp_kind hm r1
      have ek2 : EachIs (fun v d => (dataKind s'.heap ((ds.map kd).map NestedKey.data)).keyOf v = some (keyToks (kd d).data)) keys.toList ds := PySem.W.each_of_map kd ek1
      have e5 : EachIs (VD X.K R') (sortVals (dataKind s'.heap ((ds.map kd).map NestedKey.data)) false keys.toList us) (ds.mergeSort (dataLe false fun d => (kd d).data)) :=
        PySem.W.sortVals_each (κ := dataKind s'.heap ((ds.map kd).map NestedKey.data)) (fun d => keyToks (kd d).data) (vd_up g.rr ev) ek2
      obtain ⟨ys, r5, d5⟩ := of_vd e5
      have hyl : ys.length ≤ sizeLine := by
        rw [dps_len d5, List.length_mergeSort, ← dps_len hd]
        exact hz
      have ne : ∀ b u, H' b = some u → b ≠ a ∧ b ≠ kS := fun b u z => ⟨(fun y => by rw [y, fa'.1] at z; cases z), (fun y => by rw [y, fS'.1] at z; cases z)⟩
      have kk := keep kp
      have I5 : Inv X pins σ (upd H' a (.lst ys)) { s' with heap := h4, toks := tk4 } := by
        have hch : ∀ b ∈ [a, kS], FpOk X pins H' b := fun b hb' => by
          rcases (show b = a ∨ b = kS by simpa using hb') with z | z
          · rw [z]; exact fa'
          · rw [z]; exact fS'
        have na' : ∀ {b : Addr}, b ∉ [a, kS] → b ≠ a ∧ b ≠ kS := fun {b} z => ⟨fun y => z (by simp [y]), fun y => z (by simp [y])⟩
        refine I'.step (g' := s'.gens) (d' := s'.drawn) (ch := [a, kS]) (fun b hb' => ⟨(hch b hb').2.2.2.1, (hch b hb').2.1, (hch b hb').2.2.2.2.1, (hch b hb').2.2.2.2.2⟩) (fun b o _ _ hc' z _ => kk b o (na' hc').1 (na' hc').2 z) (fun b o _ _ hc' z _ => ⟨o.slots, kk b o (na' hc').1 (na' hc').2 z⟩)
          (fun b o hc' z n => by rw [upd_ne (na' hc').1]; exact n) (fun b o hc' z => ⟨o, kk b o (na' hc').1 (na' hc').2 z⟩) (fun b xs' z => by rw [upd_ne (ne b _ z).1]; exact z) (fun b o' u' z => by rw [upd_ne (ne b _ z).1]; exact z) (fun b ps z => ⟨#[], by rw [upd_ne (ne b _ z).1, z]; simp⟩) (fun m hm => ?_) (fun b u' z => ?_) I'.bare
        · obtain ⟨o, es, ep, q1, q2⟩ := hm
          exact ⟨o, es, ep, kk _ _ (Ne.symm fa'.2.1) (Ne.symm fS'.2.1) q1, q2⟩
        · by_cases hb' : b = a
          · subst hb'
            rw [upd_same] at z
            cases z
            exact ⟨hyl, _, c, r5, n4⟩
          · rw [upd_ne hb'] at z
            refine (I'.hok b u' z).stay (fun c v' hcc w => ?_) (fun c w => by rw [upd_ne (ne c _ w).1]; exact w) fun c xs' w => by rw [upd_ne (ne c _ w).1]; exact w
            have hcn : c ≠ a ∧ c ≠ kS := by
              rcases hcc with z1 | z1
              · rw [z1]; exact ne b u' z
              · exact ne c _ z1
            exact kk c v' hcn.1 hcn.2 w
      exact ⟨.ref a, _, I5, rfl, q a ys R' H' g fa'.1 d5⟩
end
end CB

/-! Part 7: expressions of the text with what they are worth, in one judgement. -/
namespace CB
open PySem PySem.Spec PyProof.Rows L2

/-! ### the weakest readings -/
section
variable (X : Cx)
@[irreducible] def eW (e : Expr) : TE := fun σ H Q => ∀ pins s, Inv X pins σ H s → wpAny (model X.prog X.w) X.A (eval e X.env) (EP X pins σ Q) X.xe s
@[irreducible] def tW (e : Expr) : TT := fun σ H Q => ∀ pins s, Inv X pins σ H s → wpAny (model X.prog X.w) X.A (isTrue e X.env (eval e X.env)) (TP X pins σ Q) X.xe s
@[irreducible] def wW (e : Expr) : TT := fun σ H Q => ∀ whole pins s, Inv X pins σ H s → wpAny (model X.prog X.w) X.A (isTrue e X.env whole) (TP X pins σ Q) X.xe s
@[irreducible] def aW (es : List Expr) : TA := fun σ H Q => ∀ pos pins s, Inv X pins σ H s → wpAny (model X.prog X.w) X.A (spliced (backTo pos (starEach es X.env))) (AP X pins σ Q) X.xe s
@[irreducible] def sW (st : Stmt) : TS := fun D σ H => ∀ pins s, Inv X pins σ H s → wpAny (model X.prog X.w) X.A (exec st X.env) (SP X pins D) X.xe s
@[irreducible] def bW (st : List Stmt) : TS := fun D σ H => ∀ pins s, Inv X pins σ H s → wpAny (model X.prog X.w) X.A (execs st X.env) (SP X pins D) X.xe s
end
section
variable {X : Cx} {e : Expr} {es : List Expr} {st : Stmt} {sts : List Stmt}
theorem pe_w : PE X e (eW X e) := ⟨fun pins s _ _ _ I h => by unfold eW at h; exact h pins s I⟩
theorem pt_w : PT X e (tW X e) := ⟨fun pins s _ _ _ I h => by unfold tW at h; exact h pins s I⟩
theorem pw_w : PW X e (wW X e) := ⟨fun whole pins s _ _ _ I h => by unfold wW at h; exact h whole pins s I⟩
theorem pa_w : PA X es (aW X es) := ⟨fun pos pins s _ _ _ I h => by unfold aW at h; exact h pos pins s I⟩
theorem ps_w : PS X st (sW X st) := ⟨fun pins s _ _ _ I h => by unfold sW at h; exact h pins s I⟩
theorem pss_w : PSs X sts (bW X sts) := ⟨fun pins s _ _ _ I h => by unfold bW at h; exact h pins s I⟩
theorem pe_le {t : TE} (h : PE X e t) {σ : L2.St} {H : Hp} {Q : VK} (q : t σ H Q) : eW X e σ H Q := by unfold eW; exact fun pins s I => h.run pins s σ H Q I q
theorem pt_le {t : TT} (h : PT X e t) {σ : L2.St} {H : Hp} {Q : Bool → Hp → Prop} (q : t σ H Q) : tW X e σ H Q := by unfold tW; exact fun pins s I => h.run pins s σ H Q I q
theorem pw_le {t : TT} (h : PW X e t) {σ : L2.St} {H : Hp} {Q : Bool → Hp → Prop} (q : t σ H Q) : wW X e σ H Q := by unfold wW; exact fun whole pins s I => h.run whole pins s σ H Q I q
theorem pa_le {t : TA} (h : PA X es t) {σ : L2.St} {H : Hp} {Q : List V → Hp → Prop} (q : t σ H Q) : aW X es σ H Q := by unfold aW; exact fun pos pins s I => h.run pos pins s σ H Q I q
theorem ps_le {t : TS} (h : PS X st t) {D : Ends} {σ : L2.St} {H : Hp} (q : t D σ H) : sW X st D σ H := by unfold sW; exact fun pins s I => h.run pins s σ H D I q
theorem bW_run {D : Ends} {σ : L2.St} {H : Hp} (h : bW X sts D σ H) : ∀ pins s, Inv X pins σ H s → wpAny (model X.prog X.w) X.A (execs sts X.env) (SP X pins D) X.xe s := by unfold bW at h; exact h
theorem bW_of {D : Ends} {σ : L2.St} {H : Hp} (h : ∀ pins s, Inv X pins σ H s → wpAny (model X.prog X.w) X.A (execs sts X.env) (SP X pins D) X.xe s) : bW X sts D σ H := by unfold bW; exact h
theorem eW_run {Q : VK} {σ : L2.St} {H : Hp} (h : eW X e σ H Q) : ∀ pins s, Inv X pins σ H s → wpAny (model X.prog X.w) X.A (eval e X.env) (EP X pins σ Q) X.xe s := by unfold eW at h; exact h
theorem tW_run {Q : Bool → Hp → Prop} {σ : L2.St} {H : Hp} (h : tW X e σ H Q) : ∀ pins s, Inv X pins σ H s → wpAny (model X.prog X.w) X.A (isTrue e X.env (eval e X.env)) (TP X pins σ Q) X.xe s := by unfold tW at h; exact h
theorem pss_le {t : TS} (h : PSs X sts t) {D : Ends} {σ : L2.St} {H : Hp} (q : t D σ H) : bW X sts D σ H := by unfold bW; exact fun pins s I => h.run pins s σ H D I q
end

/-! ### what turns nothing -/
def EX (X : Cx) (G : List Sl) (own : OL) (e : Expr) (s : Sl) : Prop := Ev X.K G own (eW X e) s
def ET (X : Cx) (G : List Sl) (own : OL) (e : Expr) (b : Bool) : Prop := EvT X.K G own (tW X e) b
def EW (X : Cx) (G : List Sl) (own : OL) (e : Expr) (b : Bool) : Prop := EvT X.K G own (wW X e) b
def EA (X : Cx) (G : List Sl) (own : OL) (es : List Expr) (ss : List Sl) : Prop := EvA X.K G own (aW X es) ss
def EO (X : Cx) (G : List Sl) (own : OL) (e : Option Expr) (o : Option Int) : Prop := ∃ t, PO X e t ∧ EvO X.K G own t o
section
variable {X : Cx} {G : List Sl} {own : OL} {e a b c o : Expr} {es : List Expr} {s x y : Sl} {pos : Pos}
theorem EX.of {t : TE} (h : PE X e t) (q : Ev X.K G own t s) : EX X G own e s := fun R H z w hz Q k => pe_le h (q R H z w hz Q k)
theorem ET.of {t : TT} {b : Bool} (h : PT X e t) (q : EvT X.K G own t b) : ET X G own e b := fun R H z w hz Q k => pt_le h (q R H z w hz Q k)
theorem EW.of {t : TT} {b : Bool} (h : PW X e t) (q : EvT X.K G own t b) : EW X G own e b := fun R H z w hz Q k => pw_le h (q R H z w hz Q k)
theorem EA.of {t : TA} {ss : List Sl} (h : PA X es t) (q : EvA X.K G own t ss) : EA X G own es ss := fun R H z w hz Q k => pa_le h (q R H z w hz Q k)
theorem x_is (h : EX X G own e s) (q : s = x) : EX X G own e x := q ▸ h
theorem x_t {b d : Bool} (h : ET X G own e b) (q : b = d) : ET X G own e d := q ▸ h
theorem x_var (i : Nat) {n : Str} {s : Sl} (h : G[i]? = some s := by rfl) (hs : s ≠ .u := by intro h; cases h) (hN : X.N[i]? = some n := by rfl) (hv : Vis X.env.scope n := by first | exact Or.inl rfl | exact Or.inr (Or.inl rfl) | exact Or.inr (Or.inr rfl))
    (hd : (n == ("__debug__" : Str)) = false := by decide) (hcd : (n == ("__classdict__" : Str)) = false := by decide) : EX X G own (.Name n pos) s := EX.of (pe_var hN hv hd hcd) (ev_var h hs)
theorem x_int {i : Int} {j} : EX X G own (.Constant (.int i) j pos) (.d (.int i)) := EX.of pe_int ev_int
theorem x_str {i : Str} {j} : EX X G own (.Constant (.str i) j pos) (.d (.str i)) := EX.of pe_str ev_str
theorem x_bl {i : Bool} {j} : EX X G own (.Constant (.bool i) j pos) (.d (.bool i)) := EX.of pe_bl ev_bl
theorem x_non {j} : EX X G own (.Constant .none j pos) (.d .none) := EX.of pe_non ev_non
theorem x_globI {n : Str} {i : Int} (hm : ∃ t, X.mg n = some (.int i t)) (hg : Gl X n := by rfl) (hd : (n == ("__debug__" : Str)) = false := by decide) : EX X G own (.Name n pos) (.d (.int i)) := by
  obtain ⟨t, hm⟩ := hm
  exact EX.of (pe_glob (v := .int i) hg hm ⟨t, rfl⟩ hd) ev_int
theorem x_globT {n : Str} {ta : Addr} {xs : List V} {ds : List PyData} (hm : X.mg n = some (.ref ta)) (h : ∀ H, SqT X.K H ta xs) (hd : ∀ H, DpAll X.K H xs ds) (hg : Gl X n := by rfl) (hdb : (n == ("__debug__" : Str)) = false := by decide) : EX X G own (.Name n pos) (.d (.tuple ds)) :=
  EX.of (pe_glob (v := .ref ta) hg hm rfl hdb) (ev_tab h hd)
/-! operations -/
theorem x_op {op : Operator} {r : R2} (ho : OpR X (binaryOp op) r) (hr : RD X.K own r x y s) (ha : EX X G own a x) (hb : EX X G own b y) : EX X G own (.BinOp a op b pos) s := EX.of (pe_op ho pe_w pe_w) (ev_op ha hb hr)
theorem x_add {i j : Int} (ha : EX X G own a (.d (.int i))) (hb : EX X G own b (.d (.int j))) : EX X G own (.BinOp a .Add b pos) (.d (.int (i + j))) := x_op op_add rd_Ii ha hb
theorem x_sub {i j : Int} (ha : EX X G own a (.d (.int i))) (hb : EX X G own b (.d (.int j))) : EX X G own (.BinOp a .Sub b pos) (.d (.int (i - j))) := x_op op_sub rd_Ii ha hb
theorem x_mod {i j : Int} (hj : 0 < j) (ha : EX X G own a (.d (.int i))) (hb : EX X G own b (.d (.int j))) : EX X G own (.BinOp a .Mod b pos) (.d (.int (i % j))) := x_op op_mod (rd_IC hj) ha hb
theorem x_cmp {op : CmpOp} {r : R2} (ho : OpR X (compareOp op) r) (hr : RD X.K own r x y s) (hm : behindInMarks op b = false) (ha : EX X G own a x) (hb : EX X G own b y) : EX X G own (.Compare a [op] [b] pos) s := EX.of (pe_cmpR ho pe_w pe_w hm) (ev_op ha hb hr)
theorem x_cmpT {op : CmpOp} {r : R2} {k : Bool} (ho : OpR X (compareOp op) r) (hr : RD X.K own r x y (.d (.bool k))) (hm : behindInMarks op b = false) (ha : EX X G own a x) (hb : EX X G own b y) : ET X G own (.Compare a [op] [b] pos) k :=
  ET.of (pt_cmpR ho pe_w pe_w hm) (et_test (ev_op ha hb hr))
theorem x_pc {op : CmpOp} {t : TE} (h : PC X op a b t) (q : Ev X.K G own t s) (h1 : behindInMarks op b = false := by first | exact nobehind _ (by decide) (by decide) | rfl) : EX X G own (.Compare a [op] [b] pos) s := EX.of (pe_cmp h h1) q
theorem x_pcT {op : CmpOp} {t : TE} {k : Bool} (h : PC X op a b t) (q : Ev X.K G own t (.d (.bool k))) (h1 : behindInMarks op b = false := by first | exact nobehind _ (by decide) (by decide) | rfl) : ET X G own (.Compare a [op] [b] pos) k := ET.of (pt_cmp h h1) (et_B q)
theorem x_truth {k : Bool} (ha : EX X G own a (.d (.bool k))) (he : ∀ whole, isTrue a X.env whole = (do let v ← whole; standAt a.pos; holding [v] (truthy v))) : ET X G own a k :=
  ET.of (pt_truth pe_w he) fun R H z w hz Q q => ha R H z w hz _ fun v R1 H1 g1 e1 => by
    obtain rfl := dp_bool (d_slr e1)
    exact ⟨k, rfl, q R1 H1 g1⟩
theorem x_not {k : Bool} (h : ET X G own a k) : ET X G own (.UnaryOp .Not a pos) (!k) := ET.of (pt_not pt_w) (et_not h)
theorem x_pw {k : Bool} (h : EW X G own a k) : ET X G own a k := ET.of pw_w.pt h
theorem x_and1 {k : Bool} (h : ET X G own a k) : EW X G own (.BoolOp .And [a] pos) k := EW.of (pw_and1 pt_w) h
theorem x_or1 {k : Bool} (h : ET X G own a k) : EW X G own (.BoolOp .Or [a] pos) k := EW.of (pw_or1 pt_w) h
theorem x_and {k l : Bool} (h : ET X G own a k) (h2 : k = true → EW X G own (.BoolOp .And (b :: es) pos) l) : EW X G own (.BoolOp .And (a :: b :: es) pos) (k && l) := EW.of (pw_and pt_w pw_w) (et_and h h2)
theorem x_or {k l : Bool} (h : ET X G own a k) (h2 : k = false → EW X G own (.BoolOp .Or (b :: es) pos) l) : EW X G own (.BoolOp .Or (a :: b :: es) pos) (k || l) := EW.of (pw_or pt_w pw_w) (et_or h h2)
theorem x_if {k : Bool} (h : ET X G own c k) (h1 : k = true → EX X G own a s) (h2 : k = false → EX X G own b s) : EX X G own (.IfExp c a b pos) s := EX.of (pe_ifExp pt_w pe_w pe_w) (ev_if h h1 h2)
theorem x_andV {k l : Bool} (h1 : EX X G own a (.d (.bool k))) (h2 : k = true → EX X G own (.BoolOp .And (b :: es) pos) (.d (.bool l))) : EX X G own (.BoolOp .And (a :: b :: es) pos) (.d (.bool (k && l))) := EX.of (pe_and pe_w pe_w) (ev_andV h1 h2)
/-! subscripts, slices -/
theorem x_ixT {ds : List PyData} {i : Int} {d : PyData} (ha : EX X G own a (.d (.tuple ds))) (hb : EX X G own b (.d (.int i))) (e : atI ds i = some d := by rfl) (hs : PlainIx b := by exact fun _ _ => rfl) : EX X G own (.Subscript a b pos) (.d d) := EX.of (pe_ix ix_tup pe_w pe_w hs) (ev_op ha hb (rd_ixT e))
theorem x_ixL {ds : List PyData} {i : Int} {d : PyData} (ha : EX X G own a (.d (.list ds))) (hb : EX X G own b (.d (.int i))) (e : atI ds i = some d := by rfl) (hs : PlainIx b := by exact fun _ _ => rfl) : EX X G own (.Subscript a b pos) (.d d) := EX.of (pe_ix ix_list pe_w pe_w hs) (ev_op ha hb (rd_ixL e))
theorem o_none : EO X G own none none := ⟨_, po_none, eo_none⟩
theorem o_some {i : Int} (h : EX X G own e (.d (.int i))) : EO X G own (some e) (some i) := ⟨_, po_some pe_w, eo_some h⟩
theorem x_slT {ds es : List PyData} {lo hi : Option Expr} {l h : Option Int} {p2 : Pos} (ha : EX X G own a (.d (.tuple ds))) (h1 : EO X G own lo l) (h2 : EO X G own hi h) (q : cutA ds l h = es := by rfl) : EX X G own (.Subscript a (.Slice lo hi none p2) pos) (.d (.tuple es)) := by
  obtain ⟨t1, p1, e1⟩ := h1
  obtain ⟨t2, p2, e2⟩ := h2
  exact q ▸ EX.of (pe_slice sl_tupA pe_w p1 p2) (ev_slT ha e1 e2)
theorem x_slL {ds es : List PyData} {lo hi : Option Expr} {l h : Option Int} {p2 : Pos} (ha : EX X G own a (.d (.list ds))) (h1 : EO X G own lo l) (h2 : EO X G own hi h) (q : cutA ds l h = es := by rfl) : EX X G own (.Subscript a (.Slice lo hi none p2) pos) (.d (.list es)) := by
  obtain ⟨t1, p1, e1⟩ := h1
  obtain ⟨t2, p2, e2⟩ := h2
  exact q ▸ EX.of (pe_slice sl_list pe_w p1 p2) (ev_slL ha e1 e2)
/-! fields, displays, arguments -/
theorem x_fld {p C : Addr} {fs : List (Str × Sl)} {f : Str} (i : Nat) (ha : EX X G own a (.v (.ref p))) (hc : Cls X.K C) (hn : NoAttr X.K C f) (ho : own[i]? = some (p, asI X.K C fs) := by rfl) (hl : fs.lookup f = some s := by rfl) (hb : attributeBase a f X.env (eval a X.env) = eval a X.env := by rfl) :
    EX X G own (.Attribute a f pos) s := EX.of (pe_fld pe_w hb) (ev_fld ha ho hc hn hl)
theorem a_nil : EA X G own [] [] := EA.of pa_nil ea_nil
theorem a_cons {ss : List Sl} (h : EX X G own e s) (ht : EA X G own es ss) (hs : starEach (e :: es) X.env = (false, eval e X.env) :: starEach es X.env := by rfl) : EA X G own (e :: es) (s :: ss) := EA.of (pa_cons pe_w pa_w hs) (ea_cons h ht)
theorem x_tup {ds : List PyData} {k} (h : EA X G own es (ds.map .d)) (hz : ds.length ≤ 1000 := by exact Nat.le_of_ble_eq_true rfl) : EX X G own (.Tuple es k pos) (.d (.tuple ds)) := EX.of (pe_tup pa_w) (ev_tup h hz)
theorem x_lst {ds : List PyData} (h : EA X G own es (ds.map .d)) (hz : ds.length ≤ 1000 := by exact Nat.le_of_ble_eq_true rfl) : EX X G own (.List es pos) (.d (.list ds)) := EX.of (pe_lst pa_w) (ev_lst h hz)
/-! calls of built-ins -/
theorem x_cb {f : Str} {id : String} {r : List V → Hp → VK → Prop} {ss : List Sl} {p : Pos} (hc : CallR X (.builtin id) r) (hm : X.mg f = none) (hr : RC X.K own r ss s) (h : EA X G own (e :: es) ss) (hv : bootBuiltins f = some (.builtin id) := by first | rfl | decide +kernel) (hg : Gl X f := by rfl) (hn : f ≠ "__name__" := by decide) (hdb : (f == ("__debug__" : Str)) = false := by decide)
    (he : starEach (e :: es) X.env = (false, eval e X.env) :: starEach es X.env := by rfl) (hpl : (backTo pos (starEach es X.env)).any (·.1) = false := by rfl) : EX X G own (.Call (.Name f p) (e :: es) [] pos) s :=
  EX.of (pe_callB hc hg hm hv pa_w hn hdb he hpl) (ev_cb h hr)
theorem x_ct {f : Str} {T : String} {r : List V → Hp → VK → Prop} {ss : List Sl} {p : Pos} (hc : CallR X (.type T) r) (hm : X.mg f = none) (hr : RC X.K own r ss s) (h : EA X G own (e :: es) ss) (hv : bootBuiltins f = some (.type T) := by first | rfl | decide +kernel) (hg : Gl X f := by rfl) (hn : f ≠ "__name__" := by decide) (hdb : (f == ("__debug__" : Str)) = false := by decide)
    (he : starEach (e :: es) X.env = (false, eval e X.env) :: starEach es X.env := by rfl) (hpl : (backTo pos (starEach es X.env)).any (·.1) = false := by rfl) : EX X G own (.Call (.Name f p) (e :: es) [] pos) s :=
  EX.of (pe_callTy hc hg hm hv pa_w hn hdb he hpl) (ev_cb h hr)
end

/-! ### promises -/
/-- a def that turns nothing -/
def spP (K : PySem.W.Frag) (Pre : OL → List Sl → Sl → Prop) : Sp := fun vs H Q _ => ∃ R oc ss s, Pre oc ss s ∧ Ow oc R H ∧ Args K R ss vs ∧ ∀ w R' H', Grow R H R' H' → SlR K R' s (some w) → Q w H'
/-- a def that may turn what it is given, and may give new things -/
def spM (K : PySem.W.Frag) (Pre : OL → List Sl → (OL → Sl → Prop) → Prop) : Sp := fun vs H Q _ => ∃ R oc ss C, Pre oc ss C ∧ Ow oc R H ∧ Args K R ss vs ∧ ∀ o s w R' H', C o s → Sep R H (oc.map (·.1)) o R' H' → SlR K R' s (some w) → Q w H'
section
variable (P : Program) (w : World) (K : PySem.W.Frag) (mg : Str → Option Value) (base : Heap)
/-- the def stands, its name is the module's, it keeps its promise -/
structure Gd (k : Nat) (x : Str) (n : Nat) (sp : Sp) : Prop where
  ex : ∃ f fd ps, ps.length = n ∧ FnOk P w K mg base CX0 k f fd ps sp ∧ mg x = some (.ref f) ∧ PySem.W.keepIn K (.ref f) = true ∧ Binds K fd ps []
structure GdM (k : Nat) (C : Addr) (m : Str) (sp : Sp) : Prop where
  ex : ∃ f fd ps, FnOk P w K mg base CX0 k f fd ps sp ∧ Meth K C m f ∧ Binds K fd ps []
structure GdC (k : Nat) (x : Str) (C : Addr) (sp : Sp) : Prop where
  ex : ∃ f fd ps, FnOk P w K mg base CX0 k f fd ps sp ∧ Mk K C f ∧ mg x = some (.ref C) ∧ Binds K fd ps []
end
abbrev GdX (X : Cx) (k : Nat) (x : Str) (n : Nat) (sp : Sp) : Prop := Gd X.prog X.w X.K X.mg X.base k x n sp
abbrev GdMX (X : Cx) (k : Nat) (C : Addr) (m : Str) (sp : Sp) : Prop := GdM X.prog X.w X.K X.mg X.base k C m sp
abbrev GdCX (X : Cx) (k : Nat) (x : Str) (C : Addr) (sp : Sp) : Prop := GdC X.prog X.w X.K X.mg X.base k x C sp
theorem passX {X : Cx} {E : XK} : Passes CX0 X E := fun _ _ _ _ _ _ _ h => h.elim
section
variable {X : Cx} {G : List Sl} {own oc : OL} {e a b c o : Expr} {es : List Expr} {s x y : Sl} {ss : List Sl} {pos : Pos} {k n : Nat}
theorem spP_use {K : PySem.W.Frag} {Pre : OL → List Sl → Sl → Prop} (hp : Pre oc ss s) (hs : ∀ R H, Ow own R H → Ow oc R H) : SpE K own (spP K Pre) ss s := fun R H vs w h Q E q => ⟨R, oc, ss, s, hp, hs R H w, h, q⟩
theorem ow_nil (R H : Hp) (w : Ow own R H) : Ow [] R H := ⟨w.rh, (fun _ q => nomatch q), List.nodup_nil⟩
theorem ow_id (R H : Hp) (w : Ow own R H) : Ow own R H := w
theorem ow_perm {own' : OL} (h : own.Perm own') (R H : Hp) (w : Ow own R H) : Ow own' R H := ⟨w.rh, fun p hp => w.at_ p (h.mem_iff.mpr hp), (h.map (·.1)).nodup_iff.mp w.nd⟩
theorem ow_left {r : OL} (R H : Hp) (w : Ow (own ++ r) R H) : Ow own R H := w.sub.1
theorem ow_right {r : OL} (R H : Hp) (w : Ow (r ++ own) R H) : Ow own R H := w.sub.2
/-- f(..) -/
theorem x_call {f : Str} {Pre : OL → List Sl → Sl → Prop} {p : Pos} (g : GdX X k f n (spP X.K Pre)) (hr : Room k X.A) (hp : Pre oc ss s) (h : EA X G own (e :: es) ss) (hs : ∀ R H, Ow own R H → Ow oc R H := by exact ow_nil) (hg : Gl X f := by rfl) (hdb : (f == ("__debug__" : Str)) = false := by decide)
    (he : starEach (e :: es) X.env = (false, eval e X.env) :: starEach es X.env := by rfl) (hpl : (backTo pos (starEach es X.env)).any (·.1) = false := by rfl) : EX X G own (.Call (.Name f p) (e :: es) [] pos) s := by
  obtain ⟨f, fd, ps, _, F, hm, hk, hb⟩ := g.ex
  exact EX.of (pe_call (E := fun _ _ _ => True) F hr hg hm hk hb .nil passX pa_w hdb he hpl) (ev_call h (spP_use hp hs))
/-- o.m(..) -/
theorem x_meth {C q : Addr} {m : Str} {Pre : OL → List Sl → Sl → Prop} {apos : Pos} {fs : List (Str × Sl)} {pl : Sem Bool} (i : Nat) (g : GdMX X k C m (spP X.K Pre)) (hr : Room k X.A) (c : Cls X.K C) (hp : Pre oc (.v (.ref q) :: ss) s) (ho : EX X G own o (.v (.ref q))) (h : EA X G own (e :: es) ss)
    (hi : own[i]? = some (q, asI X.K C fs) := by rfl) (hl : fs.lookup m = none := by rfl) (hs : ∀ R H, Ow own R H → Ow oc R H := by exact ow_id)
    (hst : starEach (e :: es) X.env = (false, eval e X.env) :: starEach es X.env := by rfl) (hpl : (backTo pos (starEach es X.env)).any (·.1) = false := by rfl)
    (ht : eval (.Call (.Attribute o m apos) (e :: es) [] pos) X.env = (do
      let ov ← eval o X.env
      standAt apos.atName
      let (f, first) ← holding [ov] (getMethod ov m pl)
      callWith pos f first (backTo pos (starEach (e :: es) X.env)) (backToKw pos (keywordEach [] X.env))) := by rfl) : EX X G own (.Call (.Attribute o m apos) (e :: es) [] pos) s := by
  obtain ⟨f, fd, ps, F, hm, hb⟩ := g.ex
  exact EX.of (pe_meth (E := fun _ _ _ => True) (pl := pl) pe_w c hm F hr hb .nil passX pa_w hst hpl ht) (ev_meth ho hi hl h (spP_use hp hs))
theorem x_meth0 {C q : Addr} {m : Str} {Pre : OL → List Sl → Sl → Prop} {apos : Pos} {fs : List (Str × Sl)} {pl : Sem Bool} (i : Nat) (g : GdMX X k C m (spP X.K Pre)) (hr : Room k X.A) (c : Cls X.K C) (hp : Pre oc [.v (.ref q)] s) (ho : EX X G own o (.v (.ref q)))
    (hi : own[i]? = some (q, asI X.K C fs) := by rfl) (hl : fs.lookup m = none := by rfl) (hs : ∀ R H, Ow own R H → Ow oc R H := by exact ow_id)
    (ht : eval (.Call (.Attribute o m apos) [] [] pos) X.env = (do
      let ov ← eval o X.env
      standAt apos.atName
      let (f, first) ← holding [ov] (getMethod ov m pl)
      callWith pos f first (backTo pos (starEach [] X.env)) (backToKw pos (keywordEach [] X.env))) := by rfl) : EX X G own (.Call (.Attribute o m apos) [] [] pos) s := by
  obtain ⟨f, fd, ps, F, hm, hb⟩ := g.ex
  exact EX.of (pe_meth0 (E := fun _ _ _ => True) (pl := pl) pe_w c hm F hr hb .nil passX ht) (ev_meth ho hi hl ea_nil (spP_use hp hs))

/-! ### what may turn things -/
def EM (X : Cx) (G : List Sl) (own : OL) (e : Expr) (C : OL → Sl → Prop) : Prop :=
  ∀ R H z, Ow own R H → Hold X.K R G z → ∀ Q : VK, (∀ o s v R' H', C o s → Sep R H (own.map (·.1)) o R' H' → SlR X.K R' s (some v) → Q v H') → eW X e z H Q
def EMA (X : Cx) (G : List Sl) (own : OL) (es : List Expr) (C : OL → List Sl → Prop) : Prop :=
  ∀ R H z, Ow own R H → Hold X.K R G z → ∀ Q : List V → Hp → Prop, (∀ o ss vs R' H', C o ss → Sep R H (own.map (·.1)) o R' H' → Args X.K R' ss vs → Q vs H') → aW X es z H Q
def EMT (X : Cx) (G : List Sl) (own : OL) (e : Expr) (C : OL → Bool → Prop) : Prop :=
  ∀ R H z, Ow own R H → Hold X.K R G z → ∀ Q : Bool → Hp → Prop, (∀ o b R' H', C o b → Sep R H (own.map (·.1)) o R' H' → Q b H') → tW X e z H Q
theorem sep_of {R H R' H' : Hp} (w : Ow own R H) (g : Grow R H R' H') : Sep R H (own.map (·.1)) own R' H' := (Sep.start w).grow g
theorem sep_trans {R0 H0 R H R' H' : Hp} {F0 : List Addr} {o : OL} (a : Sep R0 H0 F0 own R H) (b : Sep R H (own.map (·.1)) o R' H') : Sep R0 H0 F0 o R' H' := by
  have a' : Sep R0 H0 F0 (own ++ []) R H := by rw [List.append_nil]; exact a
  have := a'.call b
  rwa [List.append_nil] at this
abbrev Is (own : OL) (s : Sl) : OL → Sl → Prop := fun o t => o = own ∧ t = s
theorem m_x (h : EX X G own e s) : EM X G own e (Is own s) := fun R H z w hz Q q => h R H z w hz Q fun v R' H' g e => q own s v R' H' ⟨rfl, rfl⟩ (sep_of w g) e
theorem m_le {C C' : OL → Sl → Prop} (h : EM X G own e C) (q : ∀ o s, C o s → C' o s) : EM X G own e C' := fun R H z w hz Q k => h R H z w hz Q fun o s v R' H' c => k o s v R' H' (q o s c)
theorem mt_x {b : Bool} (h : ET X G own e b) : EMT X G own e fun o k => o = own ∧ k = b := fun R H z w hz Q q => h R H z w hz Q fun R' H' g => q own b R' H' ⟨rfl, rfl⟩ (sep_of w g)
theorem ma_x {ss : List Sl} (h : EA X G own es ss) : EMA X G own es fun o t => o = own ∧ t = ss := fun R H z w hz Q q => h R H z w hz Q fun v R' H' g e => q own ss v R' H' ⟨rfl, rfl⟩ (sep_of w g) e
theorem EM.of {t : TE} {C : OL → Sl → Prop} (h : PE X e t) (q : ∀ R H z, Ow own R H → Hold X.K R G z → ∀ Q : VK, (∀ o s v R' H', C o s → Sep R H (own.map (·.1)) o R' H' → SlR X.K R' s (some v) → Q v H') → t z H Q) : EM X G own e C :=
  fun R H z w hz Q k => pe_le h (q R H z w hz Q k)
theorem ma_nil : EMA X G own [] fun o ss => o = own ∧ ss = [] := ma_x a_nil
theorem ma_cons {C : OL → Sl → Prop} {C' : OL → Sl → OL → List Sl → Prop} (h : EM X G own e C) (ht : ∀ o s, C o s → EMA X G o es (C' o s)) (hs : starEach (e :: es) X.env = (false, eval e X.env) :: starEach es X.env := by rfl) :
    EMA X G own (e :: es) fun o ss => ∃ o1 s t, C o1 s ∧ C' o1 s o t ∧ ss = s :: t := fun R H z w hz Q q => pa_le (pa_cons pe_w pa_w hs)
  (h R H z w hz _ fun o1 s v R1 H1 c1 p1 e1 => ht o1 s c1 R1 H1 z p1.ow (hold_up p1.rr hz) _ fun o t vs R2 H2 c2 p2 e2 => q o (s :: t) (v :: vs) R2 H2 ⟨o1, s, t, c1, c2, rfl⟩ (sep_trans p1 p2) ⟨slr_up p2.rr e1, e2⟩)
theorem ma_le {C C' : OL → List Sl → Prop} (h : EMA X G own es C) (q : ∀ o s, C o s → C' o s) : EMA X G own es C' := fun R H z w hz Q k => h R H z w hz Q fun o s v R' H' c => k o s v R' H' (q o s c)
theorem m_op2 {t : TE → TE → TE} {r : R2} {C : OL → Sl → Prop} {C' : OL → Sl → OL → Sl → Prop} {D : OL → Sl → Prop} (hp : PE X e (tOp r (eW X a) (eW X b))) (ha : EM X G own a C) (hb : ∀ o x, C o x → EM X G o b (C' o x)) (hr : ∀ o x o' y, C o x → C' o x o' y → ∃ s, RD X.K o' r x y s ∧ D o' s) :
    EM X G own e D := EM.of hp fun R H z w hz Q q => ha R H z w hz _ fun o x u R1 H1 c1 p1 e1 => hb o x c1 R1 H1 z p1.ow (hold_up p1.rr hz) _ fun o' y v R2 H2 c2 p2 e2 => by
  obtain ⟨s, rd, d⟩ := hr o x o' y c1 c2
  exact rd R2 H2 u v p2.ow (slr_up p2.rr e1) e2 Q fun v' R3 H3 g3 e3 => q o' s v' R3 H3 d ((sep_trans p1 p2).grow g3) e3
theorem m_op {op : Operator} {r : R2} {C : OL → Sl → Prop} {C' : OL → Sl → OL → Sl → Prop} {D : OL → Sl → Prop} (ho : OpR X (binaryOp op) r) (ha : EM X G own a C) (hb : ∀ o x, C o x → EM X G o b (C' o x)) (hr : ∀ o x o' y, C o x → C' o x o' y → ∃ s, RD X.K o' r x y s ∧ D o' s) :
    EM X G own (.BinOp a op b pos) D := m_op2 (t := tOp r) (pe_op ho pe_w pe_w) ha hb hr
theorem m_cmp {op : CmpOp} {r : R2} {C : OL → Sl → Prop} {C' : OL → Sl → OL → Sl → Prop} {D : OL → Sl → Prop} (ho : OpR X (compareOp op) r) (hm : behindInMarks op b = false) (ha : EM X G own a C) (hb : ∀ o x, C o x → EM X G o b (C' o x)) (hr : ∀ o x o' y, C o x → C' o x o' y → ∃ s, RD X.K o' r x y s ∧ D o' s) :
    EM X G own (.Compare a [op] [b] pos) D := m_op2 (t := tOp r) (pe_cmpR ho pe_w pe_w hm) ha hb hr
theorem m_cmpT {op : CmpOp} {r : R2} {C : OL → Sl → Prop} {C' : OL → Sl → OL → Sl → Prop} {D : OL → Bool → Prop} (ho : OpR X (compareOp op) r) (hm : behindInMarks op b = false) (ha : EM X G own a C) (hb : ∀ o x, C o x → EM X G o b (C' o x)) (hr : ∀ o x o' y, C o x → C' o x o' y → ∃ k, RD X.K o' r x y (.d (.bool k)) ∧ D o' k) :
    EMT X G own (.Compare a [op] [b] pos) D := fun R H z w hz Q q => pt_le (pt_cmpR ho pe_w pe_w hm) (ha R H z w hz _ fun o x u R1 H1 c1 p1 e1 => hb o x c1 R1 H1 z p1.ow (hold_up p1.rr hz) _ fun o' y v R2 H2 c2 p2 e2 => by
  obtain ⟨k, rd, d⟩ := hr o x o' y c1 c2
  exact rd R2 H2 u v p2.ow (slr_up p2.rr e1) e2 _ fun v' R3 H3 g3 e3 => ⟨k, dp_bool (d_slr e3), q o' k R3 H3 d ((sep_trans p1 p2).grow g3)⟩)
theorem m_truth {C : OL → Sl → Prop} {D : OL → Bool → Prop} (ha : EM X G own a C) (hd : ∀ o s, C o s → ∃ k, s = .d (.bool k) ∧ D o k) (he : ∀ whole, isTrue a X.env whole = (do let v ← whole; standAt a.pos; holding [v] (truthy v))) : EMT X G own a D :=
  fun R H z w hz Q q => pt_le (pt_truth pe_w he) (ha R H z w hz _ fun o s v R1 H1 c1 p1 e1 => by
    obtain ⟨k, rfl, d⟩ := hd o s c1
    obtain rfl := dp_bool (d_slr e1)
    exact ⟨k, rfl, q o k R1 H1 d p1⟩)
theorem m_ix {r : R2} {C : OL → Sl → Prop} {C' : OL → Sl → OL → Sl → Prop} {D : OL → Sl → Prop} (hi : IxR X r) (ha : EM X G own a C) (hb : ∀ o x, C o x → EM X G o b (C' o x)) (hr : ∀ o x o' y, C o x → C' o x o' y → ∃ s, RD X.K o' r x y s ∧ D o' s) (hs : PlainIx b := by exact fun _ _ => rfl) :
    EM X G own (.Subscript a b pos) D := m_op2 (t := tOp r) (pe_ix hi pe_w pe_w hs) ha hb hr
theorem m_if {C : OL → Bool → Prop} {D : OL → Sl → Prop} (h : EMT X G own c C) (h1 : ∀ o, C o true → EM X G o a D) (h2 : ∀ o, C o false → EM X G o b D) : EM X G own (.IfExp c a b pos) D := EM.of (pe_ifExp pt_w pe_w pe_w) fun R H z w hz Q q =>
  h R H z w hz _ fun o k R1 H1 c1 p1 => by
    cases k with
    | true =>
      rw [if_pos rfl]
      exact h1 o c1 R1 H1 z p1.ow (hold_up p1.rr hz) Q fun o' s v R2 H2 d p2 => q o' s v R2 H2 d (sep_trans p1 p2)
    | false =>
      rw [if_neg Bool.false_ne_true]
      exact h2 o c1 R1 H1 z p1.ow (hold_up p1.rr hz) Q fun o' s v R2 H2 d p2 => q o' s v R2 H2 d (sep_trans p1 p2)
theorem m_tup {C : OL → List Sl → Prop} {D : OL → Sl → Prop} {k} (h : EMA X G own es C) (hd : ∀ o ss, C o ss → ∃ ds : List PyData, ss = ds.map .d ∧ ds.length ≤ 1000 ∧ D o (.d (.tuple ds))) : EM X G own (.Tuple es k pos) D := EM.of (pe_tup pa_w) fun R H z w hz Q q =>
  h R H z w hz _ fun o ss vs R1 H1 c1 p1 e1 => by
    obtain ⟨ds, rfl, hl, d⟩ := hd o ss c1
    have e2 := args_dps e1
    refine ⟨by rw [dps_len e2]; exact Nat.le_trans hl (by decide), fun p hp => ?_⟩
    have g2 := Grow.imm (o := .tup vs) p1.rh hp
    exact q o _ _ _ _ d (p1.grow g2) (slr_d (.tup (SqT.of upd_same) (dps_up g2.rr _ _ e2)))
theorem m_lst {C : OL → List Sl → Prop} {D : OL → Sl → Prop} (h : EMA X G own es C) (hd : ∀ o ss, C o ss → ∃ ds : List PyData, ss = ds.map .d ∧ ds.length ≤ 1000 ∧ D o (.d (.list ds))) : EM X G own (.List es pos) D := EM.of (pe_lst pa_w) fun R H z w hz Q q =>
  h R H z w hz _ fun o ss vs R1 H1 c1 p1 e1 => by
    obtain ⟨ds, rfl, hl, d⟩ := hd o ss c1
    have e2 := args_dps e1
    refine ⟨by rw [dps_len e2]; exact Nat.le_trans hl (by decide), fun p hp => ?_⟩
    have g2 := Grow.imm (o := .lst vs) p1.rh hp
    exact q o _ _ _ _ d (p1.grow g2) (slr_d (.lst (SqL.of upd_same) (dps_up g2.rr _ _ e2)))
/-- a list that is owned -/
theorem m_lstO {C : OL → List Sl → Prop} {D : OL → Sl → Prop} (h : EMA X G own es C) (hd : ∀ o ss p, C o ss → ∃ ds : List PyData, ss = ds.map .d ∧ ds.length ≤ 1000 ∧ D ((p, asL X.K ds) :: o) (.v (.ref p))) : EM X G own (.List es pos) D := EM.of (pe_lst pa_w) fun R H z w hz Q q =>
  h R H z w hz _ fun o ss vs R1 H1 c1 p1 e1 => by
    obtain ⟨ds, -, -, -⟩ := hd o ss 0 c1
    refine ⟨?_, fun p hp => ?_⟩
    · obtain ⟨ds, rfl, hl, -⟩ := hd o ss 0 c1
      rw [dps_len (args_dps e1)]
      exact Nat.le_trans hl (by decide)
    · obtain ⟨ds, rfl, hl, d⟩ := hd o ss p c1
      have e2 := args_dps e1
      exact q _ _ _ _ _ d (p1.new (A := asL X.K ds) hp ⟨vs, rfl, e2⟩) rfl
/-- a call of a built-in by what its arguments are worth -/
theorem m_cb {f : Str} {id : String} {r : List V → Hp → VK → Prop} {p : Pos} {C : OL → List Sl → Prop} {D : OL → Sl → Prop} (hc : CallR X (.builtin id) r) (hm : X.mg f = none) (h : EMA X G own (e :: es) C) (hr : ∀ o ss, C o ss → ∃ s, RC X.K o r ss s ∧ D o s) (hv : bootBuiltins f = some (.builtin id) := by first | rfl | decide +kernel) (hg : Gl X f := by rfl) (hn : f ≠ "__name__" := by decide) (hdb : (f == ("__debug__" : Str)) = false := by decide)
    (he : starEach (e :: es) X.env = (false, eval e X.env) :: starEach es X.env := by rfl) (hpl : (backTo pos (starEach es X.env)).any (·.1) = false := by rfl) : EM X G own (.Call (.Name f p) (e :: es) [] pos) D :=
  EM.of (pe_callB hc hg hm hv pa_w hn hdb he hpl) fun R H z w hz Q q => h R H z w hz _ fun o ss vs R1 H1 c1 p1 e1 => by
    obtain ⟨s, rc, d⟩ := hr o ss c1
    exact rc R1 H1 vs p1.ow e1 Q fun v R2 H2 g2 e2 => q o s v R2 H2 d (p1.grow g2) e2
theorem m_ct {f : Str} {T : String} {r : List V → Hp → VK → Prop} {p : Pos} {C : OL → List Sl → Prop} {D : OL → Sl → Prop} (hc : CallR X (.type T) r) (hm : X.mg f = none) (h : EMA X G own (e :: es) C) (hr : ∀ o ss, C o ss → ∃ s, RC X.K o r ss s ∧ D o s) (hv : bootBuiltins f = some (.type T) := by first | rfl | decide +kernel) (hg : Gl X f := by rfl) (hn : f ≠ "__name__" := by decide) (hdb : (f == ("__debug__" : Str)) = false := by decide)
    (he : starEach (e :: es) X.env = (false, eval e X.env) :: starEach es X.env := by rfl) (hpl : (backTo pos (starEach es X.env)).any (·.1) = false := by rfl) : EM X G own (.Call (.Name f p) (e :: es) [] pos) D :=
  EM.of (pe_callTy hc hg hm hv pa_w hn hdb he hpl) fun R H z w hz Q q => h R H z w hz _ fun o ss vs R1 H1 c1 p1 e1 => by
    obtain ⟨s, rc, d⟩ := hr o ss c1
    exact rc R1 H1 vs p1.ow e1 Q fun v R2 H2 g2 e2 => q o s v R2 H2 d (p1.grow g2) e2
/-- a call of a def that may turn things: what it is given stands ahead -/
def Fits (own : OL) (C : OL → Sl → Prop) (Pre : OL → List Sl → (OL → Sl → Prop) → Prop) (ss : List Sl) (D : OL → Sl → Prop) : Prop := ∃ oc or, own.Perm (oc ++ or) ∧ ∃ C', Pre oc ss C' ∧ ∀ o s, C' o s → D (o ++ or) s
theorem spM_use {Pre : OL → List Sl → (OL → Sl → Prop) → Prop} {D : OL → Sl → Prop} {R0 H0 R H : Hp} {F0 : List Addr} {vs : List V} {Q : VK} {E : XK} {K : PySem.W.Frag} (f : Fits own D Pre ss D) (p : Sep R0 H0 F0 own R H) (h : Args K R ss vs)
    (q : ∀ o s v R' H', D o s → Sep R0 H0 F0 o R' H' → SlR K R' s (some v) → Q v H') : spM K Pre vs H Q E := by
  obtain ⟨oc, or, hp, C', hpre, hd⟩ := f
  have p' := p.perm hp
  exact ⟨R, oc, ss, C', hpre, p'.ow.sub.1, h, fun o s w R' H' c p2 e => q _ s w R' H' (hd o s c) (p'.call p2) e⟩
theorem m_call {f : Str} {Pre : OL → List Sl → (OL → Sl → Prop) → Prop} {p : Pos} {C : OL → List Sl → Prop} {D : OL → Sl → Prop} (g : GdX X k f n (spM X.K Pre)) (hr : Room k X.A) (h : EMA X G own (e :: es) C) (hf : ∀ o ss, C o ss → Fits o D Pre ss D) (hg : Gl X f := by rfl) (hdb : (f == ("__debug__" : Str)) = false := by decide)
    (he : starEach (e :: es) X.env = (false, eval e X.env) :: starEach es X.env := by rfl) (hpl : (backTo pos (starEach es X.env)).any (·.1) = false := by rfl) : EM X G own (.Call (.Name f p) (e :: es) [] pos) D := by
  obtain ⟨f, fd, ps, _, F, hm, hk, hb⟩ := g.ex
  refine EM.of (pe_call (E := fun _ _ _ => True) F hr hg hm hk hb .nil passX pa_w hdb he hpl) fun R H z w hz Q q => h R H z w hz _ fun o ss vs R1 H1 c1 p1 e1 => ?_
  rw [List.append_nil]
  exact spM_use (hf o ss c1) p1 e1 fun o' s v R' H' d p2 e2 => q o' s v R' H' d p2 e2
theorem m_meth {C1 q : Addr} {m : Str} {Pre : OL → List Sl → (OL → Sl → Prop) → Prop} {apos : Pos} {fs : List (Str × Sl)} {pl : Sem Bool} {C : OL → List Sl → Prop} {D : OL → Sl → Prop} (i : Nat) (g : GdMX X k C1 m (spM X.K Pre)) (hr : Room k X.A) (c : Cls X.K C1) (ho : EX X G own o (.v (.ref q))) (h : EMA X G own (e :: es) C)
    (hf : ∀ o ss, C o ss → Fits o D Pre (.v (.ref q) :: ss) D) (hi : own[i]? = some (q, asI X.K C1 fs) := by rfl) (hl : fs.lookup m = none := by rfl)
    (hst : starEach (e :: es) X.env = (false, eval e X.env) :: starEach es X.env := by rfl) (hpl : (backTo pos (starEach es X.env)).any (·.1) = false := by rfl)
    (ht : eval (.Call (.Attribute o m apos) (e :: es) [] pos) X.env = (do
      let ov ← eval o X.env
      standAt apos.atName
      let (f, first) ← holding [ov] (getMethod ov m pl)
      callWith pos f first (backTo pos (starEach (e :: es) X.env)) (backToKw pos (keywordEach [] X.env))) := by rfl) : EM X G own (.Call (.Attribute o m apos) (e :: es) [] pos) D := by
  obtain ⟨f, fd, ps, F, hm, hb⟩ := g.ex
  refine EM.of (pe_meth (E := fun _ _ _ => True) (pl := pl) pe_w c hm F hr hb .nil passX pa_w hst hpl ht) fun R H z w hz Q k => ho R H z w hz _ fun v R1 H1 g1 e1 => ?_
  obtain rfl := v_slr e1
  obtain ⟨_, ob, h1, dx, vs, rfl, h2⟩ := (w.grow g1).get hi
  refine ⟨q, dx, vs, rfl, h1, fld_none h2 hl, h R1 H1 z (w.grow g1) (hold_up g1.rr hz) _ fun o' ss us R2 H2 c2 p2 e2 => ?_⟩
  rw [List.append_nil]
  exact spM_use (hf o' ss c2) (sep_trans (sep_of w g1) p2) (show Args X.K R2 (.v (.ref q) :: ss) (.ref q :: us) from ⟨rfl, e2⟩) fun o3 s v R' H' d p3 e3 => k o3 s v R' H' d p3 e3
theorem m_meth0 {C1 q : Addr} {m : Str} {Pre : OL → List Sl → (OL → Sl → Prop) → Prop} {apos : Pos} {fs : List (Str × Sl)} {pl : Sem Bool} {C : OL → Sl → Prop} {D : OL → Sl → Prop} (g : GdMX X k C1 m (spM X.K Pre)) (hr : Room k X.A) (c : Cls X.K C1) (ho : EM X G own o C)
    (hf : ∀ o s, C o s → ∃ (i : Nat) (q : Addr) (fs : List (Str × Sl)), s = .v (.ref q) ∧ o[i]? = some (q, asI X.K C1 fs) ∧ fs.lookup m = none ∧ Fits o D Pre [.v (.ref q)] D)
    (ht : eval (.Call (.Attribute o m apos) [] [] pos) X.env = (do
      let ov ← eval o X.env
      standAt apos.atName
      let (f, first) ← holding [ov] (getMethod ov m pl)
      callWith pos f first (backTo pos (starEach [] X.env)) (backToKw pos (keywordEach [] X.env))) := by rfl) : EM X G own (.Call (.Attribute o m apos) [] [] pos) D := by
  obtain ⟨f, fd, ps, F, hm, hb⟩ := g.ex
  refine EM.of (pe_meth0 (E := fun _ _ _ => True) (pl := pl) pe_w c hm F hr hb .nil passX ht) fun R H z w hz Q k => ho R H z w hz _ fun o' s v R1 H1 c1 p1 e1 => ?_
  obtain ⟨i, q, fs, rfl, hi, hl, hfit⟩ := hf o' s c1
  obtain rfl := v_slr e1
  obtain ⟨_, ob, h1, dx, vs, rfl, h2⟩ := p1.ow.get hi
  refine ⟨q, dx, vs, rfl, h1, fld_none h2 hl, ?_⟩
  show spM X.K Pre [.ref q] H1 Q (fun _ _ _ => True)
  exact spM_use hfit p1 (show Args X.K R1 [.v (.ref q)] [.ref q] from ⟨rfl, trivial⟩) fun o3 s v R' H' d p3 e3 => k o3 s v R' H' d p3 e3
/-- a field of what is worth an owned instance -/
theorem m_fld {C1 : Addr} {f : Str} {C : OL → Sl → Prop} {D : OL → Sl → Prop} (ha : EM X G own a C) (hc : Cls X.K C1) (hn : NoAttr X.K C1 f) (h : ∀ o s, C o s → ∃ (i : Nat) (p : Addr) (fs : List (Str × Sl)) (s' : Sl), s = .v (.ref p) ∧ o[i]? = some (p, asI X.K C1 fs) ∧ fs.lookup f = some s' ∧ D o s') (hb : attributeBase a f X.env (eval a X.env) = eval a X.env := by rfl) :
    EM X G own (.Attribute a f pos) D := EM.of (pe_fld pe_w hb) fun R H z w hz Q q => ha R H z w hz _ fun o s v R1 H1 c1 p1 e1 => by
  obtain ⟨i, p, fs, s', rfl, hi, hl, d⟩ := h o s c1
  obtain rfl := v_slr e1
  obtain ⟨_, ob, h1, dx, vs, rfl, h2⟩ := p1.ow.get hi
  obtain ⟨y, h3, h4⟩ := fld_get h2 hl
  exact ⟨p, C1, dx, vs, y, rfl, h1, hc, hn, h3, q o s' y R1 H1 d p1 h4⟩
/-- C(..) -/
theorem m_make {x : Str} {C1 : Addr} {Pre : OL → List Sl → (OL → Sl → Prop) → Prop} {p : Pos} {C : OL → List Sl → Prop} {D : OL → Sl → Prop} (g : GdCX X k x C1 (spM X.K Pre)) (hr : Room (k + 1) X.A) (h : EMA X G own (e :: es) C)
    (hf : ∀ o ss q, C o ss → ∃ C', Pre [(q, asI X.K C1 [])] (.v (.ref q) :: ss) C' ∧ ∀ o' s, C' o' s → s = .d .none ∧ D (o' ++ o) (.v (.ref q))) (hg : Gl X x := by rfl) (hdb : (x == ("__debug__" : Str)) = false := by decide)
    (he : starEach (e :: es) X.env = (false, eval e X.env) :: starEach es X.env := by rfl) (hpl : (backTo pos (starEach es X.env)).any (·.1) = false := by rfl) : EM X G own (.Call (.Name x p) (e :: es) [] pos) D := by
  obtain ⟨f, fd, ps, F, M, hm, hb⟩ := g.ex
  refine EM.of (pe_make (E := fun _ _ _ => True) M F hr hg hm hb .nil passX pa_w hdb he hpl) fun R H z w hz Q q => h R H z w hz _ fun o ss vs R1 H1 c1 p1 e1 => fun x dx nx ndx hne => ?_
  rw [List.append_nil]
  obtain ⟨C', hpre, hd⟩ := hf o ss x c1
  have g1 := Grow.mut (o := HO.own x) p1.rh ndx
  have nx' : (upd H1 dx (.own x)) x = none := by rw [upd_ne (fun z => hne z.symm)]; exact nx
  have p2 := (p1.grow g1).new (A := asI X.K C1 []) (o := .ins C1 dx []) nx' ⟨dx, [], rfl, trivial⟩
  have p3 : Sep R H (own.map (·.1)) ([(x, asI X.K C1 [])] ++ o) R1 (upd (upd H1 dx (.own x)) x (.ins C1 dx [])) := p2
  refine ⟨R1, [(x, asI X.K C1 [])], .v (.ref x) :: ss, C', hpre, p3.ow.sub.1, ⟨rfl, e1⟩, fun o' s v R' H' c p4 e4 => ?_⟩
  obtain ⟨rfl, d⟩ := hd o' s c
  exact ⟨dp_none (d_slr e4), q _ _ _ R' H' d (p3.call p4) rfl⟩
theorem m_make0 {x : Str} {C1 : Addr} {Pre : OL → List Sl → (OL → Sl → Prop) → Prop} {p : Pos} {D : OL → Sl → Prop} (g : GdCX X k x C1 (spM X.K Pre)) (hr : Room (k + 1) X.A)
    (hf : ∀ q, ∃ C', Pre [(q, asI X.K C1 [])] [.v (.ref q)] C' ∧ ∀ o' s, C' o' s → s = .d .none ∧ D (o' ++ own) (.v (.ref q))) (hg : Gl X x := by rfl) (hdb : (x == ("__debug__" : Str)) = false := by decide) : EM X G own (.Call (.Name x p) [] [] pos) D := by
  obtain ⟨f, fd, ps, F, M, hm, hb⟩ := g.ex
  refine EM.of (pe_make0 (E := fun _ _ _ => True) M F hr hg hm hb .nil passX hdb) fun R H z w hz Q q => fun x dx nx ndx hne => ?_
  obtain ⟨C', hpre, hd⟩ := hf x
  have g1 := Grow.mut (o := HO.own x) w.rh ndx
  have nx' : (upd H dx (.own x)) x = none := by rw [upd_ne (fun z => hne z.symm)]; exact nx
  have p2 := (sep_of w g1).new (A := asI X.K C1 []) (o := .ins C1 dx []) nx' ⟨dx, [], rfl, trivial⟩
  have p3 : Sep R H (own.map (·.1)) ([(x, asI X.K C1 [])] ++ own) R (upd (upd H dx (.own x)) x (.ins C1 dx [])) := p2
  refine ⟨R, [(x, asI X.K C1 [])], [.v (.ref x)], C', hpre, p3.ow.sub.1, ⟨rfl, trivial⟩, fun o' s v R' H' c p4 e4 => ?_⟩
  obtain ⟨rfl, d⟩ := hd o' s c
  exact ⟨dp_none (d_slr e4), q _ _ _ R' H' d (p3.call p4) rfl⟩
end
end CB

/-! Part 8: statements, loops, comprehensions. -/
namespace CB
open PySem PySem.Spec PyProof.Rows L2
/-- where a block began: the stable heap, the heap, what was owned -/
structure Bs where
  R : Hp
  H : Hp
  F : List Addr
abbrev SepB (B : Bs) (own : OL) (R H : Hp) : Prop := Sep B.R B.H B.F own R H
def Nx (X : Cx) (B : Bs) (G : List Sl) (own : OL) (P : L2.St → Hp → Prop) : Prop := ∀ R H z, SepB B own R H → Hold X.K R G z → P z H
def Go (X : Cx) (B : Bs) (G : List Sl) (own : OL) (D : Ends) (sts : List Stmt) : Prop := Nx X B G own (bW X sts D)
section
variable {X : Cx} {B : Bs} {G : List Sl} {own : OL} {D : Ends} {rest : List Stmt} {st : Stmt} {e a c o : Expr} {s x y : Sl} {pos : Pos}
theorem g_nil (h : Nx X B G own D.nx) : Go X B G own D [] := fun R H z p hz => pss_le pss_nil (h R H z p hz)
theorem g_cons {t : TS} (h : PS X st t) (q : ∀ R H z, SepB B own R H → Hold X.K R G z → t { D with nx := bW X rest D } z H) : Go X B G own D (st :: rest) := fun R H z p hz => pss_le (pss_cons h pss_w) (q R H z p hz)
theorem g_perm {own' : OL} (h : own.Perm own') (q : Go X B G own' D rest) : Go X B G own D rest := fun R H z p hz => q R H z (p.perm h) hz
theorem g_le {G' : List Sl} (h : GLe G G') (q : Go X B G' own D rest) : Go X B G own D rest := fun R H z p hz => q R H z p (hold_le h hz)
theorem g_asgM {tg : Expr} {g : TG} {C : OL → Sl → Prop} (he : EM X G own e C) (hg : PG X tg g) (q : ∀ o s, C o s → ∃ f, GD X.K g s f ∧ Go X B (f G) o D rest)
    (hs : swapsWithSole [tg] e pos.line X.env = pure false := by rfl) (hw : swappedStores [tg] e X.env = pure none := by rfl) (h1 : (assignEach [tg] X.env).map (·.2) = [assign tg X.env] := by rfl) : Go X B G own D (.Assign [tg] e pos :: rest) :=
  g_cons (ps_asg pe_w hg hs hw h1) fun R H z p hz => he R H z p.ow hz _ fun o s v R1 H1 c p1 e1 => by
    obtain ⟨f, gd, go⟩ := q o s c
    exact gd R1 H1 z v G p1.rh e1 (hold_up p1.rr hz) _ fun z' hz' => go R1 H1 z' (sep_trans p p1) hz'
theorem g_setM (hN : X.N.Nodup) (i : Nat) {n : Str} {pos' : Pos} {C : OL → Sl → Prop} (he : EM X G own e C) (q : ∀ o s, C o s → Go X B (G.set i s) o D rest) (hi : X.N[i]? = some n := by rfl) (hx : Loc X.env.scope n := by first | exact Or.inl rfl | exact Or.inr rfl)
    (hs : swapsWith e (some (.Name n pos')) pos.line X.env = pure false := by rfl) (hf : X.fn n = true ∨ X.env.scope.names.lookup n = some .local := by first | exact .inl rfl | exact .inr rfl) : Go X B G own D (.Assign [.Name n pos'] e pos :: rest) :=
  g_cons (ps_set hN hi hx pe_w hs hf) fun R H z p hz => he R H z p.ow hz _ fun o s v R1 H1 c p1 e1 => q o s c R1 H1 _ (sep_trans p p1) (hold_set e1 i (hold_up p1.rr hz))
theorem g_set (hN : X.N.Nodup) (i : Nat) {n : Str} {pos' : Pos} (he : EX X G own e s) (q : Go X B (G.set i s) own D rest) (hi : X.N[i]? = some n := by rfl) (hx : Loc X.env.scope n := by first | exact Or.inl rfl | exact Or.inr rfl)
    (hs : swapsWith e (some (.Name n pos')) pos.line X.env = pure false := by rfl) (hf : X.fn n = true ∨ X.env.scope.names.lookup n = some .local := by first | exact .inl rfl | exact .inr rfl) : Go X B G own D (.Assign [.Name n pos'] e pos :: rest) :=
  g_setM hN i (m_x he) (fun o t ⟨h1, h2⟩ => by subst h1 h2; exact q) hi hx hs hf
theorem g_asg {tg : Expr} {g : TG} {f : List Sl → List Sl} (he : EX X G own e s) (hg : PG X tg g) (gd : GD X.K g s f) (q : Go X B (f G) own D rest)
    (hs : swapsWithSole [tg] e pos.line X.env = pure false := by rfl) (hw : swappedStores [tg] e X.env = pure none := by rfl) (h1 : (assignEach [tg] X.env).map (·.2) = [assign tg X.env] := by rfl) : Go X B G own D (.Assign [tg] e pos :: rest) :=
  g_asgM (m_x he) hg (fun o t ⟨h1, h2⟩ => by subst h1 h2; exact ⟨f, gd, q⟩) hs hw h1
theorem g_expr {C : OL → Sl → Prop} (he : EM X G own e C) (q : ∀ o s, C o s → Go X B G o D rest) (hs : swapsWith e none pos.line X.env = pure false := by rfl) : Go X B G own D (.Expr e pos :: rest) :=
  g_cons (ps_expr pe_w hs) fun R H z p hz => he R H z p.ow hz _ fun o s v R1 H1 c p1 e1 => q o s c R1 H1 _ (sep_trans p p1) (hold_up p1.rr hz)
theorem g_retM {C : OL → Sl → Prop} (he : EM X G own e C) (q : ∀ o s v R H, C o s → SepB B o R H → SlR X.K R s (some v) → D.rt v H) : Go X B G own D (.Return (some e) pos :: rest) :=
  g_cons (ps_ret pe_w) fun R H z p hz => he R H z p.ow hz _ fun o s v R1 H1 c p1 e1 => q o s v R1 H1 c (sep_trans p p1) e1
theorem g_ret (he : EX X G own e s) (q : ∀ v R H, SepB B own R H → SlR X.K R s (some v) → D.rt v H) : Go X B G own D (.Return (some e) pos :: rest) := g_retM (m_x he) fun o t v R H ⟨h1, h2⟩ => by subst h1 h2; exact q v R H
theorem g_ifM {p q : List Stmt} {C : OL → Bool → Prop} (hc : EMT X G own c C) (h1 : ∀ o, C o true → Go X B G o { D with nx := bW X rest D } p) (h2 : ∀ o, C o false → Go X B G o { D with nx := bW X rest D } q) : Go X B G own D (.If c p q pos :: rest) :=
  g_cons (ps_if pt_w pss_w pss_w) fun R H z w hz => hc R H z w.ow hz _ fun o k R1 H1 c1 p1 => by
    cases k with
    | true =>
      rw [if_pos rfl]
      exact h1 o c1 R1 H1 z (sep_trans w p1) (hold_up p1.rr hz)
    | false =>
      rw [if_neg Bool.false_ne_true]
      exact h2 o c1 R1 H1 z (sep_trans w p1) (hold_up p1.rr hz)
theorem g_if {p q : List Stmt} {k : Bool} (hc : ET X G own c k) (h1 : k = true → Go X B G own { D with nx := bW X rest D } p) (h2 : k = false → Go X B G own { D with nx := bW X rest D } q) : Go X B G own D (.If c p q pos :: rest) :=
  g_ifM (mt_x hc) (fun o ⟨e1, e2⟩ => by subst e1; exact h1 e2.symm) fun o ⟨e1, e2⟩ => by subst e1; exact h2 e2.symm
/-- the end of a branch: what follows the if -/
theorem g_end (q : Go X B G own D rest) : Go X B G own { D with nx := bW X rest D } [] := g_nil q
/-- o.f = e -/
theorem g_fldM {C1 p : Addr} {f : Str} {pos' : Pos} {C : OL → Sl → Prop} (ho : ∀ ow, EX X G ow o (.v (.ref p))) (hv : EM X G own e C) (hc : Cls X.K C1) (hn : NoAttr X.K C1 f)
    (q : ∀ o s, C o s → ∃ (i : Nat) (fs : List (Str × Sl)), o[i]? = some (p, asI X.K C1 fs) ∧ fs.length < 1000 ∧ Go X B G (o.set i (p, asI X.K C1 (putS f s fs))) D rest) (hs : swapsWith e (some (.Attribute o f pos')) pos.line X.env = pure false := by rfl) : Go X B G own D (.Assign [.Attribute o f pos'] e pos :: rest) :=
  g_cons (ps_fld pe_w pe_w hs) fun R H z w hz => hv R H z w.ow hz _ fun o' s v R1 H1 c p1 e1 => ho o' R1 H1 z p1.ow (hold_up p1.rr hz) _ fun u R2 H2 g2 e2 => by
    obtain rfl := v_slr e2
    obtain ⟨i, fs, hi, hl, go⟩ := q o' s c
    have p2 := (sep_trans w p1).grow g2
    obtain ⟨_, ob, h1, dx, vs, rfl, h2⟩ := p2.ow.get hi
    exact ⟨p, C1, dx, vs, rfl, h1, hc, hn, by rw [fld_len h2]; exact hl, go R2 _ z (p2.put hi ⟨dx, _, rfl, fld_put (slr_up g2.rr e1) h2⟩) (hold_up g2.rr (hold_up p1.rr hz))⟩
theorem g_fld {C1 p : Addr} {f : Str} {pos' : Pos} {fs : List (Str × Sl)} (i : Nat) (ho : ∀ ow, EX X G ow o (.v (.ref p))) (hv : EX X G own e s) (hc : Cls X.K C1) (hn : NoAttr X.K C1 f) (q : Go X B G (own.set i (p, asI X.K C1 (putS f s fs))) D rest) (hi : own[i]? = some (p, asI X.K C1 fs) := by rfl)
    (hl : fs.length < 1000 := by decide) (hs : swapsWith e (some (.Attribute o f pos')) pos.line X.env = pure false := by rfl) : Go X B G own D (.Assign [.Attribute o f pos'] e pos :: rest) :=
  g_fldM ho (m_x hv) hc hn (fun o t ⟨h1, h2⟩ => by subst h1 h2; exact ⟨i, fs, hi, hl, q⟩) hs

/-! ### walks -/
/-- the iterator gives xs, while V holds -/
def ItD (K : PySem.W.Frag) (R : Hp) (J : It) (xs : List PyData) (V : Hp → Hp → Prop) : Prop :=
  ∀ R1 H1, Same R R1 → Same R1 H1 → V R1 H1 → (∀ (i : Nat) (x : PyData), xs[i]? = some x → J.go i H1 ∧ ∀ v H2, J.yld i H1 v H2 → ∃ R2, Grow R1 H1 R2 H2 ∧ Dp K R2 v x) ∧ J.stop xs.length H1
def SrcW (K : PySem.W.Frag) (G : List Sl) (own : OL) (wi : TI) (xs : List PyData) (V : Hp → Hp → Prop) : Prop :=
  ∀ R H z, Ow own R H → Hold K R G z → ∀ Rr : It → Hp → Prop, (∀ J R' H', Grow R H R' H' → ItD K R' J xs V → Rr J H') → wi z H Rr
def Src (X : Cx) (G : List Sl) (own : OL) (tg iter : Expr) (xs : List PyData) (V : Hp → Hp → Prop) : Prop := ∃ wi, PI X tg iter wi ∧ SrcW X.K G own wi xs V
def SrcM (X : Cx) (G : List Sl) (own : OL) (tg iter : Expr) (C : OL → List PyData → (Hp → Hp → Prop) → Prop) : Prop :=
  ∃ wi, PI X tg iter wi ∧ ∀ R H z, Ow own R H → Hold X.K R G z → ∀ Rr : It → Hp → Prop, (∀ J R' H' o xs V, C o xs V → Sep R H (own.map (·.1)) o R' H' → ItD X.K R' J xs V → Rr J H') → wi z H Rr
abbrev Ever : Hp → Hp → Prop := fun _ _ => True
theorem src_m {tg iter : Expr} {xs : List PyData} {V : Hp → Hp → Prop} (h : Src X G own tg iter xs V) : SrcM X G own tg iter fun o ys W => o = own ∧ ys = xs ∧ W = V := by
  obtain ⟨wi, h1, h2⟩ := h
  exact ⟨wi, h1, fun R H z w hz Rr q => h2 R H z w hz Rr fun J R' H' g d => q J R' H' own xs V ⟨rfl, rfl, rfl⟩ (sep_of w g) d⟩
theorem itd_list {K : PySem.W.Frag} {R : Hp} {a : Addr} {vs : List V} {ds : List PyData} (h : SqL K R a vs) (hd : DpAll K R vs ds) : ItD K R (Itl K a) ds Ever := fun R1 H1 s1 s2 _ => by
  have hq := sql_up s2 (sql_up s1 h)
  refine ⟨fun i x hx => ?_, vs, hq, by rw [dps_len hd]; exact Nat.le_refl _⟩
  obtain ⟨v, h1, h2⟩ := dps_get hd hx
  refine ⟨⟨vs, v, hq, h1⟩, fun u H2 ⟨e1, e2⟩ => ⟨R1, by rw [e1]; exact Grow.refl s2, ?_⟩⟩
  have := e2 vs hq
  rw [h1] at this
  rw [← Option.some.inj this]
  exact dp_up s1 _ _ h2
theorem itd_tup {K : PySem.W.Frag} {R : Hp} {a : Addr} {vs : List V} {ds : List PyData} (h : SqT K R a vs) (hd : DpAll K R vs ds) : ItD K R (Itt K a) ds Ever := fun R1 H1 s1 s2 _ => by
  have hq := sqt_up s2 (sqt_up s1 h)
  refine ⟨fun i x hx => ?_, vs, hq, by rw [dps_len hd]; exact Nat.le_refl _⟩
  obtain ⟨v, h1, h2⟩ := dps_get hd hx
  refine ⟨⟨vs, v, hq, h1⟩, fun u H2 ⟨e1, e2⟩ => ⟨R1, by rw [e1]; exact Grow.refl s2, ?_⟩⟩
  have := e2 vs hq
  rw [h1] at this
  rw [← Option.some.inj this]
  exact dp_up s1 _ _ h2
def rngD (lo : Int) (n : Nat) : List PyData := (List.range n).map fun i : Nat => .int (lo + ((i : Nat) : Int))
theorem itd_rng {K : PySem.W.Frag} {R : Hp} {lo : Int} {n : Nat} : ItD K R (Itr lo n) (rngD lo n) Ever := fun R1 H1 s1 s2 _ => by
  refine ⟨fun i x hx => ?_, by show n ≤ (rngD lo n).length; unfold rngD; simp⟩
  unfold rngD at hx
  rw [List.getElem?_map] at hx
  have hi : i < n := by
    rcases Nat.lt_or_ge i n with h | h
    · exact h
    · rw [List.getElem?_eq_none (by simpa using h)] at hx
      cases hx
  rw [List.getElem?_range hi] at hx
  cases hx
  exact ⟨hi, fun u H2 ⟨e1, e2⟩ => ⟨R1, by rw [e1]; exact Grow.refl s2, by rw [e2]; exact .int _⟩⟩
/-- an owned list, while it stands -/
def StandsL (K : PySem.W.Frag) (p : Addr) (ds : List PyData) : Hp → Hp → Prop := fun R H => ∃ vs, H p = some (.lst vs) ∧ DpAll K R vs ds
theorem stands_of {i : Nat} {p : Addr} {ds : List PyData} {K : PySem.W.Frag} (h : own[i]? = some (p, asL K ds)) (R H : Hp) (w : Ow own R H) : StandsL K p ds R H := by
  obtain ⟨_, o, h1, vs, rfl, h2⟩ := w.get h
  exact ⟨vs, h1, h2⟩
theorem itd_own {K : PySem.W.Frag} {R : Hp} {a : Addr} {ds : List PyData} : ItD K R (Itl K a) ds (StandsL K a ds) := fun R1 H1 s1 s2 ⟨vs, h, hd⟩ => by
  have hq : SqL K H1 a vs := SqL.of h
  refine ⟨fun i x hx => ?_, vs, hq, by rw [dps_len hd]; exact Nat.le_refl _⟩
  obtain ⟨v, h1, h2⟩ := dps_get hd hx
  refine ⟨⟨vs, v, hq, h1⟩, fun u H2 ⟨e1, e2⟩ => ⟨R1, by rw [e1]; exact Grow.refl s2, ?_⟩⟩
  have := e2 vs hq
  rw [h1] at this
  rw [← Option.some.inj this]
  exact h2
def enumD (ds : List PyData) : List PyData := ds.mapIdx fun i d => .tuple [.int (i : Nat), d]
theorem enumD_get {ds : List PyData} {i : Nat} {x : PyData} (h : (enumD ds)[i]? = some x) : ∃ d, ds[i]? = some d ∧ x = .tuple [.int (i : Nat), d] := by
  unfold enumD at h
  rw [List.getElem?_mapIdx] at h
  cases q : ds[i]? with
  | none => rw [q] at h; cases h
  | some d =>
    rw [q] at h
    cases h
    exact ⟨d, rfl, rfl⟩
theorem itd_enumL {K : PySem.W.Frag} {R : Hp} {a : Addr} {vs : List V} {ds : List PyData} (h : SqL K R a vs) (hd : DpAll K R vs ds) : ItD K R (Ite K a) (enumD ds) Ever := fun R1 H1 s1 s2 _ => by
  have hq := sql_up s2 (sql_up s1 h)
  refine ⟨fun i x hx => ?_, vs, hq, by rw [dps_len hd]; unfold enumD; rw [List.length_mapIdx]; exact Nat.le_refl _⟩
  obtain ⟨d, hx', rfl⟩ := enumD_get hx
  obtain ⟨v, h1, h2⟩ := dps_get hd hx'
  refine ⟨⟨vs, v, hq, h1⟩, fun u H2 ⟨T, w, e0, e1, e2, e3⟩ => ?_⟩
  have := e3 vs hq
  rw [h1] at this
  rw [← Option.some.inj this] at e2
  subst e0 e2
  have g := Grow.imm (o := .tup [.int (i : Nat), v]) s2 e1
  exact ⟨_, g, .tup (SqT.of upd_same) (.cons (.int _) (.cons (dp_up g.rr _ _ (dp_up s1 _ _ h2)) .nil))⟩
theorem itd_enumT {K : PySem.W.Frag} {R : Hp} {a : Addr} {vs : List V} {ds : List PyData} (h : SqT K R a vs) (hd : DpAll K R vs ds) : ItD K R (ItE K a) (enumD ds) Ever := fun R1 H1 s1 s2 _ => by
  have hq := sqt_up s2 (sqt_up s1 h)
  refine ⟨fun i x hx => ?_, vs, hq, by rw [dps_len hd]; unfold enumD; rw [List.length_mapIdx]; exact Nat.le_refl _⟩
  obtain ⟨d, hx', rfl⟩ := enumD_get hx
  obtain ⟨v, h1, h2⟩ := dps_get hd hx'
  refine ⟨⟨vs, v, hq, h1⟩, fun u H2 ⟨T, w, e0, e1, e2, e3⟩ => ?_⟩
  have := e3 vs hq
  rw [h1] at this
  rw [← Option.some.inj this] at e2
  subst e0 e2
  have g := Grow.imm (o := .tup [.int (i : Nat), v]) s2 e1
  exact ⟨_, g, .tup (SqT.of upd_same) (.cons (.int _) (.cons (dp_up g.rr _ _ (dp_up s1 _ _ h2)) .nil))⟩
theorem src_list {tg iter : Expr} {ds : List PyData} (h : EX X G own iter (.d (.list ds))) : Src X G own tg iter ds Ever := ⟨_, pi_list pe_w, fun R H z w hz Rr q => h R H z w hz _ fun v R1 H1 g1 e1 => by
  obtain ⟨a, vs, rfl, h1, h2⟩ := dp_lst (d_slr e1)
  exact ⟨a, rfl, ⟨vs, sql_up g1.rh h1⟩, q _ R1 H1 g1 (itd_list h1 h2)⟩⟩
theorem src_tup {tg iter : Expr} {ds : List PyData} (h : EX X G own iter (.d (.tuple ds))) : Src X G own tg iter ds Ever := ⟨_, pi_tup pe_w, fun R H z w hz Rr q => h R H z w hz _ fun v R1 H1 g1 e1 => by
  obtain ⟨a, vs, rfl, h1, h2⟩ := dp_tup (d_slr e1)
  exact ⟨a, rfl, ⟨vs, sqt_up g1.rh h1⟩, q _ R1 H1 g1 (itd_tup h1 h2)⟩⟩
theorem src_own {tg iter : Expr} {ds : List PyData} {p : Addr} (i : Nat) (h : EX X G own iter (.v (.ref p))) (ho : own[i]? = some (p, asL X.K ds)) : Src X G own tg iter ds (StandsL X.K p ds) := ⟨_, pi_list pe_w, fun R H z w hz Rr q => h R H z w hz _ fun v R1 H1 g1 e1 => by
  obtain rfl := v_slr e1
  obtain ⟨vs, h1, h2⟩ := stands_of ho R1 H1 (w.grow g1)
  exact ⟨p, rfl, ⟨vs, SqL.of h1⟩, q _ R1 H1 g1 itd_own⟩⟩
theorem src_rng1 {tg e : Expr} {p pos : Pos} {j : Int} (h : EX X G own e (.d (.int j))) (hm : X.mg "range" = none) (hj : -(2 ^ 62) ≤ j ∧ j < 2 ^ 62) (hg : Gl X "range" := by rfl) (hs : starEach [e] X.env = [(false, eval e X.env)] := by rfl) :
    Src X G own tg (.Call (.Name "range" p) [e] [] pos) (rngD 0 j.toNat) Ever := ⟨_, pi_range1 hg hm pa_w hs, fun R H z w hz Rr q => (a_cons h a_nil hs : EA X G own [e] [.d (.int j)]) R H z w hz _ fun vs R1 H1 g1 e1 => by
  match vs, e1 with
  | [v], ⟨e1, _⟩ => exact ⟨j, by rw [dp_int (d_slr e1)], hj.1, hj.2, q _ R1 H1 g1 itd_rng⟩⟩
theorem src_rng2 {tg e f : Expr} {p pos : Pos} {i j : Int} (h : EX X G own e (.d (.int i))) (h' : EX X G own f (.d (.int j))) (hm : X.mg "range" = none) (hj : -(2 ^ 62) ≤ i ∧ i < 2 ^ 62 ∧ -(2 ^ 62) ≤ j ∧ j < 2 ^ 62) (hg : Gl X "range" := by rfl) (hs : starEach [e, f] X.env = [(false, eval e X.env), (false, eval f X.env)] := by rfl) (hs2 : starEach [f] X.env = [(false, eval f X.env)] := by rfl) :
    Src X G own tg (.Call (.Name "range" p) [e, f] [] pos) (rngD i (j - i).toNat) Ever := ⟨_, pi_range2 hg hm pa_w hs hs2, fun R H z w hz Rr q => (a_cons h (a_cons h' a_nil hs2) (hs.trans (by rw [hs2])) : EA X G own [e, f] [.d (.int i), .d (.int j)]) R H z w hz _ fun vs R1 H1 g1 e1 => by
  match vs, e1 with
  | [v, u], ⟨e1, e2, _⟩ => exact ⟨i, j, by rw [dp_int (d_slr e1), dp_int (d_slr e2)], hj, q _ R1 H1 g1 itd_rng⟩⟩
theorem src_enumT {e : Expr} {p pos tpos : Pos} {elts : List Expr} {kk : Nat} {ds : List PyData} (h : EX X G own e (.d (.tuple ds))) (hm : X.mg "enumerate" = none) (hg : Gl X "enumerate" := by rfl) (hs : starEach [e] X.env = [(false, eval e X.env)] := by rfl) :
    Src X G own (.Tuple elts kk tpos) (.Call (.Name "enumerate" p) [e] [] pos) (enumD ds) Ever := ⟨_, pi_enumT hg hm pa_w hs, fun R H z w hz Rr q => (a_cons h a_nil hs : EA X G own [e] [.d (.tuple ds)]) R H z w hz _ fun vs R1 H1 g1 e1 => by
  match vs, e1 with
  | [v], ⟨e1, _⟩ =>
    obtain ⟨a, us, rfl, h1, h2⟩ := dp_tup (d_slr e1)
    exact ⟨a, us, rfl, sqt_up g1.rh h1, q _ R1 H1 g1 (itd_enumT h1 h2)⟩⟩
theorem src_enumLM {e : Expr} {p pos tpos : Pos} {elts : List Expr} {kk : Nat} {C : OL → Sl → Prop} {C' : OL → List PyData → (Hp → Hp → Prop) → Prop} (h : EM X G own e C) (hd : ∀ o s, C o s → ∃ ds, s = .d (.list ds) ∧ C' o (enumD ds) Ever) (hm : X.mg "enumerate" = none) (hg : Gl X "enumerate" := by rfl) (hs : starEach [e] X.env = [(false, eval e X.env)] := by rfl) :
    SrcM X G own (.Tuple elts kk tpos) (.Call (.Name "enumerate" p) [e] [] pos) C' := ⟨_, pi_enum hg hm pa_w hs, fun R H z w hz Rr q => (ma_cons h (fun o _ _ => ma_nil) hs : EMA X G own [e] _) R H z w hz _ fun o ss vs R1 H1 ⟨o1, s, t, c1, ⟨e0, et⟩, ess⟩ p1 e1 => by
  subst e0 et ess
  match vs, e1 with
  | [v], ⟨e1, _⟩ =>
    obtain ⟨ds, rfl, c⟩ := hd _ _ c1
    obtain ⟨a, us, rfl, h1, h2⟩ := dp_lst (d_slr e1)
    exact ⟨a, us, rfl, sql_up p1.rh h1, q _ R1 H1 _ _ _ c p1 (itd_enumL h1 h2)⟩⟩

/-! ### loops -/
/-- behind a turn: the invariant I, since B -/
def AtI (X : Cx) (B : Bs) (I : List Sl → OL → Prop) : L2.St → Hp → Prop := fun z H => ∃ G o R, I G o ∧ SepB B o R H ∧ Hold X.K R G z
theorem at_end {I : List Sl → OL → Prop} (h : I G own) (hd : D.nx = AtI X B I) : Go X B G own D [] := g_nil fun R H z p hz => by rw [hd]; exact ⟨G, own, R, h, p, hz⟩
theorem at_le {I : List Sl → OL → Prop} {G' : List Sl} (hd : D.nx = AtI X B I) (h : I G' own) (hg : GLe G G') : Go X B G own D [] := g_nil fun R H z p hz => by rw [hd]; exact ⟨G', own, R, h, p, hold_le hg hz⟩
theorem g_for {tg iter : Expr} {body : List Stmt} {g : TG} {C : OL → List PyData → (Hp → Hp → Prop) → Prop} (src : SrcM X G own tg iter C) (hg : PG X tg g)
    (k : ∀ o xs V, C o xs V → ∃ I : Nat → List Sl → OL → Prop, I 0 G o ∧ (∀ i G1 o1, I i G1 o1 → ∀ R H, Ow o1 R H → V R H) ∧
      (∀ i x G1 o1 B1 D1, xs[i]? = some x → I i G1 o1 → SepB B o1 B1.R B1.H → B1.F = o1.map (·.1) → D1.nx = AtI X B1 (I (i + 1)) → D1.rt = D.rt → ∃ f, GD X.K g (.d x) f ∧ Go X B1 (f G1) o1 D1 body) ∧
      (∀ G1 o1, I xs.length G1 o1 → Go X B G1 o1 D rest))
    (hp : PassesOwn (model X.prog X.w) X.A X.env X.xe := by exact PassesOwn.never) (hc : X.calm = true := by rfl) (hs : ∀ x, foldedSetIterable iter X.env x = pure x := by intro _; rfl) : Go X B G own D (.For tg iter body [] pos :: rest) := by
  obtain ⟨wi, pi, sw⟩ := src
  refine g_cons (ps_for hp hc pi hg pss_w hs) fun R H z p hz => sw R H z p.ow hz _ fun J R1 H1 o xs V c p1 itd => ?_
  obtain ⟨I, h0, hV, turn, fin⟩ := k o xs V c
  have q1 := sep_trans p p1
  refine ⟨fun i m z' H' => i + m = xs.length ∧ ∃ G' o' R', I i G' o' ∧ SepB B o' R' H' ∧ Same R1 R' ∧ Hold X.K R' G' z', ⟨xs.length, Nat.zero_add _, G, o, R1, h0, q1, Same.refl _, hold_up p1.rr hz⟩, fun i m z' H' ⟨em, G', o', R', hI, q2, s1, hz'⟩ => ?_⟩
  obtain ⟨go, stop⟩ := itd R' H' s1 q2.rh (hV i G' o' hI R' H' q2.ow)
  by_cases hi : i < xs.length
  · have hx : xs[i]? = some xs[i] := List.getElem?_eq_getElem hi
    obtain ⟨g1, g2⟩ := go i _ hx
    refine .inr ⟨g1, fun z2 H2 => ∃ G' o' R2, I (i + 1) G' o' ∧ SepB B o' R2 H2 ∧ Same R1 R2 ∧ Hold X.K R2 G' z2, fun z2 H2 ⟨G2, o2, R2, a1, a2, a3, a4⟩ => ⟨m - 1, by omega, by omega, G2, o2, R2, a1, a2, a3, a4⟩, fun v H2 hy => ?_⟩
    obtain ⟨R2, gr, dv⟩ := g2 v H2 hy
    have q3 := q2.grow gr
    obtain ⟨f, gd, gb⟩ := turn i _ G' o' ⟨R2, H2, o'.map (·.1)⟩ { D with nx := AtI X ⟨R2, H2, o'.map (·.1)⟩ (I (i + 1)), ct := AtI X ⟨R2, H2, o'.map (·.1)⟩ (I (i + 1)), bk := bW X rest D } hx hI q3 rfl rfl rfl
    refine gd R2 H2 z' v G' q3.rh (slr_d dv) (hold_up gr.rr hz') _ fun z3 hz3 => ?_
    have fin2 := gb R2 H2 z3 (Sep.start q3.ow) hz3
    refine bW_of fun pins s Iv => wpAny_mono (bW_run fin2 pins s Iv) (fun fl s' sp => ?_) fun _ _ x => x
    have up : ∀ z4 H4, AtI X ⟨R2, H2, o'.map (·.1)⟩ (I (i + 1)) z4 H4 → ∃ G' o' R2, I (i + 1) G' o' ∧ SepB B o' R2 H4 ∧ Same R1 R2 ∧ Hold X.K R2 G' z4 := fun z4 H4 ⟨G4, o4, R4, a1, a2, a3⟩ =>
      ⟨G4, o4, R4, a1, sep_trans q3 a2, (s1.trans gr.rr).trans a2.rr, a3⟩
    cases fl with
    | next => obtain ⟨z4, H4, I4, q4⟩ := sp; exact ⟨z4, H4, I4, up z4 H4 q4⟩
    | cont => obtain ⟨z4, H4, I4, q4⟩ := sp; exact ⟨z4, H4, I4, up z4 H4 q4⟩
    | brk => exact sp
    | ret u => exact sp
  · have e0 : i = xs.length := by omega
    subst e0
    exact .inl ⟨stop, fin G' o' hI R' H' z' q2 hz'⟩
theorem g_while {body : List Stmt} (I : Nat → List Sl → OL → Prop) (m0 : Nat) (h0 : I m0 G own)
    (turn : ∀ m G1 o1, I m G1 o1 → ∃ b, ET X G1 o1 c b ∧ (b = true → ∀ B1 D1, SepB B o1 B1.R B1.H → B1.F = o1.map (·.1) → D1.nx = AtI X B1 (fun G2 o2 => ∃ m', m' < m ∧ I m' G2 o2) → D1.rt = D.rt → Go X B1 G1 o1 D1 body) ∧ (b = false → Go X B G1 o1 D rest))
    (hp : PassesOwn (model X.prog X.w) X.A X.env X.xe := by exact PassesOwn.never) : Go X B G own D (.While c body [] pos :: rest) := by
  refine g_cons (ps_while hp pt_w pss_w) fun R H z p hz => ?_
  refine ⟨fun m z' H' => ∃ G' o' R', I m G' o' ∧ SepB B o' R' H' ∧ Hold X.K R' G' z', ⟨m0, G, own, R, h0, p, hz⟩, fun m z' H' ⟨G', o', R', hI, q2, hz'⟩ => ?_⟩
  obtain ⟨b, et, h1, h2⟩ := turn m G' o' hI
  refine et R' H' z' q2.ow hz' _ fun R2 H2 gr => ?_
  have q3 := q2.grow gr
  cases b with
  | false =>
    rw [if_neg Bool.false_ne_true]
    exact h2 rfl R2 H2 z' q3 (hold_up gr.rr hz')
  | true =>
    rw [if_pos rfl]
    refine ⟨fun z2 H2 => ∃ m', m' < m ∧ ∃ G' o' R2, I m' G' o' ∧ SepB B o' R2 H2 ∧ Hold X.K R2 G' z2, fun _ _ h => h, ?_⟩
    have fin2 := h1 rfl ⟨R2, H2, o'.map (·.1)⟩ { D with nx := AtI X ⟨R2, H2, o'.map (·.1)⟩ (fun G2 o2 => ∃ m', m' < m ∧ I m' G2 o2), ct := AtI X ⟨R2, H2, o'.map (·.1)⟩ (fun G2 o2 => ∃ m', m' < m ∧ I m' G2 o2), bk := bW X rest D } q3 rfl rfl rfl R2 H2 z' (Sep.start q3.ow) (hold_up gr.rr hz')
    refine bW_of fun pins s Iv => wpAny_mono (bW_run fin2 pins s Iv) (fun fl s' sp => ?_) fun _ _ x => x
    have up : ∀ z4 H4, AtI X ⟨R2, H2, o'.map (·.1)⟩ (fun G2 o2 => ∃ m', m' < m ∧ I m' G2 o2) z4 H4 → ∃ m', m' < m ∧ ∃ G' o' R2, I m' G' o' ∧ SepB B o' R2 H4 ∧ Hold X.K R2 G' z4 := fun z4 H4 ⟨G4, o4, R4, ⟨m', hm, a1⟩, a2, a3⟩ =>
      ⟨m', hm, G4, o4, R4, a1, sep_trans q3 a2, a3⟩
    cases fl with
    | next => obtain ⟨z4, H4, I4, q4⟩ := sp; exact ⟨z4, H4, I4, up z4 H4 q4⟩
    | cont => obtain ⟨z4, H4, I4, q4⟩ := sp; exact ⟨z4, H4, I4, up z4 H4 q4⟩
    | brk => exact sp
    | ret u => exact sp
end
end CB

/-! Part 9: comprehensions, owned lists, dicts of texts. -/
namespace CB
open PySem PySem.Spec PyProof.Rows L2
/-! ### comprehensions -/
def Bk (X : Cx) (scope : Scope) (Pp : Cx → Prop) : Prop := ∀ (s : Shared) (H : Hp) (C : Addr) (cl : List (Str × Addr)) (fp : List Addr), Pp (X.blk s H scope (compEnvC scope cl C X.env) fp)
def uE (X : Cx) (scope : Scope) (e : Expr) : TE := fun σ H Q => ∀ s H0 C cl fp, eW (X.blk s H0 scope (compEnvC scope cl C X.env) fp) e σ H Q
def uT (X : Cx) (scope : Scope) (e : Expr) : TT := fun σ H Q => ∀ s H0 C cl fp, tW (X.blk s H0 scope (compEnvC scope cl C X.env) fp) e σ H Q
def EvM (K : PySem.W.Frag) (G : List Sl) (own : OL) (te : TE) (C : OL → Sl → Prop) : Prop :=
  ∀ R H z, Ow own R H → Hold K R G z → ∀ Q : VK, (∀ o s v R' H', C o s → Sep R H (own.map (·.1)) o R' H' → SlR K R' s (some v) → Q v H') → te z H Q
def EvTM (K : PySem.W.Frag) (G : List Sl) (own : OL) (tt : TT) (C : OL → Bool → Prop) : Prop :=
  ∀ R H z, Ow own R H → Hold K R G z → ∀ Q : Bool → Hp → Prop, (∀ o b R' H', C o b → Sep R H (own.map (·.1)) o R' H' → Q b H') → tt z H Q
section
variable {K : PySem.W.Frag} {G : List Sl} {own : OL}
theorem ev_lcS {α : Type} {wi : TI} {g : TG} {tt : TT} {te : TE} {vs : List Nat} {l : List α} {enc : α → PyData} {V : Hp → Hp → Prop} (t : α → Option PyData) (h : SrcW K G own wi (l.map enc) V) (hV : ∀ R H, Ow own R H → V R H) (hz : l.length ≤ 100000) (T : ∀ x ∈ l, LcTurn K G own g tt te vs (enc x) (t x)) :
    Ev K G own (tLc wi g tt te vs) (.d (.list (l.filterMap t))) := fun R H z w hzz Q q =>
  h R H z w hzz _ fun J R1 H1 g1 itd => fun D hD => by
    have hlen : (l.map enc).length = l.length := List.length_map _
    refine ⟨fun i m H' => i + m = l.length ∧ LcAt K R1 H1 D ((l.take i).filterMap t) H', ⟨l.length, Nat.zero_add _, ?_⟩, fun i m H' ⟨em, p⟩ => ?_⟩
    · rw [List.take_zero]
      exact lcAt_start g1.rh hD
    obtain ⟨R', vs', gA, h1, h2, h3⟩ := id p
    obtain ⟨go, stop⟩ := itd R' H' gA.rr gA.rh (hV R' H' ((w.grow g1).grow gA))
    by_cases hi : i < l.length
    · have hx : l[i]? = some l[i] := List.getElem?_eq_getElem hi
      generalize l[i] = x at hx
      have hx' : (l.map enc)[i]? = some (enc x) := by rw [List.getElem?_map, hx]; rfl
      obtain ⟨y1, y2⟩ := go i _ hx'
      refine .inr ⟨y1, fun H2 => LcAt K R1 H1 D ((l.take (i + 1)).filterMap t) H2, fun H2 q2 => ⟨m - 1, by omega, by omega, q2⟩, fun v H2 hy => ?_⟩
      obtain ⟨R2, gr, dv⟩ := y2 v H2 hy
      have g2 := gA.trans gr
      have hl : vs'.length < sizeLine := by
        rw [dps_len h3]
        refine Nat.lt_of_le_of_lt (Nat.le_trans (List.length_filterMap_le _ _) ?_) (show 100000 < sizeLine by decide)
        rw [List.length_take]
        exact Nat.le_trans (Nat.min_le_right _ _) hz
      have es : (l.take (i + 1)).filterMap t = (l.take i).filterMap t ++ (t x).toList := outs_snoc hx
      refine lc_step (T x (List.mem_of_getElem? hx)) (((w.grow g1).grow gA).grow gr) (hold_up gr.rr (hold_up gA.rr (hold_up g1.rr hzz))) dv (gr.hh _ _ h2) ((gr.old _ _ h2).trans h1) (dps_up gr.rr _ _ h3) hl (fun R3 H3 acc2 g3 q1 q2 => ?_) fun e R3 H3 g3 => ?_
      · rw [es]
        exact lcAt_put hD g2 g3 q1 q2
      · rw [es, e]
        simp only [Option.toList_none, List.append_nil]
        have g4 := gr.trans g3
        exact ⟨R3, vs', gA.trans g4, (g4.old _ _ h2).trans h1, g4.hh _ _ h2, dps_up g4.rr _ _ h3⟩
    · have e0 : i = l.length := by omega
      subst e0
      rw [hlen] at stop
      rw [List.take_length] at p
      obtain ⟨R3, g3, e3⟩ := lcAt_end hD p
      exact .inl ⟨stop, q _ R3 H' (g1.trans g3) (slr_d e3)⟩
theorem mv_lc {wi : TI} {g : TG} {tt : TT} {te : TE} {vs : List Nat} {C : OL → List PyData → (Hp → Hp → Prop) → Prop} {Dd : OL → Sl → Prop}
    (sw : ∀ R H z, Ow own R H → Hold K R G z → ∀ Rr : It → Hp → Prop, (∀ J R' H' o xs V, C o xs V → Sep R H (own.map (·.1)) o R' H' → ItD K R' J xs V → Rr J H') → wi z H Rr)
    (k : ∀ o xs V, C o xs V → xs.length ≤ 100000 ∧ ∃ I : Nat → List PyData → OL → Prop, I 0 [] o ∧ (∀ i acc o1, I i acc o1 → ∀ R H, Ow o1 R H → V R H) ∧
      (∀ i x acc o1, xs[i]? = some x → I i acc o1 → ∃ f, GD K g (.d x) f ∧ GW g vs ∧ EvTM K (f (wipeG G vs)) o1 tt fun o2 b => (b = true → EvM K (f (wipeG G vs)) o2 te fun o3 s => ∃ d, s = .d d ∧ I (i + 1) (acc ++ [d]) o3) ∧ (b = false → I (i + 1) acc o2)) ∧
      ∀ acc o1, I xs.length acc o1 → Dd o1 (.d (.list acc))) : EvM K G own (tLc wi g tt te vs) Dd := fun R H z w hzz Q q =>
  sw R H z w hzz _ fun J R1 H1 o xs V c p1 itd => fun D hD => by
    obtain ⟨hlen, I, h0, hV, turn, fin⟩ := k o xs V c
    have hF : D ∉ own.map (·.1) := fun z => by
      have := p1.all D z
      obtain ⟨r, hr, e⟩ := List.mem_map.mp this
      obtain ⟨_, u, g2, _⟩ := p1.ow.at_ r hr
      have e' : r.1 = D := e
      rw [e', hD] at g2
      cases g2
    refine ⟨fun i m H' => i + m = xs.length ∧ ∃ acc o' R', I i acc o' ∧ acc.length ≤ i ∧ Sep R H (own.map (·.1)) ((D, asL K acc) :: o') R' H' ∧ Same R1 R' ∧ Hold K R' G z, ⟨xs.length, Nat.zero_add _, [], o, R1, h0, Nat.le_refl _, p1.new (A := asL K []) hD ⟨[], rfl, .nil⟩, Same.refl _, hold_up p1.rr hzz⟩, fun i m H' ⟨em, acc, o', R', hI, hal, q2, s1, hz'⟩ => ?_⟩
    have w' : Ow o' R' H' := (show Ow ([(D, asL K acc)] ++ o') R' H' from q2.ow).sub.2
    obtain ⟨go, stop⟩ := itd R' H' s1 q2.rh (hV i acc o' hI R' H' w')
    by_cases hi : i < xs.length
    · have hx : xs[i]? = some xs[i] := List.getElem?_eq_getElem hi
      obtain ⟨y1, y2⟩ := go i _ hx
      refine .inr ⟨y1, fun H2 => ∃ acc o' R2, I (i + 1) acc o' ∧ acc.length ≤ i + 1 ∧ Sep R H (own.map (·.1)) ((D, asL K acc) :: o') R2 H2 ∧ Same R1 R2 ∧ Hold K R2 G z, fun H2 ⟨a1, a2, a3, a4, a5, a6, a7, a8⟩ => ⟨m - 1, by omega, by omega, a1, a2, a3, a4, a5, a6, a7, a8⟩, fun v H2 hy => ?_⟩
      obtain ⟨R2, gr, dv⟩ := y2 v H2 hy
      have q3 := q2.grow gr
      have q3' := q3.perm (own' := o' ++ [(D, asL K acc)]) (by exact List.perm_append_comm (l₁ := [(D, asL K acc)]))
      obtain ⟨f, gd, gw, et⟩ := turn i _ acc o' hx hI
      refine gw v z H2 _ (gd R2 H2 _ v _ q3.rh (slr_d dv) (hold_wipe vs (hold_up gr.rr hz')) _ fun z' hz2 => ?_)
      refine et R2 H2 z' q3'.ow.sub.1 hz2 _ fun o2 b R3 H3 ⟨c1, c2⟩ p3 => ?_
      have q4 := q3'.call p3
      have sR := (s1.trans gr.rr).trans p3.rr
      cases b with
      | false =>
        rw [if_neg Bool.false_ne_true]
        exact ⟨acc, o2, R3, c2 rfl, Nat.le_succ_of_le hal, q4.perm (by exact List.perm_append_comm (l₂ := [(D, asL K acc)])), sR, hold_up p3.rr (hold_up gr.rr hz')⟩
      | true =>
        rw [if_pos rfl]
        refine c1 rfl R3 H3 z' q4.ow.sub.1 (hold_up p3.rr hz2) _ fun o3 s u R4 H4 ⟨d, es, hI2⟩ p4 e4 => ?_
        subst es
        have q5 := (q4.call p4).perm (own' := (D, asL K acc) :: o3) (by exact List.perm_append_comm (l₂ := [(D, asL K acc)]))
        obtain ⟨hRD, ob, hHD, ws, rfl, hd⟩ := q5.ow.get (i := 0) rfl
        refine ⟨ws, hHD, ?_, acc ++ [d], o3, R4, hI2, by rw [List.length_append, List.length_singleton]; omega, q5.put (i := 0) (A' := asL K (acc ++ [d])) rfl ⟨_, rfl, dps_app hd (dps_one (d_slr e4))⟩, sR.trans p4.rr, hold_up p4.rr (hold_up p3.rr (hold_up gr.rr hz'))⟩
        rw [dps_len hd]
        exact Nat.lt_of_le_of_lt (show acc.length ≤ 100000 by omega) (by decide)
    · have e0 : i = xs.length := by omega
      subst e0
      obtain ⟨hRD, ob, hHD, ws, rfl, hd⟩ := q2.ow.get (i := 0) rfl
      have q3 := q2.freeze hF hHD
      exact .inl ⟨stop, q o' _ _ _ H' (fin acc o' hI) q3 (slr_d (.lst (SqL.of upd_same) (dps_up (same_new hRD) _ _ hd)))⟩
end
section
variable {X : Cx} {B : Bs} {G : List Sl} {own : OL} {D : Ends} {rest : List Stmt} {st : Stmt} {e a c o tg iter elt : Expr} {es : List Expr} {s x y : Sl} {pos : Pos} {scope : Scope}
theorem ue_of {d : Sl} (h : Bk X scope fun Y => EX Y G own e d) : Ev X.K G own (uE X scope e) d := fun R H z w hz Q q s H0 C cl fp => h s H0 C cl fp R H z w hz Q q
theorem ut_of {b : Bool} (h : Bk X scope fun Y => ET Y G own e b) : EvT X.K G own (uT X scope e) b := fun R H z w hz Q q s H0 C cl fp => h s H0 C cl fp R H z w hz Q q
theorem uem_of {C : OL → Sl → Prop} (h : Bk X scope fun Y => EM Y G own e C) : EvM X.K G own (uE X scope e) C := fun R H z w hz Q q s H0 C cl fp => h s H0 C cl fp R H z w hz Q q
theorem utm_of {C : OL → Bool → Prop} (h : Bk X scope fun Y => EMT Y G own e C) : EvTM X.K G own (uT X scope e) C := fun R H z w hz Q q s H0 C cl fp => h s H0 C cl fp R H z w hz Q q
/-- a comprehension: as a value, and behind «name =» -/
def LCX (X : Cx) (G : List Sl) (own : OL) (e : Expr) (s : Sl) : Prop := ∃ te, PE X e te ∧ (∀ y py spos i, X.N[i]? = some y → X.env.scope.names.lookup y = some .local → swapsWith e (some (.Name y py)) spos.line X.env = pure true → PS X (.Assign [.Name y py] e spos) (tAsg te (gName i))) ∧ Ev X.K G own te s
def LCM (X : Cx) (G : List Sl) (own : OL) (e : Expr) (C : OL → Sl → Prop) : Prop := ∃ te, PE X e te ∧ (∀ y py spos i, X.N[i]? = some y → X.env.scope.names.lookup y = some .local → swapsWith e (some (.Name y py)) spos.line X.env = pure true → PS X (.Assign [.Name y py] e spos) (tAsg te (gName i))) ∧ EvM X.K G own te C
theorem LCX.ex (h : LCX X G own e s) : EX X G own e s := let ⟨_, h1, _, h2⟩ := h; EX.of h1 h2
theorem LCM.em {C : OL → Sl → Prop} (h : LCM X G own e C) : EM X G own e C := let ⟨_, h1, _, h2⟩ := h; EM.of h1 h2
theorem g_setLcM {C : OL → Sl → Prop} {n : Str} {pos' : Pos} (i : Nat) (h : LCM X G own e C) (q : ∀ o s, C o s → Go X B (G.set i s) o D rest) (hi : X.N[i]? = some n := by rfl) (hl : X.env.scope.names.lookup n = some .local := by rfl)
    (hs : swapsWith e (some (.Name n pos')) pos.line X.env = pure true := by exact sw_true rfl rfl rfl (by decide +kernel)) : Go X B G own D (.Assign [.Name n pos'] e pos :: rest) := by
  obtain ⟨te, _, h2, h3⟩ := h
  exact g_cons (h2 n pos' pos i hi hl hs) fun R H z p hz => h3 R H z p.ow hz _ fun o s v R1 H1 c p1 e1 => q o s c R1 H1 _ (sep_trans p p1) (hold_set e1 i (hold_up p1.rr hz))
theorem g_setLc {n : Str} {pos' : Pos} (i : Nat) (h : LCX X G own e s) (q : Go X B (G.set i s) own D rest) (hi : X.N[i]? = some n := by rfl) (hl : X.env.scope.names.lookup n = some .local := by rfl)
    (hs : swapsWith e (some (.Name n pos')) pos.line X.env = pure true := by exact sw_true rfl rfl rfl (by decide +kernel)) : Go X B G own D (.Assign [.Name n pos'] e pos :: rest) := by
  obtain ⟨te, h1, h2, h3⟩ := h
  exact g_setLcM (C := Is own s) i ⟨te, h1, h2, fun R H z w hz Q q => h3 R H z w hz Q fun v R' H' g e => q own s v R' H' ⟨rfl, rfl⟩ (sep_of w g) e⟩ (fun o t ⟨h1, h2⟩ => by subst h1 h2; exact q) hi hl hs
/-- [elt for tg in iter] -/
theorem lcx_lc {α : Type} {g : TG} {l : List α} {enc : α → PyData} {V : Hp → Hp → Prop} (hN : X.N.Nodup) (bo : List (Str × Nat)) (t : α → PyData) (src : Src X G own tg iter (l.map enc) V) (hV : ∀ R H, Ow own R H → V R H) (hz : l.length ≤ 100000) (ok : BlkOk X.N X.env.scope scope bo) (hg : Bk X scope fun Y => PG Y tg g) (hw : GW g (bo.map (·.2)))
    (T : ∀ x ∈ l, ∃ f, GD X.K g (.d (enc x)) f ∧ Bk X scope fun Y => EX Y (f (wipeG G (bo.map (·.2)))) own elt (.d (t x)))
    (hc : X.calm = true := by rfl) (hs : ∀ x, foldedSetIterable iter X.env x = pure x := by intro _; rfl) : LCX X G own (.ListComp elt [⟨tg, iter, [], 0⟩] scope pos) (.d (.list (l.map t))) := by
  obtain ⟨wi, pi, sw⟩ := src
  have e : l.map t = l.filterMap fun x => some (t x) := by rw [List.filterMap_eq_map']
  rw [e]
  refine ⟨_, pe_lc (tt := tYes) (te := uE X scope elt) hc hN pi ok hg (fun _ _ _ _ _ => pts_nil) (fun s H C cl fp => ⟨fun pins s' σ H' Q I h => eW_run (h s H C cl fp) pins s' I⟩) hs, fun y py spos i hy hyl hsw => ps_setLc (tt := tYes) (te := uE X scope elt) hc hN hy hyl hsw pi ok hg (fun _ _ _ _ _ => pts_nil) (fun s H C cl fp => ⟨fun pins s' σ H' Q I h => eW_run (h s H C cl fp) pins s' I⟩) hs, ev_lcS (fun x => some (t x)) sw hV hz fun x hx => ?_⟩
  obtain ⟨f, h1, h2⟩ := T x hx
  exact ⟨f, true, h1, hw, fun R H z w hz Q q => q R H (Grow.refl w.rh), fun _ => ⟨_, rfl, ue_of h2⟩, fun z => nomatch z⟩
/-- [elt for tg in iter if c] -/
theorem lcx_lcIf {α : Type} {g : TG} {l : List α} {enc : α → PyData} {V : Hp → Hp → Prop} (hN : X.N.Nodup) (bo : List (Str × Nat)) (b : α → Bool) (t : α → PyData) (src : Src X G own tg iter (l.map enc) V) (hV : ∀ R H, Ow own R H → V R H) (hz : l.length ≤ 100000) (ok : BlkOk X.N X.env.scope scope bo) (hg : Bk X scope fun Y => PG Y tg g) (hw : GW g (bo.map (·.2)))
    (T : ∀ x ∈ l, ∃ f, GD X.K g (.d (enc x)) f ∧ (Bk X scope fun Y => ET Y (f (wipeG G (bo.map (·.2)))) own c (b x)) ∧ (b x = true → Bk X scope fun Y => EX Y (f (wipeG G (bo.map (·.2)))) own elt (.d (t x))))
    (hc : X.calm = true := by rfl) (hs : ∀ x, foldedSetIterable iter X.env x = pure x := by intro _; rfl) : LCX X G own (.ListComp elt [⟨tg, iter, [c], 0⟩] scope pos) (.d (.list ((l.filter b).map t))) := by
  obtain ⟨wi, pi, sw⟩ := src
  have e : (l.filter b).map t = l.filterMap fun x => if b x = true then some (t x) else none := by
    rw [← List.filterMap_eq_map, ← List.filterMap_eq_filter, List.filterMap_filterMap]
    congr 1
    funext x
    cases q : b x <;> simp [Option.guard, q]
  rw [e]
  refine ⟨_, pe_lc (tt := uT X scope c) (te := uE X scope elt) hc hN pi ok hg (fun s H C cl fp => pts_one ⟨fun pins s' σ H' Q I h => tW_run (h s H C cl fp) pins s' I⟩) (fun s H C cl fp => ⟨fun pins s' σ H' Q I h => eW_run (h s H C cl fp) pins s' I⟩) hs, fun y py spos i hy hyl hsw => ps_setLc (tt := uT X scope c) (te := uE X scope elt) hc hN hy hyl hsw pi ok hg (fun s H C cl fp => pts_one ⟨fun pins s' σ H' Q I h => tW_run (h s H C cl fp) pins s' I⟩) (fun s H C cl fp => ⟨fun pins s' σ H' Q I h => eW_run (h s H C cl fp) pins s' I⟩) hs, ev_lcS (fun x => if b x = true then some (t x) else none) sw hV hz fun x hx => ?_⟩
  obtain ⟨f, h1, h2, h3⟩ := T x hx
  exact ⟨f, b x, h1, hw, ut_of h2, fun q => ⟨_, if_pos q, ue_of (h3 q)⟩, fun q => if_neg (by rw [q]; exact Bool.false_ne_true)⟩
/-- where a turn turns things -/
theorem lcm_lc {g : TG} {C : OL → List PyData → (Hp → Hp → Prop) → Prop} {Dd : OL → Sl → Prop} (hN : X.N.Nodup) (bo : List (Str × Nat)) (src : SrcM X G own tg iter C) (ok : BlkOk X.N X.env.scope scope bo) (hg : Bk X scope fun Y => PG Y tg g) (hw : GW g (bo.map (·.2)))
    (k : ∀ o xs V, C o xs V → xs.length ≤ 100000 ∧ ∃ I : Nat → List PyData → OL → Prop, I 0 [] o ∧ (∀ i acc o1, I i acc o1 → ∀ R H, Ow o1 R H → V R H) ∧
      (∀ i x acc o1, xs[i]? = some x → I i acc o1 → ∃ f, GD X.K g (.d x) f ∧ Bk X scope fun Y => EM Y (f (wipeG G (bo.map (·.2)))) o1 elt fun o3 s => ∃ d, s = .d d ∧ I (i + 1) (acc ++ [d]) o3) ∧
      ∀ acc o1, I xs.length acc o1 → Dd o1 (.d (.list acc)))
    (hc : X.calm = true := by rfl) (hs : ∀ x, foldedSetIterable iter X.env x = pure x := by intro _; rfl) : LCM X G own (.ListComp elt [⟨tg, iter, [], 0⟩] scope pos) Dd := by
  obtain ⟨wi, pi, sw⟩ := src
  refine ⟨_, pe_lc (tt := tYes) (te := uE X scope elt) hc hN pi ok hg (fun _ _ _ _ _ => pts_nil) (fun s H C cl fp => ⟨fun pins s' σ H' Q I h => eW_run (h s H C cl fp) pins s' I⟩) hs, fun y py spos i hy hyl hsw => ps_setLc (tt := tYes) (te := uE X scope elt) hc hN hy hyl hsw pi ok hg (fun _ _ _ _ _ => pts_nil) (fun s H C cl fp => ⟨fun pins s' σ H' Q I h => eW_run (h s H C cl fp) pins s' I⟩) hs, mv_lc sw fun o xs V c => ?_⟩
  obtain ⟨h1, I, h2, h3, h4, h5⟩ := k o xs V c
  refine ⟨h1, I, h2, h3, fun i x acc o1 hx hI => ?_, h5⟩
  obtain ⟨f, q1, q2⟩ := h4 i x acc o1 hx hI
  exact ⟨f, q1, hw, fun R H z w hz Q q => q o1 true R H ⟨fun _ => uem_of q2, fun z => nomatch z⟩ (sep_of w (Grow.refl w.rh)), ⟩
theorem lcm_lcIf {g : TG} {C : OL → List PyData → (Hp → Hp → Prop) → Prop} {Dd : OL → Sl → Prop} (hN : X.N.Nodup) (bo : List (Str × Nat)) (src : SrcM X G own tg iter C) (ok : BlkOk X.N X.env.scope scope bo) (hg : Bk X scope fun Y => PG Y tg g) (hw : GW g (bo.map (·.2)))
    (k : ∀ o xs V, C o xs V → xs.length ≤ 100000 ∧ ∃ I : Nat → List PyData → OL → Prop, I 0 [] o ∧ (∀ i acc o1, I i acc o1 → ∀ R H, Ow o1 R H → V R H) ∧
      (∀ i x acc o1, xs[i]? = some x → I i acc o1 → ∃ f, GD X.K g (.d x) f ∧ ∃ Ct : OL → Bool → Prop, (Bk X scope fun Y => EMT Y (f (wipeG G (bo.map (·.2)))) o1 c Ct) ∧ (∀ o2, Ct o2 true → Bk X scope fun Y => EM Y (f (wipeG G (bo.map (·.2)))) o2 elt fun o3 s => ∃ d, s = .d d ∧ I (i + 1) (acc ++ [d]) o3) ∧ (∀ o2, Ct o2 false → I (i + 1) acc o2)) ∧
      ∀ acc o1, I xs.length acc o1 → Dd o1 (.d (.list acc)))
    (hc : X.calm = true := by rfl) (hs : ∀ x, foldedSetIterable iter X.env x = pure x := by intro _; rfl) : LCM X G own (.ListComp elt [⟨tg, iter, [c], 0⟩] scope pos) Dd := by
  obtain ⟨wi, pi, sw⟩ := src
  refine ⟨_, pe_lc (tt := uT X scope c) (te := uE X scope elt) hc hN pi ok hg (fun s H C cl fp => pts_one ⟨fun pins s' σ H' Q I h => tW_run (h s H C cl fp) pins s' I⟩) (fun s H C cl fp => ⟨fun pins s' σ H' Q I h => eW_run (h s H C cl fp) pins s' I⟩) hs, fun y py spos i hy hyl hsw => ps_setLc (tt := uT X scope c) (te := uE X scope elt) hc hN hy hyl hsw pi ok hg (fun s H C cl fp => pts_one ⟨fun pins s' σ H' Q I h => tW_run (h s H C cl fp) pins s' I⟩) (fun s H C cl fp => ⟨fun pins s' σ H' Q I h => eW_run (h s H C cl fp) pins s' I⟩) hs, mv_lc sw fun o xs V c => ?_⟩
  obtain ⟨h1, I, h2, h3, h4, h5⟩ := k o xs V c
  refine ⟨h1, I, h2, h3, fun i x acc o1 hx hI => ?_, h5⟩
  obtain ⟨f, q1, Ct, q2, q3, q4⟩ := h4 i x acc o1 hx hI
  refine ⟨f, q1, hw, fun R H z w hz Q q => utm_of q2 R H z w hz Q fun o2 b R' H' ct p => q o2 b R' H' ⟨fun e => ?_, fun e => ?_⟩ p⟩
  · subst e
    exact uem_of (q3 o2 ct)
  · subst e
    exact q4 o2 ct

theorem x_lc {α : Type} {g : TG} {l : List α} {enc : α → PyData} {V : Hp → Hp → Prop} (hN : X.N.Nodup) (bo : List (Str × Nat)) (t : α → PyData) (src : Src X G own tg iter (l.map enc) V) (hV : ∀ R H, Ow own R H → V R H) (hz : l.length ≤ 100000) (ok : BlkOk X.N X.env.scope scope bo) (hg : Bk X scope fun Y => PG Y tg g) (hw : GW g (bo.map (·.2)))
    (T : ∀ x ∈ l, ∃ f, GD X.K g (.d (enc x)) f ∧ Bk X scope fun Y => EX Y (f (wipeG G (bo.map (·.2)))) own elt (.d (t x)))
    (hc : X.calm = true := by rfl) (hs : ∀ x, foldedSetIterable iter X.env x = pure x := by intro _; rfl) : EX X G own (.ListComp elt [⟨tg, iter, [], 0⟩] scope pos) (.d (.list (l.map t))) := (lcx_lc hN bo t src hV hz ok hg hw T hc hs).ex
theorem x_lcIf {α : Type} {g : TG} {l : List α} {enc : α → PyData} {V : Hp → Hp → Prop} (hN : X.N.Nodup) (bo : List (Str × Nat)) (b : α → Bool) (t : α → PyData) (src : Src X G own tg iter (l.map enc) V) (hV : ∀ R H, Ow own R H → V R H) (hz : l.length ≤ 100000) (ok : BlkOk X.N X.env.scope scope bo) (hg : Bk X scope fun Y => PG Y tg g) (hw : GW g (bo.map (·.2)))
    (T : ∀ x ∈ l, ∃ f, GD X.K g (.d (enc x)) f ∧ (Bk X scope fun Y => ET Y (f (wipeG G (bo.map (·.2)))) own c (b x)) ∧ (b x = true → Bk X scope fun Y => EX Y (f (wipeG G (bo.map (·.2)))) own elt (.d (t x))))
    (hc : X.calm = true := by rfl) (hs : ∀ x, foldedSetIterable iter X.env x = pure x := by intro _; rfl) : EX X G own (.ListComp elt [⟨tg, iter, [c], 0⟩] scope pos) (.d (.list ((l.filter b).map t))) := (lcx_lcIf hN bo b t src hV hz ok hg hw T hc hs).ex
theorem m_lc {g : TG} {C : OL → List PyData → (Hp → Hp → Prop) → Prop} {Dd : OL → Sl → Prop} (hN : X.N.Nodup) (bo : List (Str × Nat)) (src : SrcM X G own tg iter C) (ok : BlkOk X.N X.env.scope scope bo) (hg : Bk X scope fun Y => PG Y tg g) (hw : GW g (bo.map (·.2)))
    (k : ∀ o xs V, C o xs V → xs.length ≤ 100000 ∧ ∃ I : Nat → List PyData → OL → Prop, I 0 [] o ∧ (∀ i acc o1, I i acc o1 → ∀ R H, Ow o1 R H → V R H) ∧
      (∀ i x acc o1, xs[i]? = some x → I i acc o1 → ∃ f, GD X.K g (.d x) f ∧ Bk X scope fun Y => EM Y (f (wipeG G (bo.map (·.2)))) o1 elt fun o3 s => ∃ d, s = .d d ∧ I (i + 1) (acc ++ [d]) o3) ∧
      ∀ acc o1, I xs.length acc o1 → Dd o1 (.d (.list acc)))
    (hc : X.calm = true := by rfl) (hs : ∀ x, foldedSetIterable iter X.env x = pure x := by intro _; rfl) : EM X G own (.ListComp elt [⟨tg, iter, [], 0⟩] scope pos) Dd := (lcm_lc hN bo src ok hg hw k hc hs).em
theorem m_lcIf {g : TG} {C : OL → List PyData → (Hp → Hp → Prop) → Prop} {Dd : OL → Sl → Prop} (hN : X.N.Nodup) (bo : List (Str × Nat)) (src : SrcM X G own tg iter C) (ok : BlkOk X.N X.env.scope scope bo) (hg : Bk X scope fun Y => PG Y tg g) (hw : GW g (bo.map (·.2)))
    (k : ∀ o xs V, C o xs V → xs.length ≤ 100000 ∧ ∃ I : Nat → List PyData → OL → Prop, I 0 [] o ∧ (∀ i acc o1, I i acc o1 → ∀ R H, Ow o1 R H → V R H) ∧
      (∀ i x acc o1, xs[i]? = some x → I i acc o1 → ∃ f, GD X.K g (.d x) f ∧ ∃ Ct : OL → Bool → Prop, (Bk X scope fun Y => EMT Y (f (wipeG G (bo.map (·.2)))) o1 c Ct) ∧ (∀ o2, Ct o2 true → Bk X scope fun Y => EM Y (f (wipeG G (bo.map (·.2)))) o2 elt fun o3 s => ∃ d, s = .d d ∧ I (i + 1) (acc ++ [d]) o3) ∧ (∀ o2, Ct o2 false → I (i + 1) acc o2)) ∧
      ∀ acc o1, I xs.length acc o1 → Dd o1 (.d (.list acc)))
    (hc : X.calm = true := by rfl) (hs : ∀ x, foldedSetIterable iter X.env x = pure x := by intro _; rfl) : EM X G own (.ListComp elt [⟨tg, iter, [c], 0⟩] scope pos) Dd := (lcm_lcIf hN bo src ok hg hw k hc hs).em
/-! ### owned lists -/
theorem m_append {apos : Pos} {C0 : OL → Sl → Prop} {Dd : OL → Sl → Prop} (ho : EM X G own o C0)
    (he : ∀ o1 s, C0 o1 s → ∃ (p : Addr) (j : Nat) (ds : List PyData), s = .v (.ref p) ∧ o1[j]? = some (p, asL X.K ds) ∧ ∃ C1 : OL → Sl → Prop, EM X G o1 e C1 ∧
      ∀ o2 s, C1 o2 s → ∃ (j : Nat) (ds : List PyData) (d : PyData), s = .d d ∧ o2[j]? = some (p, asL X.K ds) ∧ ds.length < 1000000 ∧ Dd (o2.set j (p, asL X.K (ds ++ [d]))) (.d .none))
    (hbase : attributeBase o "append" X.env (eval o X.env) = eval o X.env := by rfl) (hfew : ((backTo pos (starEach [e] X.env)).all (fun x => !x.1) && (backToKw pos (keywordEach [] X.env)).all (fun x => x.1.isSome)
      && decide (([e] : List Expr).length + ([] : List Keyword).length + (if ([] : List Keyword).isEmpty then 0 else 1) < 30)) = true := by rfl)
    (hline : (apos.endLine == pos.line) = true := by rfl) (hs : starEach [e] X.env = [(false, eval e X.env)] := by rfl) :
    EM X G own (.Call (.Attribute o "append" apos) [e] [] pos) Dd := by
  refine EM.of (pe_bm PySem.F.plainAttrs_list PySem.F.slot_list_append PySem.F.type_list_append mt_append pe_w pa_w hbase hfew hline hs rfl) fun R H z w hz Q q => ho R H z w hz _ fun o1 s v R1 H1 c1 p1 e1 => ?_
  obtain ⟨p, j, ds, rfl, hj, C1, he1, hd⟩ := he o1 s c1
  obtain rfl := v_slr e1
  obtain ⟨_, ob, h1, xs, rfl, h2⟩ := p1.ow.get hj
  refine ⟨.inl ⟨rfl, xs, SqL.of h1⟩, (ma_cons he1 (fun o _ _ => ma_nil) hs : EMA X G o1 [e] _) R1 H1 z p1.ow (hold_up p1.rr hz) _ fun o2 ss us R2 H2 ⟨o3, s3, t3, c3, ⟨e0, et⟩, ess⟩ p2 e2 => ?_⟩
  subst e0 et ess
  obtain ⟨j2, ds2, d, rfl, hj2, hl2, hD⟩ := hd _ _ c3
  match us, e2 with
  | [u], ⟨e2, _⟩ =>
    have p3 := sep_trans p1 p2
    obtain ⟨_, ob2, h3, xs2, rfl, h4⟩ := p3.ow.get hj2
    exact ⟨p, xs2, u, rfl, rfl, h3, by rw [dps_len h4]; exact Nat.lt_trans hl2 (by decide), q _ _ _ R2 _ hD (p3.put hj2 ⟨_, rfl, dps_app h4 (dps_one (d_slr e2))⟩) (slr_d .non)⟩
theorem m_popAt {apos : Pos} {C : OL → Sl → Prop} {Dd : OL → Sl → Prop} {p : Addr} {ds0 : List PyData} (i : Nat) (ho : EX X G own o (.v (.ref p))) (hi : own[i]? = some (p, asL X.K ds0)) (he : EM X G own e C)
    (hd : ∀ o2 s, C o2 s → ∃ (j k : Nat) (ds : List PyData) (d : PyData), s = .d (.int (k : Int)) ∧ o2[j]? = some (p, asL X.K ds) ∧ ds.length < 1000000 ∧ ds[k]? = some d ∧ Dd (o2.set j (p, asL X.K (ds.eraseIdx k))) (.d d))
    (hbase : attributeBase o "pop" X.env (eval o X.env) = eval o X.env := by rfl) (hfew : ((backTo pos (starEach [e] X.env)).all (fun x => !x.1) && (backToKw pos (keywordEach [] X.env)).all (fun x => x.1.isSome)
      && decide (([e] : List Expr).length + ([] : List Keyword).length + (if ([] : List Keyword).isEmpty then 0 else 1) < 30)) = true := by rfl)
    (hline : (apos.endLine == pos.line) = true := by rfl) (hs : starEach [e] X.env = [(false, eval e X.env)] := by rfl) :
    EM X G own (.Call (.Attribute o "pop" apos) [e] [] pos) Dd := by
  refine EM.of (pe_bm PySem.F.plainAttrs_list PySem.F.slot_list_pop PySem.F.type_list_pop mt_popAt pe_w pa_w hbase hfew hline hs rfl) fun R H z w hz Q q => ho R H z w hz _ fun v R1 H1 g1 e1 => ?_
  obtain rfl := v_slr e1
  have w1 := w.grow g1
  obtain ⟨_, ob, h1, xs, rfl, h2⟩ := w1.get hi
  refine ⟨.inl ⟨rfl, xs, SqL.of h1⟩, (ma_cons he (fun o _ _ => ma_nil) hs : EMA X G own [e] _) R1 H1 z w1 (hold_up g1.rr hz) _ fun o2 ss us R2 H2 ⟨o3, s3, t3, c3, ⟨e0, et⟩, ess⟩ p2 e2 => ?_⟩
  subst e0 et ess
  obtain ⟨j2, k, ds2, d, rfl, hj2, hl2, hk, hD⟩ := hd _ _ c3
  match us, e2 with
  | [u], ⟨e2, _⟩ =>
    have p3 := sep_trans (sep_of w g1) p2
    obtain ⟨_, ob2, h3, xs2, rfl, h4⟩ := p3.ow.get hj2
    obtain ⟨y, hy, dy⟩ := dps_get h4 hk
    have hkl : k < xs2.length := (List.getElem?_eq_some_iff.mp hy).1
    have hxl : xs2.length < 1000000 := by rw [dps_len h4]; exact hl2
    refine ⟨p, xs2, (k : Int), k, y, rfl, by rw [dp_int (d_slr e2)], h3, by omega, by omega, ?_, hy, q _ _ _ R2 _ hD (p3.put hj2 ⟨_, rfl, ?_⟩) (slr_d dy)⟩
    · exact (ixN_seq (i := (k : Int)) (j := k) (by unfold ixN; rw [if_pos (Int.natCast_nonneg k), if_pos (by omega)]; rfl)).1
    · have key : ∀ {us : List V} {es : List PyData} (k : Nat), DpAll X.K R2 us es → DpAll X.K R2 (us.eraseIdx k) (es.eraseIdx k) := by
        intro us es k h
        induction k generalizing us es with
        | zero =>
          cases h with
          | nil => exact .nil
          | cons _ t => exact t
        | succ k ih =>
          cases h with
          | nil => exact .nil
          | cons h t => exact .cons h (ih t)
      exact key k h4
end
end CB

/-! Part 10: dicts of texts, dicts of nested keys, as owned things. -/
namespace CB
open PySem PySem.Spec PyProof.Rows L2
/-! ### dicts of texts -/
abbrev TxR (K : PySem.W.Frag) (R : Hp) : List (Str × Sl) → List (Key × V) → Prop := Paired fun p q => q.1 = Sum.inr p.1 ∧ SlR K R p.2 (some q.2)
section
variable {K : PySem.W.Frag} {R R' : Hp}
theorem paired_up {α β : Type} {F F' : α → β → Prop} (f : ∀ a b, F a b → F' a b) : ∀ {l : List α} {m : List β}, Paired F l m → Paired F' l m
  | _, _, .nil => .nil
  | _, _, .cons h t => .cons (f _ _ h) (paired_up f t)
theorem tx_up (e : Same R R') {kvs : List (Str × Sl)} {vs : List (Key × V)} (h : TxR K R kvs vs) : TxR K R' kvs vs := paired_up (fun _ _ ⟨h1, h2⟩ => ⟨h1, slr_up e h2⟩) h
theorem tx_len {kvs : List (Str × Sl)} {vs : List (Key × V)} (h : TxR K R kvs vs) : vs.length = kvs.length := (Paired.length h).symm
theorem tx_get {kvs : List (Str × Sl)} {vs : List (Key × V)} (h : TxR K R kvs vs) (k : Str) : (∃ s v, aGet kvs k = some s ∧ valV vs (Sum.inr k) = some v ∧ SlR K R s (some v)) ∨ (aGet kvs k = none ∧ valV vs (Sum.inr k : Key) = none) := by
  induction h with
  | nil => exact .inr ⟨rfl, rfl⟩
  | @cons p q kvs vs h t ih =>
    by_cases e : p.1 = k
    · exact .inl ⟨p.2, q.2, aGet_pos e, valV_pos (by rw [h.1, e]), h.2⟩
    · have e' : ¬ q.1 = (Sum.inr k : Key) := fun z => e (by rw [h.1] at z; exact Sum.inr.inj z)
      rw [aGet_neg e, valV_neg e']
      exact ih
theorem tx_any {kvs : List (Str × Sl)} {vs : List (Key × V)} (h : TxR K R kvs vs) (k : Str) : (vs.any fun kv => decide (kv.1 = (Sum.inr k : Key))) = kvs.any fun p => decide (p.1 = k) := by
  induction h with
  | nil => rfl
  | @cons p q kvs vs h t ih =>
    rw [List.any_cons, List.any_cons, ih]
    congr 1
    exact decide_eq_decide.mpr ⟨fun z => by rw [h.1] at z; exact Sum.inr.inj z, fun z => by rw [h.1, z]⟩
theorem tx_put {kvs : List (Str × Sl)} {vs : List (Key × V)} (h : TxR K R kvs vs) (k : Str) {s : Sl} {v : V} (hs : SlR K R s (some v)) : TxR K R (aPut kvs k s) (putK vs (Sum.inr k) v) := by
  unfold aPut putK
  rw [tx_any h k]
  by_cases c : (kvs.any fun p => decide (p.1 = k)) = true
  · rw [if_pos c, if_pos c]
    clear c
    induction h with
    | nil => exact .nil
    | @cons p q kvs vs h t ih =>
      rw [List.map_cons, List.map_cons]
      refine .cons ?_ ih
      by_cases e : p.1 = k
      · rw [if_pos e, if_pos (by rw [h.1, e])]
        exact ⟨h.1, hs⟩
      · rw [if_neg e, if_neg fun z => e (by rw [h.1] at z; exact Sum.inr.inj z)]
        exact h
  · rw [if_neg c, if_neg c]
    exact Paired.snoc h ⟨rfl, hs⟩
theorem tx_drop {kvs : List (Str × Sl)} {vs : List (Key × V)} (h : TxR K R kvs vs) (k : Str) : TxR K R (aDrop kvs k) (dropK vs (Sum.inr k)) := by
  unfold aDrop dropK
  induction h with
  | nil => exact .nil
  | @cons p q kvs vs h t ih =>
    rw [List.filter_cons, List.filter_cons]
    by_cases e : p.1 = k
    · rw [if_neg (by simp [e]), if_neg (by simp [h.1, e])]
      exact ih
    · rw [if_pos (by simp [e]), if_pos (by simp [h.1, e])]
      exact .cons h ih
/-- the dict reads so -/
def asT (K : PySem.W.Frag) (kvs : List (Str × Sl)) : As := ⟨fun _ R o => ∃ vs, o = .dK vs ∧ TxR K R kvs vs, fun _ _ _ _ e ⟨vs, h1, h2⟩ => ⟨vs, h1, tx_up e h2⟩⟩
/-! ### dicts of nested keys -/
abbrev NxR (K : PySem.W.Frag) (R : Hp) : List (NK × PyData) → NX → Prop := Paired fun p x => x.1 = p.1 ∧ NKt K R x.1 x.2.1 ∧ Dp K R x.2.2 p.2
theorem nkt_up (e : Same R R') {k : NK} {a : Addr} (h : NKt K R k a) : NKt K R' k a := ⟨dp_up e _ _ h.1, h.2⟩
theorem nx_up (e : Same R R') {kvs : List (NK × PyData)} {xs : NX} (h : NxR K R kvs xs) : NxR K R' kvs xs := paired_up (fun _ _ ⟨h1, h2, h3⟩ => ⟨h1, nkt_up e h2, dp_up e _ _ h3⟩) h
theorem nx_len {kvs : List (NK × PyData)} {xs : NX} (h : NxR K R kvs xs) : xs.length = kvs.length := (Paired.length h).symm
theorem nx_keys {kvs : List (NK × PyData)} {xs : NX} (h : NxR K R kvs xs) : ∀ x ∈ xs, NKt K R x.1 x.2.1 := by
  induction h with
  | nil => intro x hx; exact nomatch hx
  | cons h t ih =>
    intro x hx
    rcases List.mem_cons.mp hx with rfl | hx
    · exact h.2.1
    · exact ih x hx
theorem nx_get {kvs : List (NK × PyData)} {xs : NX} (h : NxR K R kvs xs) (k : NK) : (∃ d p, aGet kvs k = some d ∧ atV xs k = some p ∧ Dp K R p.2 d) ∨ (aGet kvs k = none ∧ atV xs k = none) := by
  unfold atV
  induction h with
  | nil => exact .inr ⟨rfl, rfl⟩
  | @cons p x kvs xs h t ih =>
    by_cases e : p.1 = k
    · exact .inl ⟨p.2, x.2, aGet_pos e, by simp [List.find?_cons, h.1, e], h.2.2⟩
    · have e' : ¬ x.1 = k := fun z => e (h.1.symm.trans z)
      rw [aGet_neg e]
      rcases ih with ⟨d, q, h1, h2, h3⟩ | ⟨h1, h2⟩
      · exact .inl ⟨d, q, h1, by simpa [List.find?_cons, e'] using h2, h3⟩
      · exact .inr ⟨h1, by simpa [List.find?_cons, e'] using h2⟩
theorem nx_put {kvs : List (NK × PyData)} {xs : NX} (h : NxR K R kvs xs) {k : NK} {b : Addr} (hk : NKt K R k b) {d : PyData} {v : V} (hd : Dp K R v d) : NxR K R (aPut kvs k d) (putX xs k b v) := by
  unfold aPut putX
  have c : (atV xs k).isSome = kvs.any fun p => decide (p.1 = k) := by
    rw [aGet_any]
    rcases nx_get h k with ⟨d, p, h1, h2, _⟩ | ⟨h1, h2⟩ <;> rw [h1, h2] <;> rfl
  rw [c]
  by_cases c : (kvs.any fun p => decide (p.1 = k)) = true
  · rw [if_pos c, if_pos c]
    clear c
    clear c
    induction h with
    | nil => exact .nil
    | @cons p x kvs xs h t ih =>
      rw [List.map_cons, List.map_cons]
      refine .cons ?_ ih
      by_cases e : p.1 = k
      · rw [if_pos e, if_pos (h.1.trans e)]
        exact ⟨h.1, h.2.1, hd⟩
      · rw [if_neg e, if_neg fun z => e (h.1.symm.trans z)]
        exact h
  · rw [if_neg c, if_neg c]
    exact Paired.snoc h ⟨rfl, hk, hd⟩
theorem nx_drop {kvs : List (NK × PyData)} {xs : NX} (h : NxR K R kvs xs) (k : NK) : NxR K R (aDrop kvs k) (dropX xs k) := by
  unfold aDrop dropX
  induction h with
  | nil => exact .nil
  | @cons p x kvs xs h t ih =>
    rw [List.filter_cons, List.filter_cons]
    by_cases e : p.1 = k
    · rw [if_neg (by simp [e]), if_neg (by simp [h.1, e])]
      exact ih
    · rw [if_pos (by simp [e]), if_pos (by simp [h.1, e])]
      exact .cons h ih
theorem nx_keysV {kvs : List (NK × PyData)} {xs : NX} (h : NxR K R kvs xs) : DpAll K R (keysX xs) (kvs.map fun p => p.1.data) := by
  induction h with
  | nil => exact .nil
  | cons h t ih =>
    obtain ⟨h1, h2, h3⟩ := h
    have := h2.1
    rw [h1] at this
    exact .cons this ih
def asN (P : Program) (w : World) (K : PySem.W.Frag) (kvs : List (NK × PyData)) : As := ⟨fun a R o => ∃ xs, o = ndO P w a xs ∧ NxR K R kvs xs, fun _ _ _ _ e ⟨xs, h1, h2⟩ => ⟨xs, h1, nx_up e h2⟩⟩
/-- a key that is a tuple, and not too deep -/
def NkT (k : NK) : Prop := (∃ ks, k = .tup ks) ∧ k.depth ≤ 8
theorem nkt_of {k : NK} {v : V} (hk : NkT k) (h : Dp K R v k.data) : ∃ b, v = .ref b ∧ NKt K R k b := by
  obtain ⟨⟨ks, rfl⟩, h2⟩ := hk
  obtain ⟨a, xs, rfl, h3, h4⟩ := dp_tup (ds := NestedKey.datas ks) h
  exact ⟨a, rfl, .tup h3 h4, h2⟩
theorem Ow.nd_r {P : Program} {w : World} {own : OL} {H : Hp} {i : Nat} {p : Addr} {kvs : List (NK × PyData)} (o : Ow own R H) (h : own[i]? = some (p, asN P w K kvs)) : ∃ xs, H p = some (ndO P w p xs) ∧ NxR K R kvs xs ∧ NDr P w K H p xs := by
  obtain ⟨_, u, h1, xs, rfl, h2⟩ := o.get h
  exact ⟨xs, h1, h2, ⟨.inl h1, fun x hx => nkt_up o.rh (nx_keys h2 x hx)⟩⟩
end
section
variable {X : Cx} {B : Bs} {G : List Sl} {own : OL} {D : Ends} {rest : List Stmt} {st : Stmt} {e a c o i f tg iter elt : Expr} {es : List Expr} {s x y : Sl} {pos apos pos' : Pos} {scope : Scope} {p : Addr} {n : Str} {kvs : List (Str × Sl)}
theorem ev_tget {td ty : TE} {j : Nat} (ho : Ev X.K G own td (.v (.ref p))) (hi : own[j]? = some (p, asT X.K kvs)) (hk : Ev X.K G own ty (.d (.str n))) (hv : aGet kvs n = some s) : Ev X.K G own (tDGet td ty) s := fun R H z w hz Q q => ho R H z w hz _ fun v R1 H1 g1 e1 => hk R1 H1 z (w.grow g1) (hold_up g1.rr hz) _ fun u R2 H2 g2 e2 => by
  obtain rfl := v_slr e1
  obtain ⟨_, ob, h1, vs, rfl, h2⟩ := ((w.grow g1).grow g2).get hi
  rcases tx_get h2 n with ⟨s', v, h3, h4, h5⟩ | ⟨h3, _⟩
  · rw [hv] at h3
    cases h3
    exact ⟨p, v, rfl, by rw [dp_str (d_slr e2), ← h4]; exact DGet.k (k := Sum.inr n) h1, q v R2 H2 (g1.trans g2) h5⟩
  · rw [hv] at h3
    cases h3
theorem x_tget (j : Nat) (hu : X.A.units + 1 < cLine) (ho : EX X G own o (.v (.ref p))) (hk : EX X G own i (.d (.str n))) (hv : aGet kvs n = some s) (hi : own[j]? = some (p, asT X.K kvs) := by rfl) (hs : NoSl i := by exact fun _ _ => rfl) : EX X G own (.Subscript o i pos) s := EX.of (pe_dget hu pe_w pe_w hs) (ev_tget ho hi hk hv)
theorem ev_tin {td ty : TE} {j : Nat} (ho : Ev X.K G own td (.v (.ref p))) (hi : own[j]? = some (p, asT X.K kvs)) (hk : Ev X.K G own ty (.d (.str n))) : Ev X.K G own (tDIn ty td) (.d (.bool (aGet kvs n).isSome)) := fun R H z w hz Q q => hk R H z w hz _ fun u R1 H1 g1 e1 => ho R1 H1 z (w.grow g1) (hold_up g1.rr hz) _ fun v R2 H2 g2 e2 => by
  obtain rfl := v_slr e2
  obtain ⟨_, ob, h1, vs, rfl, h2⟩ := ((w.grow g1).grow g2).get hi
  refine ⟨p, _, rfl, by rw [dp_str (d_slr e1)]; exact DGet.k (k := Sum.inr n) h1, q _ R2 H2 (g1.trans g2) ?_⟩
  rcases tx_get h2 n with ⟨s', v, h3, h4, h5⟩ | ⟨h3, h4⟩ <;> rw [h3, h4] <;> exact slr_d (.bl _)
theorem ev_tnin {td ty : TE} {j : Nat} (ho : Ev X.K G own td (.v (.ref p))) (hi : own[j]? = some (p, asT X.K kvs)) (hk : Ev X.K G own ty (.d (.str n))) : Ev X.K G own (tDNotIn ty td) (.d (.bool (!(aGet kvs n).isSome))) := fun R H z w hz Q q => hk R H z w hz _ fun u R1 H1 g1 e1 => ho R1 H1 z (w.grow g1) (hold_up g1.rr hz) _ fun v R2 H2 g2 e2 => by
  obtain rfl := v_slr e2
  obtain ⟨_, ob, h1, vs, rfl, h2⟩ := ((w.grow g1).grow g2).get hi
  refine ⟨p, _, rfl, by rw [dp_str (d_slr e1)]; exact DGet.k (k := Sum.inr n) h1, q _ R2 H2 (g1.trans g2) ?_⟩
  rcases tx_get h2 n with ⟨s', v, h3, h4, h5⟩ | ⟨h3, h4⟩ <;> rw [h3, h4] <;> exact slr_d (.bl _)
theorem x_tin (j : Nat) (hu : X.A.units + 1 < cLine) (hk : EX X G own i (.d (.str n))) (ho : EX X G own o (.v (.ref p))) (hi : own[j]? = some (p, asT X.K kvs) := by rfl) (hb : behindInMarks .In o = false := by rfl) : EX X G own (.Compare i [.In] [o] pos) (.d (.bool (aGet kvs n).isSome)) := x_pc (pc_din hu pe_w pe_w) (ev_tin ho hi hk) hb
theorem x_tnin (j : Nat) (hu : X.A.units + 1 < cLine) (hk : EX X G own i (.d (.str n))) (ho : EX X G own o (.v (.ref p))) (hi : own[j]? = some (p, asT X.K kvs) := by rfl) (hb : behindInMarks .NotIn o = false := by rfl) : EX X G own (.Compare i [.NotIn] [o] pos) (.d (.bool (!(aGet kvs n).isSome))) := x_pc (pc_dnotin hu pe_w pe_w) (ev_tnin ho hi hk) hb
theorem x_tinT (j : Nat) (hu : X.A.units + 1 < cLine) (hk : EX X G own i (.d (.str n))) (ho : EX X G own o (.v (.ref p))) (hi : own[j]? = some (p, asT X.K kvs) := by rfl) (hb : behindInMarks .In o = false := by rfl) : ET X G own (.Compare i [.In] [o] pos) (aGet kvs n).isSome := x_pcT (pc_din hu pe_w pe_w) (ev_tin ho hi hk) hb
theorem x_tninT (j : Nat) (hu : X.A.units + 1 < cLine) (hk : EX X G own i (.d (.str n))) (ho : EX X G own o (.v (.ref p))) (hi : own[j]? = some (p, asT X.K kvs) := by rfl) (hb : behindInMarks .NotIn o = false := by rfl) : ET X G own (.Compare i [.NotIn] [o] pos) (!(aGet kvs n).isSome) := x_pcT (pc_dnotin hu pe_w pe_w) (ev_tnin ho hi hk) hb
/-- d.get(k, x) -/
theorem x_tget2 (j : Nat) (hu : X.A.units + 1 < cLine) (ho : EX X G own o (.v (.ref p))) (hk : EX X G own i (.d (.str n))) (hf : EX X G own f x) (hv : (aGet kvs n).getD x = s) (hi : own[j]? = some (p, asT X.K kvs) := by rfl)
    (m : M2 X o "get" apos i f pos := by exact ⟨rfl, rfl, rfl, rfl⟩) : EX X G own (.Call (.Attribute o "get" apos) [i, f] [] pos) s := EX.of (pe_dget2 hu pe_w pe_w pe_w m) fun R H z w hz Q q => ho R H z w hz _ fun v R1 H1 g1 e1 => by
  obtain rfl := v_slr e1
  obtain ⟨_, ob, h1, vs, rfl, h2⟩ := (w.grow g1).get hi
  refine ⟨p, rfl, .inl ⟨vs, .inl h1⟩, hk R1 H1 z (w.grow g1) (hold_up g1.rr hz) _ fun u R2 H2 g2 e2 => hf R2 H2 z ((w.grow g1).grow g2) (hold_up g2.rr (hold_up g1.rr hz)) _ fun y R3 H3 g3 e3 => ?_⟩
  have gg := (g1.trans g2).trans g3
  obtain ⟨_, ob, h1, vs, rfl, h2⟩ := (w.grow gg).get hi
  refine ⟨_, by rw [dp_str (d_slr e2)]; exact DGet.k (k := Sum.inr n) h1, q _ R3 H3 gg ?_⟩
  subst hv
  rcases tx_get h2 n with ⟨s', v, h3, h4, h5⟩ | ⟨h3, h4⟩
  · rw [h3, h4]; exact h5
  · rw [h3, h4]; exact e3
/-- d.pop(k) -/
theorem m_tpop (j : Nat) {Dd : OL → Sl → Prop} (ho : EX X G own o (.v (.ref p))) (hk : EX X G own i (.d (.str n))) (hv : aGet kvs n = some s) (hd : Dd (own.set j (p, asT X.K (aDrop kvs n))) s) (hi : own[j]? = some (p, asT X.K kvs) := by rfl)
    (m : M1 X o "pop" apos i pos := by exact ⟨rfl, rfl, rfl, rfl⟩) : EM X G own (.Call (.Attribute o "pop" apos) [i] [] pos) Dd := EM.of (pe_dpop1 pe_w pe_w m) fun R H z w hz Q q => ho R H z w hz _ fun v R1 H1 g1 e1 => by
  obtain rfl := v_slr e1
  obtain ⟨_, ob, h1, vs, rfl, h2⟩ := (w.grow g1).get hi
  refine ⟨p, rfl, .inl ⟨vs, .inl h1⟩, hk R1 H1 z (w.grow g1) (hold_up g1.rr hz) _ fun u R2 H2 g2 e2 => ?_⟩
  have gg := g1.trans g2
  obtain ⟨_, ob, h1, vs, rfl, h2⟩ := (w.grow gg).get hi
  rcases tx_get h2 n with ⟨s', v, h3, h4, h5⟩ | ⟨h3, h4⟩
  · rw [hv] at h3
    cases h3
    exact ⟨vs, Sum.inr n, v, h1, dp_str (d_slr e2), h4, q _ _ v R2 _ hd ((sep_of w gg).put hi ⟨_, rfl, tx_drop h2 n⟩) h5⟩
  · rw [hv] at h3
    cases h3
/-- d[k] = e -/
theorem g_tputM (hu : X.A.units + 1 < cLine) {C : OL → Sl → Prop} (hv : EM X G own e C)
    (q : ∀ o2 s, C o2 s → EX X G o2 o (.v (.ref p)) ∧ EX X G o2 i (.d (.str n)) ∧ ∃ (j : Nat) (kvs : List (Str × Sl)), o2[j]? = some (p, asT X.K kvs) ∧ kvs.length < 1000000 ∧ Go X B G (o2.set j (p, asT X.K (aPut kvs n s))) D rest)
    (hs : swapsWith e (some (.Subscript o i pos')) pos.line X.env = pure false := by rfl) : Go X B G own D (.Assign [.Subscript o i pos'] e pos :: rest) :=
  g_cons (ps_dput hu pe_w pe_w pe_w hs) fun R H z w hz => hv R H z w.ow hz _ fun o2 s v R1 H1 c p1 e1 => by
    obtain ⟨ho, hk, j, kvs, hj, hl, go⟩ := q o2 s c
    refine ho R1 H1 z p1.ow (hold_up p1.rr hz) _ fun u R2 H2 g2 e2 => hk R2 H2 z (p1.ow.grow g2) (hold_up g2.rr (hold_up p1.rr hz)) _ fun y R3 H3 g3 e3 => ?_
    obtain rfl := v_slr e2
    have gg := g2.trans g3
    have p2 := (sep_trans w p1).grow gg
    obtain ⟨_, ob, h1, vs, rfl, h2⟩ := p2.ow.get hj
    refine ⟨p, _, rfl, by rw [dp_str (d_slr e3)]; exact DPut.k (k := Sum.inr n) h1 (by rw [tx_len h2]; exact Nat.lt_trans hl (by decide)), go R3 _ z (p2.put hj ⟨_, rfl, tx_put h2 n (slr_up gg.rr e1)⟩) (hold_up gg.rr (hold_up p1.rr hz))⟩
theorem g_tput (j : Nat) (hu : X.A.units + 1 < cLine) (ho : EX X G own o (.v (.ref p))) (hk : EX X G own i (.d (.str n))) (hv : EX X G own e s) (hl : kvs.length < 1000000) (q : Go X B G (own.set j (p, asT X.K (aPut kvs n s))) D rest) (hi : own[j]? = some (p, asT X.K kvs) := by rfl)
    (hs : swapsWith e (some (.Subscript o i pos')) pos.line X.env = pure false := by rfl) : Go X B G own D (.Assign [.Subscript o i pos'] e pos :: rest) :=
  g_tputM (p := p) (n := n) hu (m_x hv) (fun o t ⟨h1, h2⟩ => by subst h1 h2; exact ⟨ho, hk, j, kvs, hi, hl, q⟩) hs
/-- {} -/
theorem m_tnew : EM X G own (.Dict [] [] pos) (fun o t => ∃ p, o = (p, asT X.K []) :: own ∧ t = .v (.ref p)) := EM.of pe_dnewK fun R H z w hz Q q => fun p hp => q _ _ _ R _ ⟨p, rfl, rfl⟩ ((Sep.start w).new (A := asT X.K []) hp ⟨[], rfl, .nil⟩) rfl
/-- [] that is owned -/
theorem m_lnew : EM X G own (.List [] pos) (fun o t => ∃ p, o = (p, asL X.K []) :: own ∧ t = .v (.ref p)) := m_lstO (D := fun o t => ∃ p, o = (p, asL X.K []) :: own ∧ t = .v (.ref p)) ma_nil fun o ss p ⟨h1, h2⟩ => ⟨[], h2, Nat.zero_le _, p, by rw [h1], rfl⟩
/-- d.setdefault(k, x), x new -/
theorem m_tsetd (j : Nat) {Dd : OL → Sl → Prop} {C : OL → Sl → Prop} (ho : EX X G own o (.v (.ref p))) (hk : EX X G own i (.d (.str n))) (hf : EM X G own f C) (hl : kvs.length < 1000000)
    (hd : ∀ o2 s, C o2 s → ∃ j2 : Nat, o2[j2]? = some (p, asT X.K kvs) ∧ (∀ s', aGet kvs n = some s' → Dd o2 s') ∧ (aGet kvs n = none → Dd (o2.set j2 (p, asT X.K (aPut kvs n s))) s)) (hi : own[j]? = some (p, asT X.K kvs) := by rfl)
    (m : M2 X o "setdefault" apos i f pos := by exact ⟨rfl, rfl, rfl, rfl⟩) : EM X G own (.Call (.Attribute o "setdefault" apos) [i, f] [] pos) Dd := EM.of (pe_dsetd pe_w pe_w pe_w m) fun R H z w hz Q q => ho R H z w hz _ fun v R1 H1 g1 e1 => by
  obtain rfl := v_slr e1
  obtain ⟨_, ob, h1, vs, rfl, h2⟩ := (w.grow g1).get hi
  refine ⟨p, rfl, .inl ⟨vs, .inl h1⟩, hk R1 H1 z (w.grow g1) (hold_up g1.rr hz) _ fun u R2 H2 g2 e2 => hf R2 H2 z ((w.grow g1).grow g2) (hold_up g2.rr (hold_up g1.rr hz)) _ fun o2 s y R3 H3 c p3 e3 => ?_⟩
  obtain ⟨j2, hj2, hd1, hd2⟩ := hd o2 s c
  have pp := sep_trans (sep_of w (g1.trans g2)) p3
  obtain ⟨_, ob, h1, vs, rfl, h2⟩ := pp.ow.get hj2
  refine ⟨vs, Sum.inr n, h1, dp_str (d_slr e2), by rw [tx_len h2]; exact Nat.lt_trans hl (by decide), fun v hv => ?_, fun hn => ?_⟩
  · rcases tx_get h2 n with ⟨s', v', h3, h4, h5⟩ | ⟨h3, h4⟩
    · rw [hv] at h4
      cases h4
      exact q _ _ _ R3 H3 (hd1 s' h3) pp h5
    · rw [hv] at h4
      cases h4
  · rcases tx_get h2 n with ⟨s', v', h3, h4, h5⟩ | ⟨h3, h4⟩
    · rw [hn] at h4
      cases h4
    · exact q _ _ _ R3 _ (hd2 h3) (pp.put hj2 ⟨_, rfl, tx_put h2 n e3⟩) e3

/-! ### dicts of nested keys -/
variable {k : NK} {ks : List (NK × PyData)} {d : PyData}
theorem m_nnew : EM X G own (.Dict [] [] pos) (fun o t => ∃ p, o = (p, asN X.prog X.w X.K []) :: own ∧ t = .v (.ref p)) := EM.of pe_nnew fun R H z w hz Q q => fun p hp => q _ _ _ R _ ⟨p, rfl, rfl⟩ ((Sep.start w).new (A := asN X.prog X.w X.K []) hp ⟨[], rfl, .nil⟩) rfl
theorem x_nget (j : Nat) (hu : X.A.units + 64 < cLine) (ho : EX X G own o (.v (.ref p))) (hk : EX X G own i (.d k.data)) (kt : NkT k) (hv : aGet ks k = some d) (hi : own[j]? = some (p, asN X.prog X.w X.K ks) := by rfl) (hs : NoSl i := by exact fun _ _ => rfl) : EX X G own (.Subscript o i pos) (.d d) :=
  EX.of (pe_nget hu pe_w pe_w hs) fun R H z w hz Q q => ho R H z w hz _ fun v R1 H1 g1 e1 => hk R1 H1 z (w.grow g1) (hold_up g1.rr hz) _ fun u R2 H2 g2 e2 => by
    obtain rfl := v_slr e1
    have w2 := (w.grow g1).grow g2
    obtain ⟨xs, h1, h2, h3⟩ := w2.nd_r hi
    obtain ⟨b, rfl, kb⟩ := nkt_of kt (d_slr e2)
    rcases nx_get h2 k with ⟨d', y, h4, h5, h6⟩ | ⟨h4, _⟩
    · rw [hv] at h4
      cases h4
      exact ⟨p, xs, k, b, y, rfl, rfl, h3, nkt_up w2.rh kb, h5, q _ R2 H2 (g1.trans g2) (slr_d h6)⟩
    · rw [hv] at h4
      cases h4
theorem ev_nin {td ty : TE} {j : Nat} (ho : Ev X.K G own td (.v (.ref p))) (hk : Ev X.K G own ty (.d k.data)) (kt : NkT k) (hi : own[j]? = some (p, asN X.prog X.w X.K ks)) : Ev X.K G own (tNIn X.prog X.w X.K ty td) (.d (.bool (aGet ks k).isSome)) := fun R H z w hz Q q => hk R H z w hz _ fun u R1 H1 g1 e1 => ho R1 H1 z (w.grow g1) (hold_up g1.rr hz) _ fun v R2 H2 g2 e2 => by
    obtain rfl := v_slr e2
    have w2 := (w.grow g1).grow g2
    obtain ⟨xs, h1, h2, h3⟩ := w2.nd_r hi
    obtain ⟨b, rfl, kb⟩ := nkt_of kt (d_slr (slr_up g2.rr e1))
    refine ⟨p, xs, k, b, rfl, rfl, h3, nkt_up w2.rh kb, q _ R2 H2 (g1.trans g2) ?_⟩
    rcases nx_get h2 k with ⟨d', y, h4, h5, h6⟩ | ⟨h4, h5⟩ <;> rw [h4, h5] <;> exact slr_d (.bl _)
theorem x_ninT (j : Nat) (hu : X.A.units + 64 < cLine) (hk : EX X G own i (.d k.data)) (ho : EX X G own o (.v (.ref p))) (kt : NkT k) (hi : own[j]? = some (p, asN X.prog X.w X.K ks) := by rfl) (hb : behindInMarks .In o = false := by rfl) : ET X G own (.Compare i [.In] [o] pos) (aGet ks k).isSome := x_pcT (pc_nin hu pe_w pe_w) (ev_nin ho hk kt hi) hb
theorem x_nget2 (j : Nat) (hu : X.A.units + 64 < cLine) (ho : EX X G own o (.v (.ref p))) (hk : EX X G own i (.d k.data)) (hf : EX X G own f (.d d)) (kt : NkT k) (hi : own[j]? = some (p, asN X.prog X.w X.K ks) := by rfl)
    (m : M2 X o "get" apos i f pos := by exact ⟨rfl, rfl, rfl, rfl⟩) : EX X G own (.Call (.Attribute o "get" apos) [i, f] [] pos) (.d ((aGet ks k).getD d)) := EX.of (pe_nget2 hu pe_w pe_w pe_w m) fun R H z w hz Q q => ho R H z w hz _ fun v R1 H1 g1 e1 => by
  obtain rfl := v_slr e1
  obtain ⟨xs, h1, -, -⟩ := (w.grow g1).nd_r hi
  refine ⟨p, rfl, ⟨xs, .inl h1⟩, hk R1 H1 z (w.grow g1) (hold_up g1.rr hz) _ fun u R2 H2 g2 e2 => hf R2 H2 z ((w.grow g1).grow g2) (hold_up g2.rr (hold_up g1.rr hz)) _ fun y R3 H3 g3 e3 => ?_⟩
  have gg := (g1.trans g2).trans g3
  have w2 := w.grow gg
  obtain ⟨xs, h1, h2, h3⟩ := w2.nd_r hi
  obtain ⟨b, rfl, kb⟩ := nkt_of kt (d_slr (slr_up g3.rr e2))
  refine ⟨xs, k, b, rfl, h3, nkt_up w2.rh kb, q _ R3 H3 gg ?_⟩
  rcases nx_get h2 k with ⟨d', y, h4, h5, h6⟩ | ⟨h4, h5⟩
  · rw [h4, h5]; exact slr_d h6
  · rw [h4, h5]; exact e3
theorem m_npop (j : Nat) {Dd : OL → Sl → Prop} (hu : X.A.units + 64 < cLine) (ho : EX X G own o (.v (.ref p))) (hk : EX X G own i (.d k.data)) (kt : NkT k) (hv : aGet ks k = some d) (hd : Dd (own.set j (p, asN X.prog X.w X.K (aDrop ks k))) (.d d)) (hi : own[j]? = some (p, asN X.prog X.w X.K ks) := by rfl)
    (m : M1 X o "pop" apos i pos := by exact ⟨rfl, rfl, rfl, rfl⟩) : EM X G own (.Call (.Attribute o "pop" apos) [i] [] pos) Dd := EM.of (pe_npop hu pe_w pe_w m) fun R H z w hz Q q => ho R H z w hz _ fun v R1 H1 g1 e1 => by
  obtain rfl := v_slr e1
  obtain ⟨xs, h1, -, -⟩ := (w.grow g1).nd_r hi
  refine ⟨p, rfl, ⟨xs, .inl h1⟩, hk R1 H1 z (w.grow g1) (hold_up g1.rr hz) _ fun u R2 H2 g2 e2 => ?_⟩
  have gg := g1.trans g2
  have w2 := w.grow gg
  obtain ⟨xs, h1, h2, h3⟩ := w2.nd_r hi
  obtain ⟨b, rfl, kb⟩ := nkt_of kt (d_slr e2)
  rcases nx_get h2 k with ⟨d', y, h4, h5, h6⟩ | ⟨h4, h5⟩
  · rw [hv] at h4
    cases h4
    exact ⟨xs, k, b, y, rfl, h1, h3.ks, nkt_up w2.rh kb, h5, q _ _ _ R2 _ hd ((sep_of w gg).put hi ⟨_, rfl, nx_drop h2 k⟩) (slr_d h6)⟩
  · rw [hv] at h4
    cases h4
theorem g_nputM (hu : X.A.units + 64 < cLine) {C : OL → Sl → Prop} (hv : EM X G own e C)
    (q : ∀ o2 s, C o2 s → EX X G o2 o (.v (.ref p)) ∧ EX X G o2 i (.d k.data) ∧ NkT k ∧ ∃ (j : Nat) (ks : List (NK × PyData)) (d : PyData), s = .d d ∧ o2[j]? = some (p, asN X.prog X.w X.K ks) ∧ ks.length < 1000000 ∧ Go X B G (o2.set j (p, asN X.prog X.w X.K (aPut ks k d))) D rest)
    (hs : swapsWith e (some (.Subscript o i pos')) pos.line X.env = pure false := by rfl) : Go X B G own D (.Assign [.Subscript o i pos'] e pos :: rest) :=
  g_cons (ps_nput hu pe_w pe_w pe_w hs) fun R H z w hz => hv R H z w.ow hz _ fun o2 s v R1 H1 c p1 e1 => by
    obtain ⟨ho, hk, kt, j, ks, d, rfl, hj, hl, go⟩ := q o2 s c
    refine ho R1 H1 z p1.ow (hold_up p1.rr hz) _ fun u R2 H2 g2 e2 => hk R2 H2 z (p1.ow.grow g2) (hold_up g2.rr (hold_up p1.rr hz)) _ fun y R3 H3 g3 e3 => ?_
    obtain rfl := v_slr e2
    have gg := g2.trans g3
    have p2 := (sep_trans w p1).grow gg
    obtain ⟨xs, h1, h2, h3⟩ := p2.ow.nd_r hj
    obtain ⟨b, rfl, kb⟩ := nkt_of kt (d_slr e3)
    exact ⟨p, xs, k, b, rfl, rfl, h1, h3.ks, nkt_up p2.rh kb, by rw [nx_len h2]; exact Nat.lt_trans hl (by decide), go R3 _ z (p2.put hj ⟨_, rfl, nx_put h2 kb (dp_up gg.rr _ _ (d_slr e1))⟩) (hold_up gg.rr (hold_up p1.rr hz))⟩
theorem g_nput (j : Nat) (hu : X.A.units + 64 < cLine) (ho : EX X G own o (.v (.ref p))) (hk : EX X G own i (.d k.data)) (kt : NkT k) (hv : EX X G own e (.d d)) (hl : ks.length < 1000000) (q : Go X B G (own.set j (p, asN X.prog X.w X.K (aPut ks k d))) D rest) (hi : own[j]? = some (p, asN X.prog X.w X.K ks) := by rfl)
    (hs : swapsWith e (some (.Subscript o i pos')) pos.line X.env = pure false := by rfl) : Go X B G own D (.Assign [.Subscript o i pos'] e pos :: rest) :=
  g_nputM (p := p) (k := k) hu (m_x hv) (fun o t ⟨h1, h2⟩ => by subst h1 h2; exact ⟨ho, hk, kt, j, ks, d, rfl, hi, hl, q⟩) hs
theorem rc_nlen {j : Nat} (hi : own[j]? = some (p, asN X.prog X.w X.K ks)) : RC X.K own (rNLen X.prog X.w X.K) [.v (.ref p)] (.d (.int ks.length)) := fun R H vs w h Q q => by
  match vs, h with
  | [v], ⟨h1, _⟩ =>
    obtain rfl := v_slr h1
    obtain ⟨xs, h1, h2, h3⟩ := w.nd_r hi
    refine ⟨p, xs, rfl, h3, q _ R H (Grow.refl w.rh) ?_⟩
    rw [nx_len h2]
    exact slr_d (.int _)
theorem rc_nlist {j : Nat} (hi : own[j]? = some (p, asN X.prog X.w X.K ks)) : RC X.K own (rNList X.prog X.w X.K) [.v (.ref p)] (.d (.list (ks.map fun q => q.1.data))) := fun R H vs w h Q q => by
  match vs, h with
  | [v], ⟨h1, _⟩ =>
    obtain rfl := v_slr h1
    obtain ⟨xs, h1, h2, h3⟩ := w.nd_r hi
    refine ⟨p, xs, rfl, .inl h1, fun l hl => ?_⟩
    have g := Grow.imm (o := .lst (keysX xs)) w.rh hl
    exact q _ _ _ g (slr_d (.lst (SqL.of upd_same) (dps_up g.rr _ _ (nx_keysV h2))))
/-- dict(pairs) -/
def mergeA (l : List (NK × PyData)) : List (NK × PyData) := l.foldl (fun acc q => aPut acc q.1 q.2) []
theorem nx_merge {K : PySem.W.Frag} {R : Hp} : ∀ {more : List (NK × PyData)} {ms : NX} {l : List (NK × PyData)} {xs : NX}, NxR K R more ms → NxR K R l xs → NxR K R (more.foldl (fun acc q => aPut acc q.1 q.2) l) (mergeX xs ms)
  | _, _, _, _, .nil, h => h
  | _, _, _, _, .cons (a := q) (b := x) h t, h2 => by
    have e := nx_put h2 (k := q.1) (b := x.2.1) (by rw [← h.1]; exact h.2.1) h.2.2
    have z := nx_merge t e
    show NxR K R _ (mergeX (putX _ x.1 x.2.1 x.2.2) _)
    rw [h.1]
    exact z
theorem pairs_of {K : PySem.W.Frag} {R H : Hp} (hs : Same R H) : ∀ {l : List (NK × PyData)} {vs : List V}, (∀ q ∈ l, NkT q.1) → DpAll K R vs (l.map fun q => .tuple [q.1.data, q.2]) → ∃ (ps : List Addr) (xs : NX), vs = ps.map V.ref ∧ Paired (fun p x => SqT K H p [.ref x.2.1, x.2.2]) ps xs ∧ NxR K R l xs
  | [], _, _, h => by cases h; exact ⟨[], [], rfl, .nil, .nil⟩
  | q :: l, _, hk, h => by
    cases h with
    | cons h1 h2 =>
      obtain ⟨ps, xs, rfl, h3, h4⟩ := pairs_of hs (fun r hr => hk r (List.mem_cons_of_mem _ hr)) h2
      obtain ⟨a, us, rfl, h5, h6⟩ := dp_tup h1
      cases h6 with
      | cons h7 h8 =>
        cases h8 with
        | cons h8 h9 =>
          cases h9
          obtain ⟨b, rfl, kb⟩ := nkt_of (hk q List.mem_cons_self) h7
          exact ⟨a :: ps, (q.1, b, _) :: xs, rfl, .cons (sqt_up hs h5) h3, .cons ⟨rfl, kb, h8⟩ h4⟩
theorem m_ndict {l : List (NK × PyData)} {pn : Pos} {Dd : OL → Sl → Prop} (hu : X.A.units + 64 < cLine) (hm : X.mg "dict" = none) (h : EX X G own e (.d (.list (l.map fun q => .tuple [q.1.data, q.2])))) (hk : ∀ q ∈ l, NkT q.1) (hd : ∀ p, Dd ((p, asN X.prog X.w X.K (mergeA l)) :: own) (.v (.ref p)))
    (hc : X.calm = true := by rfl) (hv : bootBuiltins "dict" = some (.type "dict") := by first | rfl | decide +kernel) (hg : Gl X "dict" := by rfl) (hs : starEach [e] X.env = (false, eval e X.env) :: starEach [] X.env := by rfl) (hpl : (backTo pos (starEach [] X.env)).any (·.1) = false := by rfl) : EM X G own (.Call (.Name "dict" pn) [e] [] pos) Dd :=
  EM.of (pe_callTy (call_ndict hu hc) hg hm hv pa_w (by decide) (by decide) hs hpl) fun R H z w hz Q q => (a_cons h a_nil hs : EA X G own [e] [_]) R H z w hz _ fun vs R1 H1 g1 e1 => by
    match vs, e1 with
    | [v], ⟨e1, _⟩ =>
      obtain ⟨a, us, rfl, h1, h2⟩ := dp_lst (d_slr e1)
      obtain ⟨ps, xs, rfl, h3, h4⟩ := pairs_of g1.rh hk h2
      exact ⟨a, ps, xs, rfl, sql_up g1.rh h1, h3, fun x hx => nkt_up g1.rh (nx_keys h4 x hx), fun p hp => q _ _ _ R1 _ (hd p) ((sep_of w g1).new (A := asN X.prog X.w X.K (mergeA l)) hp ⟨_, rfl, nx_merge h4 .nil⟩) rfl⟩
end
end CB

/-! Part 11: pages, and what the text computes, in plain Lean. -/
namespace CB
open PySem PySem.Spec PyProof.Rows L2
inductive Page where
  | house (d : Int) (n : Str) (h : List Int)
  | part (d : Int) (a b : Str) (h : List Int)
  | join (d : Int) (a b : Str)
  | home (d : Int) (n : Str) (h : List Int)
  | mourn (d : Int) (n : Str) (k : Int)
  | ahead (d : Int) (a b : Str)
  | card (d : Int) (a b : Str)
  | visit (d : Int) (a b : Str)
  deriving DecidableEq
abbrev intsD (h : List Int) : PyData := .tuple (h.map .int)
abbrev intsK (h : List Int) : NK := .tup (h.map .num)
theorem datas_num : ∀ h : List Int, NestedKey.datas (h.map NestedKey.num) = h.map PyData.int
  | [] => rfl
  | i :: h => by rw [List.map_cons, NestedKey.datas, datas_num h]; rfl
theorem intsK_data (h : List Int) : (intsK h).data = intsD h := by
  show PyData.tuple (NestedKey.datas (h.map NestedKey.num)) = _
  rw [datas_num]
theorem depth_num : ∀ h : List Int, NestedKey.depthAll (h.map NestedKey.num) ≤ 1
  | [] => Nat.zero_le _
  | i :: h => by
    rw [List.map_cons, NestedKey.depthAll]
    have := depth_num h
    have e : NestedKey.depth (.num i) ≤ 1 := by simp [NestedKey.depth]
    omega
namespace Page
def day : Page → Int
  | .house d _ _ => d
  | .part d _ _ _ => d
  | .join d _ _ => d
  | .home d _ _ => d
  | .mourn d _ _ => d
  | .ahead d _ _ => d
  | .card d _ _ => d
  | .visit d _ _ => d
def kind : Page → Str
  | .house _ _ _ => "house"
  | .part _ _ _ _ => "part"
  | .join _ _ _ => "join"
  | .home _ _ _ => "home"
  | .mourn _ _ _ => "mourn"
  | .ahead _ _ _ => "ahead"
  | .card _ _ _ => "card"
  | .visit _ _ _ => "visit"
def rank : Page → Nat
  | .house _ _ _ => 0
  | .part _ _ _ _ => 1
  | .join _ _ _ => 2
  | .home _ _ _ => 3
  | .mourn _ _ _ => 4
  | .ahead _ _ _ => 5
  | .card _ _ _ => 6
  | .visit _ _ _ => 7
/-- what stands behind the day -/
def rest : Page → List PyData
  | .house _ n h => [.str n, intsD h]
  | .part _ a b h => [.str a, .str b, intsD h]
  | .join _ a b => [.str a, .str b]
  | .home _ n h => [.str n, intsD h]
  | .mourn _ n k => [.str n, .int k]
  | .ahead _ a b => [.str a, .str b]
  | .card _ a b => [.str a, .str b]
  | .visit _ a b => [.str a, .str b]
def restK : Page → List NK
  | .house _ n h => [.text n, intsK h]
  | .part _ a b h => [.text a, .text b, intsK h]
  | .join _ a b => [.text a, .text b]
  | .home _ n h => [.text n, intsK h]
  | .mourn _ n k => [.text n, .num k]
  | .ahead _ a b => [.text a, .text b]
  | .card _ a b => [.text a, .text b]
  | .visit _ a b => [.text a, .text b]
def one : Page → Str
  | .house _ n _ => n
  | .part _ a _ _ => a
  | .join _ a _ => a
  | .home _ n _ => n
  | .mourn _ n _ => n
  | .ahead _ a _ => a
  | .card _ a _ => a
  | .visit _ a _ => a
def enc (p : Page) : PyData := .tuple (.str p.kind :: .int p.day :: p.rest)
def nk (p : Page) : NK := .tup (.text p.kind :: .num p.day :: p.restK)
def names : Page → List Str
  | .house _ n _ => [n]
  | .part _ a b _ => [a, b]
  | .join _ a b => [a, b]
  | .home _ n _ => [n]
  | .mourn _ n _ => [n]
  | .ahead _ a b => [a, b]
  | .card _ a b => [a, b]
  | .visit _ a b => [a, b]
theorem nk_data (p : Page) : p.nk.data = p.enc := by
  cases p <;> simp [nk, enc, restK, rest, kind, day, NestedKey.data, NestedKey.datas, datas_num]
theorem nk_depth (p : Page) : p.nk.depth ≤ 4 := by
  cases p <;> simp only [nk, restK, intsK, NestedKey.depth, NestedKey.depthAll] <;> (try have h1 := depth_num (by assumption)) <;> omega
theorem nk_t (p : Page) : NkT p.nk := ⟨⟨_, rfl⟩, Nat.le_trans p.nk_depth (by decide)⟩
theorem nums_inj : ∀ {h h' : List Int}, h.map NestedKey.num = h'.map NestedKey.num → h = h'
  | [], [], _ => rfl
  | [], _ :: _, e => nomatch e
  | _ :: _, [], e => nomatch e
  | i :: h, j :: h', e => by
    rw [List.map_cons, List.map_cons] at e
    injection e with e1 e2
    injection e1 with e1
    rw [e1, nums_inj e2]
theorem nk_inj : ∀ p q : Page, p.nk = q.nk → p = q := by
  intro p q e
  cases p <;> cases q <;> simp only [nk, restK, kind, day, intsK, NestedKey.tup.injEq, List.cons.injEq, NestedKey.text.injEq, NestedKey.num.injEq, reduceCtorEq, and_true, and_false, true_and] at e <;> first
    | (obtain ⟨e1, e2⟩ := e; exact absurd e1 (by decide))
    | exact absurd e (by decide)
    | (obtain ⟨e1, e2, e3, e4⟩ := e; subst e1; subst e2; subst e3; first | rw [e4] | rw [nums_inj e4])
    | (obtain ⟨e1, e2, e3⟩ := e; subst e1; subst e2; first | rw [e3] | rw [nums_inj e3])
/-- its place in the book -/
def place (p : Page) : NK := .tup [.num p.day, .num (p.rank : Nat), .tup p.restK]
end Page
end CB

/-! Part 12: a def's promise from its body. -/
namespace CB
open PySem PySem.Spec PyProof.Rows L2
def startG (N : List Str) (ss : List Sl) : List Sl := ss ++ List.replicate (N.length - ss.length) .u
theorem hold_args {K : PySem.W.Frag} {R : Hp} {n : Nat} : ∀ {ss : List Sl} {vs : List V}, Args K R ss vs → Hold K R (ss ++ List.replicate n .u) (vs.map some ++ List.replicate n none)
  | [], [], _ => by
    have key : ∀ n : Nat, Hold K R (List.replicate n .u) (List.replicate n none) := by
      intro n
      induction n with
      | zero => exact trivial
      | succ n ih => exact ⟨trivial, ih⟩
    exact key n
  | _ :: _, _ :: _, ⟨h1, h2⟩ => ⟨h1, hold_args h2⟩
theorem hold_start {K : PySem.W.Frag} {R : Hp} {N : List Str} {ss : List Sl} {vs : List V} (h : Args K R ss vs) : Hold K R (startG N ss) (L2.start N vs) := by
  unfold startG L2.start
  rw [args_len h]
  exact hold_args h
/-- what a body's end is to reach -/
def EndM (K : PySem.W.Frag) (B : Bs) (C : OL → Sl → Prop) (D : Ends) : Prop := (∀ o t v R H, C o t → SepB B o R H → SlR K R t (some v) → D.rt v H) ∧ (∀ o z R H, C o (.d .none) → SepB B o R H → D.nx z H)
abbrev bX (P : Program) (w : World) (K : PySem.W.Frag) (mg : Str → Option Value) (base : Heap) (N : List Str) (qual : Str) (st : Stmt) (f : Addr) (cd : Value) (A : Around) (outer : List Env) (s : Shared) (H : Hp) (E : XK) : Cx := (cxOf CX0 P w K mg base N qual (defScope st) f cd A outer s H E).nox
section
variable {P : Program} {w : World} {K : PySem.W.Frag} {mg : Str → Option Value} {base : Heap} {x qual : Str} {st : Stmt} {f : Addr} {fd : FuncData} {N ps : List Str} {k : Nat}
theorem okM {Pre : OL → List Sl → (OL → Sl → Prop) → Prop} (F : FunD K x qual (defArgs st) (defBody st) (defScope st) [] [] f fd) (S : FnScope N ps (defScope st)) (hl : ∀ oc ss C, Pre oc ss C → ss.length = ps.length)
    (hb : ∀ cd A outer s H0 E, Room k (A.deeper (envOfC qual (defScope st) s.heap.objs.size f cd)) → ∀ oc ss C B D, Pre oc ss C → B.F = oc.map (·.1) → EndM K B C D → Go (bX P w K mg base N qual st f cd A outer s H0 E) B (startG N ss) oc D (defBody st)) :
    FnOk P w K mg base CX0 (k + 1) f fd ps (spM K Pre) := by
  refine F.ok S (fun vs H Q E h => ?_) fun cd A outer s H vs Q E hr h => ?_
  · obtain ⟨R, oc, ss, C, hp, ow, ha, _⟩ := h
    rw [args_len ha]
    exact hl _ _ _ hp
  · obtain ⟨R, oc, ss, C, hp, ow, ha, q⟩ := h
    refine ⟨_, PSs.nox pss_w, ?_⟩
    refine hb cd A outer s H E hr oc ss C ⟨R, H, oc.map (·.1)⟩ _ hp rfl ⟨fun o t v R' H' c p e => q o t v R' H' c p e, fun o z R' H' c p => q o _ _ R' H' c p (slr_d .non)⟩ R H _ (Sep.start ow) (hold_start ha)
/-- data alone: nothing is owned at the call -/
abbrev spD (K : PySem.W.Frag) (Pre : List Sl → Sl → Prop) : Sp := spP K fun oc ss s => oc = [] ∧ Pre ss s
theorem okD {Pre : List Sl → Sl → Prop} (F : FunD K x qual (defArgs st) (defBody st) (defScope st) [] [] f fd) (S : FnScope N ps (defScope st)) (hl : ∀ ss s, Pre ss s → ss.length = ps.length)
    (hb : ∀ cd A outer s H0 E, Room k (A.deeper (envOfC qual (defScope st) s.heap.objs.size f cd)) → ∀ ss r B D, Pre ss r → B.F = [] → EndM K B (fun _ t => t = r) D → Go (bX P w K mg base N qual st f cd A outer s H0 E) B (startG N ss) [] D (defBody st)) :
    FnOk P w K mg base CX0 (k + 1) f fd ps (spD K Pre) := by
  refine F.ok S (fun vs H Q E h => ?_) fun cd A outer s H vs Q E hr h => ?_
  · obtain ⟨R, oc, ss, C, hp, ow, ha, _⟩ := h
    rw [args_len ha]
    exact hl _ _ hp.2
  · obtain ⟨R, oc, ss, r, ⟨rfl, hp⟩, ow, ha, q⟩ := h
    refine ⟨_, PSs.nox pss_w, ?_⟩
    refine hb cd A outer s H E hr ss r ⟨R, H, []⟩ _ hp rfl ⟨fun o t v R' H' c p e => ?_, fun o z R' H' c p => ?_⟩ R H _ (Sep.start ow) (hold_start ha)
    · subst c
      exact q v R' H' p.toGrow e
    · exact q _ R' H' p.toGrow (by rw [← c]; exact slr_d .non)
/-- a body that is one return: whatever it is given stays -/
theorem okR {e : Expr} {pos : Pos} {Pre : OL → List Sl → Sl → Prop} (F : FunD K x qual (defArgs st) (defBody st) (defScope st) [] [] f fd) (S : FnScope N ps (defScope st)) (hl : ∀ oc ss s, Pre oc ss s → ss.length = ps.length) (he : defBody st = [.Return (some e) pos] := by rfl)
    (hb : ∀ cd A outer s H0 E, Room k (A.deeper (envOfC qual (defScope st) s.heap.objs.size f cd)) → ∀ oc ss r, Pre oc ss r → EX (bX P w K mg base N qual st f cd A outer s H0 E) (startG N ss) oc e r) :
    FnOk P w K mg base CX0 (k + 1) f fd ps (spP K Pre) := by
  refine F.ok S (fun vs H Q E h => ?_) fun cd A outer s H vs Q E hr h => ?_
  · obtain ⟨R, oc, ss, C, hp, ow, ha, _⟩ := h
    rw [args_len ha]
    exact hl _ _ _ hp
  · obtain ⟨R, oc, ss, r, hp, ow, ha, q⟩ := h
    rw [he]
    refine ⟨_, PSs.nox (pss_one (ps_ret pe_w)), ?_⟩
    exact hb cd A outer s H E hr oc ss r hp R H _ ow (hold_start ha) _ fun v R' H' g e => q v R' H' g e
theorem gd_mk {sp : Sp} {n : Nat} (F : FunD K x qual (defArgs st) (defBody st) (defScope st) [] [] f fd) (hn : ps.length = n) (ok : FnOk P w K mg base CX0 k f fd ps sp) (hm : mg x = some (.ref f))
    (hb : ∀ (kV doc pm : Value) (an : Option Addr) (cdv ct : Value) (us : List Value), us.length = ps.length → bindArgs (PySem.W.fnOf x qual (defArgs st) (defBody st) (defScope st) .none kV doc pm an cdv ct) ⟨us, []⟩ = pure (ps.zip us)) : Gd P w K mg base k x n sp := ⟨f, fd, ps, hn, ok, hm, F.kp, F.bindsN hb⟩
theorem gdM_mk {sp : Sp} {C : Addr} (F : FunD K x qual (defArgs st) (defBody st) (defScope st) [] [] f fd) (ok : FnOk P w K mg base CX0 k f fd ps sp) (hm : Meth K C x f)
    (hb : ∀ (kV doc pm : Value) (an : Option Addr) (cdv ct : Value) (us : List Value), us.length = ps.length → bindArgs (PySem.W.fnOf x qual (defArgs st) (defBody st) (defScope st) .none kV doc pm an cdv ct) ⟨us, []⟩ = pure (ps.zip us)) : GdM P w K mg base k C x sp := ⟨f, fd, ps, ok, hm, F.bindsN hb⟩
theorem gdC_mk {sp : Sp} {C : Addr} {cn : Str} (F : FunD K x qual (defArgs st) (defBody st) (defScope st) [] [] f fd) (ok : FnOk P w K mg base CX0 k f fd ps sp) (hM : Mk K C f) (hm : mg cn = some (.ref C))
    (hb : ∀ (kV doc pm : Value) (an : Option Addr) (cdv ct : Value) (us : List Value), us.length = ps.length → bindArgs (PySem.W.fnOf x qual (defArgs st) (defBody st) (defScope st) .none kV doc pm an cdv ct) ⟨us, []⟩ = pure (ps.zip us)) : GdC P w K mg base k cn C sp := ⟨f, fd, ps, ok, hM, hm, F.bindsN hb⟩
end

theorem x_ixn {X : Cx} {G : List Sl} {own : OL} {a b : Expr} {pos : Pos} {ds : List PyData} {d : PyData} (j : Nat) (ha : EX X G own a (.d (.tuple ds))) (hb : EX X G own b (.d (.int (j : Nat)))) (e : ds[j]? = some d := by rfl) (hs : PlainIx b := by exact fun _ _ => rfl) : EX X G own (.Subscript a b pos) (.d d) := x_ixT ha hb (atI_nat e) hs
/-! ### pages.py -/
section
variable {P : Program} {w : World} {K : PySem.W.Frag} {mg : Str → Option Value} {base : Heap}
theorem sc_page_day : FnScope ["page"] ["page"] (defScope s_page_day) := ⟨rfl, rfl, rfl, by decide +kernel, rfl, by decide +kernel, by decide +kernel⟩
theorem g_page_day (T : Tx K mg) : Gd P w K mg base 1 "page_day" 1 (spP K fun oc ss s => ∃ p : Page, ss = [.d p.enc] ∧ s = .d (.int p.day)) := by
  obtain ⟨fd, F⟩ := T.fun_page_day
  refine gd_mk F rfl (okR (k := 0) F sc_page_day (fun _ _ _ ⟨_, e, _⟩ => by rw [e]; rfl) rfl ?_) T.glo_page_day fun _ _ _ _ _ _ us hl => match us, hl with | [_], _ => rfl
  rintro cd A outer s H0 E hr oc ss r ⟨p, rfl, rfl⟩
  exact x_ixn 1 (x_var 0) x_int
end
end CB

/-! Part 13: pages as data: equality, order, what may be laid. -/
namespace CB
open PySem PySem.Spec PyProof.Rows L2
open PySem.W (dataLe keyToks keyToksAll alike alikeAll)
theorem ints_inj : ∀ {h h' : List Int}, h.map PyData.int = h'.map PyData.int → h = h'
  | [], [], _ => rfl
  | [], _ :: _, e => nomatch e
  | _ :: _, [], e => nomatch e
  | i :: h, j :: h', e => by
    rw [List.map_cons, List.map_cons] at e
    injection e with e1 e2
    injection e1 with e1
    rw [e1, ints_inj e2]
theorem eqv_ints : ∀ h h' : List Int, PyData.eqvAll (h.map PyData.int) (h'.map PyData.int) = decide (h = h')
  | [], [] => rfl
  | [], _ :: _ => rfl
  | _ :: _, [] => rfl
  | i :: h, j :: h' => by
    rw [List.map_cons, List.map_cons, PyData.eqvAll, eqv_ints h h', PyData.eqv]
    by_cases e : i = j
    · subst e; simp
    · simp [e]
theorem alike_ints : ∀ h h' : List Int, alikeAll (h.map PyData.int) (h'.map PyData.int) = true
  | [], _ => by rw [List.map_nil, alikeAll]
  | _ :: _, [] => by rw [List.map_nil]; rfl
  | i :: h, j :: h' => by
    rw [List.map_cons, List.map_cons, alikeAll, alike_ints h h', alike]
    rfl
theorem toks_ints : ∀ {h h' : List Int} {r r' : List (Int ⊕ List Nat)}, keyToksAll (h.map PyData.int) ++ r = keyToksAll (h'.map PyData.int) ++ r' → h = h' ∧ r = r'
  | [], [], r, r', e => by
    simp only [List.map_nil, keyToksAll, List.cons_append, List.nil_append, List.cons.injEq, true_and] at e
    exact ⟨rfl, e⟩
  | [], _ :: _, r, r', e => by simp [keyToksAll] at e
  | _ :: _, [], r, r', e => by simp [keyToksAll] at e
  | i :: h, j :: h', r, r', e => by
    simp only [List.map_cons, keyToksAll, keyToks, List.cons_append, List.nil_append, List.append_assoc, List.cons.injEq, Sum.inl.injEq, true_and] at e
    obtain ⟨e1, e2⟩ := e
    obtain ⟨h1, h2⟩ := toks_ints e2
    exact ⟨by rw [e1, h1], h2⟩
theorem canLay_ints : ∀ h : List Int, PyData.canLayAll0 (h.map PyData.int) = true
  | [] => rfl
  | i :: h => by rw [List.map_cons, PyData.canLayAll0, canLay_ints h]; rfl
theorem depth_ints : ∀ h : List Int, PyData.depthAll (h.map PyData.int) = 0
  | [] => rfl
  | i :: h => by rw [List.map_cons, PyData.depthAll, depth_ints h]; rfl
/-- the names may be laid -/
def Nok (n : Str) : Prop := PyData.strOk n = true
namespace Page
theorem enc_inj {p q : Page} (e : p.enc = q.enc) : p = q := by
  have h : ∀ p : Page, p.nk.data = p.enc := nk_data
  cases p <;> cases q <;> simp only [enc, rest, kind, day, intsD, PyData.tuple.injEq, List.cons.injEq, PyData.str.injEq, PyData.int.injEq, reduceCtorEq, and_true, and_false, true_and] at e <;> first
    | (obtain ⟨e1, e2⟩ := e; exact absurd e1 (by decide))
    | exact absurd e (by decide)
    | (obtain ⟨e1, e2, e3, e4⟩ := e; subst e1; subst e2; subst e3; first | rw [e4] | rw [ints_inj e4])
    | (obtain ⟨e1, e2, e3⟩ := e; subst e1; subst e2; first | rw [e3] | rw [ints_inj e3])
theorem eqv_enc (p q : Page) : PyData.eqv p.enc q.enc = decide (p = q) := by
  cases p <;> cases q <;> simp only [enc, rest, kind, day, intsD, PyData.eqv, PyData.eqvAll, eqv_ints, Bool.and_true, Page.house.injEq, Page.part.injEq, Page.join.injEq, Page.home.injEq, Page.mourn.injEq, Page.ahead.injEq, Page.card.injEq, Page.visit.injEq, reduceCtorEq, decide_false, Bool.decide_and, beq_self_eq_true, Bool.true_and] <;> first
    | rfl
    | (simp only [Bool.and_false]; first | rfl | (rw [Bool.and_eq_false_iff]; left; decide))
    | (congr 1)
def ok (p : Page) : Prop := ∀ n ∈ p.names, Nok n
theorem lay_enc {p : Page} (h : p.ok) : PyData.canLay0 p.enc = true := by
  have h' : ∀ n ∈ p.names, PyData.strOk n = true := h
  cases p <;> simp only [names, List.mem_cons, List.not_mem_nil, or_false, forall_eq_or_imp, forall_eq] at h' <;> simp only [enc, rest, kind, day, intsD, PyData.canLay0, PyData.canLayAll0, canLay_ints, Bool.and_true, Bool.true_and] <;> first
    | (rw [h'.1, h'.2]; decide +kernel)
    | (rw [h']; decide +kernel)
theorem depth_enc (p : Page) : p.enc.depth ≤ 2 := by
  cases p <;> simp [enc, rest, kind, day, intsD, PyData.depth, PyData.depthAll, depth_ints]
theorem shaped_enc {p : Page} (h : p.ok) : SeqAt.shaped p.enc = true := by
  unfold SeqAt.shaped
  rw [lay_enc h, Bool.true_and]
  exact decide_eq_true (Nat.le_trans p.depth_enc (by decide))
theorem layAll {l : List Page} (h : ∀ p ∈ l, p.ok) : PyData.canLayAll0 (l.map enc) = true := by
  induction l with
  | nil => rfl
  | cons p l ih => rw [List.map_cons, PyData.canLayAll0, lay_enc (h p List.mem_cons_self), ih fun q hq => h q (List.mem_cons_of_mem _ hq)]; rfl
theorem depthAll : ∀ l : List Page, PyData.depthAll (l.map enc) ≤ 2
  | [] => Nat.zero_le _
  | p :: l => by
    rw [List.map_cons, PyData.depthAll]
    have h1 := p.depth_enc
    have h2 := depthAll l
    omega
theorem shaped_tup {l : List Page} (h : ∀ p ∈ l, p.ok) : SeqAt.shaped (.tuple (l.map enc)) = true := by
  unfold SeqAt.shaped
  rw [PyData.canLay0, layAll h, Bool.true_and, PyData.depth]
  exact decide_eq_true (Nat.le_trans (Nat.succ_le_succ (depthAll l)) (by decide))
theorem shaped_lst {l : List Page} (h : ∀ p ∈ l, p.ok) : SeqAt.shaped (.list (l.map enc)) = true := by
  unfold SeqAt.shaped
  rw [PyData.canLay0, layAll h, Bool.true_and, PyData.depth]
  exact decide_eq_true (Nat.le_trans (Nat.succ_le_succ (depthAll l)) (by decide))
theorem any_enc (p : Page) : ∀ l : List Page, ((l.map enc).any fun z => PyData.eqv z p.enc) = decide (p ∈ l)
  | [] => rfl
  | q :: l => by
    rw [List.map_cons, List.any_cons, any_enc p l, eqv_enc]
    by_cases e : q = p
    · subst e; simp
    · have e' : ¬ p = q := fun z => e z.symm
      simp [e, e']
/-! its place -/
theorem place_data (p : Page) : p.place.data = .tuple [.int p.day, .int (p.rank : Nat), .tuple p.rest] := by
  cases p <;> simp [place, rest, restK, intsK, NestedKey.data, NestedKey.datas, datas_num]
theorem place_depth (p : Page) : p.place.data.depth ≤ 16 := by
  rw [place_data]
  cases p <;> simp [rest, intsD, PyData.depth, PyData.depthAll, depth_ints]
theorem toks_place {p q : Page} (e : keyToks p.place.data = keyToks q.place.data) : p = q := by
  rw [place_data, place_data] at e
  cases p <;> cases q <;> simp only [rest, rank, day, intsD, keyToks, keyToksAll, List.cons_append, List.nil_append, List.append_assoc, List.cons.injEq, Sum.inl.injEq, Sum.inr.injEq, true_and, and_true, reduceCtorEq, and_false] at e <;> first
    | (obtain ⟨-, e2, -⟩ := e; exact absurd e2 (by decide))
    | (obtain ⟨e1, e2, e3⟩ := e; rw [e1, PySem.W.str_of_cps e2, (toks_ints e3).1])
    | (obtain ⟨e1, e2, e3⟩ := e; rw [e1, PySem.W.str_of_cps e2, PySem.W.str_of_cps e3])
    | (obtain ⟨e1, e2, e3, e4⟩ := e; rw [e1, PySem.W.str_of_cps e2, PySem.W.str_of_cps e3, (toks_ints e4).1])
    | (obtain ⟨e1, e2, e3⟩ := e; rw [e1, PySem.W.str_of_cps e2, e3])
theorem cmp_place (p q : Page) (xs ys : List NK) (h1 : p.place = .tup xs) (h2 : q.place = .tup ys) : cmpAll (NestedKey.datas xs) (NestedKey.datas ys) = true := by
  have e1 : NestedKey.datas xs = [.int p.day, .int (p.rank : Nat), .tuple p.rest] := by
    have := congrArg NestedKey.data h1
    rw [place_data] at this
    exact (PyData.tuple.inj this).symm
  have e2 : NestedKey.datas ys = [.int q.day, .int (q.rank : Nat), .tuple q.rest] := by
    have := congrArg NestedKey.data h2
    rw [place_data] at this
    exact (PyData.tuple.inj this).symm
  rw [e1, e2]
  cases p <;> cases q <;> simp [cmpAll, rest, rank, alike, alikeAll, intsD, alike_ints, PyData.eqv]
theorem cmp_places (l : List Page) : Cmp (l.map place) := by
  refine ⟨fun k hk => ?_, fun k hk k' hk' xs ys e1 e2 => ?_⟩
  · obtain ⟨p, _, rfl⟩ := List.mem_map.mp hk
    exact ⟨_, _, rfl⟩
  · obtain ⟨p, _, rfl⟩ := List.mem_map.mp hk
    obtain ⟨q, _, rfl⟩ := List.mem_map.mp hk'
    exact cmp_place p q xs ys e1 e2
/-- the order of the book -/
def le (p q : Page) : Bool := dataLe false (fun p : Page => p.place.data) p q
def sortP (l : List Page) : List Page := l.mergeSort le
theorem le_total : PySem.W.TotalLe le := PySem.W.sortLe_total (listOrd itemOrd) false fun p : Page => keyToks p.place.data
theorem le_antisymm {p q : Page} (h1 : le p q = true) (h2 : le q p = true) : p = q := by
  have e1 : (!(listOrd itemOrd).blt (keyToks q.place.data) (keyToks p.place.data)) = true := h1
  have e2 : (!(listOrd itemOrd).blt (keyToks p.place.data) (keyToks q.place.data)) = true := h2
  rw [Bool.not_eq_true'] at e1 e2
  exact toks_place ((listOrd itemOrd).total _ _ e2 e1)
end Page
noncomputable def kdP (d : PyData) : NK := open Classical in if h : ∃ p : Page, p.enc = d then h.choose.place else .none
theorem kdP_enc (p : Page) : kdP p.enc = p.place := by
  have h : ∃ q : Page, q.enc = p.enc := ⟨p, rfl⟩
  unfold kdP
  rw [dif_pos h, Page.enc_inj h.choose_spec]
theorem kdP_map (l : List Page) : (l.map Page.enc).map kdP = l.map Page.place := by
  rw [List.map_map]
  exact List.map_congr_left fun p _ => kdP_enc p
theorem sort_enc (l : List Page) : (l.map Page.enc).mergeSort (dataLe false fun d => (kdP d).data) = (Page.sortP l).map Page.enc := by
  unfold Page.sortP
  rw [List.map_mergeSort]
  intro a _ b _
  show Page.le a b = dataLe false (fun d => (kdP d).data) a.enc b.enc
  unfold Page.le dataLe PySem.W.sortLe
  simp only [kdP_enc]
end CB

/-! Part 14: sorted, in, index, by what things are worth. -/
namespace CB
open PySem PySem.Spec PyProof.Rows L2
open PySem.W (dataLe keyToks keyToksAll alike alikeAll AllAlike Sortable)
def rInT (K : PySem.W.Frag) (neg : Bool) : R2 := fun x y H Q => ∃ d ds, Dp K H x d ∧ Dp K H y (.tuple ds) ∧ SeqAt.shaped d = true ∧ SeqAt.shaped (.tuple ds) = true ∧ Q (.bl (if neg then !ds.any fun z => PyData.eqv z d else ds.any fun z => PyData.eqv z d)) H
section
variable {X : Cx} {G : List Sl} {own : OL} {e a b c o : Expr} {es : List Expr} {s x y : Sl} {ss : List Sl} {pos : Pos} {k n : Nat} {p : Addr} {ds : List PyData}
theorem op_inT (hu : X.A.units + 65 < cLine) : OpR X (compareOp .In) (rInT X.K false) := by
  intro pins s σ H x y v u Q I rx ry h
  obtain ⟨d, ds, hd, he, sd, se, q⟩ := h
  obtain ⟨as, r1⟩ := Dp.reads I d x v hd rx
  obtain ⟨bs, r2⟩ := Dp.reads I (.tuple ds) y u he ry
  exact SeqAt.in_tuple_reads r2 r1 (SeqAt.canLay_of_shaped se) (SeqAt.canLay_of_shaped sd) (room_in_shaped sd hu) ⟨.bl _, H, I, rfl, q⟩
theorem op_notInT (hu : X.A.units + 65 < cLine) : OpR X (compareOp .NotIn) (rInT X.K true) := by
  intro pins s σ H x y v u Q I rx ry h
  obtain ⟨d, ds, hd, he, sd, se, q⟩ := h
  obtain ⟨as, r1⟩ := Dp.reads I d x v hd rx
  obtain ⟨bs, r2⟩ := Dp.reads I (.tuple ds) y u he ry
  exact SeqAt.notIn_tuple_reads r2 r1 (SeqAt.canLay_of_shaped se) (SeqAt.canLay_of_shaped sd) (room_in_shaped sd hu) ⟨.bl _, H, I, rfl, q⟩
theorem rd_inT {neg : Bool} {d : PyData} (hx : SeqAt.shaped d = true) (hd : SeqAt.shaped (.tuple ds) = true) : RD X.K own (rInT X.K neg) (.d d) (.d (.tuple ds)) (.d (.bool (if neg then !ds.any fun z => PyData.eqv z d else ds.any fun z => PyData.eqv z d))) :=
  rd_now fun R H u v w ux uy Q q => ⟨d, ds, dp_up w.rh _ _ (d_slr ux), dp_up w.rh _ _ (d_slr uy), hx, hd, q _ (slr_d (.bl _))⟩
theorem rd_inL {d : PyData} (hx : SeqAt.shaped d = true) (hd : SeqAt.shaped (.list ds) = true) : RD X.K own (rInD X.K) (.d d) (.d (.list ds)) (.d (.bool (ds.any fun z => PyData.eqv z d))) :=
  rd_now fun R H u v w ux uy Q q => ⟨d, ds, dp_up w.rh _ _ (d_slr ux), dp_up w.rh _ _ (d_slr uy), hx, hd, q _ (slr_d (.bl _))⟩
theorem rd_notInL {d : PyData} (hx : SeqAt.shaped d = true) (hd : SeqAt.shaped (.list ds) = true) : RD X.K own (rNotInD X.K) (.d d) (.d (.list ds)) (.d (.bool (!ds.any fun z => PyData.eqv z d))) :=
  rd_now fun R H u v w ux uy Q q => ⟨d, ds, dp_up w.rh _ _ (d_slr ux), dp_up w.rh _ _ (d_slr uy), hx, hd, q _ (slr_d (.bl _))⟩
/-- in an owned list -/
theorem rd_notInO {d : PyData} {i : Nat} (hi : own[i]? = some (p, asL X.K ds)) (hx : SeqAt.shaped d = true) (hd : SeqAt.shaped (.list ds) = true) : RD X.K own (rNotInD X.K) (.d d) (.v (.ref p)) (.d (.bool (!ds.any fun z => PyData.eqv z d))) :=
  rd_now fun R H u v w ux uy Q q => by
    obtain rfl := v_slr uy
    obtain ⟨vs, h1, h2⟩ := stands_of hi R H w
    exact ⟨d, ds, dp_up w.rh _ _ (d_slr ux), .lst (SqL.of h1) (dps_up w.rh _ _ h2), hx, hd, q _ (slr_d (.bl _))⟩
/-- TUPLE.index(x), a module's tuple of texts -/
theorem x_tindex {apos npos : Pos} {t : Str} {ta : Addr} {ys : List Str} {z : Str} (j : Nat) (hm : X.mg t = some (.ref ta)) (ht : ∀ H, SqT X.K H ta (ys.map V.str)) (hd : ∃ o, X.K.lookup ta = some o ∧ o.cls = .type "tuple" ∧ o.dict = none) (he : EX X G own e (.d (.str z))) (hj : ys[j]? = some z) (hno : ∀ m, m < j → ys[m]? ≠ some z)
    (hg : Gl X t := by rfl) (hdb : (t == ("__debug__" : Str)) = false := by decide) (hbase : attributeBase (.Name t npos) "index" X.env (eval (.Name t npos) X.env) = eval (.Name t npos) X.env := by rfl) (hfew : ((backTo pos (starEach [e] X.env)).all (fun x => !x.1) && (backToKw pos (keywordEach [] X.env)).all (fun x => x.1.isSome)
      && decide (([e] : List Expr).length + ([] : List Keyword).length + (if ([] : List Keyword).isEmpty then 0 else 1) < 30)) = true := by rfl)
    (hline : (apos.endLine == pos.line) = true := by rfl) (hs : starEach [e] X.env = (false, eval e X.env) :: starEach [] X.env := by rfl) (hplain : (backTo pos (starEach [] X.env)).any (·.1) = false := by rfl) : EX X G own (.Call (.Attribute (.Name t npos) "index" apos) [e] [] pos) (.d (.int (j : Nat))) :=
  EX.of (pe_bm PySem.F.plainAttrs_tuple PySem.F.slot_tuple_index PySem.F.type_tuple_index mt_tup_index (pe_glob (v := .ref ta) hg hm rfl hdb) pa_w hbase hfew hline hs hplain) fun R H z w hz Q q => by
    refine ⟨.inr (.inl ⟨rfl, hd⟩), (a_cons he a_nil hs : EA X G own [e] [_]) R H z w hz _ fun us R2 H2 g2 e2 => ?_⟩
    match us, e2 with
    | [u], ⟨e2, _⟩ => exact ⟨ta, ys, _, j, rfl, by rw [dp_str (d_slr e2)], ht H2, hj, hno, q _ R2 H2 g2 (slr_d (.int _))⟩
/-! sorted -/
theorem rc_sortL (hal : AllAlike ds) (hso : Sortable ds) (hd : ∀ d ∈ ds, d.depth ≤ 16) : RC X.K own (rSort0 X.K (SqL X.K)) [.d (.list ds)] (.d (.list (ds.mergeSort (dataLe false id)))) := fun R H vs w h Q q => by
  match vs, h with
  | [v], ⟨h1, _⟩ =>
    obtain ⟨a, xs, rfl, h2, h3⟩ := dp_lst (d_slr h1)
    refine ⟨R, a, xs, ds, rfl, sql_up w.rh h2, w.rh, h3, hal, hso, hd, fun p ys hp hy => ?_⟩
    have g := Grow.imm (o := .lst ys) w.rh hp
    exact q _ _ _ g (slr_d (.lst (SqL.of upd_same) (dps_up g.rr _ _ hy)))
/-- an owned list -/
theorem rc_sortO {i : Nat} (hi : own[i]? = some (p, asL X.K ds)) (hal : AllAlike ds) (hso : Sortable ds) (hd : ∀ d ∈ ds, d.depth ≤ 16) : RC X.K own (rSort0 X.K (SqL X.K)) [.v (.ref p)] (.d (.list (ds.mergeSort (dataLe false id)))) := fun R H vs w h Q q => by
  match vs, h with
  | [v], ⟨h1, _⟩ =>
    obtain rfl := v_slr h1
    obtain ⟨us, h2, h3⟩ := stands_of hi R H w
    refine ⟨R, p, us, ds, rfl, SqL.of h2, w.rh, h3, hal, hso, hd, fun p ys hp hy => ?_⟩
    have g := Grow.imm (o := .lst ys) w.rh hp
    exact q _ _ _ g (slr_d (.lst (SqL.of upd_same) (dps_up g.rr _ _ hy)))
theorem tx_keysV {K : PySem.W.Frag} {R : Hp} {kvs : List (Str × Sl)} {vs : List (Key × V)} (h : TxR K R kvs vs) : DpAll K R (vs.map fun q => kV q.1) (kvs.map fun q => .str q.1) := by
  induction h with
  | nil => exact .nil
  | @cons a b _ _ h t ih =>
    rw [List.map_cons, List.map_cons]
    refine .cons ?_ ih
    rw [h.1]
    exact .str _
/-- a dict of texts: its keys -/
theorem rc_sortT {i : Nat} {kvs : List (Str × Sl)} (hi : own[i]? = some (p, asT X.K kvs)) : RC X.K own (rSort0 X.K srcD) [.v (.ref p)] (.d (.list ((kvs.map fun q => PyData.str q.1).mergeSort (dataLe false id)))) := fun R H vs w h Q q => by
  match vs, h with
  | [v], ⟨h1, _⟩ =>
    obtain rfl := v_slr h1
    obtain ⟨_, o, h2, us, rfl, h3⟩ := w.get hi
    refine ⟨R, p, _, kvs.map fun q => .str q.1, rfl, ⟨us, .inl h2, rfl⟩, w.rh, tx_keysV h3, ?_, ?_, ?_, fun p ys hp hy => ?_⟩
    · intro d hd d' hd'
      obtain ⟨a, _, rfl⟩ := List.mem_map.mp hd
      obtain ⟨b, _, rfl⟩ := List.mem_map.mp hd'
      rfl
    · exact Sortable.others (enc := fun q : Str × Sl => PyData.str q.1) fun b => ⟨nofun, nofun⟩
    · intro d hd
      obtain ⟨a, _, rfl⟩ := List.mem_map.mp hd
      exact Nat.zero_le _
    · have g := Grow.imm (o := .lst ys) w.rh hp
      exact q _ _ _ g (slr_d (.lst (SqL.of upd_same) (dps_up g.rr _ _ hy)))
/-- a dict of nested keys -/
theorem rc_sortN {i : Nat} {ks : List (NK × PyData)} (hi : own[i]? = some (p, asN X.prog X.w X.K ks)) (hal : AllAlike (ks.map fun q => q.1.data)) (hso : Sortable (ks.map fun q => q.1.data)) (hd : ∀ d ∈ ks.map (fun q => q.1.data), d.depth ≤ 16) : RC X.K own (rSort0 X.K (srcN X.prog X.w)) [.v (.ref p)] (.d (.list ((ks.map fun q => q.1.data).mergeSort (dataLe false id)))) := fun R H vs w h Q q => by
  match vs, h with
  | [v], ⟨h1, _⟩ =>
    obtain rfl := v_slr h1
    obtain ⟨xs, h2, h3, h4⟩ := w.nd_r hi
    refine ⟨R, p, _, ks.map fun q => q.1.data, rfl, ⟨xs, .inl h2, rfl⟩, w.rh, nx_keysV h3, hal, hso, hd, fun p ys hp hy => ?_⟩
    have g := Grow.imm (o := .lst ys) w.rh hp
    exact q _ _ _ g (slr_d (.lst (SqL.of upd_same) (dps_up g.rr _ _ hy)))
/-- sorted(d, key=f), d a dict of pages; sorted(xs, key=f), xs a list of pages -/
theorem ev_sortK {f : Str} {src : Hp → Addr → List V → Prop} {Pre : List Sl → Sl → Prop} {fpos kpos npos : Pos} {l : List Page} {t : Sl} (hs : CollR X src) (g : GdX X k f 1 (spD X.K Pre)) (hr : Room (k + 2) X.A) (hm : X.mg "sorted" = none) (hp : ∀ q : Page, q ∈ l → Pre [.d q.enc] (.d q.place.data))
    (ho : EX X G own e t) (hsrc : ∀ R H v, Ow own R H → SlR X.K R t (some v) → ∃ a xs, v = .ref a ∧ src H a xs ∧ DpAll X.K R xs (l.map Page.enc))
    (hg : Gl X "sorted" := by rfl) (hgf : Gl X f := by rfl) (hdb : (f == ("__debug__" : Str)) = false := by decide) (hv : bootBuiltins "sorted" = some (.builtin "sorted") := by first | rfl | decide +kernel)
    (he : starEach [e] X.env = (false, eval e X.env) :: starEach [] X.env := by rfl)
    (he2 : backTo pos (starEach [e] X.env) = (false, eval e X.env) :: backTo pos (starEach [] X.env) := by rfl) (hpl : (backTo pos (starEach [e] X.env)).any (·.1) = false := by rfl)
    (hall : (backToKw pos (keywordEach [⟨some "key", .Name f fpos, kpos⟩] X.env)).all (·.1.isSome) = true := by rfl) (hnone : (backToKw pos (keywordEach [⟨some "key", .Name f fpos, kpos⟩] X.env)).any (·.1.isNone) = false := by rfl) (hks : (backToKw pos (keywordEach [⟨some "key", .Name f fpos, kpos⟩] X.env)).filterMap (·.1) = [Str.ofString "key"] := by rfl) :
    EX X G own (.Call (.Name "sorted" npos) [e] [⟨some "key", .Name f fpos, kpos⟩] pos) (.d (.list ((Page.sortP l).map Page.enc))) := by
  obtain ⟨fa, fd, ps, hn, F, hmf, hk, hb⟩ := g.ex
  obtain ⟨x, rfl⟩ : ∃ x, ps = [x] := by
    match ps, hn with
    | [x], _ => exact ⟨x, rfl⟩
  refine EX.of (pe_callBK (call_sortK hs hr F hb) hg hm hv pa_w (pk_cons (pe_glob (v := .ref fa) hgf hmf rfl hdb) pk_nil) (by decide) (by decide) he2 hpl hall hnone hks) fun R H z w hz Q q => (a_cons ho a_nil he : EA X G own [e] [_]) R H z w hz _ fun us R1 H1 g1 e1 => ?_
  match us, e1 with
  | [v], ⟨e1, _⟩ =>
    obtain ⟨a, xs, rfl, h1, h2⟩ := hsrc R1 H1 v (w.grow g1) e1
    refine ⟨R1, a, xs, l.map Page.enc, kdP, rfl, rfl, h1, g1.rh, h2, by rw [kdP_map]; exact Page.cmp_places l, fun d hd => ?_, fun d hd => ?_, fun p ys R' H' g2 hp2 hy => ?_⟩
    · obtain ⟨q, _, rfl⟩ := List.mem_map.mp hd
      rw [kdP_enc]
      exact q.place_depth
    · obtain ⟨q, hq, rfl⟩ := List.mem_map.mp hd
      rw [kdP_enc]
      exact spP_use (oc := []) ⟨rfl, hp q hq⟩ ow_nil
    · rw [sort_enc] at hy
      have g3 := Grow.imm (o := .lst ys) g2.rh hp2
      exact q _ _ _ ((g1.trans g2).trans g3) (slr_d (.lst (SqL.of upd_same) (dps_up g3.rr _ _ hy)))
end
theorem in_strs (z : Str) : ∀ ys : List Str, inV (vOf (.str z)) ((ys.map PyData.str).map vOf) = decide (z ∈ ys)
  | [] => rfl
  | y :: ys => by
    have ih := in_strs z ys
    unfold inV at ih ⊢
    rw [List.map_cons, List.map_cons, List.any_cons, ih]
    show (eqV (V.str y) (V.str z) || _) = _
    by_cases e : y = z
    · subst e; simp [eqV]
    · have e' : ¬ z = y := fun q => e q.symm
      simp [eqV, e, e']
theorem flat_strD (ys : List Str) : (ys.map PyData.str).all flatD = true := by
  rw [List.all_map]
  exact List.all_eq_true.mpr fun _ _ => rfl
/-- x in TUPLE -/
theorem x_inS {X : Cx} {G : List Sl} {own : OL} {a b : Expr} {pos : Pos} {z : Str} {ys : List Str} (ha : EX X G own a (.d (.str z))) (hb : EX X G own b (.d (.tuple (ys.map .str)))) (hm : behindInMarks .In b = false := by rfl) : ET X G own (.Compare a [.In] [b] pos) (decide (z ∈ ys)) :=
  x_t (x_cmpT op_in_seq (rd_in (neg := false) rfl (flat_strD ys)) hm ha hb) (in_strs z ys)
/-! ### the rest of pages.py -/
theorem kinds_v (K : PySem.W.Frag) : tb_KINDS.map (He.Dv.v K) = (["house", "part", "join", "home", "mourn", "ahead", "card", "visit"] : List Str).map V.str := rfl
theorem alone_v (K : PySem.W.Frag) : tb_ALONE.map (He.Dv.v K) = (["house", "home", "mourn"] : List Str).map V.str := rfl
theorem goings_v (K : PySem.W.Frag) : tb_GOINGS.map (He.Dv.v K) = (["card", "visit"] : List Str).map V.str := rfl
theorem strs_dps {K : PySem.W.Frag} {H : Hp} : ∀ (ns : List Str), DpAll K H (ns.map V.str) (ns.map .str)
  | [] => .nil
  | n :: ns => .cons (.str n) (strs_dps ns)
section
variable {P : Program} {w : World} {K : PySem.W.Frag} {mg : Str → Option Value} {base : Heap}
theorem sc_page_kind : FnScope ["page"] ["page"] (defScope s_page_kind) := ⟨rfl, rfl, rfl, by decide +kernel, rfl, by decide +kernel, by decide +kernel⟩
theorem g_page_kind (T : Tx K mg) : Gd P w K mg base 1 "page_kind" 1 (spP K fun oc ss s => ∃ p : Page, ss = [.d p.enc] ∧ s = .d (.str p.kind)) := by
  obtain ⟨fd, F⟩ := T.fun_page_kind
  refine gd_mk F rfl (okR (k := 0) F sc_page_kind (fun _ _ _ ⟨_, e, _⟩ => by rw [e]; rfl) rfl ?_) T.glo_page_kind fun _ _ _ _ _ _ us hl => match us, hl with | [_], _ => rfl
  rintro cd A outer s H0 E hr oc ss r ⟨p, rfl, rfl⟩
  exact x_ixn 0 (x_var 0) x_int
def Page.alone : Page → Bool
  | .house _ _ _ => true
  | .home _ _ _ => true
  | .mourn _ _ _ => true
  | _ => false
theorem kind_alone (p : Page) : decide (p.kind ∈ (["house", "home", "mourn"] : List Str)) = p.alone := by
  cases p <;> rfl
theorem ff {b : Prop} (h : false = true) : b := absurd h Bool.false_ne_true
theorem sc_names_of : FnScope ["page"] ["page"] (defScope s_names_of) := ⟨rfl, rfl, rfl, by decide +kernel, rfl, by decide +kernel, by decide +kernel⟩
theorem g_names_of (T : Tx K mg) : Gd P w K mg base 1 "names_of" 1 (spD K fun ss s => ∃ p : Page, ss = [.d p.enc] ∧ s = .d (.tuple (p.names.map .str))) := by
  obtain ⟨fd, F⟩ := T.fun_names_of
  refine gd_mk F rfl (okD (k := 0) F sc_names_of (fun _ _ ⟨_, e, _⟩ => by rw [e]; rfl) ?_) T.glo_names_of fun _ _ _ _ _ _ us hl => match us, hl with | [_], _ => rfl
  rintro cd A outer s H0 E hr ss r B D ⟨p, rfl, rfl⟩ hF hD
  refine g_if (x_t (x_inS (x_ixn 0 (x_var 0) x_int) (x_globT (T.glo_ALONE) (fun H => T.tab_ALONE H) fun H => strs_dps ["house", "home", "mourn"])) (kind_alone p)) (fun hb => ?_) fun hb => g_end ?_
  · cases p <;> first
      | exact ff hb
      | exact g_ret (x_tup (a_cons (x_ixn 2 (x_var 0) x_int) a_nil)) fun v R H p e => hD.1 _ _ v R H rfl p e
  · cases p <;> first
      | exact ff hb.symm
      | exact g_ret (x_tup (a_cons (x_ixn 2 (x_var 0) x_int) (a_cons (x_ixn 3 (x_var 0) x_int) a_nil))) fun v R H p e => hD.1 _ _ v R H rfl p e
theorem sc_place_of : FnScope ["page"] ["page"] (defScope s_place_of) := ⟨rfl, rfl, rfl, by decide +kernel, rfl, by decide +kernel, by decide +kernel⟩
theorem kind_rank (p : Page) : (["house", "part", "join", "home", "mourn", "ahead", "card", "visit"] : List Str)[p.rank]? = some p.kind ∧ ∀ m, m < p.rank → (["house", "part", "join", "home", "mourn", "ahead", "card", "visit"] : List Str)[m]? ≠ some p.kind := by
  have key : ∀ r : Nat, r < 8 → ∀ m, m < r → (["house", "part", "join", "home", "mourn", "ahead", "card", "visit"] : List Str)[m]? ≠ (["house", "part", "join", "home", "mourn", "ahead", "card", "visit"] : List Str)[r]? := by decide +kernel
  have h1 : (["house", "part", "join", "home", "mourn", "ahead", "card", "visit"] : List Str)[p.rank]? = some p.kind := by cases p <;> rfl
  refine ⟨h1, fun m hm => ?_⟩
  rw [← h1]
  exact key p.rank (by cases p <;> exact Nat.le_of_ble_eq_true rfl) m hm
theorem g_place_of (T : Tx K mg) : Gd P w K mg base 1 "place_of" 1 (spD K fun ss s => ∃ p : Page, ss = [.d p.enc] ∧ s = .d p.place.data) := by
  obtain ⟨fd, F⟩ := T.fun_place_of
  refine gd_mk F rfl (okD (k := 0) F sc_place_of (fun _ _ ⟨_, e, _⟩ => by rw [e]; rfl) ?_) T.glo_place_of fun _ _ _ _ _ _ us hl => match us, hl with | [_], _ => rfl
  rintro cd A outer s H0 E hr ss r B D ⟨p, rfl, rfl⟩ hF hD
  refine g_ret (s := .d p.place.data) (x_is (x_tup (ds := [.int p.day, .int (p.rank : Nat), .tuple p.rest]) (a_cons (x_ixn 1 (x_var 0) x_int) (a_cons (x_tindex (ys := ["house", "part", "join", "home", "mourn", "ahead", "card", "visit"]) p.rank T.glo_KINDS (fun H => T.tab_KINDS H) T.tad_KINDS (x_ixn 0 (x_var 0) x_int) (kind_rank p).1 (kind_rank p).2) (a_cons (x_slT (l := some 2) (h := none) (x_var 0) (o_some x_int) o_none ?_) a_nil)))) ?_) fun v R H p e => hD.1 _ _ v R H rfl p e
  · cases p <;> rfl
  · rw [p.place_data]
end
end CB

/-! Part 15: in_order, books.py. -/
namespace CB
open PySem PySem.Spec PyProof.Rows L2
open PySem.W (dataLe keyToks keyToksAll alike alikeAll AllAlike Sortable)
/-- the pages of l, each once, as they first come -/
def dedup : List Page → List Page → List Page
  | seen, [] => seen
  | seen, p :: l => dedup (if p ∈ seen then seen else seen ++ [p]) l
def inOrder (l : List Page) : List Page := Page.sortP (dedup [] l)
theorem dedup_len : ∀ (l s : List Page), (dedup s l).length ≤ s.length + l.length
  | [], s => Nat.le_refl _
  | p :: l, s => by
    rw [dedup, List.length_cons]
    by_cases h : p ∈ s
    · rw [if_pos h]
      have := dedup_len l s
      omega
    · rw [if_neg h]
      have := dedup_len l (s ++ [p])
      rw [List.length_append, List.length_singleton] at this
      omega
theorem dedup_mem (q : Page) : ∀ (l s : List Page), q ∈ dedup s l ↔ q ∈ s ∨ q ∈ l
  | [], s => by simp [dedup]
  | p :: l, s => by
    rw [dedup, dedup_mem q l, List.mem_cons]
    by_cases h : p ∈ s
    · rw [if_pos h]
      constructor
      · rintro (z | z)
        · exact .inl z
        · exact .inr (.inr z)
      · rintro (z | z | z)
        · exact .inl z
        · rw [z]; exact .inl h
        · exact .inr z
    · rw [if_neg h, List.mem_append, List.mem_singleton, or_assoc]
theorem dedup_nd : ∀ (l s : List Page), s.Nodup → (dedup s l).Nodup
  | [], s, h => h
  | p :: l, s, h => by
    rw [dedup]
    refine dedup_nd l _ ?_
    by_cases c : p ∈ s
    · rw [if_pos c]; exact h
    · rw [if_neg c]
      exact List.nodup_append.mpr ⟨h, by simp, fun a ha b hb e => c (by
        have : b = p := by simpa using hb
        rw [← this, ← e]
        exact ha)⟩
theorem dedup_take {l : List Page} {i : Nat} {p : Page} (h : l[i]? = some p) (s : List Page) : dedup s (l.take (i + 1)) = (if p ∈ dedup s (l.take i) then dedup s (l.take i) else dedup s (l.take i) ++ [p]) := by
  induction l generalizing i s with
  | nil => simp at h
  | cons q l ih =>
    cases i with
    | zero =>
      simp at h
      subst h
      simp [dedup]
    | succ i =>
      rw [List.take_succ_cons, List.take_succ_cons, dedup, dedup]
      exact ih (by simpa using h) _
/-- a table of pages, each with True -/
def trues (l : List Page) : List (NK × PyData) := l.map fun p => (p.nk, PyData.bool true)
theorem trues_any (p : Page) (l : List Page) : ((trues l).any fun q => decide (q.1 = p.nk)) = decide (p ∈ l) := by
  unfold trues
  rw [List.any_map]
  induction l with
  | nil => rfl
  | cons q l ih =>
    rw [List.any_cons, ih]
    by_cases e : q = p
    · subst e; simp
    · have e' : ¬ q.nk = p.nk := fun z => e (Page.nk_inj _ _ z)
      have e2 : ¬ p = q := fun z => e z.symm
      simp [e', e2]
theorem trues_put (p : Page) (l : List Page) : aPut (trues l) p.nk (.bool true) = trues (if p ∈ l then l else l ++ [p]) := by
  unfold aPut
  rw [trues_any]
  by_cases h : p ∈ l
  · rw [if_pos (decide_eq_true h), if_pos h]
    unfold trues
    rw [List.map_map]
    apply List.map_congr_left
    intro q _
    show (if q.nk = p.nk then _ else _) = _
    split <;> rfl
  · rw [if_neg (by simpa using h), if_neg h]
    unfold trues
    rw [List.map_append]
    rfl
theorem trues_len (l : List Page) : (trues l).length = l.length := List.length_map _
theorem trues_get (p : Page) (l : List Page) : (aGet (trues l) p.nk).isSome = decide (p ∈ l) := by rw [← aGet_any, trues_any]
theorem trues_keys (l : List Page) : (trues l).map (fun q => q.1.data) = l.map Page.enc := by
  unfold trues
  rw [List.map_map]
  exact List.map_congr_left fun p _ => p.nk_data
theorem enc_get {l : List Page} {i : Nat} {x : PyData} (h : (l.map Page.enc)[i]? = some x) : ∃ p, l[i]? = some p ∧ x = p.enc := by
  rw [List.getElem?_map] at h
  cases q : l[i]? with
  | none => rw [q] at h; cases h
  | some p =>
    rw [q] at h
    cases h
    exact ⟨p, rfl, rfl⟩
section
variable {P : Program} {w : World} {K : PySem.W.Frag} {mg : Str → Option Value} {base : Heap}
theorem sc_in_order : FnScope ["some", "unlike", "page"] ["some"] (defScope s_in_order) := ⟨rfl, rfl, rfl, by decide +kernel, rfl, by decide +kernel, by decide +kernel⟩
theorem g_in_order (T : Tx K mg) : Gd P w K mg base 4 "in_order" 1 (spD K fun ss s => ∃ l : List Page, (ss = [.d (.tuple (l.map Page.enc))] ∨ ss = [.d (.list (l.map Page.enc))]) ∧ l.length ≤ 1000 ∧ s = .d (.tuple ((inOrder l).map Page.enc))) := by
  obtain ⟨fd, F⟩ := T.fun_in_order
  refine gd_mk F rfl (okD (k := 3) F sc_in_order (fun _ _ ⟨_, e, _⟩ => by rcases e with e | e <;> rw [e] <;> rfl) ?_) T.glo_in_order fun _ _ _ _ _ _ us hl => match us, hl with | [_], _ => rfl
  rintro cd A outer s H0 E hr ss r B D ⟨l, hs, hlen, rfl⟩ hF hD
  have hu := hr.units
  rcases hs with rfl | rfl
  all_goals
    refine g_setM sc_in_order.nd 1 m_nnew ?_
    rintro o t ⟨p, rfl, rfl⟩
    refine g_for (g := gName 2) (src_m (by first | exact src_tup (x_var 0) | exact src_list (x_var 0))) (pg_name (i := 2) sc_in_order.nd rfl (.inl rfl)) ?_
    rintro o xs V ⟨rfl, rfl, rfl⟩
    refine ⟨fun i G1 o1 => G1 = [_, .v (.ref p), .u] ∧ o1 = [(p, asN P w K (trues (dedup [] (l.take i))))], ⟨rfl, rfl⟩, fun _ _ _ _ _ _ _ => trivial, ?_, ?_⟩
    · rintro i x G1 o1 B1 D1 hx ⟨rfl, rfl⟩ hB hF1 hD1 _
      obtain ⟨q, hq, rfl⟩ := enc_get hx
      have hl : (trues (dedup [] (l.take i))).length < 1000000 := by
        rw [trues_len]
        have h1 := dedup_len (l.take i) []
        rw [List.length_nil, List.length_take] at h1
        omega
      refine ⟨_, gd_name, g_nput (p := p) (k := q.nk) (ks := trues (dedup [] (l.take i))) (d := .bool true) 0 hu (x_var 1) (x_is (x_var 2) (by rw [q.nk_data])) q.nk_t x_bl hl ?_⟩
      rw [trues_put, ← dedup_take hq]
      exact at_le hD1 ⟨rfl, rfl⟩ ⟨.inr rfl, .inr rfl, .inl rfl, trivial⟩
    · rintro G1 o1 ⟨rfl, rfl⟩
      rw [List.length_map, List.take_length]
      refine g_ret (x_ct call_tuple_of T.free_tuple rc_tupL (a_cons (ev_sortK (l := dedup [] l) (coll_nd rfl) (g_place_of T) (hr.mono (by decide)) T.free_sorted (fun q _ => ⟨q, rfl, rfl⟩) (x_var 1) (fun R H v w e => ?_)) a_nil)) fun v R H p e => hD.1 _ _ v R H rfl p e
      obtain rfl := v_slr e
      obtain ⟨xs, h1, h2, h3⟩ := w.nd_r (i := 0) (p := p) (kvs := trues (dedup [] l)) rfl
      exact ⟨p, _, rfl, ⟨xs, .inl h1, rfl⟩, by rw [← trues_keys]; exact nx_keysV h2⟩
theorem sc_with_page : FnScope ["book", "page"] ["book", "page"] (defScope s_with_page) := ⟨rfl, rfl, rfl, by decide +kernel, rfl, by decide +kernel, by decide +kernel⟩
theorem g_with_page (T : Tx K mg) : Gd P w K mg base 5 "with_page" 2 (spD K fun ss s => ∃ (l : List Page) (p : Page), ss = [.d (.tuple (l.map Page.enc)), .d p.enc] ∧ l.length ≤ 900 ∧ s = .d (.tuple ((inOrder (l ++ [p])).map Page.enc))) := by
  obtain ⟨fd, F⟩ := T.fun_with_page
  refine gd_mk F rfl (okD (k := 4) F sc_with_page (fun _ _ ⟨_, _, e, _⟩ => by rw [e]; rfl) ?_) T.glo_with_page fun _ _ _ _ _ _ us hl => match us, hl with | [_, _], _ => rfl
  rintro cd A outer s H0 E hr ss r B D ⟨l, p, rfl, hlen, rfl⟩ hF hD
  refine g_ret (x_call (oc := []) (g_in_order T) hr ⟨rfl, l ++ [p], .inl rfl, by rw [List.length_append, List.length_singleton]; omega, rfl⟩ (a_cons (x_is (x_op op_catA (rd_cat (own := []) (ds := l.map Page.enc) (es := [p.enc]) ?_) (x_var 0) (x_tup (ds := [p.enc]) (a_cons (x_var 1) a_nil))) (by rw [List.map_append]; rfl)) a_nil)) fun v R H p e => hD.1 _ _ v R H rfl p e
  rw [List.length_map]
  exact Nat.le_trans (Nat.add_le_add_right hlen 1) (by decide)
theorem sc_up_to : FnScope ["book", "day", "page"] ["book", "day"] (defScope s_up_to) := ⟨rfl, rfl, rfl, by decide +kernel, rfl, by decide +kernel, by decide +kernel⟩
def upTo (l : List Page) (day : Int) : List Page := l.filter fun p => decide (p.day ≤ day)
theorem g_up_to (T : Tx K mg) : Gd P w K mg base 2 "up_to" 2 (spD K fun ss s => ∃ (l : List Page) (day : Int), ss = [.d (.tuple (l.map Page.enc)), .d (.int day)] ∧ l.length ≤ 1000 ∧ s = .d (.tuple ((upTo l day).map Page.enc))) := by
  obtain ⟨fd, F⟩ := T.fun_up_to
  refine gd_mk F rfl (okD (k := 1) F sc_up_to (fun _ _ ⟨_, _, e, _⟩ => by rw [e]; rfl) ?_) T.glo_up_to fun _ _ _ _ _ _ us hl => match us, hl with | [_, _], _ => rfl
  rintro cd A outer s H0 E hr ss r B D ⟨l, day, rfl, hlen, rfl⟩ hF hD
  refine g_ret (x_ct call_tuple_of T.free_tuple rc_tupL (a_cons (x_lcIf (l := l) (enc := Page.enc) (g := gName 2) sc_up_to.nd [("page", 2)] (fun p => decide (p.day ≤ day)) Page.enc (src_tup (x_var 0)) (fun _ _ _ => trivial) (by omega) (blkOk_by (N := ["book", "day", "page"]) (sc := defScope s_up_to) (by decide +kernel)) (fun _ _ _ _ _ => pg_name (i := 2) sc_up_to.nd rfl (.inl rfl)) (gw_name (by decide))
    fun p _ => ⟨_, gd_name, fun _ _ _ _ _ => x_cmpT op_le rd_Ib rfl (x_call (oc := []) (g_page_day T) hr ⟨p, rfl, rfl⟩ (a_cons (x_var 2) a_nil)) (x_var 1), fun _ _ _ _ _ _ => x_var 2⟩) a_nil)) fun v R H p e => hD.1 _ _ v R H rfl p e
theorem sc_without_page : FnScope ["book", "page", "one"] ["book", "page"] (defScope s_without_page) := ⟨rfl, rfl, rfl, by decide +kernel, rfl, by decide +kernel, by decide +kernel⟩
def without (l : List Page) (p : Page) : List Page := l.filter fun q => !decide (q = p)
theorem g_without_page (T : Tx K mg) : Gd P w K mg base 1 "without_page" 2 (spD K fun ss s => ∃ (l : List Page) (p : Page), ss = [.d (.tuple (l.map Page.enc)), .d p.enc] ∧ p ∈ l ∧ (∀ q ∈ l, q.ok) ∧ l.length ≤ 1000 ∧ s = .d (.tuple ((without l p).map Page.enc))) := by
  obtain ⟨fd, F⟩ := T.fun_without_page
  refine gd_mk F rfl (okD (k := 0) F sc_without_page (fun _ _ ⟨_, _, e, _⟩ => by rw [e]; rfl) ?_) T.glo_without_page fun _ _ _ _ _ _ us hl => match us, hl with | [_, _], _ => rfl
  rintro cd A outer s H0 E hr ss r B D ⟨l, p, rfl, hm, hok, hlen, rfl⟩ hF hD
  have hu := hr.un
  refine g_if (k := false) (x_t (x_cmpT (op_notInT (by show (A.deeper _).units + 65 < cLine; omega)) (rd_inT (neg := true) (Page.shaped_enc (hok p hm)) (Page.shaped_tup hok)) rfl (x_var 1) (x_var 0)) ?_) (fun h => ff h) fun _ => g_end ?_
  · rw [if_pos rfl, Page.any_enc, decide_eq_true hm]; rfl
  refine g_ret (x_ct call_tuple_of T.free_tuple rc_tupL (a_cons (x_lcIf (l := l) (enc := Page.enc) (g := gName 2) sc_without_page.nd [("one", 2)] (fun q => !decide (q = p)) Page.enc (src_tup (x_var 0)) (fun _ _ _ => trivial) (by omega) (blkOk_by (N := ["book", "page", "one"]) (sc := defScope s_without_page) (by decide +kernel)) (fun _ _ _ _ _ => pg_name (i := 2) sc_without_page.nd rfl (.inl rfl)) (gw_name (by decide))
    fun q hq => ⟨_, gd_name, fun _ _ _ _ _ => x_t (x_cmpT (op_neD hr.units) (rd_neD (Page.shaped_enc (hok q hq)) (Page.shaped_enc (hok p hm))) rfl (x_var 2) (x_var 1)) (by rw [Page.eqv_enc]), fun _ _ _ _ _ _ => x_var 2⟩) a_nil)) fun v R H p e => hD.1 _ _ v R H rfl p e
end
end CB

/-! Part 16: standing.py. -/
namespace CB
open PySem PySem.Spec PyProof.Rows L2
open PySem.W (dataLe keyToks keyToksAll alike alikeAll AllAlike Sortable)
/-! ### the mirror -/
structure Hs where
  homes : List (Str × List Int)
  parents : List (Str × Option Str)
  idle : List Page
namespace Hs
def empty : Hs := ⟨[], [], []⟩
def can (s : Hs) : Page → Bool
  | .house _ n _ => !(aGet s.parents n).isSome
  | .part _ a b _ => (aGet s.homes a).isSome && !(aGet s.parents b).isSome
  | p => p.names.all fun n => (aGet s.homes n).isSome
def come (s : Hs) (n : Str) (o : Option Str) (h : List Int) : Hs := ⟨aPut s.homes n h, aPut s.parents n o, s.idle⟩
def act (s : Hs) : Page → Hs
  | .house _ n h => s.come n none h
  | .part _ a b h => s.come b (some a) h
  | .join _ _ b => { s with homes := aDrop s.homes b }
  | .home _ n h => { s with homes := aPut s.homes n h }
  | _ => s
def meet (s : Hs) (p : Page) : Hs := if s.can p then s.act p else { s with idle := s.idle ++ [p] }
def run (l : List Page) : Hs := l.foldl meet empty
end Hs
/-! ### where it stands -/
structure HA where
  h : Addr
  homes : Addr
  parents : Addr
  joined : Addr
  mourned : Addr
  idle : Addr
abbrev Ml := List (Str × Addr × List PyData)
def optD : Option Str → PyData
  | none => .none
  | some n => .str n
abbrev hC (K : PySem.W.Frag) : Addr := He.ga K "Houses"
def homesT (l : List (Str × List Int)) : List (Str × Sl) := aMap id (fun h => Sl.d (intsD h)) l
def parentsT (l : List (Str × Option Str)) : List (Str × Sl) := aMap id (fun o => Sl.d (optD o)) l
def mlT (l : Ml) : List (Str × Sl) := aMap id (fun q : Addr × List PyData => Sl.v (.ref q.1)) l
def mlO (K : PySem.W.Frag) (l : Ml) : OL := l.map fun q => (q.2.1, asL K q.2.2)
def hF (a : HA) : List (Str × Sl) := [("homes", .v (.ref a.homes)), ("parents", .v (.ref a.parents)), ("joined", .v (.ref a.joined)), ("mourned", .v (.ref a.mourned)), ("idle_pages", .v (.ref a.idle))]
def hOwn (K : PySem.W.Frag) (a : HA) (s : Hs) (jd : List (Str × Sl)) (ml : Ml) : OL :=
  (a.h, asI K (hC K) (hF a)) :: (a.homes, asT K (homesT s.homes)) :: (a.parents, asT K (parentsT s.parents)) :: (a.joined, asT K jd) :: (a.mourned, asT K (mlT ml)) :: (a.idle, asL K (s.idle.map Page.enc)) :: mlO K ml
structure HI (n : Nat) (s : Hs) (jd : List (Str × Sl)) (ml : Ml) : Prop where
  sub : ∀ x, (aGet s.homes x).isSome = true → (aGet s.parents x).isSome = true
  keys : ml.map (·.1) = s.parents.map (·.1)
  l1 : s.homes.length ≤ n
  l2 : s.parents.length ≤ n
  l3 : jd.length ≤ n
  l4 : ∀ q ∈ ml, q.2.2.length ≤ n
  l5 : s.idle.length ≤ n
theorem aMap_id_get {β γ : Type} (f : β → γ) (l : List (Str × β)) (k : Str) : aGet (aMap id f l) k = (aGet l k).map f := aMap_get (fun _ _ h => h) k l
theorem aMap_id_put {β γ : Type} (f : β → γ) (l : List (Str × β)) (k : Str) (v : β) : aPut (aMap id f l) k (f v) = aMap id f (aPut l k v) := aMap_put (fun _ _ h => h) k v l
theorem aMap_id_drop {β γ : Type} (f : β → γ) (l : List (Str × β)) (k : Str) : aDrop (aMap id f l) k = aMap id f (aDrop l k) := aMap_drop (fun _ _ h => h) k l
theorem get_isSome_mem {β : Type} {l : List (Str × β)} {k : Str} : (aGet l k).isSome = true ↔ k ∈ l.map (·.1) := aGet_mem.symm
section
variable {P : Program} {w : World} {K : PySem.W.Frag} {mg : Str → Option Value} {base : Heap}
theorem sc_H_init : FnScope ["self"] ["self"] (defScope s_Houses_init) := ⟨rfl, rfl, rfl, by decide +kernel, rfl, by decide +kernel, by decide +kernel⟩
theorem g_H_init (T : Tx K mg) : GdC P w K mg base 1 "Houses" (hC K) (spM K fun oc ss C => ∃ p, oc = [(p, asI K (hC K) [])] ∧ ss = [.v (.ref p)] ∧ C = fun o t => ∃ a : HA, a.h = p ∧ o.Perm (hOwn K a Hs.empty [] []) ∧ t = .d .none) := by
  obtain ⟨fd, F⟩ := T.fun_Houses_init
  refine gdC_mk F (okM (k := 0) F sc_H_init (fun _ _ _ ⟨_, _, e, _⟩ => by rw [e]; rfl) ?_) T.mkr_Houses T.glo_Houses fun _ _ _ _ _ _ us hl => match us, hl with | [_], _ => rfl
  rintro cd A outer s H0 E hr oc ss C B D ⟨p, rfl, rfl, rfl⟩ hF hD
  refine g_fldM (fun ow => x_var 0) m_tnew T.cls_Houses T.na_Houses_homes ?_
  rintro o t ⟨p1, rfl, rfl⟩
  refine ⟨1, _, rfl, Nat.le_of_ble_eq_true rfl, ?_⟩
  refine g_fldM (fun ow => x_var 0) m_tnew T.cls_Houses T.na_Houses_parents ?_
  rintro o t ⟨p2, rfl, rfl⟩
  refine ⟨2, _, rfl, Nat.le_of_ble_eq_true rfl, ?_⟩
  refine g_fldM (fun ow => x_var 0) m_tnew T.cls_Houses T.na_Houses_joined ?_
  rintro o t ⟨p3, rfl, rfl⟩
  refine ⟨3, _, rfl, Nat.le_of_ble_eq_true rfl, ?_⟩
  refine g_fldM (fun ow => x_var 0) m_tnew T.cls_Houses T.na_Houses_mourned ?_
  rintro o t ⟨p4, rfl, rfl⟩
  refine ⟨4, _, rfl, Nat.le_of_ble_eq_true rfl, ?_⟩
  refine g_fldM (fun ow => x_var 0) m_lnew T.cls_Houses T.na_Houses_idle_pages ?_
  rintro o t ⟨p5, rfl, rfl⟩
  refine ⟨5, _, rfl, Nat.le_of_ble_eq_true rfl, ?_⟩
  refine g_nil fun R H z q hz => hD.2 _ z R H ⟨⟨p, p1, p2, p3, p4, p5⟩, rfl, ?_, rfl⟩ q
  exact (List.reverse_perm _).symm
/-! which kind -/
end
def Page.isR (r : Nat) (p : Page) : Bool := p.rank == r
theorem isR_house (p : Page) : decide (p.kind = ("house" : Str)) = p.isR 0 := by cases p <;> rfl
theorem isR_part (p : Page) : decide (p.kind = ("part" : Str)) = p.isR 1 := by cases p <;> rfl
theorem isR_join (p : Page) : decide (p.kind = ("join" : Str)) = p.isR 2 := by cases p <;> rfl
theorem isR_home (p : Page) : decide (p.kind = ("home" : Str)) = p.isR 3 := by cases p <;> rfl
theorem isR_mourn (p : Page) : decide (p.kind = ("mourn" : Str)) = p.isR 4 := by cases p <;> rfl
theorem x_one {X : Cx} {G : List Sl} {own : OL} {a : Expr} {op : BoolOp} {pos : Pos} {s : Sl} (h : EX X G own a s) : EX X G own (.BoolOp op [a] pos) s := EX.of (pe_one pe_w) h
/-- a test of the kind -/
theorem x_kind {X : Cx} {G : List Sl} {own : OL} {p : Page} {z : Str} {a b : Expr} {pos : Pos} {k : Bool} (h : decide (p.kind = z) = k) (ha : EX X G own a (.d (.str p.kind))) (hb : EX X G own b (.d (.str z))) (hm : behindInMarks .Eq b = false := by rfl) : ET X G own (.Compare a [.Eq] [b] pos) k := x_t (x_cmpT op_eq rd_eqS hm ha hb) h
section
variable {P : Program} {w : World} {K : PySem.W.Frag} {mg : Str → Option Value} {base : Heap}
theorem sc_H_can : FnScope ["self", "page", "name"] ["self", "page"] (defScope s_Houses_can) := ⟨rfl, rfl, rfl, by decide +kernel, rfl, by decide +kernel, by decide +kernel⟩
theorem homes_get {l : List (Str × List Int)} {n : Str} : (aGet (homesT l) n).isSome = (aGet l n).isSome := by
  unfold homesT
  rw [aMap_id_get]
  cases aGet l n <;> rfl
theorem parents_get {l : List (Str × Option Str)} {n : Str} : (aGet (parentsT l) n).isSome = (aGet l n).isSome := by
  unfold parentsT
  rw [aMap_id_get]
  cases aGet l n <;> rfl
theorem g_H_can (T : Tx K mg) : GdM P w K mg base 2 (hC K) "can" (spM K fun oc ss C => ∃ a st jd ml, ∃ p : Page, oc = hOwn K a st jd ml ∧ ss = [.v (.ref a.h), .d p.enc] ∧ C = Is oc (.d (.bool (st.can p)))) := by
  obtain ⟨fd, F⟩ := T.fun_Houses_can
  refine gdM_mk F (okM (k := 1) F sc_H_can (fun _ _ _ ⟨_, _, _, _, _, _, e, _⟩ => by rw [e]; rfl) ?_) T.me_Houses_can fun _ _ _ _ _ _ us hl => match us, hl with | [_, _], _ => rfl
  rintro cd A outer s H0 E hr oc ss C B D ⟨a, st, jd, ml, p, rfl, rfl, rfl⟩ hF hD
  have hu : (A.deeper (envOfC "Houses.can" (defScope s_Houses_can) s.heap.objs.size (He.fAd K ("Houses", some "can")) cd)).units + 1 < cLine := by have := hr.units; omega
  refine g_if (x_kind (isR_house p) (x_ixn 0 (x_var 1) x_int) x_str) (fun hb => ?_) fun hb => g_end ?_
  · cases p <;> first
      | exact ff hb
      | exact g_ret (x_is (x_tnin 2 hu (x_ixn 2 (x_var 1) x_int) (x_fld 0 (x_var 0) T.cls_Houses T.na_Houses_parents)) (by rw [parents_get]; rfl)) fun v R H q e => hD.1 _ _ v R H ⟨rfl, rfl⟩ q e
  refine g_if (x_kind (isR_part p) (x_ixn 0 (x_var 1) x_int) x_str) (fun hb2 => ?_) fun hb2 => g_end ?_
  · cases p <;> first
      | exact ff hb2
      | exact g_ret (x_is (x_andV (x_tin 1 hu (x_ixn 2 (x_var 1) x_int) (x_fld 0 (x_var 0) T.cls_Houses T.na_Houses_homes)) fun _ => x_one (x_tnin 2 hu (x_ixn 3 (x_var 1) x_int) (x_fld 0 (x_var 0) T.cls_Houses T.na_Houses_parents))) (by rw [parents_get, homes_get]; rfl)) fun v R H q e => hD.1 _ _ v R H ⟨rfl, rfl⟩ q e
  have e1 : (p.names.map fun n => (aGet (homesT st.homes) n).isSome).all id = st.can p := by
    rw [List.all_map]
    have e2 : (id ∘ fun n => (aGet (homesT st.homes) n).isSome) = fun n => (aGet st.homes n).isSome := funext fun n => homes_get
    rw [e2]
    cases p <;> first | exact ff hb.symm | exact ff hb2.symm | rfl
  refine g_ret (x_is (x_cb (cr_all rfl) T.free_all (rc_all (bs := p.names.map fun n => (aGet (homesT st.homes) n).isSome)) (a_cons (x_is (x_lc (l := p.names) (enc := PyData.str) (g := gName 2) sc_H_can.nd [("name", 2)] (fun n => .bool (aGet (homesT st.homes) n).isSome) (src_tup (x_call (oc := []) (g_names_of T) (hr.mono (by decide)) ⟨rfl, p, rfl, rfl⟩ (a_cons (x_var 1) a_nil))) (fun _ _ _ => trivial) ?_ (blkOk_by (N := ["self", "page", "name"]) (sc := defScope s_Houses_can) (by decide +kernel)) (fun _ _ _ _ _ => pg_name (i := 2) sc_H_can.nd rfl (.inl rfl)) (gw_name (by decide))
    fun n _ => ⟨_, gd_name, fun _ _ _ _ _ => x_tin 1 hu (x_var 2) (x_fld 0 (x_var 0) T.cls_Houses T.na_Houses_homes)⟩) (by rw [List.map_map]; rfl)) a_nil)) (by rw [e1])) fun v R H q e => hD.1 _ _ v R H ⟨rfl, rfl⟩ q e
  cases p <;> exact Nat.le_of_ble_eq_true rfl
/-! come, do, meet -/
theorem homesT_put (l : List (Str × List Int)) (n : Str) (h : List Int) : aPut (homesT l) n (.d (intsD h)) = homesT (aPut l n h) := aMap_id_put _ l n h
theorem parentsT_put (l : List (Str × Option Str)) (n : Str) (o : Option Str) : aPut (parentsT l) n (.d (optD o)) = parentsT (aPut l n o) := aMap_id_put _ l n o
theorem homesT_drop (l : List (Str × List Int)) (n : Str) : aDrop (homesT l) n = homesT (aDrop l n) := aMap_id_drop _ l n
theorem mlT_get (l : Ml) (n : Str) : aGet (mlT l) n = (aGet l n).map fun q => Sl.v (.ref q.1) := aMap_id_get _ l n
theorem mlT_len (l : Ml) : (mlT l).length = l.length := aMap_len l
theorem homesT_len (l : List (Str × List Int)) : (homesT l).length = l.length := aMap_len l
theorem parentsT_len (l : List (Str × Option Str)) : (parentsT l).length = l.length := aMap_len l
theorem ml_len {n : Nat} {st : Hs} {jd : List (Str × Sl)} {ml : Ml} (h : HI n st jd ml) : ml.length ≤ n := by
  have := congrArg List.length h.keys
  rw [List.length_map, List.length_map] at this
  rw [this]
  exact h.l2
theorem ml_none {n : Nat} {st : Hs} {jd : List (Str × Sl)} {ml : Ml} (h : HI n st jd ml) {x : Str} (hx : aGet st.parents x = none) : aGet ml x = none := by
  cases q : aGet ml x with
  | none => rfl
  | some y =>
    have h1 : x ∈ ml.map (·.1) := aGet_mem.mpr (by rw [q]; rfl)
    rw [h.keys] at h1
    have := aGet_mem.mp h1
    rw [hx] at this
    cases this
theorem come_inv {n : Nat} {st : Hs} {jd : List (Str × Sl)} {ml : Ml} (h : HI n st jd ml) (x : Str) (o : Option Str) (hm : List Int) (p : Addr) (hx : aGet st.parents x = none) : HI (n + 1) (st.come x o hm) jd (ml ++ [(x, p, [])]) := by
  refine ⟨fun y hy => ?_, ?_, ?_, ?_, Nat.le_succ_of_le h.l3, fun q hq => ?_, Nat.le_succ_of_le h.l5⟩
  · show (aGet (aPut st.parents x o) y).isSome = true
    rw [aGet_put]
    by_cases e : y = x
    · rw [if_pos e]; rfl
    · rw [if_neg e]
      refine h.sub y ?_
      have hy' : (aGet (aPut st.homes x hm) y).isSome = true := hy
      rwa [aGet_put, if_neg e] at hy'
  · show List.map (fun q : Str × Addr × List PyData => q.1) (ml ++ [(x, p, [])]) = (aPut st.parents x o).map (·.1)
    rw [aPut_new _ hx, List.map_append, List.map_append, h.keys]
    rfl
  · exact Nat.le_trans (aPut_len _ _ _) (Nat.succ_le_succ h.l1)
  · exact Nat.le_trans (aPut_len _ _ _) (Nat.succ_le_succ h.l2)
  · rcases List.mem_append.mp hq with hq | hq
    · exact Nat.le_succ_of_le (h.l4 q hq)
    · have : q = (x, p, []) := by simpa using hq
      rw [this]
      exact Nat.zero_le _
theorem mlO_snoc (K : PySem.W.Frag) (ml : Ml) (x : Str) (p : Addr) (ds : List PyData) : mlO K (ml ++ [(x, p, ds)]) = mlO K ml ++ [(p, asL K ds)] := List.map_append
theorem mlT_snoc (ml : Ml) (x : Str) (p : Addr) (ds : List PyData) (hx : aGet ml x = none) : aPut (mlT ml) x (.v (.ref p)) = mlT (ml ++ [(x, p, ds)]) := by
  rw [aPut_new _ (by rw [mlT_get, hx]; rfl)]
  unfold mlT aMap
  rw [List.map_append]
  rfl
theorem sc_H_come : FnScope ["self", "name", "parent", "home"] ["self", "name", "parent", "home"] (defScope s_Houses_come) := ⟨rfl, rfl, rfl, by decide +kernel, rfl, by decide +kernel, by decide +kernel⟩
theorem g_H_come (T : Tx K mg) : GdM P w K mg base 1 (hC K) "come" (spM K fun oc ss C => ∃ a st jd ml n x o hm, HI n st jd ml ∧ n < 1000 ∧ aGet st.parents x = none ∧ oc = hOwn K a st jd ml ∧ ss = [.v (.ref a.h), .d (.str x), .d (optD o), .d (intsD hm)] ∧ C = fun o1 t => ∃ p, o1 = hOwn K a (st.come x o hm) jd (ml ++ [(x, p, [])]) ∧ t = .d .none) := by
  obtain ⟨fd, F⟩ := T.fun_Houses_come
  refine gdM_mk F (okM (k := 0) F sc_H_come (fun _ _ _ ⟨_, _, _, _, _, _, _, _, _, _, _, _, e, _⟩ => by rw [e]; rfl) ?_) T.me_Houses_come fun _ _ _ _ _ _ us hl => match us, hl with | [_, _, _, _], _ => rfl
  rintro cd A outer s H0 E hr oc ss C B D ⟨a, st, jd, ml, n, x, o, hm, hi, hn, hx, rfl, rfl, rfl⟩ hF hD
  have hu : (A.deeper (envOfC "Houses.come" (defScope s_Houses_come) s.heap.objs.size (He.fAd K ("Houses", some "come")) cd)).units + 1 < cLine := by have := hr.units; omega
  refine g_tput (s := .d (optD o)) (p := a.parents) (n := x) (kvs := parentsT st.parents) 2 hu (x_fld 0 (x_var 0) T.cls_Houses T.na_Houses_parents) (x_var 1) (x_var 2 (hs := nofun)) (by rw [parentsT_len]; have := hi.l2; omega) ?_
  rw [parentsT_put]
  refine g_tput (s := .d (intsD hm)) (p := a.homes) (n := x) (kvs := homesT st.homes) 1 hu (x_fld 0 (x_var 0) T.cls_Houses T.na_Houses_homes) (x_var 1) (x_var 3) (by rw [homesT_len]; have := hi.l1; omega) ?_
  rw [homesT_put]
  refine g_tputM (p := a.mourned) (n := x) hu m_lnew ?_
  rintro o1 t ⟨p, rfl, rfl⟩
  refine ⟨x_fld 1 (x_var 0) T.cls_Houses T.na_Houses_mourned, x_var 1, 5, mlT ml, rfl, by rw [mlT_len]; have := ml_len hi; omega, ?_⟩
  rw [mlT_snoc ml x p [] (ml_none hi hx)]
  refine g_perm (own' := hOwn K a (st.come x o hm) jd (ml ++ [(x, p, [])])) ?_ (g_nil fun R H z q hz => hD.2 _ z R H ⟨p, rfl, rfl⟩ q)
  unfold hOwn
  rw [mlO_snoc]
  exact (List.perm_append_singleton (p, asL K []) (_ :: _ :: _ :: _ :: _ :: _ :: mlO K ml)).symm
theorem fits_all {own : OL} {C D : OL → Sl → Prop} {C' : OL → Sl → Prop} {Pre : OL → List Sl → (OL → Sl → Prop) → Prop} {ss : List Sl} (hp : Pre own ss C') (hd : ∀ o s, C' o s → D o s) : Fits own C Pre ss D :=
  ⟨own, [], by rw [List.append_nil], C', hp, fun o s c => by rw [List.append_nil]; exact hd o s c⟩
theorem HI.mono {n : Nat} {st : Hs} {jd : List (Str × Sl)} {ml : Ml} (h : HI n st jd ml) : HI (n + 1) st jd ml :=
  ⟨h.sub, h.keys, Nat.le_succ_of_le h.l1, Nat.le_succ_of_le h.l2, Nat.le_succ_of_le h.l3, fun q hq => Nat.le_succ_of_le (h.l4 q hq), Nat.le_succ_of_le h.l5⟩
theorem join_inv {n : Nat} {st : Hs} {jd : List (Str × Sl)} {ml : Ml} (h : HI n st jd ml) (b : Str) (s : Sl) : HI (n + 1) { st with homes := aDrop st.homes b } (aPut jd b s) ml := by
  refine ⟨fun y hy => h.sub y ?_, h.keys, Nat.le_trans (aDrop_len _ _) (Nat.le_succ_of_le h.l1), Nat.le_succ_of_le h.l2, Nat.le_trans (aPut_len _ _ _) (Nat.succ_le_succ h.l3), fun q hq => Nat.le_succ_of_le (h.l4 q hq), Nat.le_succ_of_le h.l5⟩
  have hy' : (aGet (aDrop st.homes b) y).isSome = true := hy
  rw [aGet_drop] at hy'
  by_cases e : y = b
  · rw [if_pos e] at hy'; cases hy'
  · rwa [if_neg e] at hy'
theorem home_inv {n : Nat} {st : Hs} {jd : List (Str × Sl)} {ml : Ml} (h : HI n st jd ml) (x : Str) (hm : List Int) (hx : (aGet st.homes x).isSome = true) : HI (n + 1) { st with homes := aPut st.homes x hm } jd ml := by
  refine ⟨fun y hy => h.sub y ?_, h.keys, Nat.le_trans (aPut_len _ _ _) (Nat.succ_le_succ h.l1), Nat.le_succ_of_le h.l2, Nat.le_succ_of_le h.l3, fun q hq => Nat.le_succ_of_le (h.l4 q hq), Nat.le_succ_of_le h.l5⟩
  have hy' : (aGet (aPut st.homes x hm) y).isSome = true := hy
  rw [aGet_put] at hy'
  by_cases e : y = x
  · rw [e]; exact hx
  · rwa [if_neg e] at hy'
theorem set_get {α : Type} {l : List α} {i : Nat} {x : α} (h : l[i]? = some x) {β : Type} (f : α → β) (y : α) (hf : f y = f x) : (l.set i y).map f = l.map f := by
  rw [List.map_set, hf]
  apply List.ext_getElem?
  intro j
  by_cases e : i = j
  · subst e
    have hi : i < (l.map f).length := by rw [List.length_map]; exact (List.getElem?_eq_some_iff.mp h).1
    rw [List.getElem?_set_self hi, List.getElem?_map, h]
    rfl
  · rw [List.getElem?_set_ne e]
theorem mourn_inv {n : Nat} {st : Hs} {jd : List (Str × Sl)} {ml : Ml} (h : HI n st jd ml) {i : Nat} {x : Str} {p : Addr} {ds : List PyData} (d : PyData) (hi : ml[i]? = some (x, p, ds)) : HI (n + 1) st jd (ml.set i (x, p, ds ++ [d])) := by
  refine ⟨h.sub, ?_, Nat.le_succ_of_le h.l1, Nat.le_succ_of_le h.l2, Nat.le_succ_of_le h.l3, fun q hq => ?_, Nat.le_succ_of_le h.l5⟩
  · exact (set_get hi (fun q : Str × Addr × List PyData => q.1) (x, p, ds ++ [d]) rfl).trans h.keys
  · rcases List.mem_or_eq_of_mem_set hq with hq | hq
    · exact Nat.le_succ_of_le (h.l4 q hq)
    · have := h.l4 _ (List.mem_of_getElem? hi)
      rw [hq]
      show (ds ++ [d]).length ≤ n + 1
      rw [List.length_append]
      exact Nat.succ_le_succ this
theorem aGet_ix {κ β : Type} [DecidableEq κ] {l : List (κ × β)} {k : κ} {v : β} (h : aGet l k = some v) : ∃ i : Nat, l[i]? = some (k, v) := List.getElem?_of_mem (aGet_some_mem h)
theorem mlT_set {ml : Ml} {i : Nat} {x : Str} {p : Addr} {ds es : List PyData} (hi : ml[i]? = some (x, p, ds)) : mlT (ml.set i (x, p, es)) = mlT ml := set_get hi (fun q : Str × Addr × List PyData => (id q.1, (fun q : Addr × List PyData => Sl.v (.ref q.1)) q.2)) (x, p, es) rfl
theorem mlO_set {K : PySem.W.Frag} {ml : Ml} {i : Nat} {x : Str} {p : Addr} {es : List PyData} : (mlO K ml).set i (p, asL K es) = mlO K (ml.set i (x, p, es)) := by
  unfold mlO
  rw [List.map_set]
theorem mlO_get {K : PySem.W.Frag} {ml : Ml} {i : Nat} {x : Str} {p : Addr} {ds : List PyData} (hi : ml[i]? = some (x, p, ds)) : (mlO K ml)[i]? = some (p, asL K ds) := by
  unfold mlO
  rw [List.getElem?_map, hi]
  rfl
theorem some_of {α : Type} {o : Option α} (h : o.isSome = true) : ∃ x, o = some x := by
  cases o with
  | none => cases h
  | some x => exact ⟨x, rfl⟩
theorem sc_H_do : FnScope ["self", "page"] ["self", "page"] (defScope s_Houses_do) := ⟨rfl, rfl, rfl, by decide +kernel, rfl, by decide +kernel, by decide +kernel⟩
theorem g_H_do (T : Tx K mg) : GdM P w K mg base 2 (hC K) "do" (spM K fun oc ss C => ∃ a st jd ml n, ∃ p : Page, HI n st jd ml ∧ n < 1000 ∧ st.can p = true ∧ oc = hOwn K a st jd ml ∧ ss = [.v (.ref a.h), .d p.enc] ∧ C = fun o1 t => ∃ jd' ml', HI (n + 1) (st.act p) jd' ml' ∧ o1 = hOwn K a (st.act p) jd' ml' ∧ t = .d .none) := by
  obtain ⟨fd, F⟩ := T.fun_Houses_do
  refine gdM_mk F (okM (k := 1) F sc_H_do (fun _ _ _ ⟨_, _, _, _, _, _, _, _, _, _, e, _⟩ => by rw [e]; rfl) ?_) T.me_Houses_do fun _ _ _ _ _ _ us hl => match us, hl with | [_, _], _ => rfl
  rintro cd A outer s H0 E hr oc ss C B D ⟨a, st, jd, ml, n, p, hi, hn, hc, rfl, rfl, rfl⟩ hF hD
  have hu : (A.deeper (envOfC "Houses.do" (defScope s_Houses_do) s.heap.objs.size (He.fAd K ("Houses", some "do")) cd)).units + 1 < cLine := by have := hr.units; omega
  cases p with
  | house d x h =>
    refine g_if (x_kind (isR_house (.house d x h)) (x_ixn 0 (x_var 1) x_int) x_str) (fun _ => ?_) fun h => ff h.symm
    have hx : aGet st.parents x = none := by
      have hc' : (!(aGet st.parents x).isSome) = true := hc
      cases q : aGet st.parents x with
      | none => rfl
      | some y => rw [q] at hc'; cases hc'
    refine g_expr (m_meth (D := fun o1 t => ∃ p, o1 = hOwn K a (st.come x none h) jd (ml ++ [(x, p, [])]) ∧ t = .d .none) 0 (g_H_come T) hr T.cls_Houses (x_var 0) (ma_x (a_cons (x_ixn 2 (x_var 1) x_int) (a_cons x_non (a_cons (x_ixn 3 (x_var 1) x_int) a_nil)))) ?_) ?_
    · rintro o ss ⟨rfl, rfl⟩
      exact fits_all ⟨a, st, jd, ml, n, x, none, h, hi, hn, hx, rfl, rfl, rfl⟩ fun _ _ h => h
    · rintro o t ⟨p, rfl, rfl⟩
      exact g_end (g_nil fun R H z q hz => hD.2 _ z R H ⟨jd, _, come_inv hi x none h p hx, rfl, rfl⟩ q)
  | part d x y h =>
    refine g_if (x_kind (isR_house (.part d x y h)) (x_ixn 0 (x_var 1) x_int) x_str) (fun h => ff h) fun _ => ?_
    refine g_if (x_kind (isR_part (.part d x y h)) (x_ixn 0 (x_var 1) x_int) x_str) (fun _ => ?_) fun h => ff h.symm
    have hx : aGet st.parents y = none := by
      have hc' : ((aGet st.homes x).isSome && !(aGet st.parents y).isSome) = true := hc
      cases q : aGet st.parents y with
      | none => rfl
      | some y => rw [q, Bool.and_eq_true] at hc'; cases hc'.2
    refine g_expr (m_meth (D := fun o1 t => ∃ p, o1 = hOwn K a (st.come y (some x) h) jd (ml ++ [(y, p, [])]) ∧ t = .d .none) 0 (g_H_come T) hr T.cls_Houses (x_var 0) (ma_x (a_cons (x_ixn 3 (x_var 1) x_int) (a_cons (x_ixn 2 (x_var 1) x_int) (a_cons (x_ixn 4 (x_var 1) x_int) a_nil)))) ?_) ?_
    · rintro o ss ⟨rfl, rfl⟩
      exact fits_all ⟨a, st, jd, ml, n, y, some x, h, hi, hn, hx, rfl, rfl, rfl⟩ fun _ _ h => h
    · rintro o t ⟨p, rfl, rfl⟩
      exact g_end (g_end (g_nil fun R H z q hz => hD.2 _ z R H ⟨jd, _, come_inv hi y (some x) h p hx, rfl, rfl⟩ q))
  | join d x y =>
    refine g_if (x_kind (isR_house (.join d x y)) (x_ixn 0 (x_var 1) x_int) x_str) (fun h => ff h) fun _ => ?_
    refine g_if (x_kind (isR_part (.join d x y)) (x_ixn 0 (x_var 1) x_int) x_str) (fun h => ff h) fun _ => ?_
    refine g_if (x_kind (isR_join (.join d x y)) (x_ixn 0 (x_var 1) x_int) x_str) (fun _ => ?_) fun h => ff h.symm
    have hc' : ([x, y].all fun n => (aGet st.homes n).isSome) = true := hc
    obtain ⟨hm, hy⟩ : ∃ hm, aGet st.homes y = some hm := some_of (by simpa using (List.all_eq_true.mp hc' y (by simp)))
    refine g_expr (m_tpop (p := a.homes) (n := y) (s := .d (intsD hm)) (kvs := homesT st.homes) (Dd := fun o t => o = hOwn K a { st with homes := aDrop st.homes y } jd ml) 1 (x_fld 0 (x_var 0) T.cls_Houses T.na_Houses_homes) (x_ixn 3 (x_var 1) x_int) (by unfold homesT; rw [aMap_id_get, hy]; rfl) (by rw [homesT_drop]; rfl)) ?_
    rintro o t rfl
    refine g_tput (s := .d (.str x)) (p := a.joined) (n := y) (kvs := jd) 3 hu (x_fld 0 (x_var 0) T.cls_Houses T.na_Houses_joined) (x_ixn 3 (x_var 1) x_int) (x_ixn 2 (x_var 1) x_int) (by have := hi.l3; omega) ?_
    exact g_end (g_end (g_end (g_nil fun R H z q hz => hD.2 _ z R H ⟨_, _, join_inv hi y (.d (.str x)), rfl, rfl⟩ q)))
  | home d x h =>
    refine g_if (x_kind (isR_house (.home d x h)) (x_ixn 0 (x_var 1) x_int) x_str) (fun h => ff h) fun _ => ?_
    refine g_if (x_kind (isR_part (.home d x h)) (x_ixn 0 (x_var 1) x_int) x_str) (fun h => ff h) fun _ => ?_
    refine g_if (x_kind (isR_join (.home d x h)) (x_ixn 0 (x_var 1) x_int) x_str) (fun h => ff h) fun _ => ?_
    refine g_if (x_kind (isR_home (.home d x h)) (x_ixn 0 (x_var 1) x_int) x_str) (fun _ => ?_) fun h => ff h.symm
    have hc' : ([x].all fun n => (aGet st.homes n).isSome) = true := hc
    refine g_tput (s := .d (intsD h)) (p := a.homes) (n := x) (kvs := homesT st.homes) 1 hu (x_fld 0 (x_var 0) T.cls_Houses T.na_Houses_homes) (x_ixn 2 (x_var 1) x_int) (x_ixn 3 (x_var 1) x_int) (by rw [homesT_len]; have := hi.l1; omega) ?_
    rw [homesT_put]
    exact g_end (g_end (g_end (g_end (g_nil fun R H z q hz => hD.2 _ z R H ⟨_, _, home_inv hi x h (by simpa using hc'), rfl, rfl⟩ q))))
  | mourn d x k =>
    refine g_if (x_kind (isR_house (.mourn d x k)) (x_ixn 0 (x_var 1) x_int) x_str) (fun h => ff h) fun _ => ?_
    refine g_if (x_kind (isR_part (.mourn d x k)) (x_ixn 0 (x_var 1) x_int) x_str) (fun h => ff h) fun _ => ?_
    refine g_if (x_kind (isR_join (.mourn d x k)) (x_ixn 0 (x_var 1) x_int) x_str) (fun h => ff h) fun _ => ?_
    refine g_if (x_kind (isR_home (.mourn d x k)) (x_ixn 0 (x_var 1) x_int) x_str) (fun h => ff h) fun _ => ?_
    refine g_if (x_kind (isR_mourn (.mourn d x k)) (x_ixn 0 (x_var 1) x_int) x_str) (fun _ => ?_) fun h => ff h.symm
    have hc' : ([x].all fun n => (aGet st.homes n).isSome) = true := hc
    have h1 := hi.sub x (by simpa using hc')
    have h2 : x ∈ ml.map (·.1) := by rw [hi.keys]; exact aGet_mem.mpr h1
    obtain ⟨⟨q, ds⟩, h3⟩ := some_of (aGet_mem.mp h2)
    obtain ⟨i, h4⟩ := aGet_ix h3
    refine g_expr (m_append (Dd := fun o t => o = hOwn K a st jd (ml.set i (x, q, ds ++ [.tuple [.int d, .int (d + k)]]))) (m_x (x_tget (p := a.mourned) (n := x) (kvs := mlT ml) (s := .v (.ref q)) 4 hu (x_fld 0 (x_var 0) T.cls_Houses T.na_Houses_mourned) (x_ixn 2 (x_var 1) x_int) (by rw [mlT_get, h3]; rfl))) ?_) ?_
    · rintro o1 s1 ⟨rfl, rfl⟩
      refine ⟨q, i + 6, ds, rfl, mlO_get h4, _, m_x (x_tup (ds := [.int d, .int (d + k)]) (a_cons (x_ixn 1 (x_var 1) x_int) (a_cons (x_add (x_ixn 1 (x_var 1) x_int) (x_ixn 3 (x_var 1) x_int)) a_nil))), ?_⟩
      rintro o2 s2 ⟨rfl, rfl⟩
      refine ⟨i + 6, ds, _, rfl, mlO_get h4, by have := hi.l4 _ (List.mem_of_getElem? h4); have h5 : ds.length ≤ n := this; omega, ?_⟩
      show _ :: _ :: _ :: _ :: _ :: _ :: (mlO K ml).set i _ = _
      unfold hOwn
      rw [mlT_set h4, ← mlO_set]
      rfl
    · rintro o t rfl
      exact g_end (g_end (g_end (g_end (g_end (g_nil fun R H z q hz => hD.2 _ z R H ⟨_, _, mourn_inv hi _ h4, rfl, rfl⟩ q)))))
  | ahead d x y =>
    refine g_if (x_kind (isR_house (.ahead d x y)) (x_ixn 0 (x_var 1) x_int) x_str) (fun h => ff h) fun _ => ?_
    refine g_if (x_kind (isR_part (.ahead d x y)) (x_ixn 0 (x_var 1) x_int) x_str) (fun h => ff h) fun _ => ?_
    refine g_if (x_kind (isR_join (.ahead d x y)) (x_ixn 0 (x_var 1) x_int) x_str) (fun h => ff h) fun _ => ?_
    refine g_if (x_kind (isR_home (.ahead d x y)) (x_ixn 0 (x_var 1) x_int) x_str) (fun h => ff h) fun _ => ?_
    refine g_if (x_kind (isR_mourn (.ahead d x y)) (x_ixn 0 (x_var 1) x_int) x_str) (fun h => ff h) fun _ => ?_
    exact g_end (g_end (g_end (g_end (g_end (g_nil fun R H z q hz => hD.2 _ z R H ⟨_, _, hi.mono, rfl, rfl⟩ q)))))
  | card d x y =>
    refine g_if (x_kind (isR_house (.card d x y)) (x_ixn 0 (x_var 1) x_int) x_str) (fun h => ff h) fun _ => ?_
    refine g_if (x_kind (isR_part (.card d x y)) (x_ixn 0 (x_var 1) x_int) x_str) (fun h => ff h) fun _ => ?_
    refine g_if (x_kind (isR_join (.card d x y)) (x_ixn 0 (x_var 1) x_int) x_str) (fun h => ff h) fun _ => ?_
    refine g_if (x_kind (isR_home (.card d x y)) (x_ixn 0 (x_var 1) x_int) x_str) (fun h => ff h) fun _ => ?_
    refine g_if (x_kind (isR_mourn (.card d x y)) (x_ixn 0 (x_var 1) x_int) x_str) (fun h => ff h) fun _ => ?_
    exact g_end (g_end (g_end (g_end (g_end (g_nil fun R H z q hz => hD.2 _ z R H ⟨_, _, hi.mono, rfl, rfl⟩ q)))))
  | visit d x y =>
    refine g_if (x_kind (isR_house (.visit d x y)) (x_ixn 0 (x_var 1) x_int) x_str) (fun h => ff h) fun _ => ?_
    refine g_if (x_kind (isR_part (.visit d x y)) (x_ixn 0 (x_var 1) x_int) x_str) (fun h => ff h) fun _ => ?_
    refine g_if (x_kind (isR_join (.visit d x y)) (x_ixn 0 (x_var 1) x_int) x_str) (fun h => ff h) fun _ => ?_
    refine g_if (x_kind (isR_home (.visit d x y)) (x_ixn 0 (x_var 1) x_int) x_str) (fun h => ff h) fun _ => ?_
    refine g_if (x_kind (isR_mourn (.visit d x y)) (x_ixn 0 (x_var 1) x_int) x_str) (fun h => ff h) fun _ => ?_
    exact g_end (g_end (g_end (g_end (g_end (g_nil fun R H z q hz => hD.2 _ z R H ⟨_, _, hi.mono, rfl, rfl⟩ q)))))
end
end CB

/-! Part 17: standing.py, the defs. -/
namespace CB
open PySem PySem.Spec PyProof.Rows L2
open PySem.W (dataLe keyToks keyToksAll alike alikeAll AllAlike Sortable)
theorem HI.idle {n : Nat} {st : Hs} {jd : List (Str × Sl)} {ml : Ml} (h : HI n st jd ml) (p : Page) : HI (n + 1) { st with idle := st.idle ++ [p] } jd ml :=
  ⟨h.sub, h.keys, Nat.le_succ_of_le h.l1, Nat.le_succ_of_le h.l2, Nat.le_succ_of_le h.l3, fun q hq => Nat.le_succ_of_le (h.l4 q hq), by show (st.idle ++ [p]).length ≤ n + 1; rw [List.length_append]; exact Nat.succ_le_succ h.l5⟩
theorem HI.empty : HI 0 Hs.empty [] [] := ⟨fun _ h => h, rfl, Nat.le_refl _, Nat.le_refl _, Nat.le_refl _, (fun _ h => nomatch h), Nat.le_refl _⟩
theorem run_take {l : List Page} {i : Nat} {p : Page} (h : l[i]? = some p) : Hs.run (l.take (i + 1)) = (Hs.run (l.take i)).meet p := by
  unfold Hs.run
  rw [List.take_add_one, h, List.foldl_append]
  rfl
section
variable {P : Program} {w : World} {K : PySem.W.Frag} {mg : Str → Option Value} {base : Heap}
theorem sc_H_meet : FnScope ["self", "page"] ["self", "page"] (defScope s_Houses_meet) := ⟨rfl, rfl, rfl, by decide +kernel, rfl, by decide +kernel, by decide +kernel⟩
theorem g_H_meet (T : Tx K mg) : GdM P w K mg base 3 (hC K) "meet" (spM K fun oc ss C => ∃ a st jd ml n, ∃ p : Page, HI n st jd ml ∧ n < 1000 ∧ oc = hOwn K a st jd ml ∧ ss = [.v (.ref a.h), .d p.enc] ∧ C = fun o1 t => ∃ jd' ml', HI (n + 1) (st.meet p) jd' ml' ∧ o1 = hOwn K a (st.meet p) jd' ml' ∧ t = .d .none) := by
  obtain ⟨fd, F⟩ := T.fun_Houses_meet
  refine gdM_mk F (okM (k := 2) F sc_H_meet (fun _ _ _ ⟨_, _, _, _, _, _, _, _, _, e, _⟩ => by rw [e]; rfl) ?_) T.me_Houses_meet fun _ _ _ _ _ _ us hl => match us, hl with | [_, _], _ => rfl
  rintro cd A outer s H0 E hr oc ss C B D ⟨a, st, jd, ml, n, p, hi, hn, rfl, rfl, rfl⟩ hF hD
  refine g_ifM (C := fun o k => o = hOwn K a st jd ml ∧ k = st.can p) (m_truth (C := Is (hOwn K a st jd ml) (.d (.bool (st.can p)))) (m_meth (D := Is (hOwn K a st jd ml) (.d (.bool (st.can p)))) 0 (g_H_can T) hr T.cls_Houses (x_var 0) (ma_x (a_cons (x_var 1) a_nil)) ?_) (fun o s ⟨h1, h2⟩ => ⟨_, h2, h1, rfl⟩) fun _ => rfl) ?_ ?_
  · rintro o ss ⟨rfl, rfl⟩
    exact fits_all ⟨a, st, jd, ml, p, rfl, rfl, rfl⟩ fun _ _ h => h
  · rintro o ⟨rfl, hc⟩
    refine g_expr (m_meth (D := fun o1 t => ∃ jd' ml', HI (n + 1) (st.act p) jd' ml' ∧ o1 = hOwn K a (st.act p) jd' ml' ∧ t = .d .none) 0 (g_H_do T) hr T.cls_Houses (x_var 0) (ma_x (a_cons (x_var 1) a_nil)) ?_) ?_
    · rintro o ss ⟨rfl, rfl⟩
      exact fits_all ⟨a, st, jd, ml, n, p, hi, hn, hc.symm, rfl, rfl, rfl⟩ fun _ _ h => h
    · rintro o t ⟨jd', ml', h1, rfl, rfl⟩
      have e : st.meet p = st.act p := if_pos hc.symm
      exact g_end (g_nil fun R H z q hz => hD.2 _ z R H ⟨jd', ml', by rw [e]; exact h1, by rw [e], rfl⟩ q)
  · rintro o ⟨rfl, hc⟩
    have e : st.meet p = { st with idle := st.idle ++ [p] } := if_neg (by rw [← hc]; exact Bool.false_ne_true)
    refine g_expr (m_append (Dd := fun o t => o = hOwn K a { st with idle := st.idle ++ [p] } jd ml) (m_x (x_fld 0 (x_var 0) T.cls_Houses T.na_Houses_idle_pages)) ?_) ?_
    · rintro o1 s1 ⟨rfl, rfl⟩
      refine ⟨a.idle, 5, _, rfl, rfl, _, m_x (x_var 1), ?_⟩
      rintro o2 s2 ⟨rfl, rfl⟩
      refine ⟨5, _, _, rfl, rfl, by rw [List.length_map]; have := hi.l5; omega, ?_⟩
      unfold hOwn
      rw [List.map_append]
      rfl
    · rintro o t rfl
      exact g_end (g_nil fun R H z q hz => hD.2 _ z R H ⟨jd, ml, by rw [e]; exact hi.idle p, by rw [e], rfl⟩ q)
theorem sc_H_ask : FnScope ["self", "name"] ["self", "name"] (defScope s_Houses_ask_standing) := ⟨rfl, rfl, rfl, by decide +kernel, rfl, by decide +kernel, by decide +kernel⟩
theorem g_H_ask (T : Tx K mg) : GdM P w K mg base 1 (hC K) "ask_standing" (spM K fun oc ss C => ∃ a st jd ml n, (aGet st.homes n).isSome = true ∧ oc = hOwn K a st jd ml ∧ ss = [.v (.ref a.h), .d (.str n)] ∧ C = Is oc (.d .none)) := by
  obtain ⟨fd, F⟩ := T.fun_Houses_ask_standing
  refine gdM_mk F (okM (k := 0) F sc_H_ask (fun _ _ _ ⟨_, _, _, _, _, _, _, e, _⟩ => by rw [e]; rfl) ?_) T.me_Houses_ask_standing fun _ _ _ _ _ _ us hl => match us, hl with | [_, _], _ => rfl
  rintro cd A outer s H0 E hr oc ss C B D ⟨a, st, jd, ml, n, hn, rfl, rfl, rfl⟩ hF hD
  have hu : (A.deeper (envOfC "Houses.ask_standing" (defScope s_Houses_ask_standing) s.heap.objs.size (He.fAd K ("Houses", some "ask_standing")) cd)).units + 1 < cLine := by have := hr.units; omega
  exact g_if (k := false) (x_t (x_tninT 1 hu (x_var 1) (x_fld 0 (x_var 0) T.cls_Houses T.na_Houses_homes)) (by rw [homes_get, hn]; rfl)) (fun h => ff h) fun _ => g_end (g_nil fun R H z q hz => hD.2 _ z R H ⟨rfl, rfl⟩ q)
theorem sc_houses_behind : FnScope ["book", "day", "found", "page"] ["book", "day"] (defScope s_houses_behind) := ⟨rfl, rfl, rfl, by decide +kernel, rfl, by decide +kernel, by decide +kernel⟩
theorem g_houses_behind (T : Tx K mg) : Gd P w K mg base 4 "houses_behind" 2 (spM K fun oc ss C => ∃ (l : List Page) (day : Int), l.length ≤ 900 ∧ oc = [] ∧ ss = [.d (.tuple (l.map Page.enc)), .d (.int day)] ∧ C = fun o t => ∃ a jd ml, HI (upTo l day).length (Hs.run (upTo l day)) jd ml ∧ o = hOwn K a (Hs.run (upTo l day)) jd ml ∧ t = .v (.ref a.h)) := by
  obtain ⟨fd, F⟩ := T.fun_houses_behind
  refine gd_mk F rfl (okM (k := 3) F sc_houses_behind (fun _ _ _ ⟨_, _, _, _, e, _⟩ => by rw [e]; rfl) ?_) T.glo_houses_behind fun _ _ _ _ _ _ us hl => match us, hl with | [_, _], _ => rfl
  rintro cd A outer s H0 E hr oc ss C B D ⟨l, day, hlen, rfl, rfl, rfl⟩ hF hD
  have hl2 : (upTo l day).length ≤ l.length := List.length_filter_le _ _
  refine g_setM sc_houses_behind.nd 2 (m_make0 (D := fun o t => ∃ a : HA, o.Perm (hOwn K a Hs.empty [] []) ∧ t = .v (.ref a.h)) (g_H_init T) (hr.mono (by decide)) fun q => ⟨_, ⟨q, rfl, rfl, rfl⟩, ?_⟩) ?_
  · rintro o s ⟨a, ha, hp, rfl⟩
    exact ⟨rfl, a, by rw [List.append_nil]; exact hp, by rw [ha]⟩
  rintro o t ⟨a, hp, rfl⟩
  refine g_perm hp ?_
  refine g_for (g := gName 3) (src_m (src_tup (x_call (oc := []) (g_up_to T) (hr.mono (by decide)) ⟨rfl, l, day, rfl, by omega, rfl⟩ (a_cons (x_var 0) (a_cons (x_var 1) a_nil))))) (pg_name (i := 3) sc_houses_behind.nd rfl (.inl rfl)) ?_
  rintro o xs V ⟨rfl, rfl, rfl⟩
  refine ⟨fun i G1 o1 => G1 = [_, _, .v (.ref a.h), .u] ∧ ∃ jd ml, HI i (Hs.run ((upTo l day).take i)) jd ml ∧ o1 = hOwn K a (Hs.run ((upTo l day).take i)) jd ml, ⟨rfl, [], [], HI.empty, rfl⟩, fun _ _ _ _ _ _ _ => trivial, ?_, ?_⟩
  · rintro i x G1 o1 B1 D1 hx ⟨rfl, jd, ml, hi, rfl⟩ hB hF1 hD1 _
    obtain ⟨q, hq, rfl⟩ := enc_get hx
    have hil : i < (upTo l day).length := (List.getElem?_eq_some_iff.mp hq).1
    refine ⟨_, gd_name, g_expr (m_meth (D := fun o1 t => ∃ jd' ml', HI (i + 1) ((Hs.run ((upTo l day).take i)).meet q) jd' ml' ∧ o1 = hOwn K a ((Hs.run ((upTo l day).take i)).meet q) jd' ml' ∧ t = .d .none) 0 (g_H_meet T) hr T.cls_Houses (x_var 2) (ma_x (a_cons (x_var 3) a_nil)) ?_) ?_⟩
    · rintro o ss ⟨rfl, rfl⟩
      exact fits_all ⟨a, _, jd, ml, i, q, hi, by omega, rfl, rfl, rfl⟩ fun _ _ h => h
    · rintro o t ⟨jd', ml', h1, rfl, rfl⟩
      rw [← run_take hq]
      rw [← run_take hq] at h1
      exact at_le hD1 ⟨rfl, jd', ml', h1, rfl⟩ ⟨.inr rfl, .inr rfl, .inr rfl, .inl rfl, trivial⟩
  · rintro G1 o1 ⟨rfl, jd, ml, hi, rfl⟩
    rw [List.length_map] at hi ⊢
    rw [List.take_length] at hi ⊢
    exact g_ret (x_var 2) fun v R H q e => hD.1 _ _ v R H ⟨a, jd, ml, hi, rfl, rfl⟩ q e
/-- texts in order -/
def strLe (a b : Str) : Bool := dataLe false id (.str a) (.str b)
def sortS (l : List Str) : List Str := l.mergeSort strLe
theorem sortS_enc (l : List Str) : (l.map PyData.str).mergeSort (dataLe false id) = (sortS l).map .str := by
  unfold sortS
  rw [List.map_mergeSort]
  intro a _ b _
  rfl
theorem sortS_mem {l : List Str} {x : Str} : x ∈ sortS l ↔ x ∈ l := List.mem_mergeSort
def standingOf (s : Hs) : List (Str × List Int) := (sortS (s.homes.map (·.1))).map fun n => (n, (aGet s.homes n).getD [])
def standD (q : Str × List Int) : PyData := .tuple [.str q.1, intsD q.2]
theorem m_hb {N : List Str} {ps : Nat} {X : Cx} {G : List Sl} {own : OL} {a b : Expr} {pos p : Pos} {k : Nat} (T : Tx X.K X.mg) (hr : Room 4 X.A) {l : List Page} {day : Int} (hlen : l.length ≤ 900) (ha : EX X G own a (.d (.tuple (l.map Page.enc)))) (hb : EX X G own b (.d (.int day)))
    (hg : Gl X "houses_behind" := by rfl) (he : starEach [a, b] X.env = [(false, eval a X.env), (false, eval b X.env)] := by rfl) (he2 : starEach [b] X.env = [(false, eval b X.env)] := by rfl) (hpl : (backTo pos (starEach [b] X.env)).any (·.1) = false := by rfl) :
    EM X G own (.Call (.Name "houses_behind" p) [a, b] [] pos) fun o t => ∃ (y : HA) (jd : List (Str × Sl)) (ml : Ml), HI (upTo l day).length (Hs.run (upTo l day)) jd ml ∧ o = hOwn X.K y (Hs.run (upTo l day)) jd ml ++ own ∧ t = .v (.ref y.h) :=
  m_call (g_houses_behind T) hr (ma_x (a_cons ha (a_cons hb a_nil he2) (he.trans (by rw [he2])))) (fun o ss ⟨h1, h2⟩ => by
    subst h1 h2
    exact ⟨[], _, .refl _, _, ⟨l, day, hlen, rfl, rfl, rfl⟩, fun o s ⟨y, jd, ml, h1, h2, h3⟩ => ⟨y, jd, ml, h1, by rw [h2], h3⟩⟩) hg (by decide) (he.trans (by rw [he2])) hpl
theorem sc_standing : FnScope ["book", "day", "homes", "name"] ["book", "day"] (defScope s_standing) := ⟨rfl, rfl, rfl, by decide +kernel, rfl, by decide +kernel, by decide +kernel⟩
theorem g_standing (T : Tx K mg) : Gd P w K mg base 5 "standing" 2 (spD K fun ss s => ∃ (l : List Page) (day : Int), ss = [.d (.tuple (l.map Page.enc)), .d (.int day)] ∧ l.length ≤ 900 ∧ s = .d (.list ((standingOf (Hs.run (upTo l day))).map standD))) := by
  obtain ⟨fd, F⟩ := T.fun_standing
  refine gd_mk F rfl (okD (k := 4) F sc_standing (fun _ _ ⟨_, _, e, _⟩ => by rw [e]; rfl) ?_) T.glo_standing fun _ _ _ _ _ _ us hl => match us, hl with | [_, _], _ => rfl
  rintro cd A outer s H0 E hr ss r B D ⟨l, day, rfl, hlen, rfl⟩ hF hD
  have hu : (A.deeper (envOfC "standing" (defScope s_standing) s.heap.objs.size (He.fAd K ("standing", none)) cd)).units + 1 < cLine := by have := hr.units; omega
  refine g_setM sc_standing.nd 2 (m_fld (C1 := hC K) (D := fun o t => ∃ (y : HA) (jd : List (Str × Sl)) (ml : Ml), HI (upTo l day).length (Hs.run (upTo l day)) jd ml ∧ o = hOwn K y (Hs.run (upTo l day)) jd ml ++ [] ∧ t = .v (.ref y.homes)) (m_hb (N := []) (ps := 0) (k := 0) T hr hlen (x_var 0) (x_var 1)) T.cls_Houses T.na_Houses_homes ?_) ?_
  · rintro o s ⟨y, jd, ml, h1, rfl, rfl⟩
    exact ⟨0, y.h, _, _, rfl, rfl, rfl, y, jd, ml, h1, rfl, rfl⟩
  rintro o t ⟨y, jd, ml, h1, rfl, rfl⟩
  rw [List.append_nil]
  generalize hst : Hs.run (upTo l day) = st at h1 ⊢
  have hl2 : st.homes.length ≤ 900 := by
    have := h1.l1
    have h3 : (upTo l day).length ≤ l.length := List.length_filter_le _ _
    omega
  have e1 : ((homesT st.homes).map fun q => PyData.str q.1).mergeSort (dataLe false id) = (sortS (st.homes.map (·.1))).map .str := by
    rw [← sortS_enc]
    congr 1
    unfold homesT aMap
    rw [List.map_map, List.map_map]
    rfl
  refine g_ret (x_is (x_lc (l := sortS (st.homes.map (·.1))) (enc := PyData.str) (g := gName 3) sc_standing.nd [("name", 3)] (fun n => standD (n, (aGet st.homes n).getD [])) (src_list (x_is (x_cb (call_sort0 (coll_dk rfl) hr.units) T.free_sorted (rc_sortT (kvs := homesT st.homes) (i := 1) rfl) (a_cons (x_var 2) a_nil)) (by rw [e1]))) (fun _ _ _ => trivial) ?_ (blkOk_by (N := ["book", "day", "homes", "name"]) (sc := defScope s_standing) (by decide +kernel)) (fun _ _ _ _ _ => pg_name (i := 3) sc_standing.nd rfl (.inl rfl)) (gw_name (by decide))
    fun n hn => ?_) ?_) fun v R H q e => hD.1 _ _ v R H rfl q e
  · unfold sortS
    rw [List.length_mergeSort, List.length_map]
    omega
  · obtain ⟨hm, hx⟩ := some_of (aGet_mem.mp (sortS_mem.mp hn))
    refine ⟨_, gd_name, fun _ _ _ _ _ => x_is (x_tup (ds := [.str n, intsD hm]) (a_cons (x_var 3) (a_cons (x_tget (s := .d (intsD hm)) (p := y.homes) (n := n) (kvs := homesT st.homes) 1 hu (x_var 2) (x_var 3) (by unfold homesT; rw [aMap_id_get, hx]; rfl)) a_nil))) (by rw [hx]; rfl)⟩
  · unfold standingOf
    rw [List.map_map, hst]
    rfl
theorem sc_home_of : FnScope ["book", "day", "name", "houses"] ["book", "day", "name"] (defScope s_home_of) := ⟨rfl, rfl, rfl, by decide +kernel, rfl, by decide +kernel, by decide +kernel⟩
theorem g_home_of (T : Tx K mg) : Gd P w K mg base 5 "home_of" 3 (spD K fun ss s => ∃ (l : List Page) (day : Int) (n : Str) (h : List Int), ss = [.d (.tuple (l.map Page.enc)), .d (.int day), .d (.str n)] ∧ l.length ≤ 900 ∧ aGet (Hs.run (upTo l day)).homes n = some h ∧ s = .d (intsD h)) := by
  obtain ⟨fd, F⟩ := T.fun_home_of
  refine gd_mk F rfl (okD (k := 4) F sc_home_of (fun _ _ ⟨_, _, _, _, e, _⟩ => by rw [e]; rfl) ?_) T.glo_home_of fun _ _ _ _ _ _ us hl => match us, hl with | [_, _, _], _ => rfl
  rintro cd A outer s H0 E hr ss r B D ⟨l, day, n, h, rfl, hlen, hn, rfl⟩ hF hD
  have hu : (A.deeper (envOfC "home_of" (defScope s_home_of) s.heap.objs.size (He.fAd K ("home_of", none)) cd)).units + 1 < cLine := by have := hr.units; omega
  refine g_setM sc_home_of.nd 3 (m_hb (N := []) (ps := 0) (k := 0) T hr hlen (x_var 0) (x_var 1)) ?_
  rintro o t ⟨y, jd, ml, h1, rfl, rfl⟩
  rw [List.append_nil]
  refine g_expr (m_meth (D := Is (hOwn K y (Hs.run (upTo l day)) jd ml) (.d .none)) 0 (g_H_ask T) (hr.mono (by decide)) T.cls_Houses (x_var 3) (ma_x (a_cons (x_var 2) a_nil)) ?_) ?_
  · rintro o ss ⟨rfl, rfl⟩
    exact fits_all ⟨y, _, jd, ml, n, by rw [hn]; rfl, rfl, rfl, rfl⟩ fun _ _ h => h
  rintro o t ⟨rfl, rfl⟩
  exact g_ret (x_tget (s := .d (intsD h)) (p := y.homes) (n := n) (kvs := homesT (Hs.run (upTo l day)).homes) 1 hu (x_fld 0 (x_var 3) T.cls_Houses T.na_Houses_homes) (x_var 2) (by unfold homesT; rw [aMap_id_get, hn]; rfl)) fun v R H q e => hD.1 _ _ v R H rfl q e
theorem sc_idle : FnScope ["book", "day"] ["book", "day"] (defScope s_idle) := ⟨rfl, rfl, rfl, by decide +kernel, rfl, by decide +kernel, by decide +kernel⟩
theorem g_idle (T : Tx K mg) : Gd P w K mg base 5 "idle" 2 (spD K fun ss s => ∃ (l : List Page) (day : Int), ss = [.d (.tuple (l.map Page.enc)), .d (.int day)] ∧ l.length ≤ 900 ∧ s = .d (.list ((Hs.run (upTo l day)).idle.map Page.enc))) := by
  obtain ⟨fd, F⟩ := T.fun_idle
  refine gd_mk F rfl (okD (k := 4) F sc_idle (fun _ _ ⟨_, _, e, _⟩ => by rw [e]; rfl) ?_) T.glo_idle fun _ _ _ _ _ _ us hl => match us, hl with | [_, _], _ => rfl
  rintro cd A outer s H0 E hr ss r B D ⟨l, day, rfl, hlen, rfl⟩ hF hD
  refine g_retM (m_ct (D := fun _ t => t = .d (.list ((Hs.run (upTo l day)).idle.map Page.enc))) call_list_of T.free_list (ma_cons (m_fld (C1 := hC K) (D := fun o t => ∃ (y : HA) (jd : List (Str × Sl)) (ml : Ml), o = hOwn K y (Hs.run (upTo l day)) jd ml ++ [] ∧ t = .v (.ref y.idle)) (m_hb (N := []) (ps := 0) (k := 0) T hr hlen (x_var 0) (x_var 1)) T.cls_Houses T.na_Houses_idle_pages ?_) fun _ _ _ => ma_nil) ?_) fun o t v R H c q e => hD.1 o t v R H c q e
  · rintro o s ⟨y, jd, ml, h1, rfl, rfl⟩
    exact ⟨0, y.h, _, _, rfl, rfl, rfl, y, jd, ml, rfl, rfl⟩
  · rintro o ss ⟨o1, s1, t1, ⟨y, jd, ml, rfl, rfl⟩, ⟨rfl, rfl⟩, rfl⟩
    exact ⟨_, rc_lstO (i := 5) (p := y.idle) rfl, rfl⟩
end
end CB

/-! Part 18: a dict walked by its keys, chains, lists put together. -/
namespace CB
open PySem PySem.Spec PyProof.Rows L2
def asFz (P : Program) (w : World) (K : PySem.W.Frag) (od : Obj) (xs : NX) (kvs : List (NK × PyData)) : As := ⟨fun a R o => o = .frz od (ndO P w a xs) ∧ NxR K R kvs xs, fun _ _ _ _ e ⟨h1, h2⟩ => ⟨h1, nx_up e h2⟩⟩
section
variable {X : Cx} {B : Bs} {G : List Sl} {own : OL} {D : Ends} {rest : List Stmt} {e a b c o tg iter elt : Expr} {s x y : Sl} {pos : Pos} {scope : Scope} {p : Addr}
theorem unlock {R H R' H' : Hp} {u v : HO} (h1 : H p = some u) (hR : R p = none) (g : Grow R (upd H p v) R' H') : Grow R H R' (upd H' p u) := by
  have h2 : (upd H p v) p = some v := upd_same
  have hR' : R' p = none := (g.old p v h2).trans hR
  refine ⟨g.rr, fun b o e => ?_, fun b o e => ?_, fun b o e => ?_⟩
  · by_cases hb : b = p
    · rw [hb] at e ⊢
      rw [upd_same, ← h1, e]
    · rw [upd_ne hb]
      exact g.hh b o (by rw [upd_ne hb]; exact e)
  · have hb : b ≠ p := fun z => by
      rw [z, hR'] at e
      cases e
    rw [upd_ne hb]
    exact g.rh b o e
  · by_cases hb : b = p
    · rw [hb]
      exact g.old p v h2
    · exact g.old b o (by rw [upd_ne hb]; exact e)
theorem ev_lcN {α : Type} {td : TE} {g : TG} {tt : TT} {te : TE} {vs : List Nat} {l : List α} {key : α → NK} {val : α → PyData} (j : Nat) (t : α → Option PyData) (hi : own[j]? = some (p, asN X.prog X.w X.K (l.map fun x => (key x, val x)))) (hz : l.length ≤ 100000)
    (ho : ∀ A : As, Ev X.K G (own.set j (p, A)) td (.v (.ref p))) (T : ∀ A : As, ∀ x ∈ l, LcTurn X.K G (own.set j (p, A)) g tt te vs (key x).data (t x)) : Ev X.K G own (tLockE (tLc (iNKeys X.prog X.w td) g tt te vs)) (.d (.list (l.filterMap t))) := fun R H z w hzz Q q => by
  obtain ⟨hRp, ob, h1, xs, rfl, h2⟩ := w.get hi
  refine ⟨p, ndO X.prog X.w p xs, h1, True.intro, fun od => ?_⟩
  have w2 : Ow (own.set j (p, asFz X.prog X.w X.K od xs (l.map fun x => (key x, val x)))) R (upd H p (.frz od (ndO X.prog X.w p xs))) := w.put hi ⟨rfl, h2⟩
  have hj : j < own.length := (List.getElem?_eq_some_iff.mp hi).1
  have hi2 : (own.set j (p, asFz X.prog X.w X.K od xs (l.map fun x => (key x, val x))))[j]? = some (p, asFz X.prog X.w X.K od xs (l.map fun x => (key x, val x))) := List.getElem?_set_self hj
  have src : SrcW X.K G (own.set j (p, asFz X.prog X.w X.K od xs (l.map fun x => (key x, val x)))) (iNKeys X.prog X.w td) (l.map fun x => (key x).data) (fun R H => H p = some (.frz od (ndO X.prog X.w p xs)) ∧ NxR X.K R (l.map fun x => (key x, val x)) xs) := fun R1 H1 z1 w1 hz1 Rr qr => ho _ R1 H1 z1 w1 hz1 _ fun v R2 H2 g2 e2 => by
    obtain rfl := v_slr e2
    obtain ⟨_, o2, f1, rfl, f2⟩ := (w1.grow g2).get hi2
    refine ⟨p, od, xs, rfl, f1, qr _ R2 H2 g2 fun R3 H3 s1 s2 ⟨f3, f4⟩ => ⟨fun i x hx => ?_, f3, ?_⟩⟩
    · have hlx := nx_len f4
      rw [List.getElem?_map] at hx
      cases qx : l[i]? with
      | none => rw [qx] at hx; cases hx
      | some a =>
        rw [qx] at hx
        cases hx
        have hil : i < xs.length := by
          rw [hlx, List.length_map]
          exact (List.getElem?_eq_some_iff.mp qx).1
        refine ⟨⟨f3, hil⟩, fun v H4 ⟨e1, y, hy, e2⟩ => ⟨R3, by rw [e1]; exact Grow.refl s2, ?_⟩⟩
        obtain ⟨v', hv1, hv2⟩ := dps_get (nx_keysV f4) (i := i) (d := (key a).data) (by rw [List.getElem?_map, List.getElem?_map, qx]; rfl)
        unfold keysX at hv1
        rw [List.getElem?_map, hy] at hv1
        rw [e2]
        cases hv1
        exact hv2
    · have hlx := nx_len f4
      rw [hlx, List.length_map, List.length_map]
      exact Nat.le_refl _
  refine ev_lcS (enc := fun x => (key x).data) t src (fun R1 H1 w1 => ?_) hz (T _) R _ z w2 hzz _ fun v R' H' g' e' => ?_
  · obtain ⟨_, o2, f1, rfl, f2⟩ := w1.get hi2
    exact ⟨f1, f2⟩
  · exact ⟨g'.hh p _ upd_same, q v R' _ (unlock h1 hRp g') e'⟩
/-- [elt for tg in D], D a dict -/
theorem lcx_lcN {α : Type} {g : TG} {l : List α} {key : α → NK} {val : α → PyData} (hN : X.N.Nodup) (bo : List (Str × Nat)) (j : Nat) (t : α → PyData) (hi : own[j]? = some (p, asN X.prog X.w X.K (l.map fun x => (key x, val x)))) (hz : l.length ≤ 100000) (ho : ∀ A : As, EX X G (own.set j (p, A)) iter (.v (.ref p))) (ok : BlkOk X.N X.env.scope scope bo) (hg : Bk X scope fun Y => PG Y tg g) (hw : GW g (bo.map (·.2)))
    (T : ∀ A : As, ∀ x ∈ l, ∃ f, GD X.K g (.d (key x).data) f ∧ Bk X scope fun Y => EX Y (f (wipeG G (bo.map (·.2)))) (own.set j (p, A)) elt (.d (t x)))
    (hc : X.calm = true := by rfl) (hs : ∀ x, foldedSetIterable iter X.env x = pure x := by intro _; rfl) : LCX X G own (.ListComp elt [⟨tg, iter, [], 0⟩] scope pos) (.d (.list (l.map t))) := by
  have e : l.map t = l.filterMap fun x => some (t x) := by rw [List.filterMap_eq_map']
  rw [e]
  refine ⟨_, pe_lock (pe_lc (tt := tYes) (te := uE X scope elt) hc hN (pi_nkeys pe_w) ok hg (fun _ _ _ _ _ => pts_nil) (fun s H C cl fp => ⟨fun pins s' σ H' Q I h => eW_run (h s H C cl fp) pins s' I⟩) hs), fun y py spos i hy hyl hsw => ps_lock (ps_setLc (tt := tYes) (te := uE X scope elt) hc hN hy hyl hsw (pi_nkeys pe_w) ok hg (fun _ _ _ _ _ => pts_nil) (fun s H C cl fp => ⟨fun pins s' σ H' Q I h => eW_run (h s H C cl fp) pins s' I⟩) hs), ev_lcN j (fun x => some (t x)) hi hz ho fun A x hx => ?_⟩
  obtain ⟨f, h1, h2⟩ := T A x hx
  exact ⟨f, true, h1, hw, fun R H z w hz Q q => q R H (Grow.refl w.rh), fun _ => ⟨_, rfl, ue_of h2⟩, fun z => nomatch z⟩
theorem lcx_lcNIf {α : Type} {g : TG} {l : List α} {key : α → NK} {val : α → PyData} (hN : X.N.Nodup) (bo : List (Str × Nat)) (j : Nat) (k : α → Bool) (t : α → PyData) (hi : own[j]? = some (p, asN X.prog X.w X.K (l.map fun x => (key x, val x)))) (hz : l.length ≤ 100000) (ho : ∀ A : As, EX X G (own.set j (p, A)) iter (.v (.ref p))) (ok : BlkOk X.N X.env.scope scope bo) (hg : Bk X scope fun Y => PG Y tg g) (hw : GW g (bo.map (·.2)))
    (T : ∀ A : As, ∀ x ∈ l, ∃ f, GD X.K g (.d (key x).data) f ∧ (Bk X scope fun Y => ET Y (f (wipeG G (bo.map (·.2)))) (own.set j (p, A)) c (k x)) ∧ (k x = true → Bk X scope fun Y => EX Y (f (wipeG G (bo.map (·.2)))) (own.set j (p, A)) elt (.d (t x))))
    (hc : X.calm = true := by rfl) (hs : ∀ x, foldedSetIterable iter X.env x = pure x := by intro _; rfl) : LCX X G own (.ListComp elt [⟨tg, iter, [c], 0⟩] scope pos) (.d (.list ((l.filter k).map t))) := by
  have e : (l.filter k).map t = l.filterMap fun x => if k x = true then some (t x) else none := by
    rw [← List.filterMap_eq_map, ← List.filterMap_eq_filter, List.filterMap_filterMap]
    congr 1
    funext x
    cases q : k x <;> simp [Option.guard, q]
  rw [e]
  refine ⟨_, pe_lock (pe_lc (tt := uT X scope c) (te := uE X scope elt) hc hN (pi_nkeys pe_w) ok hg (fun s H C cl fp => pts_one ⟨fun pins s' σ H' Q I h => tW_run (h s H C cl fp) pins s' I⟩) (fun s H C cl fp => ⟨fun pins s' σ H' Q I h => eW_run (h s H C cl fp) pins s' I⟩) hs), fun y py spos i hy hyl hsw => ps_lock (ps_setLc (tt := uT X scope c) (te := uE X scope elt) hc hN hy hyl hsw (pi_nkeys pe_w) ok hg (fun s H C cl fp => pts_one ⟨fun pins s' σ H' Q I h => tW_run (h s H C cl fp) pins s' I⟩) (fun s H C cl fp => ⟨fun pins s' σ H' Q I h => eW_run (h s H C cl fp) pins s' I⟩) hs), ev_lcN j (fun x => if k x = true then some (t x) else none) hi hz ho fun A x hx => ?_⟩
  obtain ⟨f, h1, h2, h3⟩ := T A x hx
  exact ⟨f, k x, h1, hw, ut_of h2, fun q => ⟨_, if_pos q, ue_of (h3 q)⟩, fun q => if_neg (by rw [q]; exact Bool.false_ne_true)⟩
/-- a op b op' c -/
theorem ev_chain {r r' : R2} {ta tb tc : TE} {x y z : Sl} {k l : Bool} (ha : Ev X.K G own ta x) (hb : Ev X.K G own tb y) (hc : Ev X.K G own tc z) (hr : RD X.K own r x y (.d (.bool k))) (hr' : RD X.K own r' y z (.d (.bool l))) : Ev X.K G own (tChain r r' ta tb tc) (.d (.bool (k && l))) := fun R H z' w hz Q q =>
  ha R H z' w hz _ fun u R1 H1 g1 e1 => hb R1 H1 z' (w.grow g1) (hold_up g1.rr hz) _ fun v R2 H2 g2 e2 => hr R2 H2 u v ((w.grow g1).grow g2) (slr_up g2.rr e1) e2 _ fun o R3 H3 g3 e3 => ⟨k, dp_bool (d_slr e3), by
    have gg := (g1.trans g2).trans g3
    cases k with
    | false =>
      rw [if_neg Bool.false_ne_true]
      exact q _ R3 H3 gg (slr_d (.bl _))
    | true =>
      rw [if_pos rfl]
      exact hc R3 H3 z' (w.grow gg) (hold_up gg.rr hz) _ fun t R4 H4 g4 e4 => hr' R4 H4 v t ((w.grow gg).grow g4) (slr_up (g3.trans g4).rr e2) e4 Q fun o R5 H5 g5 e5 => q o R5 H5 ((gg.trans g4).trans g5) e5⟩
theorem x_chain {op op' : CmpOp} {r r' : R2} {z : Sl} {k l : Bool} (ho : OpR X (compareOp op) r) (ho' : OpR X (compareOp op') r') (hr : RD X.K own r x y (.d (.bool k))) (hr' : RD X.K own r' y z (.d (.bool l))) (ha : EX X G own a x) (hb : EX X G own b y) (hc : EX X G own c z) (hm : lastMarks [op, op'] [b, c] = false := by with_unfolding_all rfl) :
    EX X G own (.Compare a [op, op'] [b, c] pos) (.d (.bool (k && l))) := EX.of (pe_chain ho ho' pe_w pe_w pe_w hm) (ev_chain ha hb hc hr hr')
/-- is None, is not None -/
def isNonD : PyData → Bool
  | .none => true
  | _ => false
theorem rd_isN {d : PyData} : RD X.K own (fun x y H Q => y = .non ∧ Q (.bl (decide (x = .non))) H) (.d d) (.d .none) (.d (.bool (isNonD d))) := rd_now fun R H u v w ux uy Q q => by
  refine ⟨dp_none (d_slr uy), ?_⟩
  have h := d_slr ux
  have e : decide (u = V.non) = (isNonD d) := by
    cases h <;> first | rfl | (exact decide_eq_false nofun)
  rw [e]
  exact q _ (slr_d (.bl _))
theorem rd_notN {d : PyData} : RD X.K own (fun x y H Q => y = .non ∧ Q (.bl (!decide (x = .non))) H) (.d d) (.d .none) (.d (.bool (!(isNonD d)))) := rd_now fun R H u v w ux uy Q q => by
  refine ⟨dp_none (d_slr uy), ?_⟩
  have h := d_slr ux
  have e : decide (u = V.non) = (isNonD d) := by
    cases h <;> first | rfl | (exact decide_eq_false nofun)
  rw [e]
  exact q _ (slr_d (.bl _))
/-- ints in a tuple -/
theorem in_ints (z : Int) : ∀ ys : List Int, inV (vOf (.int z)) ((ys.map PyData.int).map vOf) = decide (z ∈ ys)
  | [] => rfl
  | y :: ys => by
    have ih := in_ints z ys
    unfold inV at ih ⊢
    rw [List.map_cons, List.map_cons, List.any_cons, ih]
    show (eqV (V.int y) (V.int z) || _) = _
    by_cases e : y = z
    · subst e; simp [eqV]
    · have e' : ¬ z = y := fun q => e q.symm
      simp [eqV, e, e']
theorem flat_intD (ys : List Int) : (ys.map PyData.int).all flatD = true := by
  rw [List.all_map]
  exact List.all_eq_true.mpr fun _ _ => rfl
theorem x_notInI {z : Int} {ys : List Int} (ha : EX X G own a (.d (.int z))) (hb : EX X G own b (.d (intsD ys))) (hm : behindInMarks .NotIn b = false := by rfl) : ET X G own (.Compare a [.NotIn] [b] pos) (!decide (z ∈ ys)) :=
  x_t (x_cmpT op_notIn_seq (rd_in (neg := true) rfl (flat_intD ys)) hm ha hb) (by rw [if_pos rfl, in_ints])
/-- tuple <= tuple, of ints -/
def leT (ns ms : List Int) : Bool := Ob.lexAt (fun j => decide (ns.getD j 0 = ms.getD j 0)) (fun j => decide (ns.getD j 0 ≤ ms.getD j 0)) (decide (ns.length ≤ ms.length)) 0 (min ns.length ms.length)
theorem rd_leT {ns ms : List Int} : RD X.K own (rLeT X.K) (.d (intsD ns)) (.d (intsD ms)) (.d (.bool (leT ns ms))) := rd_now fun R H u v w ux uy Q q => by
  obtain ⟨a, xs, rfl, h1, h2⟩ := dp_tup (d_slr ux)
  obtain ⟨b, ys, rfl, h3, h4⟩ := dp_tup (d_slr uy)
  have e1 := dps_ints h2
  have e2 := dps_ints h4
  subst e1 e2
  exact ⟨a, b, ns, ms, rfl, rfl, sqt_up w.rh h1, sqt_up w.rh h3, q _ (slr_d (.bl _))⟩
end
end CB

/-! Part 19: the walk: its mirror, where it stands. -/
namespace CB
open PySem PySem.Spec PyProof.Rows L2
structure Due where
  ower : Str
  owed : Str
  page : Page
  deriving DecidableEq
namespace Due
def enc (d : Due) : PyData := .tuple [.str d.ower, .str d.owed, d.page.enc]
def nk (d : Due) : NK := .tup [.text d.ower, .text d.owed, d.page.nk]
theorem nk_data (d : Due) : d.nk.data = d.enc := by
  show PyData.tuple [PyData.str d.ower, PyData.str d.owed, d.page.nk.data] = _
  rw [d.page.nk_data]
  rfl
theorem nk_t (d : Due) : NkT d.nk := ⟨⟨_, rfl⟩, by
  show max 0 (max 0 (max d.page.nk.depth 0)) + 1 ≤ 8
  have := d.page.nk_depth
  omega⟩
theorem nk_inj (d e : Due) (h : d.nk = e.nk) : d = e := by
  obtain ⟨a, b, p⟩ := d
  obtain ⟨a', b', p'⟩ := e
  simp only [nk, NestedKey.tup.injEq, List.cons.injEq, NestedKey.text.injEq, and_true] at h
  obtain ⟨h1, h2, h3⟩ := h
  rw [h1, h2, Page.nk_inj _ _ h3]
end Due
def srt (v : Bool) : Str := if v then "visit" else "card"
abbrev Tm := Int × Int
def termOf (t : Tm) (v : Bool) : Int := if v then t.1 else t.2
def stays (a b : List Int) : Bool :=
  if a.length ≠ b.length then decide (b.length < a.length)
  else if a ≠ [] ∧ a.getLast? ≠ b.getLast? then decide ((a.getLast?.getD 0) < (b.getLast?.getD 0)) else leT a b
structure Wk where
  lost : List Page
  homes : List (Str × List Int)
  mo : List (Str × List (Int × Int))
  sorts : List (Page × Bool)
  falls : List (Due × List Int)
  marks : List (Page × PyData)
  answers : List (Page × List Due)
  made : Int
  copied : Int
  struck : Int
  merged : Int
namespace Wk
def empty : Wk := ⟨[], [], [], [], [], [], [], 0, 0, 0, 0⟩
def mourns (s : Wk) (n : Str) (d : Int) : Bool := ((aGet s.mo n).getD []).any fun q => decide (q.1 ≤ d) && decide (d ≤ q.2)
def sortOf (s : Wk) (p : Page) : Bool := (aGet s.sorts p).getD false
def fallOf (s : Wk) (d : Due) : List Int := (aGet s.falls d).getD []
def keys (s : Wk) : List Due := s.falls.map (·.1)
def isMet (s : Wk) : Page → Bool
  | .visit d a b => decide (d % 7 ∈ (aGet s.homes b).getD []) && (!s.mourns a d && !s.mourns b d)
  | _ => false
def isPaid (s : Wk) (v : Bool) (one other : Str) (d : Due) : Bool := decide (d.ower = one ∧ d.owed = other) && (v || s.sortOf d.page == v)
def paid (s : Wk) (v : Bool) (one other : Str) : List Due := s.keys.filter (s.isPaid v one other)
def dropAll (s : Wk) (l : List Due) : Wk := l.foldl (fun s d => { s with falls := aDrop s.falls d }) s
def go (s : Wk) (p : Page) (one other : Str) : Wk × PyData :=
  let v := s.isMet p
  let l := s.paid v one other
  if l = [] then ({ s with sorts := aPut s.sorts p v, falls := aPut s.falls ⟨other, one, p⟩ [], made := s.made + 1 }, .tuple [.str "due"])
  else ({ s.dropAll l with answers := s.answers ++ [(p, l)] }, .tuple [.str "answer", .int l.length])
def part1 (name fresh : Str) (s : Wk) (d : Due) : Wk :=
  if d.ower = name then { s with falls := aPut s.falls ⟨fresh, d.owed, d.page⟩ (s.fallOf d), copied := s.copied + 1 } else s
def part (s : Wk) (name fresh : Str) : Wk := s.keys.foldl (part1 name fresh) s
def lay (s : Wk) (d : Due) (v : List Int) : Wk :=
  match aGet s.falls d with
  | none => { s with falls := aPut s.falls d v }
  | some t => if stays t v then { s with merged := s.merged + 1 } else { s with merged := s.merged + 1, falls := aPut s.falls d v }
def swap (name gone x : Str) : Str := if x = gone then name else x
def join1 (name gone : Str) (s : Wk) (d : Due) : Wk :=
  if d.ower = gone ∨ d.owed = gone then
    let v := s.fallOf d
    let s1 := { s with falls := aDrop s.falls d }
    if swap name gone d.ower = swap name gone d.owed then { s1 with struck := s1.struck + 1 } else s1.lay ⟨swap name gone d.ower, swap name gone d.owed, d.page⟩ v
  else s
def join (s : Wk) (name gone : Str) : Wk := s.keys.foldl (join1 name gone) s
def mourn (s : Wk) (n : Str) (q : Int × Int) : Wk := { s with mo := aPut s.mo n (((aGet s.mo n).getD []) ++ [q]) }
def put (s : Wk) (p : Page) : Wk × PyData :=
  if p ∈ s.lost then (s, .tuple [.str "idle"])
  else match p with
    | .card _ a b => s.go p a b
    | .visit _ a b => s.go p a b
    | .part _ a b h => ({ s.part a b with homes := aPut (s.part a b).homes b h }, .tuple [.str "done"])
    | .join _ a b => (s.join a b, .tuple [.str "done"])
    | .house _ n h => ({ s with homes := aPut s.homes n h }, .tuple [.str "done"])
    | .home _ n h => ({ s with homes := aPut s.homes n h }, .tuple [.str "done"])
    | .mourn d n k => (s.mourn n (d, d + k - 1), .tuple [.str "done"])
    | .ahead _ _ _ => (s, .tuple [.str "done"])
def open_ (t : Tm) (day : Int) (s : Wk) (d : Due) : Bool := decide (0 < termOf t (s.sortOf d.page) - (s.fallOf d).length) && (decide (d.page.day < day) && (!s.mourns d.ower day && !s.mourns d.owed day))
def fall1 (t : Tm) (day : Int) (s : Wk) (d : Due) : Wk := if open_ t day s d then { s with falls := aPut s.falls d (s.fallOf d ++ [day]) } else s
def fall (s : Wk) (t : Tm) (day : Int) : Wk := s.keys.foldl (fall1 t day) s
def mark (s : Wk) (p : Page) : Wk := { (s.put p).1 with marks := s.marks ++ [(p, (s.put p).2)] }
/-- the pages of a day, and what is left -/
def dayPages (day : Int) : List Page → Wk → List Page × Wk
  | [], s => ([], s)
  | p :: l, s => if p.day = day then dayPages day l (s.mark p) else (p :: l, s)
def day1 (t : Tm) (q : List Page × Wk) (day : Int) : List Page × Wk := ((dayPages day q.1 q.2).1, (dayPages day q.1 q.2).2.fall t day)
def days (lo : Int) (n : Nat) : List Int := (List.range n).map fun i : Nat => lo + ((i : Nat) : Int)
def first (l : List Page) (last : Int) : Int := match l with
  | [] => last + 1
  | p :: _ => p.day
/-- go_to -/
def walk (l : List Page) (t : Tm) (last : Int) : Wk :=
  ((days (first (upTo l last) last) (last + 1 - first (upTo l last) last).toNat).foldl (day1 t) (upTo l last, { empty with lost := dedup [] (Hs.run (upTo l last)).idle })).2
end Wk
/-! ### where it stands -/
structure WA where
  w : Addr
  lost : Addr
  homes : Addr
  mourned : Addr
  sorts : Addr
  falls : Addr
  marks : Addr
  answers : Addr
abbrev wC (K : PySem.W.Frag) : Addr := He.ga K "Walk"
def tmD (t : Tm) : PyData := .tuple [.int t.1, .int t.2]
def ivD (q : Int × Int) : PyData := .tuple [.int q.1, .int q.2]
def ivsD (l : List (Int × Int)) : List PyData := l.map ivD
def markD (q : Page × PyData) : PyData := .tuple [q.1.enc, q.2]
def ansD (q : Page × List Due) : PyData := .tuple [q.1.enc, .list (q.2.map Due.enc)]
def sortsN (l : List (Page × Bool)) : List (NK × PyData) := aMap Page.nk (fun v => .str (srt v)) l
def fallsN (l : List (Due × List Int)) : List (NK × PyData) := aMap Due.nk intsD l
def wF (a : WA) (bk : List Page) (t : Tm) (s : Wk) : List (Str × Sl) :=
  [("own_pages", .d (.tuple (bk.map Page.enc))), ("own_terms", .d (tmD t)), ("lost", .v (.ref a.lost)), ("homes", .v (.ref a.homes)), ("mourned", .v (.ref a.mourned)), ("sorts", .v (.ref a.sorts)), ("falls", .v (.ref a.falls)), ("marks", .v (.ref a.marks)), ("answers", .v (.ref a.answers)),
   ("made", .d (.int s.made)), ("copied", .d (.int s.copied)), ("struck", .d (.int s.struck)), ("merged", .d (.int s.merged))]
def wOwn (P : Program) (w : World) (K : PySem.W.Frag) (a : WA) (bk : List Page) (t : Tm) (s : Wk) (ml : Ml) : OL :=
  (a.w, asI K (wC K) (wF a bk t s)) :: (a.lost, asN P w K (trues s.lost)) :: (a.homes, asT K (homesT s.homes)) :: (a.mourned, asT K (mlT ml)) :: (a.sorts, asN P w K (sortsN s.sorts)) :: (a.falls, asN P w K (fallsN s.falls)) :: (a.marks, asL K (s.marks.map markD)) :: (a.answers, asL K (s.answers.map ansD)) :: mlO K ml
/-- the mourning lists read so -/
def MoR (s : Wk) (ml : Ml) : Prop := ml.map (fun q => (q.1, q.2.2)) = s.mo.map fun q => (q.1, ivsD q.2)
theorem sorts_get (l : List (Page × Bool)) (p : Page) : aGet (sortsN l) p.nk = (aGet l p).map fun v => PyData.str (srt v) := aMap_get Page.nk_inj p l
theorem sorts_put (l : List (Page × Bool)) (p : Page) (v : Bool) : aPut (sortsN l) p.nk (.str (srt v)) = sortsN (aPut l p v) := aMap_put Page.nk_inj p v l
theorem falls_get (l : List (Due × List Int)) (d : Due) : aGet (fallsN l) d.nk = (aGet l d).map intsD := aMap_get Due.nk_inj d l
theorem falls_put (l : List (Due × List Int)) (d : Due) (v : List Int) : aPut (fallsN l) d.nk (intsD v) = fallsN (aPut l d v) := aMap_put Due.nk_inj d v l
theorem falls_drop (l : List (Due × List Int)) (d : Due) : aDrop (fallsN l) d.nk = fallsN (aDrop l d) := aMap_drop Due.nk_inj d l
theorem sorts_len (l : List (Page × Bool)) : (sortsN l).length = l.length := aMap_len l
theorem falls_len (l : List (Due × List Int)) : (fallsN l).length = l.length := aMap_len l
theorem falls_keys (l : List (Due × List Int)) : (fallsN l).map (fun q => q.1.data) = (l.map (·.1)).map Due.enc := by
  unfold fallsN aMap
  rw [List.map_map, List.map_map]
  exact List.map_congr_left fun d _ => d.1.nk_data
theorem mo_get {s : Wk} {ml : Ml} (h : MoR s ml) (n : Str) : (aGet ml n).map (·.2) = (aGet s.mo n).map ivsD := by
  have e1 : aGet (ml.map fun q => (q.1, q.2.2)) n = (aGet ml n).map (·.2) := aMap_id_get (fun q : Addr × List PyData => q.2) ml n
  have e2 : aGet (s.mo.map fun q => (q.1, ivsD q.2)) n = (aGet s.mo n).map ivsD := aMap_id_get ivsD s.mo n
  rw [← e1, h, e2]
section
variable {P : Program} {w : World} {K : PySem.W.Frag} {mg : Str → Option Value} {base : Heap}
theorem sc_stays : FnScope ["one", "other"] ["one", "other"] (defScope s_stays) := ⟨rfl, rfl, rfl, by decide +kernel, rfl, by decide +kernel, by decide +kernel⟩
theorem eqv_intsD (a b : List Int) : PyData.eqv (intsD a) (intsD b) = decide (a = b) := by rw [PyData.eqv, eqv_ints]
theorem shaped_intsD (a : List Int) : SeqAt.shaped (intsD a) = true := by
  unfold SeqAt.shaped
  rw [PyData.canLay0, canLay_ints, Bool.true_and, PyData.depth, depth_ints]
  rfl
theorem atI_lastD {l : List Int} {z : Int} (h : l.getLast? = some z) : atI (l.map PyData.int) (-1) = some (.int z) := by
  obtain ⟨r, e⟩ : ∃ r, l = r ++ [z] := by
    cases l with
    | nil => cases h
    | cons x l =>
      refine ⟨(x :: l).dropLast, ?_⟩
      rw [List.getLast?_eq_getLast (List.cons_ne_nil x l)] at h
      have h2 := Option.some.inj h
      rw [← h2]
      exact (List.dropLast_concat_getLast (List.cons_ne_nil x l)).symm
  rw [e, List.map_append]
  exact atI_last _ _
theorem x_neg {X : Cx} {G : List Sl} {own : OL} {a : Expr} {pos : Pos} {i : Int} (h : EX X G own a (.d (.int i))) : EX X G own (.UnaryOp .USub a pos) (.d (.int (-i))) := EX.of (pe_un un_neg pe_w) fun R H z w hz Q q => h R H z w hz _ fun v R1 H1 g1 e1 => ⟨i, dp_int (d_slr e1), q _ R1 H1 g1 (slr_d (.int _))⟩
theorem g_stays (T : Tx K mg) : Gd P w K mg base 1 "stays" 2 (spD K fun ss s => ∃ (a b : List Int), ss = [.d (intsD a), .d (intsD b)] ∧ s = .d (.bool (stays a b))) := by
  obtain ⟨fd, F⟩ := T.fun_stays
  refine gd_mk F rfl (okD (k := 0) F sc_stays (fun _ _ ⟨_, _, e, _⟩ => by rw [e]; rfl) ?_) T.glo_stays fun _ _ _ _ _ _ us hl => match us, hl with | [_, _], _ => rfl
  rintro cd A outer s H0 E hr ss r B D ⟨a, b, rfl, rfl⟩ hF hD
  have hu := hr.units
  refine g_if (k := !decide (a.length = b.length)) (x_t (x_cmpT op_ne rd_neI rfl (x_cb call_len_seq T.free_len rc_lenT (a_cons (x_var 0) a_nil)) (x_cb call_len_seq T.free_len rc_lenT (a_cons (x_var 1) a_nil))) ?_) (fun hb => ?_) fun hb => g_end ?_
  · rw [List.length_map, List.length_map]
    congr 1
    exact decide_eq_decide.mpr ⟨fun h => by omega, fun h => by rw [h]⟩
  · have hb' : a.length ≠ b.length := by simpa using hb
    refine g_ret (x_is (x_cmp op_gt rd_Ib rfl (x_cb call_len_seq T.free_len rc_lenT (a_cons (x_var 0) a_nil)) (x_cb call_len_seq T.free_len rc_lenT (a_cons (x_var 1) a_nil))) ?_) fun v R H p e => hD.1 _ _ v R H rfl p e
    unfold stays
    rw [if_pos hb', List.length_map, List.length_map]
    congr 2
    exact decide_eq_decide.mpr (by omega)
  have hb' : ¬ a.length ≠ b.length := by simpa using hb
  have hb2 : a.length = b.length := by simpa using hb
  by_cases ha : a = []
  · have e1 : stays a b = leT a b := by
      unfold stays
      rw [if_neg hb', if_neg (fun h => h.1 ha)]
    refine g_if (k := false) (x_pw (x_and (k := false) (l := true) (x_t (x_cmpT (op_neD hu) (rd_neD (shaped_intsD a) (shaped_intsD [])) rfl (x_var 0) (x_tup (ds := []) a_nil)) ?_) (fun h => ff h))) (fun h => ff h) fun _ => g_end ?_
    · show (!PyData.eqv (intsD a) (intsD [])) = false
      rw [eqv_intsD, decide_eq_true ha]; rfl
    · exact g_ret (x_is (x_cmp (op_leT hr.units0) rd_leT rfl (x_var 0) (x_var 1)) (by rw [e1])) fun v R H p e => hD.1 _ _ v R H rfl p e
  · obtain ⟨x, hx⟩ : ∃ x, a.getLast? = some x := by
      cases h : a.getLast? with
      | none => exact absurd (List.getLast?_eq_none_iff.mp h) ha
      | some x => exact ⟨x, rfl⟩
    have hbn : b ≠ [] := fun h => by
      rw [h] at hb2
      exact ha (List.length_eq_zero_iff.mp hb2)
    obtain ⟨y, hy⟩ : ∃ y, b.getLast? = some y := by
      cases h : b.getLast? with
      | none => exact absurd (List.getLast?_eq_none_iff.mp h) hbn
      | some x => exact ⟨x, rfl⟩
    refine g_if (k := !decide (x = y)) (x_pw (x_and (k := true) (x_t (x_cmpT (op_neD hu) (rd_neD (shaped_intsD a) (shaped_intsD [])) rfl (x_var 0) (x_tup (ds := []) a_nil)) ?_) fun _ => x_and1 (x_cmpT op_ne rd_neI rfl (x_ixT (x_var 0) (x_neg x_int) (atI_lastD hx)) (x_ixT (x_var 1) (x_neg x_int) (atI_lastD hy))))) (fun h => ?_) fun h => g_end ?_
    · show (!PyData.eqv (intsD a) (intsD [])) = true
      rw [eqv_intsD, decide_eq_false ha]; rfl
    · have hxy : x ≠ y := by simpa using h
      have e1 : stays a b = decide (x < y) := by
        unfold stays
        rw [if_neg hb', if_pos ⟨ha, by rw [hx, hy]; exact fun z => hxy (Option.some.inj z)⟩, hx, hy]
        rfl
      exact g_ret (x_is (x_cmp op_lt rd_Ib rfl (x_ixT (x_var 0) (x_neg x_int) (atI_lastD hx)) (x_ixT (x_var 1) (x_neg x_int) (atI_lastD hy))) (by rw [e1])) fun v R H p e => hD.1 _ _ v R H rfl p e
    · have hxy : x = y := by simpa using h
      have e1 : stays a b = leT a b := by
        unfold stays
        rw [if_neg hb', if_neg (fun z => z.2 (by rw [hx, hy, hxy]))]
      exact g_ret (x_is (x_cmp (op_leT hr.units0) rd_leT rfl (x_var 0) (x_var 1)) (by rw [e1])) fun v R H p e => hD.1 _ _ v R H rfl p e
theorem sc_term_of : FnScope ["terms", "sort"] ["terms", "sort"] (defScope s_term_of) := ⟨rfl, rfl, rfl, by decide +kernel, rfl, by decide +kernel, by decide +kernel⟩
theorem srt_visit (v : Bool) : decide (srt v = ("visit" : Str)) = v := by cases v <;> rfl
theorem g_term_of (T : Tx K mg) : Gd P w K mg base 1 "term_of" 2 (spD K fun ss s => ∃ (t : Tm) (v : Bool), ss = [.d (tmD t), .d (.str (srt v))] ∧ s = .d (.int (termOf t v))) := by
  obtain ⟨fd, F⟩ := T.fun_term_of
  refine gd_mk F rfl (okD (k := 0) F sc_term_of (fun _ _ ⟨_, _, e, _⟩ => by rw [e]; rfl) ?_) T.glo_term_of fun _ _ _ _ _ _ us hl => match us, hl with | [_, _], _ => rfl
  rintro cd A outer s H0 E hr ss r B D ⟨t, v, rfl, rfl⟩ hF hD
  refine g_ret (x_if (k := v) (x_t (x_cmpT op_eq rd_eqS rfl (x_var 1) x_str) (srt_visit v)) (fun h => x_is (x_ixn 0 (x_var 0) x_int) (by rw [h]; rfl)) fun h => x_is (x_ixn 1 (x_var 0) x_int) (by rw [h]; rfl)) fun v R H p e => hD.1 _ _ v R H rfl p e
end
end CB

/-! Part 20: what stays true of the walk's state; init, mourns, is_met. -/
namespace CB
open PySem PySem.Spec PyProof.Rows L2
theorem nodup_le {α : Type} [DecidableEq α] : ∀ {l m : List α}, l.Nodup → (∀ x ∈ l, x ∈ m) → l.length ≤ m.length
  | [], _, _, _ => Nat.zero_le _
  | x :: l, m, nd, h => by
    obtain ⟨n1, n2⟩ := List.nodup_cons.mp nd
    have hx := h x List.mem_cons_self
    have := nodup_le (l := l) (m := m.erase x) n2 fun y hy => (List.mem_erase_of_ne fun e => n1 (by rw [← e]; exact hy)).mpr (h y (List.mem_cons_of_mem _ hy))
    rw [List.length_erase_of_mem hx] at this
    have hm := List.length_pos_of_mem hx
    rw [List.length_cons]
    omega
/-- the names and the pages that there are -/
structure En (NS : List Str) (PS : List Page) : Prop where
  hn : NS.length ≤ 9
  hp : PS.length ≤ 40
  nok : ∀ n ∈ NS, Nok n
  pn : ∀ p ∈ PS, ∀ n ∈ p.names, n ∈ NS
theorem En.ok {NS : List Str} {PS : List Page} (e : En NS PS) {p : Page} (h : p ∈ PS) : p.ok := fun n hn => e.nok n (e.pn p h n hn)
/-- what stands as falls: not long, and days -/
def Vok (v : List Int) : Prop := v.length ≤ 100 ∧ ∀ i ∈ v, i.natAbs < 1000000
def Page.going (p : Page) : Prop := p.isR 6 = true ∨ p.isR 7 = true
def Dok (NS : List Str) (PS : List Page) (d : Due) : Prop := d.ower ∈ NS ∧ d.owed ∈ NS ∧ d.page ∈ PS ∧ d.page.going
structure WV (NS : List Str) (PS : List Page) (n : Nat) (s : Wk) (ml : Ml) : Prop where
  mor : MoR s ml
  nd : s.keys.Nodup
  fk : ∀ d ∈ s.keys, d.ower ∈ NS ∧ d.owed ∈ NS ∧ d.page ∈ PS ∧ (aGet s.sorts d.page).isSome = true
  lh : s.homes.length ≤ n
  lm : s.mo.length ≤ n
  ll : ∀ q ∈ ml, q.2.2.length ≤ n
  ls : s.sorts.length ≤ n
  lk : s.marks.length ≤ n
  la : s.answers.length ≤ n
  fl : ∀ q ∈ s.falls, Vok q.2
  sg : ∀ q ∈ s.sorts, q.1.going
  an : ∀ q ∈ s.answers, q.1 ∈ PS ∧ q.2.length ≤ 40 ∧ ∀ d ∈ q.2, Dok NS PS d
  mn : (s.mo.map (·.1)).Nodup
def allDues (NS : List Str) (PS : List Page) : List Due := NS.flatMap fun a => NS.flatMap fun b => PS.map fun p => ⟨a, b, p⟩
theorem allDues_mem {NS : List Str} {PS : List Page} {d : Due} (h1 : d.ower ∈ NS) (h2 : d.owed ∈ NS) (h3 : d.page ∈ PS) : d ∈ allDues NS PS :=
  List.mem_flatMap.mpr ⟨_, h1, List.mem_flatMap.mpr ⟨_, h2, List.mem_map.mpr ⟨_, h3, rfl⟩⟩⟩
theorem flat_len {α β : Type} (f : α → List β) (k : Nat) : ∀ (l : List α), (∀ x ∈ l, (f x).length ≤ k) → (l.flatMap f).length ≤ l.length * k
  | [], _ => Nat.zero_le _
  | x :: l, h => by
    rw [List.flatMap_cons, List.length_append, List.length_cons, Nat.succ_mul]
    have h1 := h x List.mem_cons_self
    have h2 := flat_len f k l fun y hy => h y (List.mem_cons_of_mem _ hy)
    omega
theorem allDues_len {NS : List Str} {PS : List Page} (e : En NS PS) : (allDues NS PS).length ≤ 3240 := by
  have h1 : ∀ a ∈ NS, (NS.flatMap fun b => PS.map fun p => (⟨a, b, p⟩ : Due)).length ≤ 9 * 40 := fun a _ => by
    have := flat_len (fun b => PS.map fun p => (⟨a, b, p⟩ : Due)) 40 NS fun b _ => by rw [List.length_map]; exact e.hp
    exact Nat.le_trans this (Nat.mul_le_mul_right _ e.hn)
  exact Nat.le_trans (flat_len _ _ NS h1) (Nat.mul_le_mul_right (9 * 40) e.hn)
section
variable {NS : List Str} {PS : List Page} {n : Nat} {s : Wk} {ml : Ml}
theorem WV.lf (h : WV NS PS n s ml) (e : En NS PS) : s.falls.length ≤ 3240 := by
  have h1 := nodup_le h.nd (m := allDues NS PS) fun d hd => allDues_mem (h.fk d hd).1 (h.fk d hd).2.1 (h.fk d hd).2.2.1
  have h2 := allDues_len e
  unfold Wk.keys at h1
  rw [List.length_map] at h1
  omega
theorem keys_put (s : Wk) (d x : Due) (v : List Int) : x ∈ (aPut s.falls d v).map (·.1) ↔ x ∈ s.keys ∨ x = d := by
  rw [aPut_keys]
  unfold Wk.keys
  by_cases h : d ∈ s.falls.map (·.1)
  · rw [if_pos h]
    constructor
    · exact .inl
    · rintro (z | z)
      · exact z
      · rw [z]; exact h
  · rw [if_neg h, List.mem_append, List.mem_singleton]
theorem keys_drop (s : Wk) (d x : Due) : x ∈ (aDrop s.falls d).map (·.1) → x ∈ s.keys := fun h => by
  obtain ⟨q, hq, e⟩ := List.mem_map.mp h
  exact List.mem_map.mpr ⟨q, (List.mem_filter.mp hq).1, e⟩
theorem keys_drop_iff (s : Wk) (d x : Due) : x ∈ (aDrop s.falls d).map (·.1) ↔ x ∈ s.keys ∧ x ≠ d := by
  unfold aDrop Wk.keys
  constructor
  · intro h
    obtain ⟨q, hq, e⟩ := List.mem_map.mp h
    obtain ⟨h1, h2⟩ := List.mem_filter.mp hq
    exact ⟨List.mem_map.mpr ⟨q, h1, e⟩, by rw [← e]; simpa using h2⟩
  · rintro ⟨h1, h2⟩
    obtain ⟨q, hq, e⟩ := List.mem_map.mp h1
    exact List.mem_map.mpr ⟨q, List.mem_filter.mpr ⟨hq, by rw [e]; simpa using h2⟩, e⟩
theorem aPut_mem {κ β : Type} [DecidableEq κ] {l : List (κ × β)} {k : κ} {v : β} {q : κ × β} (h : q ∈ aPut l k v) : q ∈ l ∨ (q.1 = k ∧ q.2 = v) := by
  unfold aPut at h
  split at h
  · obtain ⟨p, hp, e⟩ := List.mem_map.mp h
    by_cases c : p.1 = k
    · rw [if_pos c] at e
      right
      rw [← e]
      exact ⟨c, rfl⟩
    · rw [if_neg c] at e
      left
      rw [← e]
      exact hp
  · rcases List.mem_append.mp h with h | h
    · exact .inl h
    · right
      have : q = (k, v) := by simpa using h
      rw [this]
      exact ⟨rfl, rfl⟩
theorem WV.put (h : WV NS PS n s ml) {d : Due} {v : List Int} (hv : Vok v) (h1 : d.ower ∈ NS) (h2 : d.owed ∈ NS) (h3 : d.page ∈ PS) (h4 : (aGet s.sorts d.page).isSome = true) : WV NS PS n { s with falls := aPut s.falls d v } ml :=
  ⟨h.mor, aPut_nd h.nd, fun x hx => by
    rcases (keys_put s d x v).mp hx with z | z
    · exact h.fk x z
    · rw [z]; exact ⟨h1, h2, h3, h4⟩, h.lh, h.lm, h.ll, h.ls, h.lk, h.la, fun q hq => by
    rcases aPut_mem hq with z | z
    · exact h.fl q z
    · rw [z.2]; exact hv, h.sg, h.an, h.mn⟩
theorem WV.drop (h : WV NS PS n s ml) (d : Due) : WV NS PS n { s with falls := aDrop s.falls d } ml :=
  ⟨h.mor, aDrop_nd h.nd, fun x hx => h.fk x (keys_drop s d x hx), h.lh, h.lm, h.ll, h.ls, h.lk, h.la, (fun q hq => h.fl q (List.mem_filter.mp hq).1), h.sg, h.an, h.mn⟩
theorem WV.cop (h : WV NS PS n s ml) (i : Int) : WV NS PS n { s with copied := i } ml := ⟨h.mor, h.nd, h.fk, h.lh, h.lm, h.ll, h.ls, h.lk, h.la, h.fl, h.sg, h.an, h.mn⟩
theorem WV.str (h : WV NS PS n s ml) (i : Int) : WV NS PS n { s with struck := i } ml := ⟨h.mor, h.nd, h.fk, h.lh, h.lm, h.ll, h.ls, h.lk, h.la, h.fl, h.sg, h.an, h.mn⟩
theorem WV.mer (h : WV NS PS n s ml) (i : Int) : WV NS PS n { s with merged := i } ml := ⟨h.mor, h.nd, h.fk, h.lh, h.lm, h.ll, h.ls, h.lk, h.la, h.fl, h.sg, h.an, h.mn⟩
theorem WV.mad (h : WV NS PS n s ml) (i : Int) : WV NS PS n { s with made := i } ml := ⟨h.mor, h.nd, h.fk, h.lh, h.lm, h.ll, h.ls, h.lk, h.la, h.fl, h.sg, h.an, h.mn⟩
theorem WV.mono (h : WV NS PS n s ml) : WV NS PS (n + 1) s ml := ⟨h.mor, h.nd, h.fk, Nat.le_succ_of_le h.lh, Nat.le_succ_of_le h.lm, fun q hq => Nat.le_succ_of_le (h.ll q hq), Nat.le_succ_of_le h.ls, Nat.le_succ_of_le h.lk, Nat.le_succ_of_le h.la, h.fl, h.sg, h.an, h.mn⟩
theorem get_of_key {d : Due} (h : d ∈ s.keys) : aGet s.falls d = some (s.fallOf d) := by
  obtain ⟨v, hv⟩ := some_of (aGet_mem.mp h)
  unfold Wk.fallOf
  rw [hv]
  rfl
theorem WV.fo (h : WV NS PS n s ml) {d : Due} (hd : d ∈ s.keys) : Vok (s.fallOf d) := h.fl _ (aGet_some_mem (get_of_key hd))
theorem WV.gg (h : WV NS PS n s ml) {d : Due} (hd : d ∈ s.keys) : Dok NS PS d := by
  obtain ⟨h1, h2, h3, h4⟩ := h.fk d hd
  obtain ⟨v, hv⟩ := some_of h4
  exact ⟨h1, h2, h3, h.sg _ (aGet_some_mem hv)⟩
theorem sort_of_some {p : Page} (h : (aGet s.sorts p).isSome = true) : aGet s.sorts p = some (s.sortOf p) := by
  obtain ⟨v, hv⟩ := some_of h
  unfold Wk.sortOf
  rw [hv]
  rfl
end
section
variable {P : Program} {w : World} {K : PySem.W.Frag} {mg : Str → Option Value} {base : Heap}
theorem sc_W_init : FnScope ["self", "book", "terms"] ["self", "book", "terms"] (defScope s_Walk_init) := ⟨rfl, rfl, rfl, by decide +kernel, rfl, by decide +kernel, by decide +kernel⟩
theorem g_W_init (T : Tx K mg) : GdC P w K mg base 1 "Walk" (wC K) (spM K fun oc ss C => ∃ p bk t, oc = [(p, asI K (wC K) [])] ∧ ss = [.v (.ref p), .d (.tuple (bk.map Page.enc)), .d (tmD t)] ∧ C = fun o r => ∃ a : WA, a.w = p ∧ o.Perm (wOwn P w K a bk t Wk.empty []) ∧ r = .d .none) := by
  obtain ⟨fd, F⟩ := T.fun_Walk_init
  refine gdC_mk F (okM (k := 0) F sc_W_init (fun _ _ _ ⟨_, _, _, _, e, _⟩ => by rw [e]; rfl) ?_) T.mkr_Walk T.glo_Walk fun _ _ _ _ _ _ us hl => match us, hl with | [_, _, _], _ => rfl
  rintro cd A outer s H0 E hr oc ss C B D ⟨p, bk, t, rfl, rfl, rfl⟩ hF hD
  refine g_fld (hl := Nat.le_of_ble_eq_true rfl) 0 (fun ow => x_var 0) (x_var 1) T.cls_Walk T.na_Walk_own_pages ?_
  refine g_fld (hl := Nat.le_of_ble_eq_true rfl) 0 (fun ow => x_var 0) (x_var 2) T.cls_Walk T.na_Walk_own_terms ?_
  refine g_fldM (fun ow => x_var 0) m_nnew T.cls_Walk T.na_Walk_lost ?_
  rintro o t1 ⟨p1, rfl, rfl⟩
  refine ⟨1, _, rfl, Nat.le_of_ble_eq_true rfl, ?_⟩
  refine g_fldM (fun ow => x_var 0) m_tnew T.cls_Walk T.na_Walk_homes ?_
  rintro o t1 ⟨p2, rfl, rfl⟩
  refine ⟨2, _, rfl, Nat.le_of_ble_eq_true rfl, ?_⟩
  refine g_fldM (fun ow => x_var 0) m_tnew T.cls_Walk T.na_Walk_mourned ?_
  rintro o t1 ⟨p3, rfl, rfl⟩
  refine ⟨3, _, rfl, Nat.le_of_ble_eq_true rfl, ?_⟩
  refine g_fldM (fun ow => x_var 0) m_nnew T.cls_Walk T.na_Walk_sorts ?_
  rintro o t1 ⟨p4, rfl, rfl⟩
  refine ⟨4, _, rfl, Nat.le_of_ble_eq_true rfl, ?_⟩
  refine g_fldM (fun ow => x_var 0) m_nnew T.cls_Walk T.na_Walk_falls ?_
  rintro o t1 ⟨p5, rfl, rfl⟩
  refine ⟨5, _, rfl, Nat.le_of_ble_eq_true rfl, ?_⟩
  refine g_fldM (fun ow => x_var 0) m_lnew T.cls_Walk T.na_Walk_marks ?_
  rintro o t1 ⟨p6, rfl, rfl⟩
  refine ⟨6, _, rfl, Nat.le_of_ble_eq_true rfl, ?_⟩
  refine g_fldM (fun ow => x_var 0) m_lnew T.cls_Walk T.na_Walk_answers ?_
  rintro o t1 ⟨p7, rfl, rfl⟩
  refine ⟨7, _, rfl, Nat.le_of_ble_eq_true rfl, ?_⟩
  refine g_fld (hl := Nat.le_of_ble_eq_true rfl) 7 (fun ow => x_var 0) x_int T.cls_Walk T.na_Walk_made ?_
  refine g_fld (hl := Nat.le_of_ble_eq_true rfl) 7 (fun ow => x_var 0) x_int T.cls_Walk T.na_Walk_copied ?_
  refine g_fld (hl := Nat.le_of_ble_eq_true rfl) 7 (fun ow => x_var 0) x_int T.cls_Walk T.na_Walk_struck ?_
  refine g_fld (hl := Nat.le_of_ble_eq_true rfl) 7 (fun ow => x_var 0) x_int T.cls_Walk T.na_Walk_merged ?_
  refine g_nil fun R H z q hz => hD.2 _ z R H ⟨⟨p, p1, p2, p3, p4, p5, p6, p7⟩, rfl, ?_, rfl⟩ q
  exact (List.reverse_perm _).symm
theorem sc_W_mourns : FnScope ["self", "name", "day", "first", "last"] ["self", "name", "day"] (defScope s_Walk_mourns) := ⟨rfl, rfl, rfl, by decide +kernel, rfl, by decide +kernel, by decide +kernel⟩
theorem g_W_mourns (T : Tx K mg) : GdM P w K mg base 1 (wC K) "mourns" (spP K fun oc ss r => ∃ a bk t s ml n d, MoR s ml ∧ (∀ q ∈ ml, q.2.2.length ≤ 1000) ∧ oc = wOwn P w K a bk t s ml ∧ ss = [.v (.ref a.w), .d (.str n), .d (.int d)] ∧ r = .d (.bool (s.mourns n d))) := by
  obtain ⟨fd, F⟩ := T.fun_Walk_mourns
  refine gdM_mk F (okR (k := 0) F sc_W_mourns (fun _ _ _ ⟨_, _, _, _, _, _, _, _, _, _, e, _⟩ => by rw [e]; rfl) rfl ?_) T.me_Walk_mourns fun _ _ _ _ _ _ us hl => match us, hl with | [_, _, _], _ => rfl
  rintro cd A outer s0 H0 E hr oc ss r ⟨a, bk, t, s, ml, n, d, hm, hl, rfl, rfl, rfl⟩
  have hu : (A.deeper (envOfC "Walk.mourns" (defScope s_Walk_mourns) s0.heap.objs.size (He.fAd K ("Walk", some "mourns")) cd)).units + 1 < cLine := by have := hr.units; omega
  have hmo := mo_get hm n
  refine x_is (x_cb (cr_any rfl) T.free_any (rc_any (bs := ((aGet s.mo n).getD []).map fun q => decide (q.1 ≤ d) && decide (d ≤ q.2))) (a_cons ?_ a_nil)) (by
    unfold Wk.mourns
    rw [List.any_map]
    rfl)
  cases q : aGet ml n with
  | none =>
    rw [q] at hmo
    have e0 : aGet s.mo n = none := by
      cases z : aGet s.mo n with
      | none => rfl
      | some y => rw [z] at hmo; cases hmo
    rw [e0]
    exact x_lc (l := ([] : List (Int × Int))) (enc := ivD) sc_W_mourns.nd [("first", 3), ("last", 4)] (fun q => .bool (decide (q.1 ≤ d) && decide (d ≤ q.2))) (src_list (x_tget2 (p := a.mourned) (n := n) (kvs := mlT ml) (x := .d (.list [])) 3 hu (x_fld 0 (x_var 0) T.cls_Walk T.na_Walk_mourned) (x_var 1) (x_lst (ds := []) a_nil) (by rw [mlT_get, q]; rfl))) (fun _ _ _ => trivial) (Nat.zero_le _) (blkOk_by (N := ["self", "name", "day", "first", "last"]) (sc := defScope s_Walk_mourns) (by decide +kernel))
      (fun _ _ _ _ _ => pg_tup rfl (pgs_cons (pg_name (i := 3) sc_W_mourns.nd rfl (.inl rfl)) (pgs_cons (pg_name (i := 4) sc_W_mourns.nd rfl (.inl rfl)) pgs_nil))) (gw_tup2 (K := K) (n := 2) (by decide) (by decide)) (fun x hx => nomatch hx)
  | some y =>
    obtain ⟨p, ds⟩ := y
    rw [q] at hmo
    obtain ⟨ivs, e0⟩ : ∃ ivs, aGet s.mo n = some ivs := by
      cases z : aGet s.mo n with
      | none => rw [z] at hmo; cases hmo
      | some y => exact ⟨y, rfl⟩
    rw [e0] at hmo
    have eds : ds = ivs.map ivD := Option.some.inj hmo
    obtain ⟨i, hi⟩ := aGet_ix q
    rw [e0]
    have hin : (mlO K ml)[i]? = some (p, asL K (ivs.map ivD)) := by rw [← eds]; exact mlO_get hi
    refine x_is (x_lc (l := ivs) (enc := ivD) sc_W_mourns.nd [("first", 3), ("last", 4)] (fun q => .bool (decide (q.1 ≤ d) && decide (d ≤ q.2))) (src_own (p := p) (i + 8) (x_tget2 (s := .v (.ref p)) (p := a.mourned) (n := n) (kvs := mlT ml) (x := .d (.list [])) 3 hu (x_fld 0 (x_var 0) T.cls_Walk T.na_Walk_mourned) (x_var 1) (x_lst (ds := []) a_nil) (by rw [mlT_get, q]; rfl)) hin) (stands_of (i := i + 8) hin) ?_ (blkOk_by (N := ["self", "name", "day", "first", "last"]) (sc := defScope s_Walk_mourns) (by decide +kernel))
      (fun _ _ _ _ _ => pg_tup rfl (pgs_cons (pg_name (i := 3) sc_W_mourns.nd rfl (.inl rfl)) (pgs_cons (pg_name (i := 4) sc_W_mourns.nd rfl (.inl rfl)) pgs_nil))) (gw_tup2 (K := K) (n := 2) (by decide) (by decide)) fun x hx => ?_) ?_
    · have h1 := hl _ (List.mem_of_getElem? hi)
      have h2 : ds.length ≤ 1000 := h1
      rw [eds, List.length_map] at h2
      omega
    · exact ⟨_, gd_tup (gds_cons gd_name (gds_cons gd_name gds_nil)) rfl, fun _ _ _ _ _ => x_chain op_le op_le rd_Ib rd_Ib (x_var 3) (x_var 2) (x_var 4)⟩
    · show Sl.d (.list _) = Sl.d (.list (((some ivs).getD []).map _ |>.map PyData.bool))
      rw [List.map_map]
      rfl
end
end CB

/-! Part 21: is_met, go. -/
namespace CB
open PySem PySem.Spec PyProof.Rows L2
theorem x_notV {X : Cx} {G : List Sl} {own : OL} {a : Expr} {pos : Pos} {k : Bool} (h : EX X G own a (.d (.bool k))) : EX X G own (.UnaryOp .Not a pos) (.d (.bool (!k))) := EX.of (pe_not pe_w) (ev_notV h)
theorem isR_visit (p : Page) : decide (p.kind = ("visit" : Str)) = p.isR 7 := by cases p <;> rfl
/-- a going page -/
inductive Goes : Page → Str → Str → Prop
  | card (d : Int) (a b : Str) : Goes (.card d a b) a b
  | visit (d : Int) (a b : Str) : Goes (.visit d a b) a b
theorem Goes.enc {p : Page} {a b : Str} (h : Goes p a b) : p.enc = .tuple [.str p.kind, .int p.day, .str a, .str b] := by cases h <;> rfl
section
variable {P : Program} {w : World} {K : PySem.W.Frag} {mg : Str → Option Value} {base : Heap}
theorem sc_W_is_met : FnScope ["self", "page", "kind", "day", "one", "other"] ["self", "page"] (defScope s_Walk_is_met) := ⟨rfl, rfl, rfl, by decide +kernel, rfl, by decide +kernel, by decide +kernel⟩
theorem g_W_is_met (T : Tx K mg) : GdM P w K mg base 2 (wC K) "is_met" (spM K fun oc ss C => ∃ a bk t s ml p x y, MoR s ml ∧ (∀ q ∈ ml, q.2.2.length ≤ 1000) ∧ Goes p x y ∧ (p.isR 7 = true → (aGet s.homes y).isSome = true) ∧ oc = wOwn P w K a bk t s ml ∧ ss = [.v (.ref a.w), .d p.enc] ∧ C = Is oc (.d (.bool (s.isMet p)))) := by
  obtain ⟨fd, F⟩ := T.fun_Walk_is_met
  refine gdM_mk F (okM (k := 1) F sc_W_is_met (fun _ _ _ ⟨_, _, _, _, _, _, _, _, _, _, _, _, _, e, _⟩ => by rw [e]; rfl) ?_) T.me_Walk_is_met fun _ _ _ _ _ _ us hl => match us, hl with | [_, _], _ => rfl
  rintro cd A outer s0 H0 E hr oc ss C B D ⟨a, bk, t, s, ml, p, x, y, hm, hl, hg, hh, rfl, rfl, rfl⟩ hF hD
  have hu : (A.deeper (envOfC "Walk.is_met" (defScope s_Walk_is_met) s0.heap.objs.size (He.fAd K ("Walk", some "is_met")) cd)).units + 1 < cLine := by have := hr.units; omega
  refine g_asg (x_is (x_var 1) (congrArg Sl.d hg.enc)) (pg_tup rfl (pgs_cons (pg_name (i := 2) sc_W_is_met.nd rfl (.inl rfl)) (pgs_cons (pg_name (i := 3) sc_W_is_met.nd rfl (.inl rfl)) (pgs_cons (pg_name (i := 4) sc_W_is_met.nd rfl (.inl rfl)) (pgs_cons (pg_name (i := 5) sc_W_is_met.nd rfl (.inl rfl)) pgs_nil)))))
    (gd_tup (gds_cons gd_name (gds_cons gd_name (gds_cons gd_name (gds_cons gd_name gds_nil)))) rfl) ?_
  cases hg with
  | card d x y =>
    refine g_if (k := true) (x_pw (x_or (k := true) (l := true) (x_t (x_cmpT op_ne rd_neS rfl (x_var 2) x_str) rfl) (fun h => ff h.symm))) (fun _ => ?_) (fun h => ff h.symm)
    exact g_ret x_bl fun v R H q e => hD.1 _ _ v R H ⟨rfl, rfl⟩ q e
  | visit d x y =>
    obtain ⟨hm2, hx⟩ := some_of (hh rfl)
    refine g_if (k := !decide (d % 7 ∈ hm2)) (x_pw (x_or (k := false) (l := !decide (d % 7 ∈ hm2)) (x_t (x_cmpT op_ne rd_neS rfl (x_var 2) x_str) rfl) fun _ => x_or1 (x_notInI (x_mod (by decide) (x_var 3) (x_globI T.int_WEEK)) (x_tget (s := .d (intsD hm2)) (p := a.homes) (n := y) (kvs := homesT s.homes) 2 hu (x_fld 0 (x_var 0) T.cls_Walk T.na_Walk_homes) (x_var 5) (by unfold homesT; rw [aMap_id_get, hx]; rfl))))) (fun hb => ?_) fun hb => g_end ?_
    · have e1 : s.isMet (.visit d x y) = false := by
        show (decide (d % 7 ∈ (aGet s.homes y).getD []) && _) = false
        have hb' : ¬ d % 7 ∈ hm2 := by simpa using hb
        rw [hx]
        show (decide (d % 7 ∈ hm2) && _) = false
        rw [decide_eq_false hb']
        rfl
      rw [e1] at hD
      exact g_ret x_bl fun v R H q e => hD.1 _ _ v R H ⟨rfl, rfl⟩ q e
    · have e1 : s.isMet (.visit d x y) = (!s.mourns x d && !s.mourns y d) := by
        show (decide (d % 7 ∈ (aGet s.homes y).getD []) && _) = _
        have hb' : d % 7 ∈ hm2 := by simpa using hb
        rw [hx]
        show (decide (d % 7 ∈ hm2) && _) = _
        rw [decide_eq_true hb']
        rfl
      rw [e1] at hD
      exact g_ret (x_andV (x_notV (x_meth 0 (g_W_mourns T) (hr.mono (by decide)) T.cls_Walk ⟨a, bk, t, s, ml, x, d, hm, hl, rfl, rfl, rfl⟩ (x_var 0) (a_cons (x_var 4) (a_cons (x_var 3) a_nil)))) fun _ => x_one (x_notV (x_meth 0 (g_W_mourns T) (hr.mono (by decide)) T.cls_Walk ⟨a, bk, t, s, ml, y, d, hm, hl, rfl, rfl, rfl⟩ (x_var 0) (a_cons (x_var 5) (a_cons (x_var 3) a_nil))))) fun v R H q e => hD.1 _ _ v R H ⟨rfl, rfl⟩ q e
theorem strOk_srt (v : Bool) : Nok (srt v) := by
  cases v
  · show PyData.strOk ("card" : Str) = true
    decide +kernel
  · show PyData.strOk ("visit" : Str) = true
    decide +kernel
theorem pay_in (v u : Bool) : decide (srt v ∈ (["visit", srt u] : List Str)) = (v || u == v) := by cases v <;> cases u <;> rfl
theorem eqv_two (a b x y : Str) : PyData.eqv (.tuple [.str a, .str b]) (.tuple [.str x, .str y]) = decide (a = x ∧ b = y) := by
  simp only [PyData.eqv, PyData.eqvAll, Bool.and_true, Bool.decide_and]
  rfl
theorem shaped_two {a b : Str} (h1 : Nok a) (h2 : Nok b) : SeqAt.shaped (.tuple [.str a, .str b]) = true := by
  unfold SeqAt.shaped
  have h1' : PyData.strOk a = true := h1
  have h2' : PyData.strOk b = true := h2
  simp only [PyData.canLay0, PyData.canLayAll0, h1', h2', Bool.and_true, Bool.true_and, PyData.depth, PyData.depthAll]
  rfl
theorem Due.lay {d : Due} (h1 : Nok d.ower) (h2 : Nok d.owed) (h3 : d.page.ok) : PyData.canLay0 d.enc = true := by
  have h1' : PyData.strOk d.ower = true := h1
  have h2' : PyData.strOk d.owed = true := h2
  simp only [Due.enc, PyData.canLay0, PyData.canLayAll0, h1', h2', Page.lay_enc h3, Bool.and_true]
theorem Due.depth (d : Due) : d.enc.depth ≤ 3 := by
  have := d.page.depth_enc
  simp only [Due.enc, PyData.depth, PyData.depthAll]
  omega
theorem shaped_dues {l : List Due} (h : ∀ d ∈ l, Nok d.ower ∧ Nok d.owed ∧ d.page.ok) : SeqAt.shaped (.list (l.map Due.enc)) = true := by
  unfold SeqAt.shaped
  have h1 : PyData.canLayAll0 (l.map Due.enc) = true := by
    induction l with
    | nil => rfl
    | cons d l ih =>
      obtain ⟨a, b, c⟩ := h d List.mem_cons_self
      rw [List.map_cons, PyData.canLayAll0, Due.lay a b c, ih fun e he => h e (List.mem_cons_of_mem _ he)]
      rfl
  have h2 : PyData.depthAll (l.map Due.enc) ≤ 3 := by
    clear h h1
    induction l with
    | nil => exact Nat.zero_le _
    | cons d l ih =>
      rw [List.map_cons, PyData.depthAll]
      have := d.depth
      omega
  rw [PyData.canLay0, h1, Bool.true_and, PyData.depth]
  exact decide_eq_true (by omega)
theorem shaped_nil : SeqAt.shaped (.list []) = true := by decide
theorem eqv_nilL {α : Type} (f : α → PyData) [DecidableEq α] (l : List α) : PyData.eqv (.list (l.map f)) (.list []) = decide (l = []) := by
  cases l with
  | nil => rfl
  | cons x l => simp [PyData.eqv, PyData.eqvAll]
theorem dropAll_keys (s : Wk) : ∀ (l : List Due) (x : Due), x ∈ (s.dropAll l).keys ↔ x ∈ s.keys ∧ x ∉ l := by
  intro l
  induction l generalizing s with
  | nil => intro x; simp [Wk.dropAll]
  | cons d l ih =>
    intro x
    have e : s.dropAll (d :: l) = ({ s with falls := aDrop s.falls d } : Wk).dropAll l := rfl
    rw [e, ih]
    show x ∈ (aDrop s.falls d).map (·.1) ∧ _ ↔ _
    rw [keys_drop_iff, List.mem_cons]
    constructor
    · rintro ⟨⟨h1, h2⟩, h3⟩
      exact ⟨h1, fun z => z.elim h2 h3⟩
    · rintro ⟨h1, h2⟩
      exact ⟨⟨h1, fun z => h2 (.inl z)⟩, fun z => h2 (.inr z)⟩
theorem dropAll_ans : ∀ (s : Wk) (l : List Due), (s.dropAll l).answers = s.answers
  | _, [] => rfl
  | s, d :: l => dropAll_ans { s with falls := aDrop s.falls d } l
theorem dropAll_take (s : Wk) {l : List Due} {i : Nat} {d : Due} (h : l[i]? = some d) : s.dropAll (l.take (i + 1)) = { s.dropAll (l.take i) with falls := aDrop (s.dropAll (l.take i)).falls d } := by
  unfold Wk.dropAll
  rw [List.take_add_one, h, List.foldl_append]
  rfl
theorem WV.dropAll {NS : List Str} {PS : List Page} {n : Nat} {ml : Ml} : ∀ (l : List Due) {s : Wk}, WV NS PS n s ml → WV NS PS n (s.dropAll l) ml
  | [], _, h => h
  | d :: l, s, h => WV.dropAll l (h.drop d)
theorem not_take {α : Type} {l : List α} (nd : l.Nodup) {i : Nat} {x : α} (h : l[i]? = some x) : x ∉ l.take i := fun hm => by
  obtain ⟨j, hj⟩ := List.getElem?_of_mem hm
  have hlt : j < i := by
    have := (List.getElem?_eq_some_iff.mp hj).1
    rw [List.length_take] at this
    omega
  rw [List.getElem?_take_of_lt hlt] at hj
  exact Nat.ne_of_lt hlt (nd_ix nd hj h)
theorem vok_nil : Vok [] := ⟨Nat.zero_le _, fun i h => nomatch h⟩
theorem Goes.going {p : Page} {a b : Str} (h : Goes p a b) : p.going := by
  cases h
  · exact .inl rfl
  · exact .inr rfl
theorem wv_go {NS : List Str} {PS : List Page} {n : Nat} {s : Wk} {ml : Ml} {p : Page} {x y : Str} (e : En NS PS) (h : WV NS PS n s ml) (hx : x ∈ NS) (hy : y ∈ NS) (hp : p ∈ PS) (hg : Goes p x y) : WV NS PS (n + 1) (s.go p x y).1 ml := by
  unfold Wk.go
  by_cases c : s.paid (s.isMet p) x y = []
  · simp only [if_pos c]
    refine ⟨h.mor, aPut_nd h.nd, fun d hd => ?_, Nat.le_succ_of_le h.lh, Nat.le_succ_of_le h.lm, fun q hq => Nat.le_succ_of_le (h.ll q hq), Nat.le_trans (aPut_len _ _ _) (Nat.succ_le_succ h.ls), Nat.le_succ_of_le h.lk, Nat.le_succ_of_le h.la, fun q hq => ?_, fun q hq => ?_, h.an, h.mn⟩
    · have key : ∀ q : Page, ((aGet s.sorts q).isSome = true ∨ q = p) → (aGet (aPut s.sorts p (s.isMet p)) q).isSome = true := fun q hq => by
        rw [aGet_put]
        by_cases e : q = p
        · rw [if_pos e]; rfl
        · rw [if_neg e]; exact hq.resolve_right e
      rcases (keys_put s ⟨y, x, p⟩ d []).mp hd with z | z
      · obtain ⟨a1, a2, a3, a4⟩ := h.fk d z
        exact ⟨a1, a2, a3, key _ (.inl a4)⟩
      · rw [z]
        exact ⟨hy, hx, hp, key p (.inr rfl)⟩
    · rcases aPut_mem hq with z | z
      · exact h.fl q z
      · rw [z.2]; exact vok_nil
    · rcases aPut_mem hq with z | z
      · exact h.sg q z
      · rw [z.1]; exact hg.going
  · simp only [if_neg c]
    have h2 := (h.dropAll (s.paid (s.isMet p) x y)).mono
    refine ⟨h2.mor, h2.nd, h2.fk, h2.lh, h2.lm, h2.ll, h2.ls, h2.lk, ?_, h2.fl, h2.sg, fun q hq => ?_, h2.mn⟩
    · show (s.answers ++ [_]).length ≤ n + 1
      rw [List.length_append]
      exact Nat.succ_le_succ h.la
    · rcases List.mem_append.mp hq with z | z
      · exact h.an q z
      · have hq' : q = (p, s.paid (s.isMet p) x y) := by simpa using z
        rw [hq']
        have hmem : ∀ d ∈ s.paid (s.isMet p) x y, d ∈ s.keys ∧ d.ower = x ∧ d.owed = y := fun d hd => by
          obtain ⟨h1, h3⟩ := List.mem_filter.mp hd
          unfold Wk.isPaid at h3
          rw [Bool.and_eq_true] at h3
          exact ⟨h1, of_decide_eq_true h3.1⟩
        refine ⟨hp, ?_, fun d hd => h.gg (hmem d hd).1⟩
        have hnd : (s.paid (s.isMet p) x y).Nodup := List.filter_sublist.nodup h.nd
        have := nodup_le hnd (m := PS.map fun q => (⟨x, y, q⟩ : Due)) fun d hd => List.mem_map.mpr ⟨d.page, (h.fk d (hmem d hd).1).2.2.1, by
          obtain ⟨_, e1, e2⟩ := hmem d hd
          rw [← e1, ← e2]⟩
        rw [List.length_map] at this
        have := e.hp
        show (s.paid (s.isMet p) x y).length ≤ 40
        omega
theorem sc_W_go : FnScope ["self", "page", "kind", "day", "one", "other", "sort", "paid", "due"] ["self", "page"] (defScope s_Walk_go) := ⟨rfl, rfl, rfl, by decide +kernel, rfl, by decide +kernel, by decide +kernel⟩
theorem g_W_go (T : Tx K mg) : GdM P w K mg base 3 (wC K) "go" (spM K fun oc ss C => ∃ NS PS n a bk t s ml p x y, En NS PS ∧ WV NS PS n s ml ∧ n ≤ 900 ∧ p ∈ PS ∧ x ∈ NS ∧ y ∈ NS ∧ Goes p x y ∧ (p.isR 7 = true → (aGet s.homes y).isSome = true) ∧ oc = wOwn P w K a bk t s ml ∧ ss = [.v (.ref a.w), .d p.enc] ∧ C = Is (wOwn P w K a bk t (s.go p x y).1 ml) (.d (s.go p x y).2)) := by
  obtain ⟨fd, F⟩ := T.fun_Walk_go
  refine gdM_mk F (okM (k := 2) F sc_W_go (fun _ _ _ ⟨_, _, _, _, _, _, _, _, _, _, _, _, _, _, _, _, _, _, _, _, e, _⟩ => by rw [e]; rfl) ?_) T.me_Walk_go fun _ _ _ _ _ _ us hl => match us, hl with | [_, _], _ => rfl
  rintro cd A outer s0 H0 E hr oc ss C B D ⟨NS, PS, n, a, bk, t, s, ml, p, x, y, he, hv, hn, hp, hx, hy, hg, hh, rfl, rfl, rfl⟩ hF hD
  have hu := hr.units
  refine g_asg (x_is (x_var 1) (congrArg Sl.d hg.enc)) (pg_tup rfl (pgs_cons (pg_name (i := 2) sc_W_go.nd rfl (by first | exact .inl rfl | exact .inr rfl)) (pgs_cons (pg_name (i := 3) sc_W_go.nd rfl (by first | exact .inl rfl | exact .inr rfl)) (pgs_cons (pg_name (i := 4) sc_W_go.nd rfl (by first | exact .inl rfl | exact .inr rfl)) (pgs_cons (pg_name (i := 5) sc_W_go.nd rfl (by first | exact .inl rfl | exact .inr rfl)) pgs_nil)))))
    (gd_tup (gds_cons gd_name (gds_cons gd_name (gds_cons gd_name (gds_cons gd_name gds_nil)))) rfl) ?_
  refine g_setM sc_W_go.nd 6 (C := Is (wOwn P w K a bk t s ml) (.d (.str (srt (s.isMet p))))) (m_if (C := fun o k => o = wOwn P w K a bk t s ml ∧ k = s.isMet p) (m_truth (C := Is (wOwn P w K a bk t s ml) (.d (.bool (s.isMet p)))) (m_meth (D := Is (wOwn P w K a bk t s ml) (.d (.bool (s.isMet p)))) 0 (g_W_is_met T) hr T.cls_Walk (x_var 0) (ma_x (a_cons (x_var 1) a_nil)) ?_) (fun o s ⟨h1, h2⟩ => ⟨_, h2, h1, rfl⟩) fun _ => rfl) (fun o ⟨h1, h2⟩ => ?_) fun o ⟨h1, h2⟩ => ?_) ?_
  · rintro o ss ⟨rfl, rfl⟩
    exact fits_all ⟨a, bk, t, s, ml, p, x, y, hv.mor, (fun q hq => Nat.le_trans (hv.ll q hq) (by omega)), hg, hh, rfl, rfl, rfl⟩ fun _ _ h => h
  · subst h1
    rw [← h2]
    exact m_x x_str
  · subst h1
    rw [← h2]
    exact m_x x_str
  rintro o r ⟨rfl, rfl⟩
  generalize hvv : s.isMet p = v
  have nok : ∀ d ∈ s.keys, Nok d.ower ∧ Nok d.owed ∧ d.page.ok := fun d hd => ⟨he.nok _ (hv.fk d hd).1, he.nok _ (hv.fk d hd).2.1, he.ok (hv.fk d hd).2.2.1⟩
  have hlf := hv.lf he
  have nx : Nok x := he.nok _ hx
  have ny : Nok y := he.nok _ hy
  have epaid : ((s.falls.filter fun q => s.isPaid v x y q.1).map fun q => q.1.enc) = (s.paid v x y).map Due.enc := by
    unfold Wk.paid Wk.keys
    rw [List.filter_map, List.map_map]
    rfl
  refine g_setLc 7 (lcx_lcNIf (p := a.falls) (l := s.falls) (key := fun q => q.1.nk) (val := fun q => intsD q.2) (g := gName 8) sc_W_go.nd [("due", 8)] 5 (fun q => s.isPaid v x y q.1) (fun q => q.1.enc) rfl (by omega) (fun A => x_fld 0 (x_var 0) T.cls_Walk T.na_Walk_falls) (blkOk_by (N := ["self", "page", "kind", "day", "one", "other", "sort", "paid", "due"]) (sc := defScope s_Walk_go) (by decide +kernel)) (fun _ _ _ _ _ => pg_name (i := 8) sc_W_go.nd rfl (.inl rfl)) (gw_name (by decide))
    fun A q hq => ?_) ?_
  · have hk : q.1 ∈ s.keys := List.mem_map.mpr ⟨q, hq, rfl⟩
    obtain ⟨n1, n2, n3⟩ := nok _ hk
    have hso := sort_of_some (hv.fk _ hk).2.2.2
    refine ⟨_, gd_name, fun _ _ _ _ _ => ?_, fun _ _ _ _ _ _ => ?_⟩
    · refine x_pw (x_and (k := decide (q.1.ower = x ∧ q.1.owed = y)) (l := (v || s.sortOf q.1.page == v)) (x_t (x_cmpT (op_eqD hu) (rd_eqD (shaped_two n1 n2) (shaped_two nx ny)) rfl (x_slT (ds := [.str q.1.ower, .str q.1.owed, q.1.page.enc]) (es := [.str q.1.ower, .str q.1.owed]) (l := none) (h := some 2) (x_is (x_var 8) (by rw [q.1.nk_data]; rfl)) o_none (o_some x_int)) (x_tup (ds := [.str x, .str y]) (a_cons (x_var 4) (a_cons (x_var 5) a_nil)))) (eqv_two _ _ _ _)) fun _ => x_and1 (x_t (x_inS (ys := ["visit", srt (s.sortOf q.1.page)]) (x_var 6) (x_tup (ds := [.str "visit", .str (srt (s.sortOf q.1.page))]) (a_cons x_str (a_cons (x_nget (p := a.sorts) (k := q.1.page.nk) (ks := sortsN s.sorts) 4 hu (x_fld 0 (x_var 0) T.cls_Walk T.na_Walk_sorts) (x_is (x_ixn (ds := [.str q.1.ower, .str q.1.owed, q.1.page.enc]) 2 (x_is (x_var 8) (by rw [q.1.nk_data]; rfl)) x_int) (by rw [q.1.page.nk_data])) q.1.page.nk_t (by rw [sorts_get, hso]; rfl)) a_nil)))) (pay_in _ _)))
    · exact x_is (x_var 8) (by rw [q.1.nk_data])
  rw [epaid]
  refine g_if (k := decide (s.paid v x y = [])) (x_t (x_cmpT (op_eqD hu) (rd_eqD (shaped_dues fun d hd => nok d (List.mem_filter.mp hd).1) shaped_nil) rfl (x_var 7) (x_lst (ds := []) a_nil)) (eqv_nilL Due.enc _)) (fun hb => ?_) fun hb => g_end ?_
  · have hb' : s.paid v x y = [] := of_decide_eq_true hb
    have ego : s.go p x y = ({ s with sorts := aPut s.sorts p v, falls := aPut s.falls ⟨y, x, p⟩ [], made := s.made + 1 }, .tuple [.str "due"]) := by
      unfold Wk.go
      rw [hvv]
      exact if_pos hb'
    rw [ego] at hD
    refine g_nput (p := a.sorts) (k := p.nk) (ks := sortsN s.sorts) (d := .str (srt v)) 4 hu (x_fld 0 (x_var 0) T.cls_Walk T.na_Walk_sorts) (x_is (x_var 1) (by rw [p.nk_data])) p.nk_t (x_var 6) (by rw [sorts_len]; have := hv.ls; omega) ?_
    rw [sorts_put]
    refine g_nput (p := a.falls) (k := (⟨y, x, p⟩ : Due).nk) (ks := fallsN s.falls) (d := intsD []) 5 hu (x_fld 0 (x_var 0) T.cls_Walk T.na_Walk_falls) (x_is (x_tup (ds := [.str y, .str x, p.enc]) (a_cons (x_var 5) (a_cons (x_var 4) (a_cons (x_var 1) a_nil)))) (by rw [Due.nk_data]; rfl)) (Due.nk_t _) (x_tup (ds := []) a_nil) (by rw [falls_len]; omega) ?_
    rw [falls_put]
    refine g_fld (hl := Nat.le_of_ble_eq_true rfl) 0 (fun ow => x_var 0) (x_add (i := s.made) (j := 1) (x_fld 0 (x_var 0) T.cls_Walk T.na_Walk_made) x_int) T.cls_Walk T.na_Walk_made ?_
    exact g_ret (x_tup (ds := [.str "due"]) (a_cons x_str a_nil)) fun v R H q e => hD.1 _ _ v R H ⟨rfl, rfl⟩ q e
  · have hb' : ¬ s.paid v x y = [] := of_decide_eq_false hb
    have ego : s.go p x y = ({ s.dropAll (s.paid v x y) with answers := s.answers ++ [(p, s.paid v x y)] }, .tuple [.str "answer", .int (s.paid v x y).length]) := by
      unfold Wk.go
      rw [hvv]
      exact if_neg hb'
    rw [ego] at hD
    have hnd : (s.paid v x y).Nodup := List.filter_sublist.nodup hv.nd
    generalize hpl : s.paid v x y = l at *
    have hsub : ∀ d ∈ l, d ∈ s.keys := fun d hd => by rw [← hpl] at hd; exact (List.mem_filter.mp hd).1
    refine g_for (g := gName 8) (src_m (src_list (ds := l.map Due.enc) (x_var 7))) (pg_name (i := 8) sc_W_go.nd rfl (.inl rfl)) ?_
    rintro o xs V ⟨rfl, rfl, rfl⟩
    refine ⟨fun i G1 o1 => G1 = [_, _, _, _, _, _, _, _, .u] ∧ o1 = wOwn P w K a bk t (s.dropAll (l.take i)) ml, ⟨rfl, rfl⟩, fun _ _ _ _ _ _ _ => trivial, ?_, ?_⟩
    · rintro i z G1 o1 B1 D1 hz ⟨rfl, rfl⟩ hB hF1 hD1 _
      rw [List.getElem?_map] at hz
      cases hq : l[i]? with
      | none => rw [hq] at hz; cases hz
      | some d =>
        rw [hq] at hz
        cases hz
        have hk : d ∈ (s.dropAll (l.take i)).keys := (dropAll_keys s _ d).mpr ⟨hsub d (List.mem_of_getElem? hq), not_take hnd hq⟩
        refine ⟨_, gd_name, g_expr (m_npop (p := a.falls) (k := d.nk) (ks := fallsN (s.dropAll (l.take i)).falls) (d := intsD ((s.dropAll (l.take i)).fallOf d)) (Dd := fun o r => o = wOwn P w K a bk t (s.dropAll (l.take (i + 1))) ml) 5 hu (x_fld 0 (x_var 0) T.cls_Walk T.na_Walk_falls) (x_is (x_var 8) (by rw [d.nk_data])) d.nk_t (by rw [falls_get, get_of_key hk]; rfl) ?_) ?_⟩
        · rw [falls_drop, dropAll_take s hq]
          rfl
        · rintro o r rfl
          exact at_le hD1 ⟨rfl, rfl⟩ ⟨.inr rfl, .inr rfl, .inr rfl, .inr rfl, .inr rfl, .inr rfl, .inr rfl, .inr rfl, .inl rfl, trivial⟩
    · rintro G1 o1 ⟨rfl, rfl⟩
      rw [List.length_map, List.take_length]
      have ean : (s.dropAll l).answers = s.answers := dropAll_ans s l
      refine g_expr (m_append (Dd := fun o r => o = wOwn P w K a bk t { s.dropAll l with answers := s.answers ++ [(p, l)] } ml) (m_x (x_fld 0 (x_var 0) T.cls_Walk T.na_Walk_answers)) ?_) ?_
      · rintro o1 s1 ⟨rfl, rfl⟩
        refine ⟨a.answers, 7, _, rfl, rfl, _, m_x (x_tup (ds := [p.enc, .list (l.map Due.enc)]) (a_cons (x_var 1) (a_cons (x_var 7) a_nil))), ?_⟩
        rintro o2 s2 ⟨rfl, rfl⟩
        refine ⟨7, _, _, rfl, rfl, by rw [List.length_map, ean]; have := hv.la; omega, ?_⟩
        show (wOwn P w K a bk t (s.dropAll l) ml).set 7 (a.answers, asL K ((s.dropAll l).answers.map ansD ++ [ansD (p, l)])) = _
        rw [ean]
        unfold wOwn
        rw [List.map_append]
        rfl
      · rintro o r rfl
        exact g_ret (x_is (x_tup (ds := [.str "answer", .int (l.map Due.enc).length]) (a_cons x_str (a_cons (x_cb call_len_seq T.free_len rc_lenL (a_cons (x_var 7) a_nil)) a_nil))) (by rw [List.length_map])) fun v R H q e => hD.1 _ _ v R H ⟨rfl, rfl⟩ q e
end
end CB

/-! Part 22: lay, part, join, fall. -/
namespace CB
open PySem PySem.Spec PyProof.Rows L2
section
variable {NS : List Str} {PS : List Page} {n : Nat} {s : Wk} {ml : Ml}
theorem fold_take {α β : Type} {f : β → α → β} {l : List α} {i : Nat} {x : α} (h : l[i]? = some x) (b : β) : (l.take (i + 1)).foldl f b = f ((l.take i).foldl f b) x := by
  rw [List.take_add_one, h, List.foldl_append]
  rfl
theorem lay_keys (s : Wk) (d x : Due) (v : List Int) : x ∈ s.keys → x ∈ (s.lay d v).keys := fun h => by
  unfold Wk.lay
  cases q : aGet s.falls d with
  | none => exact (keys_put s d x v).mpr (.inl h)
  | some t =>
    show x ∈ Wk.keys (if stays t v then _ else _)
    by_cases c : stays t v = true
    · rw [if_pos c]; exact h
    · rw [if_neg c]; exact (keys_put s d x v).mpr (.inl h)
theorem wv_lay (h : WV NS PS n s ml) {d : Due} {v : List Int} (hv : Vok v) (h1 : d.ower ∈ NS) (h2 : d.owed ∈ NS) (h3 : d.page ∈ PS) (h4 : (aGet s.sorts d.page).isSome = true) : WV NS PS n (s.lay d v) ml := by
  unfold Wk.lay
  cases q : aGet s.falls d with
  | none => exact h.put hv h1 h2 h3 h4
  | some t =>
    show WV NS PS n (if stays t v then _ else _) ml
    by_cases c : stays t v = true
    · rw [if_pos c]; exact h.mer _
    · rw [if_neg c]; exact (h.mer (s.merged + 1)).put hv h1 h2 h3 h4
theorem wv_part1 (h : WV NS PS n s ml) {d : Due} {name fresh : Str} (hd : d ∈ s.keys) (hf : fresh ∈ NS) : WV NS PS n (Wk.part1 name fresh s d) ml ∧ ∀ x ∈ s.keys, x ∈ (Wk.part1 name fresh s d).keys := by
  unfold Wk.part1
  by_cases c : d.ower = name
  · rw [if_pos c]
    obtain ⟨h1, h2, h3, h4⟩ := h.fk d hd
    exact ⟨(h.put (d := ⟨fresh, d.owed, d.page⟩) (h.fo hd) hf h2 h3 h4).cop _, fun x hx => (keys_put s _ x _).mpr (.inl hx)⟩
  · rw [if_neg c]
    exact ⟨h, fun x hx => hx⟩
theorem wv_fall1 (h : WV NS PS n s ml) {d : Due} {t : Tm} {day : Int} (ht : t.1 ≤ 100 ∧ t.2 ≤ 100) (hday : day.natAbs < 1000000) (hd : d ∈ s.keys) : WV NS PS n (Wk.fall1 t day s d) ml ∧ ∀ x ∈ s.keys, x ∈ (Wk.fall1 t day s d).keys := by
  unfold Wk.fall1
  by_cases c : Wk.open_ t day s d = true
  · rw [if_pos c]
    obtain ⟨h1, h2, h3, h4⟩ := h.fk d hd
    refine ⟨h.put (v := s.fallOf d ++ [day]) ⟨?_, fun i hi => ?_⟩ h1 h2 h3 h4, fun x hx => (keys_put s _ x _).mpr (.inl hx)⟩
    · unfold Wk.open_ at c
      rw [Bool.and_eq_true] at c
      have c1 := of_decide_eq_true c.1
      have : termOf t (s.sortOf d.page) ≤ 100 := by
        unfold termOf
        split
        · exact ht.1
        · exact ht.2
      rw [List.length_append, List.length_singleton]
      omega
    · rcases List.mem_append.mp hi with z | z
      · exact (h.fo hd).2 i z
      · have : i = day := by simpa using z
        rw [this]
        exact hday
  · rw [if_neg c]
    exact ⟨h, fun x hx => hx⟩
theorem swap_in {NS : List Str} {name gone x : Str} (hn : name ∈ NS) (hx : x ∈ NS) : Wk.swap name gone x ∈ NS := by
  unfold Wk.swap
  split
  · exact hn
  · exact hx
theorem wv_join1 (h : WV NS PS n s ml) {d : Due} {name gone : Str} (hd : d ∈ s.keys) (hf : name ∈ NS) : WV NS PS n (Wk.join1 name gone s d) ml ∧ ∀ x ∈ s.keys, x ≠ d → x ∈ (Wk.join1 name gone s d).keys := by
  unfold Wk.join1
  by_cases c : d.ower = gone ∨ d.owed = gone
  · simp only [if_pos c]
    obtain ⟨h1, h2, h3, h4⟩ := h.fk d hd
    by_cases c2 : Wk.swap name gone d.ower = Wk.swap name gone d.owed
    · simp only [if_pos c2]
      exact ⟨(h.drop d).str _, fun x hx hne => (keys_drop_iff s d x).mpr ⟨hx, hne⟩⟩
    · simp only [if_neg c2]
      exact ⟨wv_lay (h.drop d) (h.fo hd) (swap_in hf h1) (swap_in hf h2) h3 h4, fun x hx hne => lay_keys _ _ _ _ ((keys_drop_iff s d x).mpr ⟨hx, hne⟩)⟩
  · simp only [if_neg c]
    exact ⟨h, fun x hx _ => hx⟩
/-- through a loop over the keys -/
theorem fold_keys {f : Wk → Due → Wk} (step : ∀ s' d, WV NS PS n s' ml → d ∈ s'.keys → WV NS PS n (f s' d) ml ∧ ∀ x ∈ s'.keys, x ≠ d → x ∈ (f s' d).keys) (h : WV NS PS n s ml) (i : Nat) :
    WV NS PS n ((s.keys.take i).foldl f s) ml ∧ ∀ j (d : Due), i ≤ j → s.keys[j]? = some d → d ∈ ((s.keys.take i).foldl f s).keys := by
  induction i with
  | zero => exact ⟨h, fun j d _ hd => List.mem_of_getElem? hd⟩
  | succ i ih =>
    obtain ⟨ih1, ih2⟩ := ih
    cases q : s.keys[i]? with
    | none =>
      have hl : s.keys.length ≤ i := List.getElem?_eq_none_iff.mp q
      have e : s.keys.take (i + 1) = s.keys.take i := by rw [List.take_of_length_le hl, List.take_of_length_le (Nat.le_succ_of_le hl)]
      rw [e]
      exact ⟨ih1, fun j d hj hd => ih2 j d (by omega) hd⟩
    | some d0 =>
      rw [fold_take q]
      obtain ⟨a1, a2⟩ := step _ d0 ih1 (ih2 i d0 (Nat.le_refl _) q)
      exact ⟨a1, fun j d hj hd => a2 d (ih2 j d (by omega) hd) fun e => by
        rw [e] at hd
        have := nd_ix h.nd hd q
        omega⟩
theorem fold_all {f : Wk → Due → Wk} (step : ∀ s' d, WV NS PS n s' ml → d ∈ s'.keys → WV NS PS n (f s' d) ml ∧ ∀ x ∈ s'.keys, x ≠ d → x ∈ (f s' d).keys) (h : WV NS PS n s ml) : WV NS PS n (s.keys.foldl f s) ml := by
  have := (fold_keys step h s.keys.length).1
  rwa [List.take_length] at this
end
theorem due_get {l : List Due} {i : Nat} {x : PyData} (h : (l.map Due.enc)[i]? = some x) : ∃ d, l[i]? = some d ∧ x = d.enc := by
  rw [List.getElem?_map] at h
  cases q : l[i]? with
  | none => rw [q] at h; cases h
  | some d =>
    rw [q] at h
    cases h
    exact ⟨d, rfl, rfl⟩
section
variable {P : Program} {w : World} {K : PySem.W.Frag} {mg : Str → Option Value} {base : Heap}
theorem sc_W_lay : FnScope ["self", "due", "falls", "there"] ["self", "due", "falls"] (defScope s_Walk_lay) := ⟨rfl, rfl, rfl, by decide +kernel, rfl, by decide +kernel, by decide +kernel⟩
theorem g_W_lay (T : Tx K mg) : GdM P w K mg base 2 (wC K) "lay" (spM K fun oc ss C => ∃ a bk t s ml d v, s.falls.length ≤ 900000 ∧ oc = wOwn P w K a bk t s ml ∧ ss = [.v (.ref a.w), .d d.enc, .d (intsD v)] ∧ C = Is (wOwn P w K a bk t (s.lay d v) ml) (.d .none)) := by
  obtain ⟨fd, F⟩ := T.fun_Walk_lay
  refine gdM_mk F (okM (k := 1) F sc_W_lay (fun _ _ _ ⟨_, _, _, _, _, _, _, _, _, e, _⟩ => by rw [e]; rfl) ?_) T.me_Walk_lay fun _ _ _ _ _ _ us hl => match us, hl with | [_, _, _], _ => rfl
  rintro cd A outer s0 H0 E hr oc ss C B D ⟨a, bk, t, s, ml, d, v, hlf, rfl, rfl, rfl⟩ hF hD
  have hu := hr.units
  refine g_set sc_W_lay.nd 3 (x_nget2 (p := a.falls) (k := d.nk) (ks := fallsN s.falls) (d := .none) 5 hu (x_fld 0 (x_var 0) T.cls_Walk T.na_Walk_falls) (x_is (x_var 1) (by rw [d.nk_data])) x_non d.nk_t) ?_
  rw [falls_get]
  cases q : aGet s.falls d with
  | none =>
    have el : s.lay d v = { s with falls := aPut s.falls d v } := by unfold Wk.lay; rw [q]
    rw [el] at hD
    refine g_if (k := false) (x_cmpT op_notN (rd_notN (d := .none)) rfl (x_var 3) x_non) (fun h => ff h) fun _ => g_end ?_
    refine g_if (k := true) (x_pw (x_or (k := true) (l := true) (x_cmpT op_isN (rd_isN (d := .none)) rfl (x_var 3) x_non) fun h => ff h.symm)) (fun _ => ?_) fun h => ff h.symm
    refine g_nput (p := a.falls) (k := d.nk) (ks := fallsN s.falls) (d := intsD v) 5 hu (x_fld 0 (x_var 0) T.cls_Walk T.na_Walk_falls) (x_is (x_var 1) (by rw [d.nk_data])) d.nk_t (x_var 2) (by rw [falls_len]; omega) ?_
    rw [falls_put]
    exact g_end (g_nil fun R H z q hz => hD.2 _ z R H ⟨rfl, rfl⟩ q)
  | some t0 =>
    refine g_if (k := true) (x_cmpT op_notN (rd_notN (d := intsD t0)) rfl (x_var 3) x_non) (fun _ => ?_) fun h => ff h.symm
    refine g_fld (hl := Nat.le_of_ble_eq_true rfl) 0 (fun ow => x_var 0) (x_add (i := s.merged) (j := 1) (x_fld 0 (x_var 0) T.cls_Walk T.na_Walk_merged) x_int) T.cls_Walk T.na_Walk_merged (g_end ?_)
    refine g_if (k := !stays t0 v) (x_pw (x_or (k := false) (l := !stays t0 v) (x_cmpT op_isN (rd_isN (d := intsD t0)) rfl (x_var 3) x_non) fun _ => x_or1 (x_not (x_truth (x_call (oc := []) (g_stays T) hr ⟨rfl, t0, v, rfl, rfl⟩ (a_cons (x_var 3) (a_cons (x_var 2) a_nil))) fun _ => rfl)))) (fun hb => ?_) fun hb => g_end ?_
    · have el : s.lay d v = { s with merged := s.merged + 1, falls := aPut s.falls d v } := by
        unfold Wk.lay
        rw [q]
        exact if_neg (by simpa using hb)
      rw [el] at hD
      refine g_nput (p := a.falls) (k := d.nk) (ks := fallsN s.falls) (d := intsD v) 5 hu (x_fld 0 (x_var 0) T.cls_Walk T.na_Walk_falls) (x_is (x_var 1) (by rw [d.nk_data])) d.nk_t (x_var 2) (by rw [falls_len]; omega) ?_
      rw [falls_put]
      exact g_end (g_nil fun R H z q hz => hD.2 _ z R H ⟨rfl, rfl⟩ q)
    · have el : s.lay d v = { s with merged := s.merged + 1 } := by
        unfold Wk.lay
        rw [q]
        exact if_pos (by simpa using hb)
      rw [el] at hD
      exact g_nil fun R H z q hz => hD.2 _ z R H ⟨rfl, rfl⟩ q
theorem sc_W_part : FnScope ["self", "name", "fresh", "due"] ["self", "name", "fresh"] (defScope s_Walk_part) := ⟨rfl, rfl, rfl, by decide +kernel, rfl, by decide +kernel, by decide +kernel⟩
/-- list(self.falls) -/
theorem x_keys {X : Cx} {G : List Sl} {own : OL} {b : Expr} {pos pn : Pos} {a : WA} {s : Wk} (T : Tx X.K X.mg) (h : EX X G own b (.v (.ref a.falls))) (hi : own[5]? = some (a.falls, asN X.prog X.w X.K (fallsN s.falls)))
    (hc : X.calm = true := by rfl) (hg : Gl X "list" := by rfl) (he : starEach [b] X.env = (false, eval b X.env) :: starEach [] X.env := by rfl) (hpl : (backTo pos (starEach [] X.env)).any (·.1) = false := by rfl) : EX X G own (.Call (.Name "list" pn) [b] [] pos) (.d (.list (s.keys.map Due.enc))) :=
  x_is (x_ct (call_nlist hc) T.free_list (rc_nlist hi) (a_cons h a_nil he) (by first | rfl | decide +kernel) hg (by decide) (by decide) he hpl) (by rw [falls_keys]; rfl)
theorem g_W_part (T : Tx K mg) : GdM P w K mg base 1 (wC K) "part" (spM K fun oc ss C => ∃ NS PS n a bk t s ml x y, En NS PS ∧ WV NS PS n s ml ∧ y ∈ NS ∧ oc = wOwn P w K a bk t s ml ∧ ss = [.v (.ref a.w), .d (.str x), .d (.str y)] ∧ C = Is (wOwn P w K a bk t (s.part x y) ml) (.d .none)) := by
  obtain ⟨fd, F⟩ := T.fun_Walk_part
  refine gdM_mk F (okM (k := 0) F sc_W_part (fun _ _ _ ⟨_, _, _, _, _, _, _, _, _, _, _, _, _, _, e, _⟩ => by rw [e]; rfl) ?_) T.me_Walk_part fun _ _ _ _ _ _ us hl => match us, hl with | [_, _, _], _ => rfl
  rintro cd A outer s0 H0 E hr oc ss C B D ⟨NS, PS, n, a, bk, t, s, ml, x, y, he, hv, hy, rfl, rfl, rfl⟩ hF hD
  have hu := hr.units
  refine g_for (g := gName 3) (src_m (src_list (ds := s.keys.map Due.enc) (x_keys (a := a) T (x_fld 0 (x_var 0) T.cls_Walk T.na_Walk_falls) rfl))) (pg_name (i := 3) sc_W_part.nd rfl (.inl rfl)) ?_
  rintro o xs V ⟨rfl, rfl, rfl⟩
  refine ⟨fun i G1 o1 => G1 = [_, _, _, .u] ∧ o1 = wOwn P w K a bk t ((s.keys.take i).foldl (Wk.part1 x y) s) ml, ⟨rfl, rfl⟩, fun _ _ _ _ _ _ _ => trivial, ?_, ?_⟩
  · rintro i z G1 o1 B1 D1 hz ⟨rfl, rfl⟩ hB hF1 hD1 _
    obtain ⟨d, hd, rfl⟩ := due_get hz
    obtain ⟨h1, h2⟩ := fold_keys (f := Wk.part1 x y) (fun s' d h hd => ⟨(wv_part1 h hd hy).1, fun x hx _ => (wv_part1 h hd hy).2 x hx⟩) hv i
    have hk := h2 i d (Nat.le_refl _) hd
    have hlf := h1.lf he
    have e1 := fold_take (f := Wk.part1 x y) hd s
    refine ⟨_, gd_name, ?_⟩
    generalize (s.keys.take i).foldl (Wk.part1 x y) s = s1 at *
    refine g_if (x_cmpT op_eq rd_eqS rfl (x_ixn 0 (x_var 3) x_int) (x_var 1)) (fun hb => ?_) fun hb => g_end ?_
    · have hb' : d.ower = x := of_decide_eq_true hb
      have e2 : Wk.part1 x y s1 d = { s1 with falls := aPut s1.falls ⟨y, d.owed, d.page⟩ (s1.fallOf d), copied := s1.copied + 1 } := if_pos hb'
      rw [e2] at e1
      refine g_nput (p := a.falls) (k := (⟨y, d.owed, d.page⟩ : Due).nk) (ks := fallsN s1.falls) (d := intsD (s1.fallOf d)) 5 hu (x_fld 0 (x_var 0) T.cls_Walk T.na_Walk_falls)
        (x_is (x_op op_catA (rd_cat (ds := [.str y]) (es := [.str d.owed, d.page.enc]) (show 3 ≤ sizeLine by decide)) (x_tup (ds := [.str y]) (a_cons (x_var 2) a_nil)) (x_slT (ds := [.str d.ower, .str d.owed, d.page.enc]) (es := [.str d.owed, d.page.enc]) (l := some 1) (h := none) (x_var 3) (o_some x_int) o_none)) (by rw [Due.nk_data]; rfl)) (Due.nk_t _)
        (x_nget (p := a.falls) (k := d.nk) (ks := fallsN s1.falls) 5 hu (x_fld 0 (x_var 0) T.cls_Walk T.na_Walk_falls) (x_is (x_var 3) (by rw [d.nk_data])) d.nk_t (by rw [falls_get, get_of_key hk]; rfl)) (by rw [falls_len]; omega) ?_
      rw [falls_put]
      refine g_fld (hl := Nat.le_of_ble_eq_true rfl) 0 (fun ow => x_var 0) (x_add (i := s1.copied) (j := 1) (x_fld 0 (x_var 0) T.cls_Walk T.na_Walk_copied) x_int) T.cls_Walk T.na_Walk_copied (g_end ?_)
      exact at_le hD1 ⟨rfl, by rw [e1]; rfl⟩ ⟨.inr rfl, .inr rfl, .inr rfl, .inl rfl, trivial⟩
    · have hb' : ¬ d.ower = x := of_decide_eq_false hb
      have e2 : Wk.part1 x y s1 d = s1 := if_neg hb'
      rw [e2] at e1
      exact at_le hD1 ⟨rfl, by rw [e1]⟩ ⟨.inr rfl, .inr rfl, .inr rfl, .inl rfl, trivial⟩
  · rintro G1 o1 ⟨rfl, rfl⟩
    rw [List.length_map, List.take_length]
    exact g_nil fun R H z q hz => hD.2 _ z R H ⟨rfl, rfl⟩ q
theorem sc_W_join : FnScope ["self", "name", "gone", "due", "falls", "ower", "owed", "one"] ["self", "name", "gone"] (defScope s_Walk_join) := ⟨rfl, rfl, rfl, by decide +kernel, rfl, by decide +kernel, by decide +kernel⟩
theorem in_two (z a b : Str) : decide (z ∈ ([a, b] : List Str)) = decide (a = z ∨ b = z) := decide_eq_decide.mpr (by
  rw [List.mem_cons, List.mem_singleton]
  constructor
  · rintro (h | h)
    · exact .inl h.symm
    · exact .inr h.symm
  · rintro (h | h)
    · exact .inl h.symm
    · exact .inr h.symm)
theorem g_W_join (T : Tx K mg) : GdM P w K mg base 3 (wC K) "join" (spM K fun oc ss C => ∃ NS PS n a bk t s ml x y, En NS PS ∧ WV NS PS n s ml ∧ x ∈ NS ∧ oc = wOwn P w K a bk t s ml ∧ ss = [.v (.ref a.w), .d (.str x), .d (.str y)] ∧ C = Is (wOwn P w K a bk t (s.join x y) ml) (.d .none)) := by
  obtain ⟨fd, F⟩ := T.fun_Walk_join
  refine gdM_mk F (okM (k := 2) F sc_W_join (fun _ _ _ ⟨_, _, _, _, _, _, _, _, _, _, _, _, _, _, e, _⟩ => by rw [e]; rfl) ?_) T.me_Walk_join fun _ _ _ _ _ _ us hl => match us, hl with | [_, _, _], _ => rfl
  rintro cd A outer s0 H0 E hr oc ss C B D ⟨NS, PS, n, a, bk, t, s, ml, x, y, he, hv, hx, rfl, rfl, rfl⟩ hF hD
  have hu := hr.units
  refine g_for (g := gName 3) (src_m (src_list (ds := s.keys.map Due.enc) (x_keys (a := a) T (x_fld 0 (x_var 0) T.cls_Walk T.na_Walk_falls) rfl))) (pg_name (i := 3) sc_W_join.nd rfl (.inl rfl)) ?_
  rintro o xs V ⟨rfl, rfl, rfl⟩
  refine ⟨fun i G1 o1 => G1 = [_, _, _, .u, .u, .u, .u, .u] ∧ o1 = wOwn P w K a bk t ((s.keys.take i).foldl (Wk.join1 x y) s) ml, ⟨rfl, rfl⟩, fun _ _ _ _ _ _ _ => trivial, ?_, ?_⟩
  · rintro i z G1 o1 B1 D1 hz ⟨rfl, rfl⟩ hB hF1 hD1 _
    obtain ⟨d, hd, rfl⟩ := due_get hz
    obtain ⟨h1, h2⟩ := fold_keys (f := Wk.join1 x y) (fun s' d h hd => wv_join1 h hd hx) hv i
    have hk := h2 i d (Nat.le_refl _) hd
    have hlf := h1.lf he
    have e1 := fold_take (f := Wk.join1 x y) hd s
    refine ⟨_, gd_name, ?_⟩
    generalize (s.keys.take i).foldl (Wk.join1 x y) s = s1 at *
    refine g_if (k := decide (d.ower = y ∨ d.owed = y)) (x_t (x_inS (ys := [d.ower, d.owed]) (x_var 2) (x_slT (ds := [.str d.ower, .str d.owed, d.page.enc]) (es := [.str d.ower, .str d.owed]) (l := none) (h := some 2) (x_var 3) o_none (o_some x_int))) (in_two _ _ _)) (fun hb => ?_) fun hb => g_end ?_
    · have hb' : d.ower = y ∨ d.owed = y := of_decide_eq_true hb
      have e2 : Wk.join1 x y s1 d = if Wk.swap x y d.ower = Wk.swap x y d.owed then { s1 with falls := aDrop s1.falls d, struck := s1.struck + 1 } else ({ s1 with falls := aDrop s1.falls d } : Wk).lay ⟨Wk.swap x y d.ower, Wk.swap x y d.owed, d.page⟩ (s1.fallOf d) := if_pos hb'
      rw [e2] at e1
      refine g_setM sc_W_join.nd 4 (m_npop (p := a.falls) (k := d.nk) (ks := fallsN s1.falls) (d := intsD (s1.fallOf d)) (Dd := fun o r => o = wOwn P w K a bk t { s1 with falls := aDrop s1.falls d } ml ∧ r = .d (intsD (s1.fallOf d))) 5 hu (x_fld 0 (x_var 0) T.cls_Walk T.na_Walk_falls) (x_is (x_var 3) (by rw [d.nk_data])) d.nk_t (by rw [falls_get, get_of_key hk]; rfl) ⟨by rw [falls_drop]; rfl, rfl⟩) ?_
      rintro o r ⟨rfl, rfl⟩
      refine g_asg (s := .d (.list [.str (Wk.swap x y d.ower), .str (Wk.swap x y d.owed)])) (x_lc (l := [d.ower, d.owed]) (enc := PyData.str) (g := gName 7) sc_W_join.nd [("one", 7)] (fun z => .str (Wk.swap x y z)) (src_tup (x_slT (ds := [.str d.ower, .str d.owed, d.page.enc]) (es := [.str d.ower, .str d.owed]) (l := none) (h := some 2) (x_var 3) o_none (o_some x_int))) (fun _ _ _ => trivial) (show 2 ≤ 100000 by decide) (blkOk_by (N := ["self", "name", "gone", "due", "falls", "ower", "owed", "one"]) (sc := defScope s_Walk_join) (by decide +kernel)) (fun _ _ _ _ _ => pg_name (i := 7) sc_W_join.nd rfl (.inl rfl)) (gw_name (by decide))
        fun z _ => ⟨_, gd_name, fun _ _ _ _ _ => x_if (k := decide (z = y)) (x_cmpT op_eq rd_eqS rfl (x_var 7) (x_var 2)) (fun h => x_is (x_var 1) (by rw [show Wk.swap x y z = x from if_pos (of_decide_eq_true h)])) fun h => x_is (x_var 7) (by rw [show Wk.swap x y z = z from if_neg (of_decide_eq_false h)])⟩)
        (pg_unl rfl (pgs_cons (pg_name (i := 5) sc_W_join.nd rfl (by first | exact .inl rfl | exact .inr rfl)) (pgs_cons (pg_name (i := 6) sc_W_join.nd rfl (by first | exact .inl rfl | exact .inr rfl)) pgs_nil))) (gd_unl (gds_cons gd_name (gds_cons gd_name gds_nil)) rfl) ?_
      refine g_if (k := decide (Wk.swap x y d.ower = Wk.swap x y d.owed)) (x_cmpT op_eq rd_eqS rfl (x_var 5) (x_var 6)) (fun hc => ?_) fun hc => ?_
      · rw [if_pos (of_decide_eq_true hc)] at e1
        refine g_fld (hl := Nat.le_of_ble_eq_true rfl) 0 (fun ow => x_var 0) (x_add (i := s1.struck) (j := 1) (x_fld 0 (x_var 0) T.cls_Walk T.na_Walk_struck) x_int) T.cls_Walk T.na_Walk_struck (g_end (g_end ?_))
        exact at_le hD1 ⟨rfl, by rw [e1]; rfl⟩ ⟨.inr rfl, .inr rfl, .inr rfl, .inl rfl, .inl rfl, .inl rfl, .inl rfl, .inl rfl, trivial⟩
      · rw [if_neg (of_decide_eq_false hc)] at e1
        refine g_expr (m_meth (D := Is (wOwn P w K a bk t (({ s1 with falls := aDrop s1.falls d } : Wk).lay ⟨Wk.swap x y d.ower, Wk.swap x y d.owed, d.page⟩ (s1.fallOf d)) ml) (.d .none)) 0 (g_W_lay T) hr T.cls_Walk (x_var 0) (ma_x (a_cons (x_tup (ds := [.str (Wk.swap x y d.ower), .str (Wk.swap x y d.owed), d.page.enc]) (a_cons (x_var 5) (a_cons (x_var 6) (a_cons (x_ixn 2 (x_var 3) x_int) a_nil)))) (a_cons (x_var 4) a_nil))) ?_) ?_
        · rintro o ss ⟨rfl, rfl⟩
          exact fits_all ⟨a, bk, t, _, ml, ⟨Wk.swap x y d.ower, Wk.swap x y d.owed, d.page⟩, s1.fallOf d, Nat.le_trans (aDrop_len _ _) (by omega), rfl, rfl, rfl⟩ fun _ _ h => h
        · rintro o r ⟨rfl, rfl⟩
          exact g_end (g_end (at_le hD1 ⟨rfl, by rw [e1]⟩ ⟨.inr rfl, .inr rfl, .inr rfl, .inl rfl, .inl rfl, .inl rfl, .inl rfl, .inl rfl, trivial⟩))
    · have hb' : ¬ (d.ower = y ∨ d.owed = y) := of_decide_eq_false hb
      have e2 : Wk.join1 x y s1 d = s1 := if_neg hb'
      rw [e2] at e1
      exact at_le hD1 ⟨rfl, by rw [e1]⟩ ⟨.inr rfl, .inr rfl, .inr rfl, .inl rfl, .inr rfl, .inr rfl, .inr rfl, .inr rfl, trivial⟩
  · rintro G1 o1 ⟨rfl, rfl⟩
    rw [List.length_map, List.take_length]
    exact g_nil fun R H z q hz => hD.2 _ z R H ⟨rfl, rfl⟩ q
theorem sc_W_fall : FnScope ["self", "day", "due", "falls", "left"] ["self", "day"] (defScope s_Walk_fall) := ⟨rfl, rfl, rfl, by decide +kernel, rfl, by decide +kernel, by decide +kernel⟩
theorem g_W_fall (T : Tx K mg) : GdM P w K mg base 2 (wC K) "fall" (spM K fun oc ss C => ∃ NS PS n a bk t s ml day, En NS PS ∧ WV NS PS n s ml ∧ n ≤ 900 ∧ (t.1 ≤ 100 ∧ t.2 ≤ 100) ∧ day.natAbs < 1000000 ∧ oc = wOwn P w K a bk t s ml ∧ ss = [.v (.ref a.w), .d (.int day)] ∧ C = Is (wOwn P w K a bk t (s.fall t day) ml) (.d .none)) := by
  obtain ⟨fd, F⟩ := T.fun_Walk_fall
  refine gdM_mk F (okM (k := 1) F sc_W_fall (fun _ _ _ ⟨_, _, _, _, _, _, _, _, _, _, _, _, _, _, _, e, _⟩ => by rw [e]; rfl) ?_) T.me_Walk_fall fun _ _ _ _ _ _ us hl => match us, hl with | [_, _], _ => rfl
  rintro cd A outer s0 H0 E hr oc ss C B D ⟨NS, PS, n, a, bk, t, s, ml, day, he, hv, hn, ht, hday, rfl, rfl, rfl⟩ hF hD
  have hu := hr.units
  refine g_for (g := gName 2) (src_m (src_list (ds := s.keys.map Due.enc) (x_keys (a := a) T (x_fld 0 (x_var 0) T.cls_Walk T.na_Walk_falls) rfl))) (pg_name (i := 2) sc_W_fall.nd rfl (.inl rfl)) ?_
  rintro o xs V ⟨rfl, rfl, rfl⟩
  refine ⟨fun i G1 o1 => G1 = [_, _, .u, .u, .u] ∧ o1 = wOwn P w K a bk t ((s.keys.take i).foldl (Wk.fall1 t day) s) ml, ⟨rfl, rfl⟩, fun _ _ _ _ _ _ _ => trivial, ?_, ?_⟩
  · rintro i z G1 o1 B1 D1 hz ⟨rfl, rfl⟩ hB hF1 hD1 _
    obtain ⟨d, hd, rfl⟩ := due_get hz
    obtain ⟨h1, h2⟩ := fold_keys (f := Wk.fall1 t day) (fun s' d h hd => ⟨(wv_fall1 h ht hday hd).1, fun x hx _ => (wv_fall1 h ht hday hd).2 x hx⟩) hv i
    have hk := h2 i d (Nat.le_refl _) hd
    have hlf := h1.lf he
    have e1 := fold_take (f := Wk.fall1 t day) hd s
    have hso := sort_of_some (h1.fk d hk).2.2.2
    have hfl : (((s.keys.take i).foldl (Wk.fall1 t day) s).fallOf d).length ≤ 95000 := Nat.le_trans (h1.fo hk).1 (by decide)
    refine ⟨_, gd_name, ?_⟩
    generalize (s.keys.take i).foldl (Wk.fall1 t day) s = s1 at *
    have hml : ∀ q ∈ ml, q.2.2.length ≤ 1000 := fun q hq => Nat.le_trans (h1.ll q hq) (by omega)
    refine g_set sc_W_fall.nd 3 (x_nget (p := a.falls) (k := d.nk) (ks := fallsN s1.falls) (d := intsD (s1.fallOf d)) 5 hu (x_fld 0 (x_var 0) T.cls_Walk T.na_Walk_falls) (x_is (x_var 2) (by rw [d.nk_data])) d.nk_t (by rw [falls_get, get_of_key hk]; rfl)) ?_
    refine g_set sc_W_fall.nd 4 (x_sub (i := termOf t (s1.sortOf d.page)) (j := ((s1.fallOf d).length : Nat)) (x_call (oc := []) (g_term_of T) (hr.mono (by decide)) ⟨rfl, t, s1.sortOf d.page, rfl, rfl⟩ (a_cons (x_fld 0 (x_var 0) T.cls_Walk T.na_Walk_own_terms) (a_cons (x_nget (p := a.sorts) (k := d.page.nk) (ks := sortsN s1.sorts) 4 hu (x_fld 0 (x_var 0) T.cls_Walk T.na_Walk_sorts) (x_is (x_ixn 2 (x_var 2) x_int) (by rw [d.page.nk_data])) d.page.nk_t (by rw [sorts_get, hso]; rfl)) a_nil))) (x_is (x_cb call_len_seq T.free_len rc_lenT (a_cons (x_var 3) a_nil)) (by rw [List.length_map]))) ?_
    refine g_if (k := Wk.open_ t day s1 d) (x_pw (x_and (x_cmpT op_gt rd_Ib rfl (x_var 4) x_int) fun _ => x_and (x_cmpT op_lt rd_Ib rfl (x_call (oc := []) (g_page_day T) (hr.mono (by decide)) ⟨d.page, rfl, rfl⟩ (a_cons (x_ixn 2 (x_var 2) x_int) a_nil)) (x_var 1)) fun _ => x_and (x_not (x_truth (x_meth 0 (g_W_mourns T) (hr.mono (by decide)) T.cls_Walk ⟨a, bk, t, s1, ml, d.ower, day, h1.mor, hml, rfl, rfl, rfl⟩ (x_var 0) (a_cons (x_ixn 0 (x_var 2) x_int) (a_cons (x_var 1) a_nil))) fun _ => rfl)) fun _ => x_and1 (x_not (x_truth (x_meth 0 (g_W_mourns T) (hr.mono (by decide)) T.cls_Walk ⟨a, bk, t, s1, ml, d.owed, day, h1.mor, hml, rfl, rfl, rfl⟩ (x_var 0) (a_cons (x_ixn 1 (x_var 2) x_int) (a_cons (x_var 1) a_nil))) fun _ => rfl)))) (fun hb => ?_) fun hb => g_end ?_
    · have e2 : Wk.fall1 t day s1 d = { s1 with falls := aPut s1.falls d (s1.fallOf d ++ [day]) } := if_pos hb
      rw [e2] at e1
      refine g_nput (p := a.falls) (k := d.nk) (ks := fallsN s1.falls) (d := intsD (s1.fallOf d ++ [day])) 5 hu (x_fld 0 (x_var 0) T.cls_Walk T.na_Walk_falls) (x_is (x_var 2) (by rw [d.nk_data])) d.nk_t (x_is (x_op op_catA (rd_cat (ds := (s1.fallOf d).map .int) (es := [.int day]) ?_) (x_var 3) (x_tup (ds := [.int day]) (a_cons (x_var 1) a_nil))) (by unfold intsD; rw [List.map_append]; rfl)) (by rw [falls_len]; omega) ?_
      · rw [List.length_map]
        exact Nat.le_trans (Nat.add_le_add_right hfl 1) (by decide)
      · rw [falls_put]
        exact g_end (at_le hD1 ⟨rfl, by rw [e1]; rfl⟩ ⟨.inr rfl, .inr rfl, .inl rfl, .inl rfl, .inl rfl, trivial⟩)
    · have e2 : Wk.fall1 t day s1 d = s1 := if_neg (by rw [hb]; exact Bool.false_ne_true)
      rw [e2] at e1
      exact at_le hD1 ⟨rfl, by rw [e1]⟩ ⟨.inr rfl, .inr rfl, .inl rfl, .inl rfl, .inl rfl, trivial⟩
  · rintro G1 o1 ⟨rfl, rfl⟩
    rw [List.length_map, List.take_length]
    exact g_nil fun R H z q hz => hD.2 _ z R H ⟨rfl, rfl⟩ q
end
end CB

/-! Part 23: put. -/
namespace CB
open PySem PySem.Spec PyProof.Rows L2
theorem kind_goings (p : Page) : decide (p.kind ∈ (["card", "visit"] : List Str)) = (p.isR 6 || p.isR 7) := by cases p <;> rfl
theorem kind_homes (p : Page) : decide (p.kind ∈ (["house", "home"] : List Str)) = (p.isR 0 || p.isR 3) := by cases p <;> rfl
theorem aPut_set {κ β : Type} [DecidableEq κ] {l : List (κ × β)} {i : Nat} {k : κ} {b v : β} (nd : (l.map (·.1)).Nodup) (hi : l[i]? = some (k, b)) : aPut l k v = l.set i (k, v) := by
  unfold aPut
  have hm : (l.any fun p => decide (p.1 = k)) = true := List.any_eq_true.mpr ⟨_, List.mem_of_getElem? hi, by simp⟩
  rw [if_pos hm]
  apply List.ext_getElem?
  intro j
  rw [List.getElem?_map]
  by_cases e : i = j
  · subst e
    rw [List.getElem?_set_self (List.getElem?_eq_some_iff.mp hi).1, hi]
    simp
  · rw [List.getElem?_set_ne e]
    cases q : l[j]? with
    | none => rfl
    | some p =>
      have hne : p.1 ≠ k := fun z => e (nd_ix nd (x := k) (by rw [List.getElem?_map, hi]; rfl) (by rw [List.getElem?_map, q, ← z]; rfl))
      simp [hne]
theorem mor_set {s : Wk} {ml : Ml} (h : MoR s ml) (nd : (s.mo.map (·.1)).Nodup) {i : Nat} {n : Str} {q : Addr} {ds : List PyData} (hi : ml[i]? = some (n, q, ds)) (iv : Int × Int) : MoR (s.mourn n iv) (ml.set i (n, q, ds ++ [ivD iv])) := by
  have h2 : (s.mo.map fun q => (q.1, ivsD q.2))[i]? = some (n, ds) := by rw [← h, List.getElem?_map, hi]; rfl
  rw [List.getElem?_map] at h2
  cases q2 : s.mo[i]? with
  | none => rw [q2] at h2; cases h2
  | some x =>
    rw [q2] at h2
    have h3 := Option.some.inj h2
    obtain ⟨m, ivs⟩ := x
    have e1 : m = n := congrArg Prod.fst h3
    have e2 : ivsD ivs = ds := congrArg Prod.snd h3
    subst e1
    have e3 : aGet s.mo m = some ivs := aGet_of_mem nd (List.mem_of_getElem? q2)
    show (ml.set i (m, q, ds ++ [ivD iv])).map (fun q => (q.1, q.2.2)) = (aPut s.mo m (((aGet s.mo m).getD []) ++ [iv])).map fun q => (q.1, ivsD q.2)
    rw [aPut_set nd q2, List.map_set, List.map_set, h, e3]
    show _ = List.set _ i (m, ivsD (ivs ++ [iv]))
    unfold ivsD at e2 ⊢
    rw [List.map_append, e2]
    rfl
theorem mor_new {s : Wk} {ml : Ml} (h : MoR s ml) {n : Str} (hn : aGet ml n = none) (q : Addr) (iv : Int × Int) : MoR (s.mourn n iv) (ml ++ [(n, q, [ivD iv])]) := by
  have h1 := mo_get h n
  rw [hn] at h1
  have e0 : aGet s.mo n = none := by
    cases z : aGet s.mo n with
    | none => rfl
    | some y => rw [z] at h1; cases h1
  show (ml ++ [(n, q, [ivD iv])]).map (fun q => (q.1, q.2.2)) = (aPut s.mo n (((aGet s.mo n).getD []) ++ [iv])).map fun q => (q.1, ivsD q.2)
  rw [e0, aPut_new _ e0, List.map_append, List.map_append, h]
  rfl
section
variable {NS : List Str} {PS : List Page} {n : Nat} {s : Wk} {ml : Ml}
theorem wv_homes (h : WV NS PS n s ml) (x : Str) (v : List Int) : WV NS PS (n + 1) { s with homes := aPut s.homes x v } ml :=
  ⟨h.mor, h.nd, h.fk, Nat.le_trans (aPut_len _ _ _) (Nat.succ_le_succ h.lh), Nat.le_succ_of_le h.lm, fun q hq => Nat.le_succ_of_le (h.ll q hq), Nat.le_succ_of_le h.ls, Nat.le_succ_of_le h.lk, Nat.le_succ_of_le h.la, h.fl, h.sg, h.an, h.mn⟩
theorem wv_mourn {ml' : Ml} (h : WV NS PS n s ml) (x : Str) (iv : Int × Int) (hm : MoR (s.mourn x iv) ml') (hl : ∀ q ∈ ml', q.2.2.length ≤ n + 1) : WV NS PS (n + 1) (s.mourn x iv) ml' :=
  ⟨hm, h.nd, h.fk, Nat.le_succ_of_le h.lh, Nat.le_trans (aPut_len _ _ _) (Nat.succ_le_succ h.lm), hl, Nat.le_succ_of_le h.ls, Nat.le_succ_of_le h.lk, Nat.le_succ_of_le h.la, h.fl, h.sg, h.an, aPut_nd h.mn⟩
theorem wv_part (h : WV NS PS n s ml) {x y : Str} (hy : y ∈ NS) : WV NS PS n (s.part x y) ml := fold_all (f := Wk.part1 x y) (fun s' d h hd => ⟨(wv_part1 h hd hy).1, fun z hz _ => (wv_part1 h hd hy).2 z hz⟩) h
theorem wv_join (h : WV NS PS n s ml) {x y : Str} (hx : x ∈ NS) : WV NS PS n (s.join x y) ml := fold_all (f := Wk.join1 x y) (fun s' d h hd => wv_join1 h hd hx) h
theorem wv_fall (h : WV NS PS n s ml) {t : Tm} {day : Int} (ht : t.1 ≤ 100 ∧ t.2 ≤ 100) (hday : day.natAbs < 1000000) : WV NS PS n (s.fall t day) ml := fold_all (f := Wk.fall1 t day) (fun s' d h hd => ⟨(wv_fall1 h ht hday hd).1, fun z hz _ => (wv_fall1 h ht hday hd).2 z hz⟩) h
end
section
variable {P : Program} {w : World} {K : PySem.W.Frag} {mg : Str → Option Value} {base : Heap}
theorem sc_W_put : FnScope ["self", "page", "kind"] ["self", "page"] (defScope s_Walk_put) := ⟨rfl, rfl, rfl, by decide +kernel, rfl, by decide +kernel, by decide +kernel⟩
theorem g_W_put (T : Tx K mg) : GdM P w K mg base 4 (wC K) "put" (spM K fun oc ss C => ∃ NS PS n a bk t s ml, ∃ p : Page, En NS PS ∧ WV NS PS n s ml ∧ n < 900 ∧ p ∈ PS ∧ (p ∉ s.lost → ∀ d x y, p = .visit d x y → (aGet s.homes y).isSome = true) ∧ oc = wOwn P w K a bk t s ml ∧ ss = [.v (.ref a.w), .d p.enc] ∧ C = fun o r => ∃ ml', WV NS PS (n + 1) (s.put p).1 ml' ∧ o = wOwn P w K a bk t (s.put p).1 ml' ∧ r = .d (s.put p).2) := by
  obtain ⟨fd, F⟩ := T.fun_Walk_put
  refine gdM_mk F (okM (k := 3) F sc_W_put (fun _ _ _ ⟨_, _, _, _, _, _, _, _, _, _, _, _, _, _, _, e, _⟩ => by rw [e]; rfl) ?_) T.me_Walk_put fun _ _ _ _ _ _ us hl => match us, hl with | [_, _], _ => rfl
  rintro cd A outer s0 H0 E hr oc ss C B D ⟨NS, PS, n, a, bk, t, s, ml, p, he, hv, hn, hp, hh, rfl, rfl, rfl⟩ hF hD
  have hu := hr.units
  have hu1 : (A.deeper (envOfC "Walk.put" (defScope s_Walk_put) s0.heap.objs.size (He.fAd K ("Walk", some "put")) cd)).units + 1 < cLine := by omega
  have hlf := hv.lf he
  refine g_set sc_W_put.nd 2 (x_call (oc := []) (g_page_kind T) (hr.mono (by decide)) ⟨p, rfl, rfl⟩ (a_cons (x_var 1) a_nil)) ?_
  refine g_if (k := decide (p ∈ s.lost)) (x_t (x_ninT (p := a.lost) (k := p.nk) (ks := trues s.lost) 1 hu (x_is (x_var 1) (by rw [p.nk_data])) (x_fld 0 (x_var 0) T.cls_Walk T.na_Walk_lost) p.nk_t) (trues_get p s.lost)) (fun hb => ?_) fun hb => g_end ?_
  · have ep : s.put p = (s, .tuple [.str "idle"]) := if_pos (of_decide_eq_true hb)
    rw [ep] at hD
    exact g_ret (x_tup (ds := [.str "idle"]) (a_cons x_str a_nil)) fun v R H q e => hD.1 _ _ v R H ⟨ml, hv.mono, rfl, rfl⟩ q e
  have hnl : p ∉ s.lost := of_decide_eq_false hb
  cases p with
  | card d x y =>
    have ep : s.put (.card d x y) = s.go (.card d x y) x y := if_neg hnl
    rw [ep] at hD
    have hx : x ∈ NS := he.pn _ hp x (by simp [Page.names])
    have hy : y ∈ NS := he.pn _ hp y (by simp [Page.names])
    refine g_if (k := true) (x_t (x_inS (ys := ["card", "visit"]) (x_var 2) (x_globT T.glo_GOINGS (fun H => T.tab_GOINGS H) fun H => strs_dps ["card", "visit"])) (kind_goings (.card d x y))) (fun _ => ?_) fun h => ff h.symm
    refine g_retM (m_meth (D := Is (wOwn P w K a bk t (s.go (.card d x y) x y).1 ml) (.d (s.go (.card d x y) x y).2)) 0 (g_W_go T) hr T.cls_Walk (x_var 0) (ma_x (a_cons (x_var 1) a_nil)) ?_) fun o r v R H c q e => hD.1 o r v R H ?_ q e
    · rintro o ss ⟨rfl, rfl⟩
      exact fits_all ⟨NS, PS, n, a, bk, t, s, ml, (.card d x y), x, y, he, hv, by omega, hp, hx, hy, .card d x y, (fun h => ff h), rfl, rfl, rfl⟩ fun _ _ h => h
    · exact ⟨ml, wv_go he hv hx hy hp (.card d x y), c.1, c.2⟩
  | visit d x y =>
    have ep : s.put (.visit d x y) = s.go (.visit d x y) x y := if_neg hnl
    rw [ep] at hD
    have hx : x ∈ NS := he.pn _ hp x (by simp [Page.names])
    have hy : y ∈ NS := he.pn _ hp y (by simp [Page.names])
    refine g_if (k := true) (x_t (x_inS (ys := ["card", "visit"]) (x_var 2) (x_globT T.glo_GOINGS (fun H => T.tab_GOINGS H) fun H => strs_dps ["card", "visit"])) (kind_goings (.visit d x y))) (fun _ => ?_) fun h => ff h.symm
    refine g_retM (m_meth (D := Is (wOwn P w K a bk t (s.go (.visit d x y) x y).1 ml) (.d (s.go (.visit d x y) x y).2)) 0 (g_W_go T) hr T.cls_Walk (x_var 0) (ma_x (a_cons (x_var 1) a_nil)) ?_) fun o r v R H c q e => hD.1 o r v R H ?_ q e
    · rintro o ss ⟨rfl, rfl⟩
      exact fits_all ⟨NS, PS, n, a, bk, t, s, ml, (.visit d x y), x, y, he, hv, by omega, hp, hx, hy, .visit d x y, (fun _ => hh hnl d x y rfl), rfl, rfl, rfl⟩ fun _ _ h => h
    · exact ⟨ml, wv_go he hv hx hy hp (.visit d x y), c.1, c.2⟩
  | part d x y h =>
    have ep : s.put (.part d x y h) = ({ s.part x y with homes := aPut (s.part x y).homes y h }, .tuple [.str "done"]) := if_neg hnl
    rw [ep] at hD
    have hy : y ∈ NS := he.pn _ hp y (by simp [Page.names])
    have hw := wv_part hv (x := x) hy
    refine g_if (k := false) (x_t (x_inS (ys := ["card", "visit"]) (x_var 2) (x_globT T.glo_GOINGS (fun H => T.tab_GOINGS H) fun H => strs_dps ["card", "visit"])) (kind_goings (.part d x y h))) (fun h => ff h) fun _ => g_end ?_
    refine g_if (k := true) (x_kind (isR_part (.part d x y h)) (x_var 2) x_str) (fun _ => ?_) fun h => ff h.symm
    refine g_expr (m_meth (D := Is (wOwn P w K a bk t (s.part x y) ml) (.d .none)) 0 (g_W_part T) (hr.mono (by decide)) T.cls_Walk (x_var 0) (ma_x (a_cons (x_ixn 2 (x_var 1) x_int) (a_cons (x_ixn 3 (x_var 1) x_int) a_nil))) ?_) ?_
    · rintro o ss ⟨rfl, rfl⟩
      exact fits_all ⟨NS, PS, n, a, bk, t, s, ml, x, y, he, hv, hy, rfl, rfl, rfl⟩ fun _ _ h => h
    rintro o r ⟨rfl, rfl⟩
    generalize s.part x y = s1 at *
    refine g_tput (s := .d (intsD h)) (p := a.homes) (n := y) (kvs := homesT s1.homes) 2 hu1 (x_fld 0 (x_var 0) T.cls_Walk T.na_Walk_homes) (x_ixn 3 (x_var 1) x_int) (x_ixn 4 (x_var 1) x_int) (by rw [homesT_len]; have := hw.lh; omega) (g_end ?_)
    rw [homesT_put]
    refine g_if (k := false) (x_kind (isR_join (.part d x y h)) (x_var 2) x_str) (fun h => ff h) fun _ => g_end ?_
    refine g_if (k := false) (x_t (x_inS (ys := ["house", "home"]) (x_var 2) (x_tup (ds := [.str "house", .str "home"]) (a_cons x_str (a_cons x_str a_nil)))) (kind_homes (.part d x y h))) (fun h => ff h) fun _ => g_end ?_
    refine g_if (k := false) (x_kind (isR_mourn (.part d x y h)) (x_var 2) x_str) (fun h => ff h) fun _ => g_end ?_
    exact g_ret (x_tup (ds := [.str "done"]) (a_cons x_str a_nil)) fun v R H q e => hD.1 _ _ v R H ⟨ml, wv_homes hw y h, rfl, rfl⟩ q e
  | join d x y =>
    have ep : s.put (.join d x y) = (s.join x y, .tuple [.str "done"]) := if_neg hnl
    rw [ep] at hD
    have hx : x ∈ NS := he.pn _ hp x (by simp [Page.names])
    have hw := wv_join hv (y := y) hx
    refine g_if (k := false) (x_t (x_inS (ys := ["card", "visit"]) (x_var 2) (x_globT T.glo_GOINGS (fun H => T.tab_GOINGS H) fun H => strs_dps ["card", "visit"])) (kind_goings (.join d x y))) (fun h => ff h) fun _ => g_end ?_
    refine g_if (k := false) (x_kind (isR_part (.join d x y)) (x_var 2) x_str) (fun h => ff h) fun _ => g_end ?_
    refine g_if (k := true) (x_kind (isR_join (.join d x y)) (x_var 2) x_str) (fun _ => ?_) fun h => ff h.symm
    refine g_expr (m_meth (D := Is (wOwn P w K a bk t (s.join x y) ml) (.d .none)) 0 (g_W_join T) (hr.mono (by decide)) T.cls_Walk (x_var 0) (ma_x (a_cons (x_ixn 2 (x_var 1) x_int) (a_cons (x_ixn 3 (x_var 1) x_int) a_nil))) ?_) ?_
    · rintro o ss ⟨rfl, rfl⟩
      exact fits_all ⟨NS, PS, n, a, bk, t, s, ml, x, y, he, hv, hx, rfl, rfl, rfl⟩ fun _ _ h => h
    rintro o r ⟨rfl, rfl⟩
    refine g_end ?_
    refine g_if (k := false) (x_t (x_inS (ys := ["house", "home"]) (x_var 2) (x_tup (ds := [.str "house", .str "home"]) (a_cons x_str (a_cons x_str a_nil)))) (kind_homes (.join d x y))) (fun h => ff h) fun _ => g_end ?_
    refine g_if (k := false) (x_kind (isR_mourn (.join d x y)) (x_var 2) x_str) (fun h => ff h) fun _ => g_end ?_
    exact g_ret (x_tup (ds := [.str "done"]) (a_cons x_str a_nil)) fun v R H q e => hD.1 _ _ v R H ⟨ml, hw.mono, rfl, rfl⟩ q e
  | house d x h =>
    have ep : s.put (.house d x h) = ({ s with homes := aPut s.homes x h }, .tuple [.str "done"]) := if_neg hnl
    rw [ep] at hD
    refine g_if (k := false) (x_t (x_inS (ys := ["card", "visit"]) (x_var 2) (x_globT T.glo_GOINGS (fun H => T.tab_GOINGS H) fun H => strs_dps ["card", "visit"])) (kind_goings (.house d x h))) (fun h => ff h) fun _ => g_end ?_
    refine g_if (k := false) (x_kind (isR_part (.house d x h)) (x_var 2) x_str) (fun h => ff h) fun _ => g_end ?_
    refine g_if (k := false) (x_kind (isR_join (.house d x h)) (x_var 2) x_str) (fun h => ff h) fun _ => g_end ?_
    refine g_if (k := true) (x_t (x_inS (ys := ["house", "home"]) (x_var 2) (x_tup (ds := [.str "house", .str "home"]) (a_cons x_str (a_cons x_str a_nil)))) (kind_homes (.house d x h))) (fun _ => ?_) fun h => ff h.symm
    refine g_tput (s := .d (intsD h)) (p := a.homes) (n := x) (kvs := homesT s.homes) 2 hu1 (x_fld 0 (x_var 0) T.cls_Walk T.na_Walk_homes) (x_ixn 2 (x_var 1) x_int) (x_ixn 3 (x_var 1) x_int) (by rw [homesT_len]; have := hv.lh; omega) (g_end ?_)
    rw [homesT_put]
    refine g_if (k := false) (x_kind (isR_mourn (.house d x h)) (x_var 2) x_str) (fun h => ff h) fun _ => g_end ?_
    exact g_ret (x_tup (ds := [.str "done"]) (a_cons x_str a_nil)) fun v R H q e => hD.1 _ _ v R H ⟨ml, wv_homes hv x h, rfl, rfl⟩ q e
  | home d x h =>
    have ep : s.put (.home d x h) = ({ s with homes := aPut s.homes x h }, .tuple [.str "done"]) := if_neg hnl
    rw [ep] at hD
    refine g_if (k := false) (x_t (x_inS (ys := ["card", "visit"]) (x_var 2) (x_globT T.glo_GOINGS (fun H => T.tab_GOINGS H) fun H => strs_dps ["card", "visit"])) (kind_goings (.home d x h))) (fun h => ff h) fun _ => g_end ?_
    refine g_if (k := false) (x_kind (isR_part (.home d x h)) (x_var 2) x_str) (fun h => ff h) fun _ => g_end ?_
    refine g_if (k := false) (x_kind (isR_join (.home d x h)) (x_var 2) x_str) (fun h => ff h) fun _ => g_end ?_
    refine g_if (k := true) (x_t (x_inS (ys := ["house", "home"]) (x_var 2) (x_tup (ds := [.str "house", .str "home"]) (a_cons x_str (a_cons x_str a_nil)))) (kind_homes (.home d x h))) (fun _ => ?_) fun h => ff h.symm
    refine g_tput (s := .d (intsD h)) (p := a.homes) (n := x) (kvs := homesT s.homes) 2 hu1 (x_fld 0 (x_var 0) T.cls_Walk T.na_Walk_homes) (x_ixn 2 (x_var 1) x_int) (x_ixn 3 (x_var 1) x_int) (by rw [homesT_len]; have := hv.lh; omega) (g_end ?_)
    rw [homesT_put]
    refine g_if (k := false) (x_kind (isR_mourn (.home d x h)) (x_var 2) x_str) (fun h => ff h) fun _ => g_end ?_
    exact g_ret (x_tup (ds := [.str "done"]) (a_cons x_str a_nil)) fun v R H q e => hD.1 _ _ v R H ⟨ml, wv_homes hv x h, rfl, rfl⟩ q e
  | mourn d x k =>
    have ep : s.put (.mourn d x k) = (s.mourn x (d, d + k - 1), .tuple [.str "done"]) := if_neg hnl
    rw [ep] at hD
    refine g_if (k := false) (x_t (x_inS (ys := ["card", "visit"]) (x_var 2) (x_globT T.glo_GOINGS (fun H => T.tab_GOINGS H) fun H => strs_dps ["card", "visit"])) (kind_goings (.mourn d x k))) (fun h => ff h) fun _ => g_end ?_
    refine g_if (k := false) (x_kind (isR_part (.mourn d x k)) (x_var 2) x_str) (fun h => ff h) fun _ => g_end ?_
    refine g_if (k := false) (x_kind (isR_join (.mourn d x k)) (x_var 2) x_str) (fun h => ff h) fun _ => g_end ?_
    refine g_if (k := false) (x_t (x_inS (ys := ["house", "home"]) (x_var 2) (x_tup (ds := [.str "house", .str "home"]) (a_cons x_str (a_cons x_str a_nil)))) (kind_homes (.mourn d x k))) (fun h => ff h) fun _ => g_end ?_
    refine g_if (k := true) (x_kind (isR_mourn (.mourn d x k)) (x_var 2) x_str) (fun _ => ?_) fun h => ff h.symm
    have hmll : ml.length ≤ n := by
      have := congrArg List.length hv.mor
      rw [List.length_map, List.length_map] at this
      rw [this]
      exact hv.lm
    cases hg : aGet ml x with
    | some y =>
      obtain ⟨q, ds⟩ := y
      obtain ⟨i, hi⟩ := aGet_ix hg
      have hdl : ds.length ≤ n := hv.ll _ (List.mem_of_getElem? hi)
      refine g_expr (m_append (Dd := fun o r => o = wOwn P w K a bk t (s.mourn x (d, d + k - 1)) (ml.set i (x, q, ds ++ [ivD (d, d + k - 1)]))) (m_tsetd (p := a.mourned) (n := x) (kvs := mlT ml) (Dd := Is (wOwn P w K a bk t s ml) (.v (.ref q))) 3 (x_fld 0 (x_var 0) T.cls_Walk T.na_Walk_mourned) (x_ixn 2 (x_var 1) x_int) (m_x (x_lst (ds := []) a_nil)) (by rw [mlT_len]; omega) ?_) ?_) ?_
      · rintro o2 s2 ⟨rfl, rfl⟩
        refine ⟨3, rfl, fun s' hs => ?_, fun hn' => ?_⟩
        · rw [mlT_get, hg] at hs
          exact ⟨rfl, (Option.some.inj hs).symm⟩
        · rw [mlT_get, hg] at hn'
          cases hn'
      · rintro o1 s1 ⟨rfl, rfl⟩
        refine ⟨q, i + 8, ds, rfl, mlO_get hi, _, m_x (x_tup (ds := [.int d, .int (d + k - 1)]) (a_cons (x_ixn 1 (x_var 1) x_int) (a_cons (x_sub (x_add (x_ixn 1 (x_var 1) x_int) (x_ixn 3 (x_var 1) x_int)) x_int) a_nil))), ?_⟩
        rintro o2 s2 ⟨rfl, rfl⟩
        refine ⟨i + 8, ds, _, rfl, mlO_get hi, by omega, ?_⟩
        show _ :: _ :: _ :: _ :: _ :: _ :: _ :: _ :: (mlO K ml).set i _ = _
        unfold wOwn
        rw [mlT_set hi, ← mlO_set]
        rfl
      · rintro o r rfl
        refine g_end ?_
        exact g_ret (x_tup (ds := [.str "done"]) (a_cons x_str a_nil)) fun v R H q2 e => hD.1 _ _ v R H ⟨_, wv_mourn hv x _ (mor_set hv.mor hv.mn hi _) (fun z hz => by
          rcases List.mem_or_eq_of_mem_set hz with hz | hz
          · exact Nat.le_succ_of_le (hv.ll z hz)
          · rw [hz]
            show (ds ++ [ivD (d, d + k - 1)]).length ≤ n + 1
            rw [List.length_append]
            exact Nat.succ_le_succ hdl), rfl, rfl⟩ q2 e
    | none =>
      refine g_expr (m_append (Dd := fun o r => ∃ q, o.Perm (wOwn P w K a bk t (s.mourn x (d, d + k - 1)) (ml ++ [(x, q, [ivD (d, d + k - 1)])]))) (m_tsetd (p := a.mourned) (n := x) (kvs := mlT ml) (Dd := fun o r => ∃ q, o = (q, asL K []) :: (wOwn P w K a bk t s ml).set 3 (a.mourned, asT K (mlT (ml ++ [(x, q, [])]))) ∧ r = .v (.ref q)) 3 (x_fld 0 (x_var 0) T.cls_Walk T.na_Walk_mourned) (x_ixn 2 (x_var 1) x_int) m_lnew (by rw [mlT_len]; omega) ?_) ?_) ?_
      · rintro o2 s2 ⟨q, rfl, rfl⟩
        refine ⟨4, rfl, fun s' hs => ?_, fun _ => ⟨q, ?_, rfl⟩⟩
        · rw [mlT_get, hg] at hs
          cases hs
        · rw [mlT_snoc ml x q [] hg]
          rfl
      · rintro o1 s1 ⟨q, rfl, rfl⟩
        refine ⟨q, 0, [], rfl, rfl, _, m_x (x_tup (ds := [.int d, .int (d + k - 1)]) (a_cons (x_ixn 1 (x_var 1) x_int) (a_cons (x_sub (x_add (x_ixn 1 (x_var 1) x_int) (x_ixn 3 (x_var 1) x_int)) x_int) a_nil))), ?_⟩
        rintro o2 s2 ⟨rfl, rfl⟩
        refine ⟨0, [], _, rfl, rfl, by decide, q, ?_⟩
        have e1 : mlT (ml ++ [(x, q, [ivD (d, d + k - 1)])]) = mlT (ml ++ [(x, q, [])]) := by
          unfold mlT aMap
          rw [List.map_append, List.map_append]
          rfl
        unfold wOwn
        rw [mlO_snoc, e1]
        exact (List.perm_append_singleton (q, asL K [ivD (d, d + k - 1)]) (_ :: _ :: _ :: _ :: _ :: _ :: _ :: _ :: mlO K ml)).symm
      · rintro o r ⟨q, hpq⟩
        refine g_end (g_perm hpq ?_)
        exact g_ret (x_tup (ds := [.str "done"]) (a_cons x_str a_nil)) fun v R H q2 e => hD.1 _ _ v R H ⟨_, wv_mourn hv x _ (mor_new hv.mor hg q _) (fun z hz => by
          rcases List.mem_append.mp hz with hz | hz
          · exact Nat.le_succ_of_le (hv.ll z hz)
          · have : z = (x, q, [ivD (d, d + k - 1)]) := by simpa using hz
            rw [this]
            exact Nat.succ_le_succ (Nat.zero_le n)), rfl, rfl⟩ q2 e
  | ahead d x y =>
    have ep : s.put (.ahead d x y) = (s, .tuple [.str "done"]) := if_neg hnl
    rw [ep] at hD
    refine g_if (k := false) (x_t (x_inS (ys := ["card", "visit"]) (x_var 2) (x_globT T.glo_GOINGS (fun H => T.tab_GOINGS H) fun H => strs_dps ["card", "visit"])) (kind_goings (.ahead d x y))) (fun h => ff h) fun _ => g_end ?_
    refine g_if (k := false) (x_kind (isR_part (.ahead d x y)) (x_var 2) x_str) (fun h => ff h) fun _ => g_end ?_
    refine g_if (k := false) (x_kind (isR_join (.ahead d x y)) (x_var 2) x_str) (fun h => ff h) fun _ => g_end ?_
    refine g_if (k := false) (x_t (x_inS (ys := ["house", "home"]) (x_var 2) (x_tup (ds := [.str "house", .str "home"]) (a_cons x_str (a_cons x_str a_nil)))) (kind_homes (.ahead d x y))) (fun h => ff h) fun _ => g_end ?_
    refine g_if (k := false) (x_kind (isR_mourn (.ahead d x y)) (x_var 2) x_str) (fun h => ff h) fun _ => g_end ?_
    exact g_ret (x_tup (ds := [.str "done"]) (a_cons x_str a_nil)) fun v R H q e => hD.1 _ _ v R H ⟨ml, hv.mono, rfl, rfl⟩ q e
end
end CB

/-! Part 24: go_to, walked. -/
namespace CB
open PySem PySem.Spec PyProof.Rows L2
/-- what the steps leave alone -/
structure Fr3 (s s' : Wk) : Prop where
  lost : s'.lost = s.lost
  marks : s'.marks = s.marks
  homes : s'.homes = s.homes
theorem Fr3.refl (s : Wk) : Fr3 s s := ⟨rfl, rfl, rfl⟩
theorem Fr3.trans {a b c : Wk} (h : Fr3 a b) (g : Fr3 b c) : Fr3 a c := ⟨g.lost.trans h.lost, g.marks.trans h.marks, g.homes.trans h.homes⟩
theorem fr_fold {α : Type} {f : Wk → α → Wk} (h : ∀ s x, Fr3 s (f s x)) : ∀ (l : List α) (s : Wk), Fr3 s (l.foldl f s)
  | [], s => Fr3.refl s
  | x :: l, s => (h s x).trans (fr_fold h l (f s x))
theorem fr_lay (s : Wk) (d : Due) (v : List Int) : Fr3 s (s.lay d v) := by
  unfold Wk.lay
  cases aGet s.falls d with
  | none => exact ⟨rfl, rfl, rfl⟩
  | some t => show Fr3 s (if stays t v then _ else _); split <;> exact ⟨rfl, rfl, rfl⟩
theorem fr_part1 (x y : Str) (s : Wk) (d : Due) : Fr3 s (Wk.part1 x y s d) := by unfold Wk.part1; split <;> exact ⟨rfl, rfl, rfl⟩
theorem fr_fall1 (t : Tm) (day : Int) (s : Wk) (d : Due) : Fr3 s (Wk.fall1 t day s d) := by unfold Wk.fall1; split <;> exact ⟨rfl, rfl, rfl⟩
theorem fr_join1 (x y : Str) (s : Wk) (d : Due) : Fr3 s (Wk.join1 x y s d) := by
  unfold Wk.join1
  split
  · show Fr3 s (if _ then _ else _)
    split
    · exact ⟨rfl, rfl, rfl⟩
    · exact (show Fr3 s { s with falls := aDrop s.falls d } from ⟨rfl, rfl, rfl⟩).trans (fr_lay _ _ _)
  · exact Fr3.refl s
theorem fr_dropAll (s : Wk) (l : List Due) : Fr3 s (s.dropAll l) := fr_fold (f := fun s d => { s with falls := aDrop s.falls d }) (fun s d => ⟨rfl, rfl, rfl⟩) l s
theorem fr_go (s : Wk) (p : Page) (x y : Str) : Fr3 s (s.go p x y).1 := by
  unfold Wk.go
  show Fr3 s (if _ then _ else _ : Wk × PyData).1
  split
  · exact ⟨rfl, rfl, rfl⟩
  · exact (fr_dropAll s _).trans ⟨rfl, rfl, rfl⟩
theorem fr_part (s : Wk) (x y : Str) : Fr3 s (s.part x y) := fr_fold (fr_part1 x y) _ s
theorem fr_join (s : Wk) (x y : Str) : Fr3 s (s.join x y) := fr_fold (fr_join1 x y) _ s
theorem fr_fall (s : Wk) (t : Tm) (day : Int) : Fr3 s (s.fall t day) := fr_fold (fr_fall1 t day) _ s
theorem put_lost (s : Wk) (p : Page) : (s.put p).1.lost = s.lost ∧ (s.put p).1.marks = s.marks := by
  unfold Wk.put
  split
  · exact ⟨rfl, rfl⟩
  · cases p with
    | card d a b => exact ⟨(fr_go s _ _ _).lost, (fr_go s _ _ _).marks⟩
    | visit d a b => exact ⟨(fr_go s _ _ _).lost, (fr_go s _ _ _).marks⟩
    | part d a b h => exact ⟨(fr_part s _ _).lost, (fr_part s _ _).marks⟩
    | join d a b => exact ⟨(fr_join s _ _).lost, (fr_join s _ _).marks⟩
    | house d n h => exact ⟨rfl, rfl⟩
    | home d n h => exact ⟨rfl, rfl⟩
    | mourn d n k => exact ⟨rfl, rfl⟩
    | ahead d a b => exact ⟨rfl, rfl⟩
/-- who stands in the houses stands in the walk -/
def HL (l : List Page) (i : Nat) (s : Wk) : Prop := ∀ x, (aGet (Hs.run (l.take i)).homes x).isSome = true → (aGet s.homes x).isSome = true
theorem meet_idle {st : Hs} {p q : Page} (h : q ∈ st.idle) : q ∈ (st.meet p).idle := by
  unfold Hs.meet
  split
  · cases p <;> exact h
  · exact List.mem_append_left _ h
theorem fold_idle {q : Page} : ∀ (l : List Page) (st : Hs), q ∈ st.idle → q ∈ (l.foldl Hs.meet st).idle
  | [], _, h => h
  | p :: l, st, h => fold_idle l (st.meet p) (meet_idle h)
theorem run_split (l : List Page) (i : Nat) : Hs.run l = (l.drop i).foldl Hs.meet (Hs.run (l.take i)) := by
  unfold Hs.run
  rw [← List.foldl_append, List.take_append_drop]
theorem can_of {l : List Page} {i : Nat} {p : Page} (hi : l[i]? = some p) (h : p ∉ (Hs.run l).idle) : (Hs.run (l.take i)).can p = true := by
  cases c : (Hs.run (l.take i)).can p with
  | true => rfl
  | false =>
    refine absurd ?_ h
    rw [run_split l (i + 1)]
    refine fold_idle _ _ ?_
    rw [run_take hi]
    unfold Hs.meet
    rw [if_neg (by rw [c]; exact Bool.false_ne_true)]
    exact List.mem_append_right _ (List.mem_singleton.mpr rfl)
theorem idle_at {l : List Page} {p : Page} : ∀ (k : Nat), p ∈ (Hs.run (l.take k)).idle → ∃ j, j < k ∧ l[j]? = some p ∧ (Hs.run (l.take j)).can p = false
  | 0, h => nomatch h
  | k + 1, h => by
    cases q : l[k]? with
    | none =>
      have hl : l.length ≤ k := List.getElem?_eq_none_iff.mp q
      have e : l.take (k + 1) = l.take k := by rw [List.take_of_length_le hl, List.take_of_length_le (Nat.le_succ_of_le hl)]
      rw [e] at h
      obtain ⟨j, h1, h2⟩ := idle_at k h
      exact ⟨j, Nat.lt_succ_of_lt h1, h2⟩
    | some r =>
      rw [run_take q] at h
      unfold Hs.meet at h
      by_cases c : (Hs.run (l.take k)).can r = true
      · rw [if_pos c] at h
        have h' : p ∈ (Hs.run (l.take k)).idle := by
          cases r <;> exact h
        obtain ⟨j, h1, h2⟩ := idle_at k h'
        exact ⟨j, Nat.lt_succ_of_lt h1, h2⟩
      · rw [if_neg c] at h
        rcases List.mem_append.mp h with h | h
        · obtain ⟨j, h1, h2⟩ := idle_at k h
          exact ⟨j, Nat.lt_succ_of_lt h1, h2⟩
        · have e : p = r := by simpa using h
          subst e
          exact ⟨k, Nat.lt_succ_self k, q, by simpa using c⟩
theorem HL.step {l : List Page} {i : Nat} {s : Wk} {p : Page} (nd : l.Nodup) (h : HL l i s) (hl : s.lost = dedup [] (Hs.run l).idle) (hi : l[i]? = some p) : HL l (i + 1) (s.put p).1 := by
  intro x hx
  rw [run_take hi] at hx
  by_cases hlost : p ∈ s.lost
  · have e1 : (s.put p).1 = s := by unfold Wk.put; rw [if_pos hlost]
    rw [e1]
    rw [hl, dedup_mem] at hlost
    have h2 : p ∈ (Hs.run (l.take l.length)).idle := by
      rw [List.take_length]
      exact hlost.resolve_left (fun z => nomatch z)
    obtain ⟨j, _, hj, hc⟩ := idle_at _ h2
    have := nd_ix nd hj hi
    subst this
    have e2 : (Hs.run (l.take j)).meet p = { Hs.run (l.take j) with idle := (Hs.run (l.take j)).idle ++ [p] } := if_neg (by rw [hc]; exact Bool.false_ne_true)
    rw [e2] at hx
    exact h x hx
  · have hni : p ∉ (Hs.run l).idle := fun z => hlost (by rw [hl, dedup_mem]; exact .inr z)
    have hc := can_of hi hni
    have e2 : (Hs.run (l.take i)).meet p = (Hs.run (l.take i)).act p := if_pos hc
    rw [e2] at hx
    have key : ∀ (n : Str) (v : List Int) (st st' : List (Str × List Int)), ((aGet st x).isSome = true → (aGet st' x).isSome = true) → (aGet (aPut st n v) x).isSome = true → (aGet (aPut st' n v) x).isSome = true := fun n v st st' g z => by
      rw [aGet_put] at z ⊢
      by_cases e : x = n
      · rw [if_pos e]; rfl
      · rw [if_neg e] at z ⊢; exact g z
    unfold Wk.put
    rw [if_neg hlost]
    cases p with
    | card d a b => rw [show _ = s.homes from (fr_go s _ _ _).homes]; exact h x hx
    | visit d a b => rw [show _ = s.homes from (fr_go s _ _ _).homes]; exact h x hx
    | part d a b v => exact key b v _ _ (by rw [(fr_part s a b).homes]; exact h x) hx
    | join d a b =>
      rw [show _ = s.homes from (fr_join s _ _).homes]
      refine h x ?_
      have hx' : (aGet (aDrop (Hs.run (l.take i)).homes b) x).isSome = true := hx
      rw [aGet_drop] at hx'
      by_cases e : x = b
      · rw [if_pos e] at hx'; cases hx'
      · rwa [if_neg e] at hx'
    | house d n v => exact key n v _ _ (h x) hx
    | home d n v => exact key n v _ _ (h x) hx
    | mourn d n k => exact h x hx
    | ahead d a b => exact h x hx
theorem HL.visit {l : List Page} {i : Nat} {s : Wk} {p : Page} (h : HL l i s) (hl : s.lost = dedup [] (Hs.run l).idle) (hi : l[i]? = some p) : p ∉ s.lost → ∀ d x y, p = .visit d x y → (aGet s.homes y).isSome = true := fun hlost d x y e => by
  have hni : p ∉ (Hs.run l).idle := fun z => hlost (by rw [hl, dedup_mem]; exact .inr z)
  have hc := can_of hi hni
  subst e
  refine h y ?_
  have hc' : ([x, y].all fun n => (aGet (Hs.run (l.take i)).homes n).isSome) = true := hc
  exact List.all_eq_true.mp hc' y (by simp)
/-- all that stays true through go_to -/
structure WS (NS : List Str) (PS l : List Page) (i : Nat) (s : Wk) (ml : Ml) : Prop where
  v : WV NS PS i s ml
  h : HL l i s
  lost : s.lost = dedup [] (Hs.run l).idle
theorem WS.fall {NS : List Str} {PS l : List Page} {i : Nat} {s : Wk} {ml : Ml} (h : WS NS PS l i s ml) {t : Tm} {day : Int} (ht : t.1 ≤ 100 ∧ t.2 ≤ 100) (hday : day.natAbs < 1000000) : WS NS PS l i (s.fall t day) ml :=
  ⟨wv_fall h.v ht hday, fun x hx => by rw [(fr_fall s t day).homes]; exact h.h x hx, (fr_fall s t day).lost.trans h.lost⟩
theorem WS.mark {NS : List Str} {PS l : List Page} {i : Nat} {s : Wk} {ml ml' : Ml} {p : Page} (nd : l.Nodup) (h : WS NS PS l i s ml) (hi : l[i]? = some p) (hv : WV NS PS (i + 1) (s.put p).1 ml') : WS NS PS l (i + 1) (s.mark p) ml' := by
  refine ⟨⟨hv.mor, hv.nd, hv.fk, hv.lh, hv.lm, hv.ll, hv.ls, ?_, hv.la, hv.fl, hv.sg, hv.an, hv.mn⟩, h.h.step nd h.lost hi, (put_lost s p).1.trans h.lost⟩
  show (s.marks ++ [_]).length ≤ i + 1
  rw [List.length_append]
  exact Nat.succ_le_succ h.v.lk
theorem rng_days (lo : Int) (n : Nat) : rngD lo n = (Wk.days lo n).map .int := by
  unfold rngD Wk.days
  rw [List.map_map]
  rfl
section
variable {P : Program} {w : World} {K : PySem.W.Frag} {mg : Str → Option Value} {base : Heap}
theorem sc_W_go_to : FnScope ["self", "last", "pages", "page", "at", "first", "day"] ["self", "last"] (defScope s_Walk_go_to) := ⟨rfl, rfl, rfl, by decide +kernel, rfl, by decide +kernel, by decide +kernel⟩
/-- what go_to is given -/
structure WG (NS : List Str) (bk : List Page) (t : Tm) (last : Int) : Prop where
  en : En NS bk
  nd : bk.Nodup
  tm : t.1 ≤ 100 ∧ t.2 ≤ 100
  la : last.natAbs < 900000
  dy : ∀ p ∈ bk, p.day.natAbs < 900000
theorem upTo_mem {l : List Page} {d : Int} {p : Page} (h : p ∈ upTo l d) : p ∈ l := (List.mem_filter.mp h).1
theorem days_get {lo : Int} {n i : Nat} {x : PyData} (h : (rngD lo n)[i]? = some x) : x = .int (lo + (i : Nat)) ∧ (Wk.days lo n)[i]? = some (lo + (i : Nat)) ∧ i < n := by
  rw [rng_days, List.getElem?_map] at h
  unfold Wk.days at h ⊢
  rw [List.getElem?_map] at h ⊢
  rcases Nat.lt_or_ge i n with hi | hi
  · rw [List.getElem?_range hi] at h ⊢
    cases h
    exact ⟨rfl, rfl, hi⟩
  · rw [List.getElem?_eq_none (by simpa using hi)] at h
    cases h
theorem g_W_go_to (T : Tx K mg) : GdM P w K mg base 6 (wC K) "go_to" (spM K fun oc ss C => ∃ NS a bk t last, WG NS bk t last ∧ oc = wOwn P w K a bk t Wk.empty [] ∧ ss = [.v (.ref a.w), .d (.int last)] ∧ C = fun o r => ∃ ml i, WS NS bk (upTo bk last) i (Wk.walk bk t last) ml ∧ i ≤ 40 ∧ o = wOwn P w K a bk t (Wk.walk bk t last) ml ∧ r = .d .none) := by
  obtain ⟨fd, F⟩ := T.fun_Walk_go_to
  refine gdM_mk F (okM (k := 5) F sc_W_go_to (fun _ _ _ ⟨_, _, _, _, _, _, _, e, _⟩ => by rw [e]; rfl) ?_) T.me_Walk_go_to fun _ _ _ _ _ _ us hl => match us, hl with | [_, _], _ => rfl
  rintro cd A outer s0 H0 E hr oc ss C B D ⟨NS, a, bk, t, last, hg, rfl, rfl, rfl⟩ hF hD
  have hu := hr.units
  have hp := hg.en.hp
  refine g_setLc 2 (lcx_lcIf (l := bk) (enc := Page.enc) (g := gName 3) sc_W_go_to.nd [("page", 3)] (fun p => decide (p.day ≤ last)) Page.enc (src_tup (x_fld 0 (x_var 0) T.cls_Walk T.na_Walk_own_pages)) (fun _ _ _ => trivial) (by omega) (blkOk_by (N := ["self", "last", "pages", "page", "at", "first", "day"]) (sc := defScope s_Walk_go_to) (by decide +kernel)) (fun _ _ _ _ _ => pg_name (i := 3) sc_W_go_to.nd rfl (.inl rfl)) (gw_name (by decide))
    fun p _ => ⟨_, gd_name, fun _ _ _ _ _ => x_cmpT op_le rd_Ib rfl (x_call (oc := []) (g_page_day T) (hr.mono (by decide)) ⟨p, rfl, rfl⟩ (a_cons (x_var 3) a_nil)) (x_var 1), fun _ _ _ _ _ _ => x_var 3⟩) ?_
  generalize hl : upTo bk last = l at hD
  have hl' : bk.filter (fun p => decide (p.day ≤ last)) = l := hl
  rw [hl']
  have hlm : ∀ p ∈ l, p ∈ bk := fun p h => by rw [← hl] at h; exact upTo_mem h
  have hll : l.length ≤ 40 := by
    rw [← hl]
    exact Nat.le_trans (List.length_filter_le _ _) hp
  have hnd : l.Nodup := by
    rw [← hl]
    exact List.filter_sublist.nodup hg.nd
  have hln : ∀ p ∈ l, p.day ≤ last := fun p h => by
    rw [← hl] at h
    exact of_decide_eq_true (List.mem_filter.mp h).2
  generalize hid : (Hs.run l).idle = idl
  have hidl : idl.length ≤ 40 := by
    have : ∀ (q : List Page) (st : Hs), ((q.foldl Hs.meet st).idle).length ≤ st.idle.length + q.length := by
      intro q
      induction q with
      | nil => intro st; exact Nat.le_refl _
      | cons p q ih =>
        intro st
        have h1 := ih (st.meet p)
        have h2 : (st.meet p).idle.length ≤ st.idle.length + 1 := by
          unfold Hs.meet
          split
          · cases p <;> exact Nat.le_succ _
          · show (st.idle ++ [p]).length ≤ _
            rw [List.length_append]
            exact Nat.le_refl _
        rw [List.foldl_cons, List.length_cons]
        omega
    have h3 := this l Hs.empty
    have h4 : (Hs.run l).idle.length ≤ 0 + l.length := h3
    rw [hid] at h4
    omega
  refine g_for (g := gName 3) (src_m (src_list (ds := idl.map Page.enc) (x_is (x_call (oc := []) (g_idle T) hr ⟨rfl, bk, last, rfl, by omega, rfl⟩ (a_cons (x_fld 0 (x_var 0) T.cls_Walk T.na_Walk_own_pages) (a_cons (x_var 1) a_nil))) (by rw [hl, hid])))) (pg_name (i := 3) sc_W_go_to.nd rfl (by first | exact .inl rfl | exact .inr rfl)) ?_
  rintro o xs V ⟨rfl, rfl, rfl⟩
  refine ⟨fun i G1 o1 => G1 = [_, _, .d (.list (l.map Page.enc)), .u, .u, .u, .u] ∧ o1 = wOwn P w K a bk t { Wk.empty with lost := dedup [] (idl.take i) } [], ⟨rfl, rfl⟩, fun _ _ _ _ _ _ _ => trivial, ?_, ?_⟩
  · rintro i x G1 o1 B1 D1 hx ⟨rfl, rfl⟩ hB hF1 hD1 _
    obtain ⟨q, hq, rfl⟩ := enc_get hx
    have hlen : (trues (dedup [] (idl.take i))).length < 1000000 := by
      rw [trues_len]
      have h1 := dedup_len (idl.take i) []
      rw [List.length_nil, List.length_take] at h1
      omega
    refine ⟨_, gd_name, g_nput (p := a.lost) (k := q.nk) (ks := trues (dedup [] (idl.take i))) (d := .bool true) 1 hu (x_fld 0 (x_var 0) T.cls_Walk T.na_Walk_lost) (x_is (x_var 3) (by rw [q.nk_data])) q.nk_t x_bl hlen ?_⟩
    rw [trues_put, ← dedup_take hq]
    exact at_le hD1 ⟨rfl, rfl⟩ ⟨.inr rfl, .inr rfl, .inr rfl, .inl rfl, .inr rfl, .inr rfl, .inr rfl, trivial⟩
  rintro G1 o1 ⟨rfl, rfl⟩
  rw [List.length_map, List.take_length]
  refine g_set sc_W_go_to.nd 4 x_int ?_
  have hfirst : (Wk.first l last).natAbs < 900001 := by
    cases l with
    | nil =>
      have := hg.la
      show (last + 1).natAbs < 900001
      omega
    | cons p l =>
      have := hg.dy p (hlm p List.mem_cons_self)
      show p.day.natAbs < 900001
      omega
  refine g_set sc_W_go_to.nd 5 (s := .d (.int (Wk.first l last))) (x_if (k := !decide (l = [])) (x_t (x_cmpT (op_neD hu) (rd_neD (Page.shaped_lst fun p h => hg.en.ok (hlm p h)) shaped_nil) rfl (x_var 2) (x_lst (ds := []) a_nil)) (by rw [eqv_nilL])) (fun h => ?_) fun h => ?_) ?_
  · cases l with
    | nil => cases h
    | cons p l => exact x_call (oc := []) (g_page_day T) (hr.mono (by decide)) ⟨p, rfl, rfl⟩ (a_cons (x_ixL (x_var 2) x_int (atI_nat (j := 0) rfl)) a_nil)
  · cases l with
    | nil => exact x_add (x_var 1) x_int
    | cons p l => cases h
  generalize hlo : Wk.first l last = lo at *
  have ew : Wk.walk bk t last = ((Wk.days lo (last + 1 - lo).toNat).foldl (Wk.day1 t) (l, { Wk.empty with lost := dedup [] idl })).2 := by
    unfold Wk.walk
    rw [hl, hlo, hid]
  have hla := hg.la
  refine g_for (g := gName 6) (src_m (src_rng2 (i := lo) (j := last + 1) (x_var 5) (x_add (x_var 1) x_int) T.free_range ⟨by omega, by omega, by omega, by omega⟩)) (pg_name (i := 6) sc_W_go_to.nd rfl (by first | exact .inl rfl | exact .inr rfl)) ?_
  rintro o xs V ⟨rfl, rfl, rfl⟩
  have hws0 : WS NS bk l 0 { Wk.empty with lost := dedup [] idl } [] := ⟨⟨rfl, List.nodup_nil, (fun d h => nomatch h), Nat.zero_le _, Nat.zero_le _, (fun q h => nomatch h), Nat.zero_le _, Nat.zero_le _, Nat.zero_le _, (fun q h => nomatch h), (fun q h => nomatch h), (fun q h => nomatch h), List.nodup_nil⟩, (fun x h => nomatch h), by rw [hid]⟩
  refine ⟨fun i G1 o1 => ∃ (at_ : Nat) (rest : List Page) (s : Wk) (ml : Ml), G1 = [.v (.ref a.w), .d (.int last), .d (.list (l.map Page.enc)), .u, .d (.int (at_ : Nat)), .d (.int lo), .u] ∧ o1 = wOwn P w K a bk t s ml ∧ ((Wk.days lo (last + 1 - lo).toNat).take i).foldl (Wk.day1 t) (l, { Wk.empty with lost := dedup [] idl }) = (rest, s) ∧ l.drop at_ = rest ∧ at_ ≤ l.length ∧ WS NS bk l at_ s ml, ⟨0, l, _, [], rfl, rfl, rfl, rfl, Nat.zero_le _, hws0⟩, fun _ _ _ _ _ _ _ => trivial, ?_, ?_⟩
  · rintro i x G1 o1 B1 D1 hx ⟨at0, rest0, s1, ml1, rfl, rfl, hf0, hdr0, hat0, hws1⟩ hB hF1 hD1 _
    obtain ⟨rfl, hday, hin⟩ := days_get hx
    have hf1 := fold_take (f := Wk.day1 t) hday (l, { Wk.empty with lost := dedup [] idl })
    rw [hf0] at hf1
    generalize hdd : lo + ((i : Nat) : Int) = day at *
    have hdayb : day.natAbs < 1000000 := by omega
    refine ⟨_, gd_name, ?_⟩
    refine g_while (fun m G2 o2 => ∃ (at_ : Nat) (rest : List Page) (s : Wk) (ml : Ml), G2 = [.v (.ref a.w), .d (.int last), .d (.list (l.map Page.enc)), .u, .d (.int (at_ : Nat)), .d (.int lo), .d (.int day)] ∧ o2 = wOwn P w K a bk t s ml ∧ Wk.dayPages day rest s = Wk.dayPages day rest0 s1 ∧ l.drop at_ = rest ∧ at_ ≤ l.length ∧ m = rest.length ∧ WS NS bk l at_ s ml) rest0.length ⟨at0, rest0, s1, ml1, rfl, rfl, rfl, hdr0, hat0, rfl, hws1⟩ ?_
    rintro m G2 o2 ⟨at1, rest, s, ml, rfl, rfl, hdp, hdr, hat, rfl, hws⟩
    have fin : Wk.dayPages day rest s = (rest, s) → ∀ B2 : Bs, ∀ D2 : Ends, D2.nx = AtI _ B2 (fun G1 o1 => ∃ (at_ : Nat) (rest : List Page) (s : Wk) (ml : Ml), G1 = [.v (.ref a.w), .d (.int last), .d (.list (l.map Page.enc)), .u, .d (.int (at_ : Nat)), .d (.int lo), .u] ∧ o1 = wOwn P w K a bk t s ml ∧ ((Wk.days lo (last + 1 - lo).toNat).take (i + 1)).foldl (Wk.day1 t) (l, { Wk.empty with lost := dedup [] idl }) = (rest, s) ∧ l.drop at_ = rest ∧ at_ ≤ l.length ∧ WS NS bk l at_ s ml) →
        Go (bX P w K mg base ["self", "last", "pages", "page", "at", "first", "day"] "Walk.go_to" s_Walk_go_to (He.fAd K ("Walk", some "go_to")) cd A outer s0 H0 E) B2 [.v (.ref a.w), .d (.int last), .d (.list (l.map Page.enc)), .u, .d (.int (at1 : Nat)), .d (.int lo), .d (.int day)] (wOwn P w K a bk t (s.fall t day) ml) D2 [] := fun he B2 D2 h2 => by
      refine at_le h2 ⟨at1, rest, s.fall t day, ml, rfl, rfl, ?_, hdr, hat, hws.fall hg.tm hdayb⟩ ⟨.inr rfl, .inr rfl, .inr rfl, .inr rfl, .inr rfl, .inr rfl, .inl rfl, trivial⟩
      rw [hf1]
      unfold Wk.day1
      show ((Wk.dayPages day rest0 s1).1, (Wk.dayPages day rest0 s1).2.fall t day) = _
      rw [← hdp, he]
    cases rest with
    | nil =>
      have hle : l.length ≤ at1 := List.drop_eq_nil_iff.mp hdr
      refine ⟨false, x_t (x_pw (x_and (k := false) (l := true) (x_t (x_cmpT op_lt rd_Ib rfl (x_var 4) (x_cb call_len_seq T.free_len rc_lenL (a_cons (x_var 2) a_nil))) (decide_eq_false (by rw [List.length_map]; omega))) fun h => ff h)) rfl, fun h => ff h, fun _ => ?_⟩
      refine g_expr (m_meth (D := Is (wOwn P w K a bk t (s.fall t day) ml) (.d .none)) 0 (g_W_fall T) (hr.mono (by decide)) T.cls_Walk (x_var 0) (ma_x (a_cons (x_var 6) a_nil)) ?_) ?_
      · rintro o ss ⟨rfl, rfl⟩
        exact fits_all ⟨NS, bk, at1, a, bk, t, s, ml, day, hg.en, hws.v, by omega, hg.tm, hdayb, rfl, rfl, rfl⟩ fun _ _ h => h
      · rintro o r ⟨rfl, rfl⟩
        exact fin rfl _ _ hD1
    | cons p r =>
      have hlt : at1 < l.length := by
        rcases Nat.lt_or_ge at1 l.length with h | h
        · exact h
        · rw [List.drop_eq_nil_of_le h] at hdr
          cases hdr
      have hpl : l[at1]? = some p := by
        have := congrArg (fun q : List Page => q[0]?) hdr
        rw [show (l.drop at1)[0]? = l[at1]? by rw [List.getElem?_drop]; rfl] at this
        exact this
      have hdr2 : l.drop (at1 + 1) = r := by
        have := congrArg List.tail hdr
        rw [List.tail_drop] at this
        exact this
      refine ⟨decide (p.day = day), x_t (x_pw (x_and (k := true) (l := decide (p.day = day)) (x_t (x_cmpT op_lt rd_Ib rfl (x_var 4) (x_cb call_len_seq T.free_len rc_lenL (a_cons (x_var 2) a_nil))) (decide_eq_true (by rw [List.length_map]; omega))) fun _ => x_and1 (x_cmpT op_eq rd_eqI rfl (x_call (oc := []) (g_page_day T) (hr.mono (by decide)) ⟨p, rfl, rfl⟩ (a_cons (x_ixL (x_var 2) (x_var 4) (atI_nat (by rw [List.getElem?_map, hpl]; rfl))) a_nil)) (x_var 6)))) rfl, fun hb => ?_, fun hb => ?_⟩
      · have hpd : p.day = day := of_decide_eq_true hb
        intro B2 D2 hB2 hF2 hD2 hrt2
        refine g_expr (m_append (Dd := fun o r => ∃ ml', WV NS bk (at1 + 1) (s.put p).1 ml' ∧ o = wOwn P w K a bk t (s.mark p) ml') (m_x (x_fld 0 (x_var 0) T.cls_Walk T.na_Walk_marks)) ?_) ?_
        · rintro o1 t1 ⟨rfl, rfl⟩
          refine ⟨a.marks, 6, _, rfl, rfl, fun o r => ∃ ml', WV NS bk (at1 + 1) (s.put p).1 ml' ∧ o = wOwn P w K a bk t (s.put p).1 ml' ∧ r = Sl.d (markD (p, (s.put p).2)), m_tup (C := fun o ss => ∃ ml', WV NS bk (at1 + 1) (s.put p).1 ml' ∧ o = wOwn P w K a bk t (s.put p).1 ml' ∧ ss = [p.enc, (s.put p).2].map Sl.d) (ma_le (ma_cons (C := Is (wOwn P w K a bk t s ml) (Sl.d p.enc)) (C' := fun _ _ o ss => ∃ ml', WV NS bk (at1 + 1) (s.put p).1 ml' ∧ o = wOwn P w K a bk t (s.put p).1 ml' ∧ ss = [Sl.d (s.put p).2]) (m_x (x_ixL (x_var 2) (x_var 4) (atI_nat (by rw [List.getElem?_map, hpl]; rfl)))) ?_) ?_) ?_, ?_⟩
          · rintro o2 t2 ⟨rfl, rfl⟩
            refine ma_le (ma_cons (m_meth (D := fun o r => ∃ ml', WV NS bk (at1 + 1) (s.put p).1 ml' ∧ o = wOwn P w K a bk t (s.put p).1 ml' ∧ r = Sl.d (s.put p).2) 0 (g_W_put T) (hr.mono (by decide)) T.cls_Walk (x_var 0) (ma_x (a_cons (x_ixL (x_var 2) (x_var 4) (atI_nat (by rw [List.getElem?_map, hpl]; rfl))) a_nil)) ?_) fun _ _ _ => ma_nil) ?_
            · rintro o ss ⟨rfl, rfl⟩
              exact fits_all ⟨NS, bk, at1, a, bk, t, s, ml, p, hg.en, hws.v, by omega, hlm p (List.mem_of_getElem? hpl), hws.h.visit hws.lost hpl, rfl, rfl, rfl⟩ fun _ _ h => h
            · rintro o ss ⟨o1, s1', t1, ⟨ml', h1, rfl, rfl⟩, ⟨rfl, rfl⟩, rfl⟩
              exact ⟨ml', h1, rfl, rfl⟩
          · rintro o ss ⟨o1, s1', t1, ⟨rfl, rfl⟩, ⟨ml', h1, rfl, rfl⟩, rfl⟩
            exact ⟨ml', h1, rfl, rfl⟩
          · rintro o ss ⟨ml', h1, rfl, rfl⟩
            exact ⟨[p.enc, (s.put p).2], rfl, (show 2 ≤ 1000 by decide), ml', h1, rfl, rfl⟩
          · rintro o2 s2 ⟨ml', h1, rfl, rfl⟩
            refine ⟨6, _, _, rfl, rfl, by rw [List.length_map, (put_lost s p).2]; have := hws.v.lk; omega, ml', h1, ?_⟩
            unfold wOwn Wk.mark
            rw [List.map_append, (put_lost s p).2]
            rfl
        · rintro o res ⟨ml', h1, rfl⟩
          refine g_set sc_W_go_to.nd 4 (x_add (i := (at1 : Nat)) (j := 1) (x_var 4) x_int) ?_
          refine at_le hD2 ⟨r.length, Nat.lt_succ_self _, at1 + 1, r, s.mark p, ml', rfl, rfl, ?_, hdr2, hlt, rfl, hws.mark hnd hpl h1⟩ ⟨.inr rfl, .inr rfl, .inr rfl, .inr rfl, .inr rfl, .inr rfl, .inr rfl, trivial⟩
          rw [← hdp, Wk.dayPages, if_pos hpd]
      · have hpd : ¬ p.day = day := of_decide_eq_false hb
        have hst : Wk.dayPages day (p :: r) s = (p :: r, s) := by rw [Wk.dayPages, if_neg hpd]
        refine g_expr (m_meth (D := Is (wOwn P w K a bk t (s.fall t day) ml) (.d .none)) 0 (g_W_fall T) (hr.mono (by decide)) T.cls_Walk (x_var 0) (ma_x (a_cons (x_var 6) a_nil)) ?_) ?_
        · rintro o ss ⟨rfl, rfl⟩
          exact fits_all ⟨NS, bk, at1, a, bk, t, s, ml, day, hg.en, hws.v, by omega, hg.tm, hdayb, rfl, rfl, rfl⟩ fun _ _ h => h
        · rintro o r2 ⟨rfl, rfl⟩
          exact fin hst _ _ hD1
  · rintro G1 o1 ⟨at1, rest, s, ml, rfl, rfl, hf, hdr, hat, hws⟩
    have hxl : (rngD lo (last + 1 - lo).toNat).length = (Wk.days lo (last + 1 - lo).toNat).length := by rw [rng_days, List.length_map]
    rw [hxl, List.take_length] at hf
    have ew2 : Wk.walk bk t last = s := by rw [ew, hf]
    exact g_nil fun R H z q hz => hD.2 _ z R H ⟨ml, at1, by rw [ew2]; exact hws, by omega, by rw [ew2], rfl⟩ q
end
end CB

/-! Part 25: places, dues_told, walked, dues, marks. -/
namespace CB
open PySem PySem.Spec PyProof.Rows L2
open PySem.W (dataLe keyToks keyToksAll alike alikeAll AllAlike Sortable)
section
variable {R0 H0 R H : Hp} {F0 : List Addr} {own : OL} {p : Addr} {K : PySem.W.Frag}
/-- what is new is owned no more -/
theorem Sep.forget {A : As} (s : Sep R0 H0 F0 ((p, A) :: own) R H) (hp : p ∉ F0) : Sep R0 H0 F0 own R H := by
  have h0 : H0 p = none := (s.fr (p, A) List.mem_cons_self).resolve_right hp
  have nd := s.ow.nd
  rw [List.map_cons] at nd
  refine ⟨⟨s.ow.rh, fun q hq => s.ow.at_ q (List.mem_cons_of_mem _ hq), (List.nodup_cons.mp nd).2⟩, s.rr, s.old, fun a o e n => s.keep a o e fun z => ?_, fun q hq => s.fr q (List.mem_cons_of_mem _ hq), fun a ha => ?_⟩
  · rw [List.map_cons] at z
    rcases List.mem_cons.mp z with z | z
    · rw [z, h0] at e
      cases e
    · exact n z
  · have := s.all a ha
    rw [List.map_cons] at this
    rcases List.mem_cons.mp this with z | z
    · have z' : a = p := z
      rw [z'] at ha
      exact absurd ha hp
    · exact z
theorem sep_take {ds : List PyData} (s : Sep R0 H0 F0 ((p, asL K ds) :: own) R H) (hp : p ∉ F0) : ∃ R', Sep R0 H0 F0 own R' H ∧ Dp K R' (.ref p) (.list ds) := by
  obtain ⟨h1, o, h2, vs, rfl, h3⟩ := s.ow.get (i := 0) rfl
  exact ⟨_, s.freeze hp h2, .lst (SqL.of upd_same) (dps_up (same_new h1) _ _ h3)⟩
theorem sep_front {i : Nat} {A : As} (s : Sep R0 H0 F0 own R H) (h : own[i]? = some (p, A)) : Sep R0 H0 F0 ((p, A) :: own.eraseIdx i) R H := by
  refine s.perm ?_
  clear s
  induction own generalizing i with
  | nil => simp at h
  | cons x l ih =>
    cases i with
    | zero =>
      simp at h
      subst h
      exact .refl _
    | succ i =>
      have := ih (i := i) (by simpa using h)
      exact (this.cons x).trans (.swap _ _ _)
/-- an owned list is given back as data (nothing was owned at the start) -/
theorem ret_list {B : Bs} {i : Nat} {ds : List PyData} (hF : B.F = []) (s : SepB B own R H) (h : own[i]? = some (p, asL K ds)) {v : V} (e : SlR K R (.v (.ref p)) (some v)) : ∃ o R', SepB B o R' H ∧ SlR K R' (.d (.list ds)) (some v) := by
  obtain ⟨R', s', d⟩ := sep_take (sep_front s h) (by rw [hF]; exact fun h => nomatch h)
  obtain rfl := v_slr e
  exact ⟨_, R', s', slr_d d⟩
end
/-! ### places -/
def placesN (bk : List Page) : List (NK × PyData) := bk.zipIdx.map fun q => (q.1.nk, PyData.int (q.2 : Nat))
theorem enumD_zip (bk : List Page) : enumD (bk.map Page.enc) = bk.zipIdx.map fun q => .tuple [.int (q.2 : Nat), q.1.enc] := by
  unfold enumD
  apply List.ext_getElem?
  intro i
  rw [List.getElem?_mapIdx, List.getElem?_map, List.getElem?_map, List.getElem?_zipIdx]
  cases bk[i]? with
  | none => rfl
  | some p => simp
theorem merge_nd : ∀ (l acc : List (NK × PyData)), ((acc ++ l).map (·.1)).Nodup → l.foldl (fun a q => aPut a q.1 q.2) acc = acc ++ l
  | [], acc, _ => (List.append_nil acc).symm
  | q :: l, acc, h => by
    have hn : aGet acc q.1 = none := by
      cases z : aGet acc q.1 with
      | none => rfl
      | some y =>
        have h1 : q.1 ∈ acc.map (·.1) := aGet_mem.mpr (by rw [z]; rfl)
        rw [List.map_append, List.map_cons] at h
        exact absurd rfl ((List.nodup_append.mp h).2.2 _ h1 _ List.mem_cons_self)
    rw [List.foldl_cons, aPut_new _ hn, merge_nd l (acc ++ [(q.1, q.2)]) (by rw [List.append_assoc]; exact h), List.append_assoc]
    rfl
theorem places_keys (bk : List Page) : (placesN bk).map (·.1) = bk.map Page.nk := by
  unfold placesN
  rw [List.map_map]
  have : bk = bk.zipIdx.map (·.1) := (List.zipIdx_map_fst 0 bk).symm
  conv => rhs; rw [this]
  rw [List.map_map]
  rfl
theorem nodup_map {α β : Type} {f : α → β} (hf : ∀ a b, f a = f b → a = b) : ∀ {l : List α}, l.Nodup → (l.map f).Nodup
  | [], _ => List.nodup_nil
  | a :: l, h => by
    obtain ⟨h1, h2⟩ := List.nodup_cons.mp h
    rw [List.map_cons]
    refine List.nodup_cons.mpr ⟨fun hm => ?_, nodup_map hf h2⟩
    obtain ⟨b, hb, e⟩ := List.mem_map.mp hm
    rw [hf _ _ e] at hb
    exact h1 hb
theorem places_nd {bk : List Page} (h : bk.Nodup) : ((placesN bk).map (·.1)).Nodup := by
  rw [places_keys]
  exact nodup_map Page.nk_inj h
theorem places_merge {bk : List Page} (h : bk.Nodup) : mergeA (placesN bk) = placesN bk := by
  unfold mergeA
  rw [merge_nd _ _ (by rw [List.nil_append]; exact places_nd h), List.nil_append]
/-- the place of a page -/
def ixOf (bk : List Page) (p : Page) : Nat := bk.idxOf p
theorem ixOf_get {bk : List Page} {p : Page} (h : p ∈ bk) : bk[ixOf bk p]? = some p := by
  unfold ixOf
  have hl := List.idxOf_lt_length_of_mem h
  rw [List.getElem?_eq_getElem hl, List.getElem_idxOf hl]
theorem places_get {bk : List Page} (nd : bk.Nodup) {p : Page} (h : p ∈ bk) : aGet (placesN bk) p.nk = some (.int (ixOf bk p : Nat)) := by
  refine aGet_of_mem (places_nd nd) ?_
  unfold placesN
  refine List.mem_map.mpr ⟨(p, ixOf bk p), ?_, rfl⟩
  rw [List.mem_zipIdx_iff_getElem?]
  exact ixOf_get h
/-! ### the dues told -/
def rowD (bk : List Page) (d : Due) : PyData := .tuple [.str d.ower, .str d.owed, .int (ixOf bk d.page : Nat)]
def dueLe (bk : List Page) (d e : Due) : Bool := dataLe false id (rowD bk d) (rowD bk e)
def sortD (bk : List Page) (l : List Due) : List Due := l.mergeSort (dueLe bk)
abbrev Told := Due × Bool × List Int
def toldD (q : Told) : PyData := .tuple [.str q.1.ower, .str q.1.owed, .str (srt q.2.1), q.1.page.enc, intsD q.2.2]
def told (bk : List Page) (s : Wk) : List Told := (sortD bk s.keys).map fun d => (d, s.sortOf d.page, s.fallOf d)
theorem sortD_enc (bk : List Page) (l : List Due) : (l.map (rowD bk)).mergeSort (dataLe false id) = (sortD bk l).map (rowD bk) := by
  unfold sortD
  rw [List.map_mergeSort]
  intro a _ b _
  rfl
theorem sortD_mem {bk : List Page} {l : List Due} {d : Due} : d ∈ sortD bk l ↔ d ∈ l := List.mem_mergeSort
theorem sortD_len (bk : List Page) (l : List Due) : (sortD bk l).length = l.length := List.length_mergeSort ..
section
variable {P : Program} {w : World} {K : PySem.W.Frag} {mg : Str → Option Value} {base : Heap}
theorem sc_W_places : FnScope ["self", "k", "page"] ["self"] (defScope s_Walk_places) := ⟨rfl, rfl, rfl, by decide +kernel, rfl, by decide +kernel, by decide +kernel⟩
theorem g_W_places (T : Tx K mg) : GdM P w K mg base 1 (wC K) "places" (spM K fun oc ss C => ∃ a bk t s ml, bk.Nodup ∧ bk.length ≤ 900 ∧ oc = wOwn P w K a bk t s ml ∧ ss = [.v (.ref a.w)] ∧ C = fun o r => ∃ q, o = (q, asN P w K (placesN bk)) :: oc ∧ r = .v (.ref q)) := by
  obtain ⟨fd, F⟩ := T.fun_Walk_places
  refine gdM_mk F (okM (k := 0) F sc_W_places (fun _ _ _ ⟨_, _, _, _, _, _, _, _, e, _⟩ => by rw [e]; rfl) ?_) T.me_Walk_places fun _ _ _ _ _ _ us hl => match us, hl with | [_], _ => rfl
  rintro cd A outer s0 H0 E hr oc ss C B D ⟨a, bk, t, s, ml, hnd, hl, rfl, rfl, rfl⟩ hF hD
  refine g_retM (C := fun o r => ∃ q, o = (q, asN P w K (placesN bk)) :: wOwn P w K a bk t s ml ∧ r = .v (.ref q)) (m_ndict (l := placesN bk) hr.units T.free_dict (x_is (x_lc (l := bk.zipIdx) (enc := fun q => .tuple [.int (q.2 : Nat), q.1.enc]) sc_W_places.nd [("k", 1), ("page", 2)] (fun q => .tuple [q.1.enc, .int (q.2 : Nat)]) (V := Ever) ?_ (fun _ _ _ => trivial) (by rw [List.length_zipIdx]; omega) (blkOk_by (N := ["self", "k", "page"]) (sc := defScope s_Walk_places) (by decide +kernel))
      (fun _ _ _ _ _ => pg_tup rfl (pgs_cons (pg_name (i := 1) sc_W_places.nd rfl (.inl rfl)) (pgs_cons (pg_name (i := 2) sc_W_places.nd rfl (.inl rfl)) pgs_nil))) (gw_tup2 (K := K) (n := 2) (by decide) (by decide)) fun x hx => ⟨_, gd_tup (gds_cons gd_name (gds_cons gd_name gds_nil)) rfl, fun _ _ _ _ _ => x_tup (ds := [x.1.enc, .int (x.2 : Nat)]) (a_cons (x_var 2) (a_cons (x_var 1) a_nil))⟩) ?_) (fun q hq => ?_) fun p => ?_) fun o r v R H c q e => hD.1 o r v R H c q e
  · rw [← enumD_zip]
    exact src_enumT (x_fld 0 (x_var 0) T.cls_Walk T.na_Walk_own_pages) T.free_enumerate
  · unfold placesN
    rw [List.map_map]
    congr 2
    exact List.map_congr_left fun q _ => by
      show PyData.tuple [q.1.enc, _] = PyData.tuple [q.1.nk.data, _]
      rw [q.1.nk_data]
  · unfold placesN at hq
    obtain ⟨x, _, rfl⟩ := List.mem_map.mp hq
    exact x.1.nk_t
  · rw [places_merge hnd]
    exact ⟨p, rfl, rfl⟩
theorem alike_rows (bk : List Page) (l : List Due) : AllAlike (l.map (rowD bk)) := fun d hd e he => by
  obtain ⟨a, _, rfl⟩ := List.mem_map.mp hd
  obtain ⟨b, _, rfl⟩ := List.mem_map.mp he
  rfl
theorem sc_W_dues_told : FnScope ["self", "at", "rows", "found", "ower", "owed", "k", "page", "due"] ["self"] (defScope s_Walk_dues_told) := ⟨rfl, rfl, rfl, by decide +kernel, rfl, by decide +kernel, by decide +kernel⟩
theorem g_W_dues_told (T : Tx K mg) : GdM P w K mg base 2 (wC K) "dues_told" (spM K fun oc ss C => ∃ NS n a bk t s ml, En NS bk ∧ bk.Nodup ∧ WV NS bk n s ml ∧ oc = wOwn P w K a bk t s ml ∧ ss = [.v (.ref a.w)] ∧ C = Is oc (.d (.list ((told bk s).map toldD)))) := by
  obtain ⟨fd, F⟩ := T.fun_Walk_dues_told
  refine gdM_mk F (okM (k := 1) F sc_W_dues_told (fun _ _ _ ⟨_, _, _, _, _, _, _, _, _, _, _, e, _⟩ => by rw [e]; rfl) ?_) T.me_Walk_dues_told fun _ _ _ _ _ _ us hl => match us, hl with | [_], _ => rfl
  rintro cd A outer s0 H0 E hr oc ss C B D ⟨NS, n, a, bk, t, s, ml, he, hnd, hv, rfl, rfl, rfl⟩ hF hD
  have hu := hr.units
  have hlf := hv.lf he
  have hbl := he.hp
  refine g_setM sc_W_dues_told.nd 1 (m_meth0 (q := a.w) (fs := []) (D := fun o r => ∃ q, o = (q, asN P w K (placesN bk)) :: wOwn P w K a bk t s ml ∧ r = .v (.ref q)) (g_W_places T) hr T.cls_Walk (m_x (x_var 0)) ?_) ?_
  · rintro o r ⟨rfl, rfl⟩
    exact ⟨0, a.w, _, rfl, rfl, rfl, fits_all ⟨a, bk, t, s, ml, hnd, by omega, rfl, rfl, rfl⟩ fun _ _ h => h⟩
  rintro o r ⟨q, rfl, rfl⟩
  have erow : (s.falls.map fun x => rowD bk x.1) = s.keys.map (rowD bk) := by
    unfold Wk.keys
    rw [List.map_map]
    rfl
  refine g_set sc_W_dues_told.nd 2 (s := .d (.list ((sortD bk s.keys).map (rowD bk)))) (x_is (x_cb (call_sort0 coll_list hu) T.free_sorted (rc_sortL (ds := s.keys.map (rowD bk)) (alike_rows bk _) (Sortable.tuples fun _ => ⟨_, _, rfl⟩) (fun d hd => ?_)) (a_cons (x_is (lcx_lcN (p := a.falls) (l := s.falls) (key := fun x => x.1.nk) (val := fun x => intsD x.2) (g := gName 8) sc_W_dues_told.nd [("due", 8)] 6 (fun x => rowD bk x.1) rfl (by omega) (fun A => x_fld 1 (x_var 0) T.cls_Walk T.na_Walk_falls) (blkOk_by (N := ["self", "at", "rows", "found", "ower", "owed", "k", "page", "due"]) (sc := defScope s_Walk_dues_told) (by decide +kernel)) (fun _ _ _ _ _ => pg_name (i := 8) sc_W_dues_told.nd rfl (.inl rfl)) (gw_name (by decide))
    fun A x hx => ?_).ex (by rw [erow])) a_nil)) (by rw [sortD_enc])) ?_
  · obtain ⟨x, _, rfl⟩ := List.mem_map.mp hd
    exact Nat.le_of_ble_eq_true rfl
  · have hk : x.1 ∈ s.keys := List.mem_map.mpr ⟨x, hx, rfl⟩
    exact ⟨_, gd_name, fun _ _ _ _ _ => x_tup (ds := [.str x.1.ower, .str x.1.owed, .int (ixOf bk x.1.page : Nat)]) (a_cons (x_ixn (ds := [.str x.1.ower, .str x.1.owed, x.1.page.enc]) 0 (x_is (x_var 8) (by rw [x.1.nk_data]; rfl)) x_int) (a_cons (x_ixn (ds := [.str x.1.ower, .str x.1.owed, x.1.page.enc]) 1 (x_is (x_var 8) (by rw [x.1.nk_data]; rfl)) x_int) (a_cons (x_nget (p := q) (k := x.1.page.nk) (ks := placesN bk) 0 hu (x_var 1) (x_is (x_ixn (ds := [.str x.1.ower, .str x.1.owed, x.1.page.enc]) 2 (x_is (x_var 8) (by rw [x.1.nk_data]; rfl)) x_int) (by rw [x.1.page.nk_data])) x.1.page.nk_t (places_get hnd (hv.fk _ hk).2.2.1)) a_nil)))⟩
  refine g_setM sc_W_dues_told.nd 3 m_lnew ?_
  rintro o r ⟨f, rfl, rfl⟩
  generalize hsd : sortD bk s.keys = sd
  have hsm : ∀ d ∈ sd, d ∈ s.keys := fun d hd => by rw [← hsd] at hd; exact sortD_mem.mp hd
  have hsl : sd.length ≤ 3240 := by
    rw [← hsd, sortD_len]
    unfold Wk.keys
    rw [List.length_map]
    exact hlf
  refine g_for (g := gTup K 3 (gCons (gName 4) (gCons (gName 5) (gCons (gName 6) gNil)))) (src_m (src_list (ds := sd.map (rowD bk)) (x_var 2))) (pg_tup rfl (pgs_cons (pg_name (i := 4) sc_W_dues_told.nd rfl (.inl rfl)) (pgs_cons (pg_name (i := 5) sc_W_dues_told.nd rfl (.inl rfl)) (pgs_cons (pg_name (i := 6) sc_W_dues_told.nd rfl (.inl rfl)) pgs_nil)))) ?_
  rintro o xs V ⟨rfl, rfl, rfl⟩
  refine ⟨fun i G1 o1 => G1 = [.v (.ref a.w), .v (.ref q), .d (.list (sd.map (rowD bk))), .v (.ref f), .u, .u, .u, .u, .u] ∧ o1 = (f, asL K ((sd.take i).map fun d => toldD (d, s.sortOf d.page, s.fallOf d))) :: (q, asN P w K (placesN bk)) :: wOwn P w K a bk t s ml, ⟨rfl, rfl⟩, fun _ _ _ _ _ _ _ => trivial, ?_, ?_⟩
  · rintro i x G1 o1 B1 D1 hx ⟨rfl, rfl⟩ hB hF1 hD1 _
    rw [List.getElem?_map] at hx
    cases hq : sd[i]? with
    | none => rw [hq] at hx; cases hx
    | some d =>
      rw [hq] at hx
      cases hx
      have hk := hsm d (List.mem_of_getElem? hq)
      have hpg := (hv.fk d hk).2.2.1
      have hil : i < sd.length := (List.getElem?_eq_some_iff.mp hq).1
      refine ⟨_, gd_tup (xs := [.str d.ower, .str d.owed, .int (ixOf bk d.page : Nat)]) (gds_cons gd_name (gds_cons gd_name (gds_cons gd_name gds_nil))) rfl, ?_⟩
      refine g_set sc_W_dues_told.nd 7 (x_ixT (d := d.page.enc) (x_fld 2 (x_var 0) T.cls_Walk T.na_Walk_own_pages) (x_var 6) (atI_nat (by rw [List.getElem?_map, ixOf_get hpg]; rfl))) ?_
      refine g_expr (m_append (Dd := fun o r => o = (f, asL K ((sd.take (i + 1)).map fun d => toldD (d, s.sortOf d.page, s.fallOf d))) :: (q, asN P w K (placesN bk)) :: wOwn P w K a bk t s ml) (m_x (x_var 3)) ?_) ?_
      · rintro o1 s1 ⟨rfl, rfl⟩
        refine ⟨f, 0, _, rfl, rfl, _, m_x (x_tup (ds := [.str d.ower, .str d.owed, .str (srt (s.sortOf d.page)), d.page.enc, intsD (s.fallOf d)]) (a_cons (x_var 4) (a_cons (x_var 5) (a_cons (x_nget (p := a.sorts) (k := d.page.nk) (ks := sortsN s.sorts) 6 hu (x_fld 2 (x_var 0) T.cls_Walk T.na_Walk_sorts) (x_is (x_var 7) (by rw [d.page.nk_data])) d.page.nk_t (by rw [sorts_get, sort_of_some (hv.fk d hk).2.2.2]; rfl)) (a_cons (x_var 7)
          (a_cons (x_nget (p := a.falls) (k := d.nk) (ks := fallsN s.falls) 7 hu (x_fld 2 (x_var 0) T.cls_Walk T.na_Walk_falls) (x_is (x_tup (ds := [.str d.ower, .str d.owed, d.page.enc]) (a_cons (x_var 4) (a_cons (x_var 5) (a_cons (x_var 7) a_nil)))) (by rw [d.nk_data]; rfl)) d.nk_t (by rw [falls_get, get_of_key hk]; rfl)) a_nil)))))), ?_⟩
        rintro o2 s2 ⟨rfl, rfl⟩
        refine ⟨0, _, _, rfl, rfl, by rw [List.length_map, List.length_take]; omega, ?_⟩
        rw [List.take_add_one, hq, List.map_append]
        rfl
      · rintro o r rfl
        exact at_le hD1 ⟨rfl, rfl⟩ ⟨.inr rfl, .inr rfl, .inr rfl, .inr rfl, .inl rfl, .inl rfl, .inl rfl, .inl rfl, .inr rfl, trivial⟩
  · rintro G1 o1 ⟨rfl, rfl⟩
    rw [List.length_map, List.take_length]
    refine g_ret (x_var 3) fun v R H p e => ?_
    have nd := p.ow.nd
    rw [List.map_cons, List.map_cons] at nd
    obtain ⟨n1, n2⟩ := List.nodup_cons.mp nd
    obtain ⟨n3, _⟩ := List.nodup_cons.mp n2
    obtain ⟨R', p2, dd⟩ := sep_take p (by rw [hF]; exact fun h => n1 (List.mem_cons_of_mem _ h))
    have p3 := p2.forget (by rw [hF]; exact n3)
    obtain rfl := v_slr e
    refine hD.1 _ _ _ R' H ⟨rfl, rfl⟩ p3 (slr_d ?_)
    unfold told
    rw [hsd, List.map_map]
    exact dd
theorem sc_walked : FnScope ["book", "terms", "day", "walk"] ["book", "terms", "day"] (defScope s_walked) := ⟨rfl, rfl, rfl, by decide +kernel, rfl, by decide +kernel, by decide +kernel⟩
theorem g_walked (T : Tx K mg) : Gd P w K mg base 7 "walked" 3 (spM K fun oc ss C => ∃ NS bk t day, WG NS bk t day ∧ oc = [] ∧ ss = [.d (.tuple (bk.map Page.enc)), .d (tmD t), .d (.int day)] ∧ C = fun o r => ∃ a ml i, WS NS bk (upTo bk day) i (Wk.walk bk t day) ml ∧ i ≤ 40 ∧ o = wOwn P w K a bk t (Wk.walk bk t day) ml ∧ r = .v (.ref a.w)) := by
  obtain ⟨fd, F⟩ := T.fun_walked
  refine gd_mk F rfl (okM (k := 6) F sc_walked (fun _ _ _ ⟨_, _, _, _, _, _, e, _⟩ => by rw [e]; rfl) ?_) T.glo_walked fun _ _ _ _ _ _ us hl => match us, hl with | [_, _, _], _ => rfl
  rintro cd A outer s0 H0 E hr oc ss C B D ⟨NS, bk, t, day, hg, rfl, rfl, rfl⟩ hF hD
  refine g_setM sc_walked.nd 3 (m_make (D := fun o r => ∃ a : WA, o.Perm (wOwn P w K a bk t Wk.empty []) ∧ r = .v (.ref a.w)) (g_W_init T) (hr.mono (by decide)) (ma_x (a_cons (x_var 0) (a_cons (x_var 1) a_nil))) ?_) ?_
  · rintro o ss q ⟨rfl, rfl⟩
    refine ⟨_, ⟨q, bk, t, rfl, rfl, rfl⟩, ?_⟩
    rintro o' r ⟨a, ha, hp, rfl⟩
    exact ⟨rfl, a, by rw [List.append_nil]; exact hp, by rw [ha]⟩
  rintro o r ⟨a, hp, rfl⟩
  refine g_perm hp ?_
  refine g_expr (m_meth (D := fun o r => ∃ ml i, WS NS bk (upTo bk day) i (Wk.walk bk t day) ml ∧ i ≤ 40 ∧ o = wOwn P w K a bk t (Wk.walk bk t day) ml ∧ r = .d .none) 0 (g_W_go_to T) hr T.cls_Walk (x_var 3) (ma_x (a_cons (x_var 2) a_nil)) ?_) ?_
  · rintro o ss ⟨rfl, rfl⟩
    exact fits_all ⟨NS, a, bk, t, day, hg, rfl, rfl, rfl⟩ fun _ _ h => h
  rintro o r ⟨ml, i, h1, h2, rfl, rfl⟩
  exact g_ret (x_var 3) fun v R H q e => hD.1 _ _ v R H ⟨a, ml, i, h1, h2, rfl, rfl⟩ q e
end
/-- walked(book, terms, day) -/
theorem m_walked {X : Cx} {G : List Sl} {own : OL} {a b c : Expr} {pos p : Pos} {NS : List Str} {bk : List Page} {t : Tm} {day : Int} (T : Tx X.K X.mg) (hr : Room 7 X.A) (hw : WG NS bk t day) (ha : EX X G own a (.d (.tuple (bk.map Page.enc)))) (hb : EX X G own b (.d (tmD t))) (hc : EX X G own c (.d (.int day)))
    (hg : Gl X "walked" := by rfl) (he : starEach [a, b, c] X.env = (false, eval a X.env) :: starEach [b, c] X.env := by rfl) (he1 : starEach [b, c] X.env = (false, eval b X.env) :: starEach [c] X.env := by rfl) (he2 : starEach [c] X.env = (false, eval c X.env) :: starEach [] X.env := by rfl) (hpl : (backTo pos (starEach [b, c] X.env)).any (·.1) = false := by rfl) :
    EM X G own (.Call (.Name "walked" p) [a, b, c] [] pos) fun o r => ∃ (y : WA) (ml : Ml) (i : Nat), WS NS bk (upTo bk day) i (Wk.walk bk t day) ml ∧ i ≤ 40 ∧ o = wOwn X.prog X.w X.K y bk t (Wk.walk bk t day) ml ++ own ∧ r = .v (.ref y.w) :=
  m_call (g_walked T) hr (ma_x (a_cons ha (a_cons hb (a_cons hc a_nil he2) he1) he)) (fun o ss ⟨h1, h2⟩ => by
    subst h1 h2
    exact ⟨[], _, .refl _, _, ⟨NS, bk, t, day, hw, rfl, rfl, rfl⟩, fun o s ⟨y, ml, i, h1, h2, h3, h4⟩ => ⟨y, ml, i, h1, h2, by rw [h3], h4⟩⟩) hg (by decide) he hpl
end CB

/-! Part 26: dues, marks, lasts.py, soon.py. -/
namespace CB
open PySem PySem.Spec PyProof.Rows L2
open PySem.W (dataLe keyToks keyToksAll alike alikeAll AllAlike Sortable)
/-! ### mirrors -/
def duesOf (bk : List Page) (t : Tm) (day : Int) : List Told := told bk (Wk.walk bk t day)
def leftOf (t : Tm) (q : Told) : Int := termOf t q.2.1 - (q.2.2.length : Nat)
def lastK (free : Int → Bool) : Nat → Int → Int → Int
  | 0, _, d => d
  | f + 1, m, d => if 0 < m then lastK free f (if free (d + 1) then m - 1 else m) (d + 1) else d
def maxEnd (l : List (Int × Int)) : Int := l.foldl (fun a q => max a q.2) 0
def Wk.bound (s : Wk) : Int := maxEnd (s.mo.flatMap (·.2))
def Wk.free (s : Wk) (q : Told) (d : Int) : Bool := !s.mourns q.1.ower d && !s.mourns q.1.owed d
def fuelOf (s : Wk) (t : Tm) (day : Int) (q : Told) : Nat := (leftOf t q).toNat + (s.bound - day).toNat
def lastOf (s : Wk) (t : Tm) (day : Int) (q : Told) : Int := lastK (s.free q) (fuelOf s t day q) (leftOf t q) day
theorem max_ge (l : List (Int × Int)) (a : Int) : a ≤ l.foldl (fun a q => max a q.2) a ∧ ∀ q ∈ l, q.2 ≤ l.foldl (fun a q => max a q.2) a := by
  induction l generalizing a with
  | nil => exact ⟨Int.le_refl _, fun q h => nomatch h⟩
  | cons x l ih =>
    obtain ⟨h1, h2⟩ := ih (max a x.2)
    refine ⟨Int.le_trans (Int.le_max_left _ _) h1, fun q hq => ?_⟩
    rcases List.mem_cons.mp hq with e | hq
    · rw [e]
      exact Int.le_trans (Int.le_max_right a x.2) h1
    · exact h2 q hq
theorem mourns_far {s : Wk} {d : Int} (h : s.bound < d) (n : Str) : s.mourns n d = false := by
  unfold Wk.mourns
  cases q : aGet s.mo n with
  | none => rfl
  | some l =>
    show (l.any _) = false
    rw [List.any_eq_false]
    intro x hx
    have h1 : x.2 ≤ s.bound := (max_ge _ 0).2 x (List.mem_flatMap.mpr ⟨_, aGet_some_mem q, hx⟩)
    have h2 : ¬ d ≤ x.2 := by omega
    simp [h2]
theorem free_far {s : Wk} {d : Int} (h : s.bound < d) (q : Told) : s.free q d = true := by
  unfold Wk.free
  rw [mourns_far h, mourns_far h]
  rfl
abbrev LRow := Int × Nat × Told
def lrowD (r : LRow) : PyData := .tuple [.int r.1, .int (r.2.1 : Nat), toldD r.2.2]
def lrowLe (a b : LRow) : Bool := dataLe false id (lrowD a) (lrowD b)
def lrows (bk : List Page) (t : Tm) (day : Int) : List LRow := ((duesOf bk t day).zipIdx.filter fun q => decide (0 < leftOf t q.1)).map fun q => (lastOf (Wk.walk bk t day) t day q.1, q.2, q.1)
def withLasts (bk : List Page) (t : Tm) (day : Int) : List (Int × Told) := ((lrows bk t day).mergeSort lrowLe).map fun r => (r.1, r.2.2)
def pairD (q : Int × Told) : PyData := .tuple [.int q.1, toldD q.2]
theorem lrow_sort (l : List LRow) : (l.map lrowD).mergeSort (dataLe false id) = (l.mergeSort lrowLe).map lrowD := by
  rw [List.map_mergeSort]
  intro a _ b _
  rfl
theorem alike_going {p q : Page} (h : p.going) (g : q.going) : alike p.enc q.enc = true := by
  cases p <;> first
    | (rcases h with h | h <;> exact ff h)
    | (cases q <;> first
        | (rcases g with g | g <;> exact ff g)
        | rfl)
theorem alike_told {q r : Told} (h : q.1.page.going) (g : r.1.page.going) : alike (toldD q) (toldD r) = true := by
  have h1 : alike (intsD q.2.2) (intsD r.2.2) = true := by rw [alike]; exact alike_ints _ _
  simp only [toldD, alike, alikeAll, Bool.and_true, Bool.true_and, alike_going h g]
  exact h1
theorem told_ok {NS : List Str} {bk : List Page} {n : Nat} {s : Wk} {ml : Ml} (h : WV NS bk n s ml) : ∀ q ∈ told bk s, Dok NS bk q.1 ∧ Vok q.2.2 := fun q hq => by
  unfold told at hq
  obtain ⟨d, hd, rfl⟩ := List.mem_map.mp hq
  exact ⟨h.gg (sortD_mem.mp hd), h.fo (sortD_mem.mp hd)⟩
theorem told_depth (q : Told) : (toldD q).depth ≤ 3 := by
  have h1 := q.1.page.depth_enc
  have h2 : (intsD q.2.2).depth = 1 := by rw [PyData.depth, depth_ints]
  simp only [toldD, PyData.depth, PyData.depthAll] at h2 ⊢
  omega
theorem told_len {NS : List Str} {bk : List Page} {n : Nat} {s : Wk} {ml : Ml} (e : En NS bk) (h : WV NS bk n s ml) : (told bk s).length ≤ 3240 := by
  unfold told
  rw [List.length_map, sortD_len]
  unfold Wk.keys
  rw [List.length_map]
  exact h.lf e
section
variable {P : Program} {w : World} {K : PySem.W.Frag} {mg : Str → Option Value} {base : Heap}
theorem sc_dues : FnScope ["book", "terms", "day"] ["book", "terms", "day"] (defScope s_dues) := ⟨rfl, rfl, rfl, by decide +kernel, rfl, by decide +kernel, by decide +kernel⟩
/-- the three that every question starts from -/
def askS (bk : List Page) (t : Tm) (day : Int) : List Sl := [.d (.tuple (bk.map Page.enc)), .d (tmD t), .d (.int day)]
theorem g_dues (T : Tx K mg) : Gd P w K mg base 8 "dues" 3 (spD K fun ss r => ∃ NS bk t day, WG NS bk t day ∧ ss = askS bk t day ∧ r = .d (.list ((duesOf bk t day).map toldD))) := by
  obtain ⟨fd, F⟩ := T.fun_dues
  refine gd_mk F rfl (okD (k := 7) F sc_dues (fun _ _ ⟨_, _, _, _, _, e, _⟩ => by rw [e]; rfl) ?_) T.glo_dues fun _ _ _ _ _ _ us hl => match us, hl with | [_, _, _], _ => rfl
  rintro cd A outer s0 H0 E hr ss r B D ⟨NS, bk, t, day, hg, rfl, rfl⟩ hF hD
  refine g_retM (m_meth0 (q := 0) (fs := []) (C := fun o r => ∃ (y : WA) (ml : Ml) (i : Nat), WS NS bk (upTo bk day) i (Wk.walk bk t day) ml ∧ i ≤ 40 ∧ o = wOwn P w K y bk t (Wk.walk bk t day) ml ++ [] ∧ r = .v (.ref y.w)) (D := fun _ r => r = .d (.list ((duesOf bk t day).map toldD))) (g_W_dues_told T) (hr.mono (by decide)) T.cls_Walk (m_walked T hr hg (x_var 0) (x_var 1) (x_var 2)) ?_) fun o t v R H c q e => hD.1 o t v R H c q e
  rintro o r ⟨y, ml, i, h1, h2, rfl, rfl⟩
  rw [List.append_nil]
  exact ⟨0, y.w, _, rfl, rfl, rfl, fits_all ⟨NS, i, y, bk, t, _, ml, hg.en, hg.nd, h1.v, rfl, rfl, rfl⟩ fun o s h => h.2⟩
theorem sc_marks : FnScope ["book", "terms", "day"] ["book", "terms", "day"] (defScope s_marks) := ⟨rfl, rfl, rfl, by decide +kernel, rfl, by decide +kernel, by decide +kernel⟩
theorem g_marks (T : Tx K mg) : Gd P w K mg base 8 "marks" 3 (spD K fun ss r => ∃ NS bk t day, WG NS bk t day ∧ ss = askS bk t day ∧ r = .d (.list ((Wk.walk bk t day).marks.map markD))) := by
  obtain ⟨fd, F⟩ := T.fun_marks
  refine gd_mk F rfl (okD (k := 7) F sc_marks (fun _ _ ⟨_, _, _, _, _, e, _⟩ => by rw [e]; rfl) ?_) T.glo_marks fun _ _ _ _ _ _ us hl => match us, hl with | [_, _, _], _ => rfl
  rintro cd A outer s0 H0 E hr ss r B D ⟨NS, bk, t, day, hg, rfl, rfl⟩ hF hD
  refine g_retM (m_fld (C1 := wC K) (D := fun o r => ∃ (y : WA) (ml : Ml), o = wOwn P w K y bk t (Wk.walk bk t day) ml ++ [] ∧ r = .v (.ref y.marks)) (m_walked T hr hg (x_var 0) (x_var 1) (x_var 2)) T.cls_Walk T.na_Walk_marks ?_) ?_
  · rintro o r ⟨y, ml, i, h1, h2, rfl, rfl⟩
    exact ⟨0, y.w, _, _, rfl, rfl, rfl, y, ml, rfl, rfl⟩
  · rintro o r v R H ⟨y, ml, rfl, rfl⟩ q e
    obtain ⟨o2, R', p2, e2⟩ := ret_list (i := 6) hF q rfl e
    exact hD.1 o2 _ v R' H rfl p2 e2
theorem sc_left : FnScope ["terms", "due"] ["terms", "due"] (defScope s_left) := ⟨rfl, rfl, rfl, by decide +kernel, rfl, by decide +kernel, by decide +kernel⟩
theorem g_left (T : Tx K mg) : Gd P w K mg base 2 "left" 2 (spD K fun ss r => ∃ (t : Tm) (q : Told), ss = [.d (tmD t), .d (toldD q)] ∧ r = .d (.int (leftOf t q))) := by
  obtain ⟨fd, F⟩ := T.fun_left
  refine gd_mk F rfl (okD (k := 1) F sc_left (fun _ _ ⟨_, _, e, _⟩ => by rw [e]; rfl) ?_) T.glo_left fun _ _ _ _ _ _ us hl => match us, hl with | [_, _], _ => rfl
  rintro cd A outer s0 H0 E hr ss r B D ⟨t, q, rfl, rfl⟩ hF hD
  exact g_ret (x_sub (i := termOf t q.2.1) (j := (q.2.2.length : Nat)) (x_call (oc := []) (g_term_of T) hr ⟨rfl, t, q.2.1, rfl, rfl⟩ (a_cons (x_var 0) (a_cons (x_ixn 2 (x_var 1) x_int) a_nil))) (x_is (x_cb call_len_seq T.free_len rc_lenT (a_cons (x_ixn (d := intsD q.2.2) 4 (x_var 1) x_int) a_nil)) (by rw [List.length_map]))) fun v R H p e => hD.1 _ _ v R H rfl p e
theorem sc_last_known : FnScope ["walk", "terms", "day", "due", "many"] ["walk", "terms", "day", "due"] (defScope s_last_known) := ⟨rfl, rfl, rfl, by decide +kernel, rfl, by decide +kernel, by decide +kernel⟩
theorem g_last_known (T : Tx K mg) : Gd P w K mg base 3 "last_known" 4 (spM K fun oc ss C => ∃ a bk t s ml day q, MoR s ml ∧ (∀ q ∈ ml, q.2.2.length ≤ 1000) ∧ oc = wOwn P w K a bk t s ml ∧ ss = [.v (.ref a.w), .d (tmD t), .d (.int day), .d (toldD q)] ∧ C = Is oc (.d (.int (lastOf s t day q)))) := by
  obtain ⟨fd, F⟩ := T.fun_last_known
  refine gd_mk F rfl (okM (k := 2) F sc_last_known (fun _ _ _ ⟨_, _, _, _, _, _, _, _, _, _, e, _⟩ => by rw [e]; rfl) ?_) T.glo_last_known fun _ _ _ _ _ _ us hl => match us, hl with | [_, _, _, _], _ => rfl
  rintro cd A outer s0 H0 E hr oc ss C B D ⟨a, bk, t, s, ml, day, q, hm, hml, rfl, rfl, rfl⟩ hF hD
  refine g_set sc_last_known.nd 4 (x_call (oc := []) (g_left T) hr ⟨rfl, t, q, rfl, rfl⟩ (a_cons (x_var 1) (a_cons (x_var 3) a_nil))) ?_
  refine g_while (fun m G1 o1 => ∃ (many d : Int) (f : Nat), G1 = [.v (.ref a.w), .d (tmD t), .d (.int d), .d (toldD q), .d (.int many)] ∧ o1 = wOwn P w K a bk t s ml ∧ m = many.toNat + (s.bound - d).toNat ∧ m ≤ f ∧ lastK (s.free q) f many d = lastOf s t day q) (fuelOf s t day q) ⟨leftOf t q, day, fuelOf s t day q, rfl, rfl, rfl, Nat.le_refl _, rfl⟩ ?_
  rintro m G1 o1 ⟨many, d, f, rfl, rfl, rfl, hf, hlast⟩
  refine ⟨decide (0 < many), x_cmpT op_gt rd_Ib rfl (x_var 4) x_int, fun hb => ?_, fun hb => ?_⟩
  · have hb' : 0 < many := of_decide_eq_true hb
    intro B1 D1 hB1 hF1 hD1 hrt
    obtain ⟨f', rfl⟩ : ∃ f', f = f' + 1 := ⟨f - 1, by omega⟩
    rw [lastK, if_pos hb'] at hlast
    refine g_set sc_last_known.nd 2 (x_add (i := d) (j := 1) (x_var 2) x_int) ?_
    refine g_if (k := s.free q (d + 1)) (x_pw (x_and (x_not (x_truth (x_meth 0 (g_W_mourns T) (hr.mono (by decide)) T.cls_Walk ⟨a, bk, t, s, ml, q.1.ower, d + 1, hm, hml, rfl, rfl, rfl⟩ (x_var 0) (a_cons (x_ixn 0 (x_var 3) x_int) (a_cons (x_var 2) a_nil))) fun _ => rfl)) fun _ => x_and1 (x_not (x_truth (x_meth 0 (g_W_mourns T) (hr.mono (by decide)) T.cls_Walk ⟨a, bk, t, s, ml, q.1.owed, d + 1, hm, hml, rfl, rfl, rfl⟩ (x_var 0) (a_cons (x_ixn 1 (x_var 3) x_int) (a_cons (x_var 2) a_nil))) fun _ => rfl)))) (fun hc => ?_) fun hc => g_end ?_
    · rw [if_pos hc] at hlast
      refine g_set sc_last_known.nd 4 (x_sub (i := many) (j := 1) (x_var 4) x_int) (g_end ?_)
      exact at_le hD1 ⟨_, by omega, many - 1, d + 1, f', rfl, rfl, rfl, by omega, hlast⟩ (gle_refl _)
    · rw [if_neg (by rw [hc]; exact Bool.false_ne_true)] at hlast
      have hle : d + 1 ≤ s.bound := by
        rcases Int.lt_or_le s.bound (d + 1) with h | h
        · rw [free_far h] at hc
          cases hc
        · exact h
      exact at_le hD1 ⟨_, by omega, many, d + 1, f', rfl, rfl, rfl, by omega, hlast⟩ (gle_refl _)
  · have hb' : ¬ 0 < many := of_decide_eq_false hb
    have e1 : lastOf s t day q = d := by
      rw [← hlast]
      cases f with
      | zero => rfl
      | succ f => rw [lastK, if_neg hb']
    rw [e1] at hD
    exact g_ret (x_var 2) fun v R H p e => hD.1 _ _ v R H ⟨rfl, rfl⟩ p e
end
end CB

/-! Part 27: with_lasts, soon, first_rude. -/
namespace CB
open PySem PySem.Spec PyProof.Rows L2
open PySem.W (dataLe keyToks keyToksAll alike alikeAll AllAlike Sortable)
theorem m_permC {X : Cx} {G : List Sl} {own : OL} {e : Expr} {C D : OL → Sl → Prop} (h : EM X G own e C) (hq : ∀ o s, C o s → ∃ o', o.Perm o' ∧ D o' s) : EM X G own e D := fun R H z w hz Q k => h R H z w hz Q fun o s v R' H' c p e => by
  obtain ⟨o', h1, h2⟩ := hq o s c
  exact k o' s v R' H' h2 (p.perm h1) e
/-- what stands ahead is not given -/
theorem fits_tail {x : Addr × As} {oc : OL} {C' : OL → Sl → Prop} {Pre : OL → List Sl → (OL → Sl → Prop) → Prop} {ss : List Sl} (hp : Pre oc ss C') : Fits (x :: oc) (fun o s => ∃ o', o = o' ++ [x] ∧ C' o' s) Pre ss (fun o s => ∃ o', o = o' ++ [x] ∧ C' o' s) :=
  ⟨oc, [x], (List.perm_append_singleton x oc).symm, C', hp, fun o s c => ⟨o, rfl, c⟩⟩
theorem perm_tail {x : Addr × As} {oc : OL} : (oc ++ [x]).Perm (x :: oc) := List.perm_append_singleton x oc
theorem lrows_alike {l : List LRow} (h : ∀ r ∈ l, r.2.2.1.page.going) : AllAlike (l.map lrowD) := fun d hd e he => by
  obtain ⟨a, ha, rfl⟩ := List.mem_map.mp hd
  obtain ⟨b, hb, rfl⟩ := List.mem_map.mp he
  simp only [lrowD, alike, alikeAll, Bool.and_true, Bool.true_and, alike_told (h a ha) (h b hb)]
theorem zip_take {α : Type} {l : List α} {i : Nat} {x : α} (h : l[i]? = some x) : l.zipIdx.take (i + 1) = l.zipIdx.take i ++ [(x, i)] := by
  rw [List.take_add_one, List.getElem?_zipIdx, h]
  simp
section
variable {P : Program} {w : World} {K : PySem.W.Frag} {mg : Str → Option Value} {base : Heap}
theorem sc_with_lasts : FnScope ["book", "terms", "day", "walk", "found", "k", "due", "one"] ["book", "terms", "day"] (defScope s_with_lasts) := ⟨rfl, rfl, rfl, by decide +kernel, rfl, by decide +kernel, by decide +kernel⟩
theorem g_with_lasts (T : Tx K mg) : Gd P w K mg base 8 "with_lasts" 3 (spD K fun ss r => ∃ NS bk t day, WG NS bk t day ∧ ss = askS bk t day ∧ r = .d (.list ((withLasts bk t day).map pairD))) := by
  obtain ⟨fd, F⟩ := T.fun_with_lasts
  refine gd_mk F rfl (okD (k := 7) F sc_with_lasts (fun _ _ ⟨_, _, _, _, _, e, _⟩ => by rw [e]; rfl) ?_) T.glo_with_lasts fun _ _ _ _ _ _ us hl => match us, hl with | [_, _, _], _ => rfl
  rintro cd A outer s0 H0 E hr ss r B D ⟨NS, bk, t, day, hg, rfl, rfl⟩ hF hD
  have hu := hr.units
  refine g_setM sc_with_lasts.nd 3 (m_walked T hr hg (x_var 0) (x_var 1) (x_var 2)) ?_
  rintro o r ⟨a, ml, i0, hws, hi0, rfl, rfl⟩
  rw [List.append_nil]
  have hwl : withLasts bk t day = ((((told bk (Wk.walk bk t day)).zipIdx.filter fun q => decide (0 < leftOf t q.1)).map fun q => (lastOf (Wk.walk bk t day) t day q.1, q.2, q.1)).mergeSort lrowLe).map fun r => (r.1, r.2.2) := rfl
  generalize hs : Wk.walk bk t day = s at *
  have hto := told_ok hws.v
  have htl := told_len hg.en hws.v
  have hml : ∀ q ∈ ml, q.2.2.length ≤ 1000 := fun q hq => Nat.le_trans (hws.v.ll q hq) (by omega)
  generalize htd : told bk s = td at *
  refine g_setM sc_with_lasts.nd 4 m_lnew ?_
  rintro o r ⟨f, rfl, rfl⟩
  let row : Told × Nat → LRow := fun q => (lastOf s t day q.1, q.2, q.1)
  refine g_for (g := gTup K 2 (gCons (gName 5) (gCons (gName 6) gNil))) (C := fun o xs V => o = (f, asL K []) :: wOwn P w K a bk t s ml ∧ xs = enumD (td.map toldD) ∧ V = Ever) (src_enumLM (C := Is ((f, asL K []) :: wOwn P w K a bk t s ml) (.d (.list (td.map toldD)))) (m_permC (m_meth0 (q := 0) (fs := []) (C := Is ((f, asL K []) :: wOwn P w K a bk t s ml) (.v (.ref a.w))) (D := fun o r => ∃ o', o = o' ++ [(f, asL K [])] ∧ Is (wOwn P w K a bk t s ml) (.d (.list (td.map toldD))) o' r) (g_W_dues_told T) (hr.mono (by decide)) T.cls_Walk (m_x (x_var 3)) ?_) ?_) ?_ T.free_enumerate) (pg_tup rfl (pgs_cons (pg_name (i := 5) sc_with_lasts.nd rfl (.inl rfl)) (pgs_cons (pg_name (i := 6) sc_with_lasts.nd rfl (.inl rfl)) pgs_nil))) ?_
  · rintro o r ⟨rfl, rfl⟩
    exact ⟨1, a.w, _, rfl, rfl, rfl, fits_tail ⟨NS, i0, a, bk, t, s, ml, hg.en, hg.nd, hws.v, rfl, rfl, by rw [htd]⟩⟩
  · rintro o r ⟨o', rfl, rfl, rfl⟩
    exact ⟨_, perm_tail, rfl, rfl⟩
  · rintro o r ⟨rfl, rfl⟩
    exact ⟨_, rfl, rfl, rfl, rfl⟩
  rintro o xs V ⟨rfl, rfl, rfl⟩
  refine ⟨fun i G1 o1 => G1 = [.d (.tuple (bk.map Page.enc)), .d (tmD t), .d (.int day), .v (.ref a.w), .v (.ref f), .u, .u, .u] ∧ o1 = (f, asL K ((((td.zipIdx.take i).filter fun q => decide (0 < leftOf t q.1)).map row).map lrowD)) :: wOwn P w K a bk t s ml, ⟨rfl, rfl⟩, fun _ _ _ _ _ _ _ => trivial, ?_, ?_⟩
  · rintro i x G1 o1 B1 D1 hx ⟨rfl, rfl⟩ hB hF1 hD1 _
    obtain ⟨x0, hx0, rfl⟩ := enumD_get hx
    rw [List.getElem?_map] at hx0
    cases hq : td[i]? with
    | none => rw [hq] at hx0; cases hx0
    | some q =>
      rw [hq] at hx0
      cases hx0
      have hil : i < td.length := (List.getElem?_eq_some_iff.mp hq).1
      have ez := zip_take hq
      refine ⟨_, gd_tup (xs := [.int (i : Nat), toldD q]) (gds_cons gd_name (gds_cons gd_name gds_nil)) rfl, ?_⟩
      refine g_if (k := decide (0 < leftOf t q)) (x_cmpT op_gt rd_Ib rfl (x_call (oc := []) (g_left T) (hr.mono (by decide)) ⟨rfl, t, q, rfl, rfl⟩ (a_cons (x_var 1) (a_cons (x_var 6) a_nil))) x_int) (fun hb => ?_) fun hb => g_end ?_
      · refine g_expr (m_append (Dd := fun o r => o = (f, asL K ((((td.zipIdx.take (i + 1)).filter fun q => decide (0 < leftOf t q.1)).map row).map lrowD)) :: wOwn P w K a bk t s ml) (m_x (x_var 4)) ?_) ?_
        · rintro o1 s1 ⟨rfl, rfl⟩
          refine ⟨f, 0, _, rfl, rfl, Is ((f, asL K ((((td.zipIdx.take i).filter fun q => decide (0 < leftOf t q.1)).map row).map lrowD)) :: wOwn P w K a bk t s ml) (.d (lrowD (row (q, i)))), m_tup (C := fun o ss => o = (f, asL K ((((td.zipIdx.take i).filter fun q => decide (0 < leftOf t q.1)).map row).map lrowD)) :: wOwn P w K a bk t s ml ∧ ss = [PyData.int (lastOf s t day q), .int (i : Nat), toldD q].map Sl.d) (ma_le (ma_cons (C := Is ((f, asL K ((((td.zipIdx.take i).filter fun q => decide (0 < leftOf t q.1)).map row).map lrowD)) :: wOwn P w K a bk t s ml) (.d (.int (lastOf s t day q)))) (C' := fun _ _ o ss => o = (f, asL K ((((td.zipIdx.take i).filter fun q => decide (0 < leftOf t q.1)).map row).map lrowD)) :: wOwn P w K a bk t s ml ∧ ss = [Sl.d (.int (i : Nat)), Sl.d (toldD q)])
            (m_permC (m_call (D := fun o r => ∃ o', o = o' ++ [(f, asL K ((((td.zipIdx.take i).filter fun q => decide (0 < leftOf t q.1)).map row).map lrowD))] ∧ Is (wOwn P w K a bk t s ml) (.d (.int (lastOf s t day q))) o' r) (g_last_known T) (hr.mono (by decide)) (ma_x (a_cons (x_var 3) (a_cons (x_var 1) (a_cons (x_var 2) (a_cons (x_var 6) a_nil))))) ?_) ?_) ?_) ?_) ?_, ?_⟩
          · rintro o ss ⟨rfl, rfl⟩
            exact fits_tail ⟨a, bk, t, s, ml, day, q, hws.v.mor, hml, rfl, rfl, rfl⟩
          · rintro o r ⟨o', rfl, rfl, rfl⟩
            exact ⟨_, perm_tail, rfl, rfl⟩
          · rintro o r ⟨rfl, rfl⟩
            exact ma_x (a_cons (x_var 5) (a_cons (x_var 6) a_nil))
          · rintro o ss ⟨o1, s1, t1, ⟨rfl, rfl⟩, ⟨rfl, rfl⟩, rfl⟩
            exact ⟨rfl, rfl⟩
          · rintro o ss ⟨rfl, rfl⟩
            exact ⟨_, rfl, (show 3 ≤ 1000 by decide), rfl, rfl⟩
          · rintro o2 s2 ⟨rfl, rfl⟩
            refine ⟨0, _, _, rfl, rfl, ?_, ?_⟩
            · rw [List.length_map, List.length_map]
              refine Nat.lt_of_le_of_lt (List.length_filter_le _ _) ?_
              rw [List.length_take]
              omega
            · rw [ez, List.filter_append, List.map_append, List.map_append]
              have e1 : ([(q, i)].filter fun q => decide (0 < leftOf t q.1)) = [(q, i)] := by rw [List.filter_cons, if_pos hb]; rfl
              rw [e1]
              rfl
        · rintro o r rfl
          exact g_end (at_le hD1 ⟨rfl, rfl⟩ ⟨.inr rfl, .inr rfl, .inr rfl, .inr rfl, .inr rfl, .inl rfl, .inl rfl, .inr rfl, trivial⟩)
      · refine at_le hD1 ⟨rfl, ?_⟩ ⟨.inr rfl, .inr rfl, .inr rfl, .inr rfl, .inr rfl, .inl rfl, .inl rfl, .inr rfl, trivial⟩
        rw [ez, List.filter_append]
        have e1 : ([(q, i)].filter fun q => decide (0 < leftOf t q.1)) = [] := by rw [List.filter_cons, if_neg (by rw [hb]; exact Bool.false_ne_true)]; rfl
        rw [e1, List.append_nil]
  · rintro G1 o1 ⟨rfl, rfl⟩
    have hxl : (enumD (td.map toldD)).length = td.zipIdx.length := by
      unfold enumD
      rw [List.length_mapIdx, List.length_map, List.length_zipIdx]
    rw [hxl, List.take_length]
    generalize hlr : ((td.zipIdx.filter fun q => decide (0 < leftOf t q.1)).map row) = lr
    have hwl2 : withLasts bk t day = (lr.mergeSort lrowLe).map fun r => (r.1, r.2.2) := by rw [hwl, ← hlr]
    have hlg : ∀ r ∈ lr, r.2.2.1.page.going := fun r hr' => by
      rw [← hlr] at hr'
      obtain ⟨x, hx, rfl⟩ := List.mem_map.mp hr'
      have h1 := (List.mem_filter.mp hx).1
      have h2 : x.1 ∈ td := by
        rw [List.mem_zipIdx_iff_getElem?] at h1
        exact List.mem_of_getElem? h1
      exact (hto x.1 h2).1.2.2.2
    have hll : lr.length ≤ 3240 := by
      rw [← hlr, List.length_map]
      refine Nat.le_trans (List.length_filter_le _ _) ?_
      rw [List.length_zipIdx]
      exact htl
    refine g_ret (x_is (x_lc (l := lr.mergeSort lrowLe) (enc := lrowD) sc_with_lasts.nd [("one", 7), ("k", 5), ("due", 6)] (fun r => pairD (r.1, r.2.2)) (src_list (x_is (x_cb (call_sort0 coll_list hu) T.free_sorted (rc_sortO (i := 0) rfl (lrows_alike hlg) (Sortable.tuples fun _ => ⟨_, _, rfl⟩) (fun d hd => ?_)) (a_cons (x_var 4) a_nil)) (by rw [lrow_sort]))) (fun _ _ _ => trivial) (by rw [List.length_mergeSort]; omega) (blkOk_by (N := ["book", "terms", "day", "walk", "found", "k", "due", "one"]) (sc := defScope s_with_lasts) (by decide +kernel))
      (fun _ _ _ _ _ => pg_tup rfl (pgs_cons (pg_name (i := 7) sc_with_lasts.nd rfl (.inl rfl)) (pgs_cons (pg_name (i := 5) sc_with_lasts.nd rfl (.inl rfl)) (pgs_cons (pg_name (i := 6) sc_with_lasts.nd rfl (.inl rfl)) pgs_nil)))) (gw_tup3 (K := K) (n := 3) (by decide) (by decide) (by decide)) fun r hr' => ⟨_, gd_tup (xs := [.int r.1, .int (r.2.1 : Nat), toldD r.2.2]) (gds_cons gd_name (gds_cons gd_name (gds_cons gd_name gds_nil))) rfl, fun _ _ _ _ _ => x_tup (ds := [.int r.1, toldD r.2.2]) (a_cons (x_var 7) (a_cons (x_var 6) a_nil))⟩) ?_) fun v R H p e => hD.1 _ _ v R H rfl p e
    · obtain ⟨r, _, rfl⟩ := List.mem_map.mp hd
      have := told_depth r.2.2
      simp only [lrowD, PyData.depth, PyData.depthAll]
      omega
    · rw [hwl2, List.map_map]
      rfl
end
end CB

/-! Part 28: soon, first_rude, answered, matters, sums, rudes.py. -/
namespace CB
open PySem PySem.Spec PyProof.Rows L2
open PySem.W (dataLe keyToks keyToksAll alike alikeAll AllAlike Sortable)
/-! ### mirrors -/
def soonOf (bk : List Page) (t : Tm) (day : Int) (name : Str) (far : Int) : List (Int × Told) := (withLasts bk t day).filter fun q => decide (q.2.1.ower = name) && decide (q.1 ≤ day + far)
def firstD (bk : List Page) (t : Tm) (day : Int) : PyData := match withLasts bk t day with
  | [] => .none
  | q :: _ => pairD q
def ansRow (bk : List Page) (d : Due) : PyData := .tuple [.int (ixOf bk d.page : Nat), d.enc]
def ansLe (bk : List Page) (d e : Due) : Bool := dataLe false id (ansRow bk d) (ansRow bk e)
def answeredOf (bk : List Page) (s : Wk) : List (Page × List Due) := s.answers.map fun q => (q.1, q.2.mergeSort (ansLe bk))
def answD (q : Page × List Due) : PyData := .tuple [q.1.enc, .tuple (q.2.map Due.enc)]
theorem ans_sort (bk : List Page) (l : List Due) : (l.map (ansRow bk)).mergeSort (dataLe false id) = (l.mergeSort (ansLe bk)).map (ansRow bk) := by
  rw [List.map_mergeSort]
  intro a _ b _
  rfl
theorem alike_due {d e : Due} (h : d.page.going) (g : e.page.going) : alike d.enc e.enc = true := by
  simp only [Due.enc, alike, alikeAll, Bool.and_true, Bool.true_and, alike_going h g]
theorem alike_ans {bk : List Page} {l : List Due} (h : ∀ d ∈ l, d.page.going) : AllAlike (l.map (ansRow bk)) := fun d hd e he => by
  obtain ⟨a, ha, rfl⟩ := List.mem_map.mp hd
  obtain ⟨b, hb, rfl⟩ := List.mem_map.mp he
  simp only [ansRow, alike, alikeAll, Bool.and_true, Bool.true_and, alike_due (h a ha) (h b hb)]
abbrev Pr := Str × Str
def pairNk (q : Pr) : NK := .tup [.text q.1, .text q.2]
def pairE (q : Pr) : PyData := .tuple [.str q.1, .str q.2]
theorem pairNk_inj (a b : Pr) (h : pairNk a = pairNk b) : a = b := by
  obtain ⟨x, y⟩ := a
  obtain ⟨x', y'⟩ := b
  simp only [pairNk, NestedKey.tup.injEq, List.cons.injEq, NestedKey.text.injEq, and_true] at h
  rw [h.1, h.2]
theorem pairNk_t (q : Pr) : NkT (pairNk q) := ⟨⟨_, rfl⟩, by show max 0 (max 0 0) + 1 ≤ 8; decide⟩
def count1 (l : List (Pr × Int)) (q : Told) : List (Pr × Int) := aPut l (q.1.ower, q.1.owed) (((aGet l (q.1.ower, q.1.owed)).getD 0) + 1)
def counts (l : List Told) : List (Pr × Int) := l.foldl count1 []
def countsN (l : List (Pr × Int)) : List (NK × PyData) := aMap pairNk PyData.int l
def prLe (a b : Pr) : Bool := dataLe false id (pairE a) (pairE b)
def mattersOf (l : List Told) : List (Pr × Int) := (((counts l).map (·.1)).mergeSort prLe).map fun q => (q, (aGet (counts l) q).getD 0)
def matD (q : Pr × Int) : PyData := .tuple [.str q.1.1, .str q.1.2, .int q.2]
theorem pr_sort (l : List Pr) : (l.map pairE).mergeSort (dataLe false id) = (l.mergeSort prLe).map pairE := by
  rw [List.map_mergeSort]
  intro a _ b _
  rfl
def paidN (q : Page × List Due) : Int := ((q.2.length : Nat) : Int)
def sumsD (s : Wk) : PyData := .tuple [.int s.made, .int s.copied, .int s.falls.length, .int (s.answers.map paidN).sum, .int s.struck, .int s.merged]
def rudeP (l : List Told) (t : Tm) : List Told := l.filter fun q => decide (leftOf t q = 0)
def paperD (q : Told) : PyData := .tuple [.str q.1.ower, .str q.1.owed, q.1.page.enc, intsD q.2.2]
def rudeD (q : Told) : PyData := .tuple [.str q.1.ower, .str q.1.owed, q.1.page.enc, .int (q.2.2.getLast?.getD 0)]
section
variable {P : Program} {w : World} {K : PySem.W.Frag} {mg : Str → Option Value} {base : Heap}
theorem sc_soon : FnScope ["book", "terms", "day", "name", "far", "pair"] ["book", "terms", "day", "name", "far"] (defScope s_soon) := ⟨rfl, rfl, rfl, by decide +kernel, rfl, by decide +kernel, by decide +kernel⟩
/-- how many there are -/
theorem wl_len {NS : List Str} {bk : List Page} {t : Tm} {day : Int} (hl : (duesOf bk t day).length ≤ 3240) : (withLasts bk t day).length ≤ 3240 := by
  unfold withLasts lrows
  rw [List.length_map, List.length_mergeSort, List.length_map]
  refine Nat.le_trans (List.length_filter_le _ _) ?_
  rw [List.length_zipIdx]
  exact hl
theorem g_soon (T : Tx K mg) : Gd P w K mg base 9 "soon" 5 (spD K fun ss r => ∃ NS bk t day name far h, WG NS bk t day ∧ (duesOf bk t day).length ≤ 3240 ∧ aGet (Hs.run (upTo bk day)).homes name = some h ∧ ss = [.d (.tuple (bk.map Page.enc)), .d (tmD t), .d (.int day), .d (.str name), .d (.int far)] ∧ r = .d (.list ((soonOf bk t day name far).map pairD))) := by
  obtain ⟨fd, F⟩ := T.fun_soon
  refine gd_mk F rfl (okD (k := 8) F sc_soon (fun _ _ ⟨_, _, _, _, _, _, _, _, _, _, e, _⟩ => by rw [e]; rfl) ?_) T.glo_soon fun _ _ _ _ _ _ us hl => match us, hl with | [_, _, _, _, _], _ => rfl
  rintro cd A outer s0 H0 E hr ss r B D ⟨NS, bk, t, day, name, far, h, hg, hdl, hh, rfl, rfl⟩ hF hD
  have hp := hg.en.hp
  refine g_expr (m_x (x_call (oc := []) (s := .d (intsD h)) (g_home_of T) (hr.mono (by decide)) ⟨rfl, bk, day, name, h, rfl, by omega, hh, rfl⟩ (a_cons (x_var 0) (a_cons (x_var 2) (a_cons (x_var 3) a_nil))))) ?_
  rintro o r ⟨rfl, rfl⟩
  refine g_ret (x_lcIf (l := withLasts bk t day) (enc := pairD) (g := gName 5) sc_soon.nd [("pair", 5)] (fun q => decide (q.2.1.ower = name) && decide (q.1 ≤ day + far)) pairD (src_list (x_call (oc := []) (g_with_lasts T) hr ⟨rfl, NS, bk, t, day, hg, rfl, rfl⟩ (a_cons (x_var 0) (a_cons (x_var 1) (a_cons (x_var 2) a_nil))))) (fun _ _ _ => trivial) (Nat.le_trans (wl_len (NS := NS) hdl) (by decide)) (blkOk_by (N := ["book", "terms", "day", "name", "far", "pair"]) (sc := defScope s_soon) (by decide +kernel)) (fun _ _ _ _ _ => pg_name (i := 5) sc_soon.nd rfl (.inl rfl)) (gw_name (by decide))
    fun q hq => ⟨_, gd_name, fun _ _ _ _ _ => x_pw (x_and (x_cmpT op_eq rd_eqS rfl (x_ixn 0 (x_ixn (d := toldD q.2) 1 (x_var 5) x_int) x_int) (x_var 3)) fun _ => x_and1 (x_cmpT op_le rd_Ib rfl (x_ixn 0 (x_var 5) x_int) (x_add (x_var 2) (x_var 4)))), fun _ _ _ _ _ _ => x_var 5⟩) fun v R H p e => hD.1 _ _ v R H rfl p e
theorem sc_first_rude : FnScope ["book", "terms", "day", "found"] ["book", "terms", "day"] (defScope s_first_rude) := ⟨rfl, rfl, rfl, by decide +kernel, rfl, by decide +kernel, by decide +kernel⟩
theorem lay_told {q : Told} (h1 : Nok q.1.ower) (h2 : Nok q.1.owed) (h3 : q.1.page.ok) : PyData.canLay0 (toldD q) = true := by
  have h1' : PyData.strOk q.1.ower = true := h1
  have h2' : PyData.strOk q.1.owed = true := h2
  have h4 : PyData.strOk (srt q.2.1) = true := strOk_srt q.2.1
  have h5 : PyData.canLay0 (intsD q.2.2) = true := by rw [PyData.canLay0]; exact canLay_ints _
  simp only [toldD, PyData.canLay0, PyData.canLayAll0, h1', h2', h4, Page.lay_enc h3, Bool.and_true, Bool.true_and]
  exact h5
theorem shaped_pairs {l : List (Int × Told)} (h : ∀ q ∈ l, Nok q.2.1.ower ∧ Nok q.2.1.owed ∧ q.2.1.page.ok) : SeqAt.shaped (.list (l.map pairD)) = true := by
  unfold SeqAt.shaped
  have h1 : PyData.canLayAll0 (l.map pairD) = true := by
    induction l with
    | nil => rfl
    | cons d l ih =>
      obtain ⟨a, b, c⟩ := h d List.mem_cons_self
      rw [List.map_cons, PyData.canLayAll0, ih fun e he => h e (List.mem_cons_of_mem _ he)]
      simp only [pairD, PyData.canLay0, PyData.canLayAll0, lay_told a b c, Bool.and_true, Bool.true_and]
  have h2 : PyData.depthAll (l.map pairD) ≤ 4 := by
    clear h h1
    induction l with
    | nil => exact Nat.zero_le _
    | cons d l ih =>
      rw [List.map_cons, PyData.depthAll]
      have := told_depth d.2
      have e : (pairD d).depth ≤ 4 := by
        simp only [pairD, PyData.depth, PyData.depthAll]
        omega
      omega
  rw [PyData.canLay0, h1, Bool.true_and, PyData.depth]
  exact decide_eq_true (by omega)
theorem wl_mem {bk : List Page} {t : Tm} {day : Int} {q : Int × Told} (h : q ∈ withLasts bk t day) : q.2 ∈ duesOf bk t day := by
  unfold withLasts at h
  obtain ⟨r, hr, rfl⟩ := List.mem_map.mp h
  have h1 := List.mem_mergeSort.mp hr
  unfold lrows at h1
  obtain ⟨x, hx, rfl⟩ := List.mem_map.mp h1
  have h2 := (List.mem_filter.mp hx).1
  rw [List.mem_zipIdx_iff_getElem?] at h2
  exact List.mem_of_getElem? h2
theorem g_first_rude (T : Tx K mg) : Gd P w K mg base 9 "first_rude" 3 (spD K fun ss r => ∃ NS bk t day, WG NS bk t day ∧ (∀ q ∈ duesOf bk t day, Dok NS bk q.1) ∧ ss = askS bk t day ∧ r = .d (firstD bk t day)) := by
  obtain ⟨fd, F⟩ := T.fun_first_rude
  refine gd_mk F rfl (okD (k := 8) F sc_first_rude (fun _ _ ⟨_, _, _, _, _, _, e, _⟩ => by rw [e]; rfl) ?_) T.glo_first_rude fun _ _ _ _ _ _ us hl => match us, hl with | [_, _, _], _ => rfl
  rintro cd A outer s0 H0 E hr ss r B D ⟨NS, bk, t, day, hg, hok, rfl, rfl⟩ hF hD
  refine g_set sc_first_rude.nd 3 (x_call (oc := []) (g_with_lasts T) hr ⟨rfl, NS, bk, t, day, hg, rfl, rfl⟩ (a_cons (x_var 0) (a_cons (x_var 1) (a_cons (x_var 2) a_nil)))) ?_
  have hs : SeqAt.shaped (.list ((withLasts bk t day).map pairD)) = true := shaped_pairs fun q hq => by
    obtain ⟨h1, h2, h3, _⟩ := hok q.2 (wl_mem hq)
    exact ⟨hg.en.nok _ h1, hg.en.nok _ h2, hg.en.ok h3⟩
  unfold firstD at hD
  generalize withLasts bk t day = l at *
  refine g_ret (x_if (k := !decide (l = [])) (x_t (x_cmpT (op_neD hr.units) (rd_neD hs shaped_nil) rfl (x_var 3) (x_lst (ds := []) a_nil)) (by cases l <;> rfl)) (fun h => ?_) fun h => ?_) fun v R H p e => hD.1 _ _ v R H rfl p e
  · cases l with
    | nil => cases h
    | cons q l => exact x_ixL (x_var 3) x_int (atI_nat (j := 0) rfl)
  · cases l with
    | nil => exact x_non
    | cons q l => cases h
end
end CB

/-! Part 29: answered, matters, sums, rudes.py. -/
namespace CB
open PySem PySem.Spec PyProof.Rows L2
open PySem.W (dataLe keyToks keyToksAll alike alikeAll AllAlike Sortable)
section
variable {P : Program} {w : World} {K : PySem.W.Frag} {mg : Str → Option Value} {base : Heap}
theorem sc_answered : FnScope ["book", "terms", "day", "walk", "at", "found", "page", "paid", "rows", "due", "k"] ["book", "terms", "day"] (defScope s_answered) := ⟨rfl, rfl, rfl, by decide +kernel, rfl, by decide +kernel, by decide +kernel⟩
theorem g_answered (T : Tx K mg) : Gd P w K mg base 8 "answered" 3 (spD K fun ss r => ∃ NS bk t day, WG NS bk t day ∧ ss = askS bk t day ∧ r = .d (.list ((answeredOf bk (Wk.walk bk t day)).map answD))) := by
  obtain ⟨fd, F⟩ := T.fun_answered
  refine gd_mk F rfl (okD (k := 7) F sc_answered (fun _ _ ⟨_, _, _, _, _, e, _⟩ => by rw [e]; rfl) ?_) T.glo_answered fun _ _ _ _ _ _ us hl => match us, hl with | [_, _, _], _ => rfl
  rintro cd A outer s0 H0 E hr ss r B D ⟨NS, bk, t, day, hg, rfl, rfl⟩ hF hD
  have hu := hr.units
  have hp := hg.en.hp
  refine g_setM sc_answered.nd 3 (m_walked T hr hg (x_var 0) (x_var 1) (x_var 2)) ?_
  rintro o r ⟨a, ml, i0, hws, hi0, rfl, rfl⟩
  rw [List.append_nil]
  generalize hs : Wk.walk bk t day = s at *
  refine g_setM sc_answered.nd 4 (m_meth0 (q := 0) (fs := []) (D := fun o r => ∃ q, o = (q, asN P w K (placesN bk)) :: wOwn P w K a bk t s ml ∧ r = .v (.ref q)) (g_W_places T) (hr.mono (by decide)) T.cls_Walk (m_x (x_var 3)) ?_) ?_
  · rintro o r ⟨rfl, rfl⟩
    exact ⟨0, a.w, _, rfl, rfl, rfl, fits_all ⟨a, bk, t, s, ml, hg.nd, by omega, rfl, rfl, rfl⟩ fun _ _ h => h⟩
  rintro o r ⟨q, rfl, rfl⟩
  refine g_setM sc_answered.nd 5 m_lnew ?_
  rintro o r ⟨f, rfl, rfl⟩
  refine g_for (g := gTup K 2 (gCons (gName 6) (gCons (gName 7) gNil))) (src_m (src_own (p := a.answers) (ds := s.answers.map ansD) 9 (x_fld 2 (x_var 3) T.cls_Walk T.na_Walk_answers) rfl)) (pg_tup rfl (pgs_cons (pg_name (i := 6) sc_answered.nd rfl (.inl rfl)) (pgs_cons (pg_name (i := 7) sc_answered.nd rfl (.inl rfl)) pgs_nil))) ?_
  rintro o xs V ⟨rfl, rfl, rfl⟩
  refine ⟨fun i G1 o1 => G1 = [.d (.tuple (bk.map Page.enc)), .d (tmD t), .d (.int day), .v (.ref a.w), .v (.ref q), .v (.ref f), .u, .u, .u, .u, .u] ∧ o1 = (f, asL K (((answeredOf bk s).take i).map answD)) :: (q, asN P w K (placesN bk)) :: wOwn P w K a bk t s ml, ⟨rfl, rfl⟩, fun i G1 o1 ⟨_, ho⟩ R H ow => ?_, ?_, ?_⟩
  · subst ho
    exact stands_of (i := 9) rfl R H ow
  · rintro i x G1 o1 B1 D1 hx ⟨rfl, rfl⟩ hB hF1 hD1 _
    rw [List.getElem?_map] at hx
    cases hq : s.answers[i]? with
    | none => rw [hq] at hx; cases hx
    | some y =>
      rw [hq] at hx
      cases hx
      obtain ⟨pg, l⟩ := y
      obtain ⟨h1, h2, h3⟩ := hws.v.an _ (List.mem_of_getElem? hq)
      have h2' : l.length ≤ 40 := h2
      have hil : i < s.answers.length := (List.getElem?_eq_some_iff.mp hq).1
      have hal := hws.v.la
      have eq2 : (answeredOf bk s)[i]? = some (pg, l.mergeSort (ansLe bk)) := by
        unfold answeredOf
        rw [List.getElem?_map, hq]
        rfl
      refine ⟨_, gd_tup (xs := [pg.enc, .list (l.map Due.enc)]) (gds_cons gd_name (gds_cons gd_name gds_nil)) rfl, ?_⟩
      refine g_set sc_answered.nd 8 (s := .d (.list ((l.mergeSort (ansLe bk)).map (ansRow bk)))) (x_is (x_cb (call_sort0 coll_list hu) T.free_sorted (rc_sortL (ds := l.map (ansRow bk)) (alike_ans fun d hd => (h3 d hd).2.2.2) (Sortable.tuples fun _ => ⟨_, _, rfl⟩) (fun d hd => ?_)) (a_cons (x_lc (l := l) (enc := Due.enc) (g := gName 9) sc_answered.nd [("due", 9)] (ansRow bk) (src_list (x_var 7)) (fun _ _ _ => trivial) (by omega) (blkOk_by (N := ["book", "terms", "day", "walk", "at", "found", "page", "paid", "rows", "due", "k"]) (sc := defScope s_answered) (by decide +kernel)) (fun _ _ _ _ _ => pg_name (i := 9) sc_answered.nd rfl (.inl rfl)) (gw_name (by decide))
        fun d hd => ⟨_, gd_name, fun _ _ _ _ _ => x_tup (ds := [.int (ixOf bk d.page : Nat), d.enc]) (a_cons (x_nget (p := q) (k := d.page.nk) (ks := placesN bk) 1 hu (x_var 4) (x_is (x_ixn (d := d.page.enc) 2 (x_var 9) x_int) (by rw [d.page.nk_data])) d.page.nk_t (places_get hg.nd (h3 d hd).2.2.1)) (a_cons (x_var 9) a_nil))⟩) a_nil)) (by rw [ans_sort])) ?_
      · obtain ⟨x, _, rfl⟩ := List.mem_map.mp hd
        have := x.depth
        simp only [ansRow, PyData.depth, PyData.depthAll]
        omega
      refine g_expr (m_append (Dd := fun o r => o = (f, asL K (((answeredOf bk s).take (i + 1)).map answD)) :: (q, asN P w K (placesN bk)) :: wOwn P w K a bk t s ml) (m_x (x_var 5)) ?_) ?_
      · rintro o1 s1 ⟨rfl, rfl⟩
        refine ⟨f, 0, _, rfl, rfl, _, m_x (x_tup (ds := [pg.enc, .tuple ((l.mergeSort (ansLe bk)).map Due.enc)]) (a_cons (x_var 6) (a_cons (x_ct call_tuple_of T.free_tuple rc_tupL (a_cons (x_lc (l := l.mergeSort (ansLe bk)) (enc := ansRow bk) sc_answered.nd [("k", 10), ("due", 9)] Due.enc (src_list (x_var 8)) (fun _ _ _ => trivial) (by rw [List.length_mergeSort]; omega) (blkOk_by (N := ["book", "terms", "day", "walk", "at", "found", "page", "paid", "rows", "due", "k"]) (sc := defScope s_answered) (by decide +kernel))
          (fun _ _ _ _ _ => pg_tup rfl (pgs_cons (pg_name (i := 10) sc_answered.nd rfl (.inl rfl)) (pgs_cons (pg_name (i := 9) sc_answered.nd rfl (.inl rfl)) pgs_nil))) (gw_tup2 (K := K) (n := 2) (by decide) (by decide)) fun d hd => ⟨_, gd_tup (xs := [.int (ixOf bk d.page : Nat), d.enc]) (gds_cons gd_name (gds_cons gd_name gds_nil)) rfl, fun _ _ _ _ _ => x_var 9⟩) a_nil)) a_nil))), ?_⟩
        rintro o2 s2 ⟨rfl, rfl⟩
        refine ⟨0, _, _, rfl, rfl, by rw [List.length_map, List.length_take]; omega, ?_⟩
        rw [List.take_add_one, eq2, List.map_append]
        rfl
      · rintro o r rfl
        exact at_le hD1 ⟨rfl, rfl⟩ ⟨.inr rfl, .inr rfl, .inr rfl, .inr rfl, .inr rfl, .inr rfl, .inl rfl, .inl rfl, .inl rfl, .inr rfl, .inr rfl, trivial⟩
  · rintro G1 o1 ⟨rfl, rfl⟩
    have e1 : (s.answers.map ansD).length = (answeredOf bk s).length := by unfold answeredOf; rw [List.length_map, List.length_map]
    rw [e1, List.take_length]
    refine g_ret (x_var 5) fun v R H p e => ?_
    obtain ⟨o2, R', p2, e2⟩ := ret_list (i := 0) hF p rfl e
    exact hD.1 o2 _ v R' H rfl p2 e2
theorem sc_sums : FnScope ["book", "terms", "day", "walk", "answered", "page", "paid"] ["book", "terms", "day"] (defScope s_sums) := ⟨rfl, rfl, rfl, by decide +kernel, rfl, by decide +kernel, by decide +kernel⟩
theorem g_sums (T : Tx K mg) : Gd P w K mg base 8 "sums" 3 (spD K fun ss r => ∃ NS bk t day, WG NS bk t day ∧ ss = askS bk t day ∧ r = .d (sumsD (Wk.walk bk t day))) := by
  obtain ⟨fd, F⟩ := T.fun_sums
  refine gd_mk F rfl (okD (k := 7) F sc_sums (fun _ _ ⟨_, _, _, _, _, e, _⟩ => by rw [e]; rfl) ?_) T.glo_sums fun _ _ _ _ _ _ us hl => match us, hl with | [_, _, _], _ => rfl
  rintro cd A outer s0 H0 E hr ss r B D ⟨NS, bk, t, day, hg, rfl, rfl⟩ hF hD
  refine g_setM sc_sums.nd 3 (m_walked T hr hg (x_var 0) (x_var 1) (x_var 2)) ?_
  rintro o r ⟨a, ml, i0, hws, hi0, rfl, rfl⟩
  rw [List.append_nil]
  generalize hs : Wk.walk bk t day = s at *
  have hal := hws.v.la
  refine g_set sc_sums.nd 4 (s := .d (.int (s.answers.map paidN).sum)) (x_cb (cr_sum rfl) T.free_sum (rc_sum (ns := s.answers.map paidN)) (a_cons (x_is (x_lc (l := s.answers) (enc := ansD) sc_sums.nd [("page", 5), ("paid", 6)] (fun q => .int (paidN q)) (src_own (p := a.answers) (ds := s.answers.map ansD) 7 (x_fld 0 (x_var 3) T.cls_Walk T.na_Walk_answers) rfl) (stands_of (i := 7) rfl) (by omega) (blkOk_by (N := ["book", "terms", "day", "walk", "answered", "page", "paid"]) (sc := defScope s_sums) (by decide +kernel))
    (fun _ _ _ _ _ => pg_tup rfl (pgs_cons (pg_name (i := 5) sc_sums.nd rfl (.inl rfl)) (pgs_cons (pg_name (i := 6) sc_sums.nd rfl (.inl rfl)) pgs_nil))) (gw_tup2 (K := K) (n := 2) (by decide) (by decide)) fun q hq => ⟨_, gd_tup (xs := [q.1.enc, .list (q.2.map Due.enc)]) (gds_cons gd_name (gds_cons gd_name gds_nil)) rfl, fun _ _ _ _ _ => x_is (x_cb call_len_seq T.free_len rc_lenL (a_cons (x_var 6) a_nil)) (by rw [List.length_map]; rfl)⟩) (by rw [List.map_map]; rfl)) a_nil)) ?_
  exact g_ret (x_tup (ds := [.int s.made, .int s.copied, .int s.falls.length, .int (s.answers.map paidN).sum, .int s.struck, .int s.merged]) (a_cons (x_fld 0 (x_var 3) T.cls_Walk T.na_Walk_made) (a_cons (x_fld 0 (x_var 3) T.cls_Walk T.na_Walk_copied) (a_cons (x_is (x_cb call_nlen T.free_len (rc_nlen (j := 5) (p := a.falls) (ks := fallsN s.falls) rfl) (a_cons (x_fld 0 (x_var 3) T.cls_Walk T.na_Walk_falls) a_nil)) (by rw [falls_len])) (a_cons (x_var 4) (a_cons (x_fld 0 (x_var 3) T.cls_Walk T.na_Walk_struck) (a_cons (x_fld 0 (x_var 3) T.cls_Walk T.na_Walk_merged) a_nil))))))) fun v R H p e => hD.1 _ _ v R H rfl p e
theorem sc_matters : FnScope ["book", "terms", "day", "found", "due", "pair"] ["book", "terms", "day"] (defScope s_matters) := ⟨rfl, rfl, rfl, by decide +kernel, rfl, by decide +kernel, by decide +kernel⟩
theorem counts_get (l : List (Pr × Int)) (q : Pr) : aGet (countsN l) (pairNk q) = (aGet l q).map PyData.int := aMap_get pairNk_inj q l
theorem counts_put (l : List (Pr × Int)) (q : Pr) (v : Int) : aPut (countsN l) (pairNk q) (.int v) = countsN (aPut l q v) := aMap_put pairNk_inj q v l
theorem counts_len : ∀ (l : List Told) (acc : List (Pr × Int)), (l.foldl count1 acc).length ≤ acc.length + l.length
  | [], _ => Nat.le_refl _
  | q :: l, acc => by
    have h1 := counts_len l (count1 acc q)
    have h2 : (count1 acc q).length ≤ acc.length + 1 := aPut_len _ _ _
    rw [List.foldl_cons, List.length_cons]
    omega
theorem counts_keys (l : List (Pr × Int)) : (countsN l).map (fun q => q.1.data) = (l.map (·.1)).map pairE := by
  unfold countsN aMap
  rw [List.map_map, List.map_map]
  rfl
theorem g_matters (T : Tx K mg) : Gd P w K mg base 9 "matters" 3 (spD K fun ss r => ∃ NS bk t day, WG NS bk t day ∧ (duesOf bk t day).length ≤ 3240 ∧ ss = askS bk t day ∧ r = .d (.list ((mattersOf (duesOf bk t day)).map matD))) := by
  obtain ⟨fd, F⟩ := T.fun_matters
  refine gd_mk F rfl (okD (k := 8) F sc_matters (fun _ _ ⟨_, _, _, _, _, _, e, _⟩ => by rw [e]; rfl) ?_) T.glo_matters fun _ _ _ _ _ _ us hl => match us, hl with | [_, _, _], _ => rfl
  rintro cd A outer s0 H0 E hr ss r B D ⟨NS, bk, t, day, hg, hdl, rfl, rfl⟩ hF hD
  have hu := hr.units
  refine g_setM sc_matters.nd 3 m_nnew ?_
  rintro o r ⟨p, rfl, rfl⟩
  refine g_for (g := gName 4) (src_m (src_list (ds := (duesOf bk t day).map toldD) (x_call (oc := []) (g_dues T) hr ⟨rfl, NS, bk, t, day, hg, rfl, rfl⟩ (a_cons (x_var 0) (a_cons (x_var 1) (a_cons (x_var 2) a_nil)))))) (pg_name (i := 4) sc_matters.nd rfl (.inl rfl)) ?_
  rintro o xs V ⟨rfl, rfl, rfl⟩
  generalize duesOf bk t day = l at *
  refine ⟨fun i G1 o1 => G1 = [.d (.tuple (bk.map Page.enc)), .d (tmD t), .d (.int day), .v (.ref p), .u, .u] ∧ o1 = [(p, asN P w K (countsN ((l.take i).foldl count1 [])))], ⟨rfl, rfl⟩, fun _ _ _ _ _ _ _ => trivial, ?_, ?_⟩
  · rintro i x G1 o1 B1 D1 hx ⟨rfl, rfl⟩ hB hF1 hD1 _
    rw [List.getElem?_map] at hx
    cases hq : l[i]? with
    | none => rw [hq] at hx; cases hx
    | some q =>
      rw [hq] at hx
      cases hx
      have e1 := fold_take (f := count1) hq []
      have hcl := counts_len (l.take i) []
      rw [List.length_nil, List.length_take] at hcl
      refine ⟨_, gd_name, ?_⟩
      generalize (l.take i).foldl count1 [] = c at *
      refine g_nput (p := p) (k := pairNk (q.1.ower, q.1.owed)) (ks := countsN c) (d := .int (((aGet c (q.1.ower, q.1.owed)).getD 0) + 1)) 0 hu (x_var 3) (x_slT (es := [.str q.1.ower, .str q.1.owed]) (l := none) (h := some 2) (x_var 4) o_none (o_some x_int)) (pairNk_t _) (x_add (j := 1) (x_is (x_nget2 (p := p) (k := pairNk (q.1.ower, q.1.owed)) (ks := countsN c) (d := .int 0) 0 hu (x_var 3) (x_slT (es := [.str q.1.ower, .str q.1.owed]) (l := none) (h := some 2) (x_var 4) o_none (o_some x_int)) x_int (pairNk_t _)) ?_) x_int) (by unfold countsN; rw [aMap_len]; omega) ?_
      · rw [counts_get]
        cases aGet c (q.1.ower, q.1.owed) <;> rfl
      · rw [counts_put]
        exact at_le hD1 ⟨rfl, by rw [e1]; rfl⟩ ⟨.inr rfl, .inr rfl, .inr rfl, .inr rfl, .inl rfl, .inr rfl, trivial⟩
  · rintro G1 o1 ⟨rfl, rfl⟩
    rw [List.length_map, List.take_length]
    have hcl := counts_len l []
    rw [List.length_nil] at hcl
    unfold mattersOf counts at hD
    generalize l.foldl count1 [] = c at *
    have alk : AllAlike ((countsN c).map fun q => q.1.data) := by
      rw [counts_keys]
      intro d hd e he
      obtain ⟨x, _, rfl⟩ := List.mem_map.mp hd
      obtain ⟨y, _, rfl⟩ := List.mem_map.mp he
      rfl
    have srt0 : Sortable ((countsN c).map fun q => q.1.data) := by
      rw [counts_keys]
      exact Sortable.tuples fun _ => ⟨_, _, rfl⟩
    refine g_ret (x_is (x_lc (l := (c.map (·.1)).mergeSort prLe) (enc := pairE) (g := gName 5) sc_matters.nd [("pair", 5)] (fun q => matD (q, (aGet c q).getD 0)) (src_list (x_is (x_cb (call_sort0 (coll_nd rfl) hu) T.free_sorted (rc_sortN (i := 0) (ks := countsN c) rfl alk srt0 (fun d hd => ?_)) (a_cons (x_var 3) a_nil)) (by rw [counts_keys, pr_sort]))) (fun _ _ _ => trivial) (by rw [List.length_mergeSort, List.length_map]; omega) (blkOk_by (N := ["book", "terms", "day", "found", "due", "pair"]) (sc := defScope s_matters) (by decide +kernel)) (fun _ _ _ _ _ => pg_name (i := 5) sc_matters.nd rfl (.inl rfl)) (gw_name (by decide))
      fun q hq => ?_) (by rw [List.map_map]; rfl)) fun v R H p e => hD.1 _ _ v R H rfl p e
    · rw [counts_keys] at hd
      obtain ⟨x, _, rfl⟩ := List.mem_map.mp hd
      exact Nat.le_of_ble_eq_true rfl
    · obtain ⟨v, hv⟩ := some_of (aGet_mem.mp (List.mem_mergeSort.mp hq))
      refine ⟨_, gd_name, fun _ _ _ _ _ => x_is (x_op op_catA (rd_cat (ds := [.str q.1, .str q.2]) (es := [.int v]) (show 3 ≤ sizeLine by decide)) (x_var 5) (x_tup (ds := [.int v]) (a_cons (x_nget (p := p) (k := pairNk q) (ks := countsN c) 0 hu (x_var 3) (x_var 5) (pairNk_t q) (by rw [counts_get, hv]; rfl)) a_nil))) ?_⟩
      rw [hv]
      rfl
theorem sc_rude_papers : FnScope ["book", "terms", "day", "found", "due"] ["book", "terms", "day"] (defScope s_rude_papers) := ⟨rfl, rfl, rfl, by decide +kernel, rfl, by decide +kernel, by decide +kernel⟩
theorem g_rude_papers (T : Tx K mg) : Gd P w K mg base 9 "rude_papers" 3 (spD K fun ss r => ∃ NS bk t day, WG NS bk t day ∧ (duesOf bk t day).length ≤ 3240 ∧ ss = askS bk t day ∧ r = .d (.list ((rudeP (duesOf bk t day) t).map paperD))) := by
  obtain ⟨fd, F⟩ := T.fun_rude_papers
  refine gd_mk F rfl (okD (k := 8) F sc_rude_papers (fun _ _ ⟨_, _, _, _, _, _, e, _⟩ => by rw [e]; rfl) ?_) T.glo_rude_papers fun _ _ _ _ _ _ us hl => match us, hl with | [_, _, _], _ => rfl
  rintro cd A outer s0 H0 E hr ss r B D ⟨NS, bk, t, day, hg, hdl, rfl, rfl⟩ hF hD
  refine g_setM sc_rude_papers.nd 3 m_lnew ?_
  rintro o r ⟨f, rfl, rfl⟩
  refine g_for (g := gName 4) (src_m (src_list (ds := (duesOf bk t day).map toldD) (x_call (oc := []) (g_dues T) hr ⟨rfl, NS, bk, t, day, hg, rfl, rfl⟩ (a_cons (x_var 0) (a_cons (x_var 1) (a_cons (x_var 2) a_nil)))))) (pg_name (i := 4) sc_rude_papers.nd rfl (.inl rfl)) ?_
  rintro o xs V ⟨rfl, rfl, rfl⟩
  generalize duesOf bk t day = l at *
  refine ⟨fun i G1 o1 => G1 = [.d (.tuple (bk.map Page.enc)), .d (tmD t), .d (.int day), .v (.ref f), .u] ∧ o1 = [(f, asL K ((rudeP (l.take i) t).map paperD))], ⟨rfl, rfl⟩, fun _ _ _ _ _ _ _ => trivial, ?_, ?_⟩
  · rintro i x G1 o1 B1 D1 hx ⟨rfl, rfl⟩ hB hF1 hD1 _
    rw [List.getElem?_map] at hx
    cases hq : l[i]? with
    | none => rw [hq] at hx; cases hx
    | some q =>
      rw [hq] at hx
      cases hx
      have hil : i < l.length := (List.getElem?_eq_some_iff.mp hq).1
      have e1 : rudeP (l.take (i + 1)) t = rudeP (l.take i) t ++ (if decide (leftOf t q = 0) = true then [q] else []) := by
        unfold rudeP
        rw [List.take_add_one, hq, List.filter_append]
        congr 1
        show List.filter _ [q] = _
        rw [List.filter_cons]
        rfl
      refine ⟨_, gd_name, ?_⟩
      refine g_if (k := decide (leftOf t q = 0)) (x_cmpT op_eq rd_eqI rfl (x_call (oc := []) (g_left T) (hr.mono (by decide)) ⟨rfl, t, q, rfl, rfl⟩ (a_cons (x_var 1) (a_cons (x_var 4) a_nil))) x_int) (fun hb => ?_) fun hb => g_end ?_
      · rw [if_pos hb] at e1
        refine g_expr (m_append (Dd := fun o r => o = [(f, asL K ((rudeP (l.take (i + 1)) t).map paperD))]) (m_x (x_var 3)) ?_) ?_
        · rintro o1 s1 ⟨rfl, rfl⟩
          refine ⟨f, 0, _, rfl, rfl, _, m_x (x_tup (ds := [.str q.1.ower, .str q.1.owed, q.1.page.enc, intsD q.2.2]) (a_cons (x_ixn 0 (x_var 4) x_int) (a_cons (x_ixn 1 (x_var 4) x_int) (a_cons (x_ixn 3 (x_var 4) x_int) (a_cons (x_ixn 4 (x_var 4) x_int) a_nil))))), ?_⟩
          rintro o2 s2 ⟨rfl, rfl⟩
          refine ⟨0, _, _, rfl, rfl, ?_, ?_⟩
          · rw [List.length_map]
            unfold rudeP
            refine Nat.lt_of_le_of_lt (List.length_filter_le _ _) ?_
            rw [List.length_take]
            omega
          · rw [e1, List.map_append]
            rfl
        · rintro o r rfl
          exact g_end (at_le hD1 ⟨rfl, rfl⟩ ⟨.inr rfl, .inr rfl, .inr rfl, .inr rfl, .inl rfl, trivial⟩)
      · rw [if_neg (by rw [hb]; exact Bool.false_ne_true), List.append_nil] at e1
        exact at_le hD1 ⟨rfl, by rw [e1]⟩ ⟨.inr rfl, .inr rfl, .inr rfl, .inr rfl, .inl rfl, trivial⟩
  · rintro G1 o1 ⟨rfl, rfl⟩
    rw [List.length_map, List.take_length]
    refine g_ret (x_var 3) fun v R H p e => ?_
    obtain ⟨o2, R', p2, e2⟩ := ret_list (i := 0) hF p rfl e
    exact hD.1 o2 _ v R' H rfl p2 e2
theorem sc_rude : FnScope ["book", "terms", "day", "paper"] ["book", "terms", "day"] (defScope s_rude) := ⟨rfl, rfl, rfl, by decide +kernel, rfl, by decide +kernel, by decide +kernel⟩
theorem g_rude (T : Tx K mg) : Gd P w K mg base 10 "rude" 3 (spD K fun ss r => ∃ NS bk t day, WG NS bk t day ∧ (1 ≤ t.1 ∧ 1 ≤ t.2) ∧ (duesOf bk t day).length ≤ 3240 ∧ ss = askS bk t day ∧ r = .d (.list ((rudeP (duesOf bk t day) t).map rudeD))) := by
  obtain ⟨fd, F⟩ := T.fun_rude
  refine gd_mk F rfl (okD (k := 9) F sc_rude (fun _ _ ⟨_, _, _, _, _, _, _, e, _⟩ => by rw [e]; rfl) ?_) T.glo_rude fun _ _ _ _ _ _ us hl => match us, hl with | [_, _, _], _ => rfl
  rintro cd A outer s0 H0 E hr ss r B D ⟨NS, bk, t, day, hg, ht, hdl, rfl, rfl⟩ hF hD
  have hrl : (rudeP (duesOf bk t day) t).length ≤ 3240 := Nat.le_trans (List.length_filter_le _ _) hdl
  refine g_ret (x_lc (l := rudeP (duesOf bk t day) t) (enc := paperD) (g := gName 3) sc_rude.nd [("paper", 3)] rudeD (src_list (x_call (oc := []) (g_rude_papers T) hr ⟨rfl, NS, bk, t, day, hg, hdl, rfl, rfl⟩ (a_cons (x_var 0) (a_cons (x_var 1) (a_cons (x_var 2) a_nil))))) (fun _ _ _ => trivial) (by omega) (blkOk_by (N := ["book", "terms", "day", "paper"]) (sc := defScope s_rude) (by decide +kernel)) (fun _ _ _ _ _ => pg_name (i := 3) sc_rude.nd rfl (.inl rfl)) (gw_name (by decide))
    fun q hq => ?_) fun v R H p e => hD.1 _ _ v R H rfl p e
  have h0 : leftOf t q = 0 := of_decide_eq_true (List.mem_filter.mp hq).2
  obtain ⟨z, hz⟩ : ∃ z, q.2.2.getLast? = some z := by
    cases h : q.2.2.getLast? with
    | none =>
      have hnil := List.getLast?_eq_none_iff.mp h
      unfold leftOf termOf at h0
      rw [hnil] at h0
      cases hv : q.2.1 <;> rw [hv] at h0 <;> simp at h0 <;> omega
    | some z => exact ⟨z, rfl⟩
  refine ⟨_, gd_name, fun _ _ _ _ _ => x_is (x_op op_catA (rd_cat (ds := [.str q.1.ower, .str q.1.owed, q.1.page.enc]) (es := [.int z]) (show 4 ≤ sizeLine by decide)) (x_slT (es := [.str q.1.ower, .str q.1.owed, q.1.page.enc]) (l := none) (h := some 3) (x_var 3) o_none (o_some x_int)) (x_tup (ds := [.int z]) (a_cons (x_ixT (x_ixn (d := intsD q.2.2) 3 (x_var 3) x_int) (x_neg x_int) (atI_lastD hz)) a_nil))) ?_⟩
  unfold rudeD
  rw [hz]
  rfl
end
end CB

/-! Part 30: repr of a list of data. -/
namespace CB
open PySem PySem.Spec PyProof.Rows L2
def rShow (K : PySem.W.Frag) : List V → Hp → VK → Prop := fun vs H Q => ∃ R a xs ds, vs = [.ref a] ∧ SqL K H a xs ∧ Same R H ∧ DpAll K R xs ds ∧ (PyData.list ds).showable = true ∧ (PyData.list ds).hasDict = false ∧ (PyData.list ds).depth ≤ 16 ∧ (PyData.list ds).shown.length ≤ sizeLine ∧ Q (.str (PyData.list ds).shown) H
theorem call_repr {X : Cx} (hg : X.A.guards = some []) (hu : X.A.units + 64 < cLine) : CallR X (.builtin "repr") (rShow X.K) := by
  intro pins s σ H vs us Q I r h
  obtain ⟨R, a, xs, ds, rfl, hs, hRH, hd, h1, h2, h3, h4, q⟩ := h
  obtain ⟨u, rfl, rx⟩ := vals1 r
  cases rx
  have dl : Dp X.K H (.ref a) (.list ds) := .lst hs (dps_up hRH _ _ hd)
  obtain ⟨as, rr⟩ := Dp.reads I (.list ds) (.ref a) (.ref a) dl rfl
  refine repr_of_reads' rr h1 (fun z => by rw [h2] at z; cases z) hg (by omega) (fun _ _ e => e) (fun h' u tk hk => ?_) h4
  exact ⟨.str _, H, I.kept (t' := tk) hk, ⟨u, rfl⟩, q⟩
section
variable {X : Cx} {own : OL} {ds : List PyData}
theorem rc_show {p : Addr} {i : Nat} (hi : own[i]? = some (p, asL X.K ds)) (h1 : (PyData.list ds).showable = true) (h2 : (PyData.list ds).hasDict = false) (h3 : (PyData.list ds).depth ≤ 16) (h4 : (PyData.list ds).shown.length ≤ sizeLine) : RC X.K own (rShow X.K) [.v (.ref p)] (.d (.str (PyData.list ds).shown)) := fun R H vs w h Q q => by
  match vs, h with
  | [v], ⟨e1, _⟩ =>
    obtain rfl := v_slr e1
    obtain ⟨us, f2, f3⟩ := stands_of hi R H w
    exact ⟨R, p, us, ds, rfl, SqL.of f2, w.rh, f3, h1, h2, h3, h4, q _ R H (Grow.refl w.rh) (slr_d (.str _))⟩
end
end CB

/-! Part 31: promises that hold where no guard stands (repr asks for that): FnG, its body, its call. -/
namespace CB
open PySem PySem.Spec PyProof.Rows L2
/-- a promise kept wherever no guard stands -/
structure FnG (P : Program) (w : World) (K : PySem.W.Frag) (mg : Str → Option Value) (base : Heap) (k : Nat) (f : Addr) (fd : FuncData) (ps : List Str) (sp : Sp) : Prop where
  cnt : ∀ vs H Q E, sp vs H Q E → vs.length = ps.length
  go : ∀ (B : Around) (out : List Env) (t : Shared) (H : Hp) (ar : PySem.Args) (ws : List Value) (vs : List V) (Q : VK) (E : XK), Room k B → B.guards = some [] → Env0 P w K mg base B out t H → BindsTo t fd ar (ps.zip ws) → Vals vs ws → sp vs H Q E → codeAny (model P w) B (.call (.ref f) ar) (CR CX0 out P w H t Q E) t
section
variable {P : Program} {w : World} {K : PySem.W.Frag} {mg : Str → Option Value} {base : Heap} {k : Nat} {f : Addr}
theorem fnG_of {nm ql : Str} {pr : Arguments} {bd : List Stmt} {sc : Scope} {dV kV doc pm cdv ct oc : Value} {an od : Option Addr} {osl : Array (Option Value)} {N ps : List Str} {sp : Sp}
    (lk : K.lookup f = some ⟨oc, od, .func (PySem.W.fnOf nm ql pr bd sc dV kV doc pm an cdv ct), osl⟩) (hc : PySem.W.codeIn K cdv ql = true) (S : FnScope N ps sc) (cnt : ∀ vs H Q E, sp vs H Q E → vs.length = ps.length)
    (hb : ∀ (B : Around) (out : List Env) (t : Shared) (H : Hp) (vs : List V) (Q : VK) (E : XK), Room k (B.deeper (envOfC ql sc t.heap.objs.size f cdv)) → (B.deeper (envOfC ql sc t.heap.objs.size f cdv)).guards = some [] → sp vs H Q E → ∃ r, PSs (cxOf CX0 P w K mg base N ql sc f cdv B out t H E) bd r ∧ r { nx := fun _ H' => Q .non H', rt := Q } (start N vs) H) :
    FnG P w K mg base (k + 1) f (PySem.W.fnOf nm ql pr bd sc dV kV doc pm an cdv ct) ps sp := by
  refine ⟨cnt, fun B out t H ar ws vs Q E hr hgd e0 hbn r hs => ?_⟩
  have hn := cnt _ _ _ _ hs
  have hK : K.In t.heap := e0.mod.kin.keeps fun a u z => (e0.bs a u z).1
  have hL : t.heap.NoLimit := e0.mod.nolimit.keeps fun a u z => (e0.bs a u z).1
  have kinds : ∀ q ∈ ps.zip ws, sc.names.lookup q.1 = some .local ∨ (sc.names.lookup q.1 = some .cell ∧ ((cellsFrom (t.heap.objs.size + 1) sc.names []).lookup q.1).isSome = true) := by
    rintro ⟨n, v⟩ hq
    exact (S.par n (List.of_mem_zip hq).1).imp id fun z => ⟨z, PySem.W.cellsFrom_some _ _ _ (.inl z)⟩
  refine codeAny_call_function hr.depth (hK _ _ lk) rfl S.co S.gen rfl (PySem.W.codeRec_of hK hc) (hbn _ _ _ _ (wpAny_newFunctionEnv_cells S.kind kinds fun en he t1 x => ?_))
  cases he
  refine ⟨hL.keeps x.toInCall.keep, codeAny_func ?_⟩
  obtain ⟨rd, h1, h2⟩ := hb B out t H vs Q E (hr.deeper _) hgd hs
  have J0 : Inv (cxOf CX0 P w K mg base N ql sc f cdv B out t H E) [] (start N vs) H t1 := inv_start S hr.hd e0 hn r x
  refine wpAny_mono (h1.run [] t1 (start N vs) H _ J0 h2) (fun fl t' ht => ?_) fun e t' ht => ht
  have close : ∀ {σ' : L2.St} {H' : Hp} {v : V} {u : Value}, Inv (cxOf CX0 P w K mg base N ql sc f cdv B out t H E) [] σ' H' t' → RelV v u → Q v H' → CE out P w H t Q u t' := fun {_ H' v _} J rv q => ⟨v, H', J.os, J.bare, J.base, J.hok, rv, q⟩
  match fl, ht with
  | .ret u, ⟨_, _, _, J, rv, q⟩ => exact close J rv q
  | .next, ⟨_, _, J, q⟩ => exact close (v := .non) (u := .none) J rfl q
  | .brk, ⟨_, _, _, q⟩ => exact q.elim
  | .cont, ⟨_, _, _, q⟩ => exact q.elim
end
section
variable {X : Cx} {k : Nat} {f : Addr} {fd : FuncData} {ps : List Str} {sp : Sp} {E : XK}
theorem run_fnG {pins : List (Addr × Obj)} {σ : L2.St} {H : Hp} {s : Shared} {Q : VK} {us : List Value} {vs : List V} (F : FnG X.prog X.w X.K X.mg X.base k f fd ps sp) (hr : Room k X.A) (hg : X.A.guards = some []) (hb : Binds X.K fd ps []) (I : Inv X pins σ H s) (r : Vals vs us) (h : sp vs H Q E) :
    wpAny (model X.prog X.w) X.A (call (.ref f) us) (EP X pins σ Q) X.xe s := by
  have hl : (us ++ []).length = ps.length := by rw [List.append_nil, ← r.length]; exact F.cnt _ _ _ _ h
  have hb2 := hb s us I.kIn hl
  rw [List.append_nil] at hb2
  refine wpAny_call (codeAny_mono (F.go X.A X.stack s H ⟨us, []⟩ us vs Q E hr hg I.env0 hb2 r h) fun res s' hq => ?_)
  match res, hq with
  | .error _, hq => exact hq.elim
  | .ok (.ret _), hq => exact I.after hq
  | .ok .next, hq => exact hq.elim
  | .ok .brk, hq => exact hq.elim
  | .ok .cont, hq => exact hq.elim
end
section
variable (P : Program) (w : World) (K : PySem.W.Frag) (mg : Str → Option Value) (base : Heap)
structure GdG (k : Nat) (x : Str) (n : Nat) (sp : Sp) : Prop where
  ex : ∃ f fd ps, ps.length = n ∧ FnG P w K mg base k f fd ps sp ∧ mg x = some (.ref f) ∧ PySem.W.keepIn K (.ref f) = true ∧ Binds K fd ps []
end
section
variable {X : Cx} {G : List Sl} {own oc : OL} {e : Expr} {es : List Expr} {s : Sl} {ss : List Sl} {pos : Pos} {k n : Nat}
theorem pe_callG {f : Addr} {fd : FuncData} {ps : List Str} {sp : Sp} {E : XK} {x : Str} {p : Pos} {t : TA} (F : FnG X.prog X.w X.K X.mg X.base k f fd ps sp) (hr : Room k X.A) (hgd : X.A.guards = some []) (hg : Gl X x) (hm : X.mg x = some (.ref f)) (hk : PySem.W.keepIn X.K (.ref f) = true) (hb : Binds X.K fd ps []) (ha : PA X (e :: es) t)
    (hdb : (x == ("__debug__" : Str)) = false) (he : starEach (e :: es) X.env = (false, eval e X.env) :: starEach es X.env) (hpl : (backTo pos (starEach es X.env)).any (·.1) = false) : PE X (.Call (.Name x p) (e :: es) [] pos) (tCall sp [] E t) :=
  ⟨fun pins s σ H Q I h => wpAny_Call_Name_kw (ld_glob I hg hm (PySem.W.callWith_K (h₀ := X.base) I.ok.mod.kin hk (thn (ha.run pos pins s σ H _ I h) fun us s1 ⟨vs, H1, I1, r, q⟩ => ⟨I1.kIn, run_fnG (E := E) F hr hgd hb I1 r (by have q2 : sp (vs ++ []) H1 Q E := q; rwa [List.append_nil] at q2)⟩) he hpl) hdb)⟩
theorem x_callG {f : Str} {Pre : OL → List Sl → Sl → Prop} {p : Pos} (g : GdG X.prog X.w X.K X.mg X.base k f n (spP X.K Pre)) (hr : Room k X.A) (hgd : X.A.guards = some []) (hp : Pre oc ss s) (h : EA X G own (e :: es) ss) (hs : ∀ R H, Ow own R H → Ow oc R H := by exact ow_nil) (hg : Gl X f := by rfl) (hdb : (f == ("__debug__" : Str)) = false := by decide)
    (he : starEach (e :: es) X.env = (false, eval e X.env) :: starEach es X.env := by rfl) (hpl : (backTo pos (starEach es X.env)).any (·.1) = false := by rfl) : EX X G own (.Call (.Name f p) (e :: es) [] pos) s := by
  obtain ⟨f, fd, ps, _, F, hm, hk, hb⟩ := g.ex
  exact EX.of (pe_callG (E := fun _ _ _ => True) F hr hgd hg hm hk hb pa_w hdb he hpl) (ev_call h (spP_use hp hs))
end
section
variable {P : Program} {w : World} {K : PySem.W.Frag} {mg : Str → Option Value} {base : Heap} {x qual : Str} {st : Stmt} {f : Addr} {fd : FuncData} {N ps : List Str} {k : Nat}
/-- data in, data out, from the body -/
theorem okGD {Pre : List Sl → Sl → Prop} (F : FunD K x qual (defArgs st) (defBody st) (defScope st) [] [] f fd) (S : FnScope N ps (defScope st)) (hl : ∀ ss s, Pre ss s → ss.length = ps.length)
    (hb : ∀ cd A outer s H0 E, Room k (A.deeper (envOfC qual (defScope st) s.heap.objs.size f cd)) → (A.deeper (envOfC qual (defScope st) s.heap.objs.size f cd)).guards = some [] → ∀ ss r B D, Pre ss r → B.F = [] → EndM K B (fun _ t => t = r) D → Go (bX P w K mg base N qual st f cd A outer s H0 E) B (startG N ss) [] D (defBody st)) :
    FnG P w K mg base (k + 1) f fd ps (spD K Pre) := by
  obtain ⟨oc, od, dV, kV, doc, pm, an, cdv, ct, osl, rfl, lk, hcd, _, _⟩ := F.ex
  refine fnG_of lk hcd S (fun vs H Q E h => ?_) fun A outer s H vs Q E hr hgd h => ?_
  · obtain ⟨R, oc, ss, C, hp, ow, ha, _⟩ := h
    rw [args_len ha]
    exact hl _ _ hp.2
  · obtain ⟨R, oc, ss, r, ⟨rfl, hp⟩, ow, ha, q⟩ := h
    refine ⟨_, PSs.nox pss_w, ?_⟩
    refine hb cdv A outer s H E hr hgd ss r ⟨R, H, []⟩ _ hp rfl ⟨fun o t v R' H' c p e => ?_, fun o z R' H' c p => ?_⟩ R H _ (Sep.start ow) (hold_start ha)
    · subst c
      exact q v R' H' p.toGrow e
    · exact q _ R' H' p.toGrow (by rw [← c]; exact slr_d .non)
theorem gdG_mk {sp : Sp} {n : Nat} (F : FunD K x qual (defArgs st) (defBody st) (defScope st) [] [] f fd) (hn : ps.length = n) (ok : FnG P w K mg base k f fd ps sp) (hm : mg x = some (.ref f))
    (hb : ∀ (kV doc pm : Value) (an : Option Addr) (cdv ct : Value) (us : List Value), us.length = ps.length → bindArgs (PySem.W.fnOf x qual (defArgs st) (defBody st) (defScope st) .none kV doc pm an cdv ct) ⟨us, []⟩ = pure (ps.zip us)) : GdG P w K mg base k x n sp := ⟨f, fd, ps, hn, ok, hm, F.kp, F.bindsN hb⟩
end
end CB

/-! Part 32: the law's end for a promise FnG. -/
namespace CB
open PySem PySem.Spec PyProof.Rows L2
/-- what the judge asks of a run that ends True -/
abbrev LawEnd (t : Shared) : Result → Shared → Prop := fun r t' => r = .ok (.ret (.bool true)) ∧ OldK t.heap t'.heap ∧ t'.os = t.os ∧ AllBare t'.gens
section
variable {P : Program} {w : World} {K : PySem.W.Frag} {mg mb : Str → Option Value} {k : Nat} {fa a : Addr} {fd : FuncData} {x : Str} {sp : Sp} {t : Shared} {us : List Value} {ns : List Int}
/-- the script alone may be tracked -/
theorem lawG_from (KX : K.In t.heap) (hns : t.heap.Ns mainGlobals mg) (hnb : t.heap.Ns builtinsNs mb) (hbb : ∀ y : Str, y ≠ "__name__" → mb y = bootBuiltins y) (hlim : t.heap.NoLimit) (hg : t.gens = #[]) (ha : t.heap.get? a = some { cls := .type "list", data := .seq us.toArray })
    (hr : Room k callerA) (F : ∀ base : Heap, K.In base → base.Ns mainGlobals mg → FnG P w K mg base k fa fd [x] sp) (hbind : ∀ (s : Shared) (u : Value), BindsTo s fd ⟨[u], []⟩ [(x, u)])
    (H : Hp) (hO : Only H) (hs : sp [.ref a] H (fun v _ => v = .bl true) fun _ _ _ => False) (hok : HOk P w H t.heap) (hA : ∀ b, H b ≠ none → b = a) (hK : H a ≠ none → K.lookup a = none) : codeAny (model P w) callerA (.call (.ref fa) ⟨[.ref a], []⟩) (LawEnd t) t := by
  have up : ∀ {b : Addr} {o : Obj}, t.heap.get? b = some o → H b = none → (hidT t.heap H).get? b = some o := fun z n => hidT_get z n
  have none_of : ∀ {b : Addr}, (∀ u, H b = some u → False) → H b = none := fun {b} z => by
    cases q : H b with
    | none => rfl
    | some u => exact (z u q).elim
  have isA : ∀ {b : Addr} {u : HO}, H b = some u → b = a := fun {b u} z => hA b (by rw [z]; exact nofun)
  have dicts : ∀ {b : Addr} {o : Obj} {es : Array DictEntry} {ep : Nat}, t.heap.get? b = some o → o.data = .dict es ep → H b = none := fun {b o es ep} e d => none_of fun u z => by
    obtain rfl := isA z
    have : o = { cls := .type "list", data := .seq us.toArray } := Option.some.inj (e.symm.trans ha)
    subst this
    exact Data.noConfusion d
  have spaces : ∀ {b : Addr} {m : Str → Option Value}, t.heap.Ns b m → (hidT t.heap H).Ns b m := fun ⟨o, es, ep, e, d, r⟩ => ⟨o, es, ep, up e (dicts e d), d, r⟩
  have kb : K.In (hidT t.heap H) := fun b o e => up (KX b o e) (none_of fun u z => by
    obtain rfl := isA z
    have := hK (by rw [z]; exact nofun)
    rw [this] at e
    cases e)
  have md : Mod K mg (hidT t.heap H) := ⟨kb, spaces hns, ⟨mb, spaces hnb, hbb⟩, hlim.imp fun mc z => ⟨spaces z.1, z.2⟩⟩
  have en : Env0 P w K mg (hidT t.heap H) callerA [] t H := ⟨rfl, md, fun b o e => of_hidT e, Nat.le_of_eq (hidT_size _ _), trivial, fun b hb => absurd hb List.not_mem_nil, hok, .of_eq hg⟩
  refine codeAny_mono ((F _ kb (spaces hns)).go callerA [] t H ⟨[.ref a], []⟩ [.ref a] [.ref a] _ _ hr rfl en (hbind t (.ref a)) (.cons rfl .nil) hs) fun r t' h => ?_
  match r, h with
  | .error _, h => exact h.elim
  | .ok .next, h => exact h.elim
  | .ok .brk, h => exact h.elim
  | .ok .cont, h => exact h.elim
  | .ok (.ret u), ⟨v, H', os, bare, un, hok', rv, q⟩ =>
    obtain rfl : v = .bl true := q
    obtain rfl : u = Value.bool true := rv
    have keep : ∀ (b : Addr) (o : Obj), t.heap.get? b = some o → t'.heap.get? b = some o := fun b o e => by
      rcases hO b with z | ⟨ob, xs, z⟩
      · exact un.keep b o e z (fun y => absurd y List.not_mem_nil) List.not_mem_nil
      · have z1 := (hok b _ z).1
        have z2 := (hok' b _ (un.frzs b ob _ z)).1
        rw [e] at z1
        cases z1
        exact z2
    exact ⟨rfl, OldK.of_keep keep, os, bare⟩
theorem lawG_call (KX : K.In t.heap) (hns : t.heap.Ns mainGlobals mg) (hnb : t.heap.Ns builtinsNs mb) (hbb : ∀ y : Str, y ≠ "__name__" → mb y = bootBuiltins y) (hlim : t.heap.NoLimit) (hg : t.gens = #[]) (ha : t.heap.get? a = some { cls := .type "list", data := .seq us.toArray })
    (hi : IntsAre us ns) (hz : ns.length ≤ sizeLine) (hr : Room k callerA) (F : ∀ base : Heap, K.In base → base.Ns mainGlobals mg → FnG P w K mg base k fa fd [x] sp) (hbind : ∀ (s : Shared) (u : Value), BindsTo s fd ⟨[u], []⟩ [(x, u)])
    (hs : ∀ H : Hp, Only H → SqL K H a (ns.map V.int) → sp [.ref a] H (fun v _ => v = .bl true) fun _ _ _ => False) : codeAny (model P w) callerA (.call (.ref fa) ⟨[.ref a], []⟩) (LawEnd t) t := by
  have rv := vals_ints hi
  have hn := hi.length
  have go := lawG_from (P := P) (w := w) KX hns hnb hbb hlim hg ha hr F hbind
  cases hk : K.lookup a with
  | some o =>
    obtain rfl : o = { cls := .type "list", data := .seq us.toArray } := Option.some.inj ((KX a o hk).symm.trans ha)
    have on : Only fun _ => none := fun _ => .inl rfl
    exact go (fun _ => none) on (hs _ on (.inr ⟨_, us.toArray, _, hk, rfl, rfl, rfl, by rw [List.size_toArray, hn]; exact hz, by simpa using rv⟩)) (fun b u z => nomatch z) (fun b z => absurd rfl z) fun z => absurd rfl z
  | none =>
    have on : Only fun b => if b = a then some (.frz { cls := .type "list", data := .seq us.toArray } (.lst (ns.map V.int))) else none := fun b => by
      by_cases hb : b = a
      · exact .inr ⟨_, _, if_pos hb⟩
      · exact .inl (if_neg hb)
    refine go _ on (hs _ on (.inl (.inr ⟨_, if_pos rfl⟩))) (fun b u z => ?_) (fun b z => ?_) fun _ => hk
    · have z : (if b = a then some (HO.frz { cls := .type "list", data := .seq us.toArray } (.lst (ns.map V.int))) else none) = some u := z
      by_cases hb : b = a
      · subst hb
        rw [if_pos rfl] at z
        obtain rfl := Option.some.inj z
        exact ⟨ha, by rw [List.length_map]; exact hz, us, _, rv, ha⟩
      · rw [if_neg hb] at z
        cases z
    · by_cases hb : b = a
      · exact hb
      · exact absurd (if_neg hb) z
end
/-- the goal that the head leaves -/
theorem walk_G {l : PySem.W.OpenLaw} {n k : Nat} {q : Program} {loose : List Str} {XP : (Str → Option Value) → Heap → Prop} {YP : World → Heap → Prop} {d : DefRec} {x : Str} (hn : l.most = some n) (hn2 : n ≤ sizeLine) (hdf : d.params.defaults = []) (hr : Room k callerA)
    (F : ∀ (w : World) (mg : Str → Option Value) (fa : Addr) (h : Heap), YP w h → h.Ns mainGlobals mg → mg d.name = some (.ref fa) → ∃ (K : PySem.W.Frag) (fd : FuncData) (sp : Sp), K.In h ∧ (∀ (s : Shared) (u : Value), BindsTo s fd ⟨[u], []⟩ [(x, u)]) ∧
      (∀ (H : Hp) (a : Addr) (ns : List Int), ns.length ≤ n → (∀ i ∈ ns, Builtin.Int.intBits i ≤ 1048576) → Only H → SqL K H a (ns.map V.int) → sp [.ref a] H (fun v _ => v = .bl true) fun _ _ _ => False) ∧ ∀ base : Heap, K.In base → base.Ns mainGlobals mg → FnG l.prog w K mg base k fa fd [x] sp) :
    PySem.W.WalkO q loose XP YP l.row.toRowW d [] (fun f vs => PySem.call f vs) := by
  refine Att.attach_callB hn hdf fun w _ t mg mb fa _ _ _ _ a us ns Z Y _ _ _ hm ha hi hl hbits hg => ?_
  obtain ⟨K, fd, sp, KX, hb, hs, hF⟩ := F w mg fa _ Y Z.T.g hm
  exact lawG_call KX Z.T.g Z.T.b Z.T.builtins Z.T.nolimit hg ha hi (Nat.le_trans hl hn2) hr hF hb fun H hO hS => hs H a ns hl hbits hO hS
end CB

/-! Part 33: the plain law: books that hold the same pages; a book and what stands of it at a day. -/
namespace CB
open PySem PySem.Spec PyProof.Rows L2
open PySem.W (keyToks keyToksAll)
/-- a book: in order, no page twice -/
structure Book (bk : List Page) : Prop where
  so : bk.Pairwise fun p q => Page.le p q = true
  nd : bk.Nodup
theorem sortP_sorted (l : List Page) : (Page.sortP l).Pairwise fun p q => Page.le p q = true := List.pairwise_mergeSort (fun a b c h1 h2 => Page.le_total.trans a b c h1 h2) (fun a b => by
  rcases Page.le_total.total a b with h | h
  · rw [h]; rfl
  · rw [h, Bool.or_true]) l
theorem inOrder_book (l : List Page) : Book (inOrder l) := ⟨sortP_sorted _, (List.mergeSort_perm _ _).nodup_iff.mpr (dedup_nd l [] List.nodup_nil)⟩
theorem inOrder_mem {l : List Page} {p : Page} : p ∈ inOrder l ↔ p ∈ l := by
  unfold inOrder Page.sortP
  rw [(List.mergeSort_perm _ _).mem_iff, dedup_mem]
  simp
theorem book_ext {a b : List Page} (ha : Book a) (hb : Book b) (h : ∀ p, p ∈ a ↔ p ∈ b) : a = b :=
  List.Perm.eq_of_pairwise (le := fun p q => Page.le p q = true) (fun p q _ _ h1 h2 => Page.le_antisymm h1 h2) ha.so hb.so ((List.perm_ext_iff_of_nodup ha.nd hb.nd).mpr h)
/-- the same pages in any order, any page any number of times -/
theorem inOrder_same {bk l : List Page} (hb : Book bk) (h : ∀ p, p ∈ l ↔ p ∈ bk) : inOrder l = bk := book_ext (inOrder_book l) hb fun p => inOrder_mem.trans (h p)
theorem inOrder_back {bk : List Page} (hb : Book bk) {p : Page} (hp : p ∈ bk) : inOrder (without bk p ++ [p]) = bk := inOrder_same hb fun q => by
  unfold without
  rw [List.mem_append, List.mem_filter, List.mem_singleton]
  constructor
  · rintro (h | rfl)
    · exact h.1
    · exact hp
  · intro h
    by_cases e : q = p
    · exact .inr e
    · exact .inl ⟨h, by simp [e]⟩
theorem upTo_twice (bk : List Page) (d : Int) : upTo (upTo bk d) d = upTo bk d := by
  unfold upTo
  rw [List.filter_filter]
  congr 1
  funext p
  rw [Bool.and_self]
theorem walk_upTo (bk : List Page) (t : Tm) (d : Int) : Wk.walk (upTo bk d) t d = Wk.walk bk t d := by
  unfold Wk.walk
  rw [upTo_twice]
theorem le_day {p q : Page} (h : Page.le p q = true) : p.day ≤ q.day := by
  have e1 : (!(listOrd itemOrd).blt (keyToks q.place.data) (keyToks p.place.data)) = true := h
  rw [Page.place_data, Page.place_data] at e1
  apply Classical.byContradiction
  intro hlt
  have hlt : q.day < p.day := Int.not_le.mp hlt
  have : (listOrd itemOrd).blt (keyToks (.tuple [.int q.day, .int (q.rank : Nat), .tuple q.rest])) (keyToks (.tuple [.int p.day, .int (p.rank : Nat), .tuple p.rest])) = true := by
    simp only [keyToks, keyToksAll, List.cons_append, List.nil_append]
    show PyProof.Rows.lexLt itemOrd _ _ = true
    simp [PyProof.Rows.lexLt, itemLt, hlt]
  rw [this] at e1
  exact absurd e1 (by decide)
theorem upTo_front : ∀ {bk : List Page} (h : bk.Pairwise fun p q => Page.le p q = true) (d : Int), ∃ r, bk = upTo bk d ++ r
  | [], _, _ => ⟨[], rfl⟩
  | p :: l, h, d => by
    have h2 := List.pairwise_cons.mp h
    unfold upTo
    by_cases e : p.day ≤ d
    · obtain ⟨r, hr⟩ := upTo_front h2.2 d
      refine ⟨r, ?_⟩
      rw [List.filter_cons_of_pos (by simpa using e), List.cons_append]
      congr 1
    · refine ⟨p :: l, ?_⟩
      rw [List.filter_eq_nil_iff.mpr]
      · rfl
      · intro q hq
        rcases List.mem_cons.mp hq with rfl | hq
        · simpa using e
        · have := le_day (h2.1 q hq)
          simp only [decide_eq_true_eq]
          omega
theorem ixOf_upTo {bk : List Page} (hb : Book bk) {d : Int} {p : Page} (hp : p ∈ upTo bk d) : ixOf (upTo bk d) p = ixOf bk p := by
  obtain ⟨r, hr⟩ := upTo_front hb.so d
  unfold ixOf
  have e : bk.idxOf p = (upTo bk d ++ r).idxOf p := by rw [← hr]
  rw [e, List.idxOf_append, if_pos hp]
theorem sort_congr {α : Type} {l : List α} {r s : α → α → Bool} (h : ∀ a ∈ l, ∀ b ∈ l, r a b = s a b) : l.mergeSort r = l.mergeSort s := by
  have := List.map_mergeSort (f := id) (r := r) (s := s) (l := l) (fun a ha b hb => h a ha b hb)
  simpa using this
end CB

/-! Part 34: the plain law: what stays true in a walk, with no program in sight. -/
namespace CB
open PySem PySem.Spec PyProof.Rows L2
section
variable {NS : List Str} {PS : List Page} {n : Nat} {s : Wk} {ml : Ml}
theorem mo_len (h : WV NS PS n s ml) : ∀ q ∈ s.mo, q.2.length ≤ n := fun q hq => by
  have h1 : (q.1, ivsD q.2) ∈ s.mo.map fun q => (q.1, ivsD q.2) := List.mem_map_of_mem hq
  rw [← show ml.map (fun q => (q.1, q.2.2)) = s.mo.map fun q => (q.1, ivsD q.2) from h.mor] at h1
  obtain ⟨r, hr, e⟩ := List.mem_map.mp h1
  have h2 := h.ll r hr
  have e2 : r.2.2 = ivsD q.2 := (Prod.mk.inj e).2
  rw [e2] at h2
  unfold ivsD at h2
  rwa [List.length_map] at h2
theorem wv_mourn0 (h : WV NS PS n s ml) (x : Str) (iv : Int × Int) : ∃ ml', WV NS PS (n + 1) (s.mourn x iv) ml' := by
  refine ⟨(s.mourn x iv).mo.map fun q => (q.1, 0, ivsD q.2), wv_mourn h x iv ?_ fun q hq => ?_⟩
  · unfold MoR
    rw [List.map_map]
    rfl
  · obtain ⟨r, hr, rfl⟩ := List.mem_map.mp hq
    show (ivsD r.2).length ≤ n + 1
    unfold ivsD
    rw [List.length_map]
    have hr : r ∈ aPut s.mo x (((aGet s.mo x).getD []) ++ [iv]) := hr
    rcases aPut_mem hr with z | z
    · exact Nat.le_succ_of_le (mo_len h r z)
    · rw [z.2, List.length_append]
      refine Nat.succ_le_succ ?_
      cases e : aGet s.mo x with
      | none => exact Nat.zero_le _
      | some v => exact mo_len h _ (aGet_some_mem e)
theorem wv_put {p : Page} (e : En NS PS) (h : WV NS PS n s ml) (hp : p ∈ PS) : ∃ ml', WV NS PS (n + 1) (s.put p).1 ml' := by
  have hn := e.pn p hp
  unfold Wk.put
  split
  · exact ⟨ml, h.mono⟩
  · cases p with
    | card d a b => exact ⟨ml, wv_go e h (hn a (by simp [Page.names])) (hn b (by simp [Page.names])) hp (.card d a b)⟩
    | visit d a b => exact ⟨ml, wv_go e h (hn a (by simp [Page.names])) (hn b (by simp [Page.names])) hp (.visit d a b)⟩
    | part d a b v => exact ⟨ml, wv_homes (wv_part h (hn b (by simp [Page.names]))) b v⟩
    | join d a b => exact ⟨ml, (wv_join h (hn a (by simp [Page.names]))).mono⟩
    | house d a v => exact ⟨ml, wv_homes h a v⟩
    | home d a v => exact ⟨ml, wv_homes h a v⟩
    | mourn d a k => exact wv_mourn0 h a _
    | ahead d a b => exact ⟨ml, h.mono⟩
theorem wv_mark {p : Page} (e : En NS PS) (h : WV NS PS n s ml) (hp : p ∈ PS) : ∃ ml', WV NS PS (n + 1) (s.mark p) ml' := by
  obtain ⟨ml', hv⟩ := wv_put e h hp
  refine ⟨ml', hv.mor, hv.nd, hv.fk, hv.lh, hv.lm, hv.ll, hv.ls, ?_, hv.la, hv.fl, hv.sg, hv.an, hv.mn⟩
  show (s.marks ++ [_]).length ≤ n + 1
  rw [List.length_append]
  exact Nat.succ_le_succ h.lk
theorem wv_day (e : En NS PS) (day : Int) : ∀ (l : List Page) (n : Nat) (s : Wk) (ml : Ml), WV NS PS n s ml → (∀ p ∈ l, p ∈ PS) → ∃ n' ml', WV NS PS n' (Wk.dayPages day l s).2 ml' ∧ n' + (Wk.dayPages day l s).1.length = n + l.length ∧ ∀ p ∈ (Wk.dayPages day l s).1, p ∈ PS
  | [], n, s, ml, h, hl => ⟨n, ml, h, rfl, hl⟩
  | p :: l, n, s, ml, h, hl => by
    unfold Wk.dayPages
    by_cases c : p.day = day
    · rw [if_pos c]
      obtain ⟨ml1, h1⟩ := wv_mark e h (hl p List.mem_cons_self)
      obtain ⟨n2, ml2, h2, h3, h4⟩ := wv_day e day l (n + 1) _ ml1 h1 fun q hq => hl q (List.mem_cons_of_mem _ hq)
      exact ⟨n2, ml2, h2, by rw [h3, List.length_cons]; omega, h4⟩
    · rw [if_neg c]
      exact ⟨n, ml, h, rfl, hl⟩
theorem wv_days {t : Tm} (e : En NS PS) (ht : t.1 ≤ 100 ∧ t.2 ≤ 100) : ∀ (ds : List Int) (l : List Page) (n : Nat) (s : Wk) (ml : Ml), (∀ d ∈ ds, d.natAbs < 1000000) → WV NS PS n s ml → (∀ p ∈ l, p ∈ PS) → ∃ n' ml', WV NS PS n' (ds.foldl (Wk.day1 t) (l, s)).2 ml' ∧ n' ≤ n + l.length
  | [], l, n, s, ml, _, h, _ => ⟨n, ml, h, Nat.le_add_right _ _⟩
  | d :: ds, l, n, s, ml, hd, h, hl => by
    obtain ⟨n1, ml1, h1, h2, h3⟩ := wv_day e d l n s ml h hl
    obtain ⟨n2, ml2, h4, h5⟩ := wv_days e ht ds (Wk.dayPages d l s).1 n1 ((Wk.dayPages d l s).2.fall t d) ml1 (fun x hx => hd x (List.mem_cons_of_mem _ hx)) (wv_fall h1 ht (hd d List.mem_cons_self)) h3
    rw [List.foldl_cons]
    exact ⟨n2, ml2, h4, by omega⟩
theorem wv_empty (NS : List Str) (PS l : List Page) : WV NS PS 0 { Wk.empty with lost := l } [] := ⟨rfl, List.nodup_nil, (fun d h => nomatch h), Nat.zero_le _, Nat.zero_le _, (fun q h => nomatch h), Nat.zero_le _, Nat.zero_le _, Nat.zero_le _, (fun q h => nomatch h), (fun q h => nomatch h), (fun q h => nomatch h), List.nodup_nil⟩
end
/-- a walk, over the pages that are up to its day -/
theorem wv_walk {NS : List Str} {bk : List Page} {t : Tm} {last : Int} (g : WG NS bk t last) : ∃ n ml, WV NS (upTo bk last) n (Wk.walk bk t last) ml ∧ n ≤ 40 := by
  have hm : ∀ p ∈ upTo bk last, p ∈ bk := fun p => upTo_mem
  have hlen : (upTo bk last).length ≤ bk.length := List.length_filter_le _ _
  have e : En NS (upTo bk last) := ⟨g.en.hn, Nat.le_trans hlen g.en.hp, g.en.nok, fun p hp => g.en.pn p (hm p hp)⟩
  have hf : (Wk.first (upTo bk last) last).natAbs ≤ 900000 := by
    unfold Wk.first
    split
    · have := g.la; omega
    · rename_i p l hl
      have := g.dy p (hm p (by rw [hl]; exact List.mem_cons_self))
      omega
  unfold Wk.walk
  obtain ⟨n, ml, h1, h2⟩ := wv_days e g.tm (Wk.days (Wk.first (upTo bk last) last) (last + 1 - Wk.first (upTo bk last) last).toNat) (upTo bk last) 0 _ [] (fun d hd => by
    unfold Wk.days at hd
    obtain ⟨i, hi, rfl⟩ := List.mem_map.mp hd
    have h3 := List.mem_range.mp hi
    have h4 := g.la
    omega) (wv_empty NS _ (dedup [] (Hs.run (upTo bk last)).idle)) fun p hp => hp
  exact ⟨n, ml, h1, by have := e.hp; omega⟩
end CB

/-! Part 35: the plain law: what is asked of a book at a day is what is asked of the book up to that day. -/
namespace CB
open PySem PySem.Spec PyProof.Rows L2
section
variable {NS : List Str} {bk : List Page} {t : Tm} {day : Int}
theorem WG.up (g : WG NS bk t day) : WG NS (upTo bk day) t day :=
  ⟨⟨g.en.hn, Nat.le_trans (List.length_filter_le _ _) g.en.hp, g.en.nok, fun p hp => g.en.pn p (upTo_mem hp)⟩, g.nd.sublist List.filter_sublist, g.tm, g.la, fun p hp => g.dy p (upTo_mem hp)⟩
theorem told_upTo (hb : Book bk) (g : WG NS bk t day) : told (upTo bk day) (Wk.walk bk t day) = told bk (Wk.walk bk t day) := by
  obtain ⟨n, ml, h, _⟩ := wv_walk g
  unfold told sortD
  rw [sort_congr (s := dueLe bk) fun a ha b hb2 => ?_]
  unfold dueLe PySem.W.dataLe PySem.W.sortLe rowD
  rw [ixOf_upTo hb (h.fk a ha).2.2.1, ixOf_upTo hb (h.fk b hb2).2.2.1]
theorem dues_upTo (hb : Book bk) (g : WG NS bk t day) : duesOf (upTo bk day) t day = duesOf bk t day := by
  unfold duesOf
  rw [walk_upTo, told_upTo hb g]
theorem answered_upTo (hb : Book bk) (g : WG NS bk t day) : answeredOf (upTo bk day) (Wk.walk bk t day) = answeredOf bk (Wk.walk bk t day) := by
  obtain ⟨n, ml, h, _⟩ := wv_walk g
  unfold answeredOf
  refine List.map_congr_left fun q hq => ?_
  rw [sort_congr (s := ansLe bk) fun a ha b hb2 => ?_]
  have h1 := ((h.an q hq).2.2 a ha).2.2.1
  have h2 := ((h.an q hq).2.2 b hb2).2.2.1
  unfold ansLe PySem.W.dataLe PySem.W.sortLe ansRow
  rw [ixOf_upTo hb h1, ixOf_upTo hb h2]
theorem lasts_upTo (hb : Book bk) (g : WG NS bk t day) : withLasts (upTo bk day) t day = withLasts bk t day := by
  unfold withLasts lrows
  rw [walk_upTo, dues_upTo hb g]
theorem dues_len (g : WG NS bk t day) : (duesOf bk t day).length ≤ 3240 := by
  obtain ⟨n, ml, h, _⟩ := wv_walk g
  have h2 := h.lf g.up.en
  have h3 : (duesOf bk t day).length = (Wk.walk bk t day).falls.length := by
    unfold duesOf told sortD Wk.keys
    rw [List.length_map, List.length_mergeSort, List.length_map]
  omega
theorem dues_ok (g : WG NS bk t day) : ∀ q ∈ duesOf bk t day, Dok NS bk q.1 := fun q hq => by
  obtain ⟨n, ml, h, _⟩ := wv_walk g
  unfold duesOf told at hq
  obtain ⟨d, hd, rfl⟩ := List.mem_map.mp hq
  have := h.gg (sortD_mem.mp hd)
  exact ⟨this.1, this.2.1, upTo_mem this.2.2.1, this.2.2.2⟩
/-- all that the law asks -/
def allD (bk : List Page) (t : Tm) (day far : Int) : List PyData :=
  [.list ((duesOf bk t day).map toldD), .list ((Wk.walk bk t day).marks.map markD), sumsD (Wk.walk bk t day), .list ((mattersOf (duesOf bk t day)).map matD)] ++
    [.list ((answeredOf bk (Wk.walk bk t day)).map answD), .list ((rudeP (duesOf bk t day) t).map rudeD), .list ((rudeP (duesOf bk t day) t).map paperD)] ++ [firstD bk t day] ++
      ((standingOf (Hs.run (upTo bk day))).take 2).map fun q => .list ((soonOf bk t day q.1 far).map pairD)
theorem all_upTo (hb : Book bk) (g : WG NS bk t day) (far : Int) : allD (upTo bk day) t day far = allD bk t day far := by
  have e1 : ∀ n, soonOf (upTo bk day) t day n far = soonOf bk t day n far := fun n => by
    unfold soonOf
    rw [lasts_upTo hb g]
  have e2 : firstD (upTo bk day) t day = firstD bk t day := by
    unfold firstD
    rw [lasts_upTo hb g]
  unfold allD
  rw [dues_upTo hb g, walk_upTo, answered_upTo hb g, e2, upTo_twice]
  congr 1
  exact List.map_congr_left fun q _ => by rw [e1]
end
end CB

/-! Part 36: list + list. -/
namespace CB
open PySem PySem.Spec PyProof.Rows L2
/-- two lists, of whatever standing, give a new one -/
def rCatL (K : PySem.W.Frag) : R2 := fun x y H Q => ∃ l b xs zs, x = .ref l ∧ y = .ref b ∧ SqL K H l xs ∧ SqL K H b zs ∧ xs.length + zs.length ≤ sizeLine ∧ ∀ p, H p = none → Q (.ref p) (upd H p (.lst (xs ++ zs)))
theorem op_catL {X : Cx} : OpR X (binaryOp .Add) (rCatL X.K) := by
  intro pins s σ H x y v u Q I rx ry h
  obtain ⟨l, b, xs, zs, rfl, rfl, hl, hb, hz, q⟩ := h
  cases rx
  cases ry
  obtain ⟨us, r1, ⟨⟨c1, d1, a1, l1⟩, n1, e1, t1, _, u1⟩, _⟩ := I.list hl
  obtain ⟨ws, r2, ⟨⟨c2, d2, a2, l2⟩, n2, e2, t2, _, u2⟩, _⟩ := I.list hb
  simp only at t1 u1 t2 u2
  subst t1 u1 t2 u2
  have z1 := r1.length
  have z2 := r2.length
  refine concat_meets ⟨_, e1, rfl⟩ ⟨_, e2, rfl⟩ noFill_list_add seq_list_add PySem.F.slot_list_add PySem.F.entry_list_add (PySem.F.args_list_add_2 _ _) (list_addW l b us.toArray ws.toArray n1 n2 d1 d2 l1 l2 (by rw [List.size_toArray, List.size_toArray]; omega)) ⟨e1, e2, ?_⟩
  rw [show us.toArray ++ ws.toArray = (us ++ ws).toArray by simp]
  exact ⟨.ref _, _, I.lnew (t' := s.toks) (r1.append r2) (by rw [List.length_append]; omega), rfl, q _ I.fresh⟩
section
variable {X : Cx} {G : List Sl} {own : OL} {a b : Expr} {pos : Pos}
/-- the new list is owned -/
theorem m_catO {C : OL → Sl → Prop} {C' : OL → Sl → OL → Sl → Prop} {D : OL → Sl → Prop} (ha : EM X G own a C) (hb : ∀ o x, C o x → EM X G o b (C' o x))
    (hr : ∀ o x o' y, C o x → C' o x o' y → ∃ (ds es : List PyData), (x = .d (.list ds) ∨ ∃ (p : Addr) (i : Nat), x = .v (.ref p) ∧ o'[i]? = some (p, asL X.K ds)) ∧ (y = .d (.list es) ∨ ∃ (p : Addr) (i : Nat), y = .v (.ref p) ∧ o'[i]? = some (p, asL X.K es)) ∧ ds.length + es.length ≤ 1000000 ∧ ∀ r, D ((r, asL X.K (ds ++ es)) :: o') (.v (.ref r))) :
    EM X G own (.BinOp a .Add b pos) D := EM.of (pe_op op_catL pe_w pe_w) fun R H z w hz Q q => ha R H z w hz _ fun o x u R1 H1 c1 p1 e1 => hb o x c1 R1 H1 z p1.ow (hold_up p1.rr hz) _ fun o' y v R2 H2 c2 p2 e2 => by
  obtain ⟨ds, es, hx, hy, hlen, hd⟩ := hr o x o' y c1 c2
  have key : ∀ (x : Sl) (u : V) (ds : List PyData), SlR X.K R2 x (some u) → (x = .d (.list ds) ∨ ∃ (p : Addr) (i : Nat), x = .v (.ref p) ∧ o'[i]? = some (p, asL X.K ds)) → ∃ l xs, u = .ref l ∧ SqL X.K H2 l xs ∧ DpAll X.K R2 xs ds := fun x u ds hu h => by
    rcases h with rfl | ⟨p, i, rfl, hi⟩
    · obtain ⟨l, xs, rfl, h2, h3⟩ := dp_lst (d_slr hu)
      exact ⟨l, xs, rfl, sql_up p2.ow.rh h2, h3⟩
    · obtain rfl := v_slr hu
      obtain ⟨_, ob, h1, xs, rfl, h2⟩ := p2.ow.get hi
      exact ⟨p, xs, rfl, SqL.of h1, h2⟩
  obtain ⟨l, xs, rfl, h1, h2⟩ := key x u ds (slr_up p2.rr e1) hx
  obtain ⟨m, ys, rfl, h3, h4⟩ := key y v es e2 hy
  have n1 := dps_len h2
  have n2 := dps_len h4
  refine ⟨l, m, xs, ys, rfl, rfl, h1, h3, Nat.le_trans (by rw [n1, n2]; exact hlen) (by decide), fun p hp => ?_⟩
  have h5 : DpAll X.K R2 (xs ++ ys) (ds ++ es) := dps_app h2 h4
  exact q _ _ _ _ _ (hd p) ((sep_trans p1 p2).new (A := asL X.K (ds ++ es)) hp ⟨xs ++ ys, rfl, h5⟩) rfl
end
end CB

/-! Part 37: _law_all. -/
namespace CB
open PySem PySem.Spec PyProof.Rows L2
theorem cut_two {α : Type} (xs : List α) : cutA xs none (some 2) = xs.take 2 := by
  match xs with
  | [] => rfl
  | [_] => rfl
  | a :: b :: l =>
    unfold cutA HT.sIx
    simp
theorem standing_get {s : Hs} {q : Str × List Int} (h : q ∈ standingOf s) : aGet s.homes q.1 = some q.2 := by
  unfold standingOf at h
  obtain ⟨n, hn, rfl⟩ := List.mem_map.mp h
  have h1 : n ∈ s.homes.map (·.1) := by
    first
      | exact List.mem_mergeSort.mp hn
      | exact (sortS_mem.mp hn)
  obtain ⟨v, hv⟩ := some_of (aGet_mem.mp h1)
  rw [hv]
  rfl
/-- what is asked fits in a text -/
structure Small (l : List PyData) : Prop where
  sh : (PyData.list l).showable = true
  nd : (PyData.list l).hasDict = false
  dp : (PyData.list l).depth ≤ 16
  sz : (PyData.list l).shown.length ≤ sizeLine
section
variable {P : Program} {w : World} {K : PySem.W.Frag} {mg : Str → Option Value} {base : Heap}
theorem sc_law_all : FnScope ["_law_book_here", "_law_terms", "_law_day", "_law_far", "_law_found", "_law_name", "_law_home_here"] ["_law_book_here", "_law_terms", "_law_day", "_law_far"] (defScope s_law_all) := ⟨rfl, rfl, rfl, by decide +kernel, rfl, by decide +kernel, by decide +kernel⟩
theorem g_law_all (T : Tx K mg) : GdG P w K mg base 11 "_law_all" 4 (spD K fun ss r => ∃ NS bk t day far, WG NS bk t day ∧ (1 ≤ t.1 ∧ 1 ≤ t.2) ∧ Small (allD bk t day far) ∧ ss = [.d (.tuple (bk.map Page.enc)), .d (tmD t), .d (.int day), .d (.int far)] ∧ r = .d (.str (PyData.list (allD bk t day far)).shown)) := by
  obtain ⟨fd, F⟩ := T.fun_law_all
  refine gdG_mk F rfl (okGD (k := 10) F sc_law_all (fun _ _ ⟨_, _, _, _, _, _, _, _, e, _⟩ => by rw [e]; rfl) ?_) T.glo_law_all fun _ _ _ _ _ _ us hl => match us, hl with | [_, _, _, _], _ => rfl
  rintro cd A outer s0 H0 E hr hgd ss r B D ⟨NS, bk, t, day, far, hg, ht, hsm, rfl, rfl⟩ hF hD
  have hp := hg.en.hp
  have hdl := dues_len hg
  let base3 : List Sl := askS bk t day
  let l1 : List PyData := [.list ((duesOf bk t day).map toldD), .list ((Wk.walk bk t day).marks.map markD), sumsD (Wk.walk bk t day), .list ((mattersOf (duesOf bk t day)).map matD)]
  let l2 : List PyData := [.list ((answeredOf bk (Wk.walk bk t day)).map answD), .list ((rudeP (duesOf bk t day) t).map rudeD), .list ((rudeP (duesOf bk t day) t).map paperD)]
  let st : List (Str × List Int) := (standingOf (Hs.run (upTo bk day))).take 2
  let so : Str × List Int → PyData := fun q => .list ((soonOf bk t day q.1 far).map pairD)
  refine g_setM sc_law_all.nd 4 (C := fun o r => ∃ f, o = [(f, asL K l1)] ∧ r = .v (.ref f)) (m_lstO (C := fun o ss => o = [] ∧ ss = l1.map Sl.d) (ma_x (a_cons (x_call (oc := []) (g_dues T) (hr.mono (by decide)) ⟨rfl, NS, bk, t, day, hg, rfl, rfl⟩ (a_cons (x_var 0) (a_cons (x_var 1) (a_cons (x_var 2) a_nil))))
    (a_cons (x_call (oc := []) (g_marks T) (hr.mono (by decide)) ⟨rfl, NS, bk, t, day, hg, rfl, rfl⟩ (a_cons (x_var 0) (a_cons (x_var 1) (a_cons (x_var 2) a_nil))))
      (a_cons (x_call (oc := []) (g_sums T) (hr.mono (by decide)) ⟨rfl, NS, bk, t, day, hg, rfl, rfl⟩ (a_cons (x_var 0) (a_cons (x_var 1) (a_cons (x_var 2) a_nil))))
        (a_cons (x_call (oc := []) (g_matters T) (hr.mono (by decide)) ⟨rfl, NS, bk, t, day, hg, hdl, rfl, rfl⟩ (a_cons (x_var 0) (a_cons (x_var 1) (a_cons (x_var 2) a_nil)))) a_nil))))) fun o ss p ⟨eo, es⟩ => ⟨l1, es, Nat.le_of_ble_eq_true rfl, p, by rw [eo]; rfl, rfl⟩) ?_
  rintro o r ⟨f, rfl, rfl⟩
  refine g_setM sc_law_all.nd 4 (C := fun o r => ∃ g, o = [(g, asL K (l1 ++ l2)), (f, asL K l1)] ∧ r = .v (.ref g)) (m_catO (C := Is [(f, asL K l1)] (.v (.ref f))) (C' := fun _ _ => Is [(f, asL K l1)] (.d (.list l2))) (m_x (x_var 4)) (fun o x ⟨eo, ex⟩ => by
    subst eo
    exact m_x (x_lst (ds := l2) (a_cons (x_call (oc := []) (g_answered T) (hr.mono (by decide)) ⟨rfl, NS, bk, t, day, hg, rfl, rfl⟩ (a_cons (x_var 0) (a_cons (x_var 1) (a_cons (x_var 2) a_nil))))
      (a_cons (x_call (oc := []) (g_rude T) hr ⟨rfl, NS, bk, t, day, hg, ht, hdl, rfl, rfl⟩ (a_cons (x_var 0) (a_cons (x_var 1) (a_cons (x_var 2) a_nil))))
        (a_cons (x_call (oc := []) (g_rude_papers T) (hr.mono (by decide)) ⟨rfl, NS, bk, t, day, hg, hdl, rfl, rfl⟩ (a_cons (x_var 0) (a_cons (x_var 1) (a_cons (x_var 2) a_nil)))) a_nil))))) ?_) ?_
  · rintro o x o' y ⟨rfl, rfl⟩ ⟨rfl, rfl⟩
    exact ⟨l1, l2, .inr ⟨f, 0, rfl, rfl⟩, .inl rfl, Nat.le_of_ble_eq_true rfl, fun r => ⟨r, rfl, rfl⟩⟩
  rintro o r ⟨g, rfl, rfl⟩
  let l3 : List PyData := l1 ++ l2 ++ [firstD bk t day]
  refine g_expr (m_append (Dd := fun o r => o = [(g, asL K l3), (f, asL K l1)]) (m_x (x_var 4)) ?_) ?_
  · rintro o1 s1 ⟨rfl, rfl⟩
    refine ⟨g, 0, _, rfl, rfl, _, m_x (x_call (oc := []) (g_first_rude T) (hr.mono (by decide)) ⟨rfl, NS, bk, t, day, hg, dues_ok hg, rfl, rfl⟩ (a_cons (x_var 0) (a_cons (x_var 1) (a_cons (x_var 2) a_nil)))), ?_⟩
    rintro o2 s2 ⟨rfl, rfl⟩
    exact ⟨0, _, _, rfl, rfl, Nat.le_of_ble_eq_true rfl, rfl⟩
  rintro o r rfl
  refine g_for (g := gTup K 2 (gCons (gName 5) (gCons (gName 6) gNil))) (C := fun o xs V => o = [(g, asL K l3), (f, asL K l1)] ∧ xs = st.map standD ∧ V = Ever) (src_m (src_list (x_slL (x_call (oc := []) (g_standing T) (hr.mono (by decide)) ⟨rfl, bk, day, rfl, by omega, rfl⟩ (a_cons (x_var 0) (a_cons (x_var 2) a_nil))) o_none (o_some x_int) (by rw [cut_two, ← List.map_take])))) (pg_tup rfl (pgs_cons (pg_name (i := 5) sc_law_all.nd rfl (.inl rfl)) (pgs_cons (pg_name (i := 6) sc_law_all.nd rfl (.inl rfl)) pgs_nil))) ?_
  rintro o xs V ⟨rfl, rfl, rfl⟩
  refine ⟨fun i G1 o1 => ∃ u1 u2, G1 = [.d (.tuple (bk.map Page.enc)), .d (tmD t), .d (.int day), .d (.int far), .v (.ref g), u1, u2] ∧ o1 = [(g, asL K (l3 ++ (st.take i).map so)), (f, asL K l1)], ⟨_, _, rfl, by simp⟩, fun _ _ _ _ _ _ _ => trivial, ?_, ?_⟩
  · rintro i x G1 o1 B1 D1 hx ⟨u1, u2, rfl, rfl⟩ hB hF1 hD1 _
    rw [List.getElem?_map] at hx
    cases hq : st[i]? with
    | none => rw [hq] at hx; cases hx
    | some q =>
      rw [hq] at hx
      cases hx
      have hmem : q ∈ standingOf (Hs.run (upTo bk day)) := List.mem_of_mem_take (List.mem_of_getElem? hq)
      have hst : st.length ≤ 2 := List.length_take_le _ _
      refine ⟨_, gd_tup (xs := [.str q.1, intsD q.2]) (gds_cons gd_name (gds_cons gd_name gds_nil)) rfl, ?_⟩
      refine g_expr (m_append (Dd := fun o r => o = [(g, asL K (l3 ++ (st.take (i + 1)).map so)), (f, asL K l1)]) (m_x (x_var 4)) ?_) ?_
      · rintro o1 s1 ⟨rfl, rfl⟩
        refine ⟨g, 0, _, rfl, rfl, _, m_x (x_call (oc := []) (g_soon T) (hr.mono (by decide)) ⟨rfl, NS, bk, t, day, q.1, far, q.2, hg, hdl, standing_get hmem, rfl, rfl⟩ (a_cons (x_var 0) (a_cons (x_var 1) (a_cons (x_var 2) (a_cons (x_var 5) (a_cons (x_var 3) a_nil)))))), ?_⟩
        rintro o2 s2 ⟨rfl, rfl⟩
        refine ⟨0, _, _, rfl, rfl, ?_, ?_⟩
        · rw [List.length_append, List.length_map, List.length_take]
          have : l3.length = 8 := rfl
          omega
        · rw [List.take_add_one, hq, List.map_append, ← List.append_assoc]
          rfl
      · rintro o r rfl
        exact at_le hD1 ⟨.d (.str q.1), .d (intsD q.2), rfl, rfl⟩ (gle_refl _)
  · rintro G1 o1 ⟨u1, u2, rfl, rfl⟩
    rw [List.length_map, List.take_length]
    have e : l3 ++ st.map so = allD bk t day far := rfl
    rw [e]
    refine g_ret (x_cb (call_repr hgd hr.units) T.free_repr (rc_show (i := 0) rfl hsm.sh hsm.nd hsm.dp hsm.sz) (a_cons (x_var 4) a_nil)) fun v R H p e => hD.1 _ _ v R H rfl p e
end
end CB

/-! Part 38: a dict written out with text keys. -/
namespace CB
open PySem PySem.Spec PyProof.Rows L2
def prT (X : Cx) : List (Option Expr) → List Expr → List (TE × TE)
  | some k :: ks, v :: vs => (eW X k, eW X v) :: prT X ks vs
  | _, _ => []
/-- the pairs of a written dict, nothing turned -/
def EP2 (X : Cx) (G : List Sl) (own : OL) (pos : Pos) (keys : List (Option Expr)) (vals : List Expr) (kvs : List (Str × Sl)) : Prop :=
  PPs X pos keys vals (prT X keys vals) ∧ ∀ R H z, Ow own R H → Hold X.K R G z → ∀ Q : List (V × V) → Hp → Prop, (∀ vs R' H', Grow R H R' H' → TxR X.K R' kvs vs → Q (vs.map fun kv => (kV kv.1, kv.2)) H') → tPairs (prT X keys vals) z H Q
section
variable {X : Cx} {G : List Sl} {own : OL} {pos : Pos}
theorem p2_nil : EP2 X G own pos [] [] [] := ⟨pps_nil, fun R H z w hz Q q => q [] R H (Grow.refl w.rh) .nil⟩
theorem p2_cons {k v : Expr} {ks : List (Option Expr)} {vs : List Expr} {n : Str} {s : Sl} {kvs : List (Str × Sl)} (hk : EX X G own k (.d (.str n))) (hv : EX X G own v s) (h : EP2 X G own pos ks vs kvs) : EP2 X G own pos (some k :: ks) (v :: vs) ((n, s) :: kvs) := by
  obtain ⟨h1, h2⟩ := h
  refine ⟨pps_cons (tk := eW X k) (tv := eW X v) pe_w pe_w h1, fun R H z w hz Q q => ?_⟩
  refine hk R H z w hz _ fun u R1 H1 g1 e1 => hv R1 H1 z (w.grow g1) (hold_up g1.rr hz) _ fun y R2 H2 g2 e2 => ?_
  refine h2 R2 H2 z ((w.grow g1).grow g2) (hold_up g2.rr (hold_up g1.rr hz)) _ fun ws R3 H3 g3 t3 => ?_
  have e0 := dp_str (d_slr e1)
  rw [e0]
  exact q ((Sum.inr n, y) :: ws) R3 H3 ((g1.trans g2).trans g3) (.cons ⟨rfl, slr_up g3.rr e2⟩ t3)
theorem tx_merge {K : PySem.W.Frag} {R : Hp} : ∀ {kvs acc : List (Str × Sl)} {vs bs : List (Key × V)}, TxR K R kvs vs → TxR K R acc bs → TxR K R (kvs.foldl (fun a q => aPut a q.1 q.2) acc) (mergeK bs vs)
  | _, _, _, _, .nil, h => h
  | q :: kvs, acc, x :: vs, bs, .cons h0 t, h => by
    have e := tx_put h q.1 h0.2
    have z := tx_merge (kvs := kvs) t e
    show TxR K R _ (mergeK (putK bs x.1 x.2) vs)
    rw [h0.1]
    exact z
theorem m_disp {keys : List (Option Expr)} {vals : List Expr} {kvs : List (Str × Sl)} (h : ∀ p, EP2 X G ((p, asT X.K []) :: own) pos keys vals kvs) (hn : kvs.foldl (fun a q => aPut a q.1 q.2) [] = kvs) (hk : kvs.length ≤ 15) (hall : keys.all (·.isSome) = true := by rfl) (hl : keys.length = vals.length := by rfl) (h0 : keys ≠ [] := by exact List.cons_ne_nil _ _) (h15 : keys.length ≤ 15 := by decide) :
    EM X G own (.Dict keys vals pos) fun o t => ∃ p, o = (p, asT X.K kvs) :: own ∧ t = .v (.ref p) := by
  intro R H z w hz Q q
  refine pe_le (pe_disp (h 0).1 hall hl h0 h15) fun p hp => ?_
  have s1 := (Sep.start w).new (A := asT X.K []) hp ⟨[], rfl, .nil⟩
  refine (h p).2 R _ z s1.ow hz _ fun vs R1 H1 g1 t1 => ?_
  have s2 := s1.grow g1
  obtain ⟨_, ob, h2, ws, rfl, h3⟩ := s2.ow.get (i := 0) rfl
  have e0 : ws = [] := by cases h3; rfl
  subst e0
  have t2 := tx_merge t1 (.nil : TxR X.K R1 [] [])
  rw [hn] at t2
  refine ⟨h2, vs, rfl, by rw [tx_len t1]; exact hk, ?_⟩
  exact q _ _ _ _ _ ⟨p, rfl, rfl⟩ (s2.put (i := 0) (A' := asT X.K kvs) rfl ⟨_, rfl, t2⟩) rfl
end
end CB

/-! Part 39: _law_feed, _law_draw. -/
namespace CB
open PySem PySem.Spec PyProof.Rows L2
/-- a feed: its cells, where it stands, what is left of a cell, how many were drawn -/
structure Feed where
  cells : List Int
  at_ : Int
  left : Int
  turn : Int
def feedT (f : Feed) : List (Str × Sl) := [("cells", .d (.list (f.cells.map PyData.int))), ("at", .d (.int f.at_)), ("left", .d (.int f.left)), ("turn", .d (.int f.turn))]
theorem cut_front {α : Type} (xs : List α) (n : Nat) : cutA xs none (some (n : Int)) = xs.take n := by
  unfold cutA
  rw [HT.sIx_nat]
  show (xs.drop 0).take (min n xs.length - 0) = _
  rw [List.drop_zero, Nat.sub_zero]
  by_cases h : n ≤ xs.length
  · rw [Nat.min_eq_left h]
  · rw [Nat.min_eq_right (by omega), List.take_length, List.take_of_length_le (by omega)]
section
variable {P : Program} {w : World} {K : PySem.W.Frag} {mg : Str → Option Value} {base : Heap}
theorem sc_law_feed : FnScope ["_law_script"] ["_law_script"] (defScope s_law_feed) := ⟨rfl, rfl, rfl, by decide +kernel, rfl, by decide +kernel, by decide +kernel⟩
theorem g_law_feed (T : Tx K mg) : Gd P w K mg base 1 "_law_feed" 1 (spM K fun oc ss C => ∃ ns : List Int, oc = [] ∧ ss = [.d (.list (ns.map .int))] ∧ C = fun o r => ∃ p, o = [(p, asT K (feedT ⟨ns.take 63, 0, 0, 0⟩))] ∧ r = .v (.ref p)) := by
  obtain ⟨fd, F⟩ := T.fun_law_feed
  refine gd_mk F rfl (okM (k := 0) F sc_law_feed (fun _ _ _ ⟨_, _, e, _⟩ => by rw [e]; rfl) ?_) T.glo_law_feed fun _ _ _ _ _ _ us hl => match us, hl with | [_], _ => rfl
  rintro cd A outer s H0 E hr oc ss C B D ⟨ns, rfl, rfl, rfl⟩ hF hD
  refine g_retM (m_disp (kvs := feedT ⟨ns.take 63, 0, 0, 0⟩) (fun p => ?_) rfl (Nat.le_of_ble_eq_true rfl)) fun o r v R H ⟨p, eo, er⟩ q e => hD.1 o r v R H ⟨p, eo, er⟩ q e
  exact p2_cons x_str (x_ct call_list_of T.free_list rc_lstL (a_cons (x_slL (es := (ns.take 63).map .int) (x_var 0) o_none (o_some x_int) (by rw [List.map_take]; exact cut_front _ 63)) a_nil)) (p2_cons x_str x_int (p2_cons x_str x_int (p2_cons x_str x_int p2_nil)))
end
end CB

/-! Part 40: _law_draw. -/
namespace CB
open PySem PySem.Spec PyProof.Rows L2
theorem put_turn (f : Feed) (v : Int) : aPut (feedT f) "turn" (.d (.int v)) = feedT { f with turn := v } := rfl
theorem put_at (f : Feed) (v : Int) : aPut (feedT f) "at" (.d (.int v)) = feedT { f with at_ := v } := rfl
theorem put_left (f : Feed) (v : Int) : aPut (feedT f) "left" (.d (.int v)) = feedT { f with left := v } := rfl
theorem get_turn (f : Feed) : aGet (feedT f) "turn" = some (.d (.int f.turn)) := rfl
theorem get_at (f : Feed) : aGet (feedT f) "at" = some (.d (.int f.at_)) := rfl
theorem get_left (f : Feed) : aGet (feedT f) "left" = some (.d (.int f.left)) := rfl
theorem get_cells (f : Feed) : aGet (feedT f) "cells" = some (.d (.list (f.cells.map .int))) := rfl
theorem shaped_intsL (l : List Int) : SeqAt.shaped (.list (l.map .int)) = true := by
  unfold SeqAt.shaped
  rw [PyData.canLay0, canLay_ints, Bool.true_and, PyData.depth, depth_ints]
  rfl
/-- a draw below many, from a feed -/
structure Drawn1 (f f' : Feed) (many i : Int) : Prop where
  ce : f'.cells = f.cells
  tu : f'.turn = f.turn + 1
  a0 : 0 ≤ f'.at_
  lo : 0 ≤ i
  hi : i < many
section
variable {P : Program} {w : World} {K : PySem.W.Frag} {mg : Str → Option Value} {base : Heap}
theorem sc_law_draw : FnScope ["_law_feed_here", "_law_many", "_law_turn", "_law_found", "_law_at", "_law_cell", "_law_mixed"] ["_law_feed_here", "_law_many"] (defScope s_law_draw) := ⟨rfl, rfl, rfl, by decide +kernel, rfl, by decide +kernel, by decide +kernel⟩
theorem g_law_draw (T : Tx K mg) : Gd P w K mg base 1 "_law_draw" 2 (spM K fun oc ss C => ∃ p f many, oc = [(p, asT K (feedT f))] ∧ ss = [.v (.ref p), .d (.int many)] ∧ 0 < many ∧ many < 1000000 ∧ 0 ≤ f.turn ∧ f.turn < 1000000 ∧ 0 ≤ f.at_ ∧ C = fun o r => ∃ f' i, o = [(p, asT K (feedT f'))] ∧ Drawn1 f f' many i ∧ r = .d (.int i)) := by
  obtain ⟨fd, F⟩ := T.fun_law_draw
  refine gd_mk F rfl (okM (k := 0) F sc_law_draw (fun _ _ _ ⟨_, _, _, _, e, _⟩ => by rw [e]; rfl) ?_) T.glo_law_draw fun _ _ _ _ _ _ us hl => match us, hl with | [_, _], _ => rfl
  rintro cd A outer s H0 E hr oc ss C B D ⟨p, f, many, rfl, rfl, hm0, hm1, ht0, ht1, ha0, rfl⟩ hF hD
  have hu1 := hr.units
  have hu := Nat.lt_of_le_of_lt (Nat.add_le_add_left (by decide : 1 ≤ 64) _) hu1
  let f1 : Feed := { f with turn := f.turn + 1 }
  have fin : ∀ (f' : Feed) (i : Int), Drawn1 f f' many i → ∀ v R H, SepB B [(p, asT K (feedT f'))] R H → SlR K R (.d (.int i)) (some v) → D.rt v H := fun f' i h v R H q e => hD.1 _ _ v R H ⟨f', i, rfl, h, rfl⟩ q e
  refine g_set sc_law_draw.nd 2 (x_add (x_tget (kvs := feedT f) 0 hu (x_var 0) x_str (get_turn f)) x_int) ?_
  refine g_tput (p := p) (kvs := feedT f) 0 hu (x_var 0) x_str (x_var 2) (Nat.le_of_ble_eq_true rfl) ?_
  rw [put_turn]
  refine g_if (k := decide (0 < f.left)) (x_cmpT op_gt rd_Ib rfl (x_tget (kvs := feedT f1) 0 hu (x_var 0) x_str (get_left f1)) x_int) (fun hb => ?_) fun hb => ?_
  · refine g_set sc_law_draw.nd 3 (x_mod hm0 (x_tget (kvs := feedT f1) 0 hu (x_var 0) x_str (get_left f1)) (x_var 1)) ?_
    refine g_tput (p := p) (kvs := feedT f1) 0 hu (x_var 0) x_str (x_op op_fdiv (rd_IC ⟨hm0, by omega⟩) (x_tget (kvs := feedT f1) 0 hu (x_var 0) x_str (get_left f1)) (x_var 1)) (Nat.le_of_ble_eq_true rfl) ?_
    rw [put_left]
    exact g_ret (x_var 3) (fin _ _ ⟨rfl, rfl, ha0, Int.emod_nonneg _ (by omega), Int.emod_lt_of_pos _ hm0⟩)
  · refine g_end ?_
    refine g_set sc_law_draw.nd 4 (x_tget (kvs := feedT f1) 0 hu (x_var 0) x_str (get_at f1)) ?_
    refine g_tput (p := p) (kvs := feedT f1) 0 hu (x_var 0) x_str (x_add (x_var 4) x_int) (Nat.le_of_ble_eq_true rfl) ?_
    rw [put_at]
    let f2 : Feed := { f1 with at_ := f.at_ + 1 }
    have ha2 : (0 : Int) ≤ f.at_ + 1 := by omega
    refine g_set sc_law_draw.nd 5 x_int ?_
    refine g_if (k := !PyData.eqv (.list (f.cells.map .int)) (.list [])) (x_cmpT (op_neD hu1) (rd_neD (shaped_intsL _) (shaped_intsL [])) rfl (x_tget (kvs := feedT f2) 0 hu (x_var 0) x_str (get_cells f2)) (x_lst (ds := []) a_nil)) (fun hb => ?_) fun hb => g_end ?_
    · have hne : f.cells ≠ [] := fun z => by
        rw [z] at hb
        exact absurd hb (by decide)
      have hpos : 0 < f.cells.length := List.length_pos_iff.mpr hne
      have hlen : (0 : Int) < ((f.cells.map PyData.int).length : Nat) := by
        rw [List.length_map]
        omega
      have hix : ∃ c : Int, atI (f.cells.map PyData.int) (f.at_ % ((f.cells.map PyData.int).length : Nat)) = some (.int c) := by
        obtain ⟨n, hn⟩ := Int.eq_ofNat_of_zero_le (Int.emod_nonneg f.at_ (by omega : (((f.cells.map PyData.int).length : Nat) : Int) ≠ 0))
        have h2 := Int.emod_lt_of_pos f.at_ hlen
        rw [hn] at h2 ⊢
        rw [List.length_map] at h2
        have h3 : n < f.cells.length := by omega
        exact ⟨f.cells[n], atI_nat (by rw [List.getElem?_map, List.getElem?_eq_getElem h3]; rfl)⟩
      obtain ⟨c, hc⟩ := hix
      refine g_set sc_law_draw.nd 5 (x_ixL (x_tget (kvs := feedT f2) 0 hu (x_var 0) x_str (get_cells f2)) (x_mod hlen (x_var 4) (x_cb call_len_seq T.free_len rc_lenL (a_cons (x_tget (kvs := feedT f2) 0 hu (x_var 0) x_str (get_cells f2)) a_nil))) hc) ?_
      refine g_end ?_
      refine g_if (k := decide ((10 : Int) ^ (18 : Int).toNat ≤ c) && decide (f.at_ < ((f.cells.map PyData.int).length : Nat))) (x_pw (x_and (x_cmpT op_ge rd_Ib rfl (x_var 5) (x_op op_pow (rd_IC ⟨by decide, by decide, by decide⟩) x_int x_int)) fun _ => x_and1 (x_cmpT op_lt rd_Ib rfl (x_var 4) (x_cb call_len_seq T.free_len rc_lenL (a_cons (x_tget (kvs := feedT f2) 0 hu (x_var 0) x_str (get_cells f2)) a_nil))))) (fun hb2 => ?_) fun hb2 => g_end ?_
      · refine g_tput (p := p) (kvs := feedT f2) 0 hu (x_var 0) x_str (x_op op_fdiv (rd_IC ⟨hm0, by omega⟩) (x_var 5) (x_var 1)) (Nat.le_of_ble_eq_true rfl) ?_
        rw [put_left]
        exact g_ret (x_mod hm0 (x_var 5) (x_var 1)) (fin _ _ ⟨rfl, rfl, ha2, Int.emod_nonneg _ (by omega), Int.emod_lt_of_pos _ hm0⟩)
      · have b1 : (c % 2147483629 + 7919 * (f.turn + 1) + 1).natAbs < 2 ^ 64 := by
          have h1 := Int.emod_nonneg c (by decide : (2147483629 : Int) ≠ 0)
          have h2 := Int.emod_lt_of_pos c (by decide : (0 : Int) < 2147483629)
          omega
        have b2 : ((c % 2147483629 + 7919 * (f.turn + 1) + 1) ^ (5 : Int).toNat % 2147483647 + 104729 * (f.turn + 1)).natAbs < 2 ^ 64 := by
          generalize (c % 2147483629 + 7919 * (f.turn + 1) + 1) ^ (5 : Int).toNat = y
          have h1 := Int.emod_nonneg y (by decide : (2147483647 : Int) ≠ 0)
          have h2 := Int.emod_lt_of_pos y (by decide : (0 : Int) < 2147483647)
          omega
        refine g_set sc_law_draw.nd 6 (x_mod (by decide) (x_op op_pow (rd_IC ⟨by decide, by decide, b1⟩) (x_add (x_add (x_mod (by decide) (x_var 5) x_int) (x_op op_mul (rd_IC (.inl ⟨by decide, by decide⟩)) x_int (x_var 2))) x_int) x_int) x_int) ?_
        refine g_set sc_law_draw.nd 6 (x_mod (by decide) (x_op op_pow (rd_IC ⟨by decide, by decide, b2⟩) (x_add (x_var 6) (x_op op_mul (rd_IC (.inl ⟨by decide, by decide⟩)) x_int (x_var 2))) x_int) x_int) ?_
        exact g_ret (x_mod hm0 (x_op op_fdiv (rd_IC ⟨by decide, by decide⟩) (x_var 6) x_int) (x_var 1)) (fin _ _ ⟨rfl, rfl, ha2, Int.emod_nonneg _ (by omega), Int.emod_lt_of_pos _ hm0⟩)
    · refine g_if (k := decide ((10 : Int) ^ (18 : Int).toNat ≤ (0 : Int)) && decide (f.at_ < ((f.cells.map PyData.int).length : Nat))) (x_pw (x_and (x_cmpT op_ge rd_Ib rfl (x_var 5) (x_op op_pow (rd_IC ⟨by decide, by decide, by decide⟩) x_int x_int)) fun _ => x_and1 (x_cmpT op_lt rd_Ib rfl (x_var 4) (x_cb call_len_seq T.free_len rc_lenL (a_cons (x_tget (kvs := feedT f2) 0 hu (x_var 0) x_str (get_cells f2)) a_nil))))) (fun hb2 => ?_) fun hb2 => g_end ?_
      · refine g_tput (p := p) (kvs := feedT f2) 0 hu (x_var 0) x_str (x_op op_fdiv (rd_IC ⟨hm0, by omega⟩) (x_var 5) (x_var 1)) (Nat.le_of_ble_eq_true rfl) ?_
        rw [put_left]
        exact g_ret (x_mod hm0 (x_var 5) (x_var 1)) (fin _ _ ⟨rfl, rfl, ha2, Int.emod_nonneg _ (by omega), Int.emod_lt_of_pos _ hm0⟩)
      · have b1 : ((0 : Int) % 2147483629 + 7919 * (f.turn + 1) + 1).natAbs < 2 ^ 64 := by
          have h1 := Int.emod_nonneg (0 : Int) (by decide : (2147483629 : Int) ≠ 0)
          have h2 := Int.emod_lt_of_pos (0 : Int) (by decide : (0 : Int) < 2147483629)
          omega
        have b2 : (((0 : Int) % 2147483629 + 7919 * (f.turn + 1) + 1) ^ (5 : Int).toNat % 2147483647 + 104729 * (f.turn + 1)).natAbs < 2 ^ 64 := by
          generalize ((0 : Int) % 2147483629 + 7919 * (f.turn + 1) + 1) ^ (5 : Int).toNat = y
          have h1 := Int.emod_nonneg y (by decide : (2147483647 : Int) ≠ 0)
          have h2 := Int.emod_lt_of_pos y (by decide : (0 : Int) < 2147483647)
          omega
        refine g_set sc_law_draw.nd 6 (x_mod (by decide) (x_op op_pow (rd_IC ⟨by decide, by decide, b1⟩) (x_add (x_add (x_mod (by decide) (x_var 5) x_int) (x_op op_mul (rd_IC (.inl ⟨by decide, by decide⟩)) x_int (x_var 2))) x_int) x_int) x_int) ?_
        refine g_set sc_law_draw.nd 6 (x_mod (by decide) (x_op op_pow (rd_IC ⟨by decide, by decide, b2⟩) (x_add (x_var 6) (x_op op_mul (rd_IC (.inl ⟨by decide, by decide⟩)) x_int (x_var 2))) x_int) x_int) ?_
        exact g_ret (x_mod hm0 (x_op op_fdiv (rd_IC ⟨by decide, by decide⟩) (x_var 6) x_int) (x_var 1)) (fin _ _ ⟨rfl, rfl, ha2, Int.emod_nonneg _ (by omega), Int.emod_lt_of_pos _ hm0⟩)
end
end CB

/-! Part 41: a draw inside a body that owns the feed. -/
namespace CB
open PySem PySem.Spec PyProof.Rows L2
section
variable {X : Cx} {G : List Sl} {own : OL} {a b : Expr} {pos p1 : Pos}
/-- a feed that can still be drawn from -/
structure FeedOk (f : Feed) : Prop where
  t0 : 0 ≤ f.turn
  t1 : f.turn < 1000000
  a0 : 0 ≤ f.at_
theorem m_draw {p : Addr} {C D : OL → Sl → Prop} (T : Tx X.K X.mg) (hr : Room 1 X.A) (ha : EX X G own a (.v (.ref p))) (hb : EM X G own b C)
    (hd : ∀ o s, C o s → ∃ f many rest, o = (p, asT X.K (feedT f)) :: rest ∧ s = .d (.int many) ∧ 0 < many ∧ many < 1000000 ∧ FeedOk f ∧ ∀ f' i, Drawn1 f f' many i → D ((p, asT X.K (feedT f')) :: rest) (.d (.int i)))
    (hg : Gl X "_law_draw" := by rfl) (he : starEach [a, b] X.env = (false, eval a X.env) :: starEach [b] X.env := by rfl) (he2 : starEach [b] X.env = (false, eval b X.env) :: starEach [] X.env := by rfl) (hpl : (backTo pos (starEach [b] X.env)).any (·.1) = false := by rfl) :
    EM X G own (.Call (.Name "_law_draw" p1) [a, b] [] pos) D := by
  refine m_call (k := 1) (n := 2) (C := fun o ss => ∃ s, C o s ∧ ss = [.v (.ref p), s]) (g_law_draw T) hr (ma_le (ma_cons (C := Is own (.v (.ref p))) (C' := fun _ _ o ss => ∃ s, C o s ∧ ss = [s]) (m_x ha) (fun o s ⟨e1, e2⟩ => ?_) he) ?_) ?_ hg (by decide) he hpl
  · subst e1
    exact ma_le (ma_cons (C' := fun o1 s1 o ss => o = o1 ∧ ss = []) hb (fun o s _ => ma_nil) he2) fun o ss ⟨o1, s1, t1, c, ⟨e3, e4⟩, e5⟩ => ⟨s1, by rw [e3]; exact c, by rw [e5, e4]⟩
  · rintro o ss ⟨o1, s1, t1, ⟨e1, e2⟩, ⟨s2, c, e3⟩, e4⟩
    exact ⟨s2, c, by rw [e4, e2, e3]⟩
  · rintro o ss ⟨s, c, rfl⟩
    obtain ⟨f, many, rest, rfl, rfl, h1, h2, h3, h4⟩ := hd o s c
    refine ⟨[(p, asT X.K (feedT f))], rest, List.Perm.refl _, _, ⟨p, f, many, rfl, rfl, h1, h2, h3.t0, h3.t1, h3.a0, rfl⟩, ?_⟩
    rintro o s ⟨f', i, rfl, h5, rfl⟩
    exact h4 f' i h5
end
end CB

/-! Part 42: _law_home. -/
namespace CB
open PySem PySem.Spec PyProof.Rows L2
/-- a feed after at most n draws -/
structure FdTo (n : Int) (f f' : Feed) : Prop where
  ce : f'.cells = f.cells
  t0 : f.turn ≤ f'.turn
  t1 : f'.turn ≤ f.turn + n
  a0 : 0 ≤ f'.at_
theorem FdTo.self {f : Feed} (h : 0 ≤ f.at_) : FdTo 0 f f := ⟨rfl, Int.le_refl _, by omega, h⟩
theorem FdTo.draw {n : Int} {f f' f2 : Feed} {m i : Int} (h : FdTo n f f') (d : Drawn1 f' f2 m i) : FdTo (n + 1) f f2 := ⟨d.ce.trans h.ce, by have := h.t0; have := d.tu; omega, by have := h.t1; have := d.tu; omega, d.a0⟩
theorem FdTo.trans {n m : Int} {f f' f2 : Feed} (h : FdTo n f f') (d : FdTo m f' f2) : FdTo (n + m) f f2 := ⟨d.ce.trans h.ce, by have := h.t0; have := d.t0; omega, by have := h.t1; have := d.t1; omega, d.a0⟩
theorem FdTo.ok {n : Int} {f f' : Feed} (h : FdTo n f f') (h0 : 0 ≤ f.turn) (h1 : f.turn + n < 1000000) : FeedOk f' := ⟨by have := h.t0; omega, by have := h.t1; omega, h.a0⟩
section
variable {P : Program} {w : World} {K : PySem.W.Frag} {mg : Str → Option Value} {base : Heap}
theorem sc_law_home : FnScope ["_law_feed_here", "_law_k"] ["_law_feed_here"] (defScope s_law_home) := ⟨rfl, rfl, rfl, by decide +kernel, rfl, by decide +kernel, by decide +kernel⟩
theorem g_law_home (T : Tx K mg) : Gd P w K mg base 2 "_law_home" 1 (spM K fun oc ss C => ∃ p f, oc = [(p, asT K (feedT f))] ∧ ss = [.v (.ref p)] ∧ 0 ≤ f.turn ∧ f.turn < 900000 ∧ 0 ≤ f.at_ ∧ C = fun o r => ∃ f' h, o = [(p, asT K (feedT f'))] ∧ FdTo 8 f f' ∧ r = .d (intsD h) ∧ h.length ≤ 7 ∧ ∀ i ∈ h, 0 ≤ i ∧ i < 7) := by
  obtain ⟨fd, F⟩ := T.fun_law_home
  refine gd_mk F rfl (okM (k := 1) F sc_law_home (fun _ _ _ ⟨_, _, _, e, _⟩ => by rw [e]; rfl) ?_) T.glo_law_home fun _ _ _ _ _ _ us hl => match us, hl with | [_], _ => rfl
  rintro cd A outer s H0 E hr oc ss C B D ⟨p, f, rfl, rfl, ht0, ht1, ha0, rfl⟩ hF hD
  have hs := FdTo.self ha0
  refine g_retM (m_if (C := fun o b => ∃ f', o = [(p, asT K (feedT f'))] ∧ FdTo 1 f f') (m_cmpT (C := fun o r => ∃ f' i, o = [(p, asT K (feedT f'))] ∧ FdTo 1 f f' ∧ r = .d (.int i)) (C' := fun o _ o' y => o' = o ∧ y = .d (.int 0)) op_gt rfl (m_draw T hr (x_var 0) (m_x x_int) ?_) (fun o x _ => m_x x_int) ?_) ?_ ?_) fun o r v R H c q e => hD.1 o r v R H c q e
  · rintro o r ⟨rfl, rfl⟩
    exact ⟨f, 9, [], rfl, rfl, by decide, by decide, hs.ok ht0 (by omega), fun f' i d => ⟨f', i, rfl, hs.draw d, rfl⟩⟩
  · rintro o x o' y ⟨f', i, rfl, h1, rfl⟩ ⟨rfl, rfl⟩
    exact ⟨_, rd_Ib, f', rfl, h1⟩
  · rintro o ⟨f1, rfl, h1⟩
    refine m_ct (C := fun o ss => ∃ (f' : Feed) (l : List Int), o = [(p, asT K (feedT f'))] ∧ FdTo 8 f f' ∧ ss = [.d (.list (l.map PyData.int))] ∧ l.length ≤ 7 ∧ ∀ i ∈ l, 0 ≤ i ∧ i < 7) call_tuple_of T.free_tuple (ma_le (ma_cons (C := fun o s => ∃ (f' : Feed) (l : List Int), o = [(p, asT K (feedT f'))] ∧ FdTo 8 f f' ∧ s = .d (.list (l.map PyData.int)) ∧ l.length ≤ 7 ∧ ∀ i ∈ l, 0 ≤ i ∧ i < 7) (C' := fun o _ o' ss => o' = o ∧ ss = []) (m_lcIf (g := gName 1) sc_law_home.nd [("_law_k", 1)] (src_m (src_rng1 x_int T.free_range (by decide))) (blkOk_by (N := ["_law_feed_here", "_law_k"]) (sc := defScope s_law_home) (by decide +kernel)) (fun _ _ _ _ _ => pg_name (i := 1) sc_law_home.nd rfl (.inl rfl)) (gw_name (by decide)) ?_) (fun o s _ => ma_nil)) ?_) ?_
    · rintro o xs V ⟨rfl, rfl, rfl⟩
      have hlen : (rngD 0 (7 : Int).toNat).length = 7 := by unfold rngD; simp
      refine ⟨by rw [hlen]; decide, fun i acc o1 => ∃ (f' : Feed) (l : List Int), o1 = [(p, asT K (feedT f'))] ∧ FdTo (1 + (i : Int)) f f' ∧ acc = l.map PyData.int ∧ l.length ≤ i ∧ ∀ x ∈ l, 0 ≤ x ∧ x < 7, ⟨f1, [], rfl, by simpa using h1, rfl, Nat.le_refl _, fun x hx => nomatch hx⟩, fun _ _ _ _ _ _ _ => trivial, ?_, ?_⟩
      · rintro i x acc o1 hx ⟨f2, l, rfl, h2, rfl, h3, h4⟩
        obtain ⟨rfl, _, hi⟩ := days_get hx
        have hi7 : i < 7 := hi
        refine ⟨_, gd_name, fun o b => ∃ f3, o = [(p, asT K (feedT f3))] ∧ FdTo (1 + (i : Int) + 1) f f3, fun _ _ _ _ _ => m_cmpT (C := fun o r => ∃ f' j, o = [(p, asT K (feedT f'))] ∧ FdTo (1 + (i : Int) + 1) f f' ∧ r = .d (.int j)) (C' := fun o _ o' y => o' = o ∧ y = .d (.int 0)) op_gt rfl (m_draw T hr (x_var 0) (m_x x_int) ?_) (fun o x _ => m_x x_int) ?_, ?_, ?_⟩
        · rintro o r ⟨rfl, rfl⟩
          exact ⟨f2, 4, [], rfl, rfl, by decide, by decide, h2.ok ht0 (by omega), fun f' j d => ⟨f', j, rfl, h2.draw d, rfl⟩⟩
        · rintro o x o' y ⟨f', j, rfl, h5, rfl⟩ ⟨rfl, rfl⟩
          exact ⟨_, rd_Ib, f', rfl, h5⟩
        · rintro o ⟨f3, rfl, h5⟩ _ _ _ _ _
          refine m_le (m_x (x_var 1)) ?_
          rintro o r ⟨rfl, rfl⟩
          refine ⟨_, rfl, f3, l ++ [0 + (i : Int)], rfl, ?_, by rw [List.map_append]; rfl, by rw [List.length_append]; exact Nat.succ_le_succ h3, fun y hy => ?_⟩
          · have e : (1 + ((i + 1 : Nat) : Int)) = 1 + (i : Int) + 1 := by omega
            rw [e]
            exact h5
          · rcases List.mem_append.mp hy with z | z
            · exact h4 y z
            · rw [List.mem_singleton.mp z]
              omega
        · rintro o ⟨f3, rfl, h5⟩
          refine ⟨f3, l, rfl, ?_, rfl, Nat.le_succ_of_le h3, h4⟩
          have e : (1 + ((i + 1 : Nat) : Int)) = 1 + (i : Int) + 1 := by omega
          rw [e]
          exact h5
      · rintro acc o1 ⟨f2, l, rfl, h2, rfl, h3, h4⟩
        rw [hlen] at h2 h3
        exact ⟨f2, l, rfl, h2, rfl, h3, h4⟩
    · rintro o ss ⟨o1, s1, t1, ⟨f2, l, rfl, h2, rfl, h3, h4⟩, ⟨rfl, rfl⟩, rfl⟩
      exact ⟨f2, l, rfl, h2, rfl, h3, h4⟩
    · rintro o ss ⟨f2, l, rfl, h2, rfl, h3, h4⟩
      exact ⟨_, rc_tupL, f2, l, rfl, h2, rfl, h3, h4⟩
  · rintro o ⟨f1, rfl, h1⟩
    refine m_le (m_x (x_tup (ds := []) a_nil)) ?_
    rintro o r ⟨rfl, rfl⟩
    exact ⟨f1, [], rfl, ⟨h1.ce, h1.t0, by have := h1.t1; omega, h1.a0⟩, rfl, Nat.zero_le _, fun i hi => nomatch hi⟩
end
end CB

/-! Part 43: list.index of a text. -/
namespace CB
open PySem PySem.Spec PyProof.Rows L2
section
variable {X : Cx} {G : List Sl} {own : OL} {o e : Expr} {pos : Pos}
theorem x_lindex {apos : Pos} {ys : List Str} {z : Str} (j : Nat) (ho : EX X G own o (.d (.list (ys.map .str)))) (he : EX X G own e (.d (.str z))) (hj : ys[j]? = some z) (hno : ∀ m, m < j → ys[m]? ≠ some z) (hbase : attributeBase o "index" X.env (eval o X.env) = eval o X.env := by rfl)
    (hfew : ((backTo pos (starEach [e] X.env)).all (fun x => !x.1) && (backToKw pos (keywordEach [] X.env)).all (fun x => x.1.isSome) && decide (([e] : List Expr).length + ([] : List Keyword).length + (if ([] : List Keyword).isEmpty then 0 else 1) < 30)) = true := by rfl)
    (hline : (apos.endLine == pos.line) = true := by rfl) (hs : starEach [e] X.env = (false, eval e X.env) :: starEach [] X.env := by rfl) (hplain : (backTo pos (starEach [] X.env)).any (·.1) = false := by rfl) : EX X G own (.Call (.Attribute o "index" apos) [e] [] pos) (.d (.int (j : Nat))) :=
  EX.of (pe_bm PySem.F.plainAttrs_list PySem.F.slot_list_index PySem.F.type_list_index mt_index pe_w pa_w hbase hfew hline hs hplain) fun R H z0 w hz Q q => ho R H z0 w hz _ fun v R1 H1 g1 e1 => by
    obtain ⟨a, vs, rfl, h2, h3⟩ := dp_lst (d_slr e1)
    refine ⟨?_, (a_cons he a_nil hs : EA X G own [e] [_]) R1 H1 z0 (w.grow g1) (hold_up g1.rr hz) _ fun us R2 H2 g2 e2 => ?_⟩
    · exact .inl ⟨rfl, vs, sql_up (w.grow g1).rh h2⟩
    · match us, e2 with
      | [u], ⟨e2, _⟩ =>
        have hall : (ys.map PyData.str).all flatD = true := by
          rw [List.all_map]
          exact List.all_eq_true.mpr fun _ _ => rfl
        have hv := dps_flat h3 hall
        have hf : vs.all flatV = true := by rw [hv]; exact flats_vOf hall
        have hv2 : vs = ys.map V.str := by
          rw [hv, List.map_map]
          rfl
        refine ⟨a, vs, _, j, .str z, rfl, rfl, sql_up ((w.grow g1).grow g2).rh (sql_up g2.rr h2), by rw [dp_str (d_slr e2)]; rfl, hf, by rw [hv2, List.getElem?_map, hj]; rfl, by rw [dp_str (d_slr e2)]; exact decide_eq_true rfl, fun m z' hm hz' => ?_, q _ R2 H2 (g1.trans g2) (slr_d (.int _))⟩
        rw [hv2, List.getElem?_map] at hz'
        cases hy : ys[m]? with
        | none => rw [hy] at hz'; cases hz'
        | some y =>
          rw [hy] at hz'
          cases hz'
          rw [dp_str (d_slr e2)]
          exact decide_eq_false fun c => hno m hm (by rw [hy]; cases c; rfl)
end
section
variable {P : Program} {w : World} {K : PySem.W.Frag} {mg : Str → Option Value} {base : Heap}
theorem sc_law_rank : FnScope ["_law_page_here", "_law_kinds"] ["_law_page_here"] (defScope s_law_rank) := ⟨rfl, rfl, rfl, by decide +kernel, rfl, by decide +kernel, by decide +kernel⟩
def kindsL : List Str := ["house", "part", "join", "home", "mourn", "ahead", "card", "visit"]
theorem g_law_rank (T : Tx K mg) : Gd P w K mg base 1 "_law_rank" 1 (spD K fun ss s => ∃ p : Page, ss = [.d p.enc] ∧ s = .d p.place.data) := by
  obtain ⟨fd, F⟩ := T.fun_law_rank
  refine gd_mk F rfl (okD (k := 0) F sc_law_rank (fun _ _ ⟨_, e, _⟩ => by rw [e]; rfl) ?_) T.glo_law_rank fun _ _ _ _ _ _ us hl => match us, hl with | [_], _ => rfl
  rintro cd A outer s H0 E hr ss r B D ⟨p, rfl, rfl⟩ hF hD
  refine g_set sc_law_rank.nd 1 (x_lst (ds := kindsL.map .str) (a_cons x_str (a_cons x_str (a_cons x_str (a_cons x_str (a_cons x_str (a_cons x_str (a_cons x_str (a_cons x_str a_nil))))))))) ?_
  have hj : kindsL[p.rank]? = some p.kind := by cases p <;> rfl
  have hno : ∀ m, m < p.rank → kindsL[m]? ≠ some p.kind := by
    cases p <;> simp only [Page.rank, Page.kind] <;> decide +kernel
  refine g_ret (x_is (x_tup (ds := [.int p.day, .int (p.rank : Nat), .tuple p.rest]) (a_cons (x_ixn 1 (x_var 0) x_int) (a_cons (x_lindex (ys := kindsL) p.rank (x_var 1) (x_ixn (d := .str p.kind) 0 (x_var 0) x_int) hj hno) (a_cons (x_slT (es := p.rest) (l := some 2) (h := none) (x_var 0) (o_some x_int) o_none (by cases p <;> rfl)) a_nil)))) (by rw [p.place_data])) fun v R H q e => hD.1 _ _ v R H rfl q e
end
end CB

/-! Part 44: _law_standing_so. -/
namespace CB
open PySem PySem.Spec PyProof.Rows L2
section
variable {P : Program} {w : World} {K : PySem.W.Frag} {mg : Str → Option Value} {base : Heap}
theorem sc_law_standing_so : FnScope ["_law_pages", "_law_found", "_law_page_here"] ["_law_pages"] (defScope s_law_standing_so) := ⟨rfl, rfl, rfl, by decide +kernel, rfl, by decide +kernel, by decide +kernel⟩
theorem g_law_standing_so (T : Tx K mg) : Gd P w K mg base 4 "_law_standing_so" 1 (spD K fun ss s => ∃ l : List Page, ss = [.d (.list (l.map Page.enc))] ∧ (∀ q ∈ l, q.ok) ∧ l.length ≤ 1000 ∧ s = .d (.tuple ((inOrder l).map Page.enc))) := by
  obtain ⟨fd, F⟩ := T.fun_law_standing_so
  refine gd_mk F rfl (okD (k := 3) F sc_law_standing_so (fun _ _ ⟨_, e, _⟩ => by rw [e]; rfl) ?_) T.glo_law_standing_so fun _ _ _ _ _ _ us hl => match us, hl with | [_], _ => rfl
  rintro cd A outer s H0 E hr ss r B D ⟨l, rfl, hok, hlen, rfl⟩ hF hD
  have hu : (A.deeper (envOfC "_law_standing_so" (defScope s_law_standing_so) s.heap.objs.size (He.fAd K ("_law_standing_so", none)) cd)).units + 65 < cLine := by have := hr.un; omega
  refine g_setM sc_law_standing_so.nd 1 m_lnew ?_
  rintro o t ⟨p, rfl, rfl⟩
  refine g_for (g := gName 2) (src_m (src_list (x_var 0))) (pg_name (i := 2) sc_law_standing_so.nd rfl (.inl rfl)) ?_
  rintro o xs V ⟨rfl, rfl, rfl⟩
  refine ⟨fun i G1 o1 => G1 = [.d (.list (l.map Page.enc)), .v (.ref p), .u] ∧ o1 = [(p, asL K ((dedup [] (l.take i)).map Page.enc))], ⟨rfl, rfl⟩, fun _ _ _ _ _ _ _ => trivial, ?_, ?_⟩
  · rintro i x G1 o1 B1 D1 hx ⟨rfl, rfl⟩ hB hF1 hD1 _
    obtain ⟨q, hq, rfl⟩ := enc_get hx
    have hqm := List.mem_of_getElem? hq
    have hds : ∀ z ∈ dedup [] (l.take i), z.ok := fun z hz => by
      rcases (dedup_mem z (l.take i) []).mp hz with h | h
      · exact nomatch h
      · exact hok z (List.mem_of_mem_take h)
    have hl : (dedup [] (l.take i)).length < 1000000 := by
      have h1 := dedup_len (l.take i) []
      rw [List.length_nil, List.length_take] at h1
      omega
    have ed := dedup_take hq []
    refine ⟨_, gd_name, g_if (k := !decide (q ∈ dedup [] (l.take i))) (x_t (x_cmpT (op_notInD hu) (rd_notInO (i := 0) rfl (Page.shaped_enc (hok q hqm)) (Page.shaped_lst hds)) rfl (x_var 2) (x_var 1)) (by rw [Page.any_enc])) (fun hb => ?_) fun hb => g_end ?_⟩
    · have hn : ¬ q ∈ dedup [] (l.take i) := by simpa using hb
      rw [if_neg hn] at ed
      refine g_expr (m_append (Dd := fun o r => o = [(p, asL K ((dedup [] (l.take (i + 1))).map Page.enc))]) (m_x (x_var 1)) ?_) ?_
      · rintro o1 s1 ⟨rfl, rfl⟩
        refine ⟨p, 0, _, rfl, rfl, _, m_x (x_var 2), ?_⟩
        rintro o2 s2 ⟨rfl, rfl⟩
        exact ⟨0, _, _, rfl, rfl, by rw [List.length_map]; exact hl, by rw [ed, List.map_append]; rfl⟩
      · rintro o r rfl
        exact g_end (at_le hD1 ⟨rfl, rfl⟩ ⟨.inr rfl, .inr rfl, .inl rfl, trivial⟩)
    · have hn : q ∈ dedup [] (l.take i) := by simpa using hb
      rw [if_pos hn] at ed
      exact at_le hD1 ⟨rfl, by rw [ed]⟩ ⟨.inr rfl, .inr rfl, .inl rfl, trivial⟩
  · rintro G1 o1 ⟨rfl, rfl⟩
    rw [List.length_map, List.take_length]
    refine g_ret (x_ct call_tuple_of T.free_tuple rc_tupL (a_cons (ev_sortK (l := dedup [] l) coll_list (g_law_rank T) (hr.mono (by decide)) T.free_sorted (fun q _ => ⟨q, rfl, rfl⟩) (x_var 1) (fun R H v w e => ?_)) a_nil)) fun v R H p e => hD.1 _ _ v R H rfl p e
    obtain rfl := v_slr e
    obtain ⟨us, f2, f3⟩ := stands_of (i := 0) (p := p) (ds := (dedup [] l).map Page.enc) rfl R H w
    exact ⟨p, us, rfl, SqL.of f2, f3⟩
end
end CB

/-! Part 45: a, b = e, f with plain names. -/
namespace CB
open PySem PySem.Spec PyProof.Rows L2
section
variable {X : Cx} {B : Bs} {G : List Sl} {own : OL} {D : Ends} {rest : List Stmt} {pos : Pos}
theorem g_parM {x y : Str} {a b : Expr} {px py pt : Pos} {kt k2 pt2} {C : OL → List Sl → Prop} (hN : X.N.Nodup) (i j : Nat) (ha : EMA X G own [a, b] C) (q : ∀ o ss, C o ss → ∃ s t, ss = [s, t] ∧ Go X B ((G.set i s).set j t) o D rest)
    (hi : X.N[i]? = some x := by rfl) (hj : X.N[j]? = some y := by rfl) (hij : i ≠ j := by decide) (hx : X.env.scope.names.lookup x = some .local := by rfl) (hy : X.env.scope.names.lookup y = some .local := by rfl)
    (hw : swappedStores [.Tuple [.Name x px, .Name y py] kt pt] (.Tuple [a, b] k2 pt2) X.env = pure (some [x, y]) := by rfl)
    (hs : swapsWithSole [.Tuple [.Name x px, .Name y py] kt pt] (.Tuple [a, b] k2 pt2) pos.line X.env = pure false := by rfl) (hc : X.calm = true := by rfl) :
    Go X B G own D (.Assign [.Tuple [.Name x px, .Name y py] kt pt] (.Tuple [a, b] k2 pt2) pos :: rest) :=
  g_cons (ps_par hc hN hi hj hij hx hy pa_w hw hs) fun R H z p hz => ha R H z p.ow hz _ fun o ss vs R1 H1 c p1 e1 => by
    obtain ⟨s, t, rfl, go⟩ := q o ss c
    match vs, e1 with
    | [v, w], ⟨e1, e2, _⟩ => exact ⟨v, w, rfl, go R1 H1 _ (sep_trans p p1) (hold_set e2 j (hold_set e1 i (hold_up p1.rr hz)))⟩
end
end CB

/-! Part 46: how long the text of what is asked may be. -/
namespace CB
open PySem PySem.Spec PyProof.Rows L2
structure Sz (L D : Nat) (d : PyData) : Prop where
  ln : d.shown.length ≤ L
  sh : d.showable = true
  nd : d.hasDict = false
  dp : d.depth ≤ D
structure SzA (S D : Nat) (ds : List PyData) : Prop where
  ln : ((PyData.shownAll ds).map (·.length)).sum + 2 * ds.length ≤ S
  sh : PyData.showableAll ds = true
  nd : PyData.hasDictAll ds = false
  dp : PyData.depthAll ds ≤ D
theorem Sz.le {L D L' D' : Nat} {d : PyData} (h : Sz L D d) (h1 : L ≤ L') (h2 : D ≤ D') : Sz L' D' d := ⟨Nat.le_trans h.ln h1, h.sh, h.nd, Nat.le_trans h.dp h2⟩
theorem SzA.le {L D L' D' : Nat} {d : List PyData} (h : SzA L D d) (h1 : L ≤ L') (h2 : D ≤ D') : SzA L' D' d := ⟨Nat.le_trans h.ln h1, h.sh, h.nd, Nat.le_trans h.dp h2⟩
theorem sza_nil {D : Nat} : SzA 0 D [] := ⟨by simp [PyData.shownAll], by simp [PyData.showableAll], by simp [PyData.hasDictAll], by simp [PyData.depthAll]⟩
theorem sza_cons {L S D : Nat} {d : PyData} {ds : List PyData} (h : Sz L D d) (t : SzA S D ds) : SzA (L + 2 + S) D (d :: ds) := by
  have h1 := h.ln
  have h2 := t.ln
  have h3 := h.dp
  have h4 := t.dp
  refine ⟨?_, by rw [PyData.showableAll, h.sh, t.sh]; rfl, by rw [PyData.hasDictAll, h.nd, t.nd]; rfl, by rw [PyData.depthAll]; omega⟩
  rw [PyData.shownAll, List.map_cons, List.sum_cons, List.length_cons]
  omega
theorem sza_app {S T D : Nat} {ds es : List PyData} (h : SzA S D ds) (t : SzA T D es) : SzA (S + T) D (ds ++ es) := by
  induction ds generalizing S with
  | nil => exact t.le (Nat.le_add_left _ _) (Nat.le_refl _)
  | cons d ds ih =>
    have h1 := h.ln
    have h2 := h.sh
    have h3 := h.nd
    have h4 := h.dp
    rw [PyData.shownAll, List.map_cons, List.sum_cons, List.length_cons] at h1
    rw [PyData.showableAll, Bool.and_eq_true] at h2
    rw [PyData.hasDictAll, Bool.or_eq_false_iff] at h3
    rw [PyData.depthAll] at h4
    have := ih (S := S - (d.shown.length + 2)) ⟨by omega, h2.2, h3.2, by omega⟩
    exact (sza_cons (L := d.shown.length) (D := D) ⟨Nat.le_refl _, h2.1, h3.1, by omega⟩ this).le (by omega) (Nat.le_refl _)
theorem sza_map {α : Type} {L D : Nat} {f : α → PyData} {N : Nat} : ∀ {l : List α}, (∀ x ∈ l, Sz L D (f x)) → l.length ≤ N → SzA (N * (L + 2)) D (l.map f)
  | [], _, _ => sza_nil.le (Nat.zero_le _) (Nat.le_refl _)
  | x :: l, h, hn => by
    rw [List.length_cons] at hn
    have h1 := sza_map (N := N - 1) (fun y hy => h y (List.mem_cons_of_mem _ hy)) (by omega : l.length ≤ N - 1)
    refine (sza_cons (h x List.mem_cons_self) h1).le ?_ (Nat.le_refl _)
    obtain ⟨M, rfl⟩ : ∃ M, N = M + 1 := ⟨N - 1, by omega⟩
    rw [Nat.add_sub_cancel, Nat.succ_mul]
    omega
theorem sz_tup {S D : Nat} {ds : List PyData} (h : SzA S D ds) : Sz (S + 3) (D + 1) (.tuple ds) := by
  have h1 := tupleText_len_le (PyData.shownAll ds)
  have h2 := PyData.shownAll_length ds
  have h3 := h.ln
  refine ⟨?_, by rw [PyData.showable]; exact h.sh, by rw [PyData.hasDict]; exact h.nd, by rw [PyData.depth]; exact Nat.succ_le_succ h.dp⟩
  rw [PyData.shown]
  omega
theorem sz_lst {S D : Nat} {ds : List PyData} (h : SzA S D ds) : Sz (S + 3) (D + 1) (.list ds) := by
  have h1 := listText_len_le (PyData.shownAll ds)
  have h2 := PyData.shownAll_length ds
  have h3 := h.ln
  refine ⟨?_, by rw [PyData.showable]; exact h.sh, by rw [PyData.hasDict]; exact h.nd, by rw [PyData.depth]; exact Nat.succ_le_succ h.dp⟩
  rw [PyData.shown]
  omega
theorem sz_int {i : Int} (h : i.natAbs < 10 ^ 7) : Sz 8 0 (.int i) := by
  refine ⟨?_, ?_, by rw [PyData.hasDict], by rw [PyData.depth]; exact Nat.le_refl _⟩
  · show (Str.ofString (toString i)).length ≤ 8
    rw [PySem.ofString_length]
    exact int_text_length_le10 (k := 7) (by decide) h
  · rw [PyData.showable]
    refine decide_eq_true ?_
    by_cases h0 : i.natAbs = 0
    · rw [h0]
      decide
    · have : i.natAbs.log2 < 24 := (Nat.log2_lt h0).mpr (Nat.lt_trans h (by decide))
      omega
theorem sz_non : Sz 4 0 .none := ⟨by decide, rfl, rfl, Nat.le_refl _⟩
theorem sz_str {n : Str} (h : Nok n) {k : Nat} (hl : n.length ≤ k) : Sz (10 * k + 2) 0 (.str n) := by
  have hx : ∀ c ∈ n.cps.toList, c < 16 ^ 8 := fun c hc => by
    have h1 : n.cps.all (· < 0x110000) = true := h
    rw [← Array.all_toList, List.all_eq_true] at h1
    have := of_decide_eq_true (h1 c hc)
    omega
  refine ⟨?_, by rw [PyData.showable], by rw [PyData.hasDict], by rw [PyData.depth]; exact Nat.le_refl _⟩
  rw [PyData.shown]
  have := StrLaws.reprText_len n hx
  omega
/-- pages that are not long -/
def Page.sm : Page → Prop
  | .house _ _ h | .part _ _ _ h | .home _ _ h => h.length ≤ 7 ∧ ∀ i ∈ h, i.natAbs < 10 ^ 7
  | .mourn _ _ k => 0 ≤ k ∧ k ≤ 60
  | _ => True
/-- names, and pages of them -/
structure SmB (NS : List Str) (bk : List Page) : Prop where
  nm : ∀ n ∈ NS, Nok n ∧ n.length ≤ 9
  pg : ∀ p ∈ bk, p.sm ∧ ∀ n ∈ p.names, n ∈ NS
  dy : ∀ p ∈ bk, p.day.natAbs < 900000
  ln : bk.length ≤ 24
section
variable {NS : List Str} {bk : List Page}
theorem sz_ints {l : List Int} {N : Nat} (h : ∀ i ∈ l, i.natAbs < 10 ^ 7) (hl : l.length ≤ N) : Sz (N * 10 + 3) 1 (intsD l) := sz_tup (sza_map (fun i hi => sz_int (h i hi)) hl)
theorem sz_kind (p : Page) : Sz 52 0 (.str p.kind) := by
  cases p <;> simp only [Page.kind] <;> exact (sz_str (k := 5) (show PyData.strOk _ = true by decide +kernel) (by decide +kernel)).le (by decide) (Nat.le_refl _)
theorem Sz0.le {L D : Nat} {d : PyData} (h : Sz L 0 d) : Sz L D d := h.le (Nat.le_refl _) (Nat.zero_le _)
theorem SmB.name (b : SmB NS bk) {n : Str} {D : Nat} (h : n ∈ NS) : Sz 92 D (.str n) := ((sz_str (b.nm n h).1 (b.nm n h).2)).le (by decide) (Nat.zero_le _)
theorem SmB.page (b : SmB NS bk) {p : Page} (h : p ∈ bk) : Sz 340 2 p.enc := by
  have hk := sz_kind p
  obtain ⟨h1, h2⟩ := b.pg p h
  have hd := b.dy p h
  cases p <;> simp only [Page.kind, Page.names, Page.day, Page.sm, List.mem_cons, List.not_mem_nil, or_false, forall_eq_or_imp, forall_eq] at hk h1 h2 hd <;> simp only [Page.enc, Page.rest, Page.kind, Page.day]
  · exact (sz_tup (sza_cons (Sz0.le hk) (sza_cons (Sz0.le (sz_int (by omega))) (sza_cons (b.name h2) (sza_cons (sz_ints h1.2 h1.1) sza_nil))))).le (by decide) (Nat.le_refl _)
  · exact (sz_tup (sza_cons (Sz0.le hk) (sza_cons (Sz0.le (sz_int (by omega))) (sza_cons (b.name h2.1) (sza_cons (b.name h2.2) (sza_cons (sz_ints h1.2 h1.1) sza_nil)))))).le (by decide) (Nat.le_refl _)
  · exact (sz_tup (sza_cons (D := 0) (Sz0.le hk) (sza_cons (Sz0.le (sz_int (by omega))) (sza_cons (b.name h2.1) (sza_cons (b.name h2.2) sza_nil))))).le (by decide) (by decide)
  · exact (sz_tup (sza_cons (Sz0.le hk) (sza_cons (Sz0.le (sz_int (by omega))) (sza_cons (b.name h2) (sza_cons (sz_ints h1.2 h1.1) sza_nil))))).le (by decide) (Nat.le_refl _)
  · exact (sz_tup (sza_cons (D := 0) (Sz0.le hk) (sza_cons (Sz0.le (sz_int (by omega))) (sza_cons (b.name h2) (sza_cons (sz_int (by omega)) sza_nil))))).le (by decide) (by decide)
  · exact (sz_tup (sza_cons (D := 0) (Sz0.le hk) (sza_cons (Sz0.le (sz_int (by omega))) (sza_cons (b.name h2.1) (sza_cons (b.name h2.2) sza_nil))))).le (by decide) (by decide)
  · exact (sz_tup (sza_cons (D := 0) (Sz0.le hk) (sza_cons (Sz0.le (sz_int (by omega))) (sza_cons (b.name h2.1) (sza_cons (b.name h2.2) sza_nil))))).le (by decide) (by decide)
  · exact (sz_tup (sza_cons (D := 0) (Sz0.le hk) (sza_cons (Sz0.le (sz_int (by omega))) (sza_cons (b.name h2.1) (sza_cons (b.name h2.2) sza_nil))))).le (by decide) (by decide)
/-- a due that is told -/
structure ToldS (NS : List Str) (bk : List Page) (q : Told) : Prop where
  dk : Dok NS bk q.1
  vk : Vok q.2.2
theorem sz_due (b : SmB NS bk) {d : Due} (h : Dok NS bk d) : Sz 535 3 d.enc :=
  (sz_tup (sza_cons (b.name h.1) (sza_cons (b.name h.2.1) (sza_cons (b.page h.2.2.1) sza_nil)))).le (by decide) (Nat.le_refl _)
theorem vok_sz {v : List Int} {D : Nat} (h : Vok v) (hD : 1 ≤ D := by decide) : Sz 1003 D (intsD v) := (sz_ints (fun i hi => Nat.lt_trans (h.2 i hi) (by decide)) h.1).le (by decide) hD
theorem sz_srt {D : Nat} (v : Bool) : Sz 52 D (.str (srt v)) := by
  cases v
  · exact (sz_str (k := 4) (show PyData.strOk _ = true by decide +kernel) (by decide +kernel)).le (by decide) (Nat.zero_le _)
  · exact (sz_str (k := 5) (show PyData.strOk _ = true by decide +kernel) (by decide +kernel)).le (by decide) (Nat.zero_le _)
theorem sz_told (b : SmB NS bk) {q : Told} (h : ToldS NS bk q) : Sz 1592 3 (toldD q) :=
  (sz_tup (sza_cons (b.name h.dk.1) (sza_cons (b.name h.dk.2.1) (sza_cons (sz_srt _) (sza_cons (b.page h.dk.2.2.1) (sza_cons (vok_sz h.vk) sza_nil)))))).le (by decide) (Nat.le_refl _)
theorem sz_paper (b : SmB NS bk) {q : Told} (h : ToldS NS bk q) : Sz 1538 3 (paperD q) :=
  (sz_tup (sza_cons (b.name h.dk.1) (sza_cons (b.name h.dk.2.1) (sza_cons (b.page h.dk.2.2.1) (sza_cons (vok_sz h.vk) sza_nil))))).le (by decide) (Nat.le_refl _)
theorem sz_rude (b : SmB NS bk) {q : Told} (h : ToldS NS bk q) : Sz 543 3 (rudeD q) := by
  refine (sz_tup (sza_cons (b.name h.dk.1) (sza_cons (b.name h.dk.2.1) (sza_cons (b.page h.dk.2.2.1) (sza_cons (Sz0.le (sz_int (i := q.2.2.getLast?.getD 0) ?_)) sza_nil))))).le (by decide) (Nat.le_refl _)
  cases e : q.2.2.getLast? with
  | none => decide
  | some x => exact Nat.lt_trans (h.vk.2 x (List.mem_of_getLast? e)) (by decide)
theorem sz_pair (b : SmB NS bk) {q : Int × Told} (h : ToldS NS bk q.2) (hq : q.1.natAbs < 10 ^ 7) : Sz 1607 4 (pairD q) :=
  (sz_tup (sza_cons (Sz0.le (sz_int hq)) (sza_cons (sz_told b h) sza_nil))).le (by decide) (Nat.le_refl _)
theorem sz_answ (b : SmB NS bk) {q : Page × List Due} (h : q.1 ∈ bk) (hl : q.2.length ≤ 40) (hd : ∀ d ∈ q.2, Dok NS bk d) : Sz 21900 5 (answD q) :=
  (sz_tup (sza_cons ((b.page h).le (Nat.le_refl _) (by decide)) (sza_cons (sz_tup (sza_map (fun d hd' => sz_due b (hd d hd')) hl)) sza_nil))).le (by decide) (Nat.le_refl _)
end
end CB

/-! Part 47: what is counted in a walk stays small. -/
namespace CB
open PySem PySem.Spec PyProof.Rows L2
def MoE (s : Wk) : Prop := ∀ q ∈ s.mo, ∀ iv ∈ q.2, iv.2 < 1000000
structure Up (k : Int) (s s' : Wk) : Prop where
  ma : s.made ≤ s'.made ∧ s'.made ≤ s.made + k
  co : s.copied ≤ s'.copied ∧ s'.copied ≤ s.copied + k
  st : s.struck ≤ s'.struck ∧ s'.struck ≤ s.struck + k
  me : s.merged ≤ s'.merged ∧ s'.merged ≤ s.merged + k
  mo : MoE s → MoE s'
  mks : s'.marks = s.marks
theorem Up.refl {k : Int} (s : Wk) (h : 0 ≤ k) : Up k s s := ⟨by omega, by omega, by omega, by omega, id, rfl⟩
theorem Up.le {k l : Int} {s s' : Wk} (u : Up k s s') (h : k ≤ l) : Up l s s' := by
  obtain ⟨⟨a1, a2⟩, ⟨b1, b2⟩, ⟨c1, c2⟩, ⟨d1, d2⟩, m, n⟩ := u
  exact ⟨by omega, by omega, by omega, by omega, m, n⟩
theorem Up.trans {k l : Int} {s t u : Wk} (h : Up k s t) (g : Up l t u) : Up (k + l) s u := by
  obtain ⟨⟨a1, a2⟩, ⟨b1, b2⟩, ⟨c1, c2⟩, ⟨d1, d2⟩, m, n⟩ := h
  obtain ⟨⟨e1, e2⟩, ⟨f1, f2⟩, ⟨g1, g2⟩, ⟨h1, h2⟩, m2, n2⟩ := g
  exact ⟨by omega, by omega, by omega, by omega, fun h => m2 (m h), n2.trans n⟩
theorem up_fold {α : Type} {f : Wk → α → Wk} (h : ∀ s x, Up 1 s (f s x)) : ∀ (l : List α) (s : Wk), Up l.length s (l.foldl f s)
  | [], s => Up.refl s (Int.le_refl _)
  | x :: l, s => by
    rw [List.foldl_cons]
    refine ((h s x).trans (up_fold h l (f s x))).le ?_
    rw [List.length_cons]
    omega
theorem up_part1 (x y : Str) (s : Wk) (d : Due) : Up 1 s (Wk.part1 x y s d) := by
  unfold Wk.part1
  split
  · exact ⟨⟨Int.le_refl _, by show s.made ≤ _; omega⟩, ⟨by show s.copied ≤ s.copied + 1; omega, by show s.copied + 1 ≤ _; omega⟩, ⟨Int.le_refl _, by show s.struck ≤ _; omega⟩, ⟨Int.le_refl _, by show s.merged ≤ _; omega⟩, id, rfl⟩
  · exact Up.refl s (by decide)
theorem up_fall1 (t : Tm) (day : Int) (s : Wk) (d : Due) : Up 0 s (Wk.fall1 t day s d) := by
  unfold Wk.fall1
  split
  · exact ⟨⟨Int.le_refl _, by show s.made ≤ _; omega⟩, ⟨Int.le_refl _, by show s.copied ≤ _; omega⟩, ⟨Int.le_refl _, by show s.struck ≤ _; omega⟩, ⟨Int.le_refl _, by show s.merged ≤ _; omega⟩, id, rfl⟩
  · exact Up.refl s (by decide)
theorem up_fold0 {α : Type} {f : Wk → α → Wk} (h : ∀ s x, Up 0 s (f s x)) : ∀ (l : List α) (s : Wk), Up 0 s (l.foldl f s)
  | [], s => Up.refl s (Int.le_refl _)
  | x :: l, s => ((h s x).trans (up_fold0 h l (f s x))).le (by decide)
theorem up_lay (s : Wk) (d : Due) (v : List Int) : Up 1 s (s.lay d v) := by
  unfold Wk.lay
  split
  · exact ⟨⟨Int.le_refl _, by show s.made ≤ _; omega⟩, ⟨Int.le_refl _, by show s.copied ≤ _; omega⟩, ⟨Int.le_refl _, by show s.struck ≤ _; omega⟩, ⟨Int.le_refl _, by show s.merged ≤ _; omega⟩, id, rfl⟩
  · split
    · exact ⟨⟨Int.le_refl _, by show s.made ≤ _; omega⟩, ⟨Int.le_refl _, by show s.copied ≤ _; omega⟩, ⟨Int.le_refl _, by show s.struck ≤ _; omega⟩, ⟨by show s.merged ≤ s.merged + 1; omega, by show s.merged + 1 ≤ _; omega⟩, id, rfl⟩
    · exact ⟨⟨Int.le_refl _, by show s.made ≤ _; omega⟩, ⟨Int.le_refl _, by show s.copied ≤ _; omega⟩, ⟨Int.le_refl _, by show s.struck ≤ _; omega⟩, ⟨by show s.merged ≤ s.merged + 1; omega, by show s.merged + 1 ≤ _; omega⟩, id, rfl⟩
theorem up_falls (s : Wk) (l : List (Due × List Int)) : Up 0 s { s with falls := l } :=
  ⟨⟨Int.le_refl _, by show s.made ≤ _; omega⟩, ⟨Int.le_refl _, by show s.copied ≤ _; omega⟩, ⟨Int.le_refl _, by show s.struck ≤ _; omega⟩, ⟨Int.le_refl _, by show s.merged ≤ _; omega⟩, id, rfl⟩
theorem up_join1 (x y : Str) (s : Wk) (d : Due) : Up 1 s (Wk.join1 x y s d) := by
  unfold Wk.join1
  split
  · dsimp only
    split
    · refine ((up_falls s (aDrop s.falls d)).trans (l := 1) ?_).le (by decide)
      exact ⟨⟨Int.le_refl _, by show s.made ≤ s.made + 1; omega⟩, ⟨Int.le_refl _, by show s.copied ≤ s.copied + 1; omega⟩, ⟨by show s.struck ≤ s.struck + 1; omega, by show s.struck + 1 ≤ s.struck + 1; omega⟩, ⟨Int.le_refl _, by show s.merged ≤ s.merged + 1; omega⟩, id, rfl⟩
    · exact ((up_falls s (aDrop s.falls d)).trans (up_lay _ _ _)).le (by decide)
  · exact Up.refl s (by decide)
theorem up_dropAll (s : Wk) (l : List Due) : Up 0 s (s.dropAll l) := up_fold0 (f := fun s d => { s with falls := aDrop s.falls d }) (fun s d => up_falls s _) l s
theorem up_go (s : Wk) (p : Page) (x y : Str) : Up 1 s (s.go p x y).1 := by
  unfold Wk.go
  dsimp only
  split
  · exact ⟨⟨by show s.made ≤ s.made + 1; omega, by show s.made + 1 ≤ s.made + 1; omega⟩, ⟨Int.le_refl _, by show s.copied ≤ s.copied + 1; omega⟩, ⟨Int.le_refl _, by show s.struck ≤ s.struck + 1; omega⟩, ⟨Int.le_refl _, by show s.merged ≤ s.merged + 1; omega⟩, id, rfl⟩
  · obtain ⟨a, b, c, d, m, n⟩ := (up_dropAll s (s.paid (s.isMet p) x y)).le (l := 1) (by decide)
    exact ⟨a, b, c, d, m, n⟩
/-- what a page is marked with is small -/
theorem mark_done : Sz 60 1 (.tuple [.str "done"]) := (sz_tup (sza_cons (sz_str (k := 4) (show PyData.strOk _ = true by decide +kernel) (by decide +kernel)) sza_nil)).le (by decide) (Nat.le_refl _)
theorem mark_idle : Sz 60 1 (.tuple [.str "idle"]) := (sz_tup (sza_cons (sz_str (k := 4) (show PyData.strOk _ = true by decide +kernel) (by decide +kernel)) sza_nil)).le (by decide) (Nat.le_refl _)
theorem mark_due : Sz 60 1 (.tuple [.str "due"]) := (sz_tup (sza_cons (sz_str (k := 3) (show PyData.strOk _ = true by decide +kernel) (by decide +kernel)) sza_nil)).le (by decide) (Nat.le_refl _)
theorem mark_ans {n : Nat} (h : n ≤ 3240) : Sz 90 1 (.tuple [.str "answer", .int n]) := (sz_tup (sza_cons (sz_str (k := 6) (show PyData.strOk _ = true by decide +kernel) (by decide +kernel)) (sza_cons (sz_int (by omega)) sza_nil))).le (by decide) (Nat.le_refl _)
theorem go_mark {s : Wk} (h : s.keys.length ≤ 3240) (p : Page) (x y : Str) : Sz 90 1 (s.go p x y).2 := by
  unfold Wk.go
  dsimp only
  split
  · exact mark_due.le (by decide) (Nat.le_refl _)
  · refine mark_ans ?_
    unfold Wk.paid
    exact Nat.le_trans (List.length_filter_le _ _) h
theorem put_mark {s : Wk} (h : s.keys.length ≤ 3240) (p : Page) : Sz 90 1 (s.put p).2 := by
  have h1 := mark_done.le (L' := 90) (by decide) (Nat.le_refl _)
  unfold Wk.put
  split
  · exact mark_idle.le (by decide) (Nat.le_refl _)
  · cases p <;> first | exact h1 | exact go_mark h _ _ _
theorem moe_mourn {s : Wk} (h : MoE s) (x : Str) (iv : Int × Int) (hi : iv.2 < 1000000) : MoE (s.mourn x iv) := fun q hq jv hj => by
  have hq : q ∈ aPut s.mo x (((aGet s.mo x).getD []) ++ [iv]) := hq
  rcases aPut_mem hq with z | z
  · exact h q z jv hj
  · rw [z.2] at hj
    rcases List.mem_append.mp hj with z2 | z2
    · cases e : aGet s.mo x with
      | none =>
        rw [e] at z2
        exact nomatch z2
      | some v =>
        rw [e] at z2
        exact h _ (aGet_some_mem e) jv z2
    · rw [List.mem_singleton.mp z2]
      exact hi
theorem up_put {s : Wk} (h : s.keys.length ≤ 3240) {p : Page} (hs : p.sm) (hd : p.day.natAbs < 900000) : Up 3240 s (s.put p).1 := by
  have kf : ∀ f : Wk → Due → Wk, (∀ s x, Up 1 s (f s x)) → Up 3240 s (s.keys.foldl f s) := fun f hf => (up_fold hf s.keys s).le (by omega)
  unfold Wk.put
  split
  · exact Up.refl s (by decide)
  · cases p with
    | card d a b => exact (up_go s _ a b).le (by decide)
    | visit d a b => exact (up_go s _ a b).le (by decide)
    | part d a b v =>
      obtain ⟨q1, q2, q3, q4, q5, q6⟩ := kf (Wk.part1 a b) (up_part1 a b)
      exact ⟨q1, q2, q3, q4, q5, q6⟩
    | join d a b => exact kf (Wk.join1 a b) (up_join1 a b)
    | house d a v => exact ⟨⟨Int.le_refl _, by show s.made ≤ _; omega⟩, ⟨Int.le_refl _, by show s.copied ≤ _; omega⟩, ⟨Int.le_refl _, by show s.struck ≤ _; omega⟩, ⟨Int.le_refl _, by show s.merged ≤ _; omega⟩, id, rfl⟩
    | home d a v => exact ⟨⟨Int.le_refl _, by show s.made ≤ _; omega⟩, ⟨Int.le_refl _, by show s.copied ≤ _; omega⟩, ⟨Int.le_refl _, by show s.struck ≤ _; omega⟩, ⟨Int.le_refl _, by show s.merged ≤ _; omega⟩, id, rfl⟩
    | mourn d a k =>
      have h1 : 0 ≤ k ∧ k ≤ 60 := hs
      have h2 : d.natAbs < 900000 := hd
      exact ⟨⟨Int.le_refl _, by show s.made ≤ _; omega⟩, ⟨Int.le_refl _, by show s.copied ≤ _; omega⟩, ⟨Int.le_refl _, by show s.struck ≤ _; omega⟩, ⟨Int.le_refl _, by show s.merged ≤ _; omega⟩, fun m => moe_mourn m a _ (by show d + k - 1 < 1000000; omega), rfl⟩
    | ahead d a b => exact Up.refl s (by decide)
/-- what stays true of what is counted -/
structure WC (PS : List Page) (n : Nat) (s : Wk) : Prop where
  ma : 0 ≤ s.made ∧ s.made ≤ 3240 * n
  co : 0 ≤ s.copied ∧ s.copied ≤ 3240 * n
  st : 0 ≤ s.struck ∧ s.struck ≤ 3240 * n
  me : 0 ≤ s.merged ∧ s.merged ≤ 3240 * n
  mo : MoE s
  mks : ∀ q ∈ s.marks, q.1 ∈ PS ∧ Sz 90 1 q.2
theorem WC.mark {PS : List Page} {n : Nat} {s : Wk} (c : WC PS n s) (h : s.keys.length ≤ 3240) {p : Page} (hp : p ∈ PS) (hs : p.sm) (hd : p.day.natAbs < 900000) : WC PS (n + 1) (s.mark p) := by
  have u := up_put h hs hd
  have u1 := u.ma
  have u2 := u.co
  have u3 := u.st
  have u4 := u.me
  have c1 := c.ma
  have c2 := c.co
  have c3 := c.st
  have c4 := c.me
  refine ⟨?_, ?_, ?_, ?_, u.mo c.mo, fun q hq => ?_⟩
  · show 0 ≤ (s.put p).1.made ∧ (s.put p).1.made ≤ _; omega
  · show 0 ≤ (s.put p).1.copied ∧ (s.put p).1.copied ≤ _; omega
  · show 0 ≤ (s.put p).1.struck ∧ (s.put p).1.struck ≤ _; omega
  · show 0 ≤ (s.put p).1.merged ∧ (s.put p).1.merged ≤ _; omega
  · have hq : q ∈ s.marks ++ [(p, (s.put p).2)] := hq
    rcases List.mem_append.mp hq with z | z
    · exact c.mks q z
    · rw [List.mem_singleton.mp z]
      exact ⟨hp, put_mark h p⟩
theorem WC.fall {PS : List Page} {n : Nat} {s : Wk} (c : WC PS n s) (t : Tm) (day : Int) : WC PS n (s.fall t day) := by
  have u := up_fold0 (up_fall1 t day) s.keys s
  have e : s.fall t day = s.keys.foldl (Wk.fall1 t day) s := rfl
  rw [← e] at u
  have u1 := u.ma
  have u2 := u.co
  have u3 := u.st
  have u4 := u.me
  have c1 := c.ma
  have c2 := c.co
  have c3 := c.st
  have c4 := c.me
  exact ⟨by omega, by omega, by omega, by omega, u.mo c.mo, fun q hq => by rw [u.mks] at hq; exact c.mks q hq⟩
section
variable {NS : List Str} {PS : List Page}
theorem keys_len {n : Nat} {s : Wk} {ml : Ml} (e : En NS PS) (h : WV NS PS n s ml) : s.keys.length ≤ 3240 := by
  unfold Wk.keys
  rw [List.length_map]
  exact h.lf e
theorem wc_day (e : En NS PS) (hs : ∀ p ∈ PS, p.sm ∧ p.day.natAbs < 900000) (day : Int) : ∀ (l : List Page) (n : Nat) (s : Wk) (ml : Ml), WV NS PS n s ml → WC PS n s → (∀ p ∈ l, p ∈ PS) → ∃ n' ml', WV NS PS n' (Wk.dayPages day l s).2 ml' ∧ WC PS n' (Wk.dayPages day l s).2 ∧ n' + (Wk.dayPages day l s).1.length = n + l.length ∧ ∀ p ∈ (Wk.dayPages day l s).1, p ∈ PS
  | [], n, s, ml, h, c, hl => ⟨n, ml, h, c, rfl, hl⟩
  | p :: l, n, s, ml, h, c, hl => by
    unfold Wk.dayPages
    by_cases cc : p.day = day
    · rw [if_pos cc]
      have hp := hl p List.mem_cons_self
      obtain ⟨ml1, h1⟩ := wv_mark e h hp
      obtain ⟨n2, ml2, h2, h3, h4, h5⟩ := wc_day e hs day l (n + 1) _ ml1 h1 (c.mark (keys_len e h) hp (hs p hp).1 (hs p hp).2) fun q hq => hl q (List.mem_cons_of_mem _ hq)
      exact ⟨n2, ml2, h2, h3, by rw [h4, List.length_cons]; omega, h5⟩
    · rw [if_neg cc]
      exact ⟨n, ml, h, c, rfl, hl⟩
theorem wc_days {t : Tm} (e : En NS PS) (hs : ∀ p ∈ PS, p.sm ∧ p.day.natAbs < 900000) (ht : t.1 ≤ 100 ∧ t.2 ≤ 100) : ∀ (ds : List Int) (l : List Page) (n : Nat) (s : Wk) (ml : Ml), (∀ d ∈ ds, d.natAbs < 1000000) → WV NS PS n s ml → WC PS n s → (∀ p ∈ l, p ∈ PS) → ∃ n' ml', WV NS PS n' (ds.foldl (Wk.day1 t) (l, s)).2 ml' ∧ WC PS n' (ds.foldl (Wk.day1 t) (l, s)).2 ∧ n' ≤ n + l.length
  | [], l, n, s, ml, _, h, c, _ => ⟨n, ml, h, c, Nat.le_add_right _ _⟩
  | d :: ds, l, n, s, ml, hd, h, c, hl => by
    obtain ⟨n1, ml1, h1, c1, h2, h3⟩ := wc_day e hs d l n s ml h c hl
    obtain ⟨n2, ml2, h4, c4, h5⟩ := wc_days e hs ht ds (Wk.dayPages d l s).1 n1 ((Wk.dayPages d l s).2.fall t d) ml1 (fun x hx => hd x (List.mem_cons_of_mem _ hx)) (wv_fall h1 ht (hd d List.mem_cons_self)) (c1.fall t d) h3
    rw [List.foldl_cons]
    exact ⟨n2, ml2, h4, c4, by omega⟩
end
theorem wc_walk {NS : List Str} {bk : List Page} {t : Tm} {last : Int} (g : WG NS bk t last) (hs : ∀ p ∈ bk, p.sm) : ∃ n ml, WV NS (upTo bk last) n (Wk.walk bk t last) ml ∧ WC (upTo bk last) n (Wk.walk bk t last) ∧ n ≤ 40 := by
  have hm : ∀ p ∈ upTo bk last, p ∈ bk := fun p => upTo_mem
  have hlen : (upTo bk last).length ≤ bk.length := List.length_filter_le _ _
  have e : En NS (upTo bk last) := ⟨g.en.hn, Nat.le_trans hlen g.en.hp, g.en.nok, fun p hp => g.en.pn p (hm p hp)⟩
  have hf : (Wk.first (upTo bk last) last).natAbs ≤ 900000 := by
    unfold Wk.first
    split
    · have := g.la; omega
    · rename_i p l hl
      have := g.dy p (hm p (by rw [hl]; exact List.mem_cons_self))
      omega
  unfold Wk.walk
  obtain ⟨n, ml, h1, c1, h2⟩ := wc_days e (fun p hp => ⟨hs p (hm p hp), g.dy p (hm p hp)⟩) g.tm (Wk.days (Wk.first (upTo bk last) last) (last + 1 - Wk.first (upTo bk last) last).toNat) (upTo bk last) 0 _ [] (fun d hd => by
    unfold Wk.days at hd
    obtain ⟨i, hi, rfl⟩ := List.mem_map.mp hd
    have h3 := List.mem_range.mp hi
    have h4 := g.la
    omega) (wv_empty NS _ (dedup [] (Hs.run (upTo bk last)).idle)) ⟨⟨Int.le_refl _, Int.le_refl _⟩, ⟨Int.le_refl _, Int.le_refl _⟩, ⟨Int.le_refl _, Int.le_refl _⟩, ⟨Int.le_refl _, Int.le_refl _⟩, (fun q h => nomatch h), fun q h => nomatch h⟩ fun p hp => hp
  exact ⟨n, ml, h1, c1, by have := e.hp; omega⟩
end CB

/-! Part 48: what is asked fits in a text. -/
namespace CB
open PySem PySem.Spec PyProof.Rows L2
theorem lastK_in (free : Int → Bool) : ∀ (f : Nat) (m d : Int), d ≤ lastK free f m d ∧ lastK free f m d ≤ d + f
  | 0, _, d => by
    rw [lastK]
    omega
  | f + 1, m, d => by
    rw [lastK]
    split
    · have := lastK_in free f (if free (d + 1) then m - 1 else m) (d + 1)
      omega
    · omega
theorem maxEnd_le {l : List (Int × Int)} (h : ∀ q ∈ l, q.2 < 1000000) : ∀ a : Int, a ≤ 1000000 → l.foldl (fun a q => max a q.2) a ≤ 1000000 := by
  induction l with
  | nil => exact fun a ha => ha
  | cons x l ih =>
    intro a ha
    rw [List.foldl_cons]
    have hx := h x List.mem_cons_self
    exact ih (fun q hq => h q (List.mem_cons_of_mem _ hq)) _ (by omega)
theorem bound_le {s : Wk} (h : MoE s) : s.bound ≤ 1000000 := by
  unfold Wk.bound maxEnd
  refine maxEnd_le (fun q hq => ?_) 0 (by decide)
  obtain ⟨r, hr, hq⟩ := List.mem_flatMap.mp hq
  exact h r hr q hq
section
variable {NS : List Str}
theorem counts_in : ∀ (l : List Told) (n : Nat) (m : List (Pr × Int)), (∀ q ∈ l, q.1.ower ∈ NS ∧ q.1.owed ∈ NS) → m.length ≤ n → (∀ q ∈ m, (q.1.1 ∈ NS ∧ q.1.2 ∈ NS) ∧ 0 ≤ q.2 ∧ q.2 ≤ n) →
    (l.foldl count1 m).length ≤ n + l.length ∧ ∀ q ∈ l.foldl count1 m, (q.1.1 ∈ NS ∧ q.1.2 ∈ NS) ∧ 0 ≤ q.2 ∧ q.2 ≤ (n + l.length : Nat)
  | [], n, m, _, h1, h2 => ⟨h1, h2⟩
  | x :: l, n, m, hl, h1, h2 => by
    have e1 : (count1 m x).length ≤ n + 1 := by
      unfold count1
      have := aPut_len m (x.1.ower, x.1.owed) (((aGet m (x.1.ower, x.1.owed)).getD 0) + 1)
      omega
    have hg : 0 ≤ (aGet m (x.1.ower, x.1.owed)).getD 0 ∧ (aGet m (x.1.ower, x.1.owed)).getD 0 ≤ n := by
      cases e : aGet m (x.1.ower, x.1.owed) with
      | none => exact ⟨Int.le_refl _, Int.natCast_nonneg n⟩
      | some v => exact (h2 _ (aGet_some_mem e)).2
    have hx := hl x List.mem_cons_self
    obtain ⟨h3, h4⟩ := counts_in l (n + 1) (count1 m x) (fun q hq => hl q (List.mem_cons_of_mem _ hq)) e1 fun q hq => by
      unfold count1 at hq
      rcases aPut_mem hq with z | z
      · obtain ⟨a, b, c⟩ := h2 q z
        exact ⟨a, b, by omega⟩
      · rw [z.1, z.2]
        exact ⟨hx, by omega, by omega⟩
    rw [List.foldl_cons, List.length_cons]
    refine ⟨by omega, fun q hq => ?_⟩
    obtain ⟨a, b, c⟩ := h4 q hq
    exact ⟨a, b, by omega⟩
theorem matters_in {l : List Told} (hl : ∀ q ∈ l, q.1.ower ∈ NS ∧ q.1.owed ∈ NS) : (mattersOf l).length ≤ l.length ∧ ∀ q ∈ mattersOf l, (q.1.1 ∈ NS ∧ q.1.2 ∈ NS) ∧ 0 ≤ q.2 ∧ q.2 ≤ (l.length : Nat) := by
  obtain ⟨h1, h2⟩ := counts_in l 0 [] hl (Nat.le_refl _) fun q hq => nomatch hq
  rw [Nat.zero_add] at h1 h2
  unfold mattersOf
  refine ⟨by rw [List.length_map, List.length_mergeSort, List.length_map]; exact h1, fun q hq => ?_⟩
  obtain ⟨r, hr, rfl⟩ := List.mem_map.mp hq
  have hr := List.mem_mergeSort.mp hr
  obtain ⟨v, hv⟩ := some_of (aGet_mem.mp hr)
  have hv' : aGet (counts l) r = some v := hv
  have h3 := h2 _ (aGet_some_mem hv')
  show (r.1 ∈ NS ∧ r.2 ∈ NS) ∧ 0 ≤ (aGet (counts l) r).getD 0 ∧ (aGet (counts l) r).getD 0 ≤ _
  rw [hv']
  exact h3
end
section
variable {NS : List Str} {bk : List Page} {t : Tm} {day : Int}
theorem dues_told (g : WG NS bk t day) : ∀ q ∈ duesOf bk t day, ToldS NS bk q := fun q hq => by
  obtain ⟨n, ml, h, _⟩ := wv_walk g
  have hq' := hq
  unfold duesOf told at hq'
  obtain ⟨d, hd, rfl⟩ := List.mem_map.mp hq'
  exact ⟨dues_ok g _ hq, h.fo (sortD_mem.mp hd)⟩
theorem dues_few (g : WG NS bk t day) (hb : bk.length ≤ 24) : (duesOf bk t day).length ≤ 1944 := by
  obtain ⟨n, ml, h, _⟩ := wv_walk g
  have h3 : (duesOf bk t day).length = (Wk.walk bk t day).keys.length := by
    unfold duesOf told sortD
    rw [List.length_map, List.length_mergeSort]
  have h1 := nodup_le h.nd (m := allDues NS (upTo bk day)) fun d hd => allDues_mem (h.fk d hd).1 (h.fk d hd).2.1 (h.fk d hd).2.2.1
  have hu : (upTo bk day).length ≤ 24 := Nat.le_trans (List.length_filter_le _ _) hb
  have h2 : (allDues NS (upTo bk day)).length ≤ 1944 := by
    have h4 : ∀ a ∈ NS, (NS.flatMap fun b => (upTo bk day).map fun p => (⟨a, b, p⟩ : Due)).length ≤ 9 * 24 := fun a _ => by
      have := flat_len (fun b => (upTo bk day).map fun p => (⟨a, b, p⟩ : Due)) 24 NS fun b _ => by rw [List.length_map]; exact hu
      exact Nat.le_trans this (Nat.mul_le_mul_right _ g.en.hn)
    exact Nat.le_trans (flat_len _ _ NS h4) (Nat.mul_le_mul_right (9 * 24) g.en.hn)
  omega
theorem left_le (ht : t.1 ≤ 100 ∧ t.2 ≤ 100) (q : Told) : leftOf t q ≤ 100 := by
  unfold leftOf termOf
  split <;> omega
theorem lasts_in (g : WG NS bk t day) (b : SmB NS bk) : ∀ q ∈ withLasts bk t day, ToldS NS bk q.2 ∧ q.1.natAbs < 10 ^ 7 := fun q hq => by
  refine ⟨dues_told g _ (wl_mem hq), ?_⟩
  obtain ⟨n, ml, _, c, _⟩ := wc_walk g fun p hp => (b.pg p hp).1
  unfold withLasts at hq
  obtain ⟨r, hr, rfl⟩ := List.mem_map.mp hq
  have hr := List.mem_mergeSort.mp hr
  unfold lrows at hr
  obtain ⟨x, hx, rfl⟩ := List.mem_map.mp hr
  show (lastOf (Wk.walk bk t day) t day x.1).natAbs < 10 ^ 7
  unfold lastOf fuelOf
  have h1 := lastK_in ((Wk.walk bk t day).free x.1) ((leftOf t x.1).toNat + ((Wk.walk bk t day).bound - day).toNat) (leftOf t x.1) day
  have h2 := left_le g.tm x.1
  have h3 := bound_le c.mo
  have h4 := g.la
  omega
theorem lasts_few (g : WG NS bk t day) (hb : bk.length ≤ 24) : (withLasts bk t day).length ≤ 1944 := by
  have h := dues_few g hb
  unfold withLasts lrows
  rw [List.length_map, List.length_mergeSort, List.length_map]
  refine Nat.le_trans (List.length_filter_le _ _) ?_
  rw [List.length_zipIdx]
  exact h
theorem sum_paid : ∀ {l : List (Page × List Due)}, (∀ q ∈ l, q.2.length ≤ 40) → 0 ≤ (l.map paidN).sum ∧ (l.map paidN).sum ≤ 40 * l.length
  | [], _ => ⟨Int.le_refl _, Int.le_refl _⟩
  | q :: l, h => by
    have h1 := sum_paid fun r hr => h r (List.mem_cons_of_mem _ hr)
    have h2 := h q List.mem_cons_self
    rw [List.map_cons, List.sum_cons, List.length_cons]
    unfold paidN at h1 ⊢
    omega
theorem all_small (g : WG NS bk t day) (b : SmB NS bk) (far : Int) : Small (allD bk t day far) := by
  obtain ⟨n, ml, v, c, hn⟩ := wc_walk g fun p hp => (b.pg p hp).1
  have hb := b.ln
  have d1 := dues_told g
  have d2 := dues_few g hb
  have w1 := lasts_in g b
  have w2 := lasts_few g hb
  have hf := v.lf g.up.en
  have z1 : Sz 3098739 4 (.list ((duesOf bk t day).map toldD)) := (sz_lst (sza_map (N := 1944) (fun q hq => sz_told b (d1 q hq)) d2)).le (by decide) (Nat.le_refl _)
  have z2 : Sz 17800 4 (.list ((Wk.walk bk t day).marks.map markD)) := (sz_lst (sza_map (N := 40) (L := 440) (D := 3) (fun q hq => (sz_tup (sza_cons (b.page (upTo_mem (c.mks q hq).1)) (sza_cons ((c.mks q hq).2.le (Nat.le_refl _) (by decide)) sza_nil))).le (by decide) (Nat.le_refl _)) (by have := v.lk; omega))).le (by decide) (Nat.le_refl _)
  have z3 : Sz 100 4 (sumsD (Wk.walk bk t day)) := by
    have a1 := c.ma
    have a2 := c.co
    have a3 := c.st
    have a4 := c.me
    have a5 := sum_paid (l := (Wk.walk bk t day).answers) fun q hq => (v.an q hq).2.1
    have a6 := v.la
    exact (sz_tup (sza_cons (sz_int (by omega)) (sza_cons (sz_int (by omega)) (sza_cons (sz_int (by omega)) (sza_cons (sz_int (by omega)) (sza_cons (sz_int (by omega)) (sza_cons (sz_int (by omega)) sza_nil))))))).le (by decide) (by decide)
  have z4 : Sz 400000 4 (.list ((mattersOf (duesOf bk t day)).map matD)) := by
    obtain ⟨m1, m2⟩ := matters_in (NS := NS) (l := duesOf bk t day) fun q hq => ⟨(d1 q hq).dk.1, (d1 q hq).dk.2.1⟩
    exact (sz_lst (sza_map (N := 1944) (L := 201) (D := 1) (fun q hq => (sz_tup (D := 0) (sza_cons (b.name (m2 q hq).1.1) (sza_cons (b.name (m2 q hq).1.2) (sza_cons (sz_int (by have := (m2 q hq).2; omega)) sza_nil)))).le (by decide) (by decide)) (by omega))).le (by decide) (by decide)
  have z5 : Sz 876100 6 (.list ((answeredOf bk (Wk.walk bk t day)).map answD)) := by
    refine (sz_lst (sza_map (N := 40) (L := 21900) (D := 5) (fun q hq => ?_) ?_)).le (by decide) (Nat.le_refl _)
    · unfold answeredOf at hq
      obtain ⟨r, hr, rfl⟩ := List.mem_map.mp hq
      obtain ⟨a1, a2, a3⟩ := v.an r hr
      exact sz_answ b (upTo_mem a1) (by rw [List.length_mergeSort]; exact a2) fun d hd => by
        have := a3 d (List.mem_mergeSort.mp hd)
        exact ⟨this.1, this.2.1, upTo_mem this.2.2.1, this.2.2.2⟩
    · unfold answeredOf
      rw [List.length_map]
      have := v.la
      omega
  have r1 : ∀ q ∈ rudeP (duesOf bk t day) t, ToldS NS bk q := fun q hq => d1 q (List.mem_filter.mp hq).1
  have r2 : (rudeP (duesOf bk t day) t).length ≤ 1944 := Nat.le_trans (List.length_filter_le _ _) d2
  have z6 : Sz 1059500 4 (.list ((rudeP (duesOf bk t day) t).map rudeD)) := (sz_lst (sza_map (N := 1944) (fun q hq => sz_rude b (r1 q hq)) r2)).le (by decide) (Nat.le_refl _)
  have z7 : Sz 2993800 4 (.list ((rudeP (duesOf bk t day) t).map paperD)) := (sz_lst (sza_map (N := 1944) (fun q hq => sz_paper b (r1 q hq)) r2)).le (by decide) (Nat.le_refl _)
  have z8 : Sz 1607 4 (firstD bk t day) := by
    unfold firstD
    cases e : withLasts bk t day with
    | nil => exact sz_non.le (by decide) (by decide)
    | cons q l => exact sz_pair b (w1 q (by rw [e]; exact List.mem_cons_self)).1 (w1 q (by rw [e]; exact List.mem_cons_self)).2
  have z9 : ∀ q ∈ (standingOf (Hs.run (upTo bk day))).take 2, Sz 3127899 5 (PyData.list ((soonOf bk t day q.1 far).map pairD)) := fun q _ => by
    refine (sz_lst (sza_map (N := 1944) (L := 1607) (D := 4) (fun r hr => ?_) ?_)).le (by decide) (Nat.le_refl _)
    · exact sz_pair b (w1 r (List.mem_filter.mp hr).1).1 (w1 r (List.mem_filter.mp hr).1).2
    · exact Nat.le_trans (List.length_filter_le _ _) w2
  have za := sza_app (sza_app (sza_app (sza_cons (z1.le (Nat.le_refl _) (by decide : 4 ≤ 6)) (sza_cons (z2.le (Nat.le_refl _) (by decide)) (sza_cons (z3.le (Nat.le_refl _) (by decide)) (sza_cons (z4.le (Nat.le_refl _) (by decide)) sza_nil)))) (sza_cons z5 (sza_cons (z6.le (Nat.le_refl _) (by decide)) (sza_cons (z7.le (Nat.le_refl _) (by decide)) sza_nil)))) (sza_cons (z8.le (Nat.le_refl _) (by decide)) sza_nil)) (sza_map (N := 2) (fun q hq => (z9 q hq).le (Nat.le_refl _) (by decide : 5 ≤ 6)) (List.length_take_le _ _))
  have zz := sz_lst za
  exact ⟨zz.sh, zz.nd, Nat.le_trans zz.dp (by decide), Nat.le_trans zz.ln (by decide)⟩
end
end CB

/-! Part 49: texts (index, slice, +, join), int of a truth value, new lists, what is owned no more. -/
namespace CB
open PySem PySem.Spec PyProof.Rows L2
theorem nok_iff {n : Str} : Nok n ↔ ∀ c ∈ n.cps.toList, c < 0x110000 := by
  unfold Nok PyData.strOk
  rw [← Array.all_toList, List.all_eq_true]
  exact ⟨fun h c hc => of_decide_eq_true (h c hc), fun h c hc => decide_eq_true (h c hc)⟩
theorem nok_app {a b : Str} (ha : Nok a) (hb : Nok b) : Nok (a ++ b) := nok_iff.mpr fun c hc => by
  rw [Str.cps_append, Array.toList_append] at hc
  rcases List.mem_append.mp hc with h | h
  · exact nok_iff.mp ha c h
  · exact nok_iff.mp hb c h
theorem nok_cut {z : Str} {lo hi : Option Int} (h : Nok z) : Nok (cutS z lo hi) := nok_iff.mpr fun c hc => by
  unfold cutS at hc
  exact nok_iff.mp h c (List.mem_of_mem_drop (List.mem_of_mem_take (by simpa using hc)))
theorem nok_join : ∀ {ys : List Str}, (∀ y ∈ ys, Nok y) → Nok (Str.join "" ys)
  | [], _ => (show PyData.strOk _ = true by decide +kernel)
  | [x], h => h x List.mem_cons_self
  | x :: y :: ys, h => by
    have h1 : Nok (Str.join "" (y :: ys)) := nok_join fun z hz => h z (List.mem_cons_of_mem _ hz)
    exact nok_app (nok_app (h x List.mem_cons_self) (show PyData.strOk _ = true by decide +kernel)) h1
theorem str_len (n : Str) : n.length = n.cps.toList.length := by
  unfold Str.length
  rw [Array.length_toList]
theorem cut_len_front (z : Str) (n : Nat) : (cutS z none (some (n : Int))).length ≤ n := by
  unfold cutS
  rw [HT.sIx_nat]
  rw [str_len]
  show (((z.cps.toList.drop 0).take (min n z.length - 0)).toArray.toList).length ≤ n
  simp only [List.length_take, Nat.sub_zero]
  omega
theorem cut_len_back (z : Str) (n : Nat) : (cutS z (some (n : Int)) none).length ≤ z.length - n := by
  unfold cutS
  rw [HT.sIx_nat]
  rw [str_len]
  show (((z.cps.toList.drop (min n z.length)).take (z.length - min n z.length)).toArray.toList).length ≤ z.length - n
  simp only [List.length_take, List.length_drop]
  rw [← str_len]
  omega
section
variable {X : Cx} {G : List Sl} {own : OL} {a b e o : Expr} {es : List Expr} {pos : Pos}
theorem rd_ixS {K : PySem.W.Frag} {z : Str} {i : Int} {c : Nat} (hz : z.length ≤ sizeLine) (h : atI z.cps.toList i = some c) : RD K own rIxS (.d (.str z)) (.d (.int i)) (.d (.str ⟨#[c]⟩)) := rd_now fun R H u v w hx hy Q q => by
  exact ⟨z, i, c, dp_str (d_slr hx), dp_int (d_slr hy), hz, h, q _ (slr_d (.str _))⟩
theorem rd_addS {K : PySem.W.Frag} {x y : Str} (hz : x.length + y.length ≤ sizeLine) : RD K own (fun x y H Q => ∃ i j, x = .str i ∧ y = .str j ∧ i.length + j.length ≤ sizeLine ∧ Q (.str (i ++ j)) H) (.d (.str x)) (.d (.str y)) (.d (.str (x ++ y))) := rd_now fun R H u v w hx hy Q q => by
  exact ⟨x, y, dp_str (d_slr hx), dp_str (d_slr hy), hz, q _ (slr_d (.str _))⟩
theorem rd_catL {K : PySem.W.Frag} {ds es : List PyData} (hz : ds.length + es.length ≤ 1000000) : RD K own (rCatL K) (.d (.list ds)) (.d (.list es)) (.d (.list (ds ++ es))) := fun R H u v w ux uy Q q => by
  obtain ⟨l, xs, rfl, h1, h2⟩ := dp_lst (d_slr ux)
  obtain ⟨m, ys, rfl, h3, h4⟩ := dp_lst (d_slr uy)
  have n1 := dps_len h2
  have n2 := dps_len h4
  refine ⟨l, m, xs, ys, rfl, rfl, sql_up w.rh h1, sql_up w.rh h3, Nat.le_trans (by rw [n1, n2]; exact hz) (by decide), fun p hp => ?_⟩
  have g := Grow.imm (o := .lst (xs ++ ys)) w.rh hp
  exact q _ _ _ g (slr_d (.lst (SqL.of upd_same) (dps_up g.rr _ _ (dps_app h2 h4))))
theorem x_slS {lo hi : Option Expr} {l h : Option Int} {p2 : Pos} {z : Str} (ha : EX X G own a (.d (.str z))) (h1 : EO X G own lo l) (h2 : EO X G own hi h) (hz : z.length ≤ sizeLine) : EX X G own (.Subscript a (.Slice lo hi none p2) pos) (.d (.str (cutS z l h))) := by
  obtain ⟨t1, p1, e1⟩ := h1
  obtain ⟨t2, p2, e2⟩ := h2
  refine EX.of (pe_slice sl_str pe_w p1 p2) fun R H zz w hzz Q q => ha R H zz w hzz _ fun v R1 H1 g1 f1 => e1 R1 H1 zz (w.grow g1) (hold_up g1.rr hzz) _ fun R2 H2 g2 => e2 R2 H2 zz ((w.grow g1).grow g2) (hold_up g2.rr (hold_up g1.rr hzz)) _ fun R3 H3 g3 => ?_
  exact ⟨z, dp_str (d_slr f1), hz, q _ R3 H3 ((g1.trans g2).trans g3) (slr_d (.str _))⟩
theorem m_joinE {apos : Pos} {C D : OL → Sl → Prop} (ho : EX X G own o (.d (.str ""))) (he : EM X G own e C) (hd : ∀ o s, C o s → ∃ ys : List Str, s = .d (.list (ys.map .str)) ∧ (ys.map (·.length)).sum ≤ 16777216 ∧ D o (.d (.str (Str.join "" ys))))
    (hs : starEach [e] X.env = [(false, eval e X.env)] := by rfl) (hbase : attributeBase o "join" X.env (eval o X.env) = eval o X.env := by rfl) (hline : (apos.endLine == pos.line) = true := by rfl) : EM X G own (.Call (.Attribute o "join" apos) [e] [] pos) D :=
  EM.of (pe_join pe_w pe_w hs hbase hline) fun R H z w hz Q q => ho R H z w hz _ fun v R1 H1 g1 e1 => ⟨⟨_, dp_str (d_slr e1)⟩, he R1 H1 z (w.grow g1) (hold_up g1.rr hz) _ fun o s u R2 H2 c p2 e2 => by
    obtain ⟨ys, rfl, hl, d⟩ := hd o s c
    obtain ⟨p, us, rfl, h3, h4⟩ := dp_lst (d_slr e2)
    have h5 := dps_strs h4
    subst h5
    refine ⟨"", p, ys, dp_str (d_slr e1), rfl, .inl (sql_up p2.ow.rh h3), ?_, ?_⟩
    · have e0 : (("" : Str)).length = 0 := rfl
      rw [e0, Nat.mul_zero, Nat.add_zero]
      exact hl
    · rw [TL.join_eq]
      exact q o _ _ R2 H2 d (sep_trans (sep_of w g1) p2) (slr_d (.str _))⟩
theorem rc_intB {k : Bool} : RC X.K own (fun xs H Q => (∃ i, xs = [.int i] ∧ Q (.int i) H) ∨ ∃ k, xs = [.bl k] ∧ Q (.int (if k then 1 else 0)) H) [.d (.bool k)] (.d (.int (if k then 1 else 0))) := fun R H vs w h Q q => by
  match vs, h with
  | [v], ⟨e1, _⟩ => exact .inr ⟨k, by rw [dp_bool (d_slr e1)], q _ R H (Grow.refl w.rh) (slr_d (.int _))⟩
/-- list(t), t a tuple, owned -/
theorem m_listT {ds : List PyData} {p : Pos} (h : EX X G own e (.d (.tuple ds))) (hm : X.mg "list" = none) (hg : Gl X "list" := by rfl) (he : starEach [e] X.env = (false, eval e X.env) :: starEach [] X.env := by rfl) (hpl : (backTo pos (starEach [] X.env)).any (·.1) = false := by rfl) :
    EM X G own (.Call (.Name "list" p) [e] [] pos) fun o t => ∃ r, o = (r, asL X.K ds) :: own ∧ t = .v (.ref r) :=
  EM.of (pe_callTy call_list_of hg hm (by first | rfl | decide +kernel) pa_w (by decide) (by decide) he hpl) fun R H z w hz Q q => (a_cons h a_nil he : EA X G own [e] [_]) R H z w hz _ fun vs R1 H1 g1 e1 => by
    match vs, e1 with
    | [v], ⟨e1, _⟩ =>
      obtain ⟨a, us, rfl, h1, h2⟩ := dp_tup (d_slr e1)
      refine ⟨a, us, rfl, .inr (sqt_up g1.rh h1), fun r hr => ?_⟩
      exact q _ _ _ _ _ ⟨r, rfl, rfl⟩ (((sep_of w g1)).new (A := asL X.K ds) hr ⟨us, rfl, h2⟩) rfl
/-- what is owned no more -/
theorem sep_drop {R0 H0 R H : Hp} {F0 : List Addr} {r : OL} (s : Sep R0 H0 F0 (own ++ r) R H) (h : ∀ q ∈ r, q.1 ∉ F0) : Sep R0 H0 F0 own R H := by
  refine ⟨s.ow.sub.1, s.rr, s.old, fun a o e n => ?_, fun q hq => s.fr q (List.mem_append_left _ hq), fun a ha => ?_⟩
  · refine s.keep a o e fun hm => ?_
    rw [List.map_append] at hm
    rcases List.mem_append.mp hm with z | z
    · exact n z
    · obtain ⟨q, hq, rfl⟩ := List.mem_map.mp z
      rcases s.fr q (List.mem_append_right _ hq) with y | y
      · rw [y] at e
        cases e
      · exact h q hq y
  · have hm := s.all a ha
    rw [List.map_append] at hm
    rcases List.mem_append.mp hm with z | z
    · exact z
    · obtain ⟨q, hq, rfl⟩ := List.mem_map.mp z
      exact absurd ha (h q hq)
theorem sep_head {R0 H0 R H : Hp} {p : Addr} {A : As} {r : OL} (s : Sep R0 H0 [p] ((p, A) :: r) R H) : Sep R0 H0 [p] [(p, A)] R H :=
  sep_drop (own := [(p, A)]) (r := r) s fun q hq hm => by
    have nd := s.ow.nd
    rw [List.map_cons] at nd
    have e := List.mem_singleton.mp hm
    exact (List.nodup_cons.mp nd).1 (by have := List.mem_map_of_mem (f := (·.1)) hq; rwa [e] at this)
end
section
variable {X : Cx} {B : Bs} {G : List Sl} {own : OL} {D : Ends} {rest : List Stmt}
theorem hold_put {K : PySem.W.Frag} {R : Hp} {s : Sl} {y : V} (hs : SlR K R s (some y)) {i : Nat} {z : L2.St} (h : Hold K R G z) (hz : z[i]? = some (some y)) : Hold K R (G.set i s) z := by
  have h1 := hold_set hs i h
  have e : z.set i (some y) = z := by
    obtain ⟨hi, e⟩ := List.getElem?_eq_some_iff.mp hz
    rw [← e]
    exact List.set_getElem_self hi
  rw [e] at h1
  exact h1
/-- an owned list in a slot is data from now on -/
theorem g_freeze {p : Addr} {ds : List PyData} (i : Nat) (hG : G[i]? = some (.v (.ref p)) := by rfl) (hF : ∀ a ∈ B.F, a ∈ own.map (·.1)) (q : Go X B (G.set i (.d (.list ds))) own D rest) : Go X B G ((p, asL X.K ds) :: own) D rest := fun R H z s hz => by
  obtain ⟨h1, ob, h2, vs, rfl, h3⟩ := s.ow.get (i := 0) rfl
  have nd := s.ow.nd
  rw [List.map_cons] at nd
  have s2 := s.freeze (fun hm => (List.nodup_cons.mp nd).1 (hF p hm)) h2
  obtain ⟨y, e1, e2⟩ := hold_get hz hG
  have e3 : y = some (.ref p) := e2
  rw [e3] at e1
  exact q _ H z s2 (hold_put (slr_d (.lst (SqL.of upd_same) (dps_up (same_new h1) _ _ h3))) (hold_up (same_new h1) hz) e1)
end
end CB

/-! Part 50: _law_page. -/
namespace CB
open PySem PySem.Spec PyProof.Rows L2
/-- a draw below many is made, n draws since f -/
def DrawC (K : PySem.W.Frag) (p : Addr) (rest : OL) (f : Feed) (n many : Int) : OL → Sl → Prop := fun o r => ∃ f' i, o = (p, asT K (feedT f')) :: rest ∧ FdTo n f f' ∧ 0 ≤ i ∧ i < many ∧ r = .d (.int i)
def HomeC (K : PySem.W.Frag) (p : Addr) (rest : OL) (f : Feed) (n : Int) : OL → Sl → Prop := fun o r => ∃ f' h, o = (p, asT K (feedT f')) :: rest ∧ FdTo n f f' ∧ r = .d (intsD h) ∧ h.length ≤ 7 ∧ ∀ i ∈ h, 0 ≤ i ∧ i < 7
section
variable {X : Cx} {G : List Sl} {own : OL} {a b : Expr} {pos p1 : Pos} {p : Addr} {rest : OL} {f f1 : Feed} {n many : Int}
theorem m_drawM {C : OL → Sl → Prop} (T : Tx X.K X.mg) (hr : Room 1 X.A) (ha : EX X G own a (.v (.ref p))) (hb : EM X G own b C) (hc : ∀ o s, C o s → ∃ f1 many1, o = (p, asT X.K (feedT f1)) :: rest ∧ s = .d (.int many1) ∧ FdTo n f f1 ∧ 0 < many1 ∧ many1 ≤ many ∧ many1 < 1000000) (ht0 : 0 ≤ f.turn) (ht1 : f.turn + n < 1000000)
    (hg : Gl X "_law_draw" := by rfl) (he : starEach [a, b] X.env = (false, eval a X.env) :: starEach [b] X.env := by rfl) (he2 : starEach [b] X.env = (false, eval b X.env) :: starEach [] X.env := by rfl) (hpl : (backTo pos (starEach [b] X.env)).any (·.1) = false := by rfl) :
    EM X G own (.Call (.Name "_law_draw" p1) [a, b] [] pos) (DrawC X.K p rest f (n + 1) many) :=
  m_draw T hr ha hb (fun o s c => by
    obtain ⟨f1, m1, rfl, rfl, h1, h2, h3, h4⟩ := hc o s c
    exact ⟨f1, m1, rest, rfl, rfl, h2, h4, h1.ok ht0 ht1, fun f' i d => ⟨f', i, rfl, h1.draw d, d.lo, Int.lt_of_lt_of_le d.hi h3, rfl⟩⟩) hg he he2 hpl
theorem m_draw1 (T : Tx X.K X.mg) (hr : Room 1 X.A) (ha : EX X G ((p, asT X.K (feedT f1)) :: rest) a (.v (.ref p))) (hb : EX X G ((p, asT X.K (feedT f1)) :: rest) b (.d (.int many))) (h1 : FdTo n f f1) (h0 : 0 < many) (h2 : many < 1000000) (ht0 : 0 ≤ f.turn) (ht1 : f.turn + n < 1000000)
    (hg : Gl X "_law_draw" := by rfl) (he : starEach [a, b] X.env = (false, eval a X.env) :: starEach [b] X.env := by rfl) (he2 : starEach [b] X.env = (false, eval b X.env) :: starEach [] X.env := by rfl) (hpl : (backTo pos (starEach [b] X.env)).any (·.1) = false := by rfl) :
    EM X G ((p, asT X.K (feedT f1)) :: rest) (.Call (.Name "_law_draw" p1) [a, b] [] pos) (DrawC X.K p rest f (n + 1) many) :=
  m_drawM T hr ha (m_x hb) (fun o s ⟨e1, e2⟩ => ⟨f1, many, e1, e2, h1, h0, Int.le_refl _, h2⟩) ht0 ht1 hg he he2 hpl
/-- 1 + a draw -/
theorem m_succ {j : Int} (hj : EX X G own a (.d (.int j))) (h : EM X G own b (DrawC X.K p rest f n many)) : EM X G own (.BinOp a .Add b pos) fun o r => ∃ f' i, o = (p, asT X.K (feedT f')) :: rest ∧ FdTo n f f' ∧ j ≤ i ∧ i < j + many ∧ r = .d (.int i) :=
  m_op op_add (m_x hj) (C' := fun o x => DrawC X.K p rest f n many) (fun o x ⟨e1, e2⟩ => by subst e1; exact h) fun o x o' y ⟨e1, e2⟩ ⟨f', i, e3, h1, h2, h3, e4⟩ => by
    subst e2 e4
    exact ⟨_, rd_Ii, f', j + i, e3, h1, by omega, by omega, rfl⟩
theorem m_home (T : Tx X.K X.mg) (hr : Room 2 X.A) (ha : EX X G ((p, asT X.K (feedT f1)) :: rest) a (.v (.ref p))) (h1 : FdTo n f f1) (ht0 : 0 ≤ f.turn) (ht1 : f.turn + n < 900000)
    (hg : Gl X "_law_home" := by rfl) (he : starEach [a] X.env = (false, eval a X.env) :: starEach [] X.env := by rfl) (hpl : (backTo pos (starEach [] X.env)).any (·.1) = false := by rfl) :
    EM X G ((p, asT X.K (feedT f1)) :: rest) (.Call (.Name "_law_home" p1) [a] [] pos) (HomeC X.K p rest f (n + 8)) := by
  refine m_call (k := 2) (n := 1) (C := fun o ss => o = (p, asT X.K (feedT f1)) :: rest ∧ ss = [.v (.ref p)]) (g_law_home T) hr (ma_x (a_cons ha a_nil he)) ?_ hg (by decide) he hpl
  rintro o ss ⟨rfl, rfl⟩
  refine ⟨[(p, asT X.K (feedT f1))], rest, List.Perm.refl _, _, ⟨p, f1, rfl, rfl, by have := h1.t0; omega, by have := h1.t1; omega, h1.a0, rfl⟩, ?_⟩
  rintro o s ⟨f', h, rfl, h2, rfl, h3, h4⟩
  exact ⟨f', h, rfl, h1.trans h2, rfl, h3, h4⟩
end
theorem FdTo.le {n m : Int} {f f' : Feed} (h : FdTo n f f') (hm : n ≤ m) : FdTo m f f' := ⟨h.ce, h.t0, by have := h.t1; omega, h.a0⟩
theorem ix_names {ns : List Str} {i : Int} (h0 : 0 ≤ i) (h1 : i < ns.length) : ∃ n ∈ ns, atI (ns.map PyData.str) i = some (.str n) := by
  obtain ⟨j, rfl⟩ := Int.eq_ofNat_of_zero_le h0
  have h3 : j < ns.length := by omega
  exact ⟨ns[j], List.getElem_mem h3, atI_nat (by rw [List.getElem?_map, List.getElem?_eq_getElem h3]; rfl)⟩
/-- a page of these names, of this day, not long -/
structure PgOk (ns : List Str) (day : Int) (q : Page) : Prop where
  dy : q.day = day
  sm : q.sm
  nm : ∀ n ∈ q.names, n ∈ ns
section
variable {P : Program} {w : World} {K : PySem.W.Frag} {mg : Str → Option Value} {base : Heap}
theorem sc_law_page : FnScope ["_law_feed_here", "_law_names_here", "_law_day", "_law_at", "_law_a", "_law_b", "_law_way", "_law_home_here", "_law_long"] ["_law_feed_here", "_law_names_here", "_law_day"] (defScope s_law_page) := ⟨rfl, rfl, rfl, by decide +kernel, rfl, by decide +kernel, by decide +kernel⟩
theorem g_law_page (T : Tx K mg) : Gd P w K mg base 3 "_law_page" 3 (spM K fun oc ss C => ∃ p f ns day, oc = [(p, asT K (feedT f))] ∧ ss = [.v (.ref p), .d (.list (ns.map .str)), .d (.int day)] ∧ 2 ≤ ns.length ∧ ns.length ≤ 100 ∧ 0 ≤ f.turn ∧ f.turn < 800000 ∧ 0 ≤ f.at_ ∧ C = fun o r => ∃ f' q, o = [(p, asT K (feedT f'))] ∧ FdTo 20 f f' ∧ r = .d q.enc ∧ PgOk ns day q) := by
  obtain ⟨fd, F⟩ := T.fun_law_page
  refine gd_mk F rfl (okM (k := 2) F sc_law_page (fun _ _ _ ⟨_, _, _, _, _, e, _⟩ => by rw [e]; rfl) ?_) T.glo_law_page fun _ _ _ _ _ _ us hl => match us, hl with | [_, _, _], _ => rfl
  rintro cd A outer s H0 E hr oc ss C B D ⟨p, f, ns, day, rfl, rfl, hn2, hn, ht0, ht1, ha0, rfl⟩ hF hD
  have hs := FdTo.self ha0
  have hr1 := hr.mono (show 1 ≤ 2 by decide)
  have hlen : (ns.map PyData.str).length = ns.length := List.length_map _
  -- at
  refine g_setM sc_law_page.nd 3 (m_draw1 (many := (ns.length : Int)) T hr1 (x_var 0) (x_is (x_cb call_len_seq T.free_len rc_lenL (a_cons (x_var 1) a_nil)) (by rw [hlen])) hs (by omega) (by omega) ht0 (by omega)) ?_
  rintro o r ⟨f1, i, rfl, h1, hi0, hi1, rfl⟩
  obtain ⟨na, hna, ea⟩ := ix_names hi0 hi1
  -- a, b
  refine g_parM (C := fun o ss => ∃ f2 nb, o = [(p, asT K (feedT f2))] ∧ FdTo 2 f f2 ∧ nb ∈ ns ∧ ss = [.d (.str na), .d (.str nb)]) sc_law_page.nd 4 5 (ma_le (ma_cons (C' := fun _ _ o ss => ∃ f2 nb, o = [(p, asT K (feedT f2))] ∧ FdTo 2 f f2 ∧ nb ∈ ns ∧ ss = [.d (.str nb)]) (m_x (x_ixL (x_var 1) (x_var 3) ea)) (fun o s c1 => ?_)) ?_) ?_
  · obtain ⟨e1, e2⟩ := c1
    subst e1
    refine ma_le (ma_cons (C := fun o s => ∃ f2 nb, o = [(p, asT K (feedT f2))] ∧ FdTo 2 f f2 ∧ nb ∈ ns ∧ s = .d (.str nb)) (C' := fun o _ o' ss => o' = o ∧ ss = []) (m_ix (C := Is [(p, asT K (feedT f1))] (.d (.list (ns.map PyData.str)))) (C' := fun _ _ o s => ∃ f2 i, o = [(p, asT K (feedT f2))] ∧ FdTo 2 f f2 ∧ 0 ≤ i ∧ i < (ns.length : Int) ∧ s = .d (.int i)) ix_list (m_x (x_var 1)) (fun o x c3 => ?_) ?_) (fun o s _ => ma_nil)) ?_
    · obtain ⟨e3, e4⟩ := c3
      subst e3
      refine m_op (C := fun o s => ∃ f2 i, o = [(p, asT K (feedT f2))] ∧ FdTo 2 f f2 ∧ 0 ≤ i ∧ s = .d (.int i)) (C' := fun o _ o' s => o' = o ∧ s = .d (.int (ns.length : Int))) op_mod (m_op (C := Is [(p, asT K (feedT f1))] (.d (.int (i + 1)))) (C' := fun _ _ => DrawC K p [] f (1 + 1) ((ns.length : Int) - 1)) op_add (m_x (x_add (x_var 3) x_int)) (fun o x c5 => ?_) ?_) (fun o x _ => m_x (x_is (x_cb call_len_seq T.free_len rc_lenL (a_cons (x_var 1) a_nil)) (by rw [hlen]))) ?_
      · obtain ⟨e5, e6⟩ := c5
        subst e5
        exact m_draw1 T hr1 (x_var 0) (x_sub (x_is (x_cb call_len_seq T.free_len rc_lenL (a_cons (x_var 1) a_nil)) (by rw [hlen])) x_int) h1 (by omega) (by omega) ht0 (by omega)
      · rintro o x o' y ⟨e7, rfl⟩ ⟨f2, j, rfl, h2, hj0, hj1, rfl⟩
        exact ⟨_, rd_Ii, f2, _, rfl, h2, by omega, rfl⟩
      · rintro o x o' y ⟨f2, j, rfl, h2, hj0, rfl⟩ ⟨rfl, rfl⟩
        exact ⟨_, rd_IC (by omega), f2, _, rfl, h2, Int.emod_nonneg _ (by omega), Int.emod_lt_of_pos _ (by omega), rfl⟩
    · rintro o x o' y ⟨rfl, rfl⟩ ⟨f2, j, rfl, h2, hj0, hj1, rfl⟩
      obtain ⟨nb, hnb, eb⟩ := ix_names hj0 hj1
      exact ⟨_, rd_ixL eb, f2, nb, rfl, h2, hnb, rfl⟩
    · rintro o ss ⟨o1, s1, t1, ⟨f2, nb, rfl, h2, hnb, rfl⟩, ⟨rfl, rfl⟩, rfl⟩
      exact ⟨f2, nb, rfl, h2, hnb, rfl⟩
  · rintro o ss ⟨o1, s1, t1, ⟨rfl, rfl⟩, ⟨f2, nb, rfl, h2, hnb, rfl⟩, rfl⟩
    exact ⟨f2, nb, rfl, h2, hnb, rfl⟩
  rintro o ss ⟨f2, nb, rfl, h2, hnb, rfl⟩
  refine ⟨_, _, rfl, ?_⟩
  -- way
  refine g_setM sc_law_page.nd 6 (m_draw1 (many := 16) T hr1 (x_var 0) x_int h2 (by decide) (by decide) ht0 (by omega)) ?_
  rintro o r ⟨f3, way, rfl, h3, hw0, hw1, rfl⟩
  have fin : ∀ (f' : Feed) (q : Page), FdTo 20 f f' → PgOk ns day q → ∀ v R H, SepB B [(p, asT K (feedT f'))] R H → SlR K R (.d q.enc) (some v) → D.rt v H := fun f' q h1 h2 v R H p e => hD.1 _ _ v R H ⟨f', q, rfl, h1, rfl, h2⟩ p e
  refine g_if (k := decide (way < 6)) (x_cmpT op_lt rd_Ib rfl (x_var 6) x_int) (fun hb => ?_) fun hb => g_end ?_
  · have hw6 : way < 6 := of_decide_eq_true hb
    -- home, long
    refine g_parM (C := fun o ss => ∃ f4 h long, o = [(p, asT K (feedT f4))] ∧ FdTo 13 f f4 ∧ h.length ≤ 7 ∧ (∀ i ∈ h, 0 ≤ i ∧ i < 7) ∧ 1 ≤ long ∧ long ≤ 60 ∧ ss = [.d (intsD h), .d (.int long)]) sc_law_page.nd 7 8 (ma_le (ma_cons (C := HomeC K p [] f (2 + 1 + 8)) (C' := fun _ s o ss => ∃ f4 long, o = [(p, asT K (feedT f4))] ∧ FdTo 13 f f4 ∧ 1 ≤ long ∧ long ≤ 60 ∧ ss = [.d (.int long)]) (m_home T hr (x_var 0) h3 ht0 (by omega)) (fun o s c => ?_)) ?_) ?_
    · obtain ⟨f4, h, rfl, h4, -, -, -⟩ := c
      refine ma_le (ma_cons (C' := fun o _ o' ss => o' = o ∧ ss = []) (m_succ (p := p) (rest := []) (f := f) (n := 2 + 1 + 8 + 1 + 1) (many := 60) x_int (m_drawM (C := fun o s => ∃ f5 m, o = [(p, asT K (feedT f5))] ∧ FdTo (2 + 1 + 8 + 1) f f5 ∧ 0 < m ∧ m ≤ 60 ∧ s = .d (.int m)) T hr1 (x_var 0) (m_ix (C := Is [(p, asT K (feedT f4))] (.d (.list [.int 4, .int 60]))) (C' := fun _ _ => DrawC K p [] f (2 + 1 + 8 + 1) 2) ix_list (m_x (x_lst (ds := [.int 4, .int 60]) (a_cons x_int (a_cons x_int a_nil)))) (fun o x c3 => ?_) ?_) ?_ ht0 (by omega))) (fun o s _ => ma_nil)) ?_
      · obtain ⟨e3, e4⟩ := c3
        subst e3
        exact m_draw1 T hr1 (x_var 0) x_int h4 (by decide) (by decide) ht0 (by omega)
      · rintro o x o' y ⟨rfl, rfl⟩ ⟨f5, j, rfl, h5, hj0, hj1, rfl⟩
        have : j = 0 ∨ j = 1 := by omega
        rcases this with rfl | rfl
        · exact ⟨_, rd_ixL (d := .int 4) rfl, f5, 4, rfl, h5, by decide, by decide, rfl⟩
        · exact ⟨_, rd_ixL (d := .int 60) rfl, f5, 60, rfl, h5, by decide, by decide, rfl⟩
      · rintro o s ⟨f5, m, rfl, h5, hm0, hm1, rfl⟩
        exact ⟨f5, m, rfl, rfl, h5, hm0, hm1, by omega⟩
      · rintro o ss ⟨o1, s1, t1, ⟨f5, m, rfl, h5, hm0, hm1, rfl⟩, ⟨rfl, rfl⟩, rfl⟩
        exact ⟨f5, m, rfl, h5.le (by omega), hm0, by omega, rfl⟩
    · rintro o ss ⟨o1, s1, t1, ⟨f4, h, rfl, h4, rfl, hh1, hh2⟩, ⟨f5, long, rfl, h5, hl1, hl2, rfl⟩, rfl⟩
      exact ⟨f5, h, long, rfl, h5, hh1, hh2, hl1, hl2, rfl⟩
    rintro o ss ⟨f4, h, long, rfl, h4, hh1, hh2, hl1, hl2, rfl⟩
    refine ⟨_, _, rfl, ?_⟩
    have hsm : h.length ≤ 7 ∧ ∀ i ∈ h, i.natAbs < 10 ^ 7 := ⟨hh1, fun i hi => by have := hh2 i hi; omega⟩
    have h20 := h4.le (show (13 : Int) ≤ 20 by decide)
    have two : ∀ n ∈ [na, nb], n ∈ ns := fun n hn => by
      rcases List.mem_cons.mp hn with rfl | hn
      · exact hna
      · rw [List.mem_singleton.mp hn]; exact hnb
    have one : ∀ n ∈ [na], n ∈ ns := fun n hn => by rw [List.mem_singleton.mp hn]; exact hna
    refine g_if (k := decide (way = 1)) (x_cmpT op_eq rd_eqI rfl (x_var 6) x_int) (fun hb => ?_) fun hb => g_end ?_
    · exact g_ret (x_tup (ds := [.str "part", .int day, .str na, .str nb, intsD h]) (a_cons x_str (a_cons (x_var 2) (a_cons (x_var 4) (a_cons (x_var 5) (a_cons (x_var 7) a_nil)))))) (fin f4 (.part day na nb h) h20 ⟨rfl, hsm, two⟩)
    · have hne : way ≠ 1 := of_decide_eq_false hb
      have hcase : way = 0 ∨ way = 2 ∨ way = 3 ∨ way = 4 ∨ way = 5 := by omega
      let k1 : List PyData := [.str "house", .str "", .str "join", .str "home", .str "mourn", .str "ahead"]
      let k2 : List PyData := [intsD h, .str na, .str nb, intsD h, .int long, .str nb]
      rcases hcase with rfl | rfl | rfl | rfl | rfl
      · exact g_ret (x_tup (ds := [.str "house", .int day, .str na, intsD h]) (a_cons (x_ixL (x_lst (ds := k1) (a_cons x_str (a_cons x_str (a_cons x_str (a_cons x_str (a_cons x_str (a_cons x_str a_nil))))))) (x_var 6)) (a_cons (x_var 2) (a_cons (x_var 4) (a_cons (x_ixL (x_lst (ds := k2) (a_cons (x_var 7) (a_cons (x_var 4) (a_cons (x_var 5) (a_cons (x_var 7) (a_cons (x_var 8) (a_cons (x_var 5) a_nil))))))) (x_var 6)) a_nil))))) (fin f4 (.house day na h) h20 ⟨rfl, hsm, one⟩)
      · exact g_ret (x_tup (ds := [.str "join", .int day, .str na, .str nb]) (a_cons (x_ixL (x_lst (ds := k1) (a_cons x_str (a_cons x_str (a_cons x_str (a_cons x_str (a_cons x_str (a_cons x_str a_nil))))))) (x_var 6)) (a_cons (x_var 2) (a_cons (x_var 4) (a_cons (x_ixL (x_lst (ds := k2) (a_cons (x_var 7) (a_cons (x_var 4) (a_cons (x_var 5) (a_cons (x_var 7) (a_cons (x_var 8) (a_cons (x_var 5) a_nil))))))) (x_var 6)) a_nil))))) (fin f4 (.join day na nb) h20 ⟨rfl, trivial, two⟩)
      · exact g_ret (x_tup (ds := [.str "home", .int day, .str na, intsD h]) (a_cons (x_ixL (x_lst (ds := k1) (a_cons x_str (a_cons x_str (a_cons x_str (a_cons x_str (a_cons x_str (a_cons x_str a_nil))))))) (x_var 6)) (a_cons (x_var 2) (a_cons (x_var 4) (a_cons (x_ixL (x_lst (ds := k2) (a_cons (x_var 7) (a_cons (x_var 4) (a_cons (x_var 5) (a_cons (x_var 7) (a_cons (x_var 8) (a_cons (x_var 5) a_nil))))))) (x_var 6)) a_nil))))) (fin f4 (.home day na h) h20 ⟨rfl, hsm, one⟩)
      · exact g_ret (x_tup (ds := [.str "mourn", .int day, .str na, .int long]) (a_cons (x_ixL (x_lst (ds := k1) (a_cons x_str (a_cons x_str (a_cons x_str (a_cons x_str (a_cons x_str (a_cons x_str a_nil))))))) (x_var 6)) (a_cons (x_var 2) (a_cons (x_var 4) (a_cons (x_ixL (x_lst (ds := k2) (a_cons (x_var 7) (a_cons (x_var 4) (a_cons (x_var 5) (a_cons (x_var 7) (a_cons (x_var 8) (a_cons (x_var 5) a_nil))))))) (x_var 6)) a_nil))))) (fin f4 (.mourn day na long) h20 ⟨rfl, ⟨by omega, hl2⟩, one⟩)
      · exact g_ret (x_tup (ds := [.str "ahead", .int day, .str na, .str nb]) (a_cons (x_ixL (x_lst (ds := k1) (a_cons x_str (a_cons x_str (a_cons x_str (a_cons x_str (a_cons x_str (a_cons x_str a_nil))))))) (x_var 6)) (a_cons (x_var 2) (a_cons (x_var 4) (a_cons (x_ixL (x_lst (ds := k2) (a_cons (x_var 7) (a_cons (x_var 4) (a_cons (x_var 5) (a_cons (x_var 7) (a_cons (x_var 8) (a_cons (x_var 5) a_nil))))))) (x_var 6)) a_nil))))) (fin f4 (.ahead day na nb) h20 ⟨rfl, trivial, two⟩)
  · have two : ∀ n ∈ [na, nb], n ∈ ns := fun n hn => by
      rcases List.mem_cons.mp hn with rfl | hn
      · exact hna
      · rw [List.mem_singleton.mp hn]; exact hnb
    have h20 := h3.le (show (2 + 1 : Int) ≤ 20 by decide)
    by_cases h8 : 8 < way
    · refine g_ret (x_tup (ds := [.str "visit", .int day, .str na, .str nb]) (a_cons (x_ixL (ds := [.str "card", .str "visit"]) (i := 1) (x_lst (a_cons x_str (a_cons x_str a_nil))) (x_is (x_ct call_int1 T.free_int rc_intB (a_cons (x_cmp op_gt rd_Ib rfl (x_var 6) x_int) a_nil)) ?_)) (a_cons (x_var 2) (a_cons (x_var 4) (a_cons (x_var 5) a_nil))))) (fin f3 (.visit day na nb) h20 ⟨rfl, trivial, two⟩)
      simp [h8]
    · refine g_ret (x_tup (ds := [.str "card", .int day, .str na, .str nb]) (a_cons (x_ixL (ds := [.str "card", .str "visit"]) (i := 0) (x_lst (a_cons x_str (a_cons x_str a_nil))) (x_is (x_ct call_int1 T.free_int rc_intB (a_cons (x_cmp op_gt rd_Ib rfl (x_var 6) x_int) a_nil)) ?_)) (a_cons (x_var 2) (a_cons (x_var 4) (a_cons (x_var 5) a_nil))))) (fin f3 (.card day na nb) h20 ⟨rfl, trivial, two⟩)
      simp [h8]
end
end CB

/-! Part 51: _law_book. -/
namespace CB
open PySem PySem.Spec PyProof.Rows L2
section
variable {X : Cx} {G : List Sl} {own : OL} {e : Expr} {es : List Expr} {s : Sl}
theorem ma_head {C : OL → List Sl → Prop} (h : EX X G own e s) (ht : EMA X G own es C) (hs : starEach (e :: es) X.env = (false, eval e X.env) :: starEach es X.env := by rfl) : EMA X G own (e :: es) fun o ss => ∃ t, C o t ∧ ss = s :: t :=
  ma_le (ma_cons (C' := fun _ _ => C) (m_x h) (fun o t ⟨e1, e2⟩ => by subst e1; exact ht) hs) fun o ss ⟨o1, s1, t1, ⟨e1, e2⟩, c, e3⟩ => ⟨t1, c, by rw [e3, e2]⟩
theorem ma_one {C : OL → Sl → Prop} (h : EM X G own e C) (hs : starEach [e] X.env = (false, eval e X.env) :: starEach [] X.env := by rfl) : EMA X G own [e] fun o ss => ∃ t, C o t ∧ ss = [t] :=
  ma_le (ma_cons (C' := fun o _ o' ss => o' = o ∧ ss = []) h (fun o s _ => ma_nil) hs) fun o ss ⟨o1, s1, t1, c, ⟨e1, e2⟩, e3⟩ => ⟨s1, by rw [e1]; exact c, by rw [e3, e2]⟩
/-- first what turns things, then the others -/
theorem ma_then {C : OL → Sl → Prop} {D : OL → List Sl → Prop} (h : EM X G own e C) (ht : ∀ o s, C o s → EMA X G o es fun o' t => D o' (s :: t)) (hs : starEach (e :: es) X.env = (false, eval e X.env) :: starEach es X.env := by rfl) : EMA X G own (e :: es) D :=
  ma_le (ma_cons (C' := fun _ s o t => D o (s :: t)) h ht hs) fun o ss ⟨o1, s1, t1, _, c, e3⟩ => by rw [e3]; exact c
end
theorem cut_sub {α : Type} {xs : List α} {l h : Option Int} {x : α} (hx : x ∈ cutA xs l h) : x ∈ xs := List.mem_of_mem_drop (List.mem_of_mem_take hx)
/-- a page of a book that is drawn -/
structure PgL (ns : List Str) (q : Page) : Prop where
  sm : q.sm
  nm : ∀ n ∈ q.names, n ∈ ns
  dy : 0 ≤ q.day ∧ q.day ≤ 10000
section
variable {P : Program} {w : World} {K : PySem.W.Frag} {mg : Str → Option Value} {base : Heap}
theorem sc_law_book : FnScope ["_law_feed_here", "_law_names_here", "_law_many", "_law_wide", "_law_begin", "_law_pages", "_law_name", "_law_k"] ["_law_feed_here", "_law_names_here", "_law_many", "_law_wide"] (defScope s_law_book) := ⟨rfl, rfl, rfl, by decide +kernel, rfl, by decide +kernel, by decide +kernel⟩
theorem g_law_book (T : Tx K mg) : Gd P w K mg base 5 "_law_book" 4 (spM K fun oc ss C => ∃ p f ns many wide, oc = [(p, asT K (feedT f))] ∧ ss = [.v (.ref p), .d (.list (ns.map .str)), .d (.int many), .d (.int wide)] ∧ 2 ≤ ns.length ∧ ns.length ≤ 9 ∧ (∀ n ∈ ns, Nok n) ∧ 0 ≤ many ∧ many ≤ 16 ∧ 1 ≤ wide ∧ wide ≤ 100 ∧ 0 ≤ f.turn ∧ f.turn < 700000 ∧ 0 ≤ f.at_ ∧
    C = fun o r => ∃ (f' : Feed) (l : List Page), o = [(p, asT K (feedT f'))] ∧ FdTo 500 f f' ∧ r = .d (.tuple ((inOrder l).map Page.enc)) ∧ (∀ q ∈ l, PgL ns q) ∧ l.length ≤ 21 ∧ ∃ d n h, Page.house d n h ∈ l) := by
  obtain ⟨fd, F⟩ := T.fun_law_book
  refine gd_mk F rfl (okM (k := 4) F sc_law_book (fun _ _ _ ⟨_, _, _, _, _, _, e, _⟩ => by rw [e]; rfl) ?_) T.glo_law_book fun _ _ _ _ _ _ us hl => match us, hl with | [_, _, _, _], _ => rfl
  rintro cd A outer s H0 E hr oc ss C B D ⟨p, f, ns, many, wide, rfl, rfl, hn2, hn9, hnok, hm0, hm1, hw1, hw2, ht0, ht1, ha0, rfl⟩ hF hD
  have hs := FdTo.self ha0
  have hr1 := hr.mono (show 1 ≤ 4 by decide)
  have hlen : (ns.map PyData.str).length = ns.length := List.length_map _
  -- begin
  refine g_setM sc_law_book.nd 4 (C := fun o r => ∃ f1 b, o = [(p, asT K (feedT f1))] ∧ FdTo 2 f f1 ∧ 0 ≤ b ∧ b ≤ 9000 ∧ r = .d (.int b)) (m_ix (C := fun o r => ∃ f1 b, o = [(p, asT K (feedT f1))] ∧ FdTo 1 f f1 ∧ 0 ≤ b ∧ b ≤ 9000 ∧ r = .d (.list [.int 0, .int 5, .int b])) (C' := fun o _ o' r => ∃ f1 i, o' = [(p, asT K (feedT f1))] ∧ FdTo 2 f f1 ∧ 0 ≤ i ∧ i < 3 ∧ r = .d (.int i)) ix_list (m_lst (C := fun o ss => ∃ f1 b, o = [(p, asT K (feedT f1))] ∧ FdTo 1 f f1 ∧ 0 ≤ b ∧ b ≤ 9000 ∧ ss = [.d (.int 0), .d (.int 5), .d (.int b)]) (ma_le (ma_head x_int (ma_head x_int (ma_one (m_draw1 (many := 9000) T hr1 (x_var 0) x_int hs (by decide) (by decide) ht0 (by omega))))) ?_) ?_) ?_ ?_) ?_
  · rintro o ss ⟨t1, ⟨t2, ⟨t3, ⟨f1, b, rfl, h1, hb0, hb1, rfl⟩, rfl⟩, rfl⟩, rfl⟩
    exact ⟨f1, b, rfl, h1, hb0, by omega, rfl⟩
  · rintro o ss ⟨f1, b, rfl, h1, hb0, hb1, rfl⟩
    exact ⟨[.int 0, .int 5, .int b], rfl, Nat.le_of_ble_eq_true rfl, f1, b, rfl, h1, hb0, hb1, rfl⟩
  · rintro o x ⟨f1, b, rfl, h1, hb0, hb1, rfl⟩
    exact m_le (m_draw1 (many := 3) T hr1 (x_var 0) x_int h1 (by decide) (by decide) ht0 (by omega)) fun o r ⟨f2, i, e1, h2, hi0, hi1, e2⟩ => ⟨f2, i, e1, h2, hi0, hi1, e2⟩
  · rintro o x o' y ⟨f1, b, rfl, h1, hb0, hb1, rfl⟩ ⟨f2, i, rfl, h2, hi0, hi1, rfl⟩
    have : i = 0 ∨ i = 1 ∨ i = 2 := by omega
    rcases this with rfl | rfl | rfl
    · exact ⟨_, rd_ixL (d := .int 0) rfl, f2, 0, rfl, h2, by decide, by decide, rfl⟩
    · exact ⟨_, rd_ixL (d := .int 5) rfl, f2, 5, rfl, h2, by decide, by decide, rfl⟩
    · exact ⟨_, rd_ixL (d := .int b) rfl, f2, b, rfl, h2, hb0, hb1, rfl⟩
  rintro o r ⟨f1, b, rfl, h1, hb0, hb1, rfl⟩
  -- pages
  refine g_setM sc_law_book.nd 5 m_lnew ?_
  rintro o r ⟨q, rfl, rfl⟩
  refine g_perm (List.Perm.swap _ _ _) ?_
  let hd : List Str := cutA ns none (some (1 + (ns.length : Int) / 2))
  have ehd : cutA (ns.map PyData.str) none (some (1 + (ns.length : Int) / 2)) = hd.map PyData.str := by
    show _ = (cutA ns none _).map _
    unfold cutA
    rw [List.map_take, List.map_drop, List.length_map]
  have ehd2 : hd = ns.take (1 + ns.length / 2) := by
    show cutA ns none (some _) = _
    have e : (1 + (ns.length : Int) / 2) = ((1 + ns.length / 2 : Nat) : Int) := by omega
    rw [e]
    exact cut_front _ _
  have hhl : hd.length ≤ 5 := by
    rw [ehd2, List.length_take]
    omega
  have hh1 : 1 ≤ hd.length := by
    rw [ehd2, List.length_take]
    omega
  refine g_for (g := gName 6) (src_m (src_list (x_slL (es := hd.map PyData.str) (x_var 1) o_none (o_some (x_add x_int (x_op op_fdiv (rd_IC ⟨by decide, by decide⟩) (x_is (x_cb call_len_seq T.free_len rc_lenL (a_cons (x_var 1) a_nil)) (by rw [hlen])) x_int))) ehd))) (pg_name (i := 6) sc_law_book.nd rfl (.inl rfl)) ?_
  rintro o xs V ⟨rfl, rfl, rfl⟩
  refine ⟨fun i G1 o1 => ∃ f2 l u6 u7, G1 = [.v (.ref p), .d (.list (ns.map .str)), .d (.int many), .d (.int wide), .d (.int b), .v (.ref q), u6, u7] ∧ o1 = [(p, asT K (feedT f2)), (q, asL K (l.map Page.enc))] ∧ FdTo (2 + 9 * (i : Int)) f f2 ∧ l.length = i ∧ (∀ x ∈ l, PgL ns x) ∧ ∀ x ∈ l, ∃ d n h, x = Page.house d n h, ⟨f1, [], _, _, rfl, rfl, by simpa using h1, rfl, (fun x hx => nomatch hx), fun x hx => nomatch hx⟩, fun _ _ _ _ _ _ _ => trivial, ?_, ?_⟩
  · rintro i x G1 o1 B1 D1 hx ⟨f2, l, u6, u7, rfl, rfl, h2, hl, hp, hh⟩ hB hF1 hD1 _
    rw [List.getElem?_map] at hx
    cases hq : hd[i]? with
    | none => rw [hq] at hx; cases hx
    | some nm =>
      rw [hq] at hx
      cases hx
      have hi : i < hd.length := (List.getElem?_eq_some_iff.mp hq).1
      have hnm : nm ∈ ns := cut_sub (List.mem_of_getElem? hq)
      refine ⟨_, gd_name, g_expr (m_append (Dd := fun o r => ∃ f3 pg, o = [(p, asT K (feedT f3)), (q, asL K ((l ++ [pg]).map Page.enc))] ∧ FdTo (2 + 9 * (i : Int) + 9) f f3 ∧ PgL ns pg ∧ ∃ d n h, pg = Page.house d n h) (m_x (x_var 5)) ?_) ?_⟩
      · rintro o2 s2 ⟨rfl, rfl⟩
        refine ⟨q, 1, _, rfl, rfl, fun o r => ∃ f3 d h, o = [(p, asT K (feedT f3)), (q, asL K (l.map Page.enc))] ∧ FdTo (2 + 9 * (i : Int) + 9) f f3 ∧ 0 ≤ d ∧ d ≤ 10000 ∧ h.length ≤ 7 ∧ (∀ i ∈ h, 0 ≤ i ∧ i < 7) ∧ r = .d (Page.house d nm h).enc, m_tup (C := fun o ss => ∃ f3 d h, o = [(p, asT K (feedT f3)), (q, asL K (l.map Page.enc))] ∧ FdTo (2 + 9 * (i : Int) + 9) f f3 ∧ 0 ≤ d ∧ d ≤ 10000 ∧ h.length ≤ 7 ∧ (∀ i ∈ h, 0 ≤ i ∧ i < 7) ∧ ss = [.d (.str "house"), .d (.int d), .d (.str nm), .d (intsD h)]) (ma_le (ma_head x_str (ma_then (C := fun o r => ∃ f3 d, o = [(p, asT K (feedT f3)), (q, asL K (l.map Page.enc))] ∧ FdTo (2 + 9 * (i : Int) + 1) f f3 ∧ 0 ≤ d ∧ d ≤ 10000 ∧ r = .d (.int d)) (D := fun o ss => ∃ f3 d h, o = [(p, asT K (feedT f3)), (q, asL K (l.map Page.enc))] ∧ FdTo (2 + 9 * (i : Int) + 9) f f3 ∧ 0 ≤ d ∧ d ≤ 10000 ∧ h.length ≤ 7 ∧ (∀ i ∈ h, 0 ≤ i ∧ i < 7) ∧ ss = [.d (.int d), .d (.str nm), .d (intsD h)]) ?_ ?_)) ?_) ?_, ?_⟩
        · refine m_le (m_succ (p := p) (rest := [(q, asL K (l.map Page.enc))]) (f := f) (n := 2 + 9 * (i : Int) + 1) (many := 2) (x_var 4) (m_draw1 (many := 2) T hr1 (x_var 0) x_int h2 (by decide) (by decide) ht0 (by omega))) ?_
          rintro o r ⟨f3, d, rfl, h3, hd0, hd1, rfl⟩
          exact ⟨f3, d, rfl, h3, by omega, by omega, rfl⟩
        · rintro o r ⟨f3, d, rfl, h3, hd0, hd1, rfl⟩
          refine ma_le (ma_head (x_var 6) (ma_one (m_home (rest := [(q, asL K (l.map Page.enc))]) T (hr.mono (by decide)) (x_var 0) h3 ht0 (by omega)))) ?_
          rintro o ss ⟨t1, ⟨t2, ⟨f4, h, rfl, h4, rfl, h5, h6⟩, rfl⟩, rfl⟩
          exact ⟨f4, d, h, rfl, h4.le (by omega), hd0, hd1, h5, h6, rfl⟩
        · rintro o ss ⟨t1, ⟨f3, d, h, rfl, h3, hd0, hd1, h5, h6, rfl⟩, rfl⟩
          exact ⟨f3, d, h, rfl, h3, hd0, hd1, h5, h6, rfl⟩
        · rintro o ss ⟨f3, d, h, rfl, h3, hd0, hd1, h5, h6, rfl⟩
          exact ⟨[.str "house", .int d, .str nm, intsD h], rfl, Nat.le_of_ble_eq_true rfl, f3, d, h, rfl, h3, hd0, hd1, h5, h6, rfl⟩
        · rintro o2 s2 ⟨f3, d, h, rfl, h3, hd0, hd1, h5, h6, rfl⟩
          refine ⟨1, _, _, rfl, rfl, by rw [List.length_map]; omega, f3, .house d nm h, by rw [List.map_append]; rfl, h3, ⟨⟨h5, fun i hi => by have := h6 i hi; omega⟩, fun n hn => ?_, hd0, hd1⟩, d, nm, h, rfl⟩
          rw [List.mem_singleton.mp hn]
          exact hnm
      · rintro o r ⟨f3, pg, rfl, h3, hpg, hhs⟩
        refine at_le hD1 ⟨f3, l ++ [pg], _, _, rfl, rfl, ?_, by rw [List.length_append, hl]; rfl, fun x hx => ?_, fun x hx => ?_⟩ (gle_refl _)
        · have e : 2 + 9 * ((i + 1 : Nat) : Int) = 2 + 9 * (i : Int) + 9 := by omega
          rw [e]
          exact h3
        · rcases List.mem_append.mp hx with z | z
          · exact hp x z
          · rw [List.mem_singleton.mp z]; exact hpg
        · rcases List.mem_append.mp hx with z | z
          · exact hh x z
          · rw [List.mem_singleton.mp z]; exact hhs
  rintro G1 o1 ⟨f2, l0, u6, u7, rfl, rfl, h2, hl0, hp0, hh0⟩
  rw [List.length_map] at h2 hl0
  obtain ⟨pg0, hpg0⟩ : ∃ x, x ∈ l0 := by
    cases l0 with
    | nil => simp at hl0; omega
    | cons x t => exact ⟨x, List.mem_cons_self⟩
  obtain ⟨hd0, hn0, hh0', rfl⟩ := hh0 _ hpg0
  refine g_for (g := gName 7) (src_m (src_rng1 (x_var 2) T.free_range (by omega))) (pg_name (i := 7) sc_law_book.nd rfl (.inl rfl)) ?_
  rintro o xs V ⟨rfl, rfl, rfl⟩
  have hrl : (rngD 0 many.toNat).length = many.toNat := by unfold rngD; simp
  refine ⟨fun i G1 o1 => ∃ f3 l v7, G1 = [.v (.ref p), .d (.list (ns.map .str)), .d (.int many), .d (.int wide), .d (.int b), .v (.ref q), u6, v7] ∧ o1 = [(p, asT K (feedT f3)), (q, asL K ((l0 ++ l).map Page.enc))] ∧ FdTo (2 + 9 * (hd.length : Int) + 21 * (i : Int)) f f3 ∧ l.length = i ∧ ∀ x ∈ l, PgL ns x, ⟨f2, [], _, rfl, by rw [List.append_nil], by simpa using h2, rfl, fun x hx => nomatch hx⟩, fun _ _ _ _ _ _ _ => trivial, ?_, ?_⟩
  · rintro i x G1 o1 B1 D1 hx ⟨f3, l, v7, rfl, rfl, h3, hl, hp⟩ hB hF1 hD1 _
    obtain ⟨rfl, _, hi⟩ := days_get hx
    refine ⟨_, gd_name, g_expr (m_append (Dd := fun o r => ∃ f4 pg, o = [(p, asT K (feedT f4)), (q, asL K ((l0 ++ (l ++ [pg])).map Page.enc))] ∧ FdTo (2 + 9 * (hd.length : Int) + 21 * (i : Int) + 21) f f4 ∧ PgL ns pg) (m_x (x_var 5)) ?_) ?_⟩
    · rintro o2 s2 ⟨rfl, rfl⟩
      refine ⟨q, 1, _, rfl, rfl, fun o r => ∃ f4 pg, o = [(p, asT K (feedT f4)), (q, asL K ((l0 ++ l).map Page.enc))] ∧ FdTo (2 + 9 * (hd.length : Int) + 21 * (i : Int) + 21) f f4 ∧ PgL ns pg ∧ r = .d pg.enc, m_call (k := 3) (n := 3) (C := fun o ss => ∃ f4 d, o = [(p, asT K (feedT f4)), (q, asL K ((l0 ++ l).map Page.enc))] ∧ FdTo (2 + 9 * (hd.length : Int) + 21 * (i : Int) + 1) f f4 ∧ 0 ≤ d ∧ d ≤ 10000 ∧ ss = [.v (.ref p), .d (.list (ns.map .str)), .d (.int d)]) (g_law_page T) (hr.mono (by decide)) (ma_le (ma_head (x_var 0) (ma_head (x_var 1) (ma_one (m_succ (p := p) (rest := [(q, asL K ((l0 ++ l).map Page.enc))]) (f := f) (n := 2 + 9 * (hd.length : Int) + 21 * (i : Int) + 1) (many := wide) (x_var 4) (m_draw1 (many := wide) T hr1 (x_var 0) (x_var 3) h3 (by omega) (by omega) ht0 (by omega)))))) ?_) ?_, ?_⟩
      · rintro o ss ⟨t1, ⟨t2, ⟨t3, ⟨f4, d, rfl, h4, hd0, hd1, rfl⟩, rfl⟩, rfl⟩, rfl⟩
        exact ⟨f4, d, rfl, h4, by omega, by omega, rfl⟩
      · rintro o ss ⟨f4, d, rfl, h4, hd0, hd1, rfl⟩
        refine ⟨[(p, asT K (feedT f4))], [(q, asL K ((l0 ++ l).map Page.enc))], List.Perm.refl _, _, ⟨p, f4, ns, d, rfl, rfl, hn2, by omega, by have := h4.t0; omega, by have := h4.t1; omega, h4.a0, rfl⟩, ?_⟩
        rintro o s ⟨f5, pg, rfl, h5, rfl, h6⟩
        exact ⟨f5, pg, rfl, (h4.trans h5).le (by omega), ⟨h6.sm, h6.nm, by rw [h6.dy]; exact ⟨hd0, hd1⟩⟩, rfl⟩
      · rintro o2 s2 ⟨f4, pg, rfl, h4, h5, rfl⟩
        exact ⟨1, _, _, rfl, rfl, by rw [List.length_map, List.length_append]; omega, f4, pg, by rw [← List.append_assoc, List.map_append (l₂ := [pg])]; rfl, h4, h5⟩
    · rintro o r ⟨f4, pg, rfl, h4, hpg⟩
      refine at_le hD1 ⟨f4, l ++ [pg], _, rfl, rfl, ?_, by rw [List.length_append, hl]; rfl, fun x hx => ?_⟩ (gle_refl _)
      · have e : 2 + 9 * (hd.length : Int) + 21 * ((i + 1 : Nat) : Int) = 2 + 9 * (hd.length : Int) + 21 * (i : Int) + 21 := by omega
        rw [e]
        exact h4
      · rcases List.mem_append.mp hx with z | z
        · exact hp x z
        · rw [List.mem_singleton.mp z]; exact hpg
  rintro G1 o1 ⟨f3, l, v7, rfl, rfl, h3, hl, hp⟩
  rw [hrl] at h3 hl
  refine g_perm (List.Perm.swap _ _ _) ?_
  refine g_freeze 5 rfl (fun a ha => by rw [hF] at ha; exact ha) ?_
  have hall : ∀ x ∈ l0 ++ l, PgL ns x := fun x hx => by
    rcases List.mem_append.mp hx with z | z
    · exact hp0 x z
    · exact hp x z
  have hll : (l0 ++ l).length ≤ 21 := by
    rw [List.length_append]
    omega
  refine g_ret (x_call (oc := []) (g_law_standing_so T) hr ⟨rfl, l0 ++ l, rfl, fun x hx n hn => hnok n ((hall x hx).nm n hn), by omega, rfl⟩ (a_cons (x_var 5) a_nil)) fun v R H z e => hD.1 _ _ v R H ⟨f3, l0 ++ l, rfl, h3.le (by omega), rfl, hall, hll, hd0, hn0, hh0', List.mem_append_left _ hpg0⟩ z e
end
end CB

/-! Part 52: _law_names. -/
namespace CB
open PySem PySem.Spec PyProof.Rows L2
theorem erase_map {α β : Type} (f : α → β) : ∀ (l : List α) (k : Nat), (l.map f).eraseIdx k = (l.eraseIdx k).map f
  | [], _ => rfl
  | _ :: _, 0 => rfl
  | x :: l, k + 1 => by
    show f x :: (l.map f).eraseIdx k = f x :: (l.eraseIdx k).map f
    rw [erase_map f l k]
def NmS (n : Str) : Prop := Nok n ∧ n.length ≤ 9
def abcS : Str := "abcdefghijklmnopqrstuvwxyz"
theorem ix_abc {i : Int} (h0 : 0 ≤ i) (h1 : i < 26) : ∃ c, atI abcS.cps.toList i = some c ∧ Nok ⟨#[c]⟩ := by
  obtain ⟨j, rfl⟩ := Int.eq_ofNat_of_zero_le h0
  have hl : abcS.cps.toList.length = 26 := by decide +kernel
  have hn : Nok abcS := (show PyData.strOk abcS = true by decide +kernel)
  have h3 : j < abcS.cps.toList.length := by omega
  refine ⟨abcS.cps.toList[j], atI_nat (List.getElem?_eq_getElem h3), nok_iff.mpr fun c hc => ?_⟩
  have : c = abcS.cps.toList[j] := by simpa using hc
  rw [this]
  exact nok_iff.mp hn _ (List.getElem_mem h3)
theorem one_len (c : Nat) : (⟨#[c]⟩ : Str).length = 1 := rfl
theorem sum_ones : ∀ {ys : List Str}, (∀ y ∈ ys, y.length = 1) → (ys.map (·.length)).sum = ys.length
  | [], _ => rfl
  | y :: ys, h => by
    rw [List.map_cons, List.sum_cons, sum_ones fun z hz => h z (List.mem_cons_of_mem _ hz), h y List.mem_cons_self, List.length_cons, Nat.add_comm]
def wayL (w : Nat) : List Str := match w with
  | 0 => ["a", "ab", "abc", "b", "ba", "bab", "c", "ca", "zz"]
  | _ => ["card", "cards", "visit", "house", "home", "part", "join", "mourn", "ahead"]
theorem wayL_ok (w : Nat) : (wayL w).length = 9 ∧ ∀ n ∈ wayL w, NmS n := by
  have key : ∀ l : List Str, (l.all fun n => PyData.strOk n && decide (n.length ≤ 9)) = true → ∀ n ∈ l, NmS n := fun l h n hn => by
    have := List.all_eq_true.mp h n hn
    rw [Bool.and_eq_true] at this
    exact ⟨this.1, of_decide_eq_true this.2⟩
  unfold wayL
  split
  · exact ⟨rfl, key _ (by decide +kernel)⟩
  · exact ⟨rfl, key _ (by decide +kernel)⟩
section
variable {X : Cx} {G : List Sl} {own : OL} {a b : Expr} {pos : Pos}
theorem x_ixS {z : Str} {i : Int} {c : Nat} (ha : EX X G own a (.d (.str z))) (hb : EX X G own b (.d (.int i))) (hz : z.length ≤ sizeLine) (e : atI z.cps.toList i = some c) (hs : PlainIx b := by exact fun _ _ => rfl) : EX X G own (.Subscript a b pos) (.d (.str ⟨#[c]⟩)) := EX.of (pe_ix ix_str pe_w pe_w hs) (ev_op ha hb (rd_ixS hz e))
theorem x_addS {x y : Str} (ha : EX X G own a (.d (.str x))) (hb : EX X G own b (.d (.str y))) (hz : x.length + y.length ≤ sizeLine) : EX X G own (.BinOp a .Add b pos) (.d (.str (x ++ y))) := x_op op_add_str (rd_addS hz) ha hb
end
section
variable {P : Program} {w : World} {K : PySem.W.Frag} {mg : Str → Option Value} {base : Heap}
theorem sc_law_names : FnScope ["_law_feed_here", "_law_way", "_law_some", "_law_letters", "_law_size", "_law_first", "_law_at", "_law_k", "_law_word", "_law_sign"] ["_law_feed_here"] (defScope s_law_names) := ⟨rfl, rfl, rfl, by decide +kernel, rfl, by decide +kernel, by decide +kernel⟩
theorem g_law_names (T : Tx K mg) : Gd P w K mg base 2 "_law_names" 1 (spM K fun oc ss C => ∃ p f, oc = [(p, asT K (feedT f))] ∧ ss = [.v (.ref p)] ∧ 0 ≤ f.turn ∧ f.turn < 900000 ∧ 0 ≤ f.at_ ∧ C = fun o r => ∃ (f' : Feed) (ns : List Str), o = [(p, asT K (feedT f'))] ∧ FdTo 40 f f' ∧ r = .d (.list (ns.map .str)) ∧ ns.length = 9 ∧ ∀ n ∈ ns, NmS n) := by
  obtain ⟨fd, F⟩ := T.fun_law_names
  refine gd_mk F rfl (okM (k := 1) F sc_law_names (fun _ _ _ ⟨_, _, _, e, _⟩ => by rw [e]; rfl) ?_) T.glo_law_names fun _ _ _ _ _ _ us hl => match us, hl with | [_], _ => rfl
  rintro cd A outer s H0 E hr oc ss C B D ⟨p, f, rfl, rfl, ht0, ht1, ha0, rfl⟩ hF hD
  have hs := FdTo.self ha0
  have tail : ∀ (f1 : Feed) (q : Addr) (l : List Str) (junk : OL) (u1 u3 u4 u5 u6 u7 u8 u9 : Sl), FdTo 30 f f1 → l.length = 9 → (∀ n ∈ l, NmS n) → Go (bX P w K mg base ["_law_feed_here", "_law_way", "_law_some", "_law_letters", "_law_size", "_law_first", "_law_at", "_law_k", "_law_word", "_law_sign"] "_law_names" s_law_names (He.fAd K ("_law_names", none)) cd A outer s H0 E) B [.v (.ref p), u1, .v (.ref q), u3, u4, u5, u6, u7, u8, u9] ((p, asT K (feedT f1)) :: (q, asL K (l.map .str)) :: junk) D ((defBody s_law_names).drop 4) := by
    intro f1 q l junk u1 u3 u4 u5 u6 u7 u8 u9 h1 hl hok
    show Go _ _ _ _ _ [.Return (some _) _]
    refine g_retM (C := fun o r => ∃ (f2 : Feed) (l2 ns : List Str), o = (p, asT K (feedT f2)) :: (q, asL K (l2.map .str)) :: junk ∧ FdTo 40 f f2 ∧ r = .d (.list (ns.map .str)) ∧ ns.length = 9 ∧ ∀ n ∈ ns, NmS n) (m_lc (g := gName 7) sc_law_names.nd [("_law_k", 7)] (src_m (src_rng1 x_int T.free_range (by decide))) (blkOk_by (N := ["_law_feed_here", "_law_way", "_law_some", "_law_letters", "_law_size", "_law_first", "_law_at", "_law_k", "_law_word", "_law_sign"]) (sc := defScope s_law_names) (by decide +kernel)) (fun _ _ _ _ _ => pg_name (i := 7) sc_law_names.nd rfl (.inl rfl)) (gw_name (by decide)) ?_) ?_
    · rintro o xs V ⟨rfl, rfl, rfl⟩
      have hlen : (rngD 0 (9 : Int).toNat).length = 9 := by unfold rngD; simp
      refine ⟨by rw [hlen]; decide, fun i acc o1 => ∃ (f2 : Feed) (l2 ns : List Str), o1 = (p, asT K (feedT f2)) :: (q, asL K (l2.map .str)) :: junk ∧ FdTo (30 + (i : Int)) f f2 ∧ acc = ns.map .str ∧ ns.length = i ∧ l2.length + i = 9 ∧ (∀ n ∈ ns, NmS n) ∧ ∀ n ∈ l2, NmS n, ⟨f1, l, [], rfl, by simpa using h1, rfl, rfl, hl, (fun n hn => nomatch hn), hok⟩, fun _ _ _ _ _ _ _ => trivial, ?_, ?_⟩
      · rintro i x acc o1 hx ⟨f2, l2, ns, rfl, h2, rfl, hn, hl2, hns, hok2⟩
        obtain ⟨rfl, _, hi⟩ := days_get hx
        have hi9 : i < 9 := hi
        refine ⟨_, gd_name, fun _ _ _ _ _ => m_popAt (p := q) (ds0 := l2.map .str) 1 (x_var 2) rfl (m_draw1 (rest := (q, asL K (l2.map .str)) :: junk) (many := (l2.length : Int)) T hr (x_var 0) (x_is (x_cb call_len_seq T.free_len (rc_lenO (i := 1) rfl) (a_cons (x_var 2) a_nil)) (by rw [List.length_map])) h2 (by omega) (by omega) ht0 (by omega)) ?_⟩
        rintro o2 s2 ⟨f3, j, rfl, h3, hj0, hj1, rfl⟩
        obtain ⟨k, rfl⟩ := Int.eq_ofNat_of_zero_le hj0
        have hk : k < l2.length := by omega
        refine ⟨1, k, _, .str l2[k], rfl, rfl, by rw [List.length_map]; omega, by rw [List.getElem?_map, List.getElem?_eq_getElem hk]; rfl, _, rfl, f3, l2.eraseIdx k, ns ++ [l2[k]], ?_, ?_, by rw [List.map_append]; rfl, by rw [List.length_append, hn]; rfl, by rw [List.length_eraseIdx_of_lt hk]; omega, fun n hn => ?_, fun n hn => hok2 n (List.mem_of_mem_eraseIdx hn)⟩
        · rw [erase_map]
          rfl
        · have e : 30 + ((i + 1 : Nat) : Int) = 30 + (i : Int) + 1 := by omega
          rw [e]
          exact h3
        · rcases List.mem_append.mp hn with z | z
          · exact hns n z
          · rw [List.mem_singleton.mp z]
            exact hok2 _ (List.getElem_mem hk)
      · rintro acc o1 ⟨f2, l2, ns, rfl, h2, rfl, hn, hl2, hns, hok2⟩
        rw [hlen] at h2 hn hl2
        exact ⟨f2, l2, ns, rfl, h2.le (by decide), rfl, hn, hns⟩
    · rintro o r v R H ⟨f2, l2, ns, rfl, h2, rfl, hn, hns⟩ z e
      refine hD.1 _ _ v R H ⟨f2, ns, rfl, h2, rfl, hn, hns⟩ ?_ e
      have z' : Sep B.R B.H B.F _ R H := z
      rw [hF] at z'
      show Sep B.R B.H B.F _ R H
      rw [hF]
      exact sep_head z'
  refine g_setM sc_law_names.nd 1 (m_draw1 (many := 3) T hr (x_var 0) x_int hs (by decide) (by decide) ht0 (by omega)) ?_
  rintro o r ⟨f1, way, rfl, h1, hw0, hw1, rfl⟩
  refine g_setM sc_law_names.nd 2 (C := fun o r => ∃ q, o = [(q, asL K ((wayL 0).map .str)), (p, asT K (feedT f1))] ∧ r = .v (.ref q)) (m_lstO (ma_x (a_cons x_str (a_cons x_str (a_cons x_str (a_cons x_str (a_cons x_str (a_cons x_str (a_cons x_str (a_cons x_str (a_cons x_str a_nil)))))))))) fun o ss q ⟨eo, es⟩ => ⟨(wayL 0).map .str, es, Nat.le_of_ble_eq_true rfl, q, by rw [eo]; rfl, rfl⟩) ?_
  rintro o r ⟨q, rfl, rfl⟩
  refine g_perm (List.Perm.swap _ _ _) ?_
  have hcase : way = 0 ∨ way = 1 ∨ way = 2 := by omega
  rcases hcase with rfl | rfl | rfl
  · refine g_if (k := false) (x_cmpT op_eq rd_eqI rfl (x_var 1) x_int) (fun h => ff h) fun _ => g_end ?_
    refine g_if (k := false) (x_cmpT op_eq rd_eqI rfl (x_var 1) x_int) (fun h => ff h) fun _ => g_end ?_
    exact tail f1 q (wayL 0) [] _ _ _ _ _ _ _ _ (h1.le (by decide)) (wayL_ok 0).1 (wayL_ok 0).2
  · refine g_if (k := true) (x_cmpT op_eq rd_eqI rfl (x_var 1) x_int) (fun _ => ?_) fun h => ff h.symm
    refine g_setM sc_law_names.nd 2 (C := fun o r => ∃ q2, o = [(q2, asL K ((wayL 1).map .str)), (p, asT K (feedT f1)), (q, asL K ((wayL 0).map .str))] ∧ r = .v (.ref q2)) (m_lstO (ma_x (a_cons x_str (a_cons x_str (a_cons x_str (a_cons x_str (a_cons x_str (a_cons x_str (a_cons x_str (a_cons x_str (a_cons x_str a_nil)))))))))) fun o ss q2 ⟨eo, es⟩ => ⟨(wayL 1).map .str, es, Nat.le_of_ble_eq_true rfl, q2, by rw [eo]; rfl, rfl⟩) ?_
    rintro o r ⟨q2, rfl, rfl⟩
    refine g_perm (List.Perm.swap _ _ _) (g_end ?_)
    refine g_if (k := false) (x_cmpT op_eq rd_eqI rfl (x_var 1) x_int) (fun h => ff h) fun _ => g_end ?_
    exact tail f1 q2 (wayL 1) [(q, asL K ((wayL 0).map .str))] _ _ _ _ _ _ _ _ (h1.le (by decide)) (wayL_ok 1).1 (wayL_ok 1).2
  · refine g_if (k := false) (x_cmpT op_eq rd_eqI rfl (x_var 1) x_int) (fun h => ff h) fun _ => g_end ?_
    refine g_if (k := true) (x_cmpT op_eq rd_eqI rfl (x_var 1) x_int) (fun _ => ?_) fun h => ff h.symm
    refine g_set sc_law_names.nd 3 (s := .d (.str abcS)) x_str ?_
    let rest : OL := [(q, asL K ((wayL 0).map .str))]
    refine g_parM (C := fun o ss => ∃ f2 size first, o = (p, asT K (feedT f2)) :: rest ∧ FdTo 3 f f2 ∧ 1 ≤ size ∧ size ≤ 8 ∧ 0 ≤ first ∧ first < 26 ∧ ss = [.d (.int size), .d (.int first)]) sc_law_names.nd 4 5 (ma_then (C := fun o r => ∃ f2 size, o = (p, asT K (feedT f2)) :: rest ∧ FdTo 2 f f2 ∧ 1 ≤ size ∧ size ≤ 8 ∧ r = .d (.int size)) (m_le (m_succ (p := p) (rest := rest) (f := f) (n := 0 + 1 + 1) (many := 8) x_int (m_draw1 (many := 8) T hr (x_var 0) x_int h1 (by decide) (by decide) ht0 (by omega))) ?_) ?_) ?_
    · rintro o r ⟨f2, i, rfl, h2, hi0, hi1, rfl⟩
      exact ⟨f2, i, rfl, h2.le (by decide), hi0, by omega, rfl⟩
    · rintro o r ⟨f2, size, rfl, h2, hz0, hz1, rfl⟩
      refine ma_le (ma_one (m_draw1 (many := 26) T hr (x_var 0) x_int h2 (by decide) (by decide) ht0 (by omega))) ?_
      rintro o ss ⟨t, ⟨f3, i, rfl, h3, hi0, hi1, rfl⟩, rfl⟩
      exact ⟨f3, size, i, rfl, h3.le (by decide), hz0, hz1, hi0, hi1, rfl⟩
    rintro o ss ⟨f2, size, first, rfl, h2, hz0, hz1, hf0, hf1, rfl⟩
    refine ⟨_, _, rfl, ?_⟩
    refine g_setM sc_law_names.nd 6 (m_draw1 (many := size) T hr (x_var 0) (x_var 4) h2 (by omega) (by omega) ht0 (by omega)) ?_
    rintro o r ⟨f3, at_, rfl, h3, hat0, hat1, rfl⟩
    refine g_setM sc_law_names.nd 8 (C := fun o r => ∃ (f4 : Feed) (wd : Str), o = (p, asT K (feedT f4)) :: rest ∧ FdTo 12 f f4 ∧ Nok wd ∧ (wd.length : Int) ≤ size ∧ r = .d (.str wd)) (m_joinE (C := fun o r => ∃ (f4 : Feed) (ys : List Str), o = (p, asT K (feedT f4)) :: rest ∧ FdTo 12 f f4 ∧ (ys.length : Int) = size ∧ (∀ y ∈ ys, Nok y ∧ y.length = 1) ∧ r = .d (.list (ys.map .str))) x_str (m_lc (g := gName 7) sc_law_names.nd [("_law_k", 7)] (src_m (src_rng1 (x_var 4) T.free_range (by omega))) (blkOk_by (N := ["_law_feed_here", "_law_way", "_law_some", "_law_letters", "_law_size", "_law_first", "_law_at", "_law_k", "_law_word", "_law_sign"]) (sc := defScope s_law_names) (by decide +kernel)) (fun _ _ _ _ _ => pg_name (i := 7) sc_law_names.nd rfl (.inl rfl)) (gw_name (by decide)) ?_) ?_) ?_
    · rintro o xs V ⟨rfl, rfl, rfl⟩
      have hlen : (rngD 0 size.toNat).length = size.toNat := by unfold rngD; simp
      refine ⟨by rw [hlen]; omega, fun i acc o1 => ∃ (f4 : Feed) (ys : List Str), o1 = (p, asT K (feedT f4)) :: rest ∧ FdTo (4 + (i : Int)) f f4 ∧ acc = ys.map .str ∧ ys.length = i ∧ ∀ y ∈ ys, Nok y ∧ y.length = 1, ⟨f3, [], rfl, by simpa using h3, rfl, rfl, fun y hy => nomatch hy⟩, fun _ _ _ _ _ _ _ => trivial, ?_, ?_⟩
      · rintro i x acc o1 hx ⟨f4, ys, rfl, h4, rfl, hy, hys⟩
        obtain ⟨rfl, _, hi⟩ := days_get hx
        refine ⟨_, gd_name, fun _ _ _ _ _ => m_ix (C := Is ((p, asT K (feedT f4)) :: rest) (.d (.str abcS))) (C' := fun _ _ => DrawC K p rest f (4 + (i : Int) + 1) 26) ix_str (m_x (x_var 3)) (fun o x c => ?_) ?_⟩
        · obtain ⟨e1, e2⟩ := c
          subst e1
          exact m_draw1 (many := 26) T hr (x_var 0) x_int h4 (by decide) (by decide) ht0 (by omega)
        · rintro o x o' y ⟨rfl, rfl⟩ ⟨f5, j, rfl, h5, hj0, hj1, rfl⟩
          obtain ⟨c, ec, hc⟩ := ix_abc hj0 hj1
          refine ⟨_, rd_ixS (by decide +kernel) ec, _, rfl, f5, ys ++ [⟨#[c]⟩], rfl, ?_, by rw [List.map_append]; rfl, by rw [List.length_append, hy]; rfl, fun y hy => ?_⟩
          · have e : 4 + ((i + 1 : Nat) : Int) = 4 + (i : Int) + 1 := by omega
            rw [e]
            exact h5
          · rcases List.mem_append.mp hy with z | z
            · exact hys y z
            · rw [List.mem_singleton.mp z]
              exact ⟨hc, rfl⟩
      · rintro acc o1 ⟨f4, ys, rfl, h4, rfl, hy, hys⟩
        rw [hlen] at h4 hy
        exact ⟨f4, ys, rfl, h4.le (by omega), by omega, hys, rfl⟩
    · rintro o r ⟨f4, ys, rfl, h4, hy, hys, rfl⟩
      have hsum := sum_ones fun y hy => (hys y hy).2
      refine ⟨ys, rfl, by omega, f4, _, rfl, h4, nok_join fun y hy => (hys y hy).1, ?_, rfl⟩
      have h5 := StrLaws.join_length_le "" ys
      have e0 : (("" : Str)).length = 0 := rfl
      rw [e0, Nat.mul_zero, hsum] at h5
      omega
    rintro o r ⟨f4, wd, rfl, h4, hwd, hwl, rfl⟩
    refine g_setM sc_law_names.nd 2 m_lnew ?_
    rintro o r ⟨q2, rfl, rfl⟩
    refine g_perm (List.Perm.swap _ _ _) ?_
    obtain ⟨an, rfl⟩ := Int.eq_ofNat_of_zero_le hat0
    refine g_for (g := gName 7) (src_m (src_rng1 x_int T.free_range (by decide))) (pg_name (i := 7) sc_law_names.nd rfl (.inl rfl)) ?_
    rintro o xs V ⟨rfl, rfl, rfl⟩
    have hlen : (rngD 0 (9 : Int).toNat).length = 9 := by unfold rngD; simp
    refine ⟨fun i G1 o1 => ∃ (u7 u9 : Sl) (l : List Str), G1 = [.v (.ref p), .d (.int 2), .v (.ref q2), .d (.str abcS), .d (.int size), .d (.int first), .d (.int (an : Int)), u7, .d (.str wd), u9] ∧ o1 = (p, asT K (feedT f4)) :: (q2, asL K (l.map .str)) :: rest ∧ l.length = i ∧ ∀ n ∈ l, NmS n, ⟨_, _, [], rfl, rfl, rfl, fun n hn => nomatch hn⟩, fun _ _ _ _ _ _ _ => trivial, ?_, ?_⟩
    · rintro i x G1 o1 B1 D1 hx ⟨u7, u9, l, rfl, rfl, hl, hok⟩ hB hF1 hD1 _
      obtain ⟨rfl, _, hi⟩ := days_get hx
      have hi9 : i < 9 := hi
      obtain ⟨c, ec, hc⟩ := ix_abc (i := (first + 5 * (0 + (i : Int))) % 26) (Int.emod_nonneg _ (by decide)) (Int.emod_lt_of_pos _ (by decide))
      refine ⟨_, gd_name, g_set sc_law_names.nd 9 (x_ixS (x_var 3) (x_mod (by decide) (x_add (x_var 5) (x_op op_mul (rd_IC (.inl ⟨by decide, by decide⟩)) x_int (x_var 7))) x_int) (by decide +kernel) ec) ?_⟩
      have c1 := cut_len_front wd an
      have c2 := cut_len_back wd (an + 1)
      have hw9 : (cutS wd none (some (an : Int)) ++ (⟨#[c]⟩ : Str) ++ cutS wd (some ((an : Int) + 1)) none).length ≤ 9 := by
        have e : ((an : Int) + 1) = ((an + 1 : Nat) : Int) := rfl
        rw [e, Str.length_append, Str.length_append, one_len]
        omega
      have c3 : (⟨#[c]⟩ : Str).length = 1 := rfl
      refine g_expr (m_append (Dd := fun o r => ∃ n, NmS n ∧ o = (p, asT K (feedT f4)) :: (q2, asL K ((l ++ [n]).map .str)) :: rest) (m_x (x_var 2)) ?_) ?_
      · rintro o1 s1 ⟨rfl, rfl⟩
        refine ⟨q2, 1, _, rfl, rfl, _, m_x (x_addS (x_addS (x_slS (x_var 8) o_none (o_some (x_var 6)) ?_) (x_var 9) ?_) (x_slS (x_var 8) (o_some (x_add (x_var 6) x_int)) o_none ?_) ?_), ?_⟩
        · have : (9 : Nat) ≤ sizeLine := by decide
          omega
        · have : (90 : Nat) ≤ sizeLine := by decide
          omega
        · have : (9 : Nat) ≤ sizeLine := by decide
          omega
        · have h9 : (9 : Nat) ≤ sizeLine := by decide
          rw [← Str.length_append]
          omega
        · rintro o2 s2 ⟨rfl, rfl⟩
          exact ⟨1, _, _, rfl, rfl, by rw [List.length_map]; omega, _, ⟨nok_app (nok_app (nok_cut hwd) hc) (nok_cut hwd), hw9⟩, by rw [List.map_append]; rfl⟩
      · rintro o r ⟨n, hn, rfl⟩
        refine at_le hD1 ⟨_, _, l ++ [n], rfl, rfl, by rw [List.length_append, hl]; rfl, fun m hm => ?_⟩ (gle_refl _)
        rcases List.mem_append.mp hm with z | z
        · exact hok m z
        · rw [List.mem_singleton.mp z]; exact hn
    rintro G1 o1 ⟨u7, u9, l, rfl, rfl, hl, hok⟩
    rw [hlen] at hl
    refine g_end ?_
    exact tail f4 q2 l rest _ _ _ _ _ _ _ _ (h4.le (by decide)) hl hok
end
end CB

/-! Part 53: _law_case. -/
namespace CB
open PySem PySem.Spec PyProof.Rows L2
theorem ix_ints {ns : List Int} {i : Int} (h0 : 0 ≤ i) (h1 : i < ns.length) : ∃ n ∈ ns, atI (ns.map PyData.int) i = some (.int n) := by
  obtain ⟨j, rfl⟩ := Int.eq_ofNat_of_zero_le h0
  have h3 : j < ns.length := by omega
  exact ⟨ns[j], List.getElem_mem h3, atI_nat (by rw [List.getElem?_map, List.getElem?_eq_getElem h3]; rfl)⟩
section
variable {X : Cx} {G : List Sl} {own : OL} {a b : Expr} {pos : Pos} {p : Addr} {rest : OL} {f f1 : Feed} {n : Int}
/-- one of some numbers, by a draw -/
theorem m_pick {ns : List Int} (ha : EX X G own a (.d (.list (ns.map .int)))) (hb : EM X G own b (DrawC X.K p rest f n (ns.length : Int))) (hs : PlainIx b := by exact fun _ _ => rfl) : EM X G own (.Subscript a b pos) fun o r => ∃ f' v, o = (p, asT X.K (feedT f')) :: rest ∧ FdTo n f f' ∧ v ∈ ns ∧ r = .d (.int v) :=
  m_ix (C := Is own (.d (.list (ns.map .int)))) (C' := fun _ _ => DrawC X.K p rest f n (ns.length : Int)) ix_list (m_x ha) (fun o x ⟨e1, e2⟩ => by subst e1; exact hb) (fun o x o' y ⟨e1, e2⟩ ⟨f', i, e3, h1, h2, h3, e4⟩ => by
    obtain ⟨v, hv, ev⟩ := ix_ints h2 h3
    subst e2 e4
    exact ⟨_, rd_ixL ev, f', v, e3, h1, hv, rfl⟩) hs
/-- a slice from the front of what turns things -/
theorem m_slF {e : Expr} {p2 : Pos} {C D : OL → Sl → Prop} (ha : EM X G own a C) (h : ∀ o s, C o s → ∃ (ds : List PyData) (i : Int), s = .d (.list ds) ∧ EX X G o e (.d (.int i)) ∧ D o (.d (.list (cutA ds none (some i))))) : EM X G own (.Subscript a (.Slice none (some e) none p2) pos) D :=
  EM.of (pe_slice sl_list pe_w po_none (po_some pe_w)) fun R H z w hz Q q => ha R H z w hz _ fun o s v R1 H1 c p1 e1 => by
    obtain ⟨ds, i, rfl, hi, hd⟩ := h o s c
    refine (eo_none : EvO X.K G o tNoPart none) R1 H1 z p1.ow (hold_up p1.rr hz) _ fun R2 H2 g2 => (eo_some hi : EvO X.K G o _ (some i)) R2 H2 z (p1.ow.grow g2) (hold_up g2.rr (hold_up p1.rr hz)) _ fun R3 H3 g3 => ?_
    obtain ⟨l, xs, rfl, q1, q2⟩ := dp_lst (d_slr (slr_up g3.rr (slr_up g2.rr e1)))
    have p3 := (p1.grow g2).grow g3
    refine ⟨l, xs, rfl, sql_up g3.rh q1, fun r hr => ?_⟩
    have g4 := Grow.imm (o := .lst (cutV xs none (some i))) g3.rh hr
    exact q o _ _ _ _ hd (p3.grow g4) (slr_d (.lst (SqL.of upd_same) (dps_up g4.rr _ _ (dps_cut q2))))
end
/-- a book, terms, days, as they are drawn -/
structure CaseOk (NS : List Str) (bk : List Page) (t : Tm) (days : List Int) : Prop where
  n9 : NS.length ≤ 9
  nm : ∀ n ∈ NS, NmS n
  bo : Book bk
  ne : bk ≠ []
  ln : bk.length ≤ 21
  pg : ∀ q ∈ bk, PgL NS q
  tm : (1 ≤ t.1 ∧ t.1 ≤ 60) ∧ (1 ≤ t.2 ∧ t.2 ≤ 60)
  dl : days.length = 3
  dy : ∀ d ∈ days, 0 ≤ d ∧ d ≤ 20000
theorem inOrder_len (l : List Page) : (inOrder l).length ≤ l.length := by
  unfold inOrder Page.sortP
  rw [List.length_mergeSort]
  have := dedup_len l []
  simpa using this
theorem Book.filter {bk : List Page} (h : Book bk) (b : Page → Bool) : Book (bk.filter b) := ⟨h.so.sublist List.filter_sublist, h.nd.sublist List.filter_sublist⟩
section
variable {P : Program} {w : World} {K : PySem.W.Frag} {mg : Str → Option Value} {base : Heap}
theorem sc_law_case : FnScope ["_law_feed_here", "_law_great", "_law_many", "_law_wide", "_law_most", "_law_names_here", "_law_book_here", "_law_terms", "_law_page_here", "_law_k"] ["_law_feed_here"] (defScope s_law_case) := ⟨rfl, rfl, rfl, by decide +kernel, rfl, by decide +kernel, by decide +kernel⟩
theorem g_law_case (T : Tx K mg) : Gd P w K mg base 6 "_law_case" 1 (spM K fun oc ss C => ∃ p f, oc = [(p, asT K (feedT f))] ∧ ss = [.v (.ref p)] ∧ 0 ≤ f.turn ∧ f.turn < 600000 ∧ 0 ≤ f.at_ ∧ C = fun o r => ∃ (f' : Feed) (NS : List Str) (bk : List Page) (t : Tm) (days : List Int), o = [(p, asT K (feedT f'))] ∧ FdTo 600 f f' ∧ r = .d (.tuple [.tuple (bk.map Page.enc), tmD t, .list (days.map .int)]) ∧ CaseOk NS bk t days) := by
  obtain ⟨fd, F⟩ := T.fun_law_case
  refine gd_mk F rfl (okM (k := 5) F sc_law_case (fun _ _ _ ⟨_, _, _, e, _⟩ => by rw [e]; rfl) ?_) T.glo_law_case fun _ _ _ _ _ _ us hl => match us, hl with | [_], _ => rfl
  rintro cd A outer s H0 E hr oc ss C B D ⟨p, f, rfl, rfl, ht0, ht1, ha0, rfl⟩ hF hD
  have hs := FdTo.self ha0
  have hr1 := hr.mono (show 1 ≤ 5 by decide)
  -- from the terms on
  have tail2 : ∀ (f1 : Feed) (great : Bool) (many wide most : Int) (ns : List Str) (bk : List Page) (u7 u8 u9 : Sl), FdTo 560 f f1 → 1 ≤ wide → wide ≤ 100 → 1 ≤ most → most ≤ 60 → ns.length ≤ 9 → (∀ n ∈ ns, NmS n) → Book bk → bk ≠ [] → bk.length ≤ 21 → (∀ q ∈ bk, PgL ns q) →
      Go (bX P w K mg base ["_law_feed_here", "_law_great", "_law_many", "_law_wide", "_law_most", "_law_names_here", "_law_book_here", "_law_terms", "_law_page_here", "_law_k"] "_law_case" s_law_case (He.fAd K ("_law_case", none)) cd A outer s H0 E) B [.v (.ref p), .d (.bool great), .d (.int many), .d (.int wide), .d (.int most), .d (.list (ns.map .str)), .d (.tuple (bk.map Page.enc)), u7, u8, u9] [(p, asT K (feedT f1))] D ((defBody s_law_case).drop 7) := by
    intro f1 great many wide most ns bk u7 u8 u9 h1 hw1 hw2 hm1 hm2 hn9 hns hbo hne hln hpg
    show Go _ _ _ _ _ [.Assign _ _ _, .Return (some _) _]
    refine g_setM sc_law_case.nd 7 (C := fun o r => ∃ (f2 : Feed) (t : Tm), o = [(p, asT K (feedT f2))] ∧ FdTo 562 f f2 ∧ ((1 ≤ t.1 ∧ t.1 ≤ 60) ∧ (1 ≤ t.2 ∧ t.2 ≤ 60)) ∧ r = .d (tmD t)) (m_tup (C := fun o ss => ∃ (f2 : Feed) (t : Tm), o = [(p, asT K (feedT f2))] ∧ FdTo 562 f f2 ∧ ((1 ≤ t.1 ∧ t.1 ≤ 60) ∧ (1 ≤ t.2 ∧ t.2 ≤ 60)) ∧ ss = [.d (.int t.1), .d (.int t.2)]) (ma_then (m_succ (p := p) (rest := []) (f := f) (n := 560 + 1) (many := most) x_int (m_draw1 (many := most) T hr1 (x_var 0) (x_var 4) h1 (by omega) (by omega) ht0 (by omega))) ?_) ?_) ?_
    · rintro o r ⟨f2, i, rfl, h2, hi0, hi1, rfl⟩
      refine ma_le (ma_one (m_succ (p := p) (rest := []) (f := f) (n := 560 + 1 + 1) (many := most) x_int (m_draw1 (many := most) T hr1 (x_var 0) (x_var 4) h2 (by omega) (by omega) ht0 (by omega)))) ?_
      rintro o ss ⟨t, ⟨f3, j, rfl, h3, hj0, hj1, rfl⟩, rfl⟩
      exact ⟨f3, (i, j), rfl, h3.le (by omega), ⟨⟨hi0, by show i ≤ 60; omega⟩, ⟨hj0, by show j ≤ 60; omega⟩⟩, rfl⟩
    · rintro o ss ⟨f2, t, rfl, h2, h3, rfl⟩
      exact ⟨[.int t.1, .int t.2], rfl, Nat.le_of_ble_eq_true rfl, f2, t, rfl, h2, h3, rfl⟩
    rintro o r ⟨f2, t, rfl, h2, htm, rfl⟩
    obtain ⟨q0, bk', rfl⟩ : ∃ q0 bk', bk = q0 :: bk' := by
      cases bk with
      | nil => exact absurd rfl hne
      | cons q0 bk' => exact ⟨q0, bk', rfl⟩
    have hq0 := (hpg q0 List.mem_cons_self).dy
    refine g_retM (C := fun o r => ∃ (f3 : Feed) (days : List Int), o = [(p, asT K (feedT f3))] ∧ FdTo 600 f f3 ∧ days.length = 3 ∧ (∀ d ∈ days, 0 ≤ d ∧ d ≤ 20000) ∧ r = .d (.tuple [.tuple ((q0 :: bk').map Page.enc), tmD t, .list (days.map .int)])) (m_tup (C := fun o ss => ∃ (f3 : Feed) (days : List Int), o = [(p, asT K (feedT f3))] ∧ FdTo 600 f f3 ∧ days.length = 3 ∧ (∀ d ∈ days, 0 ≤ d ∧ d ≤ 20000) ∧ ss = [.d (.tuple ((q0 :: bk').map Page.enc)), .d (tmD t), .d (.list (days.map .int))]) (ma_le (ma_head (x_var 6) (ma_head (x_var 7) (ma_one (C := fun o r => ∃ (f3 : Feed) (days : List Int), o = [(p, asT K (feedT f3))] ∧ FdTo 600 f f3 ∧ days.length = 3 ∧ (∀ d ∈ days, 0 ≤ d ∧ d ≤ 20000) ∧ r = .d (.list (days.map .int))) (m_lc (g := gName 9) sc_law_case.nd [("_law_k", 9)] (src_m (src_rng1 x_int T.free_range (by decide))) (blkOk_by (N := ["_law_feed_here", "_law_great", "_law_many", "_law_wide", "_law_most", "_law_names_here", "_law_book_here", "_law_terms", "_law_page_here", "_law_k"]) (sc := defScope s_law_case) (by decide +kernel)) (fun _ _ _ _ _ => pg_name (i := 9) sc_law_case.nd rfl (.inl rfl)) (gw_name (by decide)) ?_)))) ?_) ?_) ?_
    · rintro o xs V ⟨rfl, rfl, rfl⟩
      have hlen : (rngD 0 (3 : Int).toNat).length = 3 := by unfold rngD; simp
      refine ⟨by rw [hlen]; decide, fun i acc o1 => ∃ (f3 : Feed) (days : List Int), o1 = [(p, asT K (feedT f3))] ∧ FdTo (562 + (i : Int)) f f3 ∧ acc = days.map .int ∧ days.length = i ∧ ∀ d ∈ days, 0 ≤ d ∧ d ≤ 20000, ⟨f2, [], rfl, by simpa using h2, rfl, rfl, fun d hd => nomatch hd⟩, fun _ _ _ _ _ _ _ => trivial, ?_, ?_⟩
      · rintro i x acc o1 hx ⟨f3, days, rfl, h3, rfl, hl, hd⟩
        obtain ⟨rfl, _, hi⟩ := days_get hx
        have hi3 : i < 3 := hi
        refine ⟨_, gd_name, fun _ _ _ _ _ => m_le (m_succ (p := p) (rest := []) (f := f) (n := 562 + (i : Int) + 1) (many := wide + 9) (j := q0.day) (x_ixn 1 (x_ixn 0 (x_var 6) x_int) x_int) (m_draw1 (many := wide + 9) T hr1 (x_var 0) (x_add (x_var 3) x_int) h3 (by omega) (by omega) ht0 (by omega))) ?_⟩
        rintro o r ⟨f4, d, rfl, h4, hd0, hd1, rfl⟩
        refine ⟨_, rfl, f4, days ++ [d], rfl, ?_, by rw [List.map_append]; rfl, by rw [List.length_append, hl]; rfl, fun y hy => ?_⟩
        · have e : 562 + ((i + 1 : Nat) : Int) = 562 + (i : Int) + 1 := by omega
          rw [e]
          exact h4
        · rcases List.mem_append.mp hy with z | z
          · exact hd y z
          · rw [List.mem_singleton.mp z]
            omega
      · rintro acc o1 ⟨f3, days, rfl, h3, rfl, hl, hd⟩
        rw [hlen] at h3 hl
        exact ⟨f3, days, rfl, h3.le (by decide), hl, hd, rfl⟩
    · rintro o ss ⟨t1, ⟨t2, ⟨t3, ⟨f3, days, rfl, h3, hl, hd, rfl⟩, rfl⟩, rfl⟩, rfl⟩
      exact ⟨f3, days, rfl, h3, hl, hd, rfl⟩
    · rintro o ss ⟨f3, days, rfl, h3, hl, hd, rfl⟩
      exact ⟨[.tuple ((q0 :: bk').map Page.enc), tmD t, .list (days.map .int)], rfl, Nat.le_of_ble_eq_true rfl, f3, days, rfl, h3, hl, hd, rfl⟩
    · rintro o r v R H ⟨f3, days, rfl, h3, hl, hd, rfl⟩ z e
      exact hD.1 _ _ v R H ⟨f3, ns, q0 :: bk', t, days, rfl, h3, rfl, hn9, hns, hbo, hne, hln, hpg, htm, hl, hd⟩ z e
  -- from the book on
  have tail : ∀ (f1 : Feed) (great : Bool) (many wide most : Int) (ns : List Str) (u6 u7 u8 u9 : Sl), FdTo 50 f f1 → 1 ≤ wide → wide ≤ 100 → 1 ≤ most → most ≤ 60 → 2 ≤ ns.length → ns.length ≤ 9 → (∀ n ∈ ns, NmS n) →
      Go (bX P w K mg base ["_law_feed_here", "_law_great", "_law_many", "_law_wide", "_law_most", "_law_names_here", "_law_book_here", "_law_terms", "_law_page_here", "_law_k"] "_law_case" s_law_case (He.fAd K ("_law_case", none)) cd A outer s H0 E) B [.v (.ref p), .d (.bool great), .d (.int many), .d (.int wide), .d (.int most), .d (.list (ns.map .str)), u6, u7, u8, u9] [(p, asT K (feedT f1))] D ((defBody s_law_case).drop 5) := by
    intro f1 great many wide most ns u6 u7 u8 u9 h1 hw1 hw2 hm1 hm2 hn2 hn9 hns
    show Go _ _ _ _ _ (.Assign _ _ _ :: .If _ _ _ _ :: (defBody s_law_case).drop 7)
    refine g_setM sc_law_case.nd 6 (C := fun o r => ∃ (f2 : Feed) (l : List Page), o = [(p, asT K (feedT f2))] ∧ FdTo 560 f f2 ∧ r = .d (.tuple ((inOrder l).map Page.enc)) ∧ (∀ q ∈ l, PgL ns q) ∧ l.length ≤ 21 ∧ ∃ d n h, Page.house d n h ∈ l) (m_call (k := 5) (n := 4) (C := fun o ss => ∃ f2 m, o = [(p, asT K (feedT f2))] ∧ FdTo 51 f f2 ∧ 0 ≤ m ∧ m ≤ 16 ∧ ss = [.v (.ref p), .d (.list (ns.map .str)), .d (.int m), .d (.int wide)]) (g_law_book T) hr (ma_le (ma_head (x_var 0) (ma_head (x_var 5) (ma_then (C := fun o r => ∃ f2 m, o = [(p, asT K (feedT f2))] ∧ FdTo 51 f f2 ∧ 0 ≤ m ∧ m ≤ 16 ∧ r = .d (.int m)) (D := fun o ss => ∃ f2 m, o = [(p, asT K (feedT f2))] ∧ FdTo 51 f f2 ∧ 0 ≤ m ∧ m ≤ 16 ∧ ss = [.d (.int m), .d (.int wide)]) (m_if (C := fun o k => o = [(p, asT K (feedT f1))] ∧ k = great) (mt_x (x_truth (x_var 1) fun _ => rfl)) ?_ ?_) ?_))) ?_) ?_) ?_
    · rintro o ⟨rfl, _⟩
      refine m_le (m_x x_int) ?_
      rintro o r ⟨rfl, rfl⟩
      exact ⟨f1, 16, rfl, h1.le (by decide), by decide, by decide, rfl⟩
    · rintro o ⟨rfl, _⟩
      refine m_le (m_succ (p := p) (rest := []) (f := f) (n := 50 + 1) (many := 9) x_int (m_draw1 (many := 9) T hr1 (x_var 0) x_int h1 (by decide) (by decide) ht0 (by omega))) ?_
      rintro o r ⟨f2, m, rfl, h2, hm0, hm1, rfl⟩
      exact ⟨f2, m, rfl, h2.le (by decide), by omega, by omega, rfl⟩
    · rintro o r ⟨f2, m, rfl, h2, hm0, hm1, rfl⟩
      refine ma_le (ma_x (a_cons (x_var 3) a_nil)) ?_
      rintro o ss ⟨rfl, rfl⟩
      exact ⟨f2, m, rfl, h2, hm0, hm1, rfl⟩
    · rintro o ss ⟨t1, ⟨t2, ⟨f2, m, rfl, h2, hm0, hm1, rfl⟩, rfl⟩, rfl⟩
      exact ⟨f2, m, rfl, h2, hm0, hm1, rfl⟩
    · rintro o ss ⟨f2, m, rfl, h2, hm0, hm1, rfl⟩
      refine ⟨[(p, asT K (feedT f2))], [], List.Perm.refl _, _, ⟨p, f2, ns, m, wide, rfl, rfl, hn2, hn9, fun n hn => (hns n hn).1, hm0, hm1, hw1, hw2, by have := h2.t0; omega, by have := h2.t1; omega, h2.a0, rfl⟩, ?_⟩
      rintro o r ⟨f3, l, rfl, h3, rfl, h4, h5, h6⟩
      exact ⟨f3, l, rfl, (h2.trans h3).le (by decide), rfl, h4, h5, h6⟩
    rintro o r ⟨f2, l, rfl, h2, rfl, hpl, hll, d0, n0, h0, hhouse⟩
    have hbook := inOrder_book l
    have hmem : ∀ q, q ∈ inOrder l ↔ q ∈ l := fun q => inOrder_mem
    have hlen := inOrder_len l
    cases great with
    | false =>
      refine g_if (k := false) (x_truth (x_var 1) fun _ => rfl) ff fun _ => g_end ?_
      exact tail2 f2 false many wide most ns (inOrder l) _ _ _ h2 hw1 hw2 hm1 hm2 hn9 hns hbook (List.ne_nil_of_mem ((hmem _).mpr hhouse)) (by omega) fun q hq => hpl q ((hmem q).mp hq)
    | true =>
      refine g_if (k := true) (x_truth (x_var 1) fun _ => rfl) (fun _ => ?_) fun h => by cases h
      refine g_set sc_law_case.nd 6 (x_ct call_tuple_of T.free_tuple rc_tupL (a_cons (x_lcIf (l := inOrder l) (enc := Page.enc) (g := gName 8) sc_law_case.nd [("_law_page_here", 8)] (fun q => !decide (q.kind = ("part" : Str))) Page.enc (src_tup (x_var 6)) (fun _ _ _ => trivial) (by omega) (blkOk_by (N := ["_law_feed_here", "_law_great", "_law_many", "_law_wide", "_law_most", "_law_names_here", "_law_book_here", "_law_terms", "_law_page_here", "_law_k"]) (sc := defScope s_law_case) (by decide +kernel)) (fun _ _ _ _ _ => pg_name (i := 8) sc_law_case.nd rfl (.inl rfl)) (gw_name (by decide))
        fun q hq => ⟨_, gd_name, fun _ _ _ _ _ => x_cmpT op_ne rd_neS rfl (x_ixn (d := .str q.kind) 0 (x_var 8) x_int) x_str, fun _ _ _ _ _ _ => x_var 8⟩) a_nil)) ?_
      refine g_end ?_
      have hin : ∀ q, q ∈ (inOrder l).filter (fun q => !decide (q.kind = ("part" : Str))) → q ∈ l := fun q hq => (hmem q).mp (List.mem_filter.mp hq).1
      refine tail2 f2 true many wide most ns _ _ _ _ h2 hw1 hw2 hm1 hm2 hn9 hns (hbook.filter _) (List.ne_nil_of_mem (a := Page.house d0 n0 h0) (List.mem_filter.mpr ⟨(hmem _).mpr hhouse, ?_⟩)) (Nat.le_trans (List.length_filter_le _ _) (by omega)) fun q hq => hpl q (hin q hq)
      show (!decide (("house" : Str) = ("part" : Str))) = true
      decide +kernel
  -- the case
  refine g_setM sc_law_case.nd 1 (C := fun o r => ∃ f1 g, o = [(p, asT K (feedT f1))] ∧ FdTo 1 f f1 ∧ r = .d (.bool g)) (m_cmp (C' := fun o _ => Is o (.d (.int 0))) op_eq rfl (m_draw1 (many := 8) T hr1 (x_var 0) x_int hs (by decide) (by decide) ht0 (by omega)) (fun o x _ => m_x x_int) ?_) ?_
  · rintro o x o' y ⟨f1, i, rfl, h1, hi0, hi1, rfl⟩ ⟨rfl, rfl⟩
    exact ⟨_, rd_eqI, f1, _, rfl, h1, rfl⟩
  rintro o r ⟨f1, great, rfl, h1, rfl⟩
  refine g_asgM (g := gTup K 2 (gCons (gName 2) (gCons (gName 3) gNil))) (C := fun o r => ∃ f2 many wide, o = [(p, asT K (feedT f2))] ∧ FdTo 3 f f2 ∧ 2 ≤ many ∧ many ≤ 4 ∧ 3 ≤ wide ∧ wide ≤ 30 ∧ r = .d (.tuple [.int many, .int wide])) (m_tup (C := fun o ss => ∃ f2 many wide, o = [(p, asT K (feedT f2))] ∧ FdTo 3 f f2 ∧ 2 ≤ many ∧ many ≤ 4 ∧ 3 ≤ wide ∧ wide ≤ 30 ∧ ss = [.d (.int many), .d (.int wide)]) (ma_then (m_pick (p := p) (rest := []) (f := f) (n := 1 + 1) (ns := [2, 3, 4, 3]) (x_lst (ds := [.int 2, .int 3, .int 4, .int 3]) (a_cons x_int (a_cons x_int (a_cons x_int (a_cons x_int a_nil))))) (m_draw1 (many := 4) T hr1 (x_var 0) x_int h1 (by decide) (by decide) ht0 (by omega))) ?_) ?_) (pg_tup rfl (pgs_cons (pg_name (i := 2) sc_law_case.nd rfl (.inl rfl)) (pgs_cons (pg_name (i := 3) sc_law_case.nd rfl (.inr rfl)) pgs_nil))) ?_
  · rintro o r ⟨f2, many, rfl, h2, hm, rfl⟩
    refine ma_le (ma_one (m_pick (p := p) (rest := []) (f := f) (n := 1 + 1 + 1) (ns := [3, 8, 20, 30]) (x_lst (ds := [.int 3, .int 8, .int 20, .int 30]) (a_cons x_int (a_cons x_int (a_cons x_int (a_cons x_int a_nil))))) (m_draw1 (many := 4) T hr1 (x_var 0) x_int h2 (by decide) (by decide) ht0 (by omega)))) ?_
    rintro o ss ⟨t, ⟨f3, wide, rfl, h3, hw, rfl⟩, rfl⟩
    simp only [List.mem_cons, List.not_mem_nil, or_false] at hm hw
    exact ⟨f3, many, wide, rfl, h3.le (by decide), by omega, by omega, by omega, by omega, rfl⟩
  · rintro o ss ⟨f2, many, wide, rfl, h2, a1, a2, a3, a4, rfl⟩
    exact ⟨[.int many, .int wide], rfl, Nat.le_of_ble_eq_true rfl, f2, many, wide, rfl, h2, a1, a2, a3, a4, rfl⟩
  rintro o r ⟨f2, many, wide, rfl, h2, hy1, hy2, hw1, hw2, rfl⟩
  refine ⟨_, gd_tup (xs := [.int many, .int wide]) (gds_cons gd_name (gds_cons gd_name gds_nil)) rfl, ?_⟩
  refine g_setM sc_law_case.nd 4 (m_pick (p := p) (rest := []) (f := f) (n := 3 + 1) (ns := [2, 5, 12, 3]) (x_lst (ds := [.int 2, .int 5, .int 12, .int 3]) (a_cons x_int (a_cons x_int (a_cons x_int (a_cons x_int a_nil))))) (m_draw1 (many := 4) T hr1 (x_var 0) x_int h2 (by decide) (by decide) ht0 (by omega))) ?_
  rintro o r ⟨f3, most, rfl, h3, hmo, rfl⟩
  have hm12 : 2 ≤ most ∧ most ≤ 12 := by
    simp only [List.mem_cons, List.not_mem_nil, or_false] at hmo
    omega
  refine g_setM sc_law_case.nd 5 (C := fun o r => ∃ (f4 : Feed) (ns : List Str), o = [(p, asT K (feedT f4))] ∧ FdTo 50 f f4 ∧ 2 ≤ ns.length ∧ ns.length ≤ 9 ∧ (∀ n ∈ ns, NmS n) ∧ r = .d (.list (ns.map .str))) (m_slF (C := fun o r => ∃ (f4 : Feed) (ns : List Str), o = [(p, asT K (feedT f4))] ∧ FdTo 50 f f4 ∧ r = .d (.list (ns.map .str)) ∧ ns.length = 9 ∧ ∀ n ∈ ns, NmS n) (m_call (k := 2) (n := 1) (C := fun o ss => o = [(p, asT K (feedT f3))] ∧ ss = [.v (.ref p)]) (g_law_names T) (hr.mono (by decide)) (ma_x (a_cons (x_var 0) a_nil)) ?_) ?_) ?_
  · rintro o ss ⟨rfl, rfl⟩
    refine ⟨[(p, asT K (feedT f3))], [], List.Perm.refl _, _, ⟨p, f3, rfl, rfl, by have := h3.t0; omega, by have := h3.t1; omega, h3.a0, rfl⟩, ?_⟩
    rintro o r ⟨f4, ns, rfl, h4, rfl, hl, hn⟩
    exact ⟨f4, ns, rfl, (h3.trans h4).le (by decide), rfl, hl, hn⟩
  · rintro o r ⟨f4, ns, rfl, h4, rfl, hl, hn⟩
    have cut : ∀ i : Int, 2 ≤ i → cutA (ns.map PyData.str) none (some i) = (ns.take i.toNat).map PyData.str := fun i hi => by
      have e : i = ((i.toNat : Nat) : Int) := by omega
      rw [List.map_take]
      conv => lhs; rw [e]
      exact cut_front _ _
    refine ⟨ns.map .str, if great then 9 else many, rfl, x_if (k := great) (x_truth (x_var 1) fun _ => rfl) (fun h => x_is x_int (by rw [h]; rfl)) (fun h => x_is (x_var 2) (by rw [h]; rfl)), f4, ns.take (if great then 9 else many).toNat, rfl, h4, ?_, ?_, fun n hn' => hn n (List.mem_of_mem_take hn'), ?_⟩
    · rw [List.length_take, hl]
      split <;> omega
    · rw [List.length_take, hl]
      omega
    · rw [cut _ (by split <;> omega)]
  rintro o r ⟨f4, ns, rfl, h4, hn2, hn9, hns, rfl⟩
  cases great with
  | false =>
    refine g_if (k := false) (x_truth (x_var 1) fun _ => rfl) ff fun _ => g_end ?_
    exact tail f4 false many wide most ns _ _ _ _ h4 (by omega) (by omega) (by omega) (by omega) hn2 hn9 hns
  | true =>
    refine g_if (k := true) (x_truth (x_var 1) fun _ => rfl) (fun _ => ?_) fun h => by cases h
    refine g_asg (g := gTup K 2 (gCons (gName 3) (gCons (gName 4) gNil))) (x_tup (ds := [.int 100, .int 60]) (a_cons x_int (a_cons x_int a_nil))) (pg_tup rfl (pgs_cons (pg_name (i := 3) sc_law_case.nd rfl (.inr rfl)) (pgs_cons (pg_name (i := 4) sc_law_case.nd rfl (.inl rfl)) pgs_nil))) (gd_tup (xs := [.int 100, .int 60]) (gds_cons gd_name (gds_cons gd_name gds_nil)) rfl) ?_
    refine g_end ?_
    exact tail f4 true many 100 60 ns _ _ _ _ h4 (by decide) (by decide) (by decide) (by decide) hn2 hn9 hns
end
end CB

/-! Part 54: law. -/
namespace CB
open PySem PySem.Spec PyProof.Rows L2
theorem ix_pages {bk : List Page} {i : Int} (h0 : 0 ≤ i) (h1 : i < bk.length) : ∃ q ∈ bk, atI (bk.map Page.enc) i = some q.enc := by
  obtain ⟨j, rfl⟩ := Int.eq_ofNat_of_zero_le h0
  have h3 : j < bk.length := by omega
  exact ⟨bk[j], List.getElem_mem h3, atI_nat (by rw [List.getElem?_map, List.getElem?_eq_getElem h3]; rfl)⟩
theorem erase_perm {α : Type} : ∀ {l : List α} {k : Nat} (h : k < l.length), (l[k] :: l.eraseIdx k).Perm l
  | _ :: _, 0, _ => List.Perm.refl _
  | x :: l, k + 1, h => (List.Perm.swap x _ _).trans ((erase_perm (l := l) (k := k) (by simpa using h)).cons x)
section
variable {NS : List Str} {bk : List Page} {t : Tm} {days : List Int} {d : Int}
theorem CaseOk.wg (c : CaseOk NS bk t days) (hd : d ∈ days) : WG NS bk t d :=
  ⟨⟨c.n9, Nat.le_trans c.ln (by decide), fun n hn => (c.nm n hn).1, fun p hp => (c.pg p hp).nm⟩, c.bo.nd, ⟨Int.le_trans c.tm.1.2 (by decide), Int.le_trans c.tm.2.2 (by decide)⟩, by have := c.dy d hd; omega, fun p hp => by have := (c.pg p hp).dy; omega⟩
theorem CaseOk.smb (c : CaseOk NS bk t days) : SmB NS bk := ⟨c.nm, fun p hp => ⟨(c.pg p hp).sm, (c.pg p hp).nm⟩, fun p hp => by have := (c.pg p hp).dy; omega, Nat.le_trans c.ln (by decide)⟩
/-- what is asked of a book that tells the same of a day -/
structure SameD (NS : List Str) (bk : List Page) (t : Tm) (d far : Int) (b : List Page) : Prop where
  wg : WG NS b t d
  eq : allD b t d far = allD bk t d far
theorem SameD.self {far : Int} (g : WG NS bk t d) : SameD NS bk t d far bk := ⟨g, rfl⟩
theorem SameD.up {far : Int} (hb : Book bk) (g : WG NS bk t d) : SameD NS bk t d far (upTo bk d) := ⟨g.up, all_upTo hb g far⟩
end
section
variable {P : Program} {w : World} {K : PySem.W.Frag} {mg : Str → Option Value} {base : Heap}
theorem sc_law : FnScope ["_law_script", "_law_feed_here", "_law_at", "_law_far", "_law_book_here", "_law_terms", "_law_days", "_law_rest", "_law_some", "_law_late", "_law_others", "_law_day", "_law_due", "_law_other", "_law_k", "_law_page_here"] ["_law_script"] (defScope s_law) := ⟨rfl, rfl, rfl, by decide +kernel, rfl, by decide +kernel, by decide +kernel⟩
theorem ok_law (T : Tx K mg) {fd : FuncData} (F : FunD K "law" "law" (defArgs s_law) (defBody s_law) (defScope s_law) [] [] (He.fAd K ("law", none)) fd) : FnG P w K mg base 12 (He.fAd K ("law", none)) fd ["_law_script"] (spD K fun ss r => ∃ ns : List Int, ss = [.d (.list (ns.map .int))] ∧ r = .d (.bool true)) := by
  refine okGD (k := 11) F sc_law (fun _ _ ⟨_, e, _⟩ => by rw [e]; rfl) ?_
  rintro cd A outer s0 H0 E hr hgd ss r B D ⟨ns, rfl, rfl⟩ hF hD
  have hr1 := hr.mono (show 1 ≤ 11 by decide)
  -- the feed
  refine g_setM sc_law.nd 1 (m_call (k := 1) (n := 1) (C := fun o ss => o = [] ∧ ss = [.d (.list (ns.map .int))]) (D := fun o r => ∃ p, o = [(p, asT K (feedT ⟨ns.take 63, 0, 0, 0⟩))] ∧ r = .v (.ref p)) (g_law_feed T) hr1 (ma_x (a_cons (x_var 0) a_nil)) ?_) ?_
  · rintro o ss ⟨rfl, rfl⟩
    refine ⟨[], [], List.Perm.refl _, _, ⟨ns, rfl, rfl, rfl⟩, ?_⟩
    rintro o r ⟨p, rfl, rfl⟩
    exact ⟨p, rfl, rfl⟩
  rintro o r ⟨p, rfl, rfl⟩
  obtain ⟨f, hf⟩ : ∃ f : Feed, f = ⟨ns.take 63, 0, 0, 0⟩ := ⟨_, rfl⟩
  have ht0 : 0 ≤ f.turn := by rw [hf]; exact Int.le_refl _
  have ht1 : f.turn < 1 := by rw [hf]; exact (by decide : (0 : Int) < 1)
  have ha0 : 0 ≤ f.at_ := by rw [hf]; exact Int.le_refl _
  rw [← hf]
  clear hf
  have hs := FdTo.self ha0
  -- at, far
  refine g_parM (C := fun o ss => ∃ f1 at_ far, o = [(p, asT K (feedT f1))] ∧ FdTo 2 f f1 ∧ 0 ≤ at_ ∧ 1 ≤ far ∧ far ≤ 28 ∧ ss = [.d (.int at_), .d (.int far)]) sc_law.nd 2 3 (ma_then (m_draw1 (many := 9999) T hr1 (x_var 1) x_int hs (by decide) (by decide) ht0 (by omega)) ?_) ?_
  · rintro o r ⟨f1, i, rfl, h1, hi0, hi1, rfl⟩
    refine ma_le (ma_one (m_succ (p := p) (rest := []) (f := f) (n := 0 + 1 + 1) (many := 28) x_int (m_draw1 (many := 28) T hr1 (x_var 1) x_int h1 (by decide) (by decide) ht0 (by omega)))) ?_
    rintro o ss ⟨t, ⟨f2, j, rfl, h2, hj0, hj1, rfl⟩, rfl⟩
    exact ⟨f2, i, j, rfl, h2.le (by decide), hi0, hj0, by omega, rfl⟩
  rintro o ss ⟨f1, at_, far, rfl, h1, hat, hfar1, hfar2, rfl⟩
  refine ⟨_, _, rfl, ?_⟩
  -- the case
  refine g_asgM (g := gTup K 3 (gCons (gName 4) (gCons (gName 5) (gCons (gName 6) gNil)))) (C := fun o r => ∃ (f2 : Feed) (NS : List Str) (bk : List Page) (t : Tm) (days : List Int), o = [(p, asT K (feedT f2))] ∧ FdTo 602 f f2 ∧ r = .d (.tuple [.tuple (bk.map Page.enc), tmD t, .list (days.map .int)]) ∧ CaseOk NS bk t days) (m_call (k := 6) (n := 1) (C := fun o ss => o = [(p, asT K (feedT f1))] ∧ ss = [.v (.ref p)]) (g_law_case T) (hr.mono (by decide)) (ma_x (a_cons (x_var 1) a_nil)) ?_) (pg_tup rfl (pgs_cons (pg_name (i := 4) sc_law.nd rfl (.inl rfl)) (pgs_cons (pg_name (i := 5) sc_law.nd rfl (.inl rfl)) (pgs_cons (pg_name (i := 6) sc_law.nd rfl (.inl rfl)) pgs_nil)))) ?_
  · rintro o ss ⟨rfl, rfl⟩
    refine ⟨[(p, asT K (feedT f1))], [], List.Perm.refl _, _, ⟨p, f1, rfl, rfl, by have := h1.t0; omega, by have := h1.t1; omega, h1.a0, rfl⟩, ?_⟩
    rintro o r ⟨f2, NS, bk, t, days, rfl, h2, rfl, c⟩
    exact ⟨f2, NS, bk, t, days, rfl, (h1.trans h2).le (by decide), rfl, c⟩
  rintro o r ⟨f2, NS, bk, t, days, rfl, h2, rfl, c⟩
  refine ⟨_, gd_tup (xs := [.tuple (bk.map Page.enc), tmD t, .list (days.map .int)]) (gds_cons gd_name (gds_cons gd_name (gds_cons gd_name gds_nil))) rfl, ?_⟩
  have hbl : (bk.map Page.enc).length = bk.length := List.length_map _
  have hbpos : 0 < bk.length := List.length_pos_iff.mpr c.ne
  have hb21 := c.ln
  have hpok : ∀ q ∈ bk, q.ok := fun q hq n hn => (c.nm n ((c.pg q hq).nm n hn)).1
  -- rest
  refine g_setM sc_law.nd 7 (m_listT (x_var 4) T.free_list) ?_
  rintro o r ⟨q, rfl, rfl⟩
  refine g_perm (List.Perm.swap _ _ _) ?_
  -- some
  refine g_setLcM 8 (C := fun o r => ∃ (f3 : Feed) (l2 done : List Page), o = [(p, asT K (feedT f3)), (q, asL K (l2.map Page.enc))] ∧ FdTo 630 f f3 ∧ r = .d (.list (done.map Page.enc)) ∧ done.length = bk.length ∧ ∀ x, x ∈ done ↔ x ∈ bk) (lcm_lc (g := gName 14) sc_law.nd [("_law_k", 14)] (src_m (src_rng1 (x_is (x_cb call_len_seq T.free_len rc_lenT (a_cons (x_var 4) a_nil)) (by rw [hbl])) T.free_range (by omega))) (blkOk_by (N := ["_law_script", "_law_feed_here", "_law_at", "_law_far", "_law_book_here", "_law_terms", "_law_days", "_law_rest", "_law_some", "_law_late", "_law_others", "_law_day", "_law_due", "_law_other", "_law_k", "_law_page_here"]) (sc := defScope s_law) (by decide +kernel)) (fun _ _ _ _ _ => pg_name (i := 14) sc_law.nd rfl (.inl rfl)) (gw_name (by decide)) ?_) ?_
  · rintro o xs V ⟨rfl, rfl, rfl⟩
    have hlen : (rngD 0 (bk.length : Int).toNat).length = bk.length := by unfold rngD; simp
    refine ⟨by rw [hlen]; omega, fun i acc o1 => ∃ (f3 : Feed) (l2 done : List Page), o1 = [(p, asT K (feedT f3)), (q, asL K (l2.map Page.enc))] ∧ FdTo (602 + (i : Int)) f f3 ∧ acc = done.map Page.enc ∧ done.length = i ∧ (done ++ l2).Perm bk, ⟨f2, bk, [], rfl, by simpa using h2, rfl, rfl, List.Perm.refl _⟩, fun _ _ _ _ _ _ _ => trivial, ?_, ?_⟩
    · rintro i x acc o1 hx ⟨f3, l2, done, rfl, h3, rfl, hdl, hperm⟩
      obtain ⟨rfl, _, hi⟩ := days_get hx
      have hi2 : i < bk.length := by simpa using hi
      have hpl := hperm.length_eq
      rw [List.length_append, hdl] at hpl
      refine ⟨_, gd_name, fun _ _ _ _ _ => m_popAt (p := q) (ds0 := l2.map Page.enc) 1 (x_var 7) rfl (m_draw1 (rest := [(q, asL K (l2.map Page.enc))]) (many := (l2.length : Int)) T hr1 (x_var 1) (x_is (x_cb call_len_seq T.free_len (rc_lenO (i := 1) rfl) (a_cons (x_var 7) a_nil)) (by rw [List.length_map])) h3 (by omega) (by omega) ht0 (by omega)) ?_⟩
      rintro o2 s2 ⟨f4, j, rfl, h4, hj0, hj1, rfl⟩
      obtain ⟨k, rfl⟩ := Int.eq_ofNat_of_zero_le hj0
      have hk : k < l2.length := by omega
      refine ⟨1, k, _, l2[k].enc, rfl, rfl, by rw [List.length_map]; omega, by rw [List.getElem?_map, List.getElem?_eq_getElem hk]; rfl, _, rfl, f4, l2.eraseIdx k, done ++ [l2[k]], ?_, ?_, by rw [List.map_append]; rfl, by rw [List.length_append, hdl]; rfl, ?_⟩
      · rw [erase_map]
        rfl
      · have e : 602 + ((i + 1 : Nat) : Int) = 602 + (i : Int) + 1 := by omega
        rw [e]
        exact h4
      · rw [List.append_assoc]
        exact (List.Perm.append_left done (erase_perm hk)).trans hperm
    · rintro acc o1 ⟨f3, l2, done, rfl, h3, rfl, hdl, hperm⟩
      rw [hlen] at h3 hdl
      have hpl := hperm.length_eq
      rw [List.length_append, hdl] at hpl
      have e0 : l2 = [] := List.length_eq_zero_iff.mp (by omega)
      subst e0
      rw [List.append_nil] at hperm
      exact ⟨f3, [], done, rfl, h3.le (by omega), rfl, hdl, fun x => hperm.mem_iff⟩
  rintro o r ⟨f3, l2, done, rfl, h3, rfl, hdl, hdm⟩
  let rest : OL := [(q, asL K (l2.map Page.enc))]
  -- some, some twice
  refine g_setM sc_law.nd 8 (C := fun o r => ∃ (f4 : Feed) (l : List Page), o = (p, asT K (feedT f4)) :: rest ∧ FdTo 660 f f4 ∧ r = .d (.list (l.map Page.enc)) ∧ l.length ≤ 42 ∧ ∀ x, x ∈ l ↔ x ∈ bk) (m_op (C := Is ((p, asT K (feedT f3)) :: rest) (.d (.list (done.map Page.enc)))) (C' := fun _ _ o r => ∃ (f4 : Feed) (l : List Page), o = (p, asT K (feedT f4)) :: rest ∧ FdTo 660 f f4 ∧ r = .d (.list (l.map Page.enc)) ∧ l.length ≤ 21 ∧ ∀ x ∈ l, x ∈ bk) op_catL (m_x (x_var 8)) (fun o x cx => ?_) ?_) ?_
  · obtain ⟨e1, e2⟩ := cx
    subst e1
    refine m_lcIf (g := gName 15) sc_law.nd [("_law_page_here", 15)] (src_m (src_tup (x_var 4))) (blkOk_by (N := ["_law_script", "_law_feed_here", "_law_at", "_law_far", "_law_book_here", "_law_terms", "_law_days", "_law_rest", "_law_some", "_law_late", "_law_others", "_law_day", "_law_due", "_law_other", "_law_k", "_law_page_here"]) (sc := defScope s_law) (by decide +kernel)) (fun _ _ _ _ _ => pg_name (i := 15) sc_law.nd rfl (.inl rfl)) (gw_name (by decide)) ?_
    rintro o xs V ⟨rfl, rfl, rfl⟩
    refine ⟨by rw [hbl]; omega, fun i acc o1 => ∃ (f4 : Feed) (l : List Page), o1 = (p, asT K (feedT f4)) :: rest ∧ FdTo (630 + (i : Int)) f f4 ∧ acc = l.map Page.enc ∧ l.length ≤ i ∧ ∀ x ∈ l, x ∈ bk, ⟨f3, [], rfl, by simpa using h3, rfl, Nat.le_refl _, fun x hx => nomatch hx⟩, fun _ _ _ _ _ _ _ => trivial, ?_, ?_⟩
    · rintro i x acc o1 hx ⟨f4, l, rfl, h4, rfl, hl, hin⟩
      obtain ⟨pg, hpg, rfl⟩ := enc_get hx
      have hi : i < bk.length := (List.getElem?_eq_some_iff.mp hpg).1
      refine ⟨_, gd_name, fun o _ => ∃ f5 : Feed, o = (p, asT K (feedT f5)) :: rest ∧ FdTo (630 + (i : Int) + 1) f f5, fun _ _ _ _ _ => m_cmpT (C' := fun o _ => Is o (.d (.int 0))) op_eq rfl (m_draw1 (rest := rest) (many := 4) T hr1 (x_var 1) x_int h4 (by decide) (by decide) ht0 (by omega)) (fun o x _ => m_x x_int) ?_, ?_, ?_⟩
      · rintro o x o' y ⟨f5, j, rfl, h5, _, _, rfl⟩ ⟨rfl, rfl⟩
        exact ⟨_, rd_eqI, f5, rfl, h5⟩
      · rintro o ⟨f5, rfl, h5⟩ _ _ _ _ _
        refine m_le (m_x (x_var 15)) ?_
        rintro o r ⟨rfl, rfl⟩
        refine ⟨_, rfl, f5, l ++ [pg], rfl, ?_, by rw [List.map_append]; rfl, by rw [List.length_append]; exact Nat.succ_le_succ hl, fun y hy => ?_⟩
        · have e : 630 + ((i + 1 : Nat) : Int) = 630 + (i : Int) + 1 := by omega
          rw [e]
          exact h5
        · rcases List.mem_append.mp hy with z | z
          · exact hin y z
          · rw [List.mem_singleton.mp z]
            exact List.mem_of_getElem? hpg
      · rintro o ⟨f5, rfl, h5⟩
        refine ⟨f5, l, rfl, ?_, rfl, Nat.le_succ_of_le hl, hin⟩
        have e : 630 + ((i + 1 : Nat) : Int) = 630 + (i : Int) + 1 := by omega
        rw [e]
        exact h5
    · rintro acc o1 ⟨f4, l, rfl, h4, rfl, hl, hin⟩
      rw [hbl] at h4 hl
      exact ⟨f4, l, rfl, h4.le (by omega), rfl, by omega, hin⟩
  · rintro o x o' y ⟨rfl, rfl⟩ ⟨f4, l, rfl, h4, rfl, hl, hin⟩
    refine ⟨_, rd_catL (by rw [List.length_map, List.length_map]; omega), f4, done ++ l, rfl, h4, by rw [List.map_append], by rw [List.length_append]; omega, fun x => ?_⟩
    rw [List.mem_append]
    constructor
    · rintro (z | z)
      · exact (hdm x).mp z
      · exact hin x z
    · exact fun z => .inl ((hdm x).mpr z)
  rintro o r ⟨f4, l, rfl, h4, rfl, hl42, hlm⟩
  -- late
  obtain ⟨late, hlate, elate⟩ := ix_pages (bk := bk) (i := at_ % (bk.length : Int)) (Int.emod_nonneg _ (by omega)) (Int.emod_lt_of_pos _ (by omega))
  refine g_set sc_law.nd 9 (s := .d late.enc) (x_ixT (x_var 4) (x_mod (j := (bk.length : Int)) (by omega) (x_var 2) (x_is (x_cb call_len_seq T.free_len rc_lenT (a_cons (x_var 4) a_nil)) (by rw [hbl]))) elate) ?_
  have e1 : inOrder l = bk := inOrder_same c.bo hlm
  have e2 : inOrder (without bk late ++ [late]) = bk := inOrder_back c.bo hlate
  -- others
  refine g_set sc_law.nd 10 (s := .d (.list [.tuple (bk.map Page.enc), .tuple (bk.map Page.enc)])) (x_lst (ds := [.tuple (bk.map Page.enc), .tuple (bk.map Page.enc)]) (a_cons (x_call (oc := []) (g_in_order T) (hr.mono (by decide)) ⟨rfl, l, .inr rfl, by omega, by rw [e1]⟩ (a_cons (x_var 8) a_nil)) (a_cons (x_call (oc := []) (g_with_page T) (hr.mono (by decide)) ⟨rfl, without bk late, late, rfl, Nat.le_trans (List.length_filter_le _ _) (by omega), by rw [e2]⟩ (a_cons (x_call (oc := []) (g_without_page T) hr1 ⟨rfl, bk, late, rfl, hlate, hpok, by omega, rfl⟩ (a_cons (x_var 4) (a_cons (x_var 9) a_nil))) (a_cons (x_var 9) a_nil))) a_nil))) ?_
  -- the days
  obtain ⟨ix, hix⟩ : ∃ ix : Int, ix = 1 + 2 * (if decide ((bk.length : Int) < 16) then 1 else 0) := ⟨_, rfl⟩
  have ecut : cutA (days.map PyData.int) none (some ix) = (cutA days none (some ix)).map PyData.int := by
    unfold cutA
    rw [List.map_take, List.map_drop, List.length_map]
  let own4 : OL := (p, asT K (feedT f4)) :: rest
  refine g_for (g := gName 11) (C := fun o xs V => o = own4 ∧ xs = (cutA days none (some ix)).map PyData.int ∧ V = Ever) (src_m (src_list (x_slL (x_var 6) o_none (o_some (x_is (x_add x_int (x_op op_mul (rd_IC (.inl ⟨by decide, by decide⟩)) x_int (x_ct call_int1 T.free_int rc_intB (a_cons (x_cmp op_lt rd_Ib rfl (x_is (x_cb call_len_seq T.free_len rc_lenT (a_cons (x_var 4) a_nil)) (by rw [hbl])) x_int) a_nil)))) (by rw [hix]))) ecut))) (pg_name (i := 11) sc_law.nd rfl (.inl rfl)) ?_
  rintro o xs V ⟨rfl, rfl, rfl⟩
  refine ⟨fun i G1 o1 => ∃ u11 u12 u13 u14 u15, G1 = [.d (.list (ns.map .int)), .v (.ref p), .d (.int at_), .d (.int far), .d (.tuple (bk.map Page.enc)), .d (tmD t), .d (.list (days.map .int)), .v (.ref q), .d (.list (l.map Page.enc)), .d late.enc, .d (.list [.tuple (bk.map Page.enc), .tuple (bk.map Page.enc)]), u11, u12, u13, u14, u15] ∧ o1 = own4, ⟨_, _, _, _, _, rfl, rfl⟩, fun _ _ _ _ _ _ _ => trivial, ?_, ?_⟩
  · rintro i x G1 o1 B1 D1 hx ⟨u11, u12, u13, u14, u15, rfl, rfl⟩ hB1 hF1 hD1 hrt
    rw [List.getElem?_map] at hx
    cases hq : (cutA days none (some ix))[i]? with
    | none => rw [hq] at hx; cases hx
    | some d =>
      rw [hq] at hx
      cases hx
      have hdd : d ∈ days := cut_sub (List.mem_of_getElem? hq)
      have g := c.wg hdd
      have ht : 1 ≤ t.1 ∧ 1 ≤ t.2 := ⟨c.tm.1.1, c.tm.2.1⟩
      have hsm := all_small g c.smb far
      let due : PyData := .str (PyData.list (allD bk t d far)).shown
      refine ⟨_, gd_name, g_set sc_law.nd 12 (s := .d due) (x_callG (oc := []) (g_law_all T) hr hgd ⟨rfl, NS, bk, t, d, far, g, ht, hsm, rfl, rfl⟩ (a_cons (x_var 4) (a_cons (x_var 5) (a_cons (x_var 11) (a_cons (x_var 3) a_nil))))) ?_⟩
      refine g_for (g := gName 13) (C := fun o xs V => o = own4 ∧ xs = [.tuple (bk.map Page.enc), .tuple (bk.map Page.enc), .tuple ((upTo bk d).map Page.enc)] ∧ V = Ever) (src_m (src_list (x_op op_catL (rd_catL (ds := [.tuple (bk.map Page.enc), .tuple (bk.map Page.enc)]) (es := [.tuple ((upTo bk d).map Page.enc)]) (Nat.le_of_ble_eq_true rfl)) (x_var 10) (x_lst (ds := [.tuple ((upTo bk d).map Page.enc)]) (a_cons (x_call (oc := []) (g_up_to T) (hr.mono (by decide)) ⟨rfl, bk, d, rfl, by omega, rfl⟩ (a_cons (x_var 4) (a_cons (x_var 11) a_nil))) a_nil))))) (pg_name (i := 13) sc_law.nd rfl (.inl rfl)) ?_
      rintro o xs V ⟨rfl, rfl, rfl⟩
      refine ⟨fun i G2 o2 => ∃ u13 u14 u15, G2 = [.d (.list (ns.map .int)), .v (.ref p), .d (.int at_), .d (.int far), .d (.tuple (bk.map Page.enc)), .d (tmD t), .d (.list (days.map .int)), .v (.ref q), .d (.list (l.map Page.enc)), .d late.enc, .d (.list [.tuple (bk.map Page.enc), .tuple (bk.map Page.enc)]), .d (.int d), .d due, u13, u14, u15] ∧ o2 = own4, ⟨_, _, _, rfl, rfl⟩, fun _ _ _ _ _ _ _ => trivial, ?_, ?_⟩
      · rintro j x G2 o2 B2 D2 hx2 ⟨v13, v14, v15, rfl, rfl⟩ hB2 hF2 hD2 hrt2
        obtain ⟨b, rfl, sb⟩ : ∃ b, x = .tuple (b.map Page.enc) ∧ SameD NS bk t d far b := by
          have hm := List.mem_of_getElem? hx2
          simp only [List.mem_cons, List.not_mem_nil, or_false] at hm
          rcases hm with rfl | rfl | rfl
          · exact ⟨bk, rfl, .self g⟩
          · exact ⟨bk, rfl, .self g⟩
          · exact ⟨upTo bk d, rfl, .up c.bo g⟩
        refine ⟨_, gd_name, g_if (k := false) (x_t (x_cmpT op_ne rd_neS rfl (x_callG (oc := []) (g_law_all T) hr hgd ⟨rfl, NS, b, t, d, far, sb.wg, ht, by rw [sb.eq]; exact hsm, rfl, rfl⟩ (a_cons (x_var 13) (a_cons (x_var 5) (a_cons (x_var 11) (a_cons (x_var 3) a_nil))))) (x_var 12)) (by rw [sb.eq, decide_eq_true rfl]; rfl)) ff fun _ => g_end ?_⟩
        exact at_le hD2 ⟨_, _, _, rfl, rfl⟩ (gle_refl _)
      · rintro G2 o2 ⟨v13, v14, v15, rfl, rfl⟩
        refine g_if (k := false) (x_t (x_cmpT op_ne rd_neS rfl (x_callG (oc := []) (g_law_all T) hr hgd ⟨rfl, NS, bk, t, d, far, g, ht, hsm, rfl, rfl⟩ (a_cons (x_var 4) (a_cons (x_var 5) (a_cons (x_var 11) (a_cons (x_var 3) a_nil))))) (x_var 12)) (by rw [decide_eq_true rfl]; rfl)) ff fun _ => g_end ?_
        exact at_le hD1 ⟨_, _, _, _, _, rfl, rfl⟩ (gle_refl _)
  · rintro G1 o1 ⟨u11, u12, u13, u14, u15, rfl, rfl⟩
    exact g_ret x_bl fun v R H z e => hD.1 _ _ v R H rfl z e
end
end CB

/-! Part 55: the end. -/
namespace CB
open PySem PySem.Spec PyProof.Rows L2
/-- what the head leaves -/
theorem facts {P : Program} {w : World} {K : PySem.W.Frag} {h : Heap} {mg : Str → Option Value} {f : Addr} (X : K.In h) (G : h.Ns mainGlobals mg) (hfa : mg ("law" : Str) = some (.ref f)) (c : SaysK K) :
    ∃ (fd : FuncData) (sp : Sp), (∀ (s : Shared) (v : Value), BindsTo s fd ⟨[v], []⟩ [("_law_script", v)]) ∧
      (∀ (H : Hp) (a : Addr) (ns : List Int), SqL K H a (ns.map V.int) → sp [.ref a] H (fun v _ => v = .bl true) fun _ _ _ => False) ∧ ∀ base : Heap, K.In base → base.Ns mainGlobals mg → FnG P w K mg base 12 f fd ["_law_script"] sp := by
  have T : Tx K mg := Tx.of X G c
  obtain ⟨fd, F⟩ := T.fun_law
  have e := hfa.symm.trans T.glo_law
  cases e
  have b := FunD.bindsA (ps := ["_law_script"]) F fun _ _ _ _ _ _ us hl => match us, hl with | [_], _ => rfl
  refine ⟨fd, _, fun s v => b s [v] rfl, fun H a ns hS => ?_, fun base _ _ => ok_law T F⟩
  exact ⟨H, [], [.d (.list (ns.map .int))], .d (.bool true), ⟨rfl, ns, rfl, rfl⟩, ⟨Same.refl _, (fun _ q => nomatch q), List.nodup_nil⟩, ⟨slr_d (.lst hS (ints_dps ns)), trivial⟩, fun v R' H' _ e => dp_bool (d_slr e)⟩
end CB
open PySem PySem.W PySem.Calls PyProof.Rows
set_option maxRecDepth 100000 in
set_option maxHeartbeats 0 in
theorem PySem.Challenge.cw_cardsback_k36_whole_late_pages_holds : PySem.Challenge.rw_cardsback_k36_whole_late_pages.Holds := by
  w_on; o_law
  refine HandSHeadRun.head_any (r := OpenLaw.row PySem.Challenge.rw_cardsback_k36_whole_late_pages) (q := view (OpenLaw.row PySem.Challenge.rw_cardsback_k36_whole_late_pages).prog [58]) (H := CB.hkC) (ob := CB.obC) (M := 4000) (loose := CB.namesC) (d := HandSHeadRun.topDef (OpenLaw.row PySem.Challenge.rw_cardsback_k36_whole_late_pages).prog 58) (kwd := []) CB.obC_eq
    (by kernel_rfl) (fun s => by kernel_rfl) CB.runC (by kernel_rfl) (by kernel_rfl) (by kernel_rfl) (by rfl) (by first | assumption | decide +kernel) (by decide +kernel) ⟨rfl, rfl, rfl, rfl, rfl, by decide +kernel⟩ ?hw ?hc
  case hw => w_witness2
  case hc =>
    refine CB.walk_G (l := PySem.Challenge.rw_cardsback_k36_whole_late_pages) (n := 63) (k := 12) (x := "_law_script") rfl (by decide) (by kernel_rfl) ⟨rfl, by decide, by decide⟩ ?F
    intro w mg fa h Y G hmg0
    obtain ⟨K, KX, c⟩ := Y
    have hmg : mg ("law" : PySem.Str) = some (.ref fa) := by
      have e : (HandSHeadRun.topDef (OpenLaw.row PySem.Challenge.rw_cardsback_k36_whole_late_pages).prog 58).name = ("law" : PySem.Str) := by kernel_rfl
      rw [← e]
      exact hmg0
    obtain ⟨fd, sp, hb, hs, hF⟩ := CB.facts (P := (PySem.Challenge.rw_cardsback_k36_whole_late_pages).prog) (w := w) KX G hmg c
    exact ⟨K, fd, sp, KX, hb, fun H a ns _ _ _ hS => hs H a ns hS, hF⟩
