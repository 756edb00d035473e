import PyProof.Rows.All
import Wide.All
import OpenK.AllK
import Wide.FinOn
import HandS.ForMost
import HandS.Walk
import HandS.Nested
import HandS.Strs
import KE.GoesMore
import HandS.Defaults
import HandS.Codes
import HandS.HeadHook2
import HandS.DictComp
import HandS.Style
import HandS.TupAny
import KE.KRevSl
import HandS.IsInst
import HandS.Replace
import HandS.CallRecv
import HandS.ReplaceList
import HandS.Text
import HandS.Dict
import HandS.SortKw
import HandS.ExcValue
import KE.SortKeyHeap
import HandS.SetKeys
import HandS.WordsDict
import HandS.TupLen
import PyProof.DictMoreH
import HandS.Deep
import HandS.StrMore
import KE.KUnpackStar
import PyProof.P3In
import HandS.Exc
import HandS.CallSlots
import HandS.TryOnly
import HandS.TryMany
import HandS.ExcInit
import KE.KTryMore
import HandS.MakeKwOnly
import HandS.Finally
import PyProof.RulesFinally
import KE.KDictDisplayH
import HandS.SortInts
import KE.KDictSum
import HandS.Conv
import HandS.Lambda
import HandS.ExcIs
import KE.KExcIs
import HandS.Hot
import PyProof.EnumIter
import PyProof.TupleIter
import PyProof.Draws
import HandS.HotCalls
import HandS.Iter
import HandS.ExcCtx
import HandS.ExcField
import HandS.NoneIn
import HandS.MakeKw
import HandS.HeadHook4
import KE.KStateDown
import HandS.Ends
import HandS.Head0
import HandS.Head1
import HandS.Head2
import HandS.HeadEnd
import HandS.HeadHook1
import HandS.HeadHook3
import HandS.HeadWalk
import HandS.EndTab
import PySem.Challenge.RW_tryhouse_k05_texts_that_choose_nothing
set_option Elab.async false
set_option linter.all false
set_option maxRecDepth 100000
set_option maxHeartbeats 0
namespace TH
open PySem PySem.Spec PyProof.Rows L2
/-- the i-th statement of the text -/
def top (i : Nat) : Stmt := PySem.Challenge.pw_tryhouse_k05_texts_that_choose_nothing.main.body.getD i (.Pass ⟨0, 0, 0, 0⟩)
abbrev s_BadText___init__ : Stmt := inClass (top 6) 0
abbrev s_is_name : Stmt := top 24
abbrev s_Book___init__ : Stmt := inClass (top 26) 0
abbrev s_words_of : Stmt := top 32
abbrev s_Chooser___init__ : Stmt := inClass (top 33) 0
abbrev s_Chooser_here : Stmt := inClass (top 33) 1
abbrev s_Chooser_refuse : Stmt := inClass (top 33) 2
abbrev s_Chooser_read_all : Stmt := inClass (top 33) 3
abbrev s_Chooser_read_or : Stmt := inClass (top 33) 4
abbrev s_Chooser_read_and : Stmt := inClass (top 33) 5
abbrev s_Chooser_read_not : Stmt := inClass (top 33) 6
abbrev s_chosen_numbers : Stmt := top 35
abbrev s_chosen : Stmt := top 36
abbrev s__law_mix : Stmt := top 38
abbrev s__law_next : Stmt := top 39
abbrev s__law_alike : Stmt := top 40
abbrev s__law_kind : Stmt := top 41
abbrev s__law_bad : Stmt := top 42
abbrev s__law_refused : Stmt := top 43
abbrev s_law : Stmt := top 44
end TH
namespace TH
open PySem PySem.Spec PyProof.Rows L2
def aboveB (K : PySem.W.Frag) (C0 : Addr) : Bool := PySem.W.readsIn K C0 (.type "type") && decide (PySem.W.specialIn K (.ref C0) "__getattribute__" = some (some (.builtin "type.__getattribute__"))) && (match PySem.W.findCls K (.ref C0) (.type "type") "__init__" with
  | some (.val (.builtin n)) => n == "ValueError.__init__"
  | _ => false)
/-- what the written part says of an own exception class -/
def oexB (K : PySem.W.Frag) (C : Addr) : Bool := (match K.lookup C with
  | some ⟨.type "type", _, .cls cd, sl⟩ => (match cd.mro, sl.toList with
    | .ref C' :: bm, [_, _, _, _, some (.builtin n), _] => C' == C && n == "ValueError.__new__" && !cd.hasDel && cd.hasDict && PySem.HandSPX.refsVE bm
    | _, _ => false)
  | _ => false) && decide (PySem.W.findIn K (.ref C) "__setattr__" = some (some (.builtin "object.__setattr__"))) && decide (PySem.W.subIn K (.ref C) (.type "BaseException") = some true) && decide (PySem.W.typeIn K (.ref C) = some (.type "type")) && PySem.W.keepIn K (.ref C)
def kdNames : List Str := ["Fail", "Skip", "BadBook", "BadText", "BadMany", "NoWork", "Busy"]
def kdB (K : PySem.W.Frag) (D : Addr) (j : Nat) : Bool :=
  decide (PySem.W.findIn K (.ref D) "__getattribute__" = some (some (.builtin "BaseException.__getattribute__"))) && (decide (PySem.W.findIn K (.ref D) "__getattr__" = some none) && (decide (PySem.W.subIn K (.ref D) (.type "BaseException") = some true) && (PySem.W.hasDictIn K D && (decide (PySem.W.findIn K (.ref D) "__class__" = some (some (.builtin "object.__class__"))) && (decide (PySem.W.specialIn K (.builtin "object.__class__") "__get__" = some (some (.builtin "getset_descriptor.__get__"))) && (decide (PySem.W.takesIn K (.builtin "object.__class__") = some true) && (decide (PySem.W.mroIn K D (.type "object") = some true) &&
    (decide (PySem.W.exmOne K (.ref D) (.ref (He.ga K "TryError")) = some true) && (((List.range 7).all fun i => decide (PySem.W.kitOne K (.ref D) (.ref (He.ga K (kdNames.getD i ""))) = some (decide (i = j)))) && (decide (PySem.W.kitOne K (.ref D) (.type "ValueError") = some true) && decide (j < 7)))))))))))
def fnL : List He.DefD := [⟨("is_name", none), "is_name", "is_name", defArgs s_is_name, defBody s_is_name, defScope s_is_name, [], []⟩,
  ⟨("Book", some "__init__"), "__init__", "Book.__init__", defArgs s_Book___init__, defBody s_Book___init__, defScope s_Book___init__, [], []⟩,
  ⟨("_law_next", none), "_law_next", "_law_next", defArgs s__law_next, defBody s__law_next, defScope s__law_next, [], []⟩,
  ⟨("_law_mix", none), "_law_mix", "_law_mix", defArgs s__law_mix, defBody s__law_mix, defScope s__law_mix, [], []⟩,
  ⟨("_law_alike", none), "_law_alike", "_law_alike", defArgs s__law_alike, defBody s__law_alike, defScope s__law_alike, [], []⟩,
  ⟨("words_of", none), "words_of", "words_of", defArgs s_words_of, defBody s_words_of, defScope s_words_of, [], []⟩,
  ⟨("Chooser", some "__init__"), "__init__", "Chooser.__init__", defArgs s_Chooser___init__, defBody s_Chooser___init__, defScope s_Chooser___init__, [], []⟩,
  ⟨("Chooser", some "here"), "here", "Chooser.here", defArgs s_Chooser_here, defBody s_Chooser_here, defScope s_Chooser_here, [], []⟩,
  ⟨("BadText", some "__init__"), "__init__", "BadText.__init__", defArgs s_BadText___init__, defBody s_BadText___init__, defScope s_BadText___init__, [], []⟩,
  ⟨("Chooser", some "refuse"), "refuse", "Chooser.refuse", defArgs s_Chooser_refuse, defBody s_Chooser_refuse, defScope s_Chooser_refuse, [], []⟩,
  ⟨("Chooser", some "read_not"), "read_not", "Chooser.read_not", defArgs s_Chooser_read_not, defBody s_Chooser_read_not, defScope s_Chooser_read_not, [], []⟩,
  ⟨("Chooser", some "read_and"), "read_and", "Chooser.read_and", defArgs s_Chooser_read_and, defBody s_Chooser_read_and, defScope s_Chooser_read_and, [], []⟩,
  ⟨("Chooser", some "read_or"), "read_or", "Chooser.read_or", defArgs s_Chooser_read_or, defBody s_Chooser_read_or, defScope s_Chooser_read_or, [], []⟩,
  ⟨("Chooser", some "read_all"), "read_all", "Chooser.read_all", defArgs s_Chooser_read_all, defBody s_Chooser_read_all, defScope s_Chooser_read_all, [], []⟩,
  ⟨("chosen_numbers", none), "chosen_numbers", "chosen_numbers", defArgs s_chosen_numbers, defBody s_chosen_numbers, defScope s_chosen_numbers, [], []⟩,
  ⟨("chosen", none), "chosen", "chosen", defArgs s_chosen, defBody s_chosen, defScope s_chosen, [.str ""], []⟩,
  ⟨("_law_kind", none), "_law_kind", "_law_kind", defArgs s__law_kind, defBody s__law_kind, defScope s__law_kind, [], []⟩,
  ⟨("_law_refused", none), "_law_refused", "_law_refused", defArgs s__law_refused, defBody s__law_refused, defScope s__law_refused, [], []⟩,
  ⟨("_law_bad", none), "_law_bad", "_law_bad", defArgs s__law_bad, defBody s__law_bad, defScope s__law_bad, [], []⟩,
  ⟨("law", none), "law", "law", defArgs s_law, defBody s_law, defScope s_law, [], []⟩]
def faL : List He.Fa := [.free "len", .free "all", .free "any", .free "set", .free "list", .free "tuple", .free "dict", .free "int", .free "str", .free "max", .free "min", .free "range", .free "enumerate", .free "isinstance", .free "sorted", .free "bool", .int "MOST_SIGNS" 8, .int "MOST_NEEDS" 12, .int "MOST_TRIES" 30, .int "MOST_WAYS" 4, .int "MOST_TIMES" 4, .int "MOST_CASES" 64, .str "LETTERS" "abcdefghijklmnopqrstuvwxyz", .glo "WORDS", .glo "SCOPES", .int "MOST_WITHIN" 20, .glo "TryError", .glo "Fail", .glo "Skip", .glo "BadBook", .glo "BadText", .glo "BadMany", .glo "NoWork", .glo "Busy", .noat "BadText" "place", .free "ValueError", .exm "BadText" "BadText" true, .str "OR" "or", .str "AND" "and", .str "NOT" "not", .glo "is_name", .glo "Book", .cls "Book", .noat "Book" "needs", .noat "Book" "tries", .mkr "Book", .glo "_law_next", .glo "_law_mix", .glo "_law_alike", .glo "words_of", .glo "Chooser", .cls "Chooser", .noat "Chooser" "words", .noat "Chooser" "at", .noat "Chooser" "deep", .mkr "Chooser", .meth "Chooser" "here", .meth "BadText" "__init__", .meth "Chooser" "refuse", .meth "Chooser" "read_not", .meth "Chooser" "read_and", .meth "Chooser" "read_or", .meth "Chooser" "read_all", .glo "chosen_numbers", .glo "chosen", .glo "_law_kind", .glo "_law_refused", .glo "_law_bad", .glo "law"]
/-- the table x has no dict of its own -/
def bareT (K : PySem.W.Frag) (x : Str) : Bool := match K.lookup (He.ga K x) with
  | some ⟨.type c, none, _, _⟩ => decide (c = "tuple")
  | _ => false
def exB (K : PySem.W.Frag) : Bool := (He.tupB K "WORDS" [.str "and", .str "or", .str "not"]) && (He.tupB K "SCOPES" [.str "run", .str "house", .str "group", .str "try"]) && bareT K "WORDS" && bareT K "SCOPES" && (aboveB K (He.ga K "TryError")) && (oexB K (He.ga K "BadText")) && (kdB K (He.ga K "BadText") 3) && (L2.xfB K (He.ga K "BadText"))
abbrev R : PySem.W.OpenRow := PySem.W.OpenLaw.row PySem.Challenge.rw_tryhouse_k05_texts_that_choose_nothing
def tfL : List He.Defn := [("_law_refused", none)]
/-! ### what the top left, with the interpreter's own table -/
namespace HY
open PySem.W He
/-- the written part that names reach in n steps, with the table of statics -/
def part (n : Nat) (g : Addr → Option Obj) : Frag := frT g (cStatics :: asD g n)
variable {n : Nat} {fa : List Fa} {fn : List DefD} {tf : List Defn} {ex : Frag → Bool} {w : World} {h : Heap} {K : Frag}
def seen (fa : List Fa) (fn : List DefD) (tf : List Defn) (ex : Frag → Bool) (g : Addr → Option Obj) (K : Frag) : AlX := (obsT fa fn [] K, ex K && tabsB g tf K)
theorem told (e : seen fa fn tf ex h.get? (part n h.get?) = valX fn [] w) : SaysX fa fn [] tf ex w h (part n h.get?) := by
  have hb : (ex (part n h.get?) && tabsB h.get? tf (part n h.get?)) = true := congrArg Prod.snd e
  obtain ⟨b1, b2⟩ := Bool.and_eq_true_iff.mp hb
  have one : ∀ p ∈ tf, codeHdIn (part n h.get?) (cT (part n h.get?) p).1 (cT (part n h.get?) p).2 = true ∧ ∃ u, h.get? (cT (part n h.get?) p).2 = some u ∧ emptyTab u = true := fun p hp => by
    obtain ⟨b3, b4⟩ := Bool.and_eq_true_iff.mp (List.all_eq_true.mp b2 p hp)
    refine ⟨b3, ?_⟩
    generalize h.get? (cT (part n h.get?) p).2 = r at b4 ⊢
    match r, b4 with
    | some u, b4 => exact ⟨u, rfl, b4⟩
    | none, b4 => cases b4
  refine ⟨congrArg Prod.fst e, b1, fun p hp => (one p hp).1, fun p hp => ?_, fun p hp => ?_⟩
  · obtain ⟨_, u, h1, h2⟩ := one p hp
    exact frT_none h1 h2
  · obtain ⟨_, u, h1, h2⟩ := one p hp
    exact h1.trans (congrArg some (emptyTab_eq h2))
def hook (n : Nat) (fa : List Fa) (fn : List DefD) (tf : List Defn) (ex : Frag → Bool) : Hook where
  α := AlX
  obs := fun s => seen fa fn tf ex s.heap.get? (part n s.heap.get?)
  val := fun w => valX fn [] w
  says := fun w h => ∃ K : Frag, K.In h ∧ SaysX fa fn [] tf ex w h K
  of := fun _ _ e => ⟨_, frT_in, told e⟩
  keeps := fun _ _ _ ⟨K, i, c⟩ k => ⟨K, Frag.In.keeps i k, c.t, c.more, c.hd, c.out, fun p hp => k _ _ (c.empty p hp)⟩
theorem obs_eq {g : Addr → Option Obj} {s : Shared} (q : ∀ a, g a = s.heap.get? a) : seen fa fn tf ex g (part n g) = (hook n fa fn tf ex).obs s := by
  obtain rfl : g = s.heap.get? := funext q
  rfl
end HY
abbrev hk : PySem.W.Hook := HY.hook 5 faL fnL tfL exB
def ob (s : PySem.W.SharedT) : He.AlX := HY.seen faL fnL tfL exB (HandSHeadRun.getT s) (HY.part 5 (HandSHeadRun.getT s))
theorem ob_eq (s : PySem.W.SharedT) : ob s = hk.obs s.abs := HY.obs_eq (HandSHeadRun.getT_eq s)
def loose0 : List Str := ["_wall", "TryError", "Fail", "Skip", "BadBook", "BadText", "BadMany", "NoWork", "Busy", "RUN", "HOUSE", "GROUP", "TRY", "SCOPES", "LETTERS", "MOST_SIGNS", "MOST_NEEDS", "MOST_TRIES", "MOST_WAYS", "MOST_TIMES", "MOST_CASES", "WORDS", "is_name", "are_unlike"]
def loose1 : List Str := ["Book", "AND", "OR", "NOT", "MOST_WITHIN", "words_of", "Chooser", "is_true", "chosen_numbers", "chosen", "_law_mix", "_law_next", "_law_alike", "_law_kind", "_law_bad", "_law_refused"]
def looseL : List Str := loose0 ++ loose1
theorem run (w : World) : HandSHeadRun.RunEq R (PySem.W.view R.prog [44]) hk ob 9000 looseL w := by
  intro os
  kernel_rfl
end TH
/-! Values told by what is frozen: a heap in two parts, G (what will never change again) within H (all). -/
namespace TH
open PySem L2

/-! ### an argument that is no starred one, by its kind -/
section
variable {es : List Expr} {env : PySem.Env}
theorem star_Tuple (elts : List Expr) (k : Nat) (pos : Pos) : starEach (.Tuple elts k pos :: es) env = (false, eval (.Tuple elts k pos) env) :: starEach es env := by rfl
theorem star_List (elts : List Expr) (pos : Pos) : starEach (.List elts pos :: es) env = (false, eval (.List elts pos) env) :: starEach es env := by rfl
theorem star_Constant (c : Const) (k : Nat) (pos : Pos) : starEach (.Constant c k pos :: es) env = (false, eval (.Constant c k pos) env) :: starEach es env := by rfl
theorem star_Name (x : Str) (pos : Pos) : starEach (.Name x pos :: es) env = (false, eval (.Name x pos) env) :: starEach es env := by rfl
theorem star_Subscript (a b : Expr) (pos : Pos) : starEach (.Subscript a b pos :: es) env = (false, eval (.Subscript a b pos) env) :: starEach es env := by rfl
theorem star_Attribute (a : Expr) (x : Str) (pos : Pos) : starEach (.Attribute a x pos :: es) env = (false, eval (.Attribute a x pos) env) :: starEach es env := by rfl
theorem star_Call (f : Expr) (a : List Expr) (k : List Keyword) (pos : Pos) : starEach (.Call f a k pos :: es) env = (false, eval (.Call f a k pos) env) :: starEach es env := by rfl
theorem star_IfExp (a b c : Expr) (pos : Pos) : starEach (.IfExp a b c pos :: es) env = (false, eval (.IfExp a b c pos) env) :: starEach es env := by rfl
theorem star_ListComp (a : Expr) (b : List Comprehension) (c : Scope) (pos : Pos) : starEach (.ListComp a b c pos :: es) env = (false, eval (.ListComp a b c pos) env) :: starEach es env := by rfl
end
/-! ### heaps -/
def IsDct : HO → Prop
  | .dK _ => True
  | .dT _ => True
  | _ => False
/-- the same object, a dict perhaps locked or no longer locked -/
def Lk (o o' : HO) : Prop := o = o' ∨ ∃ u, IsDct u ∧ (o = u ∨ ∃ ob, o = .frz ob u) ∧ (o' = u ∨ ∃ ob, o' = .frz ob u)
theorem Lk.refl (o : HO) : Lk o o := .inl rfl
theorem dct_nofrz {u w : HO} {ob : Obj} (h : IsDct u) (e : u = .frz ob w) : False := by
  subst e
  exact h
theorem lk_core {o u w : HO} (hu : IsDct u) (hw : IsDct w) (a : o = u ∨ ∃ ob, o = .frz ob u) (b : o = w ∨ ∃ ob, o = .frz ob w) : u = w := by
  rcases a with rfl | ⟨o1, rfl⟩
  · rcases b with e | ⟨o2, e⟩
    · exact e
    · exact (dct_nofrz hu e).elim
  · rcases b with e | ⟨o2, e⟩
    · exact (dct_nofrz hw e.symm).elim
    · injection e
theorem Lk.trans {a b c : HO} (h : Lk a b) (k : Lk b c) : Lk a c := by
  rcases h with rfl | ⟨u, hu, h1, h2⟩
  · exact k
  · rcases k with rfl | ⟨w, hw, k1, k2⟩
    · exact .inr ⟨u, hu, h1, h2⟩
    · have e := lk_core hu hw h2 k1
      subst e
      exact .inr ⟨u, hu, h1, k2⟩
theorem Lk.symm {a b : HO} (h : Lk a b) : Lk b a := by
  rcases h with rfl | ⟨u, hu, h1, h2⟩
  · exact .inl rfl
  · exact .inr ⟨u, hu, h2, h1⟩
/-- all of G stands in G', dicts perhaps locked -/
def Le (G G' : Hp) : Prop := ∀ b o, G b = some o → ∃ o', G' b = some o' ∧ Lk o o'
theorem Le.refl (G : Hp) : Le G G := fun b o h => ⟨o, h, .refl o⟩
theorem Le.trans {G1 G2 G3 : Hp} (a : Le G1 G2) (b : Le G2 G3) : Le G1 G3 := fun c o h => by
  obtain ⟨o1, h1, k1⟩ := a c o h
  obtain ⟨o2, h2, k2⟩ := b c o1 h1
  exact ⟨o2, h2, k1.trans k2⟩
theorem Le.free {G G' : Hp} (s : Le G G') {b : Addr} (h : G' b = none) : G b = none := by
  cases e : G b with
  | none => rfl
  | some o =>
    obtain ⟨o', h', _⟩ := s b o e
    rw [h] at h'
    cases h'
theorem Le.new {G : Hp} {p : Addr} {o : HO} (h : G p = none) : Le G (upd G p o) := fun b u e => ⟨u, by rw [upd_ne (ne_of_none e h)]; exact e, .refl u⟩
theorem Le.upd {G H : Hp} {p : Addr} {o : HO} (s : Le G H) : Le (upd G p o) (upd H p o) := fun b u e => by
  by_cases hb : b = p
  · subst hb
    rw [upd_same] at e ⊢
    exact ⟨u, e, .refl u⟩
  · rw [upd_ne hb] at e ⊢
    exact s b u e
/-- a thing outside of G changes -/
theorem Le.mut {G H : Hp} {p : Addr} {o : HO} (s : Le G H) (h : G p = none) : Le G (L2.upd H p o) := fun b u e => by
  rw [upd_ne (ne_of_none e h)]
  exact s b u e
def NF (u : HO) : Prop := ∀ ob w, u ≠ .frz ob w
theorem nf_lst {xs : List V} : NF (.lst xs) := fun _ _ e => nomatch e
theorem nf_tup {xs : List V} : NF (.tup xs) := fun _ _ e => nomatch e
theorem nf_dK {xs : List (Key × V)} : NF (.dK xs) := fun _ _ e => nomatch e
theorem nf_ins {C dx : Addr} {fs : List (Str × V)} : NF (.ins C dx fs) := fun _ _ e => nomatch e
theorem Le.rd {G G' : Hp} {a : Addr} {u : HO} (s : Le G G') (n : NF u) (r : Rd G a u) : Rd G' a u := by
  rcases r with h | ⟨ob, h⟩
  · obtain ⟨o', h', k⟩ := s a _ h
    rcases k with rfl | ⟨w, hw, k1, k2⟩
    · exact .inl h'
    · rcases k1 with rfl | ⟨o1, e⟩
      · rcases k2 with rfl | ⟨o2, rfl⟩
        · exact .inl h'
        · exact .inr ⟨o2, h'⟩
      · exact (n _ _ e).elim
  · obtain ⟨o', h', k⟩ := s a _ h
    rcases k with rfl | ⟨w, hw, k1, k2⟩
    · exact .inr ⟨ob, h'⟩
    · rcases k1 with e | ⟨o1, e⟩
      · exact (dct_nofrz hw e.symm).elim
      · injection e with e1 e2
        subst e2
        rcases k2 with rfl | ⟨o2, rfl⟩
        · exact .inl h'
        · exact .inr ⟨o2, h'⟩
/-- what is no dict and no lock stands as it is -/
theorem Le.at {G G' : Hp} {a : Addr} {u : HO} (s : Le G G') (h : G a = some u) (n : NF u) (d : ¬ IsDct u) : G' a = some u := by
  obtain ⟨o', h', k⟩ := s a _ h
  rcases k with rfl | ⟨w, hw, k1, k2⟩
  · exact h'
  · rcases k1 with rfl | ⟨o1, e⟩
    · exact (d hw).elim
    · exact (n _ _ e).elim
theorem Le.ins {G G' : Hp} {a C dx : Addr} {fs : List (Str × V)} (s : Le G G') (h : G a = some (.ins C dx fs)) : G' a = some (.ins C dx fs) := s.at h nf_ins fun z => z
theorem Le.seqL {K : PySem.W.Frag} {G G' : Hp} {a : Addr} {xs : List V} (s : Le G G') (h : SqL K G a xs) : SqL K G' a xs := by
  rcases h with h | h
  · exact .inl (s.rd nf_lst h)
  · exact .inr h
theorem Le.seqT {K : PySem.W.Frag} {G G' : Hp} {a : Addr} {xs : List V} (s : Le G G') (h : SqT K G a xs) : SqT K G' a xs := by
  rcases h with h | h
  · exact .inl (s.rd nf_tup h)
  · exact .inr h

/-! ### tables of code objects: they grow when a def, a lambda within another is first made -/
/-- where the tables stand, and the name that a place's code object has -/
class TabC where
  T : List Addr
  nm : Nat → Nat → Str
/-- what is no table -/
def NT (o : HO) : Prop := ∀ ps, o ≠ .tbl ps
/-- the table at P: its code objects are frozen, each has its place's name -/
def TabG [TC : TabC] (G H : Hp) (P : Addr) : Prop := G P = none ∧ ∃ ps : Array Value, H P = some (.tbl ps) ∧ TriplesOk ps.toList ∧ ∀ (pos : Pos) (cv : Value), codeAmong pos ps.toList = some cv → ∃ c, cv = .ref c ∧ G c = some (LamX.CodeO c (TC.nm pos.line pos.col))
theorem code_nf {c : Addr} {q : Str} : NF (LamX.CodeO c q) := fun _ _ z => by
  unfold LamX.CodeO at z
  cases z
theorem code_nd {c : Addr} {q : Str} : ¬ IsDct (LamX.CodeO c q) := fun z => z
theorem TabG.go [TC : TabC] {G H G' H' : Hp} {P : Addr} (t : TabG G H P) (l : Le G G') (h : H' P = H P) (g : G' P = none) : TabG G' H' P := by
  obtain ⟨_, ps, h1, h2, h3⟩ := t
  refine ⟨g, ps, h.trans h1, h2, fun pos cv hc => ?_⟩
  obtain ⟨c, e1, e2⟩ := h3 pos cv hc
  exact ⟨c, e1, l.at e2 code_nf code_nd⟩
theorem TabG.ne [TC : TabC] {G H : Hp} {P p : Addr} (t : TabG G H P) (h : H p = none) : P ≠ p := by
  obtain ⟨_, ps, h1, _⟩ := t
  exact ne_of_none h1 h
theorem TabG.off [TC : TabC] {G H : Hp} {P p : Addr} {o : HO} (t : TabG G H P) (h : H p = some o) (n : NT o := by exact fun _ z => (nomatch z)) : P ≠ p := fun z => by
  obtain ⟨_, ps, h1, _⟩ := t
  rw [z, h] at h1
  exact n ps (Option.some.inj h1)
variable [TC : TabC]
/-- (G, H) grows to (G', H'): what is frozen stays, of the rest all but W and the tables; what is newly frozen is new -/
structure Gr (W : List Addr) (G H G' H' : Hp) : Prop where
  gg : Le G G'
  gh : Le G' H'
  hhN : ∀ b o, H b = some o → b ∉ W → NT o → H' b = some o
  dm : ∀ b, H b ≠ none → H' b ≠ none
  nw : ∀ b, G b = none → G' b ≠ none → H b = none
  tb : ∀ P ∈ TC.T, P ∉ W → TabG G H P → TabG G' H' P
theorem Gr.hh {W : List Addr} {G H G1 H1 : Hp} (a : Gr W G H G1 H1) (b : Addr) (o : HO) (e : H b = some o) (n : b ∉ W) (t : NT o := by exact fun _ z => (nomatch z)) : H1 b = some o := a.hhN b o e n t
section
variable {W W' : List Addr} {G H G1 H1 G2 H2 : Hp}
theorem Gr.refl (h : Le G H) : Gr W G H G H := ⟨Le.refl G, h, fun _ _ e _ _ => e, fun _ e => e, fun b h1 h2 => (h2 h1).elim, fun _ _ _ t => t⟩
theorem Gr.trans (a : Gr W G H G1 H1) (b : Gr W G1 H1 G2 H2) : Gr W G H G2 H2 where
  gg := a.gg.trans b.gg
  gh := b.gh
  hhN := fun c o e n t => b.hhN c o (a.hhN c o e n t) n t
  tb := fun P hP n t => b.tb P hP n (a.tb P hP n t)
  dm := fun c e => b.dm c (a.dm c e)
  nw := fun c h1 h2 => by
    cases e : G1 c with
    | some o => exact a.nw c h1 (by rw [e]; exact fun z => nomatch z)
    | none =>
      have q := b.nw c e h2
      cases e2 : H c with
      | none => rfl
      | some o => exact absurd q (a.dm c (by rw [e2]; exact fun z => nomatch z))
theorem Gr.mono (a : Gr W G H G1 H1) (s : ∀ b ∈ W, b ∈ W') : Gr W' G H G1 H1 := ⟨a.gg, a.gh, fun b o e n t => a.hhN b o e (fun z => n (s b z)) t, a.dm, a.nw, fun P hP n t => a.tb P hP (fun z => n (s P z)) t⟩
theorem Gr.nil (a : Gr [] G H G1 H1) : Gr W G H G1 H1 := a.mono fun _ z => nomatch z
/-- a new thing, frozen at once -/
theorem Gr.new (h : Le G H) {p : Addr} {o : HO} (hp : H p = none) : Gr W G H (upd G p o) (upd H p o) where
  gg := Le.new (h.free hp)
  gh := h.upd
  hhN := fun b u e _ _ => by rw [upd_ne (ne_of_none e hp)]; exact e
  tb := fun P _ _ t => t.go (Le.new (h.free hp)) (upd_ne (t.ne hp)) ((upd_ne (t.ne hp)).trans t.1)
  dm := fun b e => by
    by_cases hb : b = p
    · subst hb; exact (e hp).elim
    · rw [upd_ne hb]; exact e
  nw := fun b h1 h2 => by
    by_cases hb : b = p
    · subst hb; exact hp
    · rw [upd_ne hb] at h2; exact (h2 h1).elim
/-- a new thing that may be changed -/
theorem Gr.own (h : Le G H) {p : Addr} {o : HO} (hp : H p = none) : Gr W G H G (upd H p o) where
  gg := Le.refl G
  gh := h.mut (h.free hp)
  hhN := fun b u e _ _ => by rw [upd_ne (ne_of_none e hp)]; exact e
  tb := fun P _ _ t => t.go (Le.refl G) (upd_ne (t.ne hp)) t.1
  dm := fun b e => by
    by_cases hb : b = p
    · subst hb; exact (e hp).elim
    · rw [upd_ne hb]; exact e
  nw := fun b h1 h2 => (h2 h1).elim
/-- what came later is changed -/
theorem Gr.put (a : Gr W G H G1 H1) {p : Addr} {o : HO} (hp : H p = none) (hg : G1 p = none) : Gr W G H G1 (upd H1 p o) where
  gg := a.gg
  gh := a.gh.mut hg
  hhN := fun b u e n t => by rw [upd_ne (ne_of_none e hp)]; exact a.hhN b u e n t
  tb := fun P hP n t => (a.tb P hP n t).go (Le.refl G1) (upd_ne (t.ne hp)) (a.tb P hP n t).1
  dm := fun b e => by
    by_cases hb : b = p
    · subst hb; rw [upd_same]; exact fun z => nomatch z
    · rw [upd_ne hb]; exact a.dm b e
  nw := a.nw
/-- what is of W is changed -/
theorem Gr.putW (a : Gr W G H G1 H1) {p : Addr} {o : HO} (hp : p ∈ W) (hg : G1 p = none) : Gr W G H G1 (upd H1 p o) where
  gg := a.gg
  gh := a.gh.mut hg
  hhN := fun b u e n t => by rw [upd_ne (show b ≠ p from fun z => n (by rw [z]; exact hp))]; exact a.hhN b u e n t
  tb := fun P hP n t => (a.tb P hP n t).go (Le.refl G1) (upd_ne (show P ≠ p from fun z => n (by rw [z]; exact hp))) (a.tb P hP n t).1
  dm := fun b e => by
    by_cases hb : b = p
    · subst hb; rw [upd_same]; exact fun z => nomatch z
    · rw [upd_ne hb]; exact a.dm b e
  nw := a.nw
/-- in two steps, the second one over what came later, too -/
theorem Gr.over {W' : List Addr} (a : Gr W G H G1 H1) (b : Gr W' G1 H1 G2 H2) (h : ∀ p ∈ W', p ∈ W ∨ H p = none) : Gr W G H G2 H2 where
  gg := a.gg.trans b.gg
  gh := b.gh
  hhN := fun c o e n t => b.hhN c o (a.hhN c o e n t) (fun z => by
    rcases h c z with q | q
    · exact n q
    · rw [q] at e; cases e) t
  tb := fun P hP n t => b.tb P hP (fun z => by
    rcases h P z with q | q
    · exact n q
    · exact t.ne q rfl) (a.tb P hP n t)
  dm := fun c e => b.dm c (a.dm c e)
  nw := fun c h1 h2 => by
    cases e : G1 c with
    | some o => exact a.nw c h1 (by rw [e]; exact fun z => nomatch z)
    | none =>
      have q := b.nw c e h2
      cases e2 : H c with
      | none => rfl
      | some o => exact absurd q (a.dm c (by rw [e2]; exact fun z => nomatch z))
/-- what came later is frozen as it stands -/
theorem Gr.fix (a : Gr W G H G1 H1) {p : Addr} {o : HO} (hp : H p = none) (hg : G1 p = none) (h1 : H1 p = some o) : Gr W G H (upd G1 p o) H1 where
  gg := a.gg.trans (Le.new hg)
  gh := fun b u e => by
    by_cases hb : b = p
    · subst hb; rw [upd_same] at e; cases e; exact ⟨_, h1, .refl _⟩
    · rw [upd_ne hb] at e; exact a.gh b u e
  hhN := a.hhN
  tb := fun P hP n t => (a.tb P hP n t).go (Le.new hg) rfl ((upd_ne (t.ne hp)).trans (a.tb P hP n t).1)
  dm := a.dm
  nw := fun b n1 n2 => by
    by_cases hb : b = p
    · subst hb; exact hp
    · rw [upd_ne hb] at n2; exact a.nw b n1 n2
/-- a thing that may be changed and is not of W -/
theorem Gr.loc (a : Gr W G H G1 H1) {p : Addr} {o : HO} (hp : H p = some o) (hg : G p = none) (n : p ∉ W) (t : NT o := by exact fun _ z => (nomatch z)) : H1 p = some o ∧ G1 p = none := by
  refine ⟨a.hhN p o hp n t, ?_⟩
  cases e : G1 p with
  | none => rfl
  | some u =>
    have q := a.nw p hg (by rw [e]; exact fun z => nomatch z)
    rw [hp] at q
    cases q
theorem Gr.gnone (a : Gr W G H G1 H1) {p : Addr} (hp : H p ≠ none) (hg : G p = none) : G1 p = none := by
  cases e : G1 p with
  | none => rfl
  | some u => exact absurd (a.nw p hg (by rw [e]; exact fun z => nomatch z)) hp
end

/-! ### what is known of a value -/
structure Rl where
  P : Hp → V → Prop
  mono : ∀ {G G' : Hp} {v : V}, Le G G' → P G v → P G' v
def rV (v0 : V) : Rl := ⟨fun _ v => v = v0, fun _ h => h⟩
abbrev rInt (i : Int) : Rl := rV (.int i)
abbrev rStr (x : Str) : Rl := rV (.str x)
abbrev rBl (b : Bool) : Rl := rV (.bl b)
abbrev rNon : Rl := rV .non
abbrev rRef (a : Addr) : Rl := rV (.ref a)
/-- pointwise -/
abbrev Al (G : Hp) (rs : List Rl) (vs : List V) : Prop := Paired (fun (r : Rl) v => r.P G v) rs vs
theorem Al.mono {G G' : Hp} (e : Le G G') : ∀ {rs : List Rl} {vs : List V}, Al G rs vs → Al G' rs vs
  | _, _, .nil => .nil
  | _, _, .cons h t => .cons (Rl.mono _ e h) (Al.mono e t)
theorem Al.length {G : Hp} {rs : List Rl} {vs : List V} (h : Al G rs vs) : rs.length = vs.length := Paired.length h
theorem Al.get {G : Hp} : ∀ {rs : List Rl} {vs : List V} {i : Nat} {r : Rl}, Al G rs vs → rs[i]? = some r → ∃ v, vs[i]? = some v ∧ r.P G v
  | _, _, _, _, .nil, e => by simp at e
  | _, _, 0, _, .cons h _, e => by simp at e; subst e; exact ⟨_, rfl, h⟩
  | _, _, i + 1, r, .cons _ t, e => by
    obtain ⟨v, h1, h2⟩ := Al.get (i := i) (r := r) t (by simpa using e)
    exact ⟨v, by simpa using h1, h2⟩
theorem Al.at {G : Hp} : ∀ {rs : List Rl} {vs : List V} {i : Nat} {v : V}, Al G rs vs → vs[i]? = some v → ∃ r, rs[i]? = some r ∧ r.P G v
  | _, _, _, _, .nil, e => by simp at e
  | _, _, 0, _, .cons h _, e => by simp at e; subst e; exact ⟨_, rfl, h⟩
  | _, _, i + 1, v, .cons _ t, e => by
    obtain ⟨r, h1, h2⟩ := Al.at (i := i) (v := v) t (by simpa using e)
    exact ⟨r, by simpa using h1, h2⟩
theorem Al.append {G : Hp} : ∀ {rs ss : List Rl} {vs ws : List V}, Al G rs vs → Al G ss ws → Al G (rs ++ ss) (vs ++ ws)
  | _, _, _, _, .nil, s => s
  | _, _, _, _, .cons r t, s => .cons r (Al.append t s)
theorem Al.take {G : Hp} : ∀ {rs : List Rl} {vs : List V} (n : Nat), Al G rs vs → Al G (rs.take n) (vs.take n)
  | _, _, 0, _ => .nil
  | _, _, _ + 1, .nil => .nil
  | _, _, n + 1, .cons r t => .cons r (Al.take n t)
theorem Al.drop {G : Hp} : ∀ {rs : List Rl} {vs : List V} (n : Nat), Al G rs vs → Al G (rs.drop n) (vs.drop n)
  | _, _, 0, r => r
  | _, _, _ + 1, .nil => .nil
  | _, _, n + 1, .cons _ t => Al.drop n t
theorem Al.reverse {G : Hp} : ∀ {rs : List Rl} {vs : List V}, Al G rs vs → Al G rs.reverse vs.reverse
  | _, _, .nil => .nil
  | _, _, .cons r t => by
    rw [List.reverse_cons, List.reverse_cons]
    exact (Al.reverse t).append (.cons r .nil)
/-- values that are told outright -/
theorem Al.vals {G : Hp} {α : Type} {f : α → V} : ∀ {xs : List α} {vs : List V}, Al G (xs.map fun x => rV (f x)) vs → vs = xs.map f
  | [], _, .nil => rfl
  | x :: xs, _, .cons h t => by
    have h : _ = f x := h
    rw [List.map_cons, ← h, ← Al.vals t]
theorem Al.of_vals {G : Hp} {α : Type} {f : α → V} : ∀ {xs : List α}, Al G (xs.map fun x => rV (f x)) (xs.map f)
  | [] => .nil
  | x :: xs => .cons rfl Al.of_vals
section
variable (K : PySem.W.Frag)
def rTup (rs : List Rl) : Rl := ⟨fun G v => ∃ a vs, v = .ref a ∧ SqT K G a vs ∧ Al G rs vs, fun e ⟨a, vs, h1, h2, h3⟩ => ⟨a, vs, h1, e.seqT h2, h3.mono e⟩⟩
def rLst (rs : List Rl) : Rl := ⟨fun G v => ∃ a vs, v = .ref a ∧ SqL K G a vs ∧ Al G rs vs, fun e ⟨a, vs, h1, h2, h3⟩ => ⟨a, vs, h1, e.seqL h2, h3.mono e⟩⟩
end
/-- a dict's pairs -/
def DAl (G : Hp) (ks : List (Key × Rl)) (vs : List (Key × V)) : Prop := Paired (fun (r : Key × Rl) (v : Key × V) => r.1 = v.1 ∧ r.2.P G v.2) ks vs
theorem DAl.mono {G G' : Hp} (e : Le G G') {ks : List (Key × Rl)} {vs : List (Key × V)} (h : DAl G ks vs) : DAl G' ks vs := L2.Paired.mapP h fun a _ q => ⟨q.1, a.2.mono e q.2⟩
def rDct (ks : List (Key × Rl)) : Rl := ⟨fun G v => ∃ a vs, v = .ref a ∧ Rd G a (.dK vs) ∧ DAl G ks vs, fun e ⟨a, vs, h1, h2, h3⟩ => ⟨a, vs, h1, e.rd nf_dK h2, h3.mono e⟩⟩

/-! ### modes: what may change beside, and what holds of it -/
structure Md where
  W : List Addr
  J : Hp → Prop
  st : ∀ {H H' : Hp}, (∀ b ∈ W, ∀ o, H b = some o → NT o → H' b = some o) → J H → J H'
  dom : ∀ {H : Hp}, J H → ∀ b ∈ W, H b ≠ none
def md0 : Md := ⟨[], fun _ => True, fun _ h => h, fun _ _ z => nomatch z⟩
/-- where one stands -/
structure At (M : Md) (G H : Hp) : Prop where
  le : Le G H
  j : M.J H
/-- (G, H) grows, in a mode -/
structure Go (M : Md) (G H G' H' : Hp) : Prop where
  gr : Gr M.W G H G' H'
  j : M.J H'
section
variable {M : Md} {G H G1 H1 G2 H2 : Hp}
theorem Go.at (a : Go M G H G1 H1) : At M G1 H1 := ⟨a.gr.gh, a.j⟩
theorem At.go (a : At M G H) : Go M G H G H := ⟨.refl a.le, a.j⟩
theorem Go.trans (a : Go M G H G1 H1) (b : Go M G1 H1 G2 H2) : Go M G H G2 H2 := ⟨a.gr.trans b.gr, b.j⟩
theorem Go.gg (a : Go M G H G1 H1) : Le G G1 := a.gr.gg
theorem Gr.go {W' : List Addr} (a : Gr [] G H G1 H1) (j : M.J H) : Go M G H G1 H1 := ⟨a.nil, M.st (fun b _ o e t => a.hhN b o e (fun z => nomatch z) t) j⟩
theorem Go.pure (a : Gr [] G H G1 H1) (j : M.J H) : Go M G H G1 H1 := Gr.go (W' := []) a j
theorem At.new (a : At M G H) {p : Addr} {o : HO} (hp : H p = none) : Go M G H (upd G p o) (upd H p o) := Go.pure (Gr.new a.le hp) a.j
theorem At.own (a : At M G H) {p : Addr} {o : HO} (hp : H p = none) : Go M G H G (upd H p o) := Go.pure (Gr.own a.le hp) a.j
/-- a change outside of W -/
theorem At.put (a : At M G H) {p : Addr} {o : HO} (hg : G p = none) (n : p ∉ M.W) : At M G (upd H p o) :=
  ⟨a.le.mut hg, M.st (fun b hb u e _ => by rw [upd_ne (show b ≠ p from fun z => n (by rw [← z]; exact hb))]; exact e) a.j⟩
end

/-! ### what an expression gives -/
def Ev (M : Md) (te : TE) (σ : L2.St) (G H : Hp) (r : Rl) : Prop := ∀ G1 H1, Go M G H G1 H1 → ∀ Q : VK, (∀ v G2 H2, Go M G1 H1 G2 H2 → r.P G2 v → Q v H2) → te σ H1 Q
def EvT (M : Md) (tt : TT) (σ : L2.St) (G H : Hp) (B : Bool → Prop) : Prop := ∀ G1 H1, Go M G H G1 H1 → ∀ Q : Bool → Hp → Prop, (∀ b G2 H2, Go M G1 H1 G2 H2 → B b → Q b H2) → tt σ H1 Q
def EvA (M : Md) (ta : TA) (σ : L2.St) (G H : Hp) (rs : List Rl) : Prop := ∀ G1 H1, Go M G H G1 H1 → ∀ Q : List V → Hp → Prop, (∀ vs G2 H2, Go M G1 H1 G2 H2 → Al G2 rs vs → Q vs H2) → ta σ H1 Q
section
variable {K : PySem.W.Frag} {M : Md} {σ : L2.St} {G H G' H' : Hp} {ta tb te tc : TE} {t u : TT} {r s : Rl} {v v0 : V} {i j : Int} {n m : Nat} {rs ss : List Rl}
theorem Ev.mono (h : Ev M te σ G H r) (e : Go M G H G' H') : Ev M te σ G' H' r := fun G1 H1 a Q q => h G1 H1 (e.trans a) Q q
theorem EvT.mono {B : Bool → Prop} (h : EvT M t σ G H B) (e : Go M G H G' H') : EvT M t σ G' H' B := fun G1 H1 a Q q => h G1 H1 (e.trans a) Q q
theorem EvA.mono {ta : TA} (h : EvA M ta σ G H rs) (e : Go M G H G' H') : EvA M ta σ G' H' rs := fun G1 H1 a Q q => h G1 H1 (e.trans a) Q q
theorem Ev.imp (h : Ev M te σ G H r) (k : ∀ G v, r.P G v → s.P G v) : Ev M te σ G H s := fun G1 H1 a Q q => h G1 H1 a Q fun v G2 H2 b p => q v G2 H2 b (k G2 v p)
theorem Ev.of (h : Ev M te σ G H r) (e : r = s) : Ev M te σ G H s := e ▸ h
theorem EvT.of {B B' : Bool → Prop} (h : EvT M t σ G H B) (k : ∀ b, B b → B' b) : EvT M t σ G H B' := fun G1 H1 a Q q => h G1 H1 a Q fun v G2 H2 b p => q v G2 H2 b (k v p)
theorem ev_var {i : Nat} (h : σ[i]? = some (some v)) (p : r.P G v) : Ev M (tVar i) σ G H r := fun G1 H1 a Q q => ⟨v, h, q v G1 H1 a.at.go (r.mono a.gg p)⟩
theorem ev_val {i : Nat} (h : σ[i]? = some (some v)) : Ev M (tVar i) σ G H (rV v) := ev_var h rfl
theorem ev_c : Ev M (tC v) σ G H (rV v) := fun G1 H1 a Q q => q v G1 H1 a.at.go rfl
theorem ea_nil : EvA M tNil σ G H [] := fun G1 H1 a Q q => q [] G1 H1 a.at.go .nil
theorem ea_cons {tr : TA} (h : Ev M te σ G H r) (k : EvA M tr σ G H rs) : EvA M (tCons te tr) σ G H (r :: rs) := fun G1 H1 a Q q =>
  h G1 H1 a _ fun v G2 H2 b p => k G2 H2 (a.trans b) _ fun vs G3 H3 c ps => q (v :: vs) G3 H3 (b.trans c) (.cons (r.mono c.gg p) ps)
/-- a two-place operation on values -/
def RV (M : Md) (op : R2) (r s : Rl) (G H : Hp) (z : Rl) : Prop := ∀ G1 H1 x y, Go M G H G1 H1 → r.P G1 x → s.P G1 y → ∀ Q : VK, (∀ v G2 H2, Go M G1 H1 G2 H2 → z.P G2 v → Q v H2) → op x y H1 Q
theorem ev_op {op : R2} {z : Rl} (ha : Ev M ta σ G H r) (hb : Ev M tb σ G H s) (hr : RV M op r s G H z) : Ev M (tOp op ta tb) σ G H z := fun G1 H1 a Q q =>
  ha G1 H1 a _ fun x G2 H2 b p => hb G2 H2 (a.trans b) _ fun y G3 H3 c p' => hr G3 H3 x y ((a.trans b).trans c) (r.mono c.gg p) p' Q fun v G4 H4 d p'' => q v G4 H4 ((b.trans c).trans d) p''
theorem rv_I0 {g : Int → Int → V} : RV M (rI0 g) (rInt i) (rInt j) G H (rV (g i j)) := fun G1 H1 x y a p q Q k => ⟨i, j, p, q, k _ G1 H1 a.at.go rfl⟩
theorem rv_I {C : Int → Int → Prop} {g : Int → Int → V} (hc : C i j) : RV M (rI C g) (rInt i) (rInt j) G H (rV (g i j)) := fun G1 H1 x y a p q Q k => ⟨i, j, p, q, hc, k _ G1 H1 a.at.go rfl⟩
theorem ev_I0 {g : Int → Int → V} (ha : Ev M ta σ G H (rInt i)) (hb : Ev M tb σ G H (rInt j)) : Ev M (tOp (rI0 g) ta tb) σ G H (rV (g i j)) := ev_op ha hb rv_I0
theorem ev_I {C : Int → Int → Prop} {g : Int → Int → V} (ha : Ev M ta σ G H (rInt i)) (hb : Ev M tb σ G H (rInt j)) (hc : C i j) : Ev M (tOp (rI C g) ta tb) σ G H (rV (g i j)) := ev_op ha hb (rv_I hc)
theorem ev_eq {x y : V} (ha : Ev M ta σ G H (rV x)) (hb : Ev M tb σ G H (rV y)) (h : scal x y = true) : Ev M (tOp rEq ta tb) σ G H (rBl (decide (x = y))) :=
  ev_op ha hb fun G1 H1 x' y' a p q Q k => by
    have p : x' = x := p
    have q : y' = y := q
    subst p q
    exact ⟨h, k _ G1 H1 a.at.go rfl⟩
theorem ev_ne {x y : V} (ha : Ev M ta σ G H (rV x)) (hb : Ev M tb σ G H (rV y)) (h : scal x y = true) : Ev M (tOp rNe ta tb) σ G H (rBl (!decide (x = y))) :=
  ev_op ha hb fun G1 H1 x' y' a p q Q k => by
    have p : x' = x := p
    have q : y' = y := q
    subst p q
    exact ⟨h, k _ G1 H1 a.at.go rfl⟩
theorem ev_ixL (ha : Ev M ta σ G H (rLst K rs)) (hb : Ev M tb σ G H (rInt i)) (h : atI rs i = some r) : Ev M (tOp (rIxL K) ta tb) σ G H r :=
  ev_op ha hb fun G1 H1 x y a p q Q k => by
    obtain ⟨b, vs, rfl, h2, h3⟩ := p
    have q : y = .int i := q
    unfold atI at h
    cases e : ixN rs.length i with
    | none => rw [e] at h; cases h
    | some j =>
      rw [e] at h
      obtain ⟨v, hv, hp⟩ := h3.get (show rs[j]? = some r from h)
      refine ⟨b, vs, i, v, rfl, q, a.at.le.seqL h2, ?_, k v G1 H1 a.at.go hp⟩
      unfold atI
      rw [← h3.length, e]
      exact hv
/-- new tuples, new lists -/
theorem Al.bound {G : Hp} {rs : List Rl} {vs : List V} (h : Al G rs vs) (hl : rs.length ≤ 100000) : vs.length ≤ sizeLine := by
  rw [← h.length]
  exact Nat.le_trans hl (by decide)
/-- tests -/
theorem et_test {b : Bool} (h : Ev M te σ G H (rBl b)) : EvT M (tTest te) σ G H (· = b) := fun G1 H1 a Q q => h G1 H1 a _ fun v G2 H2 c p => by
  have p : v = .bl b := p
  exact ⟨b, p, q b G2 H2 c rfl⟩
theorem et_B {b : Bool} (h : Ev M te σ G H (rBl b)) : EvT M (tB te) σ G H (· = b) := fun G1 H1 a Q q => h G1 H1 a _ fun v G2 H2 c p => by
  have p : v = .bl b := p
  exact ⟨b, p, q b G2 H2 c rfl⟩
theorem et_or {a b : Bool} (h1 : EvT M t σ G H (· = a)) (h2 : a = false → EvT M u σ G H (· = b)) : EvT M (tOr t u) σ G H (· = (a || b)) := fun G1 H1 e Q q => h1 G1 H1 e _ fun c G2 H2 e2 p => by
  subst p
  cases c with
  | false =>
    show u σ H2 Q
    exact h2 rfl G2 H2 (e.trans e2) Q fun d G3 H3 e3 p => q d G3 H3 (e2.trans e3) p
  | true =>
    show Q true H2
    exact q _ G2 H2 e2 rfl
theorem et_not {a : Bool} (h1 : EvT M t σ G H (· = a)) : EvT M (tNot t) σ G H (· = !a) := fun G1 H1 e Q q => h1 G1 H1 e _ fun c G2 H2 e2 p => q (!c) G2 H2 e2 (by subst p; rfl)
theorem EvT.to {a b : Bool} (h1 : EvT M t σ G H (· = a)) (e : a = b) : EvT M t σ G H (· = b) := e ▸ h1
theorem ev_andV {a b : Bool} (h1 : Ev M ta σ G H (rBl a)) (h2 : a = true → Ev M tb σ G H (rBl b)) : Ev M (tAndV ta tb) σ G H (rBl (a && b)) := fun G1 H1 e Q q => h1 G1 H1 e _ fun c G2 H2 e2 p => by
  have p : c = .bl a := p
  refine ⟨a, p, ?_⟩
  cases a with
  | true =>
    show tb σ H2 Q
    exact h2 rfl G2 H2 (e.trans e2) Q fun d G3 H3 e3 p => q d G3 H3 (e2.trans e3) p
  | false =>
    show Q (.bl false) H2
    exact q _ G2 H2 e2 rfl
end
end TH
/-! len(set(xs)) of texts, any number of them. -/
namespace TH
open PySem PySem.Spec PyProof.Rows L2
/-! ### one of each -/
def ddS (acc : List Str) : List Str → List Str
  | [] => acc
  | x :: r => ddS (if x ∈ acc then acc else acc ++ [x]) r
/-! ### the set that a list is made into -/
/-- the set at S holds what stands among the first i -/
def HoldsF (P : Program) (w : World) (h : Heap) (S : Addr) (xs : List Str) (i : Nat) : Prop := h.SetOf (PySem.strKind P w) S (fun k => decide (k ∈ xs.take i)) (ddS [] (xs.take i)).length
theorem HoldsF.at {P : Program} {w : World} {h h' : Heap} {S : Addr} {xs : List Str} {i : Nat} (x : HoldsF P w h S xs i) (k : ∀ o, h.get? S = some o → h'.get? S = some o) : HoldsF P w h' S xs i := by
  obtain ⟨o, es, ep, t, ho, rest⟩ := x
  exact ⟨o, es, ep, t, k o ho, rest⟩
section
variable {P : Program} {w : World} {A : Around} {E : Value → Shared → Prop} {s : Shared} {S : Addr} {xs : List Str}
end
section
variable {P : Program} {w : World} {A : Around} {R : Result → Shared → Prop} {I S : Addr} {fp wr : List Addr} {Gg : Array GenState → Array GenState → Prop} {n : Nat} {Pv : Nat → Value → Prop} {St : Nat → Shared → Prop} {xs : List Str}
end
section
variable {P : Program} {w : World} {A : Around} {E : Value → Shared → Prop} {s : Shared}
end
section
variable {X : Cx}
end
end TH
/-! A list grown by a tuple; a tuple's items numbered. -/
namespace TH
open PySem PySem.Spec PyProof.Rows L2
/-! ### xs.extend(t), t a tuple -/
section
variable {X : Cx}
end
/-! ### enumerate(t), t a tuple -/
theorem enum_newT (l : Addr) (items : Array Value) (n : Nat) (dct : Option Addr) (sl : Array (Option Value)) :
    Meets (Builtin.«enumerate.__new__» ⟨[.type "enumerate", .ref l], []⟩) (fun _ R s => s.heap.get? l = some { cls := .type "tuple", dict := dct, data := .seq items n, slots := sl } ∧
      R (.ok (.ret (.ref (s.heap.push { cls := .type "tuple_iterator", data := .fields #[.ref l, .int 0 0] }).objs.size)))
        { s with heap := (s.heap.push { cls := .type "tuple_iterator", data := .fields #[.ref l, .int 0 0] }).push { cls := .type "enumerate", data := .fields #[.none, .bool false, .ref s.heap.objs.size, rawInt 0, .none, .none] } }) :=
  .of_wp fun prog w A R s h => by
    obtain ⟨hp, g, d, tk, os⟩ := s
    obtain ⟨g1, h⟩ := h
    have f1 := sub_enumerate
    have gT : Heap.IsTuple (Shared.heap ⟨hp, g, d, tk, os⟩) l items := ⟨_, g1, rfl, n, rfl⟩
    wp_walk using AutoSeq1.wpAny_loadPart' g1
    refine wpAny_stack_any fun st => wpAny_pure ?_
    split
    · rename_i c _ _ _ _ _
      cases (c == Value.type "enumerate")
      · wp_walk using AutoSeq1.wpAny_loadPart' g1, wpAny_pyIter_tuple gT
        exact ⟨_, rfl, h⟩
      · wp_walk using AutoSeq1.wpAny_loadPart' g1, wpAny_pyIter_tuple gT
        exact ⟨_, rfl, h⟩
    · wp_walk using AutoSeq1.wpAny_loadPart' g1, wpAny_pyIter_tuple gT
      exact ⟨_, rfl, h⟩
theorem call_enumT {prog : Program} {w : World} {A : Around} {E : Value → Shared → Prop} {s : Shared} {l : Addr} {items : Array Value} {Q : Value → Shared → Prop} (hT : s.heap.IsTuple l items)
    (h : ∀ h', IsEnum h' (s.heap.objs.size + 1) s.heap.objs.size 0 .none → h'.IsTupleIter s.heap.objs.size l 0 → (∀ b o, s.heap.get? b = some o → h'.get? b = some o) → Q (.ref (s.heap.objs.size + 1)) { s with heap := h' }) :
    wpAny (model prog w) A (call (.type "enumerate") [.ref l]) Q E s := by
  obtain ⟨⟨c, dct, dt, sl⟩, hl, hc, n, hd⟩ := hT
  simp only at hc hd
  subst hc hd
  refine callType_new F.called_enumerate (by decide) (F.typeCall_enumerate_1 _) (F.newCall_enumerate_1 _) (fun obj => F.args_object_init_2 obj _) F.entry_enumerate_new (enum_newT l items n dct sl) ⟨hl, ?_⟩
  have z : (s.heap.push { cls := .type "tuple_iterator", data := .fields #[.ref l, .int 0 0] }).objs.size = s.heap.objs.size + 1 := Heap.size_push ..
  have he : IsEnum ((s.heap.push { cls := .type "tuple_iterator", data := .fields #[.ref l, .int 0 0] }).push { cls := .type "enumerate", data := .fields #[.none, .bool false, .ref s.heap.objs.size, rawInt 0, .none, .none] }) (s.heap.objs.size + 1) s.heap.objs.size 0 .none := by
    have q := Heap.get?_push_size (s.heap.push { cls := .type "tuple_iterator", data := .fields #[.ref l, .int 0 0] }) (o := { cls := .type "enumerate", data := .fields #[.none, .bool false, .ref s.heap.objs.size, rawInt 0, .none, .none] }) rfl
    rw [z] at q
    exact q
  show _ ∧ _
  rw [z]
  exact ⟨⟨_, he, rfl⟩, h _ he ⟨_, Heap.get?_push_of_some _ (Heap.get?_push_size _ rfl), rfl, rfl⟩ fun b o x => Heap.get?_push_of_some _ (Heap.get?_push_of_some _ x)⟩
/-- the tuple at a, each item in a new pair -/
def IteT (K : PySem.W.Frag) (a : Addr) : It :=
  ⟨fun i H => ∃ (xs : List V) (x : V), SqT K H a xs ∧ xs[i]? = some x, fun i H v H' => ∃ T x, v = .ref T ∧ H T = none ∧ H' = upd H T (.tup [.int (i : Nat), x]) ∧ ∀ xs, SqT K H a xs → xs[i]? = some x, fun i H => ∃ xs : List V, SqT K H a xs ∧ xs.length = i⟩
theorem turn_enumT {P : Program} {w : World} {K : PySem.W.Frag} {elts : List Expr} {kk : Nat} {tpos : Pos} (a e it : Addr) :
    Turn P w K (.Tuple elts kk tpos) (IteT K a) [e, it] e (fun i h => (∃ old, IsEnum h e it ((i : Nat) : Int) old) ∧ h.IsTupleIter it a i ∧ e ≠ it ∧ a ≠ it ∧ a ≠ e) where
  mem := by simp
  obj := fun i h st b hb => by
    obtain ⟨⟨old, he⟩, ⟨o, ho, hc, hd⟩, _⟩ := st
    rcases List.mem_cons.mp hb with z | z
    · rw [z]; exact ⟨_, he, fun v q => nomatch q⟩
    · rw [List.mem_singleton.mp z]; exact ⟨o, ho, fun v q => by rw [hd] at q; cases q⟩
  keep := fun i h h' st k => let ⟨⟨old, he⟩, hi, hne⟩ := st; ⟨⟨old, k e (by simp) _ he⟩, hi.at fun o q => k it (by simp) o q, hne⟩
  item := by
    intro X hP hw hK hc i pins s σ H E I hf st hg
    subst hP hw hK
    obtain ⟨⟨old, he⟩, hit, hne, ha1, ha2⟩ := st
    obtain ⟨xs, x, hq, hx⟩ := hg
    obtain ⟨its, rv, p, hz⟩ := I.tuple hq
    obtain ⟨u, hu, ru⟩ := rv.get hx
    have hel : e < s.heap.objs.size := Heap.lt_size he
    have hil : it < s.heap.objs.size := by obtain ⟨_, q, _⟩ := hit; exact Heap.lt_size q
    have hlt : i < its.toArray.size := by simpa using (List.getElem?_eq_some_iff.mp hu).1
    refine wpAny_pyNext_enum_itemD (Draws.tuple (by simp [I.ok.hd hc]) it a ha1 its.toArray) he ⟨hit, p⟩ hlt hne (by simp [hne, Ne.symm ha2]) fun y h' tk hy ho st' hT hsz hk => ?_
    have ey : y = u := by
      have hy : its.toArray[i]? = some y := hy
      rw [List.getElem?_toArray, hu] at hy
      exact (Option.some.inj hy).symm
    subst ey
    refine ⟨_, rfl, wpAny_letOwnedTupleGo_enum (s := { s with heap := h', toks := tk + 1 }) ho fun h'' he' sb => ?_⟩
    have hT2 : h''.get? s.heap.objs.size = some { cls := .type "tuple", data := .seq #[.int i tk, y] } := (sb.2 _ (Nat.ne_of_gt hel)).trans hT
    have new : ObjOk X.prog X.w (upd H s.heap.objs.size (.tup [.int (i : Nat), x])) h'' s.heap.objs.size (.tup [.int (i : Nat), x]) :=
      ⟨by show 2 ≤ sizeLine; decide, [.int i tk, y], .cons ⟨_, rfl⟩ (.cons ru .nil), ⟨_, hT2, rfl, _, rfl⟩⟩
    have I1 : Inv X pins σ (upd H s.heap.objs.size (.tup [.int (i : Nat), x])) { s with heap := h'', toks := tk + 1 } :=
      I.turnedNew (ch := [e, it]) (fun b ob hb q => (sb.2 b (fun z => hb (by simp [z]))).trans (hk b ob (fun z => hb (by simp [z])) (fun z => hb (by simp [z])) q)) hf (Nat.le_refl _) new
    refine ⟨.ref s.heap.objs.size, _, I1, rfl, ⟨_, x, rfl, I.hok.fresh (Nat.le_refl _), rfl, fun ys hy => by rw [I.tuple_inj hy hq]; exact hx⟩, ⟨⟨y, ?_⟩, st'.1.at fun o q => (sb.2 it (Ne.symm hne)).trans q, hne, ha1, ha2⟩, fun b hb => ?_⟩
    · have e1 : ((i + 1 : Nat) : Int) = (i : Int) + 1 := by omega
      rw [e1]; exact he'
    · have hb' : b < s.heap.objs.size := by
        rcases List.mem_cons.mp hb with z | z
        · rw [z]; exact hel
        · rw [List.mem_singleton.mp z]; exact hil
      rw [upd_ne (Nat.ne_of_lt hb')]
      exact (hf b hb).1
  done := by
    intro X hP hw hK hc i pins s σ H E I hf st hg
    subst hP hw hK
    obtain ⟨⟨old, he⟩, hit, hne, ha1, ha2⟩ := st
    obtain ⟨xs, hq, hx⟩ := hg
    obtain ⟨its, rv, p, hz⟩ := I.tuple hq
    obtain ⟨f0, f1, f2, f3, f4, f5⟩ := hf it (by simp)
    have hl := rv.length
    have ei : i = its.toArray.size := by rw [List.size_toArray, ← hl, hx]
    subst ei
    exact wpAny_pyNext_enum_endD (Draws.tuple (by simp [I.ok.hd hc]) it a ha1 its.toArray) he ⟨hit, p⟩ fun h' eb => ⟨rfl, I.turned (t' := s.toks) (fun b o hb q => eb b o hb q) f0 f1 f3 f4 f5⟩
  self := fun A i s Q E st h => let ⟨⟨_, he⟩, _⟩ := st; wpAny_pyIter_enum he h
def iEnumT (K : PySem.W.Frag) (ta : TA) : TI := fun σ H R => ta σ H fun vs H1 => ∃ a xs, vs = [.ref a] ∧ SqT K H1 a xs ∧ R (IteT K a) H1
theorem pi_enumT {X : Cx} {e : Expr} {ta : TA} {p pos tpos : Pos} {elts : List Expr} {kk : Nat} (hg : Gl X "enumerate") (hm : X.mg "enumerate" = none) (ha : PA X [e] ta) (hs : starEach [e] X.env = [(false, eval e X.env)] := by rfl) :
    PI X (.Tuple elts kk tpos) (.Call (.Name "enumerate" p) [e] [] pos) (iEnumT X.K ta) := by
  refine ⟨fun pins s σ H R I h => ?_⟩
  refine Call_ (ld_blt I hg hm boot_enumerate (PyProof.Rows.callWith_type1 (thn (ha.run pos pins s σ H _ I h) fun us s1 ⟨vs, H1, I1, r1, a, xs, ex, hq, q⟩ => ?_) hs rfl))
  subst ex
  rw [Vals.ref1 r1]
  obtain ⟨its, rv, p', hz⟩ := I1.tuple hq
  have al : a < s1.heap.objs.size := p'.lt
  refine call_enumT p' fun h' he hit hk => wpAny_pyIter_enum he ?_
  refine ⟨s1.heap.objs.size + 1, [s1.heap.objs.size + 1, s1.heap.objs.size], _, _, H1, rfl, I1.kept (t' := s1.toks) hk, turn_enumT a (s1.heap.objs.size + 1) s1.heap.objs.size, ⟨⟨.none, he⟩, hit, Nat.succ_ne_self _, Nat.ne_of_lt al, Nat.ne_of_lt (Nat.lt_succ_of_lt al)⟩, fun b hb => ?_, q⟩
  have hle : s1.heap.objs.size ≤ b := by
    rcases List.mem_cons.mp hb with z | z
    · rw [z]; exact Nat.le_succ _
    · rw [List.mem_singleton.mp z]; exact Nat.le_refl _
  exact I1.fpOk hle (I1.hok.fresh hle)
end TH
/-! Readings over (G, H): calls, fields, new things, comprehensions, statements, loops. -/
namespace TH
open PySem L2
variable [TC : TabC]

/-! ### new things, not yet frozen -/
def EvN (M : Md) (te : TE) (σ : L2.St) (G H : Hp) (φ : Hp → HO → Prop) : Prop := ∀ G1 H1, Go M G H G1 H1 → ∀ Q : VK, (∀ p o G2 H2, Go M G1 H1 G2 H2 → H1 p = none → G2 p = none → H2 p = some o → φ G2 o → Q (.ref p) H2) → te σ H1 Q
/-- a list of these -/
def FL (rs : List Rl) : Hp → HO → Prop := fun G o => ∃ vs, o = .lst vs ∧ Al G rs vs
section
variable {K : PySem.W.Frag} {M : Md} {σ : L2.St} {G H G' H' : Hp} {ta tb te tc : TE} {t u : TT} {r s : Rl} {v v0 : V} {i j : Int} {n m : Nat} {rs ss : List Rl} {φ : Hp → HO → Prop}
theorem EvN.mono (h : EvN M te σ G H φ) (e : Go M G H G' H') : EvN M te σ G' H' φ := fun G1 H1 a Q q => h G1 H1 (e.trans a) Q q
theorem EvN.imp {ψ : Hp → HO → Prop} (h : EvN M te σ G H φ) (k : ∀ G o, φ G o → ψ G o) : EvN M te σ G H ψ := fun G1 H1 a Q q => h G1 H1 a Q fun p o G2 H2 b n1 n2 n3 f => q p o G2 H2 b n1 n2 n3 (k G2 o f)
/-- it is frozen as it stands -/
theorem EvN.fix (h : EvN M te σ G H φ) (k : ∀ G1 G2 p o, φ G1 o → Le G1 G2 → G2 p = some o → r.P G2 (.ref p)) : Ev M te σ G H r := fun G1 H1 a Q q =>
  h G1 H1 a Q fun p o G2 H2 b n1 n2 n3 f => q (.ref p) (upd G2 p o) H2 ⟨b.gr.fix n1 n2 n3, b.j⟩ (k G2 (upd G2 p o) p o f (Le.new n2) upd_same)
theorem EvN.lst (h : EvN M te σ G H (FL rs)) : Ev M te σ G H (rLst K rs) := h.fix fun G1 G2 p o f e g => by
  obtain ⟨vs, rfl, ps⟩ := f
  exact ⟨p, vs, rfl, .of g, ps.mono e⟩
theorem en_lst {ta : TA} (h : EvA M ta σ G H rs) (hl : rs.length ≤ 100000 := by decide) : EvN M (tLst ta) σ G H (FL rs) := fun G1 H1 a Q q =>
  h G1 H1 a _ fun vs G2 H2 b ps => ⟨ps.bound hl, fun p hp => by
    have c := b.at.own (o := .lst vs) hp
    refine q p (.lst vs) G2 _ (b.trans c) ?_ (b.at.le.free hp) upd_same ⟨vs, rfl, ps⟩
    cases e : H1 p with
    | none => rfl
    | some o => exact absurd hp (b.gr.dm p (by rw [e]; exact fun z => nomatch z))⟩
theorem new_back {a : Go M G H G' H'} {p : Addr} (hp : H' p = none) : H p = none := by
  cases e : H p with
  | none => rfl
  | some o => exact absurd hp (a.gr.dm p (by rw [e]; exact fun z => nomatch z))
theorem Go.back (a : Go M G H G' H') {p : Addr} (hp : H' p = none) : H p = none := new_back (a := a) hp
/-- list(x) of a frozen list, of a frozen tuple -/
def rSeq (K : PySem.W.Frag) (rs : List Rl) : Rl := ⟨fun G v => ∃ a vs, v = .ref a ∧ (SqL K G a vs ∨ SqT K G a vs) ∧ Al G rs vs, fun e ⟨a, vs, h1, h2, h3⟩ => ⟨a, vs, h1, h2.elim (fun z => .inl (e.seqL z)) (fun z => .inr (e.seqT z)), h3.mono e⟩⟩
theorem rSeq_l {G : Hp} {v : V} (h : (rLst K rs).P G v) : (rSeq K rs).P G v := let ⟨a, vs, h1, h2, h3⟩ := h; ⟨a, vs, h1, .inl h2, h3⟩
theorem rSeq_t {G : Hp} {v : V} (h : (rTup K rs).P G v) : (rSeq K rs).P G v := let ⟨a, vs, h1, h2, h3⟩ := h; ⟨a, vs, h1, .inr h2, h3⟩
theorem Ev.sl (h : Ev M te σ G H (rLst K rs)) : Ev M te σ G H (rSeq K rs) := h.imp fun _ _ => rSeq_l
theorem Ev.st (h : Ev M te σ G H (rTup K rs)) : Ev M te σ G H (rSeq K rs) := h.imp fun _ _ => rSeq_t
theorem ev_one {z : Rl} {rr : List V → Hp → VK → Prop} (h : Ev M ta σ G H r) (hr : ∀ G1 H1 x, Go M G H G1 H1 → r.P G1 x → ∀ Q : VK, (∀ v G2 H2, Go M G1 H1 G2 H2 → z.P G2 v → Q v H2) → rr [x] H1 Q) : Ev M (tCB rr (tCons ta tNil)) σ G H z := fun G1 H1 a Q q =>
  h G1 H1 a _ fun x G2 H2 b p => hr G2 H2 x (a.trans b) p Q fun v G3 H3 c p' => q v G3 H3 (b.trans c) p'
theorem en_one {rr : List V → Hp → VK → Prop} (h : Ev M ta σ G H r) (hr : ∀ G1 H1 x, Go M G H G1 H1 → r.P G1 x → ∀ Q : VK, (∀ p o G2 H2, Go M G1 H1 G2 H2 → H1 p = none → G2 p = none → H2 p = some o → φ G2 o → Q (.ref p) H2) → rr [x] H1 Q) : EvN M (tCB rr (tCons ta tNil)) σ G H φ := fun G1 H1 a Q q =>
  h G1 H1 a _ fun x G2 H2 b p => hr G2 H2 x (a.trans b) p Q fun v o G3 H3 c n1 n2 n3 f => q v o G3 H3 (b.trans c) (b.back n1) n2 n3 f
theorem en_list (h : Ev M ta σ G H (rSeq K rs)) : EvN M (tCB (fun xs H Q => ∃ p ys, xs = [.ref p] ∧ (SqL K H p ys ∨ SqT K H p ys) ∧ ∀ l, H l = none → Q (.ref l) (upd H l (.lst ys))) (tCons ta tNil)) σ G H (FL rs) :=
  en_one h fun G1 H1 x a p Q q => by
    obtain ⟨b, vs, rfl, h2, h3⟩ := p
    exact ⟨b, vs, rfl, h2.elim (fun z => .inl (a.at.le.seqL z)) (fun z => .inr (a.at.le.seqT z)), fun l hl => q l _ G1 _ (a.at.own hl) hl (a.at.le.free hl) upd_same ⟨vs, rfl, h3⟩⟩
theorem ev_len (h : Ev M ta σ G H (rSeq K rs)) : Ev M (tCB (fun xs H Q => ∃ p ys, xs = [.ref p] ∧ (SqL K H p ys ∨ SqT K H p ys) ∧ Q (.int ys.length) H) (tCons ta tNil)) σ G H (rInt rs.length) :=
  ev_one h fun G1 H1 x a p Q q => by
    obtain ⟨b, vs, rfl, h2, h3⟩ := p
    refine ⟨b, vs, rfl, h2.elim (fun z => .inl (a.at.le.seqL z)) (fun z => .inr (a.at.le.seqT z)), ?_⟩
    rw [← h3.length]
    exact q _ G1 H1 a.at.go rfl
theorem ev_lenS {z : Str} (h : Ev M ta σ G H (rStr z)) (hz : z.length ≤ sizeLine) : Ev M (tCB (fun xs H Q => ∃ z, xs = [.str z] ∧ z.length ≤ sizeLine ∧ Q (.int z.length) H) (tCons ta tNil)) σ G H (rInt z.length) :=
  ev_one h fun G1 H1 x a p Q q => ⟨z, by rw [show x = .str z from p], hz, q _ G1 H1 a.at.go rfl⟩
/-- x in t, of scalars -/
theorem Al.strs {G : Hp} {xs : List Str} {vs : List V} (h : Al G (xs.map rStr) vs) : vs = xs.map V.str := Al.vals h
theorem inV_strs (x : Str) (xs : List Str) : inV (.str x) (xs.map V.str) = decide (x ∈ xs) := by
  unfold inV
  rw [List.any_map, Bool.eq_iff_iff, List.any_eq_true, decide_eq_true_iff]
  constructor
  · rintro ⟨y, hy, e⟩
    have e : (y == x) = true := by simpa [eqV, Function.comp] using e
    rw [← eq_of_beq e]
    exact hy
  · intro hx
    refine ⟨x, hx, ?_⟩
    simp [eqV, Function.comp]
theorem ev_in {neg : Bool} {x : Str} {xs : List Str} (ha : Ev M ta σ G H (rStr x)) (hb : Ev M tb σ G H (rSeq K (xs.map rStr))) : Ev M (tOp (rIn K neg) ta tb) σ G H (rBl (if neg then !decide (x ∈ xs) else decide (x ∈ xs))) :=
  ev_op ha hb fun G1 H1 a b e p q Q k => by
    have p : a = .str x := p
    obtain ⟨l, vs, rfl, h2, h3⟩ := q
    have h4 := h3.strs
    subst h4
    refine ⟨l, _, rfl, h2.elim (fun z => .inl (e.at.le.seqL z)) (fun z => .inr (e.at.le.seqT z)), by rw [p]; rfl, flat_strs xs, ?_⟩
    rw [p, inV_strs]
    exact k _ G1 H1 e.at.go rfl
/-! ### all, any -/
theorem Al.bls {G : Hp} {bs : List Bool} {vs : List V} (h : Al G (bs.map rBl) vs) : vs = bs.map V.bl := Al.vals h
theorem Al.blsX {α : Type} {f : α → Bool} {G : Hp} {xs : List α} {vs : List V} (h : Al G (xs.map fun x => rBl (f x)) vs) : vs = (xs.map f).map V.bl := by
  rw [List.map_map]
  exact Al.vals (f := fun x => V.bl (f x)) h
theorem ev_all {α : Type} {f : α → Bool} {xs : List α} (h : Ev M ta σ G H (rLst K (xs.map fun x => rBl (f x)))) : Ev M (tCB (rAll K) (tCons ta tNil)) σ G H (rBl (xs.all f)) :=
  ev_one h fun G1 H1 x a p Q q => by
    obtain ⟨b, vs, rfl, h2, h3⟩ := p
    have h4 := h3.blsX
    subst h4
    refine ⟨b, xs.map f, rfl, a.at.le.seqL h2, ?_⟩
    rw [List.all_map]
    exact q _ G1 H1 a.at.go rfl
/-! ### calls -/
/-- a def that changes nothing: what it asks, of what it is handed, what it tells -/
def spP {ι : Type} (pre : ι → Hp → Hp → Prop) (args : ι → List Rl) (res : ι → Rl) : Sp := fun vs H Q _ => ∃ (i : ι) (G : Hp), Le G H ∧ pre i G H ∧ Al G (args i) vs ∧ ∀ v G' H', Gr [] G H G' H' → (res i).P G' v → Q v H'
theorem ev_call {ι : Type} {pre : ι → Hp → Hp → Prop} {args : ι → List Rl} {res : ι → Rl} {E : XK} {t : TA} (i : ι) (h : EvA M t σ G H (args i)) (hp : ∀ G1 H1, Go M G H G1 H1 → pre i G1 H1) : Ev M (tCall (spP pre args res) [] E t) σ G H (res i) := fun G1 H1 a Q q =>
  h G1 H1 a _ fun vs G2 H2 b ps => ⟨i, G2, b.at.le, hp G2 H2 (a.trans b), by rw [List.append_nil]; exact ps, fun v G3 H3 c p => q v G3 H3 (b.trans (Go.pure c b.j)) p⟩
/-! ### fields -/
def FAl (G : Hp) (fs : List (Str × Rl)) (vs : List (Str × V)) : Prop := Paired (fun (r : Str × Rl) (v : Str × V) => r.1 = v.1 ∧ r.2.P G v.2) fs vs
theorem FAl.mono {G G' : Hp} (e : Le G G') {fs : List (Str × Rl)} {vs : List (Str × V)} (h : FAl G fs vs) : FAl G' fs vs := L2.Paired.mapP h fun a _ q => ⟨q.1, a.2.mono e q.2⟩
theorem FAl.get {G : Hp} {f : Str} : ∀ {fs : List (Str × Rl)} {vs : List (Str × V)} {r : Rl}, FAl G fs vs → fs.lookup f = some r → ∃ v, vs.lookup f = some v ∧ r.P G v
  | _, _, _, .nil, e => by cases e
  | (x, r') :: fs, (y, v') :: vs, r, .cons h t, e => by
    have hxy : x = y := h.1
    have hp : r'.P G v' := h.2
    subst hxy
    rw [List.lookup_cons] at e ⊢
    cases c : f == x with
    | true => rw [c] at e; cases e; exact ⟨v', rfl, hp⟩
    | false => rw [c] at e; exact FAl.get t e
theorem FAl.none {G : Hp} {f : Str} : ∀ {fs : List (Str × Rl)} {vs : List (Str × V)}, FAl G fs vs → fs.lookup f = none → vs.lookup f = none
  | _, _, .nil, e => rfl
  | (x, r') :: fs, (y, v') :: vs, .cons h t, e => by
    have hxy : x = y := h.1
    subst hxy
    rw [List.lookup_cons] at e ⊢
    cases c : f == x with
    | true => rw [c] at e; cases e
    | false => rw [c] at e; exact FAl.none t e
def rIns (C : Addr) (fs : List (Str × Rl)) : Rl := ⟨fun G v => ∃ a dx vs, v = .ref a ∧ G a = some (.ins C dx vs) ∧ FAl G fs vs, fun e ⟨a, dx, vs, h1, h2, h3⟩ => ⟨a, dx, vs, h1, e.ins h2, h3.mono e⟩⟩
/-! ### dicts, keys texts -/
theorem DAl.get {G : Hp} {k : Key} : ∀ {ks : List (Key × Rl)} {vs : List (Key × V)}, DAl G ks vs → (∀ r, ((ks.find? fun kv => decide (kv.1 = k)).map (·.2)) = some r → ∃ v, valV vs k = some v ∧ r.P G v) ∧ (((ks.find? fun kv => decide (kv.1 = k)).map (·.2)) = none → valV vs k = none)
  | _, _, .nil => ⟨fun r e => (by cases e), fun _ => rfl⟩
  | (x, r') :: ks, (y, v') :: vs, .cons h t => by
    have hxy : x = y := h.1
    have hp : r'.P G v' := h.2
    subst hxy
    unfold valV
    by_cases c : x = k
    · simp only [List.find?_cons, c, decide_true, Option.map_some]
      exact ⟨fun r e => ⟨v', rfl, (by cases e; exact hp)⟩, fun e => (by cases e)⟩
    · simp only [List.find?_cons, c, decide_false]
      have ih := DAl.get (k := k) t
      unfold valV at ih
      exact ih
end
end TH
/-! Readings over (G, H): what a loop walks, comprehensions, statements, loops, defs. -/
namespace TH
open PySem PySem.Spec PyProof.Rows L2
variable [TC : TabC]

/-! ### what is walked -/
structure WalkR (W : List Addr) (J : It) (G0 H0 : Hp) (rs : List Rl) : Prop where
  goes : ∀ i G H, i < rs.length → Gr W G0 H0 G H → J.go i H
  stops : ∀ G H, Gr W G0 H0 G H → J.stop rs.length H
  yields : ∀ i r G H x H', rs[i]? = some r → Gr W G0 H0 G H → J.yld i H x H' → ∃ G', Gr [] G H G' H' ∧ r.P G' x
def Src (M : Md) (W : List Addr) (wi : TI) (σ : L2.St) (G H : Hp) (rs : List Rl) : Prop := ∀ G1 H1, Go M G H G1 H1 → ∀ R : It → Hp → Prop, (∀ J G2 H2, Go M G1 H1 G2 H2 → WalkR W J G2 H2 rs → R J H2) → wi σ H1 R
section
variable {K : PySem.W.Frag} {M : Md} {W : List Addr} {σ : L2.St} {G H G' H' : Hp} {ta tb te tc : TE} {t u : TT} {r s : Rl} {v v0 : V} {i j : Int} {n m : Nat} {rs ss : List Rl}
theorem src_lst (h : Ev M te σ G H (rLst K rs)) : Src M W (iList K te) σ G H rs := fun G1 H1 a R q => h G1 H1 a _ fun x G2 H2 b p => by
  obtain ⟨d, vs, rfl, e2, e3⟩ := p
  have at' : ∀ {G H : Hp}, Gr W G2 H2 G H → SqL K H d vs := fun g => (g.gg.trans g.gh).seqL e2
  refine ⟨d, rfl, ⟨vs, b.at.le.seqL e2⟩, q _ G2 H2 b ⟨fun i G H hi g => ?_, fun G H g => ⟨vs, at' g, by rw [← e3.length]; exact Nat.le_refl _⟩, fun i r G H x H' hr g y => ?_⟩⟩
  · have hi : i < vs.length := by rw [← e3.length]; exact hi
    exact ⟨vs, vs[i], at' g, by simp [hi]⟩
  · obtain ⟨rfl, y⟩ := y
    have hx := y vs (at' g)
    obtain ⟨v, e4, e5⟩ := e3.get hr
    rw [hx] at e4
    cases e4
    exact ⟨G, .refl g.gh, r.mono g.gg e5⟩
theorem src_rng1 (h : Ev M te σ G H (rInt j)) (hj : -(2 ^ 62) ≤ j ∧ j < 2 ^ 62) : Src M W (iRng1 (tCons te tNil)) σ G H ((List.range j.toNat).map fun i => rInt (i : Nat)) := fun G1 H1 a R q => h G1 H1 a _ fun x G2 H2 b p => by
  have p : x = .int j := p
  subst p
  refine ⟨j, rfl, hj.1, hj.2, q _ G2 H2 b ⟨fun i G H hi g => ?_, fun G H g => ?_, fun i r G H x H' hr g y => ?_⟩⟩
  · show i < j.toNat
    rw [List.length_map, List.length_range] at hi
    exact hi
  · show j.toNat ≤ _
    simp
  · obtain ⟨rfl, y⟩ := y
    rw [List.getElem?_map] at hr
    cases e : (List.range j.toNat)[i]? with
    | none => rw [e] at hr; cases hr
    | some k =>
      rw [e] at hr
      cases hr
      have hk : k = i := by
        have := (List.getElem?_eq_some_iff.mp e).2
        simpa using this.symm
      subst hk
      refine ⟨G, .refl g.gh, ?_⟩
      show x = .int _
      rw [y]
      simp
/-- the signs of a text -/
theorem src_str {z : Str} (h : Ev M te σ G H (rStr z)) : Src M W (iStr te) σ G H (z.cps.toList.map fun c => rStr ⟨#[c]⟩) := fun G1 H1 a R q => h G1 H1 a _ fun x G2 H2 b p => by
  have p : x = .str z := p
  subst p
  have wk := walk_str (z := z)
  refine ⟨z, rfl, q _ G2 H2 b ⟨fun i G H hi g => wk.goes i H (by simpa using hi) trivial, fun G H g => by rw [List.length_map, Array.length_toList]; exact wk.stops H trivial, fun i r G H x H' hr g y => ?_⟩⟩
  have hi : i < z.cps.size := by
    have := (List.getElem?_eq_some_iff.mp hr).1
    simpa using this
  obtain ⟨rfl, c, e1, e2⟩ := wk.yields i H x H' hi trivial y
  rw [List.getElem?_map, Array.getElem?_toList, e1] at hr
  cases hr
  exact ⟨G, .refl g.gh, e2⟩

/-! ### comprehensions -/
theorem notW (j : M.J H) {p : Addr} (hp : H p = none) : p ∉ M.W := fun z => M.dom j p z hp
theorem en_lc {wi : TI} {g : TG} {tt : TT} {vs : List Nat} (hs : Src M M.W wi σ G H rs) (O : Nat → List Rl → Prop) (h0 : O 0 [])
    (body : ∀ i r v G' H', rs[i]? = some r → Go M G H G' H' → r.P G' v → ∃ σ2, (∀ Q : L2.St → Hp → Prop, Q σ2 H' → g v (wipe σ vs) H' Q) ∧ wipe σ2 vs = wipe σ vs ∧ ∃ B : Bool → Prop, EvT M tt σ2 G' H' B ∧
      (B true → ∃ q, Ev M te σ2 G' H' q ∧ ∀ out, O i out → O (i + 1) (out ++ [q])) ∧ (B false → ∀ out, O i out → O (i + 1) out)) (hl : rs.length ≤ 100000 := by decide) :
    EvN M (tLc wi g tt te vs) σ G H (fun G o => ∃ out, O rs.length out ∧ FL out G o) := fun G1 H1 a Q q => hs G1 H1 a _ fun J G2 H2 b wk D hD => by
  have hDW : D ∉ M.W := notW b.j hD
  have hDG : G2 D = none := b.at.le.free hD
  refine ⟨fun i m H' => m = rs.length - i ∧ i ≤ rs.length ∧ ∃ G' out acc, Go M G2 H2 G' H' ∧ G' D = none ∧ H' D = some (.lst acc) ∧ Al G' out acc ∧ O i out ∧ acc.length ≤ i, ⟨rs.length, by simp, Nat.zero_le _, G2, [], [], b.at.own hD, hDG, upd_same, .nil, h0, Nat.le_refl _⟩, ?_⟩
  rintro i m H' ⟨rfl, hi, G', out, acc, g1, g2, g3, g4, g5, g6⟩
  by_cases hlt : i < rs.length
  · refine .inr ⟨wk.goes i G' H' hlt g1.gr, fun H'' => i + 1 ≤ rs.length ∧ ∃ G' out acc, Go M G2 H2 G' H'' ∧ G' D = none ∧ H'' D = some (.lst acc) ∧ Al G' out acc ∧ O (i + 1) out ∧ acc.length ≤ i + 1, fun H'' z => ⟨rs.length - (i + 1), by omega, rfl, z.1, z.2⟩, fun x H'' y => ?_⟩
    obtain ⟨G'', k1, k2⟩ := wk.yields i rs[i] G' H' x H'' (by simp [hlt]) g1.gr y
    have k3 := Go.pure k1 g1.j
    obtain ⟨m1, m2⟩ := k3.gr.loc g3 g2 hDW
    have gA : Go M G H G'' H'' := (a.trans b).trans (g1.trans k3)
    obtain ⟨σ2, b1, b2, B, b3, b4, b5⟩ := body i rs[i] x G'' H'' (by simp [hlt]) gA k2
    refine b1 _ ⟨b2, b3 G'' H'' k3.at.go _ fun c G3 H3 e hB => ?_⟩
    obtain ⟨n1, n2⟩ := e.gr.loc m1 m2 hDW
    cases c with
    | true =>
      show te σ2 H3 _
      obtain ⟨q', b6, b7⟩ := b4 hB
      refine b6 G3 H3 e _ fun y G4 H4 e2 py => ?_
      obtain ⟨n3, n4⟩ := e2.gr.loc n1 n2 hDW
      refine ⟨acc, n3, Nat.lt_of_lt_of_le (show acc.length < 100001 by omega) (by decide), hlt, G4, out ++ [q'], acc ++ [y], ⟨((g1.trans k3).trans (e.trans e2)).gr.put hD n4, (e2.at.put n4 hDW).j⟩, n4, upd_same, ?_, b7 out g5, ?_⟩
      · exact (g4.mono ((k3.trans e).trans e2).gg).append (.cons py .nil)
      · rw [List.length_append, List.length_singleton]
        omega
    | false =>
      show _ ∧ _
      exact ⟨hlt, G3, out, acc, (g1.trans k3).trans e, n2, n1, g4.mono (k3.trans e).gg, b5 hB out g5, by omega⟩
  · have e : i = rs.length := by omega
    subst e
    refine .inl ⟨wk.stops G' H' g1.gr, q D (.lst acc) G' H' (b.trans g1) ?_ g2 g3 ⟨out, g5, acc, rfl, g4⟩⟩
    exact b.back hD
/-- .. the list told outright: q i for those i of which f i is true -/
theorem en_lcF {wi : TI} {g : TG} {tt : TT} {vs : List Nat} (hs : Src M M.W wi σ G H rs) (f : Nat → Bool) (q : Nat → Rl)
    (body : ∀ i r v G' H', rs[i]? = some r → Go M G H G' H' → r.P G' v → ∃ σ2, (∀ Q : L2.St → Hp → Prop, Q σ2 H' → g v (wipe σ vs) H' Q) ∧ wipe σ2 vs = wipe σ vs ∧ EvT M tt σ2 G' H' (· = f i) ∧
      (f i = true → Ev M te σ2 G' H' (q i))) (hl : rs.length ≤ 100000 := by decide) : EvN M (tLc wi g tt te vs) σ G H (FL (((List.range rs.length).filter f).map q)) :=
  (en_lc hs (fun i out => out = ((List.range i).filter f).map q) rfl (fun i r v G' H' h1 h2 h3 => by
    obtain ⟨σ2, b1, b2, b3, b4⟩ := body i r v G' H' h1 h2 h3
    refine ⟨σ2, b1, b2, _, b3, fun e => ⟨q i, b4 e.symm, fun out ho => ?_⟩, fun e out ho => ?_⟩
    · rw [ho, List.range_succ, List.filter_append, List.map_append, List.filter_cons, if_pos e.symm]
      rfl
    · rw [ho, List.range_succ, List.filter_append, List.map_append, List.filter_cons, if_neg (by rw [← e]; decide)]
      exact (List.append_nil _).symm) hl).imp fun G o ⟨out, e, h⟩ => e ▸ h
theorem range_filter_map {α β : Type} (d : α) (xs : List α) (f : α → Bool) (q : α → β) : ((List.range xs.length).filter fun i => f (xs.getD i d)).map (fun i => q (xs.getD i d)) = (xs.filter f).map q := by
  have h : ∀ (n : Nat) (xs : List α), xs.length = n → ((List.range n).filter fun i => f (xs.getD i d)).map (fun i => q (xs.getD i d)) = (xs.filter f).map q := by
    intro n
    induction n with
    | zero => intro xs h; rw [List.length_eq_zero_iff.mp h]; rfl
    | succ n ih =>
      intro xs h
      cases xs with
      | nil => cases h
      | cons x t =>
        have ih := ih t (by simpa using h)
        rw [List.range_succ_eq_map, List.filter_cons]
        have e1 : (fun i => f ((x :: t).getD i d)) ∘ Nat.succ = fun i => f (t.getD i d) := by funext i; simp
        have e2 : (fun i => q ((x :: t).getD i d)) ∘ Nat.succ = fun i => q (t.getD i d) := by funext i; simp
        rw [List.filter_map, e1]
        show List.map _ (if f x = true then _ else _) = _
        by_cases c : f x = true
        · rw [if_pos c, List.map_cons, List.map_map, e2, ih, List.filter_cons, if_pos c]
          simp
        · rw [if_neg c, List.map_map, e2, ih, List.filter_cons, if_neg c]
  exact h _ xs rfl
/-- [e for x in xs if t], over the items of a list of Lean; x at slot j -/
theorem en_lcX {α : Type} {wi : TI} {tt : TT} {vs : List Nat} {j : Nat} {xs : List α} {enc : α → Rl} (hs : Src M M.W wi σ G H (xs.map enc)) (f : α → Bool) (q : α → Rl) (hw : ∀ v, wipe ((wipe σ vs).set j (some v)) vs = wipe σ vs)
    (body : ∀ x v G' H', x ∈ xs → Go M G H G' H' → (enc x).P G' v → EvT M tt ((wipe σ vs).set j (some v)) G' H' (· = f x) ∧ (f x = true → Ev M te ((wipe σ vs).set j (some v)) G' H' (q x))) (hl : xs.length ≤ 100000 := by decide) :
    EvN M (tLc wi (gName j) tt te vs) σ G H (FL ((xs.filter f).map q)) := by
  cases hx : xs with
  | nil =>
    subst hx
    exact en_lcF hs (fun _ => false) (fun _ => rNon) (fun i r v G' H' h => (by simp at h)) (by simp)
  | cons d t =>
    rw [← hx, ← range_filter_map d xs f q]
    have := en_lcF (te := te) (tt := tt) (g := gName j) (vs := vs) hs (fun i => f (xs.getD i d)) (fun i => q (xs.getD i d)) (fun i r v G' H' h1 h2 h3 => by
      rw [List.getElem?_map] at h1
      cases e : xs[i]? with
      | none => rw [e] at h1; cases h1
      | some x =>
        rw [e] at h1
        cases h1
        have ex : xs.getD i d = x := by rw [List.getD_eq_getElem?_getD, e]; rfl
        rw [ex]
        obtain ⟨b1, b2⟩ := body x v G' H' (List.mem_of_getElem? e) h2 h3
        exact ⟨_, fun Q hQ => hQ, hw v, b1, b2⟩) (by simpa using hl)
    rw [List.length_map] at this
    exact this
theorem et_yes : EvT M tYes σ G H (· = true) := fun G1 H1 a Q q => q true G1 H1 a.at.go rfl
/-- [e for x in xs] -/
theorem en_map {α : Type} {wi : TI} {vs : List Nat} {j : Nat} {xs : List α} {enc : α → Rl} (hs : Src M M.W wi σ G H (xs.map enc)) (q : α → Rl) (hw : ∀ v, wipe ((wipe σ vs).set j (some v)) vs = wipe σ vs)
    (body : ∀ x v G' H', x ∈ xs → Go M G H G' H' → (enc x).P G' v → Ev M te ((wipe σ vs).set j (some v)) G' H' (q x)) (hl : xs.length ≤ 100000 := by decide) : EvN M (tLc wi (gName j) tYes te vs) σ G H (FL (xs.map q)) := by
  have := en_lcX (te := te) (tt := tYes) (vs := vs) (j := j) hs (fun _ => true) q hw (fun x v G' H' h1 h2 h3 => ⟨et_yes, fun _ => body x v G' H' h1 h2 h3⟩) hl
  rw [List.filter_eq_self.mpr (fun _ _ => rfl)] at this
  exact this

/-! ### statements -/
variable {D : Ends} {tu tw tz : TS} {g : TG} {φ : Hp → HO → Prop}
theorem s_asg {i : Nat} (h : Ev M te σ G H r) (a : At M G H) (k : ∀ v G' H', Go M G H G' H' → r.P G' v → D.nx (σ.set i (some v)) H') : tAsg te (gName i) D σ H := h G H a.go _ k
theorem q_asgV {i : Nat} (h : Ev M te σ G H (rV v)) (a : At M G H) (k : ∀ G' H', Go M G H G' H' → tz D (σ.set i (some v)) H') : tSeq (tAsg te (gName i)) tz D σ H := h G H a.go _ fun x G' H' e p => by
  have p : x = v := p
  subst p
  exact k G' H' e
theorem s_ret (h : Ev M te σ G H r) (a : At M G H) (k : ∀ v G' H', Go M G H G' H' → r.P G' v → D.rt v H') : tRet te D σ H := h G H a.go _ k
theorem s_if {c : TT} {B : Bool → Prop} (h : EvT M c σ G H B) (a : At M G H) (h1 : B true → ∀ G' H', Go M G H G' H' → tu D σ H') (h2 : B false → ∀ G' H', Go M G H G' H' → tw D σ H') : tIfS c tu tw D σ H := h G H a.go _ fun b G' H' e p => by
  cases b with
  | true => exact h1 p G' H' e
  | false => exact h2 p G' H' e
theorem q_if {c : TT} {B : Bool → Prop} (h : EvT M c σ G H B) (a : At M G H) (h1 : B true → ∀ G' H', Go M G H G' H' → tu { D with nx := tz D } σ H') (h2 : B false → ∀ G' H', Go M G H G' H' → tw { D with nx := tz D } σ H') : tSeq (tIfS c tu tw) tz D σ H := s_if (D := { D with nx := tz D }) h a h1 h2
theorem q_when {c : TT} {B : Bool → Prop} (h : EvT M c σ G H B) (a : At M G H) (h1 : B true → ∀ G' H', Go M G H G' H' → tu { D with nx := tz D } σ H') (h2 : B false → ∀ G' H', Go M G H G' H' → tz D σ H') : tSeq (tIfS c tu tNext) tz D σ H := s_if (D := { D with nx := tz D }) h a h1 h2
/-! ### loops -/
theorem s_for {wi : TI} {tb : TS} (hs : Src M W wi σ G H rs) (a : At M G H) (hW : ∀ b ∈ M.W, b ∈ W) (I : Nat → L2.St → Hp → Hp → Prop) (h0 : ∀ G' H', Go M G H G' H' → I 0 σ G' H')
    (step : ∀ i r v σ' G' H', rs[i]? = some r → r.P G' v → Gr W G H G' H' → M.J H' → I i σ' G' H' → ∀ N : L2.St → Hp → Prop, (∀ σ2 G2 H2, Gr W G' H' G2 H2 → M.J H2 → I (i + 1) σ2 G2 H2 → N σ2 H2) → g v σ' H' fun σ2 H2 => tb { D with nx := N, ct := N, bk := D.nx } σ2 H2)
    (hI : ∀ i r σ' G' H' G'' H'', rs[i]? = some r → Gr [] G' H' G'' H'' → I i σ' G' H' → I i σ' G'' H'')
    (hd : ∀ σ' G' H', Gr W G H G' H' → M.J H' → I rs.length σ' G' H' → D.nx σ' H') : tFor wi g tb D σ H := hs G H a.go _ fun J G2 H2 b wk => by
  have b' : Gr W G H G2 H2 := b.gr.mono hW
  refine ⟨fun i m σ' H' => m = rs.length - i ∧ i ≤ rs.length ∧ ∃ G', Gr W G2 H2 G' H' ∧ M.J H' ∧ I i σ' G' H', ⟨rs.length, by simp, Nat.zero_le _, G2, .refl b.at.le, b.j, h0 G2 H2 b⟩, ?_⟩
  rintro i m σ' H' ⟨rfl, hi, G', g1, g2, g3⟩
  by_cases hlt : i < rs.length
  · refine .inr ⟨wk.goes i G' H' hlt g1, fun σ2 H3 => i + 1 ≤ rs.length ∧ ∃ G', Gr W G2 H2 G' H3 ∧ M.J H3 ∧ I (i + 1) σ2 G' H3, fun σ2 H3 z => ⟨rs.length - (i + 1), by omega, rfl, z.1, z.2⟩, fun x H'' y => ?_⟩
    obtain ⟨G'', k1, k2⟩ := wk.yields i rs[i] G' H' x H'' (by simp [hlt]) g1 y
    have hx : rs[i]? = some rs[i] := by simp [hlt]
    have j2 : M.J H'' := (Go.pure k1 g2).j
    exact step i rs[i] x σ' G'' H'' hx k2 (b'.trans (g1.trans k1.nil)) j2 (hI i rs[i] σ' G' H' G'' H'' hx k1 g3) _ fun σ2 G3 H3 e1 e2 e3 => ⟨hlt, G3, (g1.trans k1.nil).trans e1, e2, e3⟩
  · have e : i = rs.length := by omega
    subst e
    exact .inl ⟨wk.stops G' H' g1, hd σ' G' H' (b'.trans g1) g2 g3⟩
theorem q_for {wi : TI} {tb : TS} (hs : Src M W wi σ G H rs) (a : At M G H) (hW : ∀ b ∈ M.W, b ∈ W) (I : Nat → L2.St → Hp → Hp → Prop) (h0 : ∀ G' H', Go M G H G' H' → I 0 σ G' H')
    (step : ∀ i r v σ' G' H', rs[i]? = some r → r.P G' v → Gr W G H G' H' → M.J H' → I i σ' G' H' → ∀ N : L2.St → Hp → Prop, (∀ σ2 G2 H2, Gr W G' H' G2 H2 → M.J H2 → I (i + 1) σ2 G2 H2 → N σ2 H2) → g v σ' H' fun σ2 H2 => tb { D with nx := N, ct := N, bk := tz D } σ2 H2)
    (hI : ∀ i r σ' G' H' G'' H'', rs[i]? = some r → Gr [] G' H' G'' H'' → I i σ' G' H' → I i σ' G'' H'')
    (hd : ∀ σ' G' H', Gr W G H G' H' → M.J H' → I rs.length σ' G' H' → tz D σ' H') : tSeq (tFor wi g tb) tz D σ H := s_for (D := { D with nx := tz D }) hs a hW I h0 step hI hd
end
/-! ### values of a written length -/
section
variable {G : Hp} {vs : List V} {r1 r2 r3 r4 r5 r6 r7 : Rl}
theorem al1 (h : Al G [r1] vs) : ∃ a, vs = [a] ∧ r1.P G a := by
  cases h with | cons h t => cases t; exact ⟨_, rfl, h⟩
theorem al2 (h : Al G [r1, r2] vs) : ∃ a b, vs = [a, b] ∧ r1.P G a ∧ r2.P G b := by
  cases h with | cons h t => obtain ⟨b, rfl, hb⟩ := al1 t; exact ⟨_, b, rfl, h, hb⟩
theorem al3 (h : Al G [r1, r2, r3] vs) : ∃ a b c, vs = [a, b, c] ∧ r1.P G a ∧ r2.P G b ∧ r3.P G c := by
  cases h with | cons h t => obtain ⟨b, c, rfl, hb⟩ := al2 t; exact ⟨_, b, c, rfl, h, hb⟩
theorem al4 (h : Al G [r1, r2, r3, r4] vs) : ∃ a b c d, vs = [a, b, c, d] ∧ r1.P G a ∧ r2.P G b ∧ r3.P G c ∧ r4.P G d := by
  cases h with | cons h t => obtain ⟨b, c, d, rfl, hb⟩ := al3 t; exact ⟨_, b, c, d, rfl, h, hb⟩
theorem al5 (h : Al G [r1, r2, r3, r4, r5] vs) : ∃ a b c d e, vs = [a, b, c, d, e] ∧ r1.P G a ∧ r2.P G b ∧ r3.P G c ∧ r4.P G d ∧ r5.P G e := by
  cases h with | cons h t => obtain ⟨b, c, d, e, rfl, hb⟩ := al4 t; exact ⟨_, b, c, d, e, rfl, h, hb⟩
theorem al6 (h : Al G [r1, r2, r3, r4, r5, r6] vs) : ∃ a b c d e f, vs = [a, b, c, d, e, f] ∧ r1.P G a ∧ r2.P G b ∧ r3.P G c ∧ r4.P G d ∧ r5.P G e ∧ r6.P G f := by
  cases h with | cons h t => obtain ⟨b, c, d, e, f, rfl, hb⟩ := al5 t; exact ⟨_, b, c, d, e, f, rfl, h, hb⟩
end
/-! ### a def that changes nothing -/
section
variable {P : Program} {w : World} {K : PySem.W.Frag} {mg : Str → Option Value} {base : Heap} {x qual : Str} {params : Arguments} {body : List Stmt} {scope : Scope} {dvs : List V} {kws : List (Str × V)} {f : Addr} {fd : FuncData}
theorem fn_pure {ι : Type} {pre : ι → Hp → Hp → Prop} {args : ι → List Rl} {res : ι → Rl} {N ps : List Str} {k : Nat} (F : FunD K x qual params body scope dvs kws f fd) (S : FnScope N ps scope) (hlen : ∀ i, (args i).length = ps.length)
    (hb : ∀ (cdv : Value) (A : Around) (outer : List Env) (s : Shared) (H : Hp) (E : XK), Room k (A.deeper (envOfC qual scope s.heap.objs.size f cdv)) →
      ∃ t, PSs (cxOf CX0 P w K mg base N qual scope f cdv A outer s H E).nox body t ∧ ∀ (i : ι) (G : Hp) (vs : List V) (D : Ends), At md0 G H → pre i G H → Al G (args i) vs →
        (∀ v G' H', Gr [] G H G' H' → (res i).P G' v → D.rt v H') → (∀ σ G' H', Gr [] G H G' H' → (res i).P G' .non → D.nx σ H') → t D (start N vs) H) :
    FnOk P w K mg base CX0 (k + 1) f fd ps (spP pre args res) := by
  refine F.ok S (fun vs H Q E h => ?_) (fun cdv A outer s H vs Q E hr h => ?_)
  · obtain ⟨i, G, h1, h2, h3, h4⟩ := h
    rw [← hlen i]
    exact h3.length.symm
  · obtain ⟨t, ht, hrun⟩ := hb cdv A outer s H E hr
    obtain ⟨i, G, h1, h2, h3, h4⟩ := h
    exact ⟨t, ht.nox, hrun i G vs _ ⟨h1, trivial⟩ h2 h3 (fun v G' H' g p => h4 v G' H' g p) fun σ G' H' g p => h4 .non G' H' g p⟩
end
end TH
/-! More readings: chains, signs, texts' places, what the top holds. -/
namespace TH
open PySem PySem.Spec PyProof.Rows L2
variable [TC : TabC]
section
variable {K : PySem.W.Frag} {M : Md} {σ : L2.St} {G H G' H' : Hp} {ta tb te tc : TE} {t u : TT} {r s : Rl} {v v0 : V} {i j k : Int} {n m : Nat} {rs ss : List Rl} {a b : Bool}
theorem ev_chain {g g' : Int → Int → Bool} (ha : Ev M ta σ G H (rInt i)) (hb : Ev M tb σ G H (rInt j)) (hc : Ev M tc σ G H (rInt k)) :
    Ev M (tChain (rI0 fun i j => .bl (g i j)) (rI0 fun i j => .bl (g' i j)) ta tb tc) σ G H (rBl (g i j && g' j k)) := fun G1 H1 e Q q =>
  ha G1 H1 e _ fun x G2 H2 e2 px => hb G2 H2 (e.trans e2) _ fun y G3 H3 e3 py => by
    refine ⟨i, j, px, py, g i j, rfl, ?_⟩
    cases c : g i j with
    | true =>
      show tc σ H3 _
      exact hc G3 H3 ((e.trans e2).trans e3) _ fun z G4 H4 e4 pz => ⟨j, k, py, pz, q _ G4 H4 ((e2.trans e3).trans e4) (by rw [c]; rfl)⟩
    | false => exact q _ G3 H3 (e2.trans e3) (by rw [c]; rfl)
theorem ev_eqI (ha : Ev M ta σ G H (rInt i)) (hb : Ev M tb σ G H (rInt j)) : Ev M (tOp rEq ta tb) σ G H (rBl (decide (i = j))) := by
  have := ev_eq ha hb (by rfl)
  rwa [show decide (V.int i = V.int j) = decide (i = j) from decide_eq_decide.mpr ⟨fun e => V.int.inj e, fun e => congrArg _ e⟩] at this
theorem ev_neI (ha : Ev M ta σ G H (rInt i)) (hb : Ev M tb σ G H (rInt j)) : Ev M (tOp rNe ta tb) σ G H (rBl (!decide (i = j))) := by
  have := ev_ne ha hb (by rfl)
  rwa [show decide (V.int i = V.int j) = decide (i = j) from decide_eq_decide.mpr ⟨fun e => V.int.inj e, fun e => congrArg _ e⟩] at this
theorem ev_eqS {x y : Str} (ha : Ev M ta σ G H (rStr x)) (hb : Ev M tb σ G H (rStr y)) : Ev M (tOp rEq ta tb) σ G H (rBl (decide (x = y))) := by
  have := ev_eq ha hb (by rfl)
  rwa [show decide (V.str x = V.str y) = decide (x = y) from decide_eq_decide.mpr ⟨fun e => V.str.inj e, fun e => congrArg _ e⟩] at this
/-- one sign in a text -/
theorem ev_sign {c : Nat} {z : Str} (ha : Ev M ta σ G H (rStr ⟨#[c]⟩)) (hb : Ev M tb σ G H (rStr z)) :
    Ev M (tOp (fun x y H Q => ∃ (c : Nat) (z : Str), x = .str ⟨#[c]⟩ ∧ y = .str z ∧ Q (.bl (decide (c ∈ z.cps.toList))) H) ta tb) σ G H (rBl (decide (c ∈ z.cps.toList))) :=
  ev_op ha hb fun G1 H1 x y e p q Q k => ⟨c, z, p, q, k _ G1 H1 e.at.go rfl⟩
/-- a table of the top -/
theorem ev_top {a : Addr} {vs : List V} (h : ∀ H, SqT K H a vs) : Ev M (tC (.ref a)) σ G H (rTup K (vs.map rV)) := fun G1 H1 e Q q => q _ G1 H1 e.at.go ⟨a, vs, rfl, h G1, by
  have : ∀ vs : List V, Al G1 (vs.map rV) vs := fun vs => by
    induction vs with
    | nil => exact .nil
    | cons v t ih => exact .cons rfl ih
  exact this vs⟩
end
/-! ### lists of texts against the empty one -/
section
variable {K : PySem.W.Frag} {M : Md} {σ : L2.St} {G H G' H' : Hp} {ta tb te tc : TE}
theorem canAll_strs : ∀ {xs : List Str}, (∀ x ∈ xs, PyData.strOk x = true) → PyData.canLayAll0 (xs.map PyData.str) = true
  | [], _ => rfl
  | x :: t, h => by
    show (PyData.strOk x && PyData.canLayAll0 (t.map PyData.str)) = true
    rw [h x List.mem_cons_self, canAll_strs fun y hy => h y (List.mem_cons_of_mem _ hy)]
    rfl
theorem depthAll_strs : ∀ xs : List Str, PyData.depthAll (xs.map PyData.str) = 0
  | [] => rfl
  | x :: t => by
    show max 0 (PyData.depthAll (t.map PyData.str)) = 0
    rw [depthAll_strs t]
    rfl
theorem shaped_strs {xs : List Str} (h : ∀ x ∈ xs, PyData.strOk x = true) : SeqAt.shaped (.list (xs.map PyData.str)) = true := by
  unfold SeqAt.shaped
  rw [Bool.and_eq_true, decide_eq_true_iff]
  refine ⟨canAll_strs h, ?_⟩
  show PyData.depthAll (xs.map PyData.str) + 1 ≤ 64
  rw [depthAll_strs]
  decide
end
/-! ### things that may change, frozen while a scalar is reckoned -/
def frzH (ps : List Addr) (G H : Hp) : Hp := fun b => if b ∈ ps then H b else G b
section
variable {K : PySem.W.Frag} {M : Md} {σ : L2.St} {G H G' H' : Hp} {ta tb te tc : TE} {tt : TT}
theorem frzH_in {ps : List Addr} {b : Addr} (h : b ∈ ps) : frzH ps G H b = H b := if_pos h
theorem frzH_out {ps : List Addr} {b : Addr} (h : b ∉ ps) : frzH ps G H b = G b := if_neg h
theorem frzH_le {ps : List Addr} (le : Le G H) : Le (frzH ps G H) H := fun b o e => by
  by_cases h : b ∈ ps
  · rw [frzH_in h] at e; exact ⟨o, e, .refl o⟩
  · rw [frzH_out h] at e; exact le b o e
theorem le_frzH {ps : List Addr} (le : Le G H) : Le G (frzH ps G H) := fun b o e => by
  by_cases h : b ∈ ps
  · rw [frzH_in h]; exact le b o e
  · rw [frzH_out h]; exact ⟨o, e, .refl o⟩
/-- neither a table nor a thing that the kit tells by a word of its own -/
def NX (o : HO) : Prop := NT o ∧ ∀ f, o ≠ .ext f
/-- what was frozen meanwhile stays so, but for these -/
def offG (ps : List Addr) (G G2 : Hp) : Hp := fun b => if b ∈ ps then G b else G2 b
theorem tmp_back {ps : List Addr} {G2 H2 : Hp} (hp : ∀ p ∈ ps, (∃ o, H p = some o ∧ NX o) ∧ p ∉ M.W) (le : Le G H) (b : Go M (frzH ps G H) H G2 H2) : Go M G H (offG ps G G2) H2 := by
  refine ⟨⟨fun c o e => ?_, fun c o e => ?_, b.gr.hhN, b.gr.dm, fun c h1 h2 => ?_, fun P hP n t => ?_⟩, b.j⟩
  · unfold offG
    by_cases h : c ∈ ps
    · rw [if_pos h]; exact ⟨o, e, .refl o⟩
    · rw [if_neg h]; exact b.gg c o (by rw [frzH_out h]; exact e)
  · unfold offG at e
    by_cases h : c ∈ ps
    · rw [if_pos h] at e; exact ((le_frzH le).trans (b.gg.trans b.at.le)) c o e
    · rw [if_neg h] at e; exact b.at.le c o e
  · unfold offG at h2
    by_cases h : c ∈ ps
    · rw [if_pos h] at h2; exact (h2 h1).elim
    · rw [if_neg h] at h2; exact b.gr.nw c (by rw [frzH_out h]; exact h1) h2
  · have np : P ∉ ps := fun z => by
      obtain ⟨⟨o, e, n⟩, _⟩ := hp P z
      exact t.off e n.1 rfl
    obtain ⟨k0, qs, k1, k2, k3⟩ := b.gr.tb P hP n (t.go (le_frzH le) rfl ((frzH_out np).trans t.1))
    refine ⟨(if_neg np).trans k0, qs, k1, k2, fun pos cv hc => ?_⟩
    obtain ⟨c, e1, e2⟩ := k3 pos cv hc
    refine ⟨c, e1, ?_⟩
    unfold offG
    by_cases h : c ∈ ps
    · obtain ⟨⟨o, e, n⟩, _⟩ := hp c h
      obtain ⟨o', e3, e4⟩ := b.gg c o (by rw [frzH_in h]; exact e)
      rw [e2] at e3
      cases e3
      rcases e4 with z | ⟨u, hu, z1, z2⟩
      · exact (n.2 _ z).elim
      · rcases z2 with z | ⟨ob, z⟩
        · rw [← z] at hu
          exact (code_nd hu).elim
        · exact (code_nf _ _ z).elim
    · rw [if_neg h]; exact e2
end
/-! ### more statements -/
section
variable {K : PySem.W.Frag} {M : Md} {σ : L2.St} {G H G' H' : Hp} {ta tb te tc : TE} {r : Rl} {D : Ends} {tz : TS}
end
/-! ### rules whose reading names the fragment plainly (so that it may stand inside a block) -/
section
variable {X : Cx} {K : PySem.W.Frag}
theorem pe_fldK {e : Expr} {ta : TE} {f : Str} {pos : Pos} (hK : X.K = K) (he : PE X e ta) (hb : attributeBase e f X.env (eval e X.env) = eval e X.env) : PE X (.Attribute e f pos) (tFld K ta f) := hK ▸ pe_fld he hb
theorem peT {e : Expr} {t t' : TE} (h : PE X e t) (q : t = t') : PE X e t' := q ▸ h
theorem ptsT {l : List Expr} {t t' : TT} (h : PTs X l t) (q : t = t') : PTs X l t' := q ▸ h
theorem op_inK (hK : X.K = K) : OpR X (compareOp .In) (rIn K false) := hK ▸ op_in_seq
theorem op_notInK (hK : X.K = K) : OpR X (compareOp .NotIn) (rIn K true) := hK ▸ op_notIn_seq
end
/-! ### what the top of every law holds: built-in names are free, the constants of books -/
structure Top (K : PySem.W.Frag) (mg : Str → Option Value) : Prop where
  z_len : mg "len" = none
  z_all : mg "all" = none
  z_any : mg "any" = none
  z_set : mg "set" = none
  z_list : mg "list" = none
  z_tuple : mg "tuple" = none
  z_dict : mg "dict" = none
  z_int : mg "int" = none
  z_str : mg "str" = none
  z_max : mg "max" = none
  z_min : mg "min" = none
  z_range : mg "range" = none
  z_enumerate : mg "enumerate" = none
  z_isinstance : mg "isinstance" = none
  z_sorted : mg "sorted" = none
  z_bool : mg "bool" = none
  c_LETTERS : ∃ u, mg "LETTERS" = some u ∧ RelV (.str "abcdefghijklmnopqrstuvwxyz") u
  c_MOST_SIGNS : ∃ u, mg "MOST_SIGNS" = some u ∧ RelV (.int 8) u
  c_MOST_NEEDS : ∃ u, mg "MOST_NEEDS" = some u ∧ RelV (.int 12) u
  c_MOST_TRIES : ∃ u, mg "MOST_TRIES" = some u ∧ RelV (.int 30) u
  c_MOST_WAYS : ∃ u, mg "MOST_WAYS" = some u ∧ RelV (.int 4) u
  c_MOST_TIMES : ∃ u, mg "MOST_TIMES" = some u ∧ RelV (.int 4) u
  c_MOST_CASES : ∃ u, mg "MOST_CASES" = some u ∧ RelV (.int 64) u
  c_WORDS : ∃ u, mg "WORDS" = some u ∧ RelV (.ref (He.ga K "WORDS")) u
  t_WORDS : ∀ H, SqT K H (He.ga K "WORDS") [.str "and", .str "or", .str "not"]
  c_SCOPES : ∃ u, mg "SCOPES" = some u ∧ RelV (.ref (He.ga K "SCOPES")) u
  t_SCOPES : ∀ H, SqT K H (He.ga K "SCOPES") [.str "run", .str "house", .str "group", .str "try"]
  y_SCOPES : ∀ H, tyV K "tuple" (.ref (He.ga K "SCOPES")) H
abbrev FnP (K : PySem.W.Frag) (x qual : Str) (st : Stmt) (f : Addr) (fd : FuncData) : Prop := FunD K x qual (defArgs st) (defBody st) (defScope st) [] [] f fd
end TH
/-! A dict comprehension with two fors. -/
namespace TH
open PySem PySem.Spec PyProof.Rows L2
section
variable {prog : Program} {w : World} {A : Around} {R : Result → Shared → Prop} {s : Shared} {kx vx ta ia tb ib : Expr} {ca cb : List Expr} {sc : Scope} {pos : Pos} {it : Value} {D : Addr} {env : Env}
/-- all of these tests hold -/
abbrev tests (env : Env) (cs : List Expr) : Sem Bool := forIn cs true fun c r => if r = true then do { let ok ← isTrue c env (eval c env); pure (ForInStep.yield ok) } else pure (ForInStep.yield r)
end
section
variable {X : Cx}
end
end TH
/-! t[::-1] of a tuple; readings by cases. -/
namespace TH
open PySem PySem.Spec PyProof.Rows L2 HT
section
variable {prog : Program} {w : World} {A : Around} {E : Value → Shared → Prop} {s : Shared}
end
section
variable {X : Cx}
end
end TH
/-! More readings: a dict of names made by two fors. -/
namespace TH
open PySem PySem.Spec PyProof.Rows L2
variable [TC : TabC]
/-- a dict whose keys are these names -/
def DK (kvs : List (Key × V)) (L : List Str) : Prop := kvs.length ≤ L.length ∧ ∀ k, (valV kvs (.inr k)).isSome = decide (k ∈ L)
theorem DK.put {kvs : List (Key × V)} {L : List Str} (h : DK kvs L) (y : Str) (v : V) : DK (putK kvs (.inr y) v) (L ++ [y]) := by
  refine ⟨?_, fun k => ?_⟩
  · have := length_putK kvs (.inr y) v
    rw [List.length_append, List.length_singleton]
    have := h.1
    omega
  · by_cases e : k = y
    · subst e
      rw [valV_put, if_pos rfl, decide_eq_true (by simp)]
      rfl
    · rw [valV_put, if_neg (fun z => e (Sum.inr.inj z)), h.2 k]
      exact decide_eq_decide.mpr ⟨fun z => List.mem_append_left _ z, fun z => (List.mem_append.mp z).resolve_right fun z => e (List.mem_singleton.mp z)⟩
section
variable {K : PySem.W.Frag} {M : Md} {σ : L2.St} {G H G' H' : Hp}
end
end TH
/-! Lists that may change, looked at and written; draws. -/
namespace TH
open PySem PySem.Spec PyProof.Rows L2
variable [TC : TabC]
section
variable {K : PySem.W.Frag} {M : Md} {σ : L2.St} {G H G' H' : Hp} {ta tb te tc : TE} {t u : TT} {r s : Rl} {v v0 : V} {i j k : Int} {n m : Nat} {rs ss : List Rl} {xs ys : List V} {D : Ends} {tz : TS} {φ ψ : Hp → HO → Prop} {l : Addr}
/-- xs[i] of a list that may change -/
theorem ev_ixM (ha : Ev M ta σ G H (rRef l)) (hl : H l = some (.lst xs)) (hW : l ∉ M.W) (hb : Ev M tb σ G H (rInt i)) (hx : atI xs i = some v) : Ev M (tOp (rIxL K) ta tb) σ G H (rV v) :=
  ev_op ha hb fun G1 H1 x y a p q Q kk => ⟨l, xs, i, v, p, q, .of (a.gr.hh l _ hl hW), hx, kk v G1 H1 a.at.go rfl⟩
theorem ev_lenM (ha : Ev M ta σ G H (rRef l)) (hl : H l = some (.lst xs)) (hW : l ∉ M.W) : Ev M (tCB (fun xs H Q => ∃ p ys, xs = [.ref p] ∧ (SqL K H p ys ∨ SqT K H p ys) ∧ Q (.int ys.length) H) (tCons ta tNil)) σ G H (rInt xs.length) :=
  ev_one ha fun G1 H1 x a p Q q => ⟨l, xs, by rw [show x = .ref l from p], .inl (.of (a.gr.hh l _ hl hW)), q _ G1 H1 a.at.go rfl⟩
/-- xs + ys, a new list; ys is new, too -/
theorem en_catM (ha : Ev M ta σ G H (rRef l)) (hl : H l = some (.lst xs)) (hW : l ∉ M.W) (hb : EvN M tb σ G H (FL (ys.map rV))) (hz : xs.length + ys.length ≤ 100000) : EvN M (tOp rCat ta tb) σ G H (fun _ o => o = .lst (xs ++ ys)) := fun G1 H1 a Q q =>
  ha G1 H1 a _ fun x G2 H2 b px => hb G2 H2 (a.trans b) _ fun d o G3 H3 c n1 n2 n3 fo => by
    have px : x = .ref l := px
    subst px
    obtain ⟨vs, rfl, hv⟩ := fo
    have ev : vs = ys := by
      have : ∀ {ys vs : List V}, Al G3 (ys.map rV) vs → vs = ys := by
        intro ys
        induction ys with
        | nil => intro vs h; cases h; rfl
        | cons y t ih =>
          intro vs h
          cases h with
          | cons p q =>
            have p := (show _ = y from p)
            rw [p, ih q]
      exact this hv
    subst ev
    have h1 := ((a.trans b).trans c).gr.hh l _ hl hW
    refine ⟨l, d, xs, vs, rfl, rfl, h1, n3, Nat.le_trans hz (by decide), fun p hp => ?_⟩
    exact q p (.lst (xs ++ vs)) G3 _ ((b.trans c).trans (c.at.own hp)) ((b.trans c).back hp) (c.at.le.free hp) upd_same rfl
theorem EvN.vals (h : EvN M te σ G H (fun _ o => o = .lst xs)) : Ev M te σ G H (rLst K (xs.map rV)) := EvN.lst (h.imp fun G o e => ⟨xs, e, by
  have : ∀ vs : List V, Al G (vs.map rV) vs := fun vs => by
    induction vs with
    | nil => exact .nil
    | cons v t ih => exact .cons rfl ih
  exact this xs⟩)
theorem ev_max2 (ha : Ev M ta σ G H (rInt i)) (hb : Ev M tb σ G H (rInt j)) : Ev M (tCB (fun xs H Q => ∃ i j, xs = [.int i, .int j] ∧ Q (.int (if j > i then j else i)) H) (tCons ta (tCons tb tNil))) σ G H (rInt (if j > i then j else i)) := fun G1 H1 a Q q =>
  ha G1 H1 a _ fun x G2 H2 b px => hb G2 H2 (a.trans b) _ fun y G3 H3 c py => ⟨i, j, by rw [show x = .int i from px, show y = .int j from py], q _ G3 H3 (b.trans c) rfl⟩
/-- xs[i] = e -/
theorem q_setL {j : Nat} (h : Ev M te σ G H r) (ha : Ev M ta σ G H (rRef l)) (hb : Ev M tb σ G H (rInt i)) (a : At M G H) (hl : H l = some (.lst xs)) (hg : G l = none) (hW : l ∉ M.W) (hj : ixN xs.length i = some j)
    (kk : ∀ v G' H', Go M G H G' H' → r.P G' v → H' l = some (.lst xs) → G' l = none → tz D σ (upd H' l (.lst (xs.set j v)))) : tSeq (tAsg te (gSub ta tb rSetL)) tz D σ H :=
  h G H a.go _ fun v G1 H1 e1 pv => ha G1 H1 e1 _ fun x G2 H2 e2 px => hb G2 H2 (e1.trans e2) _ fun y G3 H3 e3 py => by
    have e := (e1.trans e2).trans e3
    obtain ⟨n1, n2⟩ := e.gr.loc hl hg hW
    exact ⟨l, xs, i, j, px, py, n1, hj, kk v G3 H3 e (r.mono (e2.trans e3).gg pv) n1 n2⟩
end
/-! ### the law's state: a number, the cells, a place -/
def JS (h l : Addr) (H : Hp) : Prop := ∃ (m i : Int) (cells : List Int), H h = some (.lst [.int m, .ref l, .int i]) ∧ H l = some (.lst (cells.map V.int)) ∧ cells.length ≤ 1000
def mdS (h l : Addr) : Md where
  W := [h, l]
  J := JS h l
  st := fun hs ⟨m, i, cells, h1, h2, h3⟩ => ⟨m, i, cells, hs _ (by simp) _ h1 (by exact fun _ z => (nomatch z)), hs _ (by simp) _ h2 (by exact fun _ z => (nomatch z)), h3⟩
  dom := fun ⟨m, i, cells, h1, h2, h3⟩ b hb => by
    rcases List.mem_cons.mp hb with z | z
    · rw [z, h1]; exact fun z => nomatch z
    · rw [List.mem_singleton.mp z, h2]; exact fun z => nomatch z
def sp_next : Sp := fun vs H Q _ => ∃ (h l : Addr) (n : Int) (G : Hp), vs = [.ref h, .int n] ∧ 1 ≤ n ∧ n < 1073741824 ∧ Le G H ∧ G h = none ∧ G l = none ∧ h ≠ l ∧ JS h l H ∧
  ∀ r G' H', 0 ≤ r → r < n → Gr [h, l] G H G' H' → JS h l H' → Q (.int r) H'
section
variable {M : Md} {σ : L2.St} {G H : Hp} {h l : Addr} {n : Int} {t : TA} {E : XK}
end
/-- the state stands apart from what is frozen -/
structure SS (h l : Addr) (G H : Hp) : Prop where
  h0 : G h = none
  l0 : G l = none
  ne : h ≠ l
  js : JS h l H
section
variable {σ : L2.St} {G H G' H' : Hp} {h l : Addr} {n : Int} {t : TA} {E : XK} {ta te : TE} {u : TT} {W : List Addr}
theorem SS.gr (s : SS h l G H) (g : Gr W G H G' H') (j : JS h l H') : SS h l G' H' :=
  ⟨g.gnone ((mdS h l).dom s.js h (by simp [mdS])) s.h0, g.gnone ((mdS h l).dom s.js l (by simp [mdS])) s.l0, s.ne, j⟩
theorem SS.go (s : SS h l G H) (g : Go (mdS h l) G H G' H') : SS h l G' H' := s.gr g.gr g.j
theorem SS.pure (s : SS h l G H) (g : Gr [] G H G' H') : SS h l G' H' := s.go (Go.pure g s.js)
theorem SS.at (s : SS h l G H) (le : Le G H) : At (mdS h l) G H := ⟨le, s.js⟩
end
end TH
/-! isinstance; plain data. -/
namespace TH
open PySem PySem.Spec PyProof.Rows L2
variable [TC : TabC]
theorem Al.rev {G : Hp} {rs : List Rl} {vs : List V} (h : Al G rs vs) : Al G rs.reverse vs.reverse := by
  induction h with
  | nil => exact .nil
  | cons p q ih =>
    rw [List.reverse_cons, List.reverse_cons]
    exact ih.append (.cons p .nil)
section
variable {K : PySem.W.Frag} {M : Md} {σ : L2.St} {G H G' H' : Hp} {ta tb te tc : TE} {r s : Rl} {v v0 : V} {i j k : Int} {rs ss : List Rl}
/-- these values are of a built-in type -/
def TyR (K : PySem.W.Frag) (t : String) (r : Rl) : Prop := ∀ G v, r.P G v → TyX K G v (.type t)
theorem ty_str {x : Str} : TyR K "str" (rStr x) := fun G v p => by cases (show v = .str x from p); exact .base (.str x)
theorem ty_int {x : Int} : TyR K "int" (rInt x) := fun G v p => by cases (show v = .int x from p); exact .base (.int x)
theorem ty_bl {x : Bool} : TyR K "bool" (rBl x) := fun G v p => by cases (show v = .bl x from p); exact .base (.bl x)
theorem ty_non : TyR K "NoneType" rNon := fun G v p => by cases (show v = .non from p); exact .base .non
theorem ty_lst : TyR K "list" (rLst K rs) := fun G v ⟨a, vs, e, h, _⟩ => by
  subst e
  rcases h with h | ⟨o, its, n, h1, h2, h3⟩
  · rcases h with h | ⟨ob, h⟩
    · exact .base (.lst h)
    · exact .base (.frz h)
  · exact .kList h1 h2
theorem ty_tup : TyR K "tuple" (rTup K rs) := fun G v ⟨a, vs, e, h, _⟩ => by
  subst e
  rcases h with h | ⟨o, its, n, h1, h2, h3⟩
  · rcases h with h | ⟨ob, h⟩
    · exact .base (.tup h)
    · exact .fTuple h
  · exact .kTuple h1 h2
theorem tyx_le {t : String} (ht : TyR K t r) (le : Le G H) (p : r.P G v) : TyX K H v (.type t) := ht H v (r.mono le p)
/-- isinstance(x, T) -/
theorem ev_isi {t c : String} {b : Bool} (ha : Ev M ta σ G H r) (ht : TyR K t r) (hb : kitB t c = some b) : Ev M (tCB (rIsi K) (tCons ta (tCons (tC (.ty c)) tNil))) σ G H (rBl b) := fun G1 H1 a Q q =>
  ha G1 H1 a _ fun x G2 H2 e p => ⟨x, .ty c, .type t, .type c, b, rfl, .ty c, tyx_le ht e.at.le p, kit_ty hb, q _ G2 H2 e rfl⟩
/-- isinstance(x, (T1, T2)) -/
theorem ev_isiT {t c d : String} {b1 b2 : Bool} (ha : Ev M ta σ G H r) (ht : TyR K t r) (h1 : kitB t c = some b1) (h2 : kitB t d = some b2) : Ev M (tCB (rIsiT K) (tCons ta (tCons (tTup (tCons (tC (.ty c)) (tCons (tC (.ty d)) tNil))) tNil))) σ G H (rBl (b1 || b2)) := fun G1 H1 a Q q =>
  ha G1 H1 a _ fun x G2 H2 e p => ⟨show 2 ≤ sizeLine by decide, fun T hT => by
    have own := e.at.own (o := .tup [.ty c, .ty d]) hT
    refine ⟨x, T, [.ty c, .ty d], .type t, [.type c, .type d], b1 || b2, rfl, upd_same, .cons (.ty c) (.cons (.ty d) .nil), tyx_le ht own.at.le p, ?_, q _ _ _ (e.trans own) rfl⟩
    refine kitAny_cons (kit_ty h1) (fun z => kitAny_cons (kit_ty h2) (fun z2 => ?_) fun z2 => by simp [z2]) fun z => by simp [z]
    rw [z, z2]
    exact kitAny_nil⟩
/-- x is None -/
theorem ev_isN (ha : Ev M ta σ G H r) {b : Bool} (hb : ∀ G v, r.P G v → decide (v = V.non) = b) : Ev M (tOp (fun x y H Q => y = .non ∧ Q (.bl (decide (x = .non))) H) ta (tC .non)) σ G H (rBl b) :=
  ev_op ha (ev_c (v := .non)) fun G1 H1 x y a p q Q k => ⟨q, by rw [hb G1 x p]; exact k _ G1 H1 a.at.go rfl⟩
theorem nn_ref {t : String} (hn : t ≠ "NoneType") (ht : TyR K t r) : ∀ G v, r.P G v → decide (v = V.non) = false := fun G v p => decide_eq_false fun z => by
  subst z
  have q := ht G _ p
  cases q with
  | base b => cases b; exact hn rfl
/-- t[i] of a list or a tuple -/
theorem ev_ix2 (ha : Ev M ta σ G H (rSeq K rs)) (hb : Ev M tb σ G H (rInt i)) (h : atI rs i = some r) : Ev M (tOp (rIx K) ta tb) σ G H r :=
  ev_op ha hb fun G1 H1 x y a p q Q k => by
    obtain ⟨b, vs, rfl, h2, h3⟩ := p
    have q : y = .int i := q
    subst q
    unfold atI at h
    rw [h3.length] at h
    cases e : ixN vs.length i with
    | none => rw [e] at h; cases h
    | some j =>
      rw [e] at h
      have h : rs[j]? = some r := h
      obtain ⟨v, e1, e2⟩ := h3.get h
      have e3 : atI vs i = some v := by unfold atI; rw [e]; exact e1
      rcases h2 with h2 | h2
      · exact .inl ⟨b, vs, i, v, rfl, rfl, a.at.le.seqL h2, e3, k v G1 H1 a.at.go e2⟩
      · exact .inr (.inl ⟨b, vs, i, v, rfl, rfl, a.at.le.seqT h2, e3, k v G1 H1 a.at.go e2⟩)
/-- a new list, empty, == [] -/
theorem ev_eqNil (ha : EvN M ta σ G H (FL [])) : Ev M (tOp (rEqD K) ta (tLst tNil)) σ G H (rBl true) := fun G1 H1 a Q q =>
  ha G1 H1 a _ fun p o G2 H2 b n1 n2 n3 ⟨vs, e1, e2⟩ => by
    cases e2
    subst e1
    refine ⟨(by decide : 0 ≤ sizeLine), fun d hd => ?_⟩
    have c := b.at.new (o := .lst []) hd
    have h3 : (upd H2 d (.lst [])) p = some (.lst []) := by
      by_cases z : p = d
      · subst z; exact upd_same
      · rw [upd_ne z]; exact n3
    exact ⟨.list [], .list [], .lst (.of h3) .nil, .lst (.of upd_same) .nil, by decide +kernel, by decide +kernel, q _ _ _ (b.trans c) rfl⟩
end
/-! ### more of lists that may change -/
section
variable {K : PySem.W.Frag} {M : Md} {W : List Addr} {σ : L2.St} {G H G' H' : Hp} {ta tb te tc : TE} {r s : Rl} {v v0 : V} {i j k : Int} {rs ss : List Rl} {xs ys : List V} {l : Addr}
theorem EvN.strs {zs : List Str} (h : EvN M te σ G H (FL (zs.map rStr))) : EvN M te σ G H (fun _ o => o = .lst (zs.map V.str)) := h.imp fun G o ⟨vs, e1, e2⟩ => by rw [e1, e2.strs]
/-- a new thing, beside what came later -/
theorem Go.stays (a : Go M G H G' H') (j : M.J H) {p : Addr} {o : HO} (h0 : ∀ b ∈ M.W, b ≠ p) (h1 : H p = some o) (h2 : G p = none) (t : NT o := by exact fun _ z => (nomatch z)) : H' p = some o ∧ G' p = none := a.gr.loc h1 h2 (fun z => h0 p z rfl) t
end
section
variable {K : PySem.W.Frag} {M : Md} {σ : L2.St} {G H : Hp} {ta : TE}
end
/-! ### plain data, by its depth -/
inductive AD (K : PySem.W.Frag) : Nat → Rl → Prop
  | str {n : Nat} (x : Str) : AD K n (rStr x)
  | int {n : Nat} (x : Int) : AD K n (rInt x)
  | bl {n : Nat} (x : Bool) : AD K n (rBl x)
  | non {n : Nat} : AD K n rNon
  | lst {n : Nat} {rs : List Rl} (h : ∀ r ∈ rs, AD K n r) (hl : rs.length ≤ 100000) : AD K (n + 1) (rLst K rs)
  | tup {n : Nat} {rs : List Rl} (h : ∀ r ∈ rs, AD K n r) (hl : rs.length ≤ 100000) : AD K (n + 1) (rTup K rs)
/-- _law_alike: two of the same data -/
def sp_alike (K : PySem.W.Frag) : Nat → Sp
  | 0 => fun _ _ _ _ => False
  | n + 1 => spP (ι := { r : Rl // AD K n r }) (fun _ _ _ => True) (fun r => [r.1, r.1]) (fun _ => rBl true)
end TH
/-! Values of which some things are known; places in lists; slices of tuples; pairs stored at once. -/
namespace TH
open PySem PySem.Spec PyProof.Rows L2
variable [TC : TabC]
section
variable {K : PySem.W.Frag} {M : Md} {W : List Addr} {σ : L2.St} {G H G' H' : Hp} {ta tb te tc : TE} {r s : Rl} {v v0 : V} {i j k n : Int} {rs ss : List Rl} {xs ys : List V} {l : Addr} {D : Ends} {tz : TS} {t : TA}
end
end TH
/-! Lists that were just made, kept as they are; lists of texts compared. -/
namespace TH
open PySem PySem.Spec PyProof.Rows L2
variable [TC : TabC]
/-- a list that stands in the heap as itself -/
def rLsH (rs : List Rl) : Rl := ⟨fun G v => ∃ a vs, v = .ref a ∧ G a = some (.lst vs) ∧ Al G rs vs, fun e ⟨a, vs, h1, h2, h3⟩ => ⟨a, vs, h1, e.at h2 nf_lst (fun z => z), h3.mono e⟩⟩
section
variable {K : PySem.W.Frag} {M : Md} {W : List Addr} {σ : L2.St} {G H G' H' : Hp} {ta tb te tc : TE} {r s : Rl} {v v0 : V} {i j k n : Int} {rs ss : List Rl} {xs ys : List V} {l : Addr} {D : Ends} {tz : TS} {t : TA}
theorem raw_lst (h : (rLsH rs).P G v) : (rLst K rs).P G v := let ⟨a, vs, h1, h2, h3⟩ := h; ⟨a, vs, h1, .of h2, h3⟩
end
end TH
/-! States in which a token is out: what a def promises there, calls. -/
namespace TH
open PySem PySem.Spec PyProof.Rows L2
variable [TC : TabC]
/-- what a def promises where a token is out -/
structure FnT (P : Program) (w : World) (K : PySem.W.Frag) (mg : Str → Option Value) (base : Heap) (CX : CXT) (k : Nat) (f : Addr) (fd : FuncData) (ps : List Str) (sp : Sp) : Prop where
  len : ∀ vs H Q E, sp vs H Q E → vs.length = ps.length
  run : ∀ (A : Around) (outer : List Env) (s : Shared) (H : Hp) (args : Args) (us : List Value) (vs : List V) (Q : VK) (E : XK), 1 ≤ s.toks → Room k A → Env0 P w K mg base A outer s H → BindsTo s fd args (ps.zip us) → Vals vs us → sp vs H Q E →
    codeAny (model P w) A (.call (.ref f) args) (CR CX outer P w H s Q E) s
section
variable {P : Program} {w : World} {K : PySem.W.Frag} {mg : Str → Option Value} {base : Heap} {CX : CXT} {k : Nat} {f : Addr} {fd : FuncData} {ps N : List Str} {sp : Sp} {x qual : Str} {params : Arguments} {body : List Stmt} {scope : Scope} {dvs : List V} {kws : List (Str × V)}
theorem fnT_of (F : FnOk P w K mg base CX k f fd ps sp) : FnT P w K mg base CX k f fd ps sp := ⟨F.len, fun A outer s H args us vs Q E _ hr e b r h => F.run A outer s H args us vs Q E hr e b r h⟩
theorem fnT_byC (F : FunD K x qual params body scope dvs kws f fd) (S : FnScope N ps scope) (len : ∀ vs H Q E, sp vs H Q E → vs.length = ps.length)
    (hbody : ∀ (cdv : Value) (A : Around) (outer : List Env) (s : Shared) (H : Hp) (vs : List V) (Q : VK) (E : XK), fd.code = cdv → Room k (A.deeper (envOfC qual scope s.heap.objs.size f cdv)) → sp vs H Q E →
      ∃ t, PSsT (cxOf CX P w K mg base N qual scope f cdv A outer s H E) body t ∧ t { nx := fun _ H' => Q .non H', rt := Q } (L2.start N vs) H) : FnT P w K mg base CX (k + 1) f fd ps sp := by
  obtain ⟨oc, od, dV, kV, doc, pm, an, cdv, ct, osl, rfl, lk, hcd, _, _⟩ := F.ex
  refine ⟨len, fun A outer s H args us vs Q E h0 hr e0 hb r hsp => ?_⟩
  have hl := len _ _ _ _ hsp
  have KX : K.In s.heap := e0.mod.kin.keeps fun b o e => (e0.bs b o e).1
  have lim : s.heap.NoLimit := e0.mod.nolimit.keeps fun b o e => (e0.bs b o e).1
  have kinds : ∀ y ∈ ps.zip us, scope.names.lookup y.1 = some .local ∨ (scope.names.lookup y.1 = some .cell ∧ ((cellsFrom (s.heap.objs.size + 1) scope.names []).lookup y.1).isSome = true) := fun ⟨n, v⟩ hy => by
    rcases S.par n (List.of_mem_zip hy).1 with q | q
    · exact .inl q
    · exact .inr ⟨q, PySem.W.cellsFrom_some _ _ _ (.inl q)⟩
  refine codeAny_call_function hr.depth (KX _ _ lk) rfl S.co S.gen rfl (PySem.W.codeRec_of KX hcd) (hb _ _ _ _ (wpAny_with_toks (n := 1) h0 ?_))
  refine wpAny_newFunctionEnv_cells S.kind kinds fun env he s1 y hk => ?_
  subst he
  refine ⟨lim.keeps y.toInCall.keep, codeAny_func ?_⟩
  obtain ⟨t, ht, hq⟩ := hbody cdv A outer s H vs Q E rfl (hr.deeper _) hsp
  have I : Inv (cxOf CX P w K mg base N qual scope f cdv A outer s H E) [] (L2.start N vs) H s1 := inv_start S hr.hd e0 hl r y
  refine wpAny_mono (ht [] s1 (L2.start N vs) H _ hk I hq) (fun fl s' hs => ?_) fun e s' hs => hs
  have fin : ∀ {σ' : L2.St} {H' : Hp} {v : V} {u : Value}, Inv (cxOf CX P w K mg base N qual scope f cdv A outer s H E) [] σ' H' s' → RelV v u → Q v H' → CE outer P w H s Q u s' := fun {σ' H' v u} J rv q => ⟨v, H', J.os, J.bare, J.base, J.hok, rv, q⟩
  cases fl with
  | ret u =>
    obtain ⟨v, σ', H', J, rv, q⟩ := hs
    exact fin J rv q
  | next =>
    obtain ⟨σ', H', J, q⟩ := hs
    exact fin (v := V.non) (u := Value.none) J rfl q
  | brk =>
    obtain ⟨_, _, _, q⟩ := hs
    exact q.elim
  | cont =>
    obtain ⟨_, _, _, q⟩ := hs
    exact q.elim
theorem fnT_by (F : FunD K x qual params body scope dvs kws f fd) (S : FnScope N ps scope) (len : ∀ vs H Q E, sp vs H Q E → vs.length = ps.length)
    (hbody : ∀ (cdv : Value) (A : Around) (outer : List Env) (s : Shared) (H : Hp) (vs : List V) (Q : VK) (E : XK), Room k (A.deeper (envOfC qual scope s.heap.objs.size f cdv)) → sp vs H Q E →
      ∃ t, PSsT (cxOf CX P w K mg base N qual scope f cdv A outer s H E) body t ∧ t { nx := fun _ H' => Q .non H', rt := Q } (L2.start N vs) H) : FnT P w K mg base CX (k + 1) f fd ps sp :=
  fnT_byC F S len fun cdv A outer s H vs Q E _ => hbody cdv A outer s H vs Q E
end
section
variable {X : Cx} {CX : CXT} {k : Nat} {f C : Addr} {fd : FuncData} {ps : List Str} {sp : Sp} {dvs : List V} {ds : List Value} {E : XK} {x m : Str} {p pos apos : Pos} {e o : Expr} {es : List Expr} {ta : TE} {t : TA}
theorem PET.of {te : TE} (h : PE X e te) : PET X e te := fun pins s σ H Q _ I q => h.run pins s σ H Q I q
omit TC in
theorem PAT.of (h : PA X es t) : PAT X es t := fun pos pins s σ H Q _ I q => h.run pos pins s σ H Q I q
/-- .. and a token is out behind it, too -/
theorem PET.out {te : TE} (h : PET X e te) (pins : List (Addr × Obj)) (s : Shared) (σ : L2.St) (H : Hp) (Q : VK) (h0 : 1 ≤ s.toks) (I : Inv X pins σ H s) (q : te σ H Q) : wpAny (model X.prog X.w) X.A (eval e X.env) (fun v s' => 1 ≤ s'.toks ∧ EP X pins σ Q v s') X.xe s :=
  wpAny_mono (PySem.wpAny_toks_of h0 (h pins s σ H Q h0 I q)) (fun _ _ z => z) fun _ _ z => z.2
theorem run_fnT {pins : List (Addr × Obj)} {σ : L2.St} {H : Hp} {s : Shared} {Q : VK} {us : List Value} {vs : List V} (F : FnT X.prog X.w X.K X.mg X.base CX k f fd ps sp) (hr : Room k X.A) (hb : Binds X.K fd ps ds) (hd : Vals dvs ds) (hx : Passes CX X E)
    (h0 : 1 ≤ s.toks) (I : Inv X pins σ H s) (r : Vals vs us) (h : sp (vs ++ dvs) H Q E) : wpAny (model X.prog X.w) X.A (call (.ref f) us) (EP X pins σ Q) X.xe s := by
  have r2 : Vals (vs ++ dvs) (us ++ ds) := r.append hd
  have hl : (us ++ ds).length = ps.length := by rw [← r2.length]; exact F.len _ _ _ _ h
  refine wpAny_call (codeAny_mono (F.run X.A X.stack s H ⟨us, []⟩ (us ++ ds) (vs ++ dvs) Q E h0 hr I.env0 (hb s us I.kIn hl) r2 h) fun z s' hq => ?_)
  cases z with
  | error e => exact hx pins σ H s e s' I hq
  | ok fl =>
    cases fl with
    | ret u => exact I.after hq
    | next => exact False.elim hq
    | brk => exact False.elim hq
    | cont => exact False.elim hq
theorem pet_call (F : FnT X.prog X.w X.K X.mg X.base CX k f fd ps sp) (hr : Room k X.A) (hg : Gl X x) (hm : X.mg x = some (.ref f)) (hk : PySem.W.keepIn X.K (.ref f) = true) (hb : Binds X.K fd ps ds) (hd : Vals dvs ds) (hx : Passes CX X E)
    (ha : PAT X (e :: es) t) (hdb : (x == ("__debug__" : Str)) = false := by decide) (he : starEach (e :: es) X.env = (false, eval e X.env) :: starEach es X.env := by rfl) (hpl : (backTo pos (starEach es X.env)).any (·.1) = false := by rfl) :
    PET X (.Call (.Name x p) (e :: es) [] pos) (tCall sp dvs E t) := by
  intro pins s σ H Q h0 I h
  refine wpAny_with_toks (n := 1) h0 (wpAny_Call_Name_kw (ld_glob I hg hm ?_ hdb))
  refine PySem.W.callWith_K (h₀ := X.base) I.ok.mod.kin hk (wpAny_mono (PySem.wpAny_toks_of h0 (ha pos pins s σ H _ h0 I h)) (fun us s1 ⟨hk1, vs, H1, I1, r, q⟩ => ⟨I1.kIn, ?_⟩) fun e s' z => ?_) he hpl
  · exact wpAny_mono (run_fnT F hr hb hd hx hk1 I1 r q) (fun _ _ z _ => z) fun _ _ z _ => z
  · exact fun _ => z.2
end
section
variable {X : Cx} {o : Expr} {to : TE} {apos cpos c0 c1 : Pos} {j0 j1 : Nat} {y z : Str}
/-- x.replace(y, z), both written -/
def tReplace (to : TE) (y z : Str) : TE := fun σ H Q => to σ H fun v H1 => ∃ x, v = .str x ∧ x.length + (x.length + 1) * z.length ≤ 16777216 ∧ Q (.str (Txt.replace x y z)) H1
theorem pet_replace (ho : PET X o to) (hyz : (y == z) = false := by decide) (hst : starEach [.Constant (.str y) j0 c0, .Constant (.str z) j1 c1] X.env = [(false, eval (.Constant (.str y) j0 c0) X.env), (false, eval (.Constant (.str z) j1 c1) X.env)] := by rfl)
    (hbase : attributeBase o "replace" X.env (eval o X.env) = eval o X.env := by rfl) (hline : (apos.endLine == cpos.line) = true := by rfl) : PET X (.Call (.Attribute o "replace" apos) [.Constant (.str y) j0 c0, .Constant (.str z) j1 c1] [] cpos) (tReplace to y z) := by
  intro pins s σ H Q h0 I h
  refine PySem.Call_method2 hbase hst hline (wpAny_mono (PET.out ho pins s σ H _ h0 I h) (fun v s1 ⟨hk1, x', H1, I1, r1, x, e, hb, q⟩ => ?_) fun _ _ z => z)
  subst e
  obtain ⟨tx, rfl⟩ := r1
  refine ⟨"str", _, F.plainAttrs_str, F.slot_str_replace, F.type_str_replace, typeIs_str _ _ _, (fun _ e => nomatch e), Calls.callWith_builtin rfl (Calls.evalArgs_plain (Calls.spliced_cons (Calls.Constant_str (Calls.spliced_cons (Calls.Constant_str (Calls.spliced_nil ?_))))))⟩
  exact PySem.SC.replace (show s1.toks ≠ 0 by omega) (show s1.toks + 1 ≠ 0 by omega) (show s1.toks ≠ s1.toks + 1 by omega) hyz hb fun t' k => ⟨.str (Txt.replace x y z), H1, I1.tok k, ⟨t', rfl⟩, q⟩
theorem pet_bm0 {T name id : String} {r : V → List V → Hp → VK → Prop} (pa : PlainAttrs T) (slot : Slot T name id) (hty : typeOf (.builtin id) = pure (.type "method_descriptor")) (hm : MtR X id r) (ho : PET X o to)
    (hbase : attributeBase o name X.env (eval o X.env) = eval o X.env := by rfl) (hline : (apos.endLine == cpos.line) = true := by rfl) : PET X (.Call (.Attribute o name apos) [] [] cpos) (tBM0 X.K T r to) := by
  intro pins s σ H Q h0 I h
  refine wpAny_Call_method0_late hbase hline (thn (ho pins s σ H _ h0 I h) fun v s1 ⟨x, H1, I1, r1, ty, q1⟩ => ?_)
  obtain ⟨h1, h2⟩ := tyV_is I1 r1 ty
  exact ⟨T, id, pa, slot, hty, h1, h2, Calls.callWith_builtin rfl (PySem.evalArgs_none (hm pins s1 σ H1 x [] v [] Q I1 r1 .nil q1))⟩
end
/-! ### statements -/
section
variable {X : Cx} {e : Expr} {te : TE} {pos : Pos} {st : Stmt} {ts : TS}
theorem psst_one (h : PST X st ts) : PSsT X [st] (tSeq ts tNext) := psst_cons h (PSsT.of pss_nil)
theorem pst_ret (he : PET X e te) : PST X (.Return (some e) pos) (tRet te) := by
  intro pins s σ H D h0 I h
  exact wpAny_Return_some (thn (he pins s σ H _ h0 I h) fun v s1 ⟨x, H1, I1, r1, q1⟩ => ⟨x, σ, H1, I1, r1, q1⟩)
end
section
variable {X : Cx} {CX : CXT} {k : Nat} {f C : Addr} {fd : FuncData} {ps : List Str} {sp : Sp} {dvs : List V} {ds : List Value} {E : XK} {x m : Str} {p pos pos' apos : Pos} {e o c : Expr} {es : List Expr} {ta te : TE} {t : TA} {i : Nat} {tt : TT} {ts tu : TS} {a b : List Stmt} {fl : Str}
theorem psst1 {st : Stmt} (h : PST X st ts) : PSsT X [st] ts := by
  intro pins s σ H D h0 I q
  refine wpAny_execs_cons (thn (h pins s σ H D h0 I q) fun f s1 q => ?_)
  cases f with
  | next => exact wpAny_execs_nil q
  | ret v => exact q
  | brk => exact q
  | cont => exact q
theorem pst_set (hN : X.N.Nodup) (hi : X.N[i]? = some x) (hx : Loc X.env.scope x) (he : PET X e te) (hs : swapsWith e (some (.Name x pos')) pos.line X.env = pure false := by rfl)
    (hf : X.fn x = true ∨ X.env.scope.names.lookup x = some .local := by first | exact .inl rfl | exact .inr rfl | assumption) : PST X (.Assign [.Name x pos'] e pos) (tAsg te (gName i)) := by
  intro pins s σ H D h0 I h
  refine wpAny_Assign_Name (thn (he pins s σ H _ h0 I h) fun v s1 ⟨y, H1, I1, r1, q1⟩ => ?_) hs
  exact store_ok I1 hN hi hx r1 (fun s2 I2 => ⟨_, H1, I2, q1⟩) hf
theorem pst_fld (ha : PE X o ta) (hv : PET X e te) (hs : swapsWith e (some (.Attribute o fl pos')) pos.line X.env = pure false) : PST X (.Assign [.Attribute o fl pos'] e pos) (sFld X.K ta te fl) := by
  intro pins s σ H D h0 I h
  refine plainObj_wpAny_Assign_Attribute (thn (hv pins s σ H _ h0 I h) fun u s1 ⟨y, H1, I1, ry, q⟩ => thn (ha.run pins s1 σ H1 _ I1 q) fun ov s2 ⟨x, H2, I2, rx, a, C, dx, fs, ex, ea, c, n, l, q2⟩ => ?_) hs
  subst ex
  obtain rfl : ov = Value.ref a := rx
  exact setattr_ok I2 ea c n l ry fun s3 I3 => ⟨σ, _, I3, q2⟩
theorem pst_expr (he : PET X e te) (hs : swapsWith e none pos.line X.env = pure false := by rfl) : PST X (.Expr e pos) (tDrop te) := by
  intro pins s σ H D h0 I h
  exact wpAny_Expr_any (thn (he pins s σ H _ h0 I h) fun v s1 ⟨x, H1, I1, r1, q1⟩ => ⟨σ, H1, I1, q1⟩) I.quiet hs
/-- tests -/
def PTT (X : Cx) (c : Expr) (t : TT) : Prop := ∀ (pins : List (Addr × Obj)) (s : Shared) (σ : L2.St) (H : Hp) (Q : Bool → Hp → Prop), 1 ≤ s.toks → Inv X pins σ H s → t σ H Q → wpAny (model X.prog X.w) X.A (isTrue c X.env (eval c X.env)) (TP X pins σ Q) X.xe s
theorem PTT.of (h : PT X c tt) : PTT X c tt := fun pins s σ H Q _ I q => h.run pins s σ H Q I q
theorem pst_if (hc : PTT X c tt) (ha : PSsT X a ts) (hb : PSsT X b tu) : PST X (.If c a b pos) (tIfS tt ts tu) := by
  intro pins s σ H D h0 I h
  refine wpAny_If (wpAny_mono (PySem.wpAny_toks_of h0 (hc pins s σ H _ h0 I h)) (fun d s1 ⟨hk, H1, I1, q1⟩ => ?_) fun _ _ z => z.2)
  cases d with
  | true => exact ha pins s1 σ H1 D hk I1 q1
  | false => exact hb pins s1 σ H1 D hk I1 q1
theorem run_makeT {pins : List (Addr × Obj)} {σ : L2.St} {H : Hp} {s : Shared} {Q : VK} {us : List Value} {vs : List V} (M : Mk X.K C f) (F : FnT X.prog X.w X.K X.mg X.base CX k f fd ps sp) (hr : Room (k + 1) X.A) (hb : Binds X.K fd ps ds) (hd : Vals dvs ds)
    (hx : Passes CX X E) (h0 : 1 ≤ s.toks) (I : Inv X pins σ H s) (r : Vals vs us)
    (h : ∀ x dx, H x = none → H dx = none → dx ≠ x → sp (.ref x :: (vs ++ dvs)) (upd (upd H dx (.own x)) x (.ins C dx [])) (fun v H2 => v = .non ∧ Q (.ref x) H2) E) : wpAny (model X.prog X.w) X.A (call (.ref C) us) (EP X pins σ Q) X.xe s := by
  have hq := h (s.heap.objs.size + 1) s.heap.objs.size (I.hok.fresh (Nat.le_succ _)) (I.hok.fresh (Nat.le_refl _)) (Nat.ne_of_lt (Nat.lt_succ_self _))
  have J := Inv.made (C := C) I
  have r2 : Vals (V.ref (s.heap.objs.size + 1) :: (vs ++ dvs)) (Value.ref (s.heap.objs.size + 1) :: (us ++ ds)) := .cons rfl (r.append hd)
  have hl : (Value.ref (s.heap.objs.size + 1) :: us ++ ds).length = ps.length := by
    have e := r2.length
    rw [F.len _ _ _ _ hq] at e
    exact e.symm
  refine wpAny_call (make_map (f := f) I.kIn M.makes M.init (beq_iff_eq.mp M.fn) (codeAny_mono (F.run _ X.stack _ _ ⟨Value.ref (s.heap.objs.size + 1) :: us, []⟩ (Value.ref (s.heap.objs.size + 1) :: (us ++ ds)) _ _ E h0 (hr.make C us [])
    (J.env0.make C us []) (hb _ (Value.ref (s.heap.objs.size + 1) :: us) J.kIn hl) r2 hq) fun z s' hq' => ?_))
  cases z with
  | error e => exact hx pins σ _ _ e s' J hq'
  | ok g =>
    cases g with
    | ret u =>
      obtain ⟨v, H', I3, rv, ev, q3⟩ := J.after hq'
      subst ev
      exact ⟨rv, ⟨V.ref (s.heap.objs.size + 1), H', I3, rfl, q3⟩⟩
    | next => exact False.elim hq'
    | brk => exact False.elim hq'
    | cont => exact False.elim hq'
theorem pet_make (M : Mk X.K C f) (F : FnT X.prog X.w X.K X.mg X.base CX k f fd ps sp) (hr : Room (k + 1) X.A) (hg : Gl X x) (hm : X.mg x = some (.ref C)) (hb : Binds X.K fd ps ds) (hd : Vals dvs ds) (hx : Passes CX X E)
    (ha : PAT X (e :: es) t) (hdb : (x == ("__debug__" : Str)) = false := by decide) (he : starEach (e :: es) X.env = (false, eval e X.env) :: starEach es X.env := by rfl) (hpl : (backTo pos (starEach es X.env)).any (·.1) = false := by rfl) :
    PET X (.Call (.Name x p) (e :: es) [] pos) (tMake C sp dvs E t) := by
  intro pins s σ H Q h0 I h
  refine wpAny_with_toks (n := 1) h0 (wpAny_Call_Name_kw (ld_glob I hg hm ?_ hdb))
  refine PySem.W.callWith_K (h₀ := X.base) I.ok.mod.kin M.kp (wpAny_mono (PySem.wpAny_toks_of h0 (ha pos pins s σ H _ h0 I h)) (fun us s1 ⟨hk1, vs, H1, I1, r, q⟩ => ⟨I1.kIn, ?_⟩) fun e s' z => ?_) he hpl
  · exact wpAny_mono (run_makeT M F hr hb hd hx hk1 I1 r q) (fun _ _ z _ => z) fun _ _ z _ => z
  · exact fun _ => z.2
theorem pet_meth0 {pl : Sem Bool} (he : PET X o ta) (c : Cls X.K C) (hm : Meth X.K C m f) (F : FnT X.prog X.w X.K X.mg X.base CX k f fd ps sp) (hr : Room k X.A) (hb : Binds X.K fd ps ds) (hd : Vals dvs ds) (hx : Passes CX X E)
    (ht : eval (.Call (.Attribute o m apos) [] [] pos) X.env = (do
      let ov ← eval o X.env
      standAt apos.atName
      let (f, first) ← holding [ov] (getMethod ov m pl)
      callWith pos f first (backTo pos (starEach [] X.env)) (backToKw pos (keywordEach [] X.env))) := by rfl) : PET X (.Call (.Attribute o m apos) [] [] pos) (tMeth C m sp dvs E ta tNil) := by
  intro pins s σ H Q h0 I h
  refine wpAny_with_toks (n := 1) h0 (PySem.W.methodCall_KW (pl := pl) (wpAny_mono (PySem.wpAny_toks_of h0 (he pins s σ H _ h0 I h)) (fun u s1 ⟨hk1, x, H1, I1, rx, a, dx, fs, ex, ea, l, q⟩ => ?_) fun e s' z => fun _ => z.2) ht)
  subst ex
  obtain rfl : u = Value.ref a := rx
  refine getmeth_ok I1 ea c hm l ?_
  exact wpAny_mono (PySem.W.callWith_K0 (first := [.ref a]) I1.kIn hm.kp (run_fnT (us := [.ref a]) (vs := [.ref a]) F hr hb hd hx hk1 I1 (.cons rfl .nil) q)) (fun _ _ z _ => z) fun _ _ z _ => z
end
end TH
/-! Plain values, things that change (a tree each), and how a heap holds them. -/
namespace TH
open PySem PySem.Spec PyProof.Rows L2
variable [TC : TabC]

/-- a value that never changes -/
inductive PV where
  | v (x : V)
  | tup (xs : List PV)
  | lst (xs : List PV)
  | dct (kvs : List (Key × PV))
  | ins (C : Addr) (fs : List (Str × PV))
  | rel (r : Rl)
abbrev PV.int (i : Int) : PV := .v (.int i)
abbrev PV.str (x : Str) : PV := .v (.str x)
abbrev PV.bl (b : Bool) : PV := .v (.bl b)
abbrev PV.non : PV := .v .non
def rPV (K : PySem.W.Frag) : PV → Rl
  | .v x => rV x
  | .tup xs => rTup K (rPVs xs)
  | .lst xs => rLsH (rPVs xs)
  | .dct kvs => rDct (rKvs kvs)
  | .ins C fs => rIns C (rFs fs)
  | .rel r => r
where
  rPVs : List PV → List Rl
    | [] => []
    | p :: t => rPV K p :: rPVs t
  rKvs : List (Key × PV) → List (Key × Rl)
    | [] => []
    | (k, p) :: t => (k, rPV K p) :: rKvs t
  rFs : List (Str × PV) → List (Str × Rl)
    | [] => []
    | (k, p) :: t => (k, rPV K p) :: rFs t
abbrev rPs (K : PySem.W.Frag) (xs : List PV) : List Rl := rPV.rPVs K xs
theorem rPs_map (K : PySem.W.Frag) : ∀ xs : List PV, rPs K xs = xs.map (rPV K)
  | [] => rfl
  | p :: t => congrArg (rPV K p :: ·) (rPs_map K t)
theorem rFs_map (K : PySem.W.Frag) : ∀ xs : List (Str × PV), rPV.rFs K xs = xs.map fun kv => (kv.1, rPV K kv.2)
  | [] => rfl
  | (k, p) :: t => congrArg ((k, rPV K p) :: ·) (rFs_map K t)
theorem rPs_len (K : PySem.W.Frag) (xs : List PV) : (rPs K xs).length = xs.length := by rw [rPs_map, List.length_map]
theorem rPs_app (K : PySem.W.Frag) (xs ys : List PV) : rPs K (xs ++ ys) = rPs K xs ++ rPs K ys := by rw [rPs_map, rPs_map, rPs_map, List.map_append]

/-- some thing that changes, known by a relation of its own -/
structure Res where
  P : PySem.W.Frag → Hp → Hp → V → List Addr → Prop
  frame : ∀ {K : PySem.W.Frag} {G H G' H' : Hp} {v : V} {fp : List Addr}, P K G H v fp → Le G G' → (∀ b ∈ fp, H' b = H b) → P K G' H' v fp
  there : ∀ {K : PySem.W.Frag} {G H : Hp} {v : V} {fp : List Addr}, P K G H v fp → ∀ b ∈ fp, ∃ o, H b = some o ∧ NX o
  /-- frozen: what is known of it then -/
  fz : Option Rl := none
  fzOk : ∀ {K : PySem.W.Frag} {G H : Hp} {v : V} {fp : List Addr} {r : Rl}, fz = some r → P K G H v fp → ∀ ps : List Addr, (∀ b ∈ fp, b ∈ ps) → Le G H → r.P (frzH ps G H) v := by
    intro K G H v fp r e
    cases e
/-- a thing that changes -/
inductive AO where
  | pv (p : PV)
  | lst (xs : List PV)
  | dK (kvs : List (Key × PV))
  | ins (C : Addr) (fs : List (Str × AO))
  | res (r : Res)
def aoR (K : PySem.W.Frag) (G H : Hp) : AO → V → List Addr → Prop
  | .pv p, v, fp => fp = [] ∧ (rPV K p).P G v
  | .lst xs, v, fp => ∃ a vs, v = .ref a ∧ fp = [a] ∧ H a = some (.lst vs) ∧ Al G (rPs K xs) vs
  | .dK kvs, v, fp => ∃ a vs, v = .ref a ∧ fp = [a] ∧ H a = some (.dK vs) ∧ DAl G (rPV.rKvs K kvs) vs
  | .ins C fs, v, fp => ∃ a dx vs fq, v = .ref a ∧ fp = a :: fq ∧ H a = some (.ins C dx vs) ∧ foR fs vs fq
  | .res r, v, fp => r.P K G H v fp
where
  foR : List (Str × AO) → List (Str × V) → List Addr → Prop
    | [], vs, fq => vs = [] ∧ fq = []
    | (f, o) :: t, vs, fq => ∃ v r f1 f2, vs = (f, v) :: r ∧ fq = f1 ++ f2 ∧ aoR K G H o v f1 ∧ foR t r f2
abbrev foR (K : PySem.W.Frag) (G H : Hp) : List (Str × AO) → List (Str × V) → List Addr → Prop := aoR.foR K G H
section
variable {K : PySem.W.Frag} {G H G' H' : Hp}
mutual
theorem aoR_frame : ∀ {o : AO} {v : V} {fp : List Addr}, aoR K G H o v fp → Le G G' → (∀ b ∈ fp, H' b = H b) → aoR K G' H' o v fp
  | .pv p, v, fp, ⟨h1, h2⟩, le, _ => ⟨h1, (rPV K p).mono le h2⟩
  | .lst xs, v, fp, ⟨a, vs, h1, h2, h3, h4⟩, le, e => ⟨a, vs, h1, h2, by rw [e a (by rw [h2]; exact List.mem_cons_self)]; exact h3, h4.mono le⟩
  | .dK kvs, v, fp, ⟨a, vs, h1, h2, h3, h4⟩, le, e => ⟨a, vs, h1, h2, by rw [e a (by rw [h2]; exact List.mem_cons_self)]; exact h3, h4.mono le⟩
  | .ins C fs, v, fp, ⟨a, dx, vs, fq, h1, h2, h3, h4⟩, le, e => ⟨a, dx, vs, fq, h1, h2, by rw [e a (by rw [h2]; exact List.mem_cons_self)]; exact h3, foR_frame h4 le fun b hb => e b (by rw [h2]; exact List.mem_cons_of_mem _ hb)⟩
  | .res r, v, fp, h, le, e => r.frame h le e
theorem foR_frame : ∀ {fs : List (Str × AO)} {vs : List (Str × V)} {fq : List Addr}, foR K G H fs vs fq → Le G G' → (∀ b ∈ fq, H' b = H b) → foR K G' H' fs vs fq
  | [], vs, fq, h, _, _ => h
  | (f, o) :: t, vs, fq, ⟨v, r, f1, f2, h1, h2, h3, h4⟩, le, e => ⟨v, r, f1, f2, h1, h2, aoR_frame h3 le fun b hb => e b (by rw [h2]; exact List.mem_append_left _ hb), foR_frame h4 le fun b hb => e b (by rw [h2]; exact List.mem_append_right _ hb)⟩
end
mutual
theorem aoR_nx : ∀ {o : AO} {v : V} {fp : List Addr}, aoR K G H o v fp → ∀ b ∈ fp, ∃ o, H b = some o ∧ NX o
  | .pv p, v, fp, ⟨h1, h2⟩, b, hb => by rw [h1] at hb; cases hb
  | .lst xs, v, fp, ⟨a, vs, h1, h2, h3, h4⟩, b, hb => by rw [h2] at hb; rw [List.mem_singleton.mp hb]; exact ⟨_, h3, by exact ⟨fun _ z => (nomatch z), fun _ z => (nomatch z)⟩⟩
  | .dK kvs, v, fp, ⟨a, vs, h1, h2, h3, h4⟩, b, hb => by rw [h2] at hb; rw [List.mem_singleton.mp hb]; exact ⟨_, h3, by exact ⟨fun _ z => (nomatch z), fun _ z => (nomatch z)⟩⟩
  | .ins C fs, v, fp, ⟨a, dx, vs, fq, h1, h2, h3, h4⟩, b, hb => by
    rw [h2] at hb
    rcases List.mem_cons.mp hb with z | z
    · rw [z]; exact ⟨_, h3, by exact ⟨fun _ z => (nomatch z), fun _ z => (nomatch z)⟩⟩
    · exact foR_nx h4 b z
  | .res r, v, fp, h, b, hb => r.there h b hb
theorem foR_nx : ∀ {fs : List (Str × AO)} {vs : List (Str × V)} {fq : List Addr}, foR K G H fs vs fq → ∀ b ∈ fq, ∃ o, H b = some o ∧ NX o
  | [], vs, fq, h, b, hb => by rw [h.2] at hb; cases hb
  | (f, o) :: t, vs, fq, ⟨v, r, f1, f2, h1, h2, h3, h4⟩, b, hb => by
    rw [h2] at hb
    rcases List.mem_append.mp hb with z | z
    · exact aoR_nx h3 b z
    · exact foR_nx h4 b z
end
theorem aoR_there {o : AO} {v : V} {fp : List Addr} (h : aoR K G H o v fp) (b : Addr) (hb : b ∈ fp) : H b ≠ none := by
  obtain ⟨o, e, _⟩ := aoR_nx h b hb
  rw [e]
  exact fun z => nomatch z
end
end TH
/-! Places within things that change; states. -/
namespace TH
open PySem PySem.Spec PyProof.Rows L2
variable [TC : TabC]

abbrev Sto := List AO
/-- a value, or a place: the thing n, and within it by fields -/
inductive AV where
  | pv (p : PV)
  | loc (n : Nat) (p : List Str)
abbrev Sg := List (Option AV)
/-- a part by its fields -/
def aoSub : List Str → AO → Option AO
  | [], o => some o
  | f :: p, .ins _ fs => (fs.lookup f).bind (aoSub p)
  | _ :: _, _ => none
def foPut (f : Str) (g : AO → AO) : List (Str × AO) → List (Str × AO)
  | [] => []
  | (x, o) :: t => if f == x then (x, g o) :: t else (x, o) :: foPut f g t
/-- another part there -/
def aoPut (u : AO) : List Str → AO → AO
  | [], _ => u
  | f :: p, .ins C fs => .ins C (foPut f (aoPut u p) fs)
  | _ :: _, o => o
def aoAt (A : Sto) (n : Nat) (p : List Str) : Option AO := (A[n]?).bind (aoSub p)
def aoSet (A : Sto) (n : Nat) (p : List Str) (u : AO) : Sto := match A[n]? with
  | some o => A.set n (aoPut u p o)
  | none => A
/-- where a part lies -/
def adr (H : Hp) : V → List Str → V → Prop
  | r, [], v => v = r
  | r, f :: p, v => ∃ a C dx fs w, r = .ref a ∧ H a = some (.ins C dx fs) ∧ fs.lookup f = some w ∧ adr H w p v
section
variable {K : PySem.W.Frag} {G H G' H' : Hp}
theorem foR_get {f : Str} : ∀ {fs : List (Str × AO)} {vs : List (Str × V)} {fq : List Addr} {o : AO}, foR K G H fs vs fq → fs.lookup f = some o →
    ∃ v pre fp post, vs.lookup f = some v ∧ fq = pre ++ (fp ++ post) ∧ aoR K G H o v fp ∧
      ∀ {G' H' : Hp} {g : AO → AO} {fp' : List Addr}, Le G G' → (∀ b ∈ pre ++ post, H' b = H b) → aoR K G' H' (g o) v fp' → foR K G' H' (foPut f g fs) vs (pre ++ (fp' ++ post))
  | [], vs, fq, o, h, e => by cases e
  | (x, u) :: t, vs, fq, o, ⟨v, r, f1, f2, h1, h2, h3, h4⟩, e => by
    subst h1 h2
    rw [List.lookup_cons] at e
    cases c : f == x with
    | true =>
      rw [c] at e
      cases e
      refine ⟨v, [], f1, f2, by rw [List.lookup_cons, c], rfl, h3, fun {G' H' g fp'} le k q => ?_⟩
      unfold foPut
      rw [c]
      exact ⟨v, r, fp', f2, rfl, rfl, q, foR_frame h4 le fun b hb => k b (by simpa using hb)⟩
    | false =>
      rw [c] at e
      obtain ⟨w, pre, fp, post, q1, q2, q3, q4⟩ := foR_get h4 e
      subst q2
      refine ⟨w, f1 ++ pre, fp, post, by rw [List.lookup_cons, c]; exact q1, by rw [List.append_assoc], q3, fun {G' H' g fp'} le k q => ?_⟩
      unfold foPut
      rw [c]
      refine ⟨v, r, f1, pre ++ (fp' ++ post), rfl, by rw [List.append_assoc], aoR_frame h3 le fun b hb => k b (by simp [hb]), q4 le (fun b hb => k b ?_) q⟩
      rcases List.mem_append.mp hb with z | z
      · simp [z]
      · simp [z]
/-- a part, and what holds when it alone changes -/
theorem aoR_sub : ∀ {p : List Str} {r v : V} {o u : AO} {fr : List Addr}, aoR K G H o r fr → adr H r p v → aoSub p o = some u →
    ∃ pre fp post, fr = pre ++ (fp ++ post) ∧ aoR K G H u v fp ∧ ∀ {G' H' : Hp} {u' : AO} {fp' : List Addr}, Le G G' → (∀ b ∈ pre ++ post, H' b = H b) → aoR K G' H' u' v fp' → aoR K G' H' (aoPut u' p o) r (pre ++ (fp' ++ post))
  | [], r, v, o, u, fr, h, e, s => by
    cases s
    have e : v = r := e
    subst e
    exact ⟨[], fr, [], by simp, h, fun {G' H' u' fp'} le k q => by simpa [aoPut] using q⟩
  | f :: p, r, v, .ins C fs, u, fr, ⟨a, dx, vs, fq, h1, h2, h3, h4⟩, ⟨a', C', dx', fs', w, e1, e2, e3, e4⟩, s => by
    subst h1 h2
    cases e1
    rw [h3] at e2
    cases e2
    have s : (fs.lookup f).bind (aoSub p) = some u := s
    obtain ⟨o1, s1, s2⟩ := Option.bind_eq_some_iff.mp s
    obtain ⟨w', pre, fp, post, q1, q2, q3, q4⟩ := foR_get h4 s1
    rw [q1] at e3
    cases e3
    obtain ⟨pre', fp', post', z1, z2, z3⟩ := aoR_sub q3 e4 s2
    subst q2 z1
    refine ⟨a :: (pre ++ pre'), fp', post' ++ post, by simp, z2, fun {G' H' u' fu} le k q => ?_⟩
    have y := q4 (g := aoPut u' p) le (fun b hb => k b (by rcases List.mem_append.mp hb with z | z <;> simp [z])) (z3 le (fun b hb => k b (by rcases List.mem_append.mp hb with z | z <;> simp [z])) q)
    refine ⟨a, dx, vs, pre ++ ((pre' ++ (fu ++ post')) ++ post), rfl, by simp, by rw [k a (by simp)]; exact h3, y⟩
  | f :: p, r, v, .pv _, u, fr, h, e, s => by cases s
  | f :: p, r, v, .lst _, u, fr, h, e, s => by cases s
  | f :: p, r, v, .dK _, u, fr, h, e, s => by cases s
  | f :: p, r, v, .res _, u, fr, h, e, s => by cases s
theorem adr_mono : ∀ {p : List Str} {r v : V}, adr H r p v → (∀ b o, H b = some o → NT o → H' b = some o) → adr H' r p v
  | [], r, v, h, _ => h
  | f :: p, r, v, ⟨a, C, dx, fs, w, e1, e2, e3, e4⟩, k => ⟨a, C, dx, fs, w, e1, k _ _ e2 (by exact fun _ z => (nomatch z)), e3, adr_mono e4 k⟩
end

/-! ### states -/
/-- where a def began: the heaps, what may change, its things -/
structure Bs where
  G : Hp
  H : Hp
  ι : List V
  φ : Nat → List Addr
def Bs.W (B : Bs) : List Addr := (List.range B.ι.length).flatMap B.φ
theorem Bs.inW {B : Bs} {n : Nat} {b : Addr} (h : n < B.ι.length) (hb : b ∈ B.φ n) : b ∈ B.W := List.mem_flatMap.mpr ⟨n, List.mem_range.mpr h, hb⟩
structure Cs where
  ι : List V
  φ : Nat → List Addr
  A : Sto
  G : Hp
  H : Hp
structure Rep (K : PySem.W.Frag) (B : Bs) (s : Cs) : Prop where
  len : s.ι.length = s.A.length
  at' : ∀ n o, s.A[n]? = some o → ∃ v, s.ι[n]? = some v ∧ aoR K s.G s.H o v (s.φ n)
  nd : ∀ n, n < s.A.length → (s.φ n).Nodup
  dj : ∀ m n, m < s.A.length → n < s.A.length → m ≠ n → ∀ b ∈ s.φ m, b ∉ s.φ n
  out : ∀ n, n < s.A.length → ∀ b ∈ s.φ n, s.G b = none
  fr : ∀ n, n < s.A.length → ∀ b ∈ s.φ n, (n < B.ι.length ∧ b ∈ B.φ n) ∨ B.H b = none
  gr : Gr B.W B.G B.H s.G s.H
  pre : B.ι <+: s.ι
  tabs : ∀ P ∈ TC.T, TabG s.G s.H P
def avR (K : PySem.W.Frag) (s : Cs) : AV → V → Prop
  | .pv p, v => (rPV K p).P s.G v
  | .loc n p, v => ∃ r, s.ι[n]? = some r ∧ adr s.H r p v
/-- what a name may hold -/
def avS (K : PySem.W.Frag) (s : Cs) : AV → V → Prop
  | .pv p, v => (rPV K p).P s.G v
  | .loc n [], v => s.ι[n]? = some v
  | .loc _ (_ :: _), _ => False
structure SgR (K : PySem.W.Frag) (s : Cs) (sa : Sg) (σ : L2.St) : Prop where
  len : sa.length = σ.length
  at' : ∀ (i : Nat) (a : AV), sa[i]? = some (some a) → ∃ v : V, σ[i]? = some (some v) ∧ avS K s a v
/-- from state to state; pure: nothing that changes has changed -/
structure Stp (K : PySem.W.Frag) (B : Bs) (m : Bool) (s s' : Cs) : Prop where
  le : Le s.G s'.G
  pre : s.ι <+: s'.ι
  dm : ∀ b, s.H b ≠ none → s'.H b ≠ none
  pure : m = true → s'.ι = s.ι ∧ s'.A = s.A ∧ s'.φ = s.φ ∧ Gr [] s.G s.H s'.G s'.H
  rep : Rep K B s'
section
variable {K : PySem.W.Frag} {B : Bs} {m : Bool} {s s' s'' : Cs} {sa : Sg} {σ : L2.St}
theorem Rep.le (r : Rep K B s) : Le s.G s.H := r.gr.gh
theorem Stp.refl (r : Rep K B s) : Stp K B m s s := ⟨Le.refl _, List.prefix_refl _, fun _ z => z, fun _ => ⟨rfl, rfl, rfl, .refl r.le⟩, r⟩
theorem Stp.trans (a : Stp K B m s s') (b : Stp K B m s' s'') : Stp K B m s s'' where
  le := a.le.trans b.le
  pre := a.pre.trans b.pre
  dm := fun c e => b.dm c (a.dm c e)
  pure := fun e => by
    obtain ⟨a1, a2, a3, a4⟩ := a.pure e
    obtain ⟨b1, b2, b3, b4⟩ := b.pure e
    exact ⟨b1.trans a1, b2.trans a2, b3.trans a3, a4.trans b4⟩
  rep := b.rep
theorem Stp.weak (a : Stp K B true s s') : Stp K B m s s' := ⟨a.le, a.pre, a.dm, fun _ => a.pure rfl, a.rep⟩
theorem Stp.off (a : Stp K B m s s') : Stp K B false s s' := ⟨a.le, a.pre, a.dm, fun z => (nomatch z), a.rep⟩
theorem Rep.nx (r : Rep K B s) {n : Nat} (hn : n < s.A.length) : ∀ b ∈ s.φ n, ∃ o, s.H b = some o ∧ NX o := fun b hb => by
  obtain ⟨v, _, h⟩ := r.at' n s.A[n] (by simp [hn])
  exact aoR_nx h b hb
theorem Rep.there (r : Rep K B s) {n : Nat} (hn : n < s.A.length) : ∀ b ∈ s.φ n, s.H b ≠ none := fun b hb => by
  obtain ⟨v, _, h⟩ := r.at' n s.A[n] (by simp [hn])
  exact aoR_there h b hb
/-- the frozen grows, new things come -/
theorem Rep.pure {G' H' : Hp} (r : Rep K B s) (g : Gr [] s.G s.H G' H') : Rep K B { s with G := G', H := H' } where
  len := r.len
  at' := fun n o e => by
    obtain ⟨v, h1, h2⟩ := r.at' n o e
    have hn : n < s.A.length := (List.getElem?_eq_some_iff.mp e).1
    refine ⟨v, h1, aoR_frame h2 g.gg fun b hb => ?_⟩
    obtain ⟨o, c, n⟩ := r.nx hn b hb
    rw [c]
    exact g.hhN b o c (fun z => nomatch z) n.1
  nd := r.nd
  dj := r.dj
  out := fun n hn b hb => g.gnone (r.there hn b hb) (r.out n hn b hb)
  fr := r.fr
  gr := r.gr.trans g.nil
  pre := r.pre
  tabs := fun P hP => g.tb P hP (fun z => nomatch z) (r.tabs P hP)
theorem Stp.of {G' H' : Hp} (r : Rep K B s) (g : Gr [] s.G s.H G' H') : Stp K B m s { s with G := G', H := H' } := ⟨g.gg, List.prefix_refl _, g.dm, fun _ => ⟨rfl, rfl, rfl, g⟩, r.pure g⟩
theorem pre_get {α : Type} {l l' : List α} (h : l <+: l') {n : Nat} {x : α} (e : l[n]? = some x) : l'[n]? = some x := by
  obtain ⟨t, rfl⟩ := h
  rw [List.getElem?_append_left (List.getElem?_eq_some_iff.mp e).1]
  exact e
theorem avS.r {a : AV} {v : V} (h : avS K s a v) : avR K s a v := by
  match a, h with
  | .pv p, h => exact h
  | .loc n [], h => exact ⟨v, h, rfl⟩
theorem avS.stp {a : AV} {v : V} (h : avS K s a v) (e : Stp K B m s s') : avS K s' a v := by
  match a, h with
  | .pv p, h => exact (rPV K p).mono e.le h
  | .loc n [], h => exact pre_get e.pre h
theorem avS.stp' {a : AV} {v : V} (h : avS K s a v) (le : Le s.G s'.G) (pre : s.ι <+: s'.ι) : avS K s' a v := by
  match a, h with
  | .pv p, h => exact (rPV K p).mono le h
  | .loc n [], h => exact pre_get pre h
theorem avR.stp {a : AV} {v : V} (h : avR K s a v) (e : Stp K B true s s') : avR K s' a v := by
  match a, h with
  | .pv p, h => exact (rPV K p).mono e.le h
  | .loc n p, ⟨r, h1, h2⟩ =>
    obtain ⟨e1, _, _, g⟩ := e.pure rfl
    exact ⟨r, pre_get e.pre h1, adr_mono h2 fun b o q t => g.hhN b o q (fun z => nomatch z) t⟩
def AV.stable : AV → Bool
  | .loc _ (_ :: _) => false
  | _ => true
theorem avR.toS {a : AV} {v : V} (h : avR K s a v) (e : a.stable = true) : avS K s a v := by
  match a, h with
  | .pv p, h => exact h
  | .loc n [], ⟨r, h1, h2⟩ =>
    have h2 : v = r := h2
    rw [h2]; exact h1
theorem SgR.stp (h : SgR K s sa σ) (e : Stp K B m s s') : SgR K s' sa σ := ⟨h.len, fun i a q => let ⟨v, h1, h2⟩ := h.at' i a q; ⟨v, h1, h2.stp e⟩⟩
theorem SgR.set {a : AV} {v : V} (h : SgR K s sa σ) (i : Nat) (ha : avS K s a v) : SgR K s (sa.set i (some a)) (σ.set i (some v)) := by
  refine ⟨by simp [h.len], fun j b q => ?_⟩
  rw [List.getElem?_set] at q ⊢
  by_cases c : i = j
  · rw [if_pos c] at q ⊢
    subst c
    by_cases d : i < sa.length
    · rw [if_pos d] at q
      rw [if_pos (by rw [← h.len]; exact d)]
      cases q
      exact ⟨v, rfl, ha⟩
    · rw [if_neg d] at q; cases q
  · rw [if_neg c] at q ⊢
    exact h.at' j b q
theorem SgR.wipe1 (h : SgR K s sa σ) (i : Nat) : SgR K s (sa.set i none) (σ.set i none) := by
  refine ⟨by simp [h.len], fun j b q => ?_⟩
  rw [List.getElem?_set] at q ⊢
  by_cases c : i = j
  · rw [if_pos c] at q
    subst c
    by_cases d : i < sa.length
    · rw [if_pos d] at q; cases q
    · rw [if_neg d] at q; cases q
  · rw [if_neg c] at q ⊢
    exact h.at' j b q
/-- what is at a place -/
theorem Rep.sub (r : Rep K B s) {n : Nat} {p : List Str} {v : V} {u : AO} (h : avR K s (.loc n p) v) (e : aoAt s.A n p = some u) : ∃ fp, aoR K s.G s.H u v fp ∧ (∀ b ∈ fp, b ∈ s.φ n) ∧ n < s.A.length := by
  obtain ⟨o, e1, e2⟩ := Option.bind_eq_some_iff.mp e
  obtain ⟨w, h1, h2⟩ := r.at' n o e1
  obtain ⟨r', q1, q2⟩ := h
  rw [h1] at q1
  cases q1
  obtain ⟨pre, fp, post, z1, z2, _⟩ := aoR_sub h2 q2 e2
  exact ⟨fp, z2, fun b hb => by rw [z1]; simp [hb], (List.getElem?_eq_some_iff.mp e1).1⟩
/-- the thing at a place, opened: it may change -/
theorem Rep.opnX (r : Rep K B s) {n : Nat} {p : List Str} {v : V} {u : AO} (h : avR K s (.loc n p) v) (e : aoAt s.A n p = some u) :
    ∃ fp, aoR K s.G s.H u v fp ∧ fp.Nodup ∧ (∀ b ∈ fp, b ∈ s.φ n) ∧ (∀ b ∈ fp, s.G b = none) ∧ n < s.A.length ∧
      ∀ {u' : AO} {G' H' : Hp} {fp' : List Addr}, aoR K G' H' u' v fp' → fp'.Nodup → (∀ b ∈ fp', b ∈ fp ∨ s.H b = none) → (∀ b ∈ fp', G' b = none) → Gr fp s.G s.H G' H' →
        ∃ φ', Rep K B { s with φ := φ', A := aoSet s.A n p u', G := G', H := H' } ∧ Le s.G G' ∧ ∀ i b, b ∈ φ' i → b ∈ fp' ∨ b ∈ s.φ i := by
  obtain ⟨o, e1, e2⟩ := Option.bind_eq_some_iff.mp e
  obtain ⟨w, h1, h2⟩ := r.at' n o e1
  obtain ⟨r', q1, q2⟩ := h
  rw [h1] at q1
  cases q1
  obtain ⟨pre, fp, post, z1, z2, z3⟩ := aoR_sub h2 q2 e2
  have hn : n < s.A.length := (List.getElem?_eq_some_iff.mp e1).1
  have nd := r.nd n hn
  rw [z1] at nd
  refine ⟨fp, z2, (List.nodup_append.mp (List.nodup_append.mp nd).2.1).1, fun b hb => by rw [z1]; simp [hb], fun b hb => r.out n hn b (by rw [z1]; simp [hb]), hn, fun {u' G' H' fp'} k1 k2 k3 k4 k5 => ?_⟩
  have hs : aoSet s.A n p u' = s.A.set n (aoPut u' p o) := by unfold aoSet; rw [e1]
  have away : ∀ b, b ∉ fp → (∃ o, s.H b = some o ∧ NX o) → H' b = s.H b := fun b hb ⟨o, c, q⟩ => by
    rw [c]
    exact k5.hhN b o c hb q.1
  have gn : ∀ b, s.H b ≠ none → s.G b = none → G' b = none := fun b h1 h2 => k5.gnone h1 h2
  have pp : ∀ b ∈ pre ++ post, b ∉ fp := fun b hb hf => by
    rw [List.nodup_append] at nd
    obtain ⟨n1, n2, n3⟩ := nd
    rw [List.nodup_append] at n2
    rcases List.mem_append.mp hb with z | z
    · exact n3 b z b (List.mem_append_left _ hf) rfl
    · exact n2.2.2 b hf b z rfl
  have thx : ∀ b ∈ pre ++ post, ∃ o, s.H b = some o ∧ NX o := fun b hb => r.nx hn b (by rw [z1]; rcases List.mem_append.mp hb with z | z <;> simp [z])
  have thr : ∀ b ∈ pre ++ post, s.H b ≠ none := fun b hb => r.there hn b (by rw [z1]; rcases List.mem_append.mp hb with z | z <;> simp [z])
  have mem' : ∀ b, b ∈ pre ++ (fp' ++ post) → b ∈ s.φ n ∨ s.H b = none := fun b hb => by
    rcases List.mem_append.mp hb with z | z
    · exact .inl (by rw [z1]; simp [z])
    · rcases List.mem_append.mp z with z | z
      · rcases k3 b z with q | q
        · exact .inl (by rw [z1]; simp [q])
        · exact .inr q
      · exact .inl (by rw [z1]; simp [z])
  refine ⟨fun i => if i = n then pre ++ (fp' ++ post) else s.φ i, ⟨?_, fun i u e => ?_, fun i hi => ?_, fun i j hi hj ne b hb hb' => ?_, fun i hi b hb => ?_, fun i hi b hb => ?_, r.gr.over k5 fun b hb => (r.fr n hn b (by rw [z1]; simp [hb])).imp (fun z => Bs.inW z.1 z.2) id, r.pre, fun P hP => k5.tb P hP (fun z => ?_) (r.tabs P hP)⟩, k5.gg, fun i b hb => ?_⟩
  · show s.ι.length = (aoSet s.A n p u').length
    rw [hs, List.length_set]; exact r.len
  · have e : (aoSet s.A n p u')[i]? = some u := e
    rw [hs, List.getElem?_set] at e
    by_cases c : i = n
    · subst c
      rw [if_pos rfl, if_pos hn] at e
      cases e
      refine ⟨w, h1, ?_⟩
      show aoR K G' H' _ w (if i = i then _ else _)
      rw [if_pos rfl]
      exact z3 k5.gg (fun b hb => away b (pp b hb) (thx b hb)) k1
    · rw [if_neg (Ne.symm c)] at e
      obtain ⟨x, y1, y2⟩ := r.at' i u e
      refine ⟨x, y1, ?_⟩
      show aoR K G' H' u x (if i = n then _ else _)
      rw [if_neg c]
      have hi : i < s.A.length := (List.getElem?_eq_some_iff.mp e).1
      exact aoR_frame y2 k5.gg fun b hb => away b (fun z => r.dj i n hi hn c b hb (by rw [z1]; simp [z])) (r.nx hi b hb)
  · have hi : i < (aoSet s.A n p u').length := hi
    rw [hs, List.length_set] at hi
    show (if i = n then _ else _ : List Addr).Nodup
    by_cases c : i = n
    · rw [if_pos c]
      rw [List.nodup_append] at nd ⊢
      obtain ⟨n1, n2, n3⟩ := nd
      rw [List.nodup_append] at n2 ⊢
      have d : ∀ x ∈ fp', ∀ y, y ∈ pre ∨ y ∈ post → x ≠ y := fun x hx y hy z => by
        subst z
        have hin : x ∈ pre ++ post := by rcases hy with q | q <;> simp [q]
        rcases k3 x hx with q | q
        · exact pp x hin q
        · exact thr x hin q
      refine ⟨n1, ⟨k2, n2.2.1, fun x hx y hy => d x hx y (.inr hy)⟩, fun x hx y hy => ?_⟩
      rcases List.mem_append.mp hy with z | z
      · exact (d y z x (.inl hx)).symm
      · exact n3 x hx y (List.mem_append_right _ z)
    · rw [if_neg c]; exact r.nd i hi
  · have hi : i < (aoSet s.A n p u').length := hi
    have hj : j < (aoSet s.A n p u').length := hj
    rw [hs, List.length_set] at hi hj
    have hb : b ∈ (if i = n then pre ++ (fp' ++ post) else s.φ i) := hb
    have hb' : b ∈ (if j = n then pre ++ (fp' ++ post) else s.φ j) := hb'
    by_cases c : i = n
    · rw [if_pos c] at hb
      rw [if_neg (fun z => ne (c.trans z.symm))] at hb'
      rcases mem' b hb with q | q
      · exact r.dj n j hn hj (fun z => ne (c.trans z)) b q hb'
      · exact r.there hj b hb' q
    · rw [if_neg c] at hb
      by_cases d : j = n
      · rw [if_pos d] at hb'
        rcases mem' b hb' with q | q
        · exact r.dj i n hi hn c b hb q
        · exact r.there hi b hb q
      · rw [if_neg d] at hb'
        exact r.dj i j hi hj ne b hb hb'
  · have hi : i < (aoSet s.A n p u').length := hi
    rw [hs, List.length_set] at hi
    have hb : b ∈ (if i = n then pre ++ (fp' ++ post) else s.φ i) := hb
    show G' b = none
    by_cases c : i = n
    · rw [if_pos c] at hb
      rcases List.mem_append.mp hb with z | z
      · exact gn b (thr b (List.mem_append_left _ z)) (r.out n hn b (by rw [z1]; simp [z]))
      · rcases List.mem_append.mp z with z | z
        · exact k4 b z
        · exact gn b (thr b (List.mem_append_right _ z)) (r.out n hn b (by rw [z1]; simp [z]))
    · rw [if_neg c] at hb
      exact gn b (r.there hi b hb) (r.out i hi b hb)
  · have hi : i < (aoSet s.A n p u').length := hi
    rw [hs, List.length_set] at hi
    have hb : b ∈ (if i = n then pre ++ (fp' ++ post) else s.φ i) := hb
    have back : ∀ b, s.H b = none → B.H b = none := fun b hb => by
      cases c : B.H b with
      | none => rfl
      | some o => exact absurd hb (r.gr.dm b (by rw [c]; exact fun z => nomatch z))
    by_cases c : i = n
    · rw [if_pos c] at hb
      rcases mem' b hb with q | q
      · rw [c]; exact r.fr n hn b q
      · exact .inr (back b q)
    · rw [if_neg c] at hb
      exact r.fr i hi b hb
  · obtain ⟨o, e, q⟩ := r.nx hn P (by rw [z1]; simp [z])
    exact (r.tabs P hP).off e q.1 rfl
  · have hb : b ∈ (if i = n then pre ++ (fp' ++ post) else s.φ i) := hb
    by_cases c : i = n
    · rw [if_pos c] at hb
      rw [c, z1]
      rcases List.mem_append.mp hb with z | z
      · exact .inr (List.mem_append_left _ z)
      · rcases List.mem_append.mp z with z | z
        · exact .inl z
        · exact .inr (List.mem_append_right _ (List.mem_append_right _ z))
    · rw [if_neg c] at hb
      exact .inr hb
theorem Rep.opn (r : Rep K B s) {n : Nat} {p : List Str} {v : V} {u : AO} (h : avR K s (.loc n p) v) (e : aoAt s.A n p = some u) :
    ∃ fp, aoR K s.G s.H u v fp ∧ fp.Nodup ∧ (∀ b ∈ fp, b ∈ s.φ n) ∧ (∀ b ∈ fp, s.G b = none) ∧ n < s.A.length ∧
      ∀ {u' : AO} {G' H' : Hp} {fp' : List Addr}, aoR K G' H' u' v fp' → fp'.Nodup → (∀ b ∈ fp', b ∈ fp ∨ s.H b = none) → (∀ b ∈ fp', G' b = none) → Gr fp s.G s.H G' H' →
        ∃ φ', Rep K B { s with φ := φ', A := aoSet s.A n p u', G := G', H := H' } ∧ Le s.G G' := by
  obtain ⟨fp, h1, h2, h3, h4, h5, h6⟩ := r.opnX h e
  exact ⟨fp, h1, h2, h3, h4, h5, fun {u' G' H' fp'} k1 k2 k3 k4 k5 => let ⟨φ', q1, q2, _⟩ := h6 k1 k2 k3 k4 k5; ⟨φ', q1, q2⟩⟩
theorem Rep.put (r : Rep K B s) {n : Nat} {p : List Str} {v : V} {u u' : AO} {G' H' : Hp} (h : avR K s (.loc n p) v) (e : aoAt s.A n p = some u)
    (k : ∀ fp, aoR K s.G s.H u v fp → (∀ b ∈ fp, s.G b = none) → ∃ fp', aoR K G' H' u' v fp' ∧ fp'.Nodup ∧ (∀ b ∈ fp', b ∈ fp ∨ s.H b = none) ∧ (∀ b ∈ fp', G' b = none) ∧ Gr fp s.G s.H G' H') :
    ∃ φ', Rep K B { s with φ := φ', A := aoSet s.A n p u', G := G', H := H' } ∧ Le s.G G' := by
  obtain ⟨fp, h1, _, _, h4, _, h6⟩ := r.opn h e
  obtain ⟨fp', k1, k2, k3, k4, k5⟩ := k fp h1 h4
  exact h6 k1 k2 k3 k4 k5
/-- a new thing -/
theorem Rep.push (r : Rep K B s) {v : V} {u : AO} {fp : List Addr} (h : aoR K s.G s.H u v fp) (nd : fp.Nodup) (off : ∀ b ∈ fp, ∀ n, n < s.A.length → b ∉ s.φ n) (out : ∀ b ∈ fp, s.G b = none) (nb : ∀ b ∈ fp, B.H b = none) :
    Rep K B { s with ι := s.ι ++ [v], φ := fun i => if i = s.A.length then fp else s.φ i, A := s.A ++ [u] } := by
  have old : ∀ {i}, i < (s.A ++ [u]).length → i ≠ s.A.length → i < s.A.length := fun {i} h n => by
    rw [List.length_append, List.length_singleton] at h
    omega
  refine ⟨by simp [r.len], fun i o e => ?_, fun i hi => ?_, fun i j hi hj ne b hb hb' => ?_, fun i hi b hb => ?_, fun i hi b hb => ?_, r.gr, r.pre.trans (List.prefix_append _ _), r.tabs⟩
  · by_cases c : i = s.A.length
    · subst c
      have e : (s.A ++ [u])[s.A.length]? = some o := e
      rw [List.getElem?_append_right (Nat.le_refl _), Nat.sub_self] at e
      cases e
      refine ⟨v, ?_, ?_⟩
      · show (s.ι ++ [v])[s.A.length]? = some v
        rw [← r.len, List.getElem?_append_right (Nat.le_refl _), Nat.sub_self]
        rfl
      · show aoR K s.G s.H u v (if s.A.length = s.A.length then fp else _)
        rw [if_pos rfl]; exact h
    · have hi := old (List.getElem?_eq_some_iff.mp e).1 c
      have e : (s.A ++ [u])[i]? = some o := e
      rw [List.getElem?_append_left hi] at e
      obtain ⟨x, y1, y2⟩ := r.at' i o e
      refine ⟨x, pre_get (List.prefix_append _ _) y1, ?_⟩
      show aoR K s.G s.H o x (if i = s.A.length then fp else _)
      rw [if_neg c]; exact y2
  · show (if i = s.A.length then fp else s.φ i).Nodup
    by_cases c : i = s.A.length
    · rw [if_pos c]; exact nd
    · rw [if_neg c]; exact r.nd i (old hi c)
  · have hb : b ∈ (if i = s.A.length then fp else s.φ i) := hb
    have hb' : b ∈ (if j = s.A.length then fp else s.φ j) := hb'
    by_cases c : i = s.A.length
    · rw [if_pos c] at hb
      have d : j ≠ s.A.length := fun z => ne (c.trans z.symm)
      rw [if_neg d] at hb'
      exact off b hb j (old hj d) hb'
    · rw [if_neg c] at hb
      by_cases d : j = s.A.length
      · rw [if_pos d] at hb'
        exact off b hb' i (old hi c) hb
      · rw [if_neg d] at hb'
        exact r.dj i j (old hi c) (old hj d) ne b hb hb'
  · have hb : b ∈ (if i = s.A.length then fp else s.φ i) := hb
    by_cases c : i = s.A.length
    · rw [if_pos c] at hb; exact out b hb
    · rw [if_neg c] at hb; exact r.out i (old hi c) b hb
  · have hb : b ∈ (if i = s.A.length then fp else s.φ i) := hb
    by_cases c : i = s.A.length
    · rw [if_pos c] at hb; exact .inr (nb b hb)
    · rw [if_neg c] at hb; exact r.fr i (old hi c) b hb
theorem Rep.back (r : Rep K B s) {b : Addr} (h : s.H b = none) : B.H b = none := by
  cases c : B.H b with
  | none => rfl
  | some o => exact absurd h (r.gr.dm b (by rw [c]; exact fun z => nomatch z))
theorem Stp.back (e : Stp K B m s s') {b : Addr} (h : s'.H b = none) : s.H b = none := by
  cases c : s.H b with
  | none => rfl
  | some o => exact absurd h (e.dm b (by rw [c]; exact fun z => nomatch z))
/-- some things are frozen as they stand -/
theorem Rep.frz (r : Rep K B s) {fp : List Addr} (off : ∀ b ∈ fp, ∀ n, n < s.A.length → b ∉ s.φ n) (nb : ∀ b ∈ fp, B.H b = none) (hx : ∀ b ∈ fp, ∃ o, s.H b = some o ∧ NX o) : Rep K B { s with G := frzH fp s.G s.H } := by
  have tg : ∀ P, TabG s.G s.H P → TabG (frzH fp s.G s.H) s.H P := fun P t => t.go (le_frzH r.le) rfl ((frzH_out fun z => by
    obtain ⟨o, e, n⟩ := hx P z
    exact t.off e n.1 rfl).trans t.1)
  refine ⟨r.len, fun n o e => ?_, r.nd, r.dj, fun n hn b hb => ?_, r.fr, ⟨r.gr.gg.trans (le_frzH r.le), frzH_le r.le, r.gr.hhN, r.gr.dm, fun b n1 n2 => ?_, fun P hP n t => tg P (r.gr.tb P hP n t)⟩, r.pre, fun P hP => tg P (r.tabs P hP)⟩
  · obtain ⟨v, h1, h2⟩ := r.at' n o e
    exact ⟨v, h1, aoR_frame h2 (le_frzH r.le) fun _ _ => rfl⟩
  · show frzH fp s.G s.H b = none
    rw [frzH_out fun z => off b z n hn hb]
    exact r.out n hn b hb
  · by_cases c : b ∈ fp
    · exact nb b c
    · have n2 : frzH fp s.G s.H b ≠ none := n2
      rw [frzH_out c] at n2
      exact r.gr.nw b n1 n2
/-- the state as a beginning -/
def Bs.of (s : Cs) : Bs := ⟨s.G, s.H, s.ι, s.φ⟩
theorem Rep.start (r : Rep K B s) : Rep K (Bs.of s) s := ⟨r.len, r.at', r.nd, r.dj, r.out, fun n hn b hb => .inl ⟨by rw [← r.len] at hn; exact hn, hb⟩, .refl r.le, List.prefix_refl _, r.tabs⟩
theorem Rep.rebase (r : Rep K B s) (r' : Rep K (Bs.of s) s') : Rep K B s' where
  len := r'.len
  at' := r'.at'
  nd := r'.nd
  dj := r'.dj
  out := r'.out
  fr := fun n hn b hb => by
    rcases r'.fr n hn b hb with ⟨h1, h2⟩ | h
    · have h1 : n < s.ι.length := h1
      rw [r.len] at h1
      exact r.fr n h1 b h2
    · exact .inr (r.back h)
  gr := r.gr.over r'.gr fun b hb => by
    obtain ⟨n, h1, h2⟩ := List.mem_flatMap.mp hb
    have h1 := List.mem_range.mp h1
    have h1 : n < s.ι.length := h1
    rw [r.len] at h1
    exact (r.fr n h1 b h2).imp (fun z => Bs.inW z.1 z.2) id
  pre := r.pre.trans r'.pre
  tabs := r'.tabs
theorem Stp.rebase (r : Rep K B s) (e : Stp K (Bs.of s) m s s') : Stp K B m s s' := ⟨e.le, e.pre, e.dm, e.pure, r.rebase e.rep⟩
/-- what is no thing's stays -/
theorem Rep.stays (r : Rep K B s) (r' : Rep K (Bs.of s) s') {b : Addr} {o : HO} (h : s.H b = some o) (hg : s.G b = none) (off : ∀ n, n < s.A.length → b ∉ s.φ n) (nt : NT o := by exact fun _ z => (nomatch z)) : s'.H b = some o ∧ s'.G b = none := by
  refine r'.gr.loc h hg (fun z => ?_) nt
  obtain ⟨n, h1, h2⟩ := List.mem_flatMap.mp z
  have h1 := List.mem_range.mp h1
  have h1 : n < s.ι.length := h1
  rw [r.len] at h1
  exact off n h1 h2
/-- and is no thing's then -/
theorem Rep.offs (r : Rep K B s) (r' : Rep K (Bs.of s) s') {b : Addr} {o : HO} (h : s.H b = some o) (off : ∀ n, n < s.A.length → b ∉ s.φ n) : ∀ n, n < s'.A.length → b ∉ s'.φ n := fun n hn z => by
  rcases r'.fr n hn b z with ⟨h1, h2⟩ | h1
  · have h1 : n < s.ι.length := h1
    rw [r.len] at h1
    exact off n h1 h2
  · have h1 : s.H b = none := h1
    rw [h] at h1
    cases h1
/-- one grows from another -/
structure Grw (s s' : Cs) : Prop where
  le : Le s.G s'.G
  pre : s.ι <+: s'.ι
theorem Grw.refl (s : Cs) : Grw s s := ⟨Le.refl _, List.prefix_refl _⟩
theorem Grw.trans (a : Grw s s') (b : Grw s' s'') : Grw s s'' := ⟨a.le.trans b.le, a.pre.trans b.pre⟩
theorem Stp.grw (a : Stp K B m s s') : Grw s s' := ⟨a.le, a.pre⟩
theorem SgR.grw (h : SgR K s sa σ) (e : Grw s s') : SgR K s' sa σ := ⟨h.len, fun i a q => let ⟨v, h1, h2⟩ := h.at' i a q; ⟨v, h1, h2.stp' e.le e.pre⟩⟩
end
end TH
/-! Readings over plain values: what an expression, a statement asks of values alone, and that the heap follows. -/
namespace TH
open PySem PySem.Spec PyProof.Rows L2
variable [TC : TabC]

abbrev aTE := Sg → Sto → (AV → Sto → Prop) → Prop
abbrev aTT := Sg → Sto → (Bool → Sto → Prop) → Prop
abbrev aTA := Sg → Sto → (List AV → Sto → Prop) → Prop
abbrev aTN := Sg → Sto → (AO → Sto → Prop) → Prop
abbrev aTI := Sg → Sto → (List PV → (Sto → Prop) → Sto → Prop) → Prop
abbrev aTG := AV → Sg → Sto → (Sg → Sto → Prop) → Prop
abbrev aTGs := List PV → Sg → Sto → (Sg → Sto → Prop) → Prop
structure AEnds where
  nx : Sg → Sto → Prop
  rt : AV → Sto → Prop
  bk : Sg → Sto → Prop := fun _ _ => False
  ct : Sg → Sto → Prop := fun _ _ => False
abbrev aTS := AEnds → Sg → Sto → Prop
section
variable (K : PySem.W.Frag)
def SimE (m : Bool) (a : aTE) (t : TE) : Prop := ∀ ⦃B : Bs⦄ ⦃s : Cs⦄ ⦃sa : Sg⦄ ⦃σ : L2.St⦄, Rep K B s → SgR K s sa σ → ∀ ⦃Kc : AV → Sto → Prop⦄ ⦃Q : VK⦄, (∀ av v s', Stp K B m s s' → avR K s' av v → Kc av s'.A → Q v s'.H) → a sa s.A Kc → t σ s.H Q
def SimT (m : Bool) (a : aTT) (t : TT) : Prop := ∀ ⦃B : Bs⦄ ⦃s : Cs⦄ ⦃sa : Sg⦄ ⦃σ : L2.St⦄, Rep K B s → SgR K s sa σ → ∀ ⦃Kc : Bool → Sto → Prop⦄ ⦃Q : Bool → Hp → Prop⦄, (∀ b s', Stp K B m s s' → Kc b s'.A → Q b s'.H) → a sa s.A Kc → t σ s.H Q
def SimA (m : Bool) (a : aTA) (t : TA) : Prop := ∀ ⦃B : Bs⦄ ⦃s : Cs⦄ ⦃sa : Sg⦄ ⦃σ : L2.St⦄, Rep K B s → SgR K s sa σ → ∀ ⦃Kc : List AV → Sto → Prop⦄ ⦃Q : List V → Hp → Prop⦄, (∀ avs vs s', Stp K B m s s' → Paired (avR K s') avs vs → Kc avs s'.A → Q vs s'.H) → a sa s.A Kc → t σ s.H Q
/-- a new thing, not yet known elsewhere -/
structure NewAt (s s' : Cs) (o : AO) (v : V) (fp : List Addr) : Prop where
  is : aoR K s'.G s'.H o v fp
  nd : fp.Nodup
  nw : ∀ b ∈ fp, s.H b = none
  out : ∀ b ∈ fp, s'.G b = none
  off : ∀ b ∈ fp, ∀ n, n < s'.A.length → b ∉ s'.φ n
def SimN (m : Bool) (a : aTN) (t : TE) : Prop := ∀ ⦃B : Bs⦄ ⦃s : Cs⦄ ⦃sa : Sg⦄ ⦃σ : L2.St⦄, Rep K B s → SgR K s sa σ → ∀ ⦃Kc : AO → Sto → Prop⦄ ⦃Q : VK⦄, (∀ o v fp s', Stp K B m s s' → NewAt K s s' o v fp → Kc o s'.A → Q v s'.H) → a sa s.A Kc → t σ s.H Q
structure EndR (B : Bs) (s0 : Cs) (Da : AEnds) (D : Ends) : Prop where
  nx : ∀ s sa σ, Rep K B s → Grw s0 s → SgR K s sa σ → Da.nx sa s.A → D.nx σ s.H
  rt : ∀ s av v, Rep K B s → Grw s0 s → avR K s av v → Da.rt av s.A → D.rt v s.H
  bk : ∀ s sa σ, Rep K B s → Grw s0 s → SgR K s sa σ → Da.bk sa s.A → D.bk σ s.H
  ct : ∀ s sa σ, Rep K B s → Grw s0 s → SgR K s sa σ → Da.ct sa s.A → D.ct σ s.H
/-- n0: how many things there were when the def began -/
def SimS (n0 : Nat) (a : aTS) (t : TS) : Prop := ∀ ⦃B : Bs⦄ ⦃s : Cs⦄ ⦃Da : AEnds⦄ ⦃D : Ends⦄, B.ι.length = n0 → EndR K B s Da D → ∀ ⦃sa : Sg⦄ ⦃σ : L2.St⦄, Rep K B s → SgR K s sa σ → a Da sa s.A → t D σ s.H
def SimG (vs : List Nat) (a : aTG) (t : TG) : Prop := ∀ ⦃B : Bs⦄ ⦃s : Cs⦄ ⦃sa : Sg⦄ ⦃σ : L2.St⦄ ⦃av : AV⦄ ⦃v : V⦄, Rep K B s → SgR K s sa σ → avR K s av v → ∀ ⦃Ka : Sg → Sto → Prop⦄ ⦃Q : L2.St → Hp → Prop⦄, (∀ s' sa' σ', Rep K B s' → Grw s s' → SgR K s' sa' σ' → wipe σ' vs = wipe σ vs → Ka sa' s'.A → Q σ' s'.H) → a av sa s.A Ka → t v σ s.H Q
def SimGs (vs : List Nat) (a : aTGs) (t : TGs) : Prop := ∀ ⦃B : Bs⦄ ⦃s : Cs⦄ ⦃sa : Sg⦄ ⦃σ : L2.St⦄ ⦃ps : List PV⦄ ⦃xs : List V⦄, Rep K B s → SgR K s sa σ → Al s.G (rPs K ps) xs → ∀ ⦃Ka : Sg → Sto → Prop⦄ ⦃Q : L2.St → Hp → Prop⦄, (∀ s' sa' σ', Rep K B s' → Grw s s' → SgR K s' sa' σ' → wipe σ' vs = wipe σ vs → Ka sa' s'.A → Q σ' s'.H) → a ps sa s.A Ka → t xs σ s.H Q
/-- later states of a walk; ml: a walk during which nothing that changes has changed -/
structure Lat (ml : Bool) (s0 s : Cs) : Prop where
  grw : Grw s0 s
  pure : ml = true → s.ι = s0.ι ∧ s.A = s0.A ∧ s.φ = s0.φ ∧ (∀ b o, s0.H b = some o → NT o → s.H b = some o)
structure WalkA (B : Bs) (ml : Bool) (J : It) (s0 : Cs) (xs : List PV) (C : Sto → Prop) : Prop where
  goes : ∀ i s, i < xs.length → Rep K B s → Lat ml s0 s → C s.A → J.go i s.H
  stops : ∀ s, Rep K B s → Lat ml s0 s → C s.A → J.stop xs.length s.H
  yields : ∀ i x s v H', xs[i]? = some x → Rep K B s → Lat ml s0 s → C s.A → J.yld i s.H v H' → ∃ G', Gr [] s.G s.H G' H' ∧ (rPV K x).P G' v
def SimI (m ml : Bool) (a : aTI) (t : TI) : Prop := ∀ ⦃B : Bs⦄ ⦃s : Cs⦄ ⦃sa : Sg⦄ ⦃σ : L2.St⦄, Rep K B s → SgR K s sa σ → ∀ ⦃Kc : List PV → (Sto → Prop) → Sto → Prop⦄ ⦃R : It → Hp → Prop⦄, (∀ xs C J s', Stp K B m s s' → WalkA K B ml J s' xs C → C s'.A → Kc xs C s'.A → R J s'.H) → a sa s.A Kc → t σ s.H R
end

/-! ### expressions -/
def aVar (i : Nat) : aTE := fun sa A k => match sa[i]? with
  | some (some (.pv p)) => k (.pv p) A
  | some (some (.loc n [])) => (match A[n]? with
    | some (.pv p) => k (.pv p) A
    | some _ => k (.loc n []) A
    | none => False)
  | _ => False
def aC (v : V) : aTE := fun _ A k => k (.pv (.v v)) A
def aCp (p : PV) : aTE := fun _ A k => k (.pv p) A
def aNil : aTA := fun _ A k => k [] A
def aCons (a : aTE) (r : aTA) : aTA := fun sa A k => a sa A fun x A1 => r sa A1 fun xs A2 => k (x :: xs) A2
/-- values all, none a place -/
def pvs : List AV → Option (List PV)
  | [] => some []
  | .pv p :: t => (pvs t).map (p :: ·)
  | _ :: _ => none
def aTup (t : aTA) : aTE := fun sa A k => t sa A fun xs A1 => match pvs xs with
  | some ps => ps.length ≤ 100000 ∧ k (.pv (.tup ps)) A1
  | none => False
def aLst (t : aTA) : aTN := fun sa A k => t sa A fun xs A1 => match pvs xs with
  | some ps => ps.length ≤ 100000 ∧ k (.lst ps) A1
  | none => False
/-- frozen -/
def AO.fz : AO → Option PV
  | .pv p => some p
  | .lst xs => some (.lst xs)
  | .dK kvs => some (.dct kvs)
  | .ins C fs => (fzs fs).map (.ins C)
  | .res r => r.fz.map .rel
where
  fzs : List (Str × AO) → Option (List (Str × PV))
    | [] => some []
    | (f, o) :: t => match AO.fz o, fzs t with
      | some p, some r => some ((f, p) :: r)
      | _, _ => none
def aFz (a : aTN) : aTE := fun sa A k => a sa A fun o A1 => match o.fz with
  | some p => k (.pv p) A1
  | none => False
/-- a value of an operation: what it may be -/
abbrev aR2 := Sto → AV → AV → (AV → Prop) → Prop
abbrev aR1 := Sto → AV → (AV → Prop) → Prop
def aOp (f : aR2) (a b : aTE) : aTE := fun sa A k => a sa A fun x A1 => b sa A1 fun y A2 => f A2 x y fun z => k z A2
def aUn (f : aR1) (a : aTE) : aTE := fun sa A k => a sa A fun x A1 => f A1 x fun z => k z A1
def aTest (a : aTE) : aTT := fun sa A k => a sa A fun x A1 => match x with
  | .pv (.v (.bl b)) => k b A1
  | _ => False
def aAnd (a b : aTT) : aTT := fun sa A k => a sa A fun c A1 => if c = true then b sa A1 k else k false A1
def aOr (a b : aTT) : aTT := fun sa A k => a sa A fun c A1 => if c = true then k true A1 else b sa A1 k
def aNot (a : aTT) : aTT := fun sa A k => a sa A fun c A1 => k (!c) A1
def aYes : aTT := fun _ A k => k true A
def aAndV (a b : aTE) : aTE := fun sa A k => a sa A fun x A1 => match x with
  | .pv (.v (.bl c)) => if c = true then b sa A1 fun y A2 => k y A2 else k (.pv (.v (.bl false))) A1
  | _ => False
def aOrV (a b : aTE) : aTE := fun sa A k => a sa A fun x A1 => match x with
  | .pv (.v (.bl c)) => if c = true then k (.pv (.v (.bl true))) A1 else b sa A1 fun y A2 => k y A2
  | _ => False
def aNotV (a : aTE) : aTE := fun sa A k => a sa A fun x A1 => match x with
  | .pv (.v (.bl c)) => k (.pv (.v (.bl (!c)))) A1
  | _ => False
def aIf (c : aTT) (a b : aTE) : aTE := fun sa A k => c sa A fun d A1 => if d = true then a sa A1 k else b sa A1 k
section
variable {K : PySem.W.Frag} {B : Bs} {m : Bool} {a b c : aTE} {ta tb te tc : TE} {at' bt : aTT} {tt tu : TT}
theorem SimE.weak (h : SimE K true a ta) : SimE K m a ta := fun {B s sa σ} r g Kc Q q => h r g fun av v s' e => q av v s' e.weak
theorem SimE.off (h : SimE K m a ta) : SimE K false a ta := fun {B s sa σ} r g Kc Q q => h r g fun av v s' e => q av v s' e.off
theorem SimT.weak (h : SimT K true at' tt) : SimT K m at' tt := fun {B s sa σ} r g Kc Q q => h r g fun av s' e => q av s' e.weak
theorem SimN.weak {a : aTN} (h : SimN K true a ta) : SimN K m a ta := fun {B s sa σ} r g Kc Q q => h r g fun o v fp s' e => q o v fp s' e.weak
theorem SimA.weak {a : aTA} {ta : TA} (h : SimA K true a ta) : SimA K m a ta := fun {B s sa σ} r g Kc Q q => h r g fun o v s' e => q o v s' e.weak
theorem sim_var {i : Nat} : SimE K m (aVar i) (tVar i) := fun {B s sa σ} r g {Kc Q} q h => by
  unfold aVar at h
  cases e : sa[i]? with
  | none => rw [e] at h; exact h.elim
  | some o =>
    rw [e] at h
    cases o with
    | none => exact h.elim
    | some av =>
      obtain ⟨v, e1, e2⟩ := g.at' i av e
      refine ⟨v, e1, ?_⟩
      match av, h, e2 with
      | .pv p, h, e2 => exact q (.pv p) v s (.refl r) e2 h
      | .loc n [], h, e2 =>
        have e2 : s.ι[n]? = some v := e2
        cases ea : s.A[n]? with
        | none => simp only [ea] at h
        | some o =>
          simp only [ea] at h
          match o, ea, h with
          | .pv p, ea, h =>
            obtain ⟨w, h1, h2, h3⟩ := r.at' n _ ea
            rw [e2] at h1
            cases h1
            exact q (.pv p) v s (.refl r) h3 h
          | .lst _, ea, h => exact q (.loc n []) v s (.refl r) ⟨v, e2, rfl⟩ h
          | .dK _, ea, h => exact q (.loc n []) v s (.refl r) ⟨v, e2, rfl⟩ h
          | .ins _ _, ea, h => exact q (.loc n []) v s (.refl r) ⟨v, e2, rfl⟩ h
          | .res _, ea, h => exact q (.loc n []) v s (.refl r) ⟨v, e2, rfl⟩ h
theorem sim_c {v : V} : SimE K m (aC v) (tC v) := fun {B s _ _} r _ {_ _} q h => q (.pv (.v v)) v s (.refl r) rfl h
theorem sim_cp {v : V} {p : PV} (h : ∀ G, (rPV K p).P G v) : SimE K m (aCp p) (tC v) := fun {B s _ _} r _ {_ _} q k => q (.pv p) v s (.refl r) (h s.G) k
theorem sim_nil : SimA K m aNil tNil := fun {B s _ _} r _ {_ _} q h => q [] [] s (.refl r) .nil h
theorem sim_cons {r : aTA} {tr : TA} (ha : SimE K m a ta) (hr : SimA K true r tr) : SimA K m (aCons a r) (tCons ta tr) := fun {B s sa σ} rp g {Kc Q} q h =>
  ha rp g (fun x v s1 e1 p k => hr e1.rep (g.stp e1) (fun xs vs s2 e2 ps k => q (x :: xs) (v :: vs) s2 (e1.trans e2.weak) (.cons (p.stp e2) ps) k) k) h
/-- an expression whose value is no place within a thing -/
def Stb (a : aTE) : Prop := ∀ sa A k, a sa A k → a sa A fun x A1 => x.stable = true ∧ k x A1
theorem avR.stpS {s s' : Cs} {x : AV} {v : V} (p : avR K s x v) (h : x.stable = true) (e : Stp K B m s s') : avR K s' x v := ((p.toS h).stp e).r
theorem sim_consE {r : aTA} {tr : TA} (hs : Stb a) (ha : SimE K m a ta) (hr : SimA K m r tr) : SimA K m (aCons a r) (tCons ta tr) := fun {B s sa σ} rp g {Kc Q} q h =>
  ha rp g (fun x v s1 e1 p k => hr e1.rep (g.stp e1) (fun xs vs s2 e2 ps k' => q (x :: xs) (v :: vs) s2 (e1.trans e2) (.cons (p.stpS k.1 e2) ps) k') k.2) (hs sa s.A _ h)
theorem pvs_al {s : Cs} {avs : List AV} {vs : List V} (p : Paired (avR K s) avs vs) : ∀ {ps : List PV}, pvs avs = some ps → Al s.G (rPs K ps) vs := by
  induction p with
  | nil => intro ps e; cases e; exact .nil
  | cons h t ih =>
    rename_i x v xs vs
    intro ps e
    match x, h, e with
    | .pv q, h, e =>
      obtain ⟨ps', e1, e2⟩ := Option.map_eq_some_iff.mp (show (pvs xs).map (q :: ·) = some ps from e)
      subst e2
      exact .cons h (ih e1)
theorem Rep.le' {s : Cs} (r : Rep K B s) : At md0 s.G s.H := ⟨r.le, trivial⟩
theorem sim_tup {r : aTA} {tr : TA} (ha : SimA K m r tr) : SimE K m (aTup r) (tTup tr) := fun {B s sa σ} rp g {Kc Q} q h =>
  ha rp g (fun xs vs s1 e1 ps k => by
    cases e : pvs xs with
    | none => simp only [e] at k
    | some qs =>
      simp only [e] at k
      have al := pvs_al ps e
      refine ⟨by rw [← al.length, rPs_len]; exact Nat.le_trans k.1 (by decide), fun p hp => ?_⟩
      have c := Gr.new (W := []) e1.rep.le (o := .tup vs) hp
      exact q (.pv (.tup qs)) _ _ (e1.trans (.of e1.rep c)) ⟨p, vs, rfl, .of upd_same, al.mono c.gg⟩ k.2) h
end
end TH
/-! Operations on values. -/
namespace TH
open PySem PySem.Spec PyProof.Rows L2
variable [TC : TabC]
section
variable {K : PySem.W.Frag} {B : Bs} {m : Bool} {a b c : aTE} {ta tb te tc : TE}
theorem NewAt.stp {s s' : Cs} {o : AO} {v : V} {fp : List Addr} (h : NewAt K s s' o v fp) (e : Stp K B m s s') : ∀ b ∈ fp, s.H b = none := h.nw
theorem sim_lst {r : aTA} {tr : TA} (ha : SimA K m r tr) : SimN K m (aLst r) (tLst tr) := fun {B s sa σ} rp g {Kc Q} q h =>
  ha rp g (fun xs vs s1 e1 ps k => by
    cases e : pvs xs with
    | none => simp only [e] at k
    | some qs =>
      simp only [e] at k
      have al := pvs_al ps e
      refine ⟨by rw [← al.length, rPs_len]; exact Nat.le_trans k.1 (by decide), fun p hp => ?_⟩
      have c := Gr.own (W := []) e1.rep.le (o := .lst vs) hp
      refine q (.lst qs) (.ref p) [p] _ (e1.trans (.of e1.rep c)) ⟨⟨p, vs, rfl, rfl, upd_same, al⟩, by simp, fun b hb => ?_, fun b hb => ?_, fun b hb n hn z => ?_⟩ k.2
      · rw [List.mem_singleton.mp hb]; exact e1.back hp
      · rw [List.mem_singleton.mp hb]; exact e1.rep.le.free hp
      · rw [List.mem_singleton.mp hb] at z
        exact e1.rep.there hn p z hp) h
mutual
theorem fz_ok {G H : Hp} : ∀ {o : AO} {p : PV} {v : V} {fp : List Addr}, aoR K G H o v fp → o.fz = some p → ∀ ps : List Addr, (∀ b ∈ fp, b ∈ ps) → Le G H → (rPV K p).P (frzH ps G H) v
  | .pv p, q, v, fp, ⟨h1, h2⟩, e, ps, _, le => by cases e; exact (rPV K p).mono (le_frzH le) h2
  | .lst xs, q, v, fp, ⟨a, vs, h1, h2, h3, h4⟩, e, ps, k, le => by
    cases e
    exact ⟨a, vs, h1, by rw [frzH_in (k a (by rw [h2]; exact List.mem_cons_self))]; exact h3, h4.mono (le_frzH le)⟩
  | .dK kvs, q, v, fp, ⟨a, vs, h1, h2, h3, h4⟩, e, ps, k, le => by
    cases e
    exact ⟨a, vs, h1, .inl (by rw [frzH_in (k a (by rw [h2]; exact List.mem_cons_self))]; exact h3), h4.mono (le_frzH le)⟩
  | .ins C fs, q, v, fp, ⟨a, dx, vs, fq, h1, h2, h3, h4⟩, e, ps, k, le => by
    obtain ⟨qs, e1, e2⟩ := Option.map_eq_some_iff.mp (show (AO.fz.fzs fs).map (PV.ins C) = some q from e)
    subst e2
    exact ⟨a, dx, vs, h1, by rw [frzH_in (k a (by rw [h2]; exact List.mem_cons_self))]; exact h3, fzs_ok h4 e1 ps (fun b hb => k b (by rw [h2]; exact List.mem_cons_of_mem _ hb)) le⟩
  | .res r, q, v, fp, h, e, ps, k, le => by
    obtain ⟨rl, e1, e2⟩ := Option.map_eq_some_iff.mp (show r.fz.map PV.rel = some q from e)
    subst e2
    exact r.fzOk e1 h ps k le
theorem fzs_ok {G H : Hp} : ∀ {fs : List (Str × AO)} {qs : List (Str × PV)} {vs : List (Str × V)} {fq : List Addr}, foR K G H fs vs fq → AO.fz.fzs fs = some qs → ∀ ps : List Addr, (∀ b ∈ fq, b ∈ ps) → Le G H → FAl (frzH ps G H) (rPV.rFs K qs) vs
  | [], qs, vs, fq, h, e, ps, k, le => by cases e; rw [h.1]; exact .nil
  | (f, o) :: t, qs, vs, fq, ⟨v, r, f1, f2, h1, h2, h3, h4⟩, e, ps, k, le => by
    subst h1 h2
    cases e1 : o.fz with
    | none => simp only [AO.fz.fzs, e1] at e; cases e
    | some p =>
      cases e2 : AO.fz.fzs t with
      | none => simp only [AO.fz.fzs, e1, e2] at e; cases e
      | some rr =>
        simp only [AO.fz.fzs, e1, e2] at e
        cases e
        exact .cons ⟨rfl, fz_ok h3 e1 ps (fun b hb => k b (List.mem_append_left _ hb)) le⟩ (fzs_ok h4 e2 ps (fun b hb => k b (List.mem_append_right _ hb)) le)
end
/-- a new thing, frozen at once -/
theorem sim_fz {a : aTN} (h : SimN K m a ta) : SimE K m (aFz a) ta := fun {B s sa σ} rp g {Kc Q} q hh =>
  h rp g (fun o v fp s1 e1 n k => by
    cases e : o.fz with
    | none => simp only [e] at k
    | some p =>
      simp only [e] at k
      have nx := aoR_nx n.is
      have tg : ∀ P, TabG s1.G s1.H P → TabG (frzH fp s1.G s1.H) s1.H P := fun P t => t.go (le_frzH e1.rep.le) rfl ((frzH_out fun z => by
        obtain ⟨o, e, n⟩ := nx P z
        exact t.off e n.1 rfl).trans t.1)
      have r2 := e1.rep.frz n.off (fun b hb => rp.back (n.nw b hb)) nx
      refine q (.pv p) v { s1 with G := frzH fp s1.G s1.H } ⟨e1.le.trans (le_frzH e1.rep.le), e1.pre, e1.dm, fun z => ?_, r2⟩ (fz_ok n.is e fp (fun _ z => z) e1.rep.le) k
      obtain ⟨z1, z2, z3, z4⟩ := e1.pure z
      refine ⟨z1, z2, z3, ⟨z4.gg.trans (le_frzH e1.rep.le), frzH_le e1.rep.le, z4.hhN, z4.dm, fun b n1 n2 => ?_, fun P hP n t => tg P (z4.tb P hP n t)⟩⟩
      by_cases c : b ∈ fp
      · exact n.nw b c
      · have n2 : frzH fp s1.G s1.H b ≠ none := n2
        rw [frzH_out c] at n2
        exact z4.nw b n1 n2) hh

/-! ### operations -/
def OpS (K : PySem.W.Frag) (f : aR2) (r : R2) : Prop := ∀ ⦃B : Bs⦄ ⦃s : Cs⦄ ⦃x y : AV⦄ ⦃vx vy : V⦄, Rep K B s → avR K s x vx → avR K s y vy → ∀ ⦃k : AV → Prop⦄ ⦃Q : VK⦄, (∀ av v G' H', Gr [] s.G s.H G' H' → avR K { s with G := G', H := H' } av v → k av → Q v H') → f s.A x y k → r vx vy s.H Q
def UnS (K : PySem.W.Frag) (f : aR1) (r : V → Hp → VK → Prop) : Prop := ∀ ⦃B : Bs⦄ ⦃s : Cs⦄ ⦃x : AV⦄ ⦃vx : V⦄, Rep K B s → avR K s x vx → ∀ ⦃k : AV → Prop⦄ ⦃Q : VK⦄, (∀ av v G' H', Gr [] s.G s.H G' H' → avR K { s with G := G', H := H' } av v → k av → Q v H') → f s.A x k → r vx s.H Q
abbrev aR1N := Sto → AV → (AO → Prop) → Prop
abbrev aR2N := Sto → AV → AV → (AO → Prop) → Prop
/-- a new thing made of others -/
structure NewH (K : PySem.W.Frag) (s : Cs) (G' H' : Hp) (o : AO) (v : V) (fp : List Addr) : Prop where
  gr : Gr [] s.G s.H G' H'
  is : aoR K G' H' o v fp
  nd : fp.Nodup
  nw : ∀ b ∈ fp, s.H b = none
  out : ∀ b ∈ fp, G' b = none
def OpN (K : PySem.W.Frag) (f : aR2N) (r : R2) : Prop := ∀ ⦃B : Bs⦄ ⦃s : Cs⦄ ⦃x y : AV⦄ ⦃vx vy : V⦄, Rep K B s → avR K s x vx → avR K s y vy → ∀ ⦃k : AO → Prop⦄ ⦃Q : VK⦄, (∀ o v fp G' H', NewH K s G' H' o v fp → k o → Q v H') → f s.A x y k → r vx vy s.H Q
def aOpN (f : aR2N) (a b : aTE) : aTN := fun sa A k => a sa A fun x A1 => b sa A1 fun y A2 => f A2 x y fun z => k z A2
def aUnN (f : aR1N) (a : aTE) : aTN := fun sa A k => a sa A fun x A1 => f A1 x fun z => k z A1
theorem NewH.at {s0 s : Cs} {G' H' : Hp} {o : AO} {v : V} {fp : List Addr} (n : NewH K s G' H' o v fp) (r : Rep K B s) (e : Stp K B m s0 s) : Stp K B m s0 { s with G := G', H := H' } ∧ NewAt K s0 { s with G := G', H := H' } o v fp :=
  ⟨e.trans (.of r n.gr), n.is, n.nd, fun b hb => e.back (n.nw b hb), n.out, fun b hb i hi z => r.there hi b z (n.nw b hb)⟩
theorem sim_op {f : aR2} {r : R2} (ha : SimE K m a ta) (hb : SimE K true b tb) (h : OpS K f r) : SimE K m (aOp f a b) (tOp r ta tb) := fun {B s sa σ} rp g {Kc Q} q hh =>
  ha rp g (fun x vx s1 e1 px k => hb e1.rep (g.stp e1) (fun y vy s2 e2 py k => h e2.rep (px.stp e2) py (fun av v G' H' gr pv k => q av v _ (e1.trans (e2.weak.trans (.of e2.rep gr))) pv k) k) k) hh
theorem sim_opE {f : aR2} {r : R2} (hs : Stb a) (ha : SimE K m a ta) (hb : SimE K m b tb) (h : OpS K f r) : SimE K m (aOp f a b) (tOp r ta tb) := fun {B s sa σ} rp g {Kc Q} q hh =>
  ha rp g (fun x vx s1 e1 px k => hb e1.rep (g.stp e1) (fun y vy s2 e2 py k' => h e2.rep (px.stpS k.1 e2) py (fun av v G' H' gr pv k => q av v _ (e1.trans (e2.trans (.of e2.rep gr))) pv k) k') k.2) (hs sa s.A _ hh)
theorem sim_un {f : aR1} {r : V → Hp → VK → Prop} (ha : SimE K m a ta) (h : UnS K f r) : SimE K m (aUn f a) (tUn r ta) := fun {B s sa σ} rp g {Kc Q} q hh =>
  ha rp g (fun x vx s1 e1 px k => h e1.rep px (fun av v G' H' gr pv k => q av v _ (e1.trans (.of e1.rep gr)) pv k) k) hh
theorem sim_opN {f : aR2N} {r : R2} (ha : SimE K m a ta) (hb : SimE K true b tb) (h : OpN K f r) : SimN K m (aOpN f a b) (tOp r ta tb) := fun {B s sa σ} rp g {Kc Q} q hh =>
  ha rp g (fun x vx s1 e1 px k => hb e1.rep (g.stp e1) (fun y vy s2 e2 py k => h e2.rep (px.stp e2) py (fun o v fp G' H' n k => q o v fp _ (n.at e2.rep (e1.trans e2.weak)).1 (n.at e2.rep (e1.trans e2.weak)).2 k) k) k) hh
/-! ### built-in functions of values: one argument, two -/
def UnC (K : PySem.W.Frag) (f : aR1) (r : List V → Hp → VK → Prop) : Prop := UnS K f fun x H Q => r [x] H Q
theorem sim_call1 {f : aR1} {r : List V → Hp → VK → Prop} (ha : SimE K m a ta) (h : UnC K f r) : SimE K m (aUn f a) (tCB r (tCons ta tNil)) := fun {B s sa σ} rp g {Kc Q} q hh =>
  ha rp g (fun x vx s1 e1 px k => h e1.rep px (fun av v G' H' gr pv k => q av v _ (e1.trans (.of e1.rep gr)) pv k) k) hh
/-! ### numbers, truth, texts -/
def fI0 (g : Int → Int → V) : aR2 := fun _ x y k => match x, y with
  | .pv (.v (.int i)), .pv (.v (.int j)) => k (.pv (.v (g i j)))
  | _, _ => False
def fI (C : Int → Int → Prop) (g : Int → Int → V) : aR2 := fun _ x y k => match x, y with
  | .pv (.v (.int i)), .pv (.v (.int j)) => C i j ∧ k (.pv (.v (g i j)))
  | _, _ => False
def fEq : aR2 := fun _ x y k => match x, y with
  | .pv (.v i), .pv (.v j) => scal i j = true ∧ k (.pv (.v (.bl (decide (i = j)))))
  | _, _ => False
def fNe : aR2 := fun _ x y k => match x, y with
  | .pv (.v i), .pv (.v j) => scal i j = true ∧ k (.pv (.v (.bl (!decide (i = j)))))
  | _, _ => False
def fAddS : aR2 := fun _ x y k => match x, y with
  | .pv (.v (.str i)), .pv (.v (.str j)) => i.length + j.length ≤ sizeLine ∧ k (.pv (.v (.str (i ++ j))))
  | _, _ => False
theorem Rep.g0 {s : Cs} (r : Rep K B s) : Gr [] s.G s.H s.G s.H := .refl r.le
theorem ops_I0 {g : Int → Int → V} : OpS K (fI0 g) (rI0 g) := fun {B s x y vx vy} r px py {k Q} q h => by
  unfold fI0 at h
  split at h
  · rename_i i j
    exact ⟨i, j, px, py, q (.pv (.v (g i j))) _ _ _ r.g0 rfl h⟩
  · exact h.elim
theorem ops_I {C : Int → Int → Prop} {g : Int → Int → V} : OpS K (fI C g) (rI C g) := fun {B s x y vx vy} r px py {k Q} q h => by
  unfold fI at h
  split at h
  · rename_i i j
    exact ⟨i, j, px, py, h.1, q (.pv (.v (g i j))) _ _ _ r.g0 rfl h.2⟩
  · exact h.elim
theorem ops_eq : OpS K fEq rEq := fun {B s x y vx vy} r px py {k Q} q h => by
  unfold fEq at h
  split at h
  · rename_i i j
    obtain rfl : vx = i := px
    obtain rfl : vy = j := py
    exact ⟨h.1, q (.pv (.v (.bl _))) _ _ _ r.g0 rfl h.2⟩
  · exact h.elim
theorem ops_ne : OpS K fNe rNe := fun {B s x y vx vy} r px py {k Q} q h => by
  unfold fNe at h
  split at h
  · rename_i i j
    obtain rfl : vx = i := px
    obtain rfl : vy = j := py
    exact ⟨h.1, q (.pv (.v (.bl _))) _ _ _ r.g0 rfl h.2⟩
  · exact h.elim
/-- x is None -/
def PV.isNon : PV → Option Bool
  | .v x => some (decide (x = .non))
  | .rel _ => none
  | _ => some false
def fIsN : aR2 := fun _ x y k => match x, y with
  | .pv p, .pv (.v .non) => ∃ b, p.isNon = some b ∧ k (.pv (.v (.bl b)))
  | _, _ => False
def fNotN : aR2 := fun _ x y k => match x, y with
  | .pv p, .pv (.v .non) => ∃ b, p.isNon = some b ∧ k (.pv (.v (.bl (!b))))
  | _, _ => False
end
end TH
/-! Operations on lists, tuples, dicts, fields. -/
namespace TH
open PySem PySem.Spec PyProof.Rows L2
variable [TC : TabC]
section
variable {K : PySem.W.Frag} {B : Bs} {m : Bool} {a b c : aTE} {ta tb te tc : TE}
/-- a list; a tuple; either -/
def viewL (A : Sto) : AV → Option (List PV)
  | .pv (.lst xs) => some xs
  | .loc n p => match aoAt A n p with
    | some (.lst xs) => some xs
    | some (.pv (.lst xs)) => some xs
    | _ => none
  | _ => none
def viewT (A : Sto) : AV → Option (List PV)
  | .pv (.tup xs) => some xs
  | .loc n p => match aoAt A n p with
    | some (.pv (.tup xs)) => some xs
    | _ => none
  | _ => none
def viewS (A : Sto) : AV → Option (List PV)
  | .pv (.lst xs) => some xs
  | .pv (.tup xs) => some xs
  | .loc n p => match aoAt A n p with
    | some (.lst xs) => some xs
    | some (.pv (.lst xs)) => some xs
    | some (.pv (.tup xs)) => some xs
    | _ => none
  | _ => none
theorem lst_at {G H : Hp} {xs : List PV} {v : V} (le : Le G H) (h : (rPV K (.lst xs)).P G v) : ∃ a vs, v = .ref a ∧ H a = some (.lst vs) ∧ Al G (rPs K xs) vs := by
  obtain ⟨a, vs, h1, h2, h3⟩ := h
  exact ⟨a, vs, h1, le.at h2 nf_lst (fun z => z), h3⟩
theorem tup_at {G H : Hp} {xs : List PV} {v : V} (le : Le G H) (h : (rPV K (.tup xs)).P G v) : ∃ a vs, v = .ref a ∧ SqT K H a vs ∧ Al G (rPs K xs) vs := by
  obtain ⟨a, vs, h1, h2, h3⟩ := h
  exact ⟨a, vs, h1, le.seqT h2, h3⟩
theorem viewL_ok {s : Cs} {x : AV} {v : V} {xs : List PV} (r : Rep K B s) (px : avR K s x v) (e : viewL s.A x = some xs) : ∃ a vs, v = .ref a ∧ s.H a = some (.lst vs) ∧ Al s.G (rPs K xs) vs := by
  unfold viewL at e
  split at e
  · cases e
    exact lst_at r.le px
  · rename_i n p
    split at e
    · rename_i ea
      cases e
      obtain ⟨fp, ⟨a, vs, h1, h2, h3, h4⟩, _⟩ := r.sub px ea
      exact ⟨a, vs, h1, h3, h4⟩
    · rename_i ea
      cases e
      obtain ⟨fp, ⟨h1, h2⟩, _⟩ := r.sub px ea
      exact lst_at r.le h2
    · cases e
  · cases e
theorem viewT_ok {s : Cs} {x : AV} {v : V} {xs : List PV} (r : Rep K B s) (px : avR K s x v) (e : viewT s.A x = some xs) : ∃ a vs, v = .ref a ∧ SqT K s.H a vs ∧ Al s.G (rPs K xs) vs := by
  unfold viewT at e
  split at e
  · cases e
    exact tup_at r.le px
  · rename_i n p
    split at e
    · rename_i ea
      cases e
      obtain ⟨fp, ⟨h1, h2⟩, _⟩ := r.sub px ea
      exact tup_at r.le h2
    · cases e
  · cases e
theorem viewS_ok {s : Cs} {x : AV} {v : V} {xs : List PV} (r : Rep K B s) (px : avR K s x v) (e : viewS s.A x = some xs) : ∃ a vs, v = .ref a ∧ (SqL K s.H a vs ∨ SqT K s.H a vs) ∧ Al s.G (rPs K xs) vs := by
  have fl : viewL s.A x = some xs → ∃ a vs, v = .ref a ∧ (SqL K s.H a vs ∨ SqT K s.H a vs) ∧ Al s.G (rPs K xs) vs := fun e => by
    obtain ⟨a, vs, h1, h2, h3⟩ := viewL_ok r px e
    exact ⟨a, vs, h1, .inl (.of h2), h3⟩
  have ft : viewT s.A x = some xs → ∃ a vs, v = .ref a ∧ (SqL K s.H a vs ∨ SqT K s.H a vs) ∧ Al s.G (rPs K xs) vs := fun e => by
    obtain ⟨a, vs, h1, h2, h3⟩ := viewT_ok r px e
    exact ⟨a, vs, h1, .inr h2, h3⟩
  unfold viewS at e
  split at e
  · cases e; exact fl rfl
  · cases e; exact ft rfl
  · rename_i n p
    split at e
    · rename_i ea; cases e; exact fl (by simp only [viewL, ea])
    · rename_i ea; cases e; exact fl (by simp only [viewL, ea])
    · rename_i ea; cases e; exact ft (by simp only [viewT, ea])
    · cases e
  · cases e
theorem al_at {G : Hp} {xs : List PV} {vs : List V} {i : Int} {p : PV} (al : Al G (rPs K xs) vs) (e : atI xs i = some p) : ∃ v, atI vs i = some v ∧ (rPV K p).P G v := by
  have hl : vs.length = xs.length := by rw [← al.length, rPs_len]
  unfold atI at e ⊢
  rw [hl]
  cases c : ixN xs.length i with
  | none => rw [c] at e; cases e
  | some j =>
    rw [c] at e
    have e : xs[j]? = some p := e
    exact al.get (by rw [rPs_map, List.getElem?_map, e]; rfl)
/-- xs[i] -/
def fIxL : aR2 := fun A x y k => match y with
  | .pv (.v (.int i)) => ∃ xs p, viewL A x = some xs ∧ atI xs i = some p ∧ k (.pv p)
  | _ => False
def fIxT : aR2 := fun A x y k => match y with
  | .pv (.v (.int i)) => ∃ xs p, viewT A x = some xs ∧ atI xs i = some p ∧ k (.pv p)
  | _ => False
def fIxS : aR2 := fun _ x y k => match x, y with
  | .pv (.v (.str z)), .pv (.v (.int i)) => z.length ≤ sizeLine ∧ ∃ c, atI z.cps.toList i = some c ∧ k (.pv (.v (.str ⟨#[c]⟩)))
  | _, _ => False
theorem ops_ixL : OpS K fIxL (rIxL K) := fun {B s x y vx vy} r px py {k Q} q h => by
  unfold fIxL at h
  split at h
  · rename_i i
    obtain ⟨xs, p, h1, h2, h3⟩ := h
    obtain ⟨a, vs, e1, e2, e3⟩ := viewL_ok r px h1
    obtain ⟨v, e4, e5⟩ := al_at e3 h2
    exact ⟨a, vs, i, v, e1, py, .of e2, e4, q (.pv p) _ _ _ r.g0 e5 h3⟩
  · exact h.elim
theorem ops_ixT : OpS K fIxT (rIxT K) := fun {B s x y vx vy} r px py {k Q} q h => by
  unfold fIxT at h
  split at h
  · rename_i i
    obtain ⟨xs, p, h1, h2, h3⟩ := h
    obtain ⟨a, vs, e1, e2, e3⟩ := viewT_ok r px h1
    obtain ⟨v, e4, e5⟩ := al_at e3 h2
    exact ⟨a, vs, i, v, e1, py, e2, e4, q (.pv p) _ _ _ r.g0 e5 h3⟩
  · exact h.elim
/-- x in xs, of plain values -/
def PV.val : PV → Option V
  | .v x => some x
  | _ => none
def vals : List PV → Option (List V)
  | [] => some []
  | .v x :: t => (vals t).map (x :: ·)
  | _ :: _ => none
theorem vals_map {α : Type} (f : α → V) : ∀ xs : List α, vals (xs.map fun x => .v (f x)) = some (xs.map f)
  | [] => rfl
  | x :: t => by
    show (vals (t.map fun x => .v (f x))).map (f x :: ·) = _
    rw [vals_map f t]
    rfl
theorem vals_al {G : Hp} : ∀ {xs : List PV} {vs ws : List V}, Al G (rPs K xs) vs → vals xs = some ws → vs = ws
  | [], _, _, .nil, e => by cases e; rfl
  | .v x :: t, _, ws, .cons h al, e => by
    obtain ⟨us, e1, e2⟩ := Option.map_eq_some_iff.mp (show (vals t).map (x :: ·) = some ws from e)
    subst e2
    have h : _ = x := h
    rw [h, vals_al al e1]
def fIn (neg : Bool) : aR2 := fun A x y k => match x with
  | .pv (.v v) => ∃ xs vs, viewS A y = some xs ∧ vals xs = some vs ∧ flatV v = true ∧ vs.all flatV = true ∧ k (.pv (.v (.bl (if neg then !inV v vs else inV v vs))))
  | _ => False
theorem ops_in {neg : Bool} : OpS K (fIn neg) (rIn K neg) := fun {B s x y vx vy} r px py {k Q} q h => by
  unfold fIn at h
  split at h
  · rename_i v
    obtain ⟨xs, vs, h1, h2, h3, h4, h5⟩ := h
    obtain ⟨a, ws, e1, e2, e3⟩ := viewS_ok r py h1
    obtain rfl : ws = vs := vals_al e3 h2
    obtain rfl : vx = v := px
    exact ⟨a, ws, e1, e2, h3, h4, q (.pv (.v (.bl _))) _ _ _ r.g0 rfl h5⟩
  · exact h.elim
def fSign (neg : Bool) : aR2 := fun _ x y k => match y with
  | .pv (.v (.str z)) => ∃ c : Nat, x = .pv (.v (.str ⟨#[c]⟩)) ∧ k (.pv (.v (.bl (if neg then !decide (c ∈ z.cps.toList) else decide (c ∈ z.cps.toList)))))
  | _ => False
theorem ops_sign : OpS K (fSign false) (fun x y H Q => ∃ (c : Nat) (z : Str), x = .str ⟨#[c]⟩ ∧ y = .str z ∧ Q (.bl (decide (c ∈ z.cps.toList))) H) := fun {B s x y vx vy} r px py {k Q} q h => by
  unfold fSign at h
  split at h
  · rename_i z
    obtain ⟨c, rfl, h2⟩ := h
    exact ⟨c, z, px, py, q (.pv (.v (.bl _))) _ _ _ r.g0 rfl h2⟩
  · exact h.elim
/-! ### len, list, tuple, all, any -/
def fLen : aR1 := fun A x k => ∃ xs, viewS A x = some xs ∧ k (.pv (.v (.int xs.length)))
theorem uns_len : UnC K fLen (fun xs H Q => ∃ p ys, xs = [.ref p] ∧ (SqL K H p ys ∨ SqT K H p ys) ∧ Q (.int ys.length) H) := fun {B s x vx} r px {k Q} q h => by
  obtain ⟨xs, h1, h2⟩ := h
  obtain ⟨a, ws, e1, e2, e3⟩ := viewS_ok r px h1
  have hl : ws.length = xs.length := by rw [← e3.length, rPs_len]
  exact ⟨a, ws, by rw [e1], e2, by rw [hl]; exact q (.pv (.v (.int xs.length))) _ _ _ r.g0 rfl h2⟩
def fLenS : aR1 := fun _ x k => match x with
  | .pv (.v (.str z)) => z.length ≤ sizeLine ∧ k (.pv (.v (.int z.length)))
  | _ => False
theorem uns_lenS : UnC K fLenS (fun xs H Q => ∃ z, xs = [.str z] ∧ z.length ≤ sizeLine ∧ Q (.int z.length) H) := fun {B s x vx} r px {k Q} q h => by
  unfold fLenS at h
  split at h
  · rename_i z
    obtain rfl : vx = .str z := px
    exact ⟨z, rfl, h.1, q (.pv (.v (.int z.length))) _ _ _ r.g0 rfl h.2⟩
  · exact h.elim
def fList : aR1N := fun A x k => ∃ xs, viewS A x = some xs ∧ k (.lst xs)
theorem newH_lst {s : Cs} (r : Rep K B s) {p : Addr} {vs : List V} {xs : List PV} (hp : s.H p = none) (al : Al s.G (rPs K xs) vs) : NewH K s s.G (upd s.H p (.lst vs)) (.lst xs) (.ref p) [p] :=
  ⟨Gr.own r.le hp, ⟨p, vs, rfl, rfl, upd_same, al⟩, by simp, fun b hb => by rw [List.mem_singleton.mp hb]; exact hp, fun b hb => by rw [List.mem_singleton.mp hb]; exact r.le.free hp⟩
def fTuple : aR1 := fun A x k => ∃ xs, viewS A x = some xs ∧ k (.pv (.tup xs))
def bools : List PV → Option (List Bool)
  | [] => some []
  | .v (.bl b) :: t => (bools t).map (b :: ·)
  | _ :: _ => none
theorem bools_map {α : Type} (f : α → Bool) : ∀ xs : List α, bools (xs.map fun x => .v (.bl (f x))) = some (xs.map f)
  | [] => rfl
  | x :: t => by
    show (bools (t.map fun x => .v (.bl (f x)))).map (f x :: ·) = _
    rw [bools_map f t]
    rfl
theorem bools_al {G : Hp} : ∀ {xs : List PV} {vs : List V} {bs : List Bool}, Al G (rPs K xs) vs → bools xs = some bs → vs = bs.map V.bl
  | [], _, _, .nil, e => by cases e; rfl
  | .v (.bl b) :: t, _, ws, .cons h al, e => by
    obtain ⟨us, e1, e2⟩ := Option.map_eq_some_iff.mp (show (bools t).map (b :: ·) = some ws from e)
    subst e2
    have h : _ = V.bl b := h
    rw [h, bools_al al e1]
    rfl
def fAll : aR1 := fun A x k => ∃ xs bs, viewL A x = some xs ∧ bools xs = some bs ∧ k (.pv (.v (.bl (bs.all id))))
def fAny : aR1 := fun A x k => ∃ xs bs, viewL A x = some xs ∧ bools xs = some bs ∧ k (.pv (.v (.bl (bs.any id))))
theorem uns_all : UnC K fAll (rAll K) := fun {B s x vx} r px {k Q} q h => by
  obtain ⟨xs, bs, h1, h2, h3⟩ := h
  obtain ⟨a, ws, e1, e2, e3⟩ := viewL_ok r px h1
  rw [bools_al e3 h2] at e2
  exact ⟨a, bs, by rw [e1], .of e2, q (.pv (.v (.bl _))) _ _ _ r.g0 rfl h3⟩
def fInt : aR1 := fun _ x k => match x with
  | .pv (.v (.int i)) => k (.pv (.v (.int i)))
  | .pv (.v (.bl b)) => k (.pv (.v (.int (if b then 1 else 0))))
  | _ => False
def fMax2 : aR2 := fun _ x y k => match x, y with
  | .pv (.v (.int i)), .pv (.v (.int j)) => k (.pv (.v (.int (if j > i then j else i))))
  | _, _ => False
/-! ### + and * of lists, + of tuples -/
def fCat : aR2N := fun A x y k => ∃ xs ys, viewL A x = some xs ∧ viewL A y = some ys ∧ xs.length + ys.length ≤ 100000 ∧ k (.lst (xs ++ ys))
theorem opn_cat : OpN K fCat rCat := fun {B s x y vx vy} r px py {k Q} q h => by
  obtain ⟨xs, ys, h1, h2, h3, h4⟩ := h
  obtain ⟨a, vs, e1, e2, e3⟩ := viewL_ok r px h1
  obtain ⟨b, ws, f1, f2, f3⟩ := viewL_ok r py h2
  refine ⟨a, b, vs, ws, e1, f1, e2, f2, by rw [← e3.length, ← f3.length, rPs_len, rPs_len]; exact Nat.le_trans h3 (by decide), fun p hp => q _ _ _ _ _ (newH_lst r hp ?_) h4⟩
  rw [rPs_app]
  exact e3.append f3
def fRep : aR2N := fun A x y k => match y with
  | .pv (.v (.int i)) => ∃ xs, viewL A x = some xs ∧ 0 ≤ i ∧ i ≤ 1000 ∧ xs.length * i.toNat ≤ 100000 ∧ k (.lst (List.replicate i.toNat xs).flatten)
  | _ => False
theorem rep_al {G : Hp} {rs : List Rl} {vs : List V} (al : Al G rs vs) : ∀ n : Nat, Al G (List.replicate n rs).flatten (List.replicate n vs).flatten
  | 0 => .nil
  | n + 1 => by
    rw [List.replicate_succ, List.replicate_succ, List.flatten_cons, List.flatten_cons]
    exact al.append (rep_al al n)
theorem rPs_rep (K : PySem.W.Frag) (xs : List PV) : ∀ n : Nat, rPs K (List.replicate n xs).flatten = (List.replicate n (rPs K xs)).flatten
  | 0 => rfl
  | n + 1 => by
    rw [List.replicate_succ, List.replicate_succ, List.flatten_cons, List.flatten_cons, rPs_app, rPs_rep K xs n]
theorem opn_rep : OpN K fRep rRep := fun {B s x y vx vy} r px py {k Q} q h => by
  unfold fRep at h
  split at h
  · rename_i i
    obtain ⟨xs, h1, h2, h3, h4, h5⟩ := h
    obtain ⟨a, vs, e1, e2, e3⟩ := viewL_ok r px h1
    refine ⟨a, i, vs, e1, py, e2, by omega, by omega, by rw [← e3.length, rPs_len]; exact Nat.le_trans h4 (by decide), fun p hp => q _ _ _ _ _ (newH_lst r hp ?_) h5⟩
    rw [rPs_rep]
    exact rep_al e3 _
  · exact h.elim
def fCatT : aR2 := fun A x y k => ∃ xs ys, viewT A x = some xs ∧ viewT A y = some ys ∧ xs.length + ys.length ≤ 100000 ∧ k (.pv (.tup (xs ++ ys)))
/-! ### fields -/
def aFldF (f : Str) : aR1 := fun A x k => match x with
  | .pv (.ins _ fs) => ∃ p, fs.lookup f = some p ∧ k (.pv p)
  | .loc n p => ∃ o, aoAt A n (p ++ [f]) = some o ∧ match o with
    | .pv q => k (.pv q)
    | _ => k (.loc n (p ++ [f]))
  | _ => False
theorem adr_snoc {H : Hp} {f : Str} : ∀ {p : List Str} {r v w : V} {a C dx : Addr} {fs : List (Str × V)}, adr H r p v → v = .ref a → H a = some (.ins C dx fs) → fs.lookup f = some w → adr H r (p ++ [f]) w
  | [], r, v, w, a, C, dx, fs, h, e, e2, e3 => by
    have h : v = r := h
    exact ⟨a, C, dx, fs, w, by rw [← h, e], e2, e3, rfl⟩
  | g :: p, r, v, w, a, C, dx, fs, ⟨b, D, dy, gs, u, h1, h2, h3, h4⟩, e, e2, e3 => ⟨b, D, dy, gs, u, h1, h2, h3, adr_snoc h4 e e2 e3⟩
theorem sub_snoc {f : Str} : ∀ {p : List Str} {o u : AO}, aoSub (p ++ [f]) o = some u → ∃ C fs, aoSub p o = some (.ins C fs) ∧ fs.lookup f = some u
  | [], .ins C fs, u, h => by
    obtain ⟨o1, h1, h2⟩ := Option.bind_eq_some_iff.mp (show (fs.lookup f).bind (aoSub []) = some u from h)
    cases h2
    exact ⟨C, fs, rfl, h1⟩
  | g :: p, .ins C fs, u, h => by
    obtain ⟨o1, h1, h2⟩ := Option.bind_eq_some_iff.mp (show (fs.lookup g).bind (aoSub (p ++ [f])) = some u from h)
    obtain ⟨D, gs, e1, e2⟩ := sub_snoc h2
    exact ⟨D, gs, by show (fs.lookup g).bind (aoSub p) = _; rw [h1]; exact e1, e2⟩
  | [], .pv _, u, h => by cases h
  | [], .lst _, u, h => by cases h
  | [], .dK _, u, h => by cases h
  | [], .res _, u, h => by cases h
  | _ :: _, .pv _, u, h => by cases h
  | _ :: _, .lst _, u, h => by cases h
  | _ :: _, .dK _, u, h => by cases h
  | _ :: _, .res _, u, h => by cases h
theorem at_snoc {A : Sto} {n : Nat} {p : List Str} {f : Str} {u : AO} (h : aoAt A n (p ++ [f]) = some u) : ∃ C fs, aoAt A n p = some (.ins C fs) ∧ fs.lookup f = some u := by
  obtain ⟨o, h1, h2⟩ := Option.bind_eq_some_iff.mp h
  obtain ⟨C, fs, e1, e2⟩ := sub_snoc h2
  exact ⟨C, fs, by unfold aoAt; rw [h1]; exact e1, e2⟩
/-- the class of a thing -/
theorem fal_get {G : Hp} {f : Str} {fs : List (Str × PV)} {vs : List (Str × V)} {p : PV} (h : FAl G (rPV.rFs K fs) vs) (e : fs.lookup f = some p) : ∃ v, vs.lookup f = some v ∧ (rPV K p).P G v := by
  refine h.get ?_
  clear h
  rw [rFs_map]
  induction fs with
  | nil => cases e
  | cons x t ih =>
    rw [List.lookup_cons] at e
    rw [List.map_cons, List.lookup_cons]
    cases c : f == x.1 with
    | true => rw [c] at e; cases e; rfl
    | false =>
      rw [c] at e
      exact ih e
/-- the attributes are none of the class's: hC of each class that is met -/
structure ClsF (K : PySem.W.Frag) (f : Str) (C : Addr) : Prop where
  c : Cls K C
  n : NoAttr K C f
/-- the class of what is read -/
def AV.clsAt (A : Sto) : AV → Option Addr
  | .pv (.ins C _) => some C
  | .loc n p => match aoAt A n p with
    | some (.ins C _) => some C
    | _ => none
  | _ => none
def aFld (C : Addr) (a : aTE) (f : Str) : aTE := fun sa A k => a sa A fun x A1 => x.clsAt A1 = some C ∧ aFldF f A1 x fun z => k z A1
theorem sim_fld {f : Str} {C : Addr} (hc : Cls K C) (hn : NoAttr K C f) (ha : SimE K m a ta) : SimE K m (aFld C a f) (tFld K ta f) := fun {B s sa σ} rp g {Kc Q} q hh =>
  ha rp g (fun x vx s1 e1 px k => by
    obtain ⟨hcl, k⟩ := k
    unfold aFldF at k
    split at k
    · rename_i D fs
      cases hcl
      obtain ⟨p, k1, k2⟩ := k
      obtain ⟨d, dx, vs, h1, h2, h3⟩ := px
      obtain ⟨v, h4, h5⟩ := fal_get h3 k1
      exact ⟨d, C, dx, vs, v, h1, e1.rep.le.ins h2, hc, hn, h4, q (.pv p) v s1 e1 h5 k2⟩
    · rename_i n p
      obtain ⟨o, k1, k2⟩ := k
      obtain ⟨D, fs, z1, z2⟩ := at_snoc k1
      simp only [AV.clsAt, z1] at hcl
      cases hcl
      obtain ⟨fp, ⟨d, dx, vs, fq, h1, h2, h3, h4⟩, _⟩ := e1.rep.sub px z1
      obtain ⟨w, pre, fp', post, y1, y2, y3, _⟩ := foR_get h4 z2
      obtain ⟨r, p1, p2⟩ := px
      have pw : avR K s1 (.loc n (p ++ [f])) w := ⟨r, p1, adr_snoc p2 h1 h3 y1⟩
      refine ⟨d, C, dx, vs, w, h1, h3, hc, hn, y1, ?_⟩
      match o, k2, y3 with
      | .pv p, k2, y3 => exact q (.pv p) w s1 e1 y3.2 k2
      | .lst _, k2, y3 => exact q (.loc n (p ++ [f])) w s1 e1 pw k2
      | .dK _, k2, y3 => exact q (.loc n (p ++ [f])) w s1 e1 pw k2
      | .ins _ _, k2, y3 => exact q (.loc n (p ++ [f])) w s1 e1 pw k2
      | .res _, k2, y3 => exact q (.loc n (p ++ [f])) w s1 e1 pw k2
    · exact k.elim) hh
end
end TH
/-! Tests, statements, loops, comprehensions. -/
namespace TH
open PySem PySem.Spec PyProof.Rows L2
variable [TC : TabC]
section
variable {K : PySem.W.Frag} {m : Bool} {a b c : aTE} {ta tb te tc : TE} {ca cb : aTT} {tt tu : TT} {n0 : Nat}
/-! ### tests -/
theorem sim_test (ha : SimE K m a ta) : SimT K m (aTest a) (tTest ta) := fun {B s sa σ} rp g {Kc Q} q hh =>
  ha rp g (fun x vx s1 e1 px k => by
    split at k
    · rename_i b
      exact ⟨b, px, q b s1 e1 k⟩
    · exact k.elim) hh
theorem sim_B (ha : SimE K m a ta) : SimT K m (aTest a) (tB ta) := fun {B s sa σ} rp g {Kc Q} q hh =>
  ha rp g (fun x vx s1 e1 px k => by
    split at k
    · rename_i b
      exact ⟨b, px, q b s1 e1 k⟩
    · exact k.elim) hh
theorem sim_and (ha : SimT K m ca tt) (hb : SimT K m cb tu) : SimT K m (aAnd ca cb) (tAnd tt tu) := fun {B s sa σ} rp g {Kc Q} q hh =>
  ha rp g (fun x s1 e1 k => by
    cases x with
    | true => exact hb e1.rep (g.stp e1) (fun y s2 e2 k => q y s2 (e1.trans e2) k) k
    | false => exact q false s1 e1 k) hh
theorem sim_or (ha : SimT K m ca tt) (hb : SimT K m cb tu) : SimT K m (aOr ca cb) (tOr tt tu) := fun {B s sa σ} rp g {Kc Q} q hh =>
  ha rp g (fun x s1 e1 k => by
    cases x with
    | false => exact hb e1.rep (g.stp e1) (fun y s2 e2 k => q y s2 (e1.trans e2) k) k
    | true => exact q true s1 e1 k) hh
theorem sim_not (ha : SimT K m ca tt) : SimT K m (aNot ca) (tNot tt) := fun {B s sa σ} rp g {Kc Q} q hh =>
  ha rp g (fun x s1 e1 k => q (!x) s1 e1 k) hh
theorem sim_yes : SimT K m aYes tYes := fun {B s sa σ} rp g {Kc Q} q hh => q true s (.refl rp) hh
theorem sim_andV (ha : SimE K m a ta) (hb : SimE K m b tb) : SimE K m (aAndV a b) (tAndV ta tb) := fun {B s sa σ} rp g {Kc Q} q hh =>
  ha rp g (fun x vx s1 e1 px k => by
    split at k
    · rename_i c
      refine ⟨c, px, ?_⟩
      cases c with
      | true => exact hb e1.rep (g.stp e1) (fun y vy s2 e2 py k => q y vy s2 (e1.trans e2) py k) k
      | false => exact q (.pv (.v (.bl false))) _ s1 e1 rfl k
    · exact k.elim) hh
theorem sim_if (hc : SimT K m ca tt) (ha : SimE K m a ta) (hb : SimE K m b tb) : SimE K m (aIf ca a b) (tIf tt ta tb) := fun {B s sa σ} rp g {Kc Q} q hh =>
  hc rp g (fun x s1 e1 k => by
    cases x with
    | true => exact ha e1.rep (g.stp e1) (fun y vy s2 e2 py k => q y vy s2 (e1.trans e2) py k) k
    | false => exact hb e1.rep (g.stp e1) (fun y vy s2 e2 py k => q y vy s2 (e1.trans e2) py k) k) hh
/-! ### statements -/
theorem EndR.grw {B : Bs} {s s' : Cs} {Da : AEnds} {D : Ends} (e : EndR K B s Da D) (g : Grw s s') : EndR K B s' Da D :=
  ⟨fun s1 sa σ r g1 => e.nx s1 sa σ r (g.trans g1), fun s1 av v r g1 => e.rt s1 av v r (g.trans g1), fun s1 sa σ r g1 => e.bk s1 sa σ r (g.trans g1), fun s1 sa σ r g1 => e.ct s1 sa σ r (g.trans g1)⟩
def aNext : aTS := fun D sa A => D.nx sa A
def aSeq (a b : aTS) : aTS := fun D sa A => a { D with nx := b D } sa A
def aAsg (e : aTE) (g : aTG) : aTS := fun D sa A => e sa A fun x A1 => g x sa A1 D.nx
def aAsgN (i : Nat) (e : aTN) : aTS := fun D sa A => e sa A fun o A1 => D.nx (sa.set i (some (.loc A1.length []))) (A1 ++ [o])
def aRet (e : aTE) : aTS := fun D sa A => e sa A D.rt
def aRetN : aTS := fun D _ A => D.rt (.pv (.v .non)) A
def aDrop (e : aTE) : aTS := fun D sa A => e sa A fun _ A1 => D.nx sa A1
def aIfS (c : aTT) (t u : aTS) : aTS := fun D sa A => c sa A fun b A1 => if b = true then t D sa A1 else u D sa A1
def aBreak : aTS := fun D sa A => D.bk sa A
def aCont : aTS := fun D sa A => D.ct sa A
variable {s1 s2 : aTS} {t1 t2 : TS}
theorem sim_next : SimS K n0 aNext tNext := fun {B s Da D} h0 e {sa σ} r g h => e.nx s sa σ r (.refl s) g h
theorem sim_seq (h1 : SimS K n0 s1 t1) (h2 : SimS K n0 s2 t2) : SimS K n0 (aSeq s1 s2) (tSeq t1 t2) := fun {B s Da D} h0 e {sa σ} r g h =>
  h1 (Da := { Da with nx := s2 Da }) (D := { D with nx := t2 D }) h0 ⟨fun s1 sa σ r1 g1 q k => h2 h0 (e.grw g1) r1 q k, e.rt, e.bk, e.ct⟩ r g h
theorem sim_asg {g : aTG} {tg : TG} {vs : List Nat} (ha : SimE K false a ta) (hg : SimG K vs g tg) : SimS K n0 (aAsg a g) (tAsg ta tg) := fun {B s Da D} h0 e {sa σ} r gg h =>
  ha r gg (fun x v s1 e1 px k => hg e1.rep (gg.stp e1) px (fun s2 sa' σ' r2 g2 q2 _ k => e.nx s2 sa' σ' r2 (e1.grw.trans g2) q2 k) k) h
theorem sim_asgN {i : Nat} {e' : aTN} (ha : SimN K false e' ta) : SimS K n0 (aAsgN i e') (tAsg ta (gName i)) := fun {B s Da D} h0 e {sa σ} r gg h =>
  ha r gg (fun o v fp s1 e1 n k => by
    have r2 := e1.rep.push n.is n.nd n.off n.out fun b hb => r.back (n.nw b hb)
    have g2 : Grw s1 { s1 with ι := s1.ι ++ [v], φ := fun i => if i = s1.A.length then fp else s1.φ i, A := s1.A ++ [o] } := ⟨Le.refl _, List.prefix_append _ _⟩
    refine e.nx { s1 with ι := s1.ι ++ [v], φ := fun i => if i = s1.A.length then fp else s1.φ i, A := s1.A ++ [o] } _ _ r2 (e1.grw.trans g2) (((gg.stp e1).grw g2).set i (a := .loc s1.A.length []) ?_) k
    show (s1.ι ++ [v])[s1.A.length]? = some v
    rw [← e1.rep.len, List.getElem?_append_right (Nat.le_refl _), Nat.sub_self]
    rfl) h
theorem sim_ret (ha : SimE K false a ta) : SimS K n0 (aRet a) (tRet ta) := fun {B s Da D} h0 e {sa σ} r gg h =>
  ha r gg (fun x v s1 e1 px k => e.rt s1 x v e1.rep e1.grw px k) h
theorem sim_drop (ha : SimE K false a ta) : SimS K n0 (aDrop a) (tDrop ta) := fun {B s Da D} h0 e {sa σ} r gg h =>
  ha r gg (fun x v s1 e1 px k => e.nx s1 sa σ e1.rep e1.grw (gg.stp e1) k) h
theorem sim_ifS (hc : SimT K false ca tt) (h1 : SimS K n0 s1 t1) (h2 : SimS K n0 s2 t2) : SimS K n0 (aIfS ca s1 s2) (tIfS tt t1 t2) := fun {B s Da D} h0 e {sa σ} r gg h =>
  hc r gg (fun x s' e1 k => by
    cases x with
    | true => exact h1 h0 (e.grw e1.grw) e1.rep (gg.stp e1) k
    | false => exact h2 h0 (e.grw e1.grw) e1.rep (gg.stp e1) k) h
/-- a thing of the def's own is frozen as it stands -/
theorem Rep.fix {B : Bs} {s : Cs} (r : Rep K B s) {n : Nat} {o : AO} {p : PV} (hn : B.ι.length ≤ n) (e : s.A[n]? = some o) (ef : o.fz = some p) : ∃ s' : Cs, Rep K B s' ∧ Grw s s' ∧ s'.A = s.A.set n (.pv p) ∧ s'.H = s.H ∧ s'.ι = s.ι := by
  have hl : n < s.A.length := (List.getElem?_eq_some_iff.mp e).1
  obtain ⟨v, h1, h2⟩ := r.at' n o e
  have nb : ∀ b ∈ s.φ n, B.H b = none := fun b hb => (r.fr n hl b hb).resolve_left fun z => by have := z.1; omega
  have up := le_frzH (ps := s.φ n) r.le
  have tg : ∀ P, TabG s.G s.H P → TabG (frzH (s.φ n) s.G s.H) s.H P := fun P t => t.go up rfl ((frzH_out fun z => by
    obtain ⟨o, e, q⟩ := r.nx hl P z
    exact t.off e q.1 rfl).trans t.1)
  refine ⟨{ s with φ := fun i => if i = n then [] else s.φ i, A := s.A.set n (.pv p), G := frzH (s.φ n) s.G s.H }, ⟨by simp [r.len], fun i u ei => ?_, fun i hi => ?_, fun i j hi hj ne b hb hb' => ?_, fun i hi b hb => ?_, fun i hi b hb => ?_, ⟨r.gr.gg.trans up, frzH_le r.le, r.gr.hhN, r.gr.dm, fun b n1 n2 => ?_, fun P hP n t => tg P (r.gr.tb P hP n t)⟩, r.pre, fun P hP => tg P (r.tabs P hP)⟩, ⟨up, List.prefix_refl _⟩, rfl, rfl, rfl⟩
  · have ei : (s.A.set n (.pv p))[i]? = some u := ei
    rw [List.getElem?_set] at ei
    by_cases c : n = i
    · subst c
      rw [if_pos rfl, if_pos hl] at ei
      cases ei
      refine ⟨v, h1, ?_⟩
      show aoR K _ _ _ _ (if n = n then [] else s.φ n)
      rw [if_pos rfl]
      exact ⟨rfl, fz_ok h2 ef _ (fun _ z => z) r.le⟩
    · rw [if_neg c] at ei
      obtain ⟨w, y1, y2⟩ := r.at' i u ei
      refine ⟨w, y1, ?_⟩
      show aoR K _ _ _ _ (if i = n then [] else s.φ i)
      rw [if_neg (Ne.symm c)]
      exact aoR_frame y2 up fun _ _ => rfl
  · have hi : i < (s.A.set n (.pv p)).length := hi
    rw [List.length_set] at hi
    show (if i = n then [] else s.φ i).Nodup
    by_cases c : i = n
    · rw [if_pos c]; exact List.nodup_nil
    · rw [if_neg c]; exact r.nd i hi
  · have hi : i < (s.A.set n (.pv p)).length := hi
    have hj : j < (s.A.set n (.pv p)).length := hj
    rw [List.length_set] at hi hj
    have hb : b ∈ (if i = n then [] else s.φ i) := hb
    have hb' : b ∈ (if j = n then [] else s.φ j) := hb'
    by_cases c : i = n
    · rw [if_pos c] at hb; cases hb
    · by_cases d : j = n
      · rw [if_pos d] at hb'; cases hb'
      · rw [if_neg c] at hb
        rw [if_neg d] at hb'
        exact r.dj i j hi hj ne b hb hb'
  · have hi : i < (s.A.set n (.pv p)).length := hi
    rw [List.length_set] at hi
    have hb : b ∈ (if i = n then [] else s.φ i) := hb
    show frzH (s.φ n) s.G s.H b = none
    by_cases c : i = n
    · rw [if_pos c] at hb; cases hb
    · rw [if_neg c] at hb
      rw [frzH_out fun z => r.dj i n hi hl c b hb z]
      exact r.out i hi b hb
  · have hi : i < (s.A.set n (.pv p)).length := hi
    rw [List.length_set] at hi
    have hb : b ∈ (if i = n then [] else s.φ i) := hb
    by_cases c : i = n
    · rw [if_pos c] at hb; cases hb
    · rw [if_neg c] at hb; exact r.fr i hi b hb
  · have n2 : frzH (s.φ n) s.G s.H b ≠ none := n2
    by_cases c : b ∈ s.φ n
    · exact nb b c
    · rw [frzH_out c] at n2
      exact r.gr.nw b n1 n2
/-! ### targets -/
def aName (i : Nat) : aTG := fun x sa A k => match x with
  | .loc _ (_ :: _) => False
  | _ => k (sa.set i (some x)) A
def aGNil : aTGs := fun xs sa A k => match xs with
  | [] => k sa A
  | _ => False
def aGCons (g : aTG) (u : aTGs) : aTGs := fun xs sa A k => match xs with
  | x :: r => g (.pv x) sa A fun sa' A' => u r sa' A' k
  | [] => False
def aGTup (n : Nat) (u : aTGs) : aTG := fun x sa A k => ∃ xs, viewT A x = some xs ∧ xs.length = n ∧ u xs sa A k
theorem wipe_set {i : Nat} {x : Option V} : ∀ {vs : List Nat} {σ : L2.St}, i ∈ vs → wipe (σ.set i x) vs = wipe σ vs
  | v :: vs, σ, h => by
    show (wipe (σ.set i x) vs).set v none = (wipe σ vs).set v none
    by_cases c : i ∈ vs
    · rw [wipe_set c]
    · have e : i = v := (List.mem_cons.mp h).resolve_right c
      subst e
      have key : ∀ (vs : List Nat) (σ : L2.St), (wipe (σ.set i x) vs).set i none = (wipe σ vs).set i none := by
        intro vs
        induction vs with
        | nil => intro σ; show (σ.set i x).set i none = σ.set i none; rw [List.set_set]
        | cons u vs ih =>
          intro σ
          show ((wipe (σ.set i x) vs).set u none).set i none = ((wipe σ vs).set u none).set i none
          by_cases d : u = i
          · subst d
            rw [List.set_set, List.set_set, ih]
          · rw [List.set_comm _ _ d, List.set_comm _ _ d, ih]
      exact key vs σ
theorem sim_gname {i : Nat} {vs : List Nat} (hi : i ∈ vs := by decide) : SimG K vs (aName i) (gName i) := fun {B s sa σ av v} r g px {Ka Q} q h => by
  unfold aName at h
  split at h
  · exact h.elim
  · rename_i hx
    refine q s _ _ r (.refl s) (g.set i (px.toS ?_)) (wipe_set hi) h
    unfold AV.stable
    split
    · rename_i n f p
      exact absurd rfl (hx n f p)
    · rfl
theorem sim_gnil {vs : List Nat} : SimGs K vs aGNil gNil := fun {B s sa σ ps xs} r g al {Ka Q} q h => by
  unfold aGNil at h
  split at h
  · cases al
    exact ⟨rfl, q s sa σ r (.refl s) g rfl h⟩
  · exact h.elim
theorem sim_gcons {vs : List Nat} {g : aTG} {tg : TG} {u : aTGs} {tu : TGs} (h1 : SimG K vs g tg) (h2 : SimGs K vs u tu) : SimGs K vs (aGCons g u) (gCons tg tu) := fun {B s sa σ ps xs} r gg al {Ka Q} q h => by
  unfold aGCons at h
  split at h
  · rename_i p ps
    cases al with
    | cons hp ht =>
      refine ⟨_, _, rfl, h1 r gg (av := .pv p) hp (fun s1 sa1 σ1 r1 g1 q1 w1 k => h2 r1 q1 (Al.mono g1.le ht) (fun s2 sa2 σ2 r2 g2 q2 w2 k => q s2 sa2 σ2 r2 (g1.trans g2) q2 (w2.trans w1) k) k) h⟩
  · exact h.elim
theorem sim_gtup {vs : List Nat} {n : Nat} {u : aTGs} {tu : TGs} (h2 : SimGs K vs u tu) : SimG K vs (aGTup n u) (gTup K n tu) := fun {B s sa σ av v} r gg px {Ka Q} q h => by
  obtain ⟨xs, h1, h3, h4⟩ := h
  obtain ⟨a, ws, e1, e2, e3⟩ := viewT_ok r px h1
  exact ⟨a, ws, e1, e2, by rw [← e3.length, rPs_len]; exact h3, h2 r gg e3 q h4⟩
/-! ### loops -/
def aFor (wi : aTI) (g : aTG) (b : aTS) : aTS := fun D sa A => wi sa A fun xs C A1 => ∃ I : Nat → Sg → Sto → Prop, I 0 sa A1 ∧ (∀ i sa A, I i sa A → C A) ∧
  (∀ i x sa A, xs[i]? = some x → I i sa A → g (.pv x) sa A fun sa' A' => b { D with nx := I (i + 1), ct := I (i + 1), bk := D.nx } sa' A') ∧ ∀ sa A, I xs.length sa A → D.nx sa A
theorem sim_for {wi : aTI} {ti : TI} {g : aTG} {tg : TG} {vs : List Nat} (hi : SimI K false false wi ti) (hg : SimG K vs g tg) (hb : SimS K n0 s1 t1) : SimS K n0 (aFor wi g s1) (tFor ti tg t1) := fun {B s Da D} h0 e {sa σ} r gg h =>
  hi r gg (fun xs C J s' e1 wk hC0 k => by
    obtain ⟨I, i0, hC, step, done⟩ := k
    let St : Nat → L2.St → Hp → Prop := fun i σ' H' => ∃ s2 sa2, s2.H = H' ∧ Rep K B s2 ∧ Grw s' s2 ∧ SgR K s2 sa2 σ' ∧ I i sa2 s2.A
    refine ⟨fun i k σ' H' => k = xs.length - i ∧ i ≤ xs.length ∧ St i σ' H', ⟨xs.length, by simp, Nat.zero_le _, s', sa, rfl, e1.rep, .refl _, gg.stp e1, i0⟩, ?_⟩
    rintro i k σ' H' ⟨rfl, hi, s2, sa2, rfl, r2, g2, q2, k2⟩
    have lat : Lat false s' s2 := ⟨g2, fun z => nomatch z⟩
    by_cases hlt : i < xs.length
    · refine .inr ⟨wk.goes i s2 hlt r2 lat (hC _ _ _ k2), fun σ3 H3 => i + 1 ≤ xs.length ∧ St (i + 1) σ3 H3, fun σ3 H3 z => ⟨xs.length - (i + 1), by omega, rfl, z.1, z.2⟩, fun x H'' y => ?_⟩
      have hx : xs[i]? = some xs[i] := by simp [hlt]
      obtain ⟨G', k3, k4⟩ := wk.yields i xs[i] s2 x H'' hx r2 lat (hC _ _ _ k2) y
      have e3 : Stp K B false s2 { s2 with G := G', H := H'' } := .of r2 k3
      have st : ∀ (s4 : Cs) (sa4 : Sg) (σ4 : L2.St), Rep K B s4 → Grw { s2 with G := G', H := H'' } s4 → SgR K s4 sa4 σ4 → I (i + 1) sa4 s4.A → i + 1 ≤ xs.length ∧ St (i + 1) σ4 s4.H := fun s4 sa4 σ4 r4 g4 q4 k4 => ⟨hlt, s4, sa4, rfl, r4, g2.trans (e3.grw.trans g4), q4, k4⟩
      refine hg (av := .pv xs[i]) e3.rep (q2.stp e3) k4 (fun s4 sa4 σ4 r4 g4 q4 _ k5 => ?_) (step i xs[i] sa2 s2.A hx k2)
      refine hb (Da := { Da with nx := I (i + 1), ct := I (i + 1), bk := Da.nx }) (D := { D with nx := fun σ3 H3 => i + 1 ≤ xs.length ∧ St (i + 1) σ3 H3, ct := fun σ3 H3 => i + 1 ≤ xs.length ∧ St (i + 1) σ3 H3, bk := D.nx }) h0 ⟨fun s5 sa5 σ5 r5 g5 q5 k => st s5 sa5 σ5 r5 (g4.trans g5) q5 k, fun s5 av v r5 g5 pv k => e.rt s5 av v r5 (e1.grw.trans (g2.trans (e3.grw.trans (g4.trans g5)))) pv k, fun s5 sa5 σ5 r5 g5 q5 k => e.nx s5 sa5 σ5 r5 (e1.grw.trans (g2.trans (e3.grw.trans (g4.trans g5)))) q5 k, fun s5 sa5 σ5 r5 g5 q5 k => st s5 sa5 σ5 r5 (g4.trans g5) q5 k⟩ r4 q4 k5
    · have e2 : i = xs.length := by omega
      subst e2
      exact .inl ⟨wk.stops s2 r2 lat (hC _ _ _ k2), e.nx s2 sa2 σ' r2 (e1.grw.trans g2) q2 (done _ _ k2)⟩) h
def aWhile (c : aTT) (b : aTS) : aTS := fun D sa A => ∃ I : Nat → Sg → Sto → Prop, (∃ m, I m sa A) ∧ ∀ m sa A, I m sa A → c sa A fun t A1 =>
  if t = true then b { D with nx := fun sa A => ∃ m', m' < m ∧ I m' sa A, ct := fun sa A => ∃ m', m' < m ∧ I m' sa A, bk := D.nx } sa A1 else D.nx sa A1
theorem sim_while (hc : SimT K false ca tt) (hb : SimS K n0 s1 t1) : SimS K n0 (aWhile ca s1) (tWhile tt t1) := fun {B s Da D} h0 e {sa σ} r gg h => by
  obtain ⟨I, ⟨m0, i0⟩, step⟩ := h
  refine ⟨fun k σ' H' => ∃ s2 sa2, s2.H = H' ∧ Rep K B s2 ∧ Grw s s2 ∧ SgR K s2 sa2 σ' ∧ I k sa2 s2.A, ⟨m0, s, sa, rfl, r, .refl _, gg, i0⟩, ?_⟩
  rintro k σ' H' ⟨s2, sa2, rfl, r2, g2, q2, k2⟩
  refine hc r2 q2 (fun t s3 e3 k3 => ?_) (step k sa2 s2.A k2)
  cases t with
  | true =>
    refine ⟨fun σ3 H3 => ∃ k', k' < k ∧ ∃ s4 sa4, s4.H = H3 ∧ Rep K B s4 ∧ Grw s s4 ∧ SgR K s4 sa4 σ3 ∧ I k' sa4 s4.A, fun σ3 H3 z => z, ?_⟩
    have st : ∀ (s4 : Cs) (sa4 : Sg) (σ4 : L2.St), Rep K B s4 → Grw s3 s4 → SgR K s4 sa4 σ4 → (∃ m', m' < k ∧ I m' sa4 s4.A) → ∃ k', k' < k ∧ ∃ s5 sa5, s5.H = s4.H ∧ Rep K B s5 ∧ Grw s s5 ∧ SgR K s5 sa5 σ4 ∧ I k' sa5 s5.A := fun s4 sa4 σ4 r4 g4 q4 ⟨m', h1, h2⟩ => ⟨m', h1, s4, sa4, rfl, r4, g2.trans (e3.grw.trans g4), q4, h2⟩
    exact hb (Da := { Da with nx := fun sa A => ∃ m', m' < k ∧ I m' sa A, ct := fun sa A => ∃ m', m' < k ∧ I m' sa A, bk := Da.nx }) (D := { D with nx := fun σ3 H3 => ∃ k', k' < k ∧ ∃ s4 sa4, s4.H = H3 ∧ Rep K B s4 ∧ Grw s s4 ∧ SgR K s4 sa4 σ3 ∧ I k' sa4 s4.A, ct := fun σ3 H3 => ∃ k', k' < k ∧ ∃ s4 sa4, s4.H = H3 ∧ Rep K B s4 ∧ Grw s s4 ∧ SgR K s4 sa4 σ3 ∧ I k' sa4 s4.A, bk := D.nx }) h0 ⟨st, fun s5 av v r5 g5 pv k => e.rt s5 av v r5 (g2.trans (e3.grw.trans g5)) pv k, fun s5 sa5 σ5 r5 g5 q5 k => e.nx s5 sa5 σ5 r5 (g2.trans (e3.grw.trans g5)) q5 k, st⟩ e3.rep (q2.stp e3) k3
  | false => exact e.nx s3 sa2 σ' e3.rep (g2.trans e3.grw) (q2.stp e3) k3
end
end TH
/-! What is walked; comprehensions; calls; defs. -/
namespace TH
open PySem PySem.Spec PyProof.Rows L2
variable [TC : TabC]
section
variable {K : PySem.W.Frag} {m ml : Bool} {a b c : aTE} {ta tb te tc : TE} {ca cb : aTT} {tt tu : TT} {n0 : Nat}
/-! ### what is walked -/
theorem Lat.refl (s : Cs) : Lat ml s s := ⟨.refl s, fun _ => ⟨rfl, rfl, rfl, fun _ _ z _ => z⟩⟩
theorem walk_lst {B : Bs} {s0 : Cs} {d : Addr} {xs : List PV} {C : Sto → Prop} (at' : ∀ s, Rep K B s → Lat ml s0 s → C s.A → ∃ vs, SqL K s.H d vs ∧ Al s.G (rPs K xs) vs) : WalkA K B ml (Itl K d) s0 xs C where
  goes := fun i s hi r l c => by
    obtain ⟨vs, h1, h2⟩ := at' s r l c
    have hi : i < vs.length := by rw [← h2.length, rPs_len]; exact hi
    exact ⟨vs, vs[i], h1, by simp [hi]⟩
  stops := fun s r l c => by
    obtain ⟨vs, h1, h2⟩ := at' s r l c
    exact ⟨vs, h1, by rw [← h2.length, rPs_len]; exact Nat.le_refl _⟩
  yields := fun i x s v H' hx r l c y => by
    obtain ⟨vs, h1, h2⟩ := at' s r l c
    obtain ⟨rfl, y⟩ := y
    obtain ⟨w, h3, h4⟩ := h2.get (r := rPV K x) (by rw [rPs_map, List.getElem?_map, hx]; rfl)
    have y := y vs h1
    rw [h3] at y
    cases y
    exact ⟨s.G, r.g0, h4⟩
/-- what is frozen, by a value or a place -/
def viewF (A : Sto) : AV → Option PV
  | .pv p => some p
  | .loc n p => match aoAt A n p with
    | some (.pv q) => some q
    | _ => none
theorem viewF_ok {B : Bs} {s : Cs} {x : AV} {v : V} {p : PV} (r : Rep K B s) (px : avR K s x v) (e : viewF s.A x = some p) : (rPV K p).P s.G v := by
  unfold viewF at e
  split at e
  · cases e; exact px
  · split at e
    · rename_i ea
      cases e
      obtain ⟨fp, h, _⟩ := r.sub px ea
      exact h.2
    · cases e
def aITup (a : aTE) : aTI := fun sa A k => a sa A fun x A1 => ∃ xs, viewF A1 x = some (.tup xs) ∧ k xs (fun _ => True) A1
/-- a list that is frozen, or is a thing of its own -/
def aIList (a : aTE) : aTI := fun sa A k => a sa A fun x A1 => match x with
  | .pv (.lst xs) => k xs (fun _ => True) A1
  | .loc n [] => ∃ xs, A1[n]? = some (.lst xs) ∧ k xs (fun A => A[n]? = some (.lst xs)) A1
  | _ => False
/-- .. a list anywhere, while nothing changes -/
def aIListP (a : aTE) : aTI := fun sa A k => a sa A fun x A1 => ∃ xs, viewL A1 x = some xs ∧ k xs (fun _ => True) A1
def numP : Nat → List PV → List PV
  | _, [] => []
  | i, x :: t => .tup [.v (.int (i : Nat)), x] :: numP (i + 1) t
theorem numP_len : ∀ (i : Nat) (xs : List PV), (numP i xs).length = xs.length
  | _, [] => rfl
  | i, x :: t => congrArg Nat.succ (numP_len (i + 1) t)
theorem numP_get : ∀ (n : Nat) (xs : List PV) (i : Nat), (numP n xs)[i]? = (xs[i]?).map fun x => .tup [.v (.int ((n + i : Nat) : Int)), x]
  | _, [], _ => rfl
  | n, x :: t, 0 => rfl
  | n, x :: t, i + 1 => by
    show (numP (n + 1) t)[i]? = (t[i]?).map _
    rw [numP_get (n + 1) t i, show n + 1 + i = n + (i + 1) by omega]
theorem num_yield {B : Bs} {s : Cs} {xs : List PV} {x : PV} {vs : List V} {i : Nat} {T : Addr} {v' : V} (r : Rep K B s) (al : Al s.G (rPs K xs) vs) (hx : (numP 0 xs)[i]? = some x) (hT : s.H T = none) (e : vs[i]? = some v') :
    ∃ G', Gr [] s.G s.H G' (upd s.H T (.tup [.int (i : Nat), v'])) ∧ (rPV K x).P G' (.ref T) := by
  rw [numP_get] at hx
  obtain ⟨y, h1, rfl⟩ := Option.map_eq_some_iff.mp hx
  obtain ⟨w, h3, h4⟩ := al.get (r := rPV K y) (by rw [rPs_map, List.getElem?_map, h1]; rfl)
  rw [e] at h3
  cases h3
  have c := Gr.new (W := []) r.le (o := .tup [.int (i : Nat), v']) hT
  refine ⟨_, c, T, _, rfl, .of upd_same, .cons ?_ (.cons ((rPV K y).mono c.gg h4) .nil)⟩
  show V.int (i : Nat) = V.int ((0 + i : Nat) : Int)
  rw [Nat.zero_add]
def aIEnum (a : aTE) : aTI := fun sa A k => a sa A fun x A1 => ∃ xs, viewF A1 x = some (.lst xs) ∧ k (numP 0 xs) (fun _ => True) A1
theorem sim_ienum (ha : SimE K m a ta) : SimI K m ml (aIEnum a) (iEnum K (tCons ta tNil)) := fun {B s sa σ} rp g {Kc R} q hh =>
  ha rp g (fun x v s1 e1 px k => by
    obtain ⟨xs, h1, h2⟩ := k
    obtain ⟨d, vs, rfl, h3, h4⟩ := viewF_ok e1.rep px h1
    have at' : ∀ s, Rep K B s → Lat ml s1 s → SqL K s.H d vs := fun s r l => .of (r.le.at (l.grw.le.at h3 nf_lst fun z => z) nf_lst fun z => z)
    have hl : vs.length = xs.length := by rw [← h4.length, rPs_len]
    refine ⟨d, vs, rfl, at' s1 e1.rep (.refl s1), q _ _ _ s1 e1 ⟨fun i s hi r l _ => ?_, fun s r l _ => ⟨vs, at' s r l, by rw [numP_len, hl]; exact Nat.le_refl _⟩, fun i x s v H' hx r l _ y => ?_⟩ trivial h2⟩
    · have hi : i < vs.length := by rw [numP_len] at hi; rw [hl]; exact hi
      exact ⟨vs, vs[i], at' s r l, by simp [hi]⟩
    · obtain ⟨T, x', rfl, hT, rfl, y⟩ := y
      exact num_yield r (h4.mono l.grw.le) hx hT (y vs (at' s r l))) hh
def aIEnumT (a : aTE) : aTI := fun sa A k => a sa A fun x A1 => ∃ xs, viewF A1 x = some (.tup xs) ∧ k (numP 0 xs) (fun _ => True) A1
theorem sim_ienumT (ha : SimE K m a ta) : SimI K m ml (aIEnumT a) (iEnumT K (tCons ta tNil)) := fun {B s sa σ} rp g {Kc R} q hh =>
  ha rp g (fun x v s1 e1 px k => by
    obtain ⟨xs, h1, h2⟩ := k
    obtain ⟨d, vs, rfl, h3, h4⟩ := viewF_ok e1.rep px h1
    have at' : ∀ s, Rep K B s → Lat ml s1 s → SqT K s.H d vs := fun s r l => r.le.seqT (l.grw.le.seqT h3)
    have hl : vs.length = xs.length := by rw [← h4.length, rPs_len]
    refine ⟨d, vs, rfl, at' s1 e1.rep (.refl s1), q _ _ _ s1 e1 ⟨fun i s hi r l _ => ?_, fun s r l _ => ⟨vs, at' s r l, by rw [numP_len, hl]⟩, fun i x s v H' hx r l _ y => ?_⟩ trivial h2⟩
    · have hi : i < vs.length := by rw [numP_len] at hi; rw [hl]; exact hi
      exact ⟨vs, vs[i], at' s r l, by simp [hi]⟩
    · obtain ⟨T, x', rfl, hT, rfl, y⟩ := y
      exact num_yield r (h4.mono l.grw.le) hx hT (y vs (at' s r l))) hh
def aIRng (a : aTE) : aTI := fun sa A k => a sa A fun x A1 => match x with
  | .pv (.v (.int j)) => (-(2 ^ 62) ≤ j ∧ j < 2 ^ 62) ∧ k ((List.range j.toNat).map fun i => .v (.int (i : Nat))) (fun _ => True) A1
  | _ => False
theorem sim_irng (ha : SimE K m a ta) : SimI K m ml (aIRng a) (iRng1 (tCons ta tNil)) := fun {B s sa σ} rp g {Kc R} q hh =>
  ha rp g (fun x v s1 e1 px k => by
    split at k
    · rename_i j
      obtain rfl : v = .int j := px
      refine ⟨j, rfl, k.1.1, k.1.2, q _ _ _ s1 e1 ⟨fun i s hi r l _ => ?_, fun s r l _ => ?_, fun i x s v H' hx r l _ y => ?_⟩ trivial k.2⟩
      · show i < j.toNat
        simpa using hi
      · show j.toNat ≤ _
        simp
      · obtain ⟨rfl, y⟩ := y
        rw [List.getElem?_map] at hx
        obtain ⟨n, h1, rfl⟩ := Option.map_eq_some_iff.mp hx
        have hn : n = i := by
          have := (List.getElem?_eq_some_iff.mp h1).2
          simpa using this.symm
        subst hn
        refine ⟨s.G, r.g0, ?_⟩
        show v = .int _
        rw [y]
        simp
    · exact k.elim) hh
/-- the signs of a text -/
def aIStr (a : aTE) : aTI := fun sa A k => a sa A fun x A1 => match x with
  | .pv (.v (.str z)) => k (z.cps.toList.map fun c => .v (.str ⟨#[c]⟩)) (fun _ => True) A1
  | _ => False
theorem sim_istr (ha : SimE K m a ta) : SimI K m ml (aIStr a) (iStr ta) := fun {B s sa σ} rp g {Kc R} q hh =>
  ha rp g (fun x v s1 e1 px k => by
    split at k
    · rename_i z
      obtain rfl : v = .str z := px
      have wk := walk_str (z := z)
      refine ⟨z, rfl, q _ _ _ s1 e1 ⟨fun i s hi r l _ => wk.goes i s.H (by simpa using hi) trivial, fun s r l _ => by rw [List.length_map, Array.length_toList]; exact wk.stops s.H trivial, fun i x s v H' hx r l _ y => ?_⟩ trivial k⟩
      have hi : i < z.cps.size := by
        have := (List.getElem?_eq_some_iff.mp hx).1
        simpa using this
      obtain ⟨rfl, c, e1, e2⟩ := wk.yields i s.H v H' hi trivial y
      rw [List.getElem?_map, Array.getElem?_toList, e1] at hx
      cases hx
      exact ⟨s.G, r.g0, e2⟩
    · exact k.elim) hh

/-! ### comprehensions -/
def aWipe (sa : Sg) : List Nat → Sg
  | [] => sa
  | v :: vs => (aWipe sa vs).set v none
theorem SgR.wipe {s : Cs} {sa : Sg} {σ : L2.St} (h : SgR K s sa σ) : ∀ vs, SgR K s (aWipe sa vs) (wipe σ vs)
  | [] => h
  | v :: vs => (SgR.wipe h vs).wipe1 v
/-- [e for x in xs if t] -/
def aLc (wi : aTI) (g : aTG) (ct : aTT) (e : aTE) (vs : List Nat) : aTN := fun sa A k => wi sa A fun xs C A1 => xs.length ≤ 100000 ∧ ∃ I : Nat → List PV → Sto → Prop, I 0 [] A1 ∧ (∀ i acc A, I i acc A → C A ∧ acc.length ≤ i) ∧
  (∀ i x acc A, xs[i]? = some x → I i acc A → g (.pv x) (aWipe sa vs) A fun sa2 A2 => ct sa2 A2 fun b A3 => if b = true then e sa2 A3 fun y A4 => ∃ p, y = .pv p ∧ I (i + 1) (acc ++ [p]) A4 else I (i + 1) acc A3) ∧
  ∀ acc A, I xs.length acc A → k (.lst acc) A
/-- target of a comprehension: names alone -/
def NamesG (K : PySem.W.Frag) (vs : List Nat) (a : aTG) (t : TG) : Prop := ∀ ⦃B : Bs⦄ ⦃s : Cs⦄ ⦃sa : Sg⦄ ⦃σ : L2.St⦄ ⦃av : AV⦄ ⦃v : V⦄, Rep K B s → SgR K s sa σ → avR K s av v → ∀ ⦃Ka : Sg → Sto → Prop⦄ ⦃Q : L2.St → Hp → Prop⦄, (∀ sa' σ', SgR K s sa' σ' → L2.wipe σ' vs = L2.wipe σ vs → Ka sa' s.A → Q σ' s.H) → a av sa s.A Ka → t v σ s.H Q
theorem ng_name {i : Nat} {vs : List Nat} (hi : i ∈ vs := by decide) : NamesG K vs (aName i) (gName i) := fun {B s sa σ av v} r g px {Ka Q} q h => by
  unfold aName at h
  split at h
  · exact h.elim
  · rename_i hx
    refine q _ _ (g.set i (px.toS ?_)) (wipe_set hi) h
    unfold AV.stable
    split
    · rename_i n f p
      exact absurd rfl (hx n f p)
    · rfl
theorem wipe_wipe : ∀ {vs us : List Nat} {σ : L2.St}, (∀ v ∈ vs, v ∈ us) → L2.wipe (L2.wipe σ vs) us = L2.wipe σ us
  | [], us, σ, _ => rfl
  | v :: vs, us, σ, h => by
    show L2.wipe ((L2.wipe σ vs).set v none) us = _
    rw [wipe_set (h v List.mem_cons_self), wipe_wipe fun w hw => h w (List.mem_cons_of_mem _ hw)]
theorem lc_at {wi : aTI} {ti : TI} {g : aTG} {tg : TG} {vs : List Nat} {B : Bs} {s : Cs} {sa : Sg} {σ : L2.St} (rp : Rep K B s) (gg : SgR K s sa σ)
    (hi : ∀ ⦃Kc : List PV → (Sto → Prop) → Sto → Prop⦄ ⦃R : It → Hp → Prop⦄, (∀ xs C J s', Stp K B m s s' → WalkA K B m J s' xs C → C s'.A → Kc xs C s'.A → R J s'.H) → wi sa s.A Kc → ti σ s.H R)
    (hg : NamesG K vs g tg) (hc : SimT K m ca tt) (he : SimE K m a ta) ⦃Kc : AO → Sto → Prop⦄ ⦃Q : VK⦄ (q : ∀ o v fp s', Stp K B m s s' → NewAt K s s' o v fp → Kc o s'.A → Q v s'.H) (hh : aLc wi g ca a vs sa s.A Kc) : tLc ti tg tt ta vs σ s.H Q :=
  hi (fun xs C J s1 e1 wk hC0 k D hD => by
    obtain ⟨hxs, I, i0, hI, step, done⟩ := k
    have off0 : ∀ n, n < s1.A.length → D ∉ s1.φ n := fun n hn z => e1.rep.there hn D z hD
    let St : Nat → Hp → Prop := fun i H' => ∃ (s2 : Cs) (acc : List PV) (vs' : List V), s2.H = H' ∧ Rep K B s2 ∧ Grw s1 s2 ∧ (∀ b, s1.H b ≠ none → s2.H b ≠ none) ∧ (m = true → s2.ι = s1.ι ∧ s2.A = s1.A ∧ s2.φ = s1.φ ∧ Gr [] s1.G s1.H s2.G s2.H) ∧ s2.H D = some (.lst vs') ∧ s2.G D = none ∧ (∀ n, n < s2.A.length → D ∉ s2.φ n) ∧ Al s2.G (rPs K acc) vs' ∧ I i acc s2.A
    have latof : ∀ {s2 : Cs}, Grw s1 s2 → (m = true → s2.ι = s1.ι ∧ s2.A = s1.A ∧ s2.φ = s1.φ ∧ Gr [] s1.G s1.H s2.G s2.H) → Lat m s1 s2 := fun g p => ⟨g, fun z => let ⟨p1, p2, p3, p4⟩ := p z; ⟨p1, p2, p3, fun b o hb t => p4.hhN b o hb (fun z => nomatch z) t⟩⟩
    have c0 := Gr.own (W := []) e1.rep.le (o := .lst []) hD
    refine ⟨fun i k H' => k = xs.length - i ∧ i ≤ xs.length ∧ St i H', ⟨xs.length, by simp, Nat.zero_le _, { s1 with G := s1.G, H := upd s1.H D (.lst []) }, [], [], rfl, e1.rep.pure c0, ⟨Le.refl _, List.prefix_refl _⟩, fun b h => c0.dm b h, fun _ => ⟨rfl, rfl, rfl, c0⟩, upd_same, e1.rep.le.free hD, off0, .nil, i0⟩, ?_⟩
    rintro i k H' ⟨rfl, hi, s2, acc, vs', rfl, r2, g2, dm2, p2, hD2, hG2, off2, al2, k2⟩
    obtain ⟨hC, hacc⟩ := hI _ _ _ k2
    by_cases hlt : i < xs.length
    · refine .inr ⟨wk.goes i s2 hlt r2 (latof g2 p2) hC, fun H3 => i + 1 ≤ xs.length ∧ St (i + 1) H3, fun H3 z => ⟨xs.length - (i + 1), by omega, rfl, z.1, z.2⟩, fun x H'' y => ?_⟩
      have hx : xs[i]? = some xs[i] := by simp [hlt]
      obtain ⟨G', k3, k4⟩ := wk.yields i xs[i] s2 x H'' hx r2 (latof g2 p2) hC y
      -- the state at the turn's begin
      have r3 := r2.pure k3
      obtain ⟨d1, d2⟩ := k3.loc hD2 hG2 fun z => nomatch z
      have g3 : Grw s2 { s2 with G := G', H := H'' } := ⟨k3.gg, List.prefix_refl _⟩
      refine hg (s := { s2 with G := G', H := H'' }) (av := .pv xs[i]) r3 (((gg.stp e1).grw (g2.trans g3)).wipe vs) k4 (fun sa4 σ4 q4 w4 k5 => ⟨by rw [w4]; exact wipe_wipe (fun _ z => z), ?_⟩) (step i xs[i] acc s2.A hx k2)
      refine hc (s := { s2 with G := G', H := H'' }) r3.start q4 (fun t s5 e5 k6 => ?_) k5
      have r5 := r3.rebase e5.rep
      obtain ⟨d3, d4⟩ := r3.stays e5.rep d1 d2 off2
      have off5 := r3.offs e5.rep d1 off2
      have dm5 : ∀ b, s1.H b ≠ none → s5.H b ≠ none := fun b hb => e5.dm b (k3.dm b (dm2 b hb))
      have p5 : m = true → s5.ι = s1.ι ∧ s5.A = s1.A ∧ s5.φ = s1.φ ∧ Gr [] s1.G s1.H s5.G s5.H := fun z => by
        obtain ⟨y1, y2, y3, y4⟩ := p2 z
        obtain ⟨z1, z2, z3, z4⟩ := e5.pure z
        exact ⟨z1.trans y1, z2.trans y2, z3.trans y3, y4.trans (k3.trans z4)⟩
      cases t with
      | true =>
        refine he (s := s5) r5.start (q4.stp e5) (fun y v s6 e6 py k7 => ?_) k6
        obtain ⟨p, rfl, k8⟩ := k7
        have r6 := r5.rebase e6.rep
        obtain ⟨d5, d6⟩ := r5.stays e6.rep d3 d4 off5
        have off6 := r5.offs e6.rep d3 off5
        have c6 := At.put (M := md0) r6.le' (o := .lst (vs' ++ [v])) d6 (by simp [md0])
        have fr6 : ∀ n, n < s6.A.length → ∀ b ∈ s6.φ n, b ≠ D := fun n hn b hb z => off6 n hn (z ▸ hb)
        have al6 := (al2.mono (k3.gg.trans (e5.le.trans e6.le)))
        have hlen : vs'.length = acc.length := by rw [← al2.length, rPs_len]
        refine ⟨vs', d5, Nat.lt_of_lt_of_le (show vs'.length < 100001 by omega) (by decide), hlt, { s6 with H := upd s6.H D (.lst (vs' ++ [v])) }, acc ++ [p], vs' ++ [v], rfl, ⟨r6.len, fun n o eo => ?_, r6.nd, r6.dj, r6.out, r6.fr, ?_, r6.pre, fun P hP => (r6.tabs P hP).go (Le.refl _) (upd_ne ((r6.tabs P hP).off d5)) (r6.tabs P hP).1⟩, ⟨g2.le.trans (k3.gg.trans (e5.le.trans e6.le)), g2.pre.trans (e5.pre.trans e6.pre)⟩, fun b hb => ?_, fun z => ?_, upd_same, d6, off6, ?_, k8⟩
        · obtain ⟨w, y1, y2⟩ := r6.at' n o eo
          have hn : n < s6.A.length := (List.getElem?_eq_some_iff.mp eo).1
          exact ⟨w, y1, aoR_frame y2 (Le.refl _) fun b hb => by show upd s6.H D _ b = _; rw [upd_ne (fr6 n hn b hb)]⟩
        · exact r6.gr.put (rp.back (e1.back hD)) d6
        · show upd s6.H D _ b ≠ none
          by_cases c : b = D
          · rw [c, upd_same]; exact fun z => nomatch z
          · rw [upd_ne c]; exact e6.dm b (dm5 b hb)
        · obtain ⟨y1, y2, y3, y4⟩ := p5 z
          obtain ⟨z1, z2, z3, z4⟩ := e6.pure z
          exact ⟨z1.trans y1, z2.trans y2, z3.trans y3, (y4.trans z4).put hD d6⟩
        · rw [rPs_app]
          exact al6.append (.cons py .nil)
      | false =>
        exact ⟨hlt, s5, acc, vs', rfl, r5, g2.trans (g3.trans e5.grw), dm5, p5, d3, d4, off5, al2.mono (k3.gg.trans e5.le), k6⟩
    · have e2 : i = xs.length := by omega
      subst e2
      refine .inl ⟨wk.stops s2 r2 (latof g2 p2) hC, q (.lst acc) (.ref D) [D] s2 ⟨e1.le.trans g2.le, e1.pre.trans g2.pre, fun b hb => dm2 b (e1.dm b hb), fun z => ?_, r2⟩ ⟨⟨D, vs', rfl, rfl, hD2, al2⟩, by simp, fun b hb => ?_, fun b hb => ?_, fun b hb => ?_⟩ (done acc s2.A k2)⟩
      · obtain ⟨y1, y2, y3, y4⟩ := p2 z
        obtain ⟨z1, z2, z3, z4⟩ := e1.pure z
        exact ⟨y1.trans z1, y2.trans z2, y3.trans z3, z4.trans y4⟩
      · rw [List.mem_singleton.mp hb]; exact e1.back hD
      · rw [List.mem_singleton.mp hb]; exact hG2
      · rw [List.mem_singleton.mp hb]; exact off2) hh
theorem sim_lc {wi : aTI} {ti : TI} {g : aTG} {tg : TG} {vs : List Nat} (hi : SimI K m m wi ti) (hg : NamesG K vs g tg) (hc : SimT K m ca tt) (he : SimE K m a ta) : SimN K m (aLc wi g ca a vs) (tLc ti tg tt ta vs) := fun {B s sa σ} rp gg {Kc Q} q hh =>
  lc_at rp gg (fun _ _ z => hi rp gg z) hg hc he q hh
end
end TH
/-! Calls; defs. -/
namespace TH
open PySem PySem.Spec PyProof.Rows L2
variable [TC : TabC]
/-- what a def tells: a value, one of the things that it was handed, a new thing -/
inductive Rt where
  | pv (p : PV)
  | loc (i : Nat)
  | new (o : AO)
/-- what a def asks and tells: the arguments (things by their numbers), the things handed in -/
abbrev AC := List AV → Sto → (Rt → Sto → Prop) → Prop
def retR (K : PySem.W.Frag) (s s' : Cs) : Rt → V → Prop
  | .pv p, v => (rPV K p).P s'.G v
  | .loc i, v => s.ι[i]? = some v
  | .new o, v => ∃ fp, NewAt K s s' o v fp
def spA (K : PySem.W.Frag) (ac : AC) : Sp := fun vs H Q _ => ∃ (s : Cs) (avs : List AV) (Kc : Rt → Sto → Prop), s.H = H ∧ Rep K (Bs.of s) s ∧ Paired (avS K s) avs vs ∧ ac avs s.A Kc ∧
  ∀ r v s', Rep K (Bs.of s) s' → s'.A.length = s.A.length → retR K s s' r v → Kc r s'.A → Q v s'.H
abbrev SpLe (a b : Sp) : Prop := ∀ vs H Q E, a vs H Q E → b vs H Q E
theorem SpLe.refl (a : Sp) : SpLe a a := fun _ _ _ _ h => h
section
variable {K : PySem.W.Frag} {m ml : Bool} {a b c : aTE} {ta tb te tc : TE} {n0 : Nat} {ac : AC} {sp : Sp} {t : TA} {r : aTA} {E : XK}
/-- no things handed in -/
def aCall0 (ac : AC) (r : aTA) : aTE := fun sa A k => r sa A fun avs A1 => ∃ ps, pvs avs = some ps ∧ ac (ps.map .pv) [] fun r _ => match r with
  | .pv p => k (.pv p) A1
  | _ => False
def aCall0N (ac : AC) (r : aTA) : aTN := fun sa A k => r sa A fun avs A1 => ∃ ps, pvs avs = some ps ∧ ac (ps.map .pv) [] fun r _ => match r with
  | .new o => k o A1
  | _ => False
theorem al_avS {s : Cs} : ∀ {ps : List PV} {vs : List V}, Al s.G (rPs K ps) vs → Paired (avS K s) (ps.map AV.pv) vs
  | [], _, .nil => .nil
  | p :: t, _, .cons h al => .cons h (al_avS al)
/-- the state that a def with no things sees -/
def Cs.none (s : Cs) : Cs := { s with ι := [], A := [], φ := fun _ => [] }
theorem Rep.none {B : Bs} {s : Cs} (r : Rep K B s) : Rep K (Bs.of s.none) s.none :=
  ⟨rfl, fun n o e => (by cases e), fun n h => (by cases h), fun m n h => (by cases h), fun n h => (by cases h), fun n h => (by cases h), .refl r.le, List.prefix_refl _, r.tabs⟩
theorem Rep.gr0 {s s' : Cs} (r' : Rep K (Bs.of s.none) s') : Gr [] s.G s.H s'.G s'.H := r'.gr
theorem call0_ok {B : Bs} {s : Cs} {vs : List V} {ps : List PV} (hsp : SpLe (spA K ac) sp) (r : Rep K B s) (al : Al s.G (rPs K ps) vs) {Kc : Rt → Sto → Prop} {Q : VK} (h : ac (ps.map .pv) [] Kc)
    (q : ∀ rv v s', Rep K (Bs.of s.none) s' → s'.A = [] → retR K s.none s' rv v → Kc rv [] → Q v s'.H) : sp vs s.H Q E :=
  hsp _ _ _ _ ⟨s.none, ps.map .pv, Kc, rfl, r.none, al_avS al, h, fun rv v s' r' hl hr k => by
    have e : s'.A = [] := List.length_eq_zero_iff.mp hl
    rw [e] at k
    exact q rv v s' r' e hr k⟩
theorem sim_call0 (hsp : SpLe (spA K ac) sp) (ha : SimA K m r t) : SimE K m (aCall0 ac r) (tCall sp [] E t) := fun {B s sa σ} rp g {Kc Q} q h =>
  ha rp g (fun avs vs s1 e1 ps k => by
    obtain ⟨qs, k1, k2⟩ := k
    show sp (vs ++ []) s1.H Q E
    rw [List.append_nil]
    refine call0_ok hsp e1.rep (pvs_al ps k1) k2 fun rv v s2 r2 hA hr k => ?_
    match rv, hr, k with
    | .pv p, hr, k => exact q (.pv p) v { s1 with G := s2.G, H := s2.H } (e1.trans (.of e1.rep r2.gr0)) hr k) h
theorem sim_call0N (hsp : SpLe (spA K ac) sp) (ha : SimA K m r t) : SimN K m (aCall0N ac r) (tCall sp [] E t) := fun {B s sa σ} rp g {Kc Q} q h =>
  ha rp g (fun avs vs s1 e1 ps k => by
    obtain ⟨qs, k1, k2⟩ := k
    show sp (vs ++ []) s1.H Q E
    rw [List.append_nil]
    refine call0_ok hsp e1.rep (pvs_al ps k1) k2 fun rv v s2 r2 hA hr k => ?_
    match rv, hr, k with
    | .new o, ⟨fp, n⟩, k =>
      have e2 := e1.trans (Stp.of (m := m) e1.rep r2.gr0)
      exact q o v fp { s1 with G := s2.G, H := s2.H } e2 ⟨n.is, n.nd, fun b hb => e1.back (n.nw b hb), n.out, fun b hb i hi z => e1.rep.there hi b z (n.nw b hb)⟩ k) h
/-! ### one thing handed in, as the first -/
/-- the state that a def sees that is handed the thing at a place -/
theorem one_start {G H : Hp} {v : V} {fp : List Addr} {o : AO} (h : aoR K G H o v fp) (nd : fp.Nodup) (out : ∀ b ∈ fp, G b = none) (le : Le G H) (tb : ∀ P ∈ TC.T, TabG G H P) : Rep K (Bs.of ⟨[v], fun _ => fp, [o], G, H⟩) ⟨[v], fun _ => fp, [o], G, H⟩ := by
  refine ⟨rfl, fun i u ei => ?_, fun _ _ => nd, fun i j hi hj ne => ?_, fun i hi b hb => out b hb, fun i hi b hb => .inl ⟨hi, hb⟩, .refl le, List.prefix_refl _, tb⟩
  · match i, ei with
    | 0, ei => cases ei; exact ⟨v, rfl, h⟩
    | i + 1, ei => simp at ei
  · have hi : i < 1 := hi
    have hj : j < 1 := hj
    omega
def aCall1 (ac : AC) (r : aTA) : aTE := fun sa A k => r sa A fun avs A1 => match avs with
  | .loc n p :: t => ∃ ps o, pvs t = some ps ∧ aoAt A1 n p = some o ∧ ac (.loc 0 [] :: ps.map .pv) [o] fun rv os => match rv, os with
    | .pv q, [o'] => k (.pv q) (aoSet A1 n p o')
    | _, _ => False
  | _ => False
theorem call1_ok {B : Bs} {s : Cs} {vs : List V} {ps : List PV} {n : Nat} {p : List Str} {v : V} {o : AO} (hsp : SpLe (spA K ac) sp) (r : Rep K B s) (hv : avR K s (.loc n p) v) (e : aoAt s.A n p = some o) (al : Al s.G (rPs K ps) vs) {Kc : Rt → Sto → Prop} {Q : VK} (h : ac (.loc 0 [] :: ps.map .pv) [o] Kc)
    (q : ∀ rv w o' s', Rep K B s' → Stp K B false s s' → s'.A = aoSet s.A n p o' → Kc rv [o'] → (match rv with | .pv x => (rPV K x).P s'.G w | .loc i => i = 0 → w = v | .new _ => True) → Q w s'.H) : sp (v :: vs) s.H Q E := by
  obtain ⟨fp, h1, hnd, _, hout, _, put⟩ := r.opn hv e
  have h2 := one_start h1 hnd hout r.le r.tabs
  refine hsp _ _ _ _ ⟨(⟨[v], fun _ => fp, [o], s.G, s.H⟩ : Cs), .loc 0 [] :: ps.map .pv, Kc, rfl, h2, .cons rfl (al_avS (s := ⟨[v], fun _ => fp, [o], s.G, s.H⟩) al), h, fun rv w s' r' hl hr k => ?_⟩
  obtain ⟨o', eo⟩ : ∃ o', s'.A = [o'] := by
    have hl : s'.A.length = 1 := hl
    match s'.A, hl with
    | [o'], _ => exact ⟨o', rfl⟩
  rw [eo] at k
  obtain ⟨v', y1, y2⟩ := r'.at' 0 o' (by rw [eo]; rfl)
  have y3 : s'.ι[0]? = some v := pre_get r'.pre (show [v][0]? = some v from rfl)
  rw [y3] at y1
  cases y1
  have hl0 : 0 < s'.A.length := by rw [eo]; exact Nat.zero_lt_one
  have gr : Gr fp s.G s.H s'.G s'.H := r'.gr.mono fun b hb => by
    obtain ⟨i, _, z⟩ := List.mem_flatMap.mp hb
    exact z
  obtain ⟨φ', z1, z2⟩ := put y2 (r'.nd 0 hl0) (fun b hb => (r'.fr 0 hl0 b hb).imp And.right id) (fun b hb => r'.out 0 hl0 b hb) gr
  refine q rv w o' { s with φ := φ', A := aoSet s.A n p o', G := s'.G, H := s'.H } z1 ⟨z2, List.prefix_refl _, gr.dm, fun z => (nomatch z), z1⟩ rfl k ?_
  match rv, hr with
  | .pv x, hr => exact hr
  | .loc i, hr =>
    intro hi
    subst hi
    have hr : [v][0]? = some w := hr
    exact (Option.some.inj hr).symm
  | .new _, _ => trivial
theorem sim_callH (hsp : SpLe (spA K ac) sp) (ha : SimA K false r t) : SimE K false (aCall1 ac r) (tCall sp [] E t) := fun {B s sa σ} rp g {Kc Q} q h =>
  ha rp g (fun avs vs s1 e1 ps k => by
    show sp (vs ++ []) s1.H Q E
    rw [List.append_nil]
    split at k
    · rename_i n p t
      obtain ⟨qs, o, k1, k2, k3⟩ := k
      cases ps with
      | cons hv pt =>
        refine call1_ok hsp e1.rep hv k2 (pvs_al pt k1) k3 fun rv w o' s2 r2 e2 hA k hr => ?_
        match rv, hr, k with
        | .pv x, hr, k => exact q (.pv x) w s2 (e1.off.trans e2) hr (by rw [hA]; exact k)
    · exact k.elim) h
/-! ### methods -/
/-- of a thing that never changes -/
def aMeth0 (C : Addr) (mt : Str) (ac : AC) (a : aTE) (r : aTA) : aTE := fun sa A k => a sa A fun x A1 => match x with
  | .pv (.ins D fs) => D = C ∧ fs.lookup mt = none ∧ r sa A1 fun avs A2 => ∃ ps, pvs avs = some ps ∧ ac (.pv (.ins C fs) :: ps.map .pv) [] fun rv _ => match rv with
    | .pv p => k (.pv p) A2
    | _ => False
  | _ => False
theorem for_none {G H : Hp} {f : Str} : ∀ {fs : List (Str × AO)} {vs : List (Str × V)} {fq : List Addr}, foR K G H fs vs fq → fs.lookup f = none → vs.lookup f = none
  | [], vs, fq, h, e => by rw [h.1]; rfl
  | (x, u) :: t, vs, fq, ⟨v, r, f1, f2, h1, h2, h3, h4⟩, e => by
    subst h1
    rw [List.lookup_cons] at e ⊢
    cases c : f == x with
    | true => rw [c] at e; cases e
    | false => rw [c] at e; exact for_none h4 e
/-- of a thing that may change -/
def aMeth1 (C : Addr) (mt : Str) (ac : AC) (a : aTE) (r : aTA) : aTE := fun sa A k => a sa A fun x A1 => match x with
  | .loc n p => ∃ fs, aoAt A1 n p = some (.ins C fs) ∧ fs.lookup mt = none ∧ r sa A1 fun avs A2 => ∃ ps o, pvs avs = some ps ∧ aoAt A2 n p = some o ∧ ac (.loc 0 [] :: ps.map .pv) [o] fun rv os => match rv, os with
    | .pv q, [o'] => k (.pv q) (aoSet A2 n p o')
    | _, _ => False
  | _ => False
/-- the arguments change nothing -/
theorem sim_meth1 {C : Addr} {mt : Str} (hsp : SpLe (spA K ac) sp) (ha : SimE K false a ta) (hr : SimA K true r t) : SimE K false (aMeth1 C mt ac a r) (tMeth C mt sp [] E ta t) := fun {B s sa σ} rp g {Kc Q} q h =>
  ha rp g (fun x vx s1 e1 px k => by
    split at k
    · rename_i n p
      obtain ⟨fs, k0, k1, k2⟩ := k
      obtain ⟨fp, ⟨d, dx, vs, fq, h1, h2, h3, h4⟩, _⟩ := e1.rep.sub px k0
      refine ⟨d, dx, vs, h1, h3, for_none h4 k1, hr e1.rep (g.stp e1) (fun avs ws s2 e2 ps k => ?_) k2⟩
      obtain ⟨qs, o, k4, k5, k6⟩ := k
      rw [List.append_nil]
      refine call1_ok hsp e2.rep (px.stp e2) k5 (pvs_al ps k4) k6 fun rv w o' s3 r3 e3 hA k hr => ?_
      match rv, hr, k with
      | .pv x, hr, k => exact q (.pv x) w s3 ((e1.off.trans e2.weak).trans e3) hr (by rw [hA]; exact k)
    · exact k.elim) h
/-! ### C(..) -/
def aMake (C : Addr) (ac : AC) (r : aTA) : aTN := fun sa A k => r sa A fun avs A1 => ∃ ps, pvs avs = some ps ∧ ac (.loc 0 [] :: ps.map .pv) [.ins C []] fun rv os => match rv, os with
  | .pv q, [o] => q = .v .non ∧ k o A1
  | _, _ => False
theorem sim_make {C : Addr} (hsp : SpLe (spA K ac) sp) (ha : SimA K m r t) : SimN K m (aMake C ac r) (tMake C sp [] E t) := fun {B s sa σ} rp g {Kc Q} q h =>
  ha rp g (fun avs vs s1 e1 ps k => fun x dx hx hdx ne => by
    obtain ⟨qs, k1, k2⟩ := k
    rw [List.append_nil]
    have al := pvs_al ps k1
    have g1 : Gr [] s1.G s1.H s1.G (upd s1.H dx (.own x)) := Gr.own e1.rep.le hdx
    have hx' : (upd s1.H dx (.own x)) x = none := by rw [upd_ne (Ne.symm ne)]; exact hx
    have g2 : Gr [] s1.G s1.H s1.G (upd (upd s1.H dx (.own x)) x (.ins C dx [])) := g1.trans (Gr.own g1.gh hx')
    have gx : s1.G x = none := e1.rep.le.free hx
    have st := one_start (K := K) (G := s1.G) (H := upd (upd s1.H dx (.own x)) x (.ins C dx [])) (v := .ref x) (fp := [x]) (o := .ins C []) ⟨x, dx, [], [], rfl, rfl, upd_same, rfl, rfl⟩ (by simp) (fun b hb => by rw [List.mem_singleton.mp hb]; exact gx) g2.gh (fun P hP => g2.tb P hP (fun z => nomatch z) (e1.rep.tabs P hP))
    refine hsp _ _ _ _ ⟨(⟨[.ref x], fun _ => [x], [.ins C []], s1.G, _⟩ : Cs), .loc 0 [] :: qs.map .pv, _, rfl, st, .cons rfl (al_avS (s := ⟨[.ref x], fun _ => [x], [.ins C []], s1.G, _⟩) al), k2, fun rv w s' r' hl hr k => ?_⟩
    obtain ⟨o', eo⟩ : ∃ o', s'.A = [o'] := by
      have hl : s'.A.length = 1 := hl
      match s'.A, hl with
      | [o'], _ => exact ⟨o', rfl⟩
    rw [eo] at k
    match rv, hr, k with
    | .pv y, hr, k =>
      obtain ⟨rfl, k⟩ := k
      obtain ⟨v', y1, y2⟩ := r'.at' 0 o' (by rw [eo]; rfl)
      have y3 : s'.ι[0]? = some (.ref x) := pre_get r'.pre (show [V.ref x][0]? = some (.ref x) from rfl)
      rw [y3] at y1
      cases y1
      have hl0 : 0 < s'.A.length := by rw [eo]; exact Nat.zero_lt_one
      have gr : Gr [] s1.G s1.H s'.G s'.H := g2.over r'.gr fun b hb => by
        obtain ⟨i, _, z⟩ := List.mem_flatMap.mp hb
        have z : b ∈ [x] := z
        rw [List.mem_singleton.mp z]
        exact .inr hx
      have nw : ∀ b ∈ s'.φ 0, s1.H b = none := fun b hb => by
        rcases r'.fr 0 hl0 b hb with ⟨_, z⟩ | z
        · have z : b ∈ [x] := z
          rw [List.mem_singleton.mp z]; exact hx
        · have z : (upd (upd s1.H dx (.own x)) x (.ins C dx [])) b = none := z
          cases c : s1.H b with
          | none => rfl
          | some o => exact absurd z (g2.dm b (by rw [c]; exact fun z => nomatch z))
      exact ⟨hr, q o' (.ref x) (s'.φ 0) { s1 with G := s'.G, H := s'.H } (e1.trans (.of e1.rep gr)) ⟨y2, r'.nd 0 hl0, fun b hb => e1.back (nw b hb), r'.out 0 hl0, fun b hb i hi z => e1.rep.there hi b z (nw b hb)⟩ k⟩) h
/-! ### defs -/
/-- return: a thing that the def made is frozen -/
def aRetZ (n0 : Nat) (e : aTE) : aTS := fun D sa A => e sa A fun av A1 => match av with
  | .pv p => D.rt (.pv p) A1
  | .loc n [] => ∃ o p, n0 ≤ n ∧ A1[n]? = some o ∧ o.fz = some p ∧ D.rt (.pv p) (A1.set n (.pv p))
  | _ => False
theorem sim_retZ (ha : SimE K false a ta) : SimS K n0 (aRetZ n0 a) (tRet ta) := fun {B s Da D} h0 e {sa σ} r gg h =>
  ha r gg (fun x v s1 e1 px k => by
    split at k
    · exact e.rt s1 _ v e1.rep e1.grw px k
    · rename_i n
      obtain ⟨o, p, k1, k2, k3, k4⟩ := k
      obtain ⟨s', r', g', hA, hH, hι⟩ := e1.rep.fix (by rw [h0]; exact k1) k2 k3
      rw [← hA] at k4
      rw [← hH]
      obtain ⟨w, y1, y2⟩ := r'.at' n (.pv p) (by rw [hA, List.getElem?_set, if_pos rfl, if_pos (List.getElem?_eq_some_iff.mp k2).1])
      obtain ⟨r0, z1, z2⟩ := px
      have z2 : v = r0 := z2
      subst z2
      rw [hι, z1] at y1
      cases y1
      exact e.rt s' (.pv p) v r' (e1.grw.trans g') y2.2 k4
    · exact k.elim) h
/-- what is wanted behind a def's body -/
def aEnd (n0 : Nat) (Kc : Rt → Sto → Prop) : AEnds where
  nx := fun _ A => Kc (.pv (.v .non)) (A.take n0)
  rt := fun av A => match av with
    | .pv p => Kc (.pv p) (A.take n0)
    | .loc n [] => if n < n0 then Kc (.loc n) (A.take n0) else ∃ o, A[n]? = some o ∧ Kc (.new o) (A.take n0)
    | .loc _ (_ :: _) => False
def startA (N : List Str) (avs : List AV) : Sg := avs.map some ++ List.replicate (N.length - avs.length) none
theorem startA_r {s : Cs} {N : List Str} {avs : List AV} {vs : List V} (h : Paired (avS K s) avs vs) : SgR K s (startA N avs) (L2.start N vs) := by
  have hl : avs.length = vs.length := h.length
  refine ⟨by unfold startA L2.start; simp [hl], fun i a e => ?_⟩
  unfold startA at e
  unfold L2.start
  by_cases c : i < avs.length
  · rw [List.getElem?_append_left (by simpa using c), List.getElem?_map] at e
    obtain ⟨x, h1, h2⟩ := Option.map_eq_some_iff.mp e
    cases h2
    have key : ∀ {avs : List AV} {vs : List V} {i : Nat} {a : AV}, Paired (avS K s) avs vs → avs[i]? = some a → ∃ v, vs[i]? = some v ∧ avS K s a v := by
      intro avs vs i a h
      induction h generalizing i with
      | nil => intro e; simp at e
      | cons p q ih =>
        intro e
        match i, e with
        | 0, e => cases e; exact ⟨_, rfl, p⟩
        | i + 1, e => exact ih (by simpa using e)
    obtain ⟨v, h3, h4⟩ := key h h1
    exact ⟨v, by rw [List.getElem?_append_left (by rw [List.length_map, ← hl]; exact c), List.getElem?_map, h3]; rfl, h4⟩
  · rw [List.getElem?_append_right (by simpa using Nat.le_of_not_lt c), List.getElem?_replicate] at e
    split at e
    · cases e
    · cases e
/-- behind the body: the def's own things are let go -/
theorem Rep.cut {s s' : Cs} (r : Rep K (Bs.of s) s') (h0 : s.A.length ≤ s'.A.length) (hl : s.ι.length = s.A.length) : Rep K (Bs.of s) { s' with ι := s'.ι.take s.A.length, A := s'.A.take s.A.length } := by
  have lt : ∀ {n}, n < (s'.A.take s.A.length).length → n < s'.A.length ∧ n < s.A.length := fun {n} h => by
    rw [List.length_take] at h
    omega
  refine ⟨by simp [r.len], fun n o e => ?_, fun n h => r.nd n (lt h).1, fun i j hi hj => r.dj i j (lt hi).1 (lt hj).1, fun n h => r.out n (lt h).1, fun n h => r.fr n (lt h).1, r.gr, ?_, r.tabs⟩
  · have e : (s'.A.take s.A.length)[n]? = some o := e
    have hn := (lt (List.getElem?_eq_some_iff.mp e).1).2
    rw [List.getElem?_take_of_lt hn] at e
    obtain ⟨v, h1, h2⟩ := r.at' n o e
    exact ⟨v, by show (s'.ι.take s.A.length)[n]? = some v; rw [List.getElem?_take_of_lt hn]; exact h1, h2⟩
  · obtain ⟨t, ht⟩ := r.pre
    have ht : s.ι ++ t = s'.ι := ht
    refine ⟨[], ?_⟩
    show s.ι ++ [] = s'.ι.take s.A.length
    rw [List.append_nil, ← ht, ← hl, List.take_left]
theorem Rep.more {s s' : Cs} (r : Rep K (Bs.of s) s') (hl : s.ι.length = s.A.length) : s.A.length ≤ s'.A.length := by
  obtain ⟨t, ht⟩ := r.pre
  have ht : s.ι ++ t = s'.ι := ht
  rw [← r.len, ← ht, List.length_append, hl]
  omega
end
section
variable {P : Program} {w : World} {K : PySem.W.Frag} {mg : Str → Option Value} {base : Heap} {x qual : Str} {params : Arguments} {body : List Stmt} {scope : Scope} {f : Addr} {fd : FuncData} {N ps : List Str} {k n0 : Nat} {ac : AC}
/-- a body's run, from what is promised -/
theorem fnA_core {at' : aTS} {t : TS} {vs : List V} {H : Hp} {Q : VK} {E : XK} (hlen : ∀ avs A Kc, ac avs A Kc → avs.length = ps.length ∧ A.length = n0) (hs : SimS K n0 at' t) (hrun : ∀ avs A Kc, ac avs A Kc → at' (aEnd n0 Kc) (startA N avs) A) (h : spA K ac vs H Q E) :
    t { nx := fun _ H' => Q .non H', rt := Q } (L2.start N vs) H := by
    obtain ⟨s0, avs, Kc, rfl, h2, h3, h4, h5⟩ := h
    obtain ⟨l1, l2⟩ := hlen _ _ _ h4
    have hl : s0.ι.length = s0.A.length := h2.len
    refine hs (Da := aEnd n0 Kc) (D := { nx := fun _ H' => Q .non H', rt := Q }) (by show s0.ι.length = n0; rw [hl, l2]) ⟨fun s1 sa σ r1 g1 q1 kk => ?_, fun s1 av v r1 g1 pv kk => ?_, fun s1 sa σ r1 g1 q1 kk => kk.elim, fun s1 sa σ r1 g1 q1 kk => kk.elim⟩ h2 (startA_r h3) (hrun _ _ _ h4)
    · have kk : Kc (.pv (.v .non)) (s1.A.take n0) := kk
      rw [← l2] at kk
      exact h5 (.pv (.v .non)) .non { s1 with ι := s1.ι.take s0.A.length, A := s1.A.take s0.A.length } (r1.cut (r1.more hl) hl) (by have := r1.more hl; show (s1.A.take s0.A.length).length = _; rw [List.length_take]; omega) rfl kk
    · have cut := r1.cut (r1.more hl) hl
      have cl : (s1.A.take s0.A.length).length = s0.A.length := by have := r1.more hl; rw [List.length_take]; omega
      match av, pv, kk with
      | .pv p, pv, kk =>
        have kk : Kc (.pv p) (s1.A.take n0) := kk
        rw [← l2] at kk
        exact h5 (.pv p) v { s1 with ι := s1.ι.take s0.A.length, A := s1.A.take s0.A.length } cut cl pv kk
      | .loc n [], pv, kk =>
        obtain ⟨r0, z1, z2⟩ := pv
        have z2 : v = r0 := z2
        subst z2
        have kk : if n < n0 then Kc (.loc n) (s1.A.take n0) else ∃ o, s1.A[n]? = some o ∧ Kc (.new o) (s1.A.take n0) := kk
        rw [← l2] at kk
        by_cases c : n < s0.A.length
        · rw [if_pos c] at kk
          refine h5 (.loc n) v { s1 with ι := s1.ι.take s0.A.length, A := s1.A.take s0.A.length } cut cl ?_ kk
          show s0.ι[n]? = some v
          have hn : n < s0.ι.length := by rw [hl]; exact c
          have e : s0.ι[n]? = some s0.ι[n] := by simp [hn]
          have e2 := pre_get (l' := s1.ι) r1.pre e
          rw [z1] at e2
          rw [e, e2]
        · rw [if_neg c] at kk
          obtain ⟨o, k1, k2⟩ := kk
          refine h5 (.new o) v { s1 with ι := s1.ι.take s0.A.length, A := s1.A.take s0.A.length } cut cl ?_ k2
          have hn : n < s1.A.length := (List.getElem?_eq_some_iff.mp k1).1
          obtain ⟨w', y1, y2⟩ := r1.at' n o k1
          rw [z1] at y1
          cases y1
          refine ⟨s1.φ n, y2, r1.nd n hn, fun b hb => ?_, r1.out n hn, fun b hb i hi z => ?_⟩
          · rcases r1.fr n hn b hb with ⟨q, _⟩ | q
            · have q : n < s0.ι.length := q
              omega
            · exact q
          · have hi : i < (s1.A.take s0.A.length).length := hi
            rw [cl] at hi
            exact r1.dj n i hn (by omega) (by omega) b hb z
/-- A DEF BY ITS BODY -/
theorem fnA {dvs : List V} {kws : List (Str × V)} (F : FunD K x qual params body scope dvs kws f fd) (S : FnScope N ps scope) {at' : aTS} (hlen : ∀ avs A Kc, ac avs A Kc → avs.length = ps.length ∧ A.length = n0)
    (hb : ∀ (cdv : Value) (A : Around) (outer : List PySem.Env) (s : Shared) (H : Hp) (E : XK), Room k (A.deeper (envOfC qual scope s.heap.objs.size f cdv)) → ∃ t, PSs (cxOf CX0 P w K mg base N qual scope f cdv A outer s H E).nox body t ∧ SimS K n0 at' t)
    (hrun : ∀ avs A Kc, ac avs A Kc → at' (aEnd n0 Kc) (startA N avs) A) : FnOk P w K mg base CX0 (k + 1) f fd ps (spA K ac) := by
  refine F.ok S (fun vs H Q E h => ?_) fun cdv A outer s H vs Q E hr h => ?_
  · obtain ⟨s, avs, Kc, _, _, h3, h4, _⟩ := h
    rw [← (hlen _ _ _ h4).1]
    exact h3.length.symm
  · obtain ⟨t, ht, hs⟩ := hb cdv A outer s H E hr
    exact ⟨t, ht.nox, fnA_core hlen hs hrun h⟩
end
end TH
/-! More: chains, dicts, lists that change, fields, numbers stored, data compared. -/
namespace TH
open PySem PySem.Spec PyProof.Rows L2
variable [TC : TabC]
section
variable {K : PySem.W.Frag} {m ml : Bool} {a b c : aTE} {ta tb te tc : TE} {ca cb : aTT} {tt tu : TT} {n0 : Nat} {r : aTA} {t : TA}
/-! ### a < b <= c of numbers -/
def aChain (g g' : Int → Int → Bool) (a b c : aTE) : aTE := fun sa A k => a sa A fun x A1 => b sa A1 fun y A2 => match x, y with
  | .pv (.v (.int i)), .pv (.v (.int j)) => if g i j = true then c sa A2 fun z A3 => match z with
      | .pv (.v (.int l)) => k (.pv (.v (.bl (g' j l)))) A3
      | _ => False
    else k (.pv (.v (.bl false))) A2
  | _, _ => False
theorem sim_chain {g g' : Int → Int → Bool} (ha : SimE K m a ta) (hb : SimE K m b tb) (hc : SimE K m c tc) : SimE K m (aChain g g' a b c) (tChain (rI0 fun i j => .bl (g i j)) (rI0 fun i j => .bl (g' i j)) ta tb tc) := fun {B s sa σ} rp gg {Kc Q} q h =>
  ha rp gg (fun x vx s1 e1 px ka => hb e1.rep (gg.stp e1) (fun y vy s2 e2 py k => by
    split at k
    · rename_i i j
      obtain rfl : vx = .int i := px
      obtain rfl : vy = .int j := py
      refine ⟨i, j, rfl, rfl, g i j, rfl, ?_⟩
      cases e : g i j with
      | true =>
        rw [e] at k
        rw [if_pos rfl] at k ⊢
        exact hc e2.rep (gg.stp (e1.trans e2)) (fun z vz s3 e3 pz k => by
          split at k
          · rename_i l
            obtain rfl : vz = .int l := pz
            exact ⟨j, l, rfl, rfl, q (.pv (.v (.bl (g' j l)))) _ s3 ((e1.trans e2).trans e3) rfl k⟩
          · exact k.elim) k
      | false =>
        rw [e] at k
        exact q (.pv (.v (.bl false))) _ s2 (e1.trans e2) rfl k
    · exact k.elim) ka) h
/-! ### dicts -/
def keyOf : V → Option Key
  | .int i => some (.inl i)
  | .str x => some (.inr x)
  | _ => none
def valP (kvs : List (Key × PV)) (k : Key) : Option PV := (kvs.find? fun kv => decide (kv.1 = k)).map (·.2)
def viewD (A : Sto) : AV → Option (List (Key × PV))
  | .pv (.dct kvs) => some kvs
  | .loc n p => match aoAt A n p with
    | some (.dK kvs) => some kvs
    | some (.pv (.dct kvs)) => some kvs
    | _ => none
  | _ => none
/-- d[k] -/
def aDGet (a b : aTE) : aTE := fun sa A k => a sa A fun x A1 => b sa A1 fun y A2 => match y with
  | .pv (.v u) => ∃ kvs key p, viewD A2 x = some kvs ∧ keyOf u = some key ∧ valP kvs key = some p ∧ k (.pv p) A2
  | _ => False
/-- k in d -/
def aDIn (neg : Bool) (b a : aTE) : aTE := fun sa A k => b sa A fun y A1 => a sa A1 fun x A2 => match y with
  | .pv (.v u) => ∃ kvs key, viewD A2 x = some kvs ∧ keyOf u = some key ∧ k (.pv (.v (.bl (if neg then !(valP kvs key).isSome else (valP kvs key).isSome)))) A2
  | _ => False
def putP (kvs : List (Key × PV)) (k : Key) (v : PV) : List (Key × PV) :=
  if (kvs.any fun kv => decide (kv.1 = k)) = true then kvs.map (fun kv => if kv.1 = k then (kv.1, v) else kv) else kvs ++ [(k, v)]
/-- one thing, a list or a dict, is written -/
theorem put1 {B : Bs} {s : Cs} (r : Rep K B s) {n : Nat} {p : List Str} {v : V} {u u' : AO} {d : Addr} {ho : HO} (px : avR K s (.loc n p) v) (e : aoAt s.A n p = some u) (hv : v = .ref d)
    (hu : ∀ fp, aoR K s.G s.H u v fp → fp = [d]) (h' : aoR K s.G (upd s.H d ho) u' v [d]) : ∃ φ', Rep K B { s with φ := φ', A := aoSet s.A n p u', H := upd s.H d ho } ∧ Stp K B false s { s with φ := φ', A := aoSet s.A n p u', H := upd s.H d ho } := by
  obtain ⟨φ', z1, z2⟩ := r.put (u' := u') (G' := s.G) (H' := upd s.H d ho) px e fun fp h1 h2 => by
    have := hu fp h1
    subst this
    have gd : s.G d = none := h2 d (List.mem_singleton.mpr rfl)
    have th : s.H d ≠ none := aoR_there h1 d (List.mem_singleton.mpr rfl)
    exact ⟨[d], h', by simp, fun b hb => .inl hb, fun b hb => by rw [List.mem_singleton.mp hb]; exact gd, Gr.putW (Gr.refl r.le) (List.mem_singleton.mpr rfl) gd⟩
  refine ⟨φ', z1, ⟨z2, List.prefix_refl _, fun b hb => ?_, fun z => (nomatch z), z1⟩⟩
  show upd s.H d ho b ≠ none
  by_cases c : b = d
  · rw [c, upd_same]; exact fun z => nomatch z
  · rw [upd_ne c]; exact hb
/-- d[k] = v -/
def aDPut (a b e : aTE) : aTS := fun D sa A => e sa A fun w A1 => a sa A1 fun x A2 => b sa A2 fun y A3 => match w, x, y with
  | .pv q, .loc n p, .pv (.v u) => ∃ kvs key, aoAt A3 n p = some (.dK kvs) ∧ keyOf u = some key ∧ kvs.length < 100000 ∧ D.nx sa (aoSet A3 n p (.dK (putP kvs key q)))
  | _, _, _ => False
/-! ### lists that change -/
def aApp (a e : aTE) : aTE := fun sa A k => a sa A fun x A1 => match x with
  | .loc n p => ∃ ys, aoAt A1 n p = some (.lst ys) ∧ e sa A1 fun y A2 => match y with
    | .pv q => ∃ xs, aoAt A2 n p = some (.lst xs) ∧ xs.length < 100000 ∧ k (.pv (.v .non)) (aoSet A2 n p (.lst (xs ++ [q])))
    | _ => False
  | _ => False
theorem app_ok {B : Bs} {s s2 : Cs} {n : Nat} {p : List Str} {q : PV} {xs : List PV} {vx vy : V} {k : AV → Sto → Prop} {Q : VK} (r2 : Rep K B s2) (e : Stp K B false s s2) (px : avR K s2 (.loc n p) vx) (py : (rPV K q).P s2.G vy) (k1 : aoAt s2.A n p = some (.lst xs)) (k2 : xs.length < 100000) (k3 : k (.pv (.v .non)) (aoSet s2.A n p (.lst (xs ++ [q]))))
    (hq : ∀ av v s', Stp K B false s s' → avR K s' av v → k av s'.A → Q v s'.H) : rAppend vx [vy] s2.H Q := by
  obtain ⟨fp, ⟨d, vs, h1, h2, h3, h4⟩, _⟩ := r2.sub px k1
  have hl : vs.length < sizeLine := by rw [← h4.length, rPs_len]; exact Nat.lt_of_lt_of_le k2 (by decide)
  obtain ⟨φ', r', st⟩ := put1 (u' := .lst (xs ++ [q])) (ho := .lst (vs ++ [vy])) r2 px k1 h1 (fun fp h => by
    obtain ⟨d', vs', z1, z2, _⟩ := h
    rw [h1] at z1
    cases z1
    exact z2) ⟨d, _, h1, rfl, upd_same, by rw [rPs_app]; exact h4.append (.cons py .nil)⟩
  exact ⟨d, vs, vy, h1, rfl, h3, hl, hq (.pv (.v .non)) .non _ (e.trans st) rfl k3⟩
theorem sim_app {e : aTE} (ha : SimE K false a ta) (he : SimE K true e te) : SimE K false (aApp a e) (tBM K "list" rAppend ta (tCons te tNil)) := fun {B s sa σ} rp gg {Kc Q} q h =>
  ha rp gg (fun x vx s1 e1 px k => by
    split at k
    · rename_i n p
      obtain ⟨ys, k0, k⟩ := k
      obtain ⟨fp, ⟨d, vs, h1, h2, h3, h4⟩, _⟩ := e1.rep.sub px k0
      refine ⟨by rw [h1]; exact .inl ⟨rfl, vs, .of h3⟩, he e1.rep (gg.stp e1) (fun y vy s2 e2 py k => ?_) k⟩
      split at k
      · rename_i w
        obtain ⟨xs, k1, k2, k3⟩ := k
        exact app_ok e2.rep (e1.off.trans e2.weak) (px.stp e2) py k1 k2 k3 q
      · exact k.elim
    · exact k.elim) h
theorem sim_appE {e : aTE} (hs : Stb a) (ha : SimE K false a ta) (he : SimE K false e te) : SimE K false (aApp a e) (tBM K "list" rAppend ta (tCons te tNil)) := fun {B s sa σ} rp gg {Kc Q} q h =>
  ha rp gg (fun x vx s1 e1 px k => by
    obtain ⟨st, k⟩ := k
    split at k
    · rename_i n p
      obtain ⟨ys, k0, k⟩ := k
      obtain ⟨fp, ⟨d, vs, h1, h2, h3, h4⟩, _⟩ := e1.rep.sub px k0
      refine ⟨by rw [h1]; exact .inl ⟨rfl, vs, .of h3⟩, he e1.rep (gg.stp e1) (fun y vy s2 e2 py k => ?_) k⟩
      split at k
      · rename_i w
        obtain ⟨xs, k1, k2, k3⟩ := k
        exact app_ok e2.rep (e1.off.trans e2.off) (px.stpS st e2) py k1 k2 k3 q
      · exact k.elim
    · exact k.elim) (hs sa s.A _ h)
/-! ### steadiness -/
theorem stb_var {i : Nat} : Stb (aVar i) := fun sa A k h => by
  unfold aVar at h ⊢
  split at h
  · exact ⟨rfl, h⟩
  · split at h
    · exact ⟨rfl, h⟩
    · exact ⟨rfl, h⟩
    · exact h.elim
  · exact h.elim
theorem stb_c {v : V} : Stb (aC v) := fun sa A k h => ⟨rfl, h⟩
theorem stb_fz {e : aTN} (mono : ∀ sa A k k', (∀ o A, k o A → k' o A) → e sa A k → e sa A k') : Stb (aFz e) := fun sa A k h => mono sa A _ _ (fun o A1 z => by
  cases ef : o.fz with
  | none => simp only [ef] at z
  | some p => simp only [ef] at z ⊢; exact ⟨rfl, z⟩) h
/-- an operation that gives values alone -/
def PvOp (f : aR2) : Prop := ∀ A x y k, f A x y k → f A x y fun z => z.stable = true ∧ k z
/-- weakening -/
def Mo (a : aTE) : Prop := ∀ sa A (k k' : AV → Sto → Prop), (∀ x A, k x A → k' x A) → a sa A k → a sa A k'
theorem mo_var {i : Nat} : Mo (aVar i) := fun sa A k k' w h => by
  unfold aVar at h ⊢
  split at h
  · exact w _ _ h
  · split at h
    · exact w _ _ h
    · exact w _ _ h
    · exact h.elim
  · exact h.elim
theorem mo_c {v : V} : Mo (aC v) := fun sa A k k' w h => w _ _ h
theorem stb_op {f : aR2} (ha : Mo a) (hb : Mo b) (hf : PvOp f) : Stb (aOp f a b) := fun sa A k h => ha sa A _ _ (fun x A1 h => hb sa A1 _ _ (fun y A2 h => hf A2 x y _ h) h) h
/-! ### x op= e, of a name -/
def aAug (i : Nat) (e : aTE) (f : aR2) : aTS := fun D sa A => aVar i sa A fun x A0 => e sa A0 fun y A1 => f A1 x y fun z => match z with
  | .pv p => D.nx (sa.set i (some (.pv p))) A1
  | _ => False
/-! ### a, b = e1, e2 -/
def aPar (i j : Nat) (r : aTA) : aTS := fun D sa A => r sa A fun avs A1 => match avs with
  | [.pv p, .pv q] => D.nx ((sa.set i (some (.pv p))).set j (some (.pv q))) A1
  | _ => False
/-! ### fields of things that change -/
def putFo (f : Str) (o : AO) : List (Str × AO) → List (Str × AO)
  | [] => [(f, o)]
  | (g, x) :: r => if g = f then (g, o) :: r else (g, x) :: putFo f o r
theorem foR_put {G H : Hp} {f : Str} {o : AO} {v : V} {fo : List Addr} (ho : aoR K G H o v fo) : ∀ {fs : List (Str × AO)} {vs : List (Str × V)} {fq : List Addr}, foR K G H fs vs fq → (fq ++ fo).Nodup →
    ∃ fq', foR K G H (putFo f o fs) (putF f v vs) fq' ∧ fq'.Nodup ∧ ∀ b ∈ fq', b ∈ fq ∨ b ∈ fo
  | [], vs, fq, h, nd => by
    rw [h.1, h.2] at *
    exact ⟨fo ++ [], ⟨v, [], fo, [], rfl, rfl, ho, rfl, rfl⟩, by simpa using nd, fun b hb => .inr (by simpa using hb)⟩
  | (g, x) :: t, vs, fq, ⟨w, r, f1, f2, h1, h2, h3, h4⟩, nd => by
    subst h1 h2
    rw [List.append_assoc, List.nodup_append] at nd
    obtain ⟨n1, n2, n3⟩ := nd
    unfold putFo putF
    by_cases c : g = f
    · rw [if_pos c, if_pos c]
      rw [List.nodup_append] at n2
      refine ⟨fo ++ f2, ⟨v, r, fo, f2, rfl, rfl, ho, h4⟩, List.nodup_append.mpr ⟨n2.2.1, n2.1, fun x hx y hy => (n2.2.2 y hy x hx).symm⟩, fun b hb => ?_⟩
      rcases List.mem_append.mp hb with z | z
      · exact .inr z
      · exact .inl (List.mem_append_right _ z)
    · rw [if_neg c, if_neg c]
      obtain ⟨fq', q1, q2, q3⟩ := foR_put ho h4 n2
      refine ⟨f1 ++ fq', ⟨w, _, f1, fq', rfl, rfl, h3, q1⟩, List.nodup_append.mpr ⟨n1, q2, fun x hx y hy => n3 x hx y ?_⟩, fun b hb => ?_⟩
      · rcases q3 y hy with z | z
        · exact List.mem_append_left _ z
        · exact List.mem_append_right _ z
      · rcases List.mem_append.mp hb with z | z
        · exact .inl (List.mem_append_left _ z)
        · rcases q3 b z with z | z
          · exact .inl (List.mem_append_right _ z)
          · exact .inr z
theorem foR_len {G H : Hp} : ∀ {fs : List (Str × AO)} {vs : List (Str × V)} {fq : List Addr}, foR K G H fs vs fq → vs.length = fs.length
  | [], vs, fq, h => by rw [h.1]; rfl
  | _ :: _, _, _, ⟨v, r, f1, f2, h1, h2, h3, h4⟩ => by rw [h1, List.length_cons, List.length_cons, foR_len h4]
/-- a field is written: a value, or a new thing (o at v, fo) -/
theorem put_fld {B : Bs} {s : Cs} (r : Rep K B s) {n : Nat} {p : List Str} {v w : V} {C d dx : Addr} {fs : List (Str × AO)} {vs : List (Str × V)} {f : Str} {o : AO} {fo : List Addr} (px : avR K s (.loc n p) v) (e : aoAt s.A n p = some (.ins C fs)) (hv : v = .ref d) (hd : s.H d = some (.ins C dx vs))
    (ho : aoR K s.G s.H o w fo) (nd : fo.Nodup) (off : ∀ b ∈ fo, ∀ i, i < s.A.length → b ∉ s.φ i) (out : ∀ b ∈ fo, s.G b = none) (nb : ∀ b ∈ fo, B.H b = none) :
    ∃ s' : Cs, Rep K B s' ∧ Grw s s' ∧ s'.A = aoSet s.A n p (.ins C (putFo f o fs)) ∧ s'.H = upd s.H d (.ins C dx (putF f w vs)) := by
  -- the new thing is a thing of its own for a while, then a part
  obtain ⟨o0, e1, e2⟩ := Option.bind_eq_some_iff.mp e
  obtain ⟨w0, h1, h2⟩ := r.at' n o0 e1
  obtain ⟨r', q1, q2⟩ := px
  rw [h1] at q1
  cases q1
  obtain ⟨pre, fp, post, z1, z2, z3⟩ := aoR_sub h2 q2 e2
  have hn : n < s.A.length := (List.getElem?_eq_some_iff.mp e1).1
  have nds := r.nd n hn
  rw [z1] at nds
  obtain ⟨d', dx', vs', fq, y1, y2, y3, y4⟩ := z2
  rw [hv] at y1
  cases y1
  rw [hd] at y3
  cases y3
  have hdφ : d ∈ s.φ n := by rw [z1, y2]; simp
  have gd : s.G d = none := r.out n hn d hdφ
  have dfo : d ∉ fo := fun z => off d z n hn hdφ
  have inφ : ∀ b, b ∈ pre ++ (fp ++ post) → b ∈ s.φ n := fun b hb => by rw [z1]; exact hb
  obtain ⟨n1, n2, n3⟩ := List.nodup_append.mp nds
  obtain ⟨n4, n5, n6⟩ := List.nodup_append.mp n2
  have n4' := n4
  rw [y2, List.nodup_cons] at n4'
  have nfq : (fq ++ fo).Nodup := List.nodup_append.mpr ⟨n4'.2, nd, fun x hx y hy z => off y hy n hn (by rw [← z]; exact inφ x (by rw [y2]; simp [hx]))⟩
  have up : ∀ b, b ≠ d → upd s.H d (.ins C dx (putF f w vs)) b = s.H b := fun b hb => upd_ne hb
  have y4' : foR K s.G (upd s.H d (.ins C dx (putF f w vs))) fs vs fq := foR_frame y4 (Le.refl _) fun b hb => up b fun z => n4'.1 (z ▸ hb)
  have ho' : aoR K s.G (upd s.H d (.ins C dx (putF f w vs))) o w fo := aoR_frame ho (Le.refl _) fun b hb => up b fun z => dfo (z ▸ hb)
  obtain ⟨fq', k1, k2, k3⟩ := foR_put (f := f) ho' y4' nfq
  have hd' : d ∉ fq' := fun z => by
    rcases k3 d z with q | q
    · exact n4'.1 q
    · exact dfo q
  have new : aoR K s.G (upd s.H d (.ins C dx (putF f w vs))) (.ins C (putFo f o fs)) v (d :: fq') := ⟨d, dx, _, fq', hv, rfl, upd_same, k1⟩
  have pp : ∀ b ∈ pre ++ post, b ≠ d := fun b hb z => by
    subst z
    rcases List.mem_append.mp hb with q | q
    · exact n3 b q b (List.mem_append_left _ (by rw [y2]; simp)) rfl
    · exact n6 b (by rw [y2]; simp) b q rfl
  have hs : aoSet s.A n p (.ins C (putFo f o fs)) = s.A.set n (aoPut (.ins C (putFo f o fs)) p o0) := by unfold aoSet; rw [e1]
  have mem' : ∀ b, b ∈ pre ++ ((d :: fq') ++ post) → b ∈ s.φ n ∨ b ∈ fo := fun b hb => by
    rcases List.mem_append.mp hb with q | q
    · exact .inl (inφ b (by simp [q]))
    · rcases List.mem_append.mp q with q | q
      · rcases List.mem_cons.mp q with q | q
        · rw [q]; exact .inl hdφ
        · rcases k3 b q with q | q
          · exact .inl (inφ b (by rw [y2]; simp [q]))
          · exact .inr q
      · exact .inl (inφ b (by simp [q]))
  refine ⟨{ s with φ := fun i => if i = n then pre ++ ((d :: fq') ++ post) else s.φ i, A := aoSet s.A n p (.ins C (putFo f o fs)), H := upd s.H d (.ins C dx (putF f w vs)) }, ⟨?_, fun i u ei => ?_, fun i hi => ?_, fun i j hi hj ne b hb hb' => ?_, fun i hi b hb => ?_, fun i hi b hb => ?_, ?_, r.pre, fun P hP => (r.tabs P hP).go (Le.refl _) (upd_ne ((r.tabs P hP).off hd)) (r.tabs P hP).1⟩, ⟨Le.refl _, List.prefix_refl _⟩, rfl, rfl⟩
  · show s.ι.length = (aoSet s.A n p _).length
    rw [hs, List.length_set]; exact r.len
  · have ei : (aoSet s.A n p (.ins C (putFo f o fs)))[i]? = some u := ei
    rw [hs, List.getElem?_set] at ei
    by_cases c : n = i
    · subst c
      rw [if_pos rfl, if_pos hn] at ei
      cases ei
      refine ⟨w0, h1, ?_⟩
      show aoR K _ _ _ _ (if n = n then _ else _)
      rw [if_pos rfl]
      exact z3 (Le.refl _) (fun b hb => up b (pp b hb)) new
    · rw [if_neg c] at ei
      obtain ⟨x, a1, a2⟩ := r.at' i u ei
      refine ⟨x, a1, ?_⟩
      show aoR K _ _ _ _ (if i = n then _ else _)
      rw [if_neg (Ne.symm c)]
      have hi : i < s.A.length := (List.getElem?_eq_some_iff.mp ei).1
      exact aoR_frame a2 (Le.refl _) fun b hb => up b fun z => r.dj i n hi hn (Ne.symm c) b hb (z ▸ hdφ)
  · have hi : i < (aoSet s.A n p (.ins C (putFo f o fs))).length := hi
    rw [hs, List.length_set] at hi
    show (if i = n then _ else _ : List Addr).Nodup
    by_cases c : i = n
    · rw [if_pos c]
      have ap : ∀ b, b ∈ fo → b ∉ s.φ n := fun b hb => off b hb n hn
      refine List.nodup_append.mpr ⟨n1, List.nodup_append.mpr ⟨List.nodup_cons.mpr ⟨hd', k2⟩, n5, fun x hx y hy z => ?_⟩, fun x hx y hy z => ?_⟩
      · subst z
        rcases List.mem_cons.mp hx with q | q
        · exact pp x (List.mem_append_right _ hy) q
        · rcases k3 x q with q | q
          · exact n6 x (by rw [y2]; simp [q]) x hy rfl
          · exact ap x q (inφ x (by simp [hy]))
      · subst z
        rcases List.mem_append.mp hy with q | q
        · rcases List.mem_cons.mp q with q | q
          · exact pp x (List.mem_append_left _ hx) q
          · rcases k3 x q with q | q
            · exact n3 x hx x (List.mem_append_left _ (by rw [y2]; simp [q])) rfl
            · exact ap x q (inφ x (by simp [hx]))
        · exact n3 x hx x (List.mem_append_right _ q) rfl
    · rw [if_neg c]; exact r.nd i hi
  · have hi : i < (aoSet s.A n p (.ins C (putFo f o fs))).length := hi
    have hj : j < (aoSet s.A n p (.ins C (putFo f o fs))).length := hj
    rw [hs, List.length_set] at hi hj
    have hb : b ∈ (if i = n then pre ++ ((d :: fq') ++ post) else s.φ i) := hb
    have hb' : b ∈ (if j = n then pre ++ ((d :: fq') ++ post) else s.φ j) := hb'
    by_cases c : i = n
    · rw [if_pos c] at hb
      rw [if_neg (fun z => ne (c.trans z.symm))] at hb'
      rcases mem' b hb with q | q
      · exact r.dj n j hn hj (fun z => ne (c.trans z)) b q hb'
      · exact off b q j hj hb'
    · rw [if_neg c] at hb
      by_cases c2 : j = n
      · rw [if_pos c2] at hb'
        rcases mem' b hb' with q | q
        · exact r.dj i n hi hn c b hb q
        · exact off b q i hi hb
      · rw [if_neg c2] at hb'
        exact r.dj i j hi hj ne b hb hb'
  · have hi : i < (aoSet s.A n p (.ins C (putFo f o fs))).length := hi
    rw [hs, List.length_set] at hi
    have hb : b ∈ (if i = n then pre ++ ((d :: fq') ++ post) else s.φ i) := hb
    show s.G b = none
    by_cases c : i = n
    · rw [if_pos c] at hb
      rcases mem' b hb with q | q
      · exact r.out n hn b q
      · exact out b q
    · rw [if_neg c] at hb; exact r.out i hi b hb
  · have hi : i < (aoSet s.A n p (.ins C (putFo f o fs))).length := hi
    rw [hs, List.length_set] at hi
    have hb : b ∈ (if i = n then pre ++ ((d :: fq') ++ post) else s.φ i) := hb
    by_cases c : i = n
    · rw [if_pos c] at hb
      rcases mem' b hb with q | q
      · rw [c]; exact r.fr n hn b q
      · exact .inr (nb b q)
    · rw [if_neg c] at hb; exact r.fr i hi b hb
  · rcases r.fr n hn d hdφ with ⟨q1, q2⟩ | q
    · exact r.gr.putW (Bs.inW q1 q2) gd
    · exact r.gr.put q gd
/-- o.f = e -/
def aSFld (C : Addr) (f : Str) (a e : aTE) : aTS := fun D sa A => e sa A fun y A1 => a sa A1 fun x A2 => match x, y with
  | .loc n p, .pv q => ∃ fs, aoAt A2 n p = some (.ins C fs) ∧ fs.length < 1000 ∧ D.nx sa (aoSet A2 n p (.ins C (putFo f (.pv q) fs)))
  | _, _ => False
theorem sim_sfld {C : Addr} {f : Str} {e : aTE} (hc : Cls K C) (hn : NoAttr K C f) (he : SimE K false e te) (ha : SimE K true a ta) : SimS K n0 (aSFld C f a e) (sFld K ta te f) := fun {B s Da D} h0 ed {sa σ} rp gg h =>
  he rp gg (fun y vy s1 e1 py ka => ha e1.rep (gg.stp e1) (fun x vx s2 e2 px k => by
    split at k
    · rename_i n p q
      obtain ⟨fs, k1, k2, k3⟩ := k
      obtain ⟨fp, ⟨d, dx, vs, fq, h1, h2, h3, h4⟩, _⟩ := e2.rep.sub px k1
      have py2 : (rPV K q).P s2.G vy := (rPV K q).mono e2.le py
      obtain ⟨s', r', g', hA, hH⟩ := put_fld (f := f) (o := .pv q) (fo := []) (w := vy) e2.rep px k1 h1 h3 ⟨rfl, py2⟩ List.nodup_nil (fun b hb => (nomatch hb)) (fun b hb => (nomatch hb)) (fun b hb => (nomatch hb))
      refine ⟨d, C, dx, vs, h1, h3, hc, hn, by rw [foR_len h4]; exact k2, ?_⟩
      rw [← hH]
      exact ed.nx s' sa σ r' ((e1.grw.trans e2.grw).trans g') (((gg.stp e1).stp e2).grw g') (by rw [hA]; exact k3)
    · exact k.elim) ka) h
/-- o.f = a new thing -/
def aSFldN (C : Addr) (f : Str) (a : aTE) (e : aTN) : aTS := fun D sa A => e sa A fun o A1 => a sa A1 fun x A2 => match x with
  | .loc n p => ∃ fs, aoAt A2 n p = some (.ins C fs) ∧ fs.length < 1000 ∧ D.nx sa (aoSet A2 n p (.ins C (putFo f o fs)))
  | _ => False
end
end TH
/-! Data compared; slices; constants; sets of texts; ways to use the readings. -/
namespace TH
open PySem PySem.Spec PyProof.Rows L2
variable [TC : TabC]
/-! ### data -/
def vdat : V → Option PyData
  | .non => some .none
  | .bl b => some (.bool b)
  | .int i => some (.int i)
  | .str x => some (.str x)
  | _ => none
def PV.dat : PV → Option PyData
  | .v x => vdat x
  | .tup xs => (dats xs).map .tuple
  | .lst xs => (dats xs).map .list
  | .dct _ => none
  | .ins _ _ => none
  | .rel _ => none
where
  dats : List PV → Option (List PyData)
    | [] => some []
    | p :: t => match PV.dat p, dats t with
      | some d, some r => some (d :: r)
      | _, _ => none
theorem dats_cons {p : PV} {t : List PV} {d : PyData} {r : List PyData} (h1 : p.dat = some d) (h2 : PV.dat.dats t = some r) : PV.dat.dats (p :: t) = some (d :: r) := by
  simp only [PV.dat.dats, h1, h2]
theorem dats_map {α : Type} {f : α → PV} {g : α → PyData} (h : ∀ x, (f x).dat = some (g x)) : ∀ xs : List α, PV.dat.dats (xs.map f) = some (xs.map g)
  | [] => rfl
  | x :: t => dats_cons (h x) (dats_map h t)
section
variable {K : PySem.W.Frag} {m ml : Bool} {a b c : aTE} {ta tb te tc : TE} {n0 : Nat}
theorem vdat_ok {H : Hp} {x : V} {d : PyData} (e : vdat x = some d) : Dp K H x d := by
  cases x <;> first | (cases e; first | exact .non | exact .bl _ | exact .int _ | exact .str _) | cases e
mutual
theorem dat_ok {G H : Hp} : ∀ {p : PV} {v : V} {d : PyData}, (rPV K p).P G v → p.dat = some d → Le G H → Dp K H v d
  | .v x, v, d, h, e, le => by rw [show v = x from h]; exact vdat_ok e
  | .dct _, v, d, h, e, le => by cases e
  | .ins _ _, v, d, h, e, le => by cases e
  | .rel _, v, d, h, e, le => by cases e
  | .tup xs, v, d, ⟨a, vs, h1, h2, h3⟩, e, le => by
    obtain ⟨ds, e1, e2⟩ := Option.map_eq_some_iff.mp (show (PV.dat.dats xs).map PyData.tuple = some d from e)
    subst e2 h1
    exact .tup (le.seqT h2) (dats_ok h3 e1 le)
  | .lst xs, v, d, ⟨a, vs, h1, h2, h3⟩, e, le => by
    obtain ⟨ds, e1, e2⟩ := Option.map_eq_some_iff.mp (show (PV.dat.dats xs).map PyData.list = some d from e)
    subst e2 h1
    exact .lst (.of (le.at h2 nf_lst fun z => z)) (dats_ok h3 e1 le)
theorem dats_ok {G H : Hp} : ∀ {xs : List PV} {vs : List V} {ds : List PyData}, Al G (rPs K xs) vs → PV.dat.dats xs = some ds → Le G H → DpAll K H vs ds
  | [], vs, ds, h, e, le => by cases e; cases h; exact .nil
  | p :: t, vs, ds, h, e, le => by
    cases h with
    | cons h t' =>
      cases e1 : p.dat with
      | none => simp only [PV.dat.dats, e1] at e; cases e
      | some d =>
        cases e2 : PV.dat.dats t with
        | none => simp only [PV.dat.dats, e1, e2] at e; cases e
        | some r =>
          simp only [PV.dat.dats, e1, e2] at e
          cases e
          exact .cons (dat_ok h e1 le) (dats_ok t' e2 le)
end
def viewDat (A : Sto) : AV → Option PyData
  | .pv p => p.dat
  | .loc n p => match aoAt A n p with
    | some (.lst xs) => (PV.dat.dats xs).map .list
    | some (.pv q) => q.dat
    | _ => none
theorem viewDat_ok {B : Bs} {s : Cs} {x : AV} {v : V} {d : PyData} (r : Rep K B s) (px : avR K s x v) (e : viewDat s.A x = some d) : Dp K s.H v d := by
  unfold viewDat at e
  split at e
  · exact dat_ok px e r.le
  · split at e
    · rename_i ea
      obtain ⟨ds, e1, e2⟩ := Option.map_eq_some_iff.mp e
      obtain ⟨fp, ⟨a, vs, h1, h2, h3, h4⟩, _⟩ := r.sub px ea
      subst e2 h1
      exact .lst (.of h3) (dats_ok h4 e1 r.le)
    · rename_i ea
      obtain ⟨fp, ⟨h1, h2⟩, _⟩ := r.sub px ea
      exact dat_ok h2 e r.le
    · cases e
def fEqD : aR2 := fun A x y k => ∃ d e, viewDat A x = some d ∧ viewDat A y = some e ∧ SeqAt.shaped d = true ∧ SeqAt.shaped e = true ∧ k (.pv (.v (.bl (PyData.eqv d e))))
def fNeD : aR2 := fun A x y k => ∃ d e, viewDat A x = some d ∧ viewDat A y = some e ∧ SeqAt.shaped d = true ∧ SeqAt.shaped e = true ∧ k (.pv (.v (.bl (!PyData.eqv d e))))
theorem ops_eqD : OpS K fEqD (rEqD K) := fun {B s x y vx vy} r px py {k Q} q h => by
  obtain ⟨d, e, h1, h2, h3, h4, h5⟩ := h
  exact ⟨d, e, viewDat_ok r px h1, viewDat_ok r py h2, h3, h4, q (.pv (.v (.bl _))) _ _ _ r.g0 rfl h5⟩
theorem ops_neD : OpS K fNeD (rNeD K) := fun {B s x y vx vy} r px py {k Q} q h => by
  obtain ⟨d, e, h1, h2, h3, h4, h5⟩ := h
  exact ⟨d, e, viewDat_ok r px h1, viewDat_ok r py h2, h3, h4, q (.pv (.v (.bl _))) _ _ _ r.g0 rfl h5⟩
/-! ### slices -/
def aPO0 : Sg → Sto → (Option Int → Sto → Prop) → Prop := fun _ A k => k none A
def aPO (a : aTE) : Sg → Sto → (Option Int → Sto → Prop) → Prop := fun sa A k => a sa A fun x A1 => match x with
  | .pv (.v (.int i)) => k (some i) A1
  | _ => False
abbrev aTO := Sg → Sto → (Option Int → Sto → Prop) → Prop
def cutP (xs : List PV) (lo hi : Option Int) : List PV := (xs.drop (HT.sIx xs.length 0 lo)).take (HT.sIx xs.length xs.length hi - HT.sIx xs.length 0 lo)
def aSlT (a : aTE) (l h : aTO) : aTE := fun sa A k => a sa A fun x A1 => l sa A1 fun lo A2 => h sa A2 fun hi A3 => ∃ xs, viewF A3 x = some (.tup xs) ∧ k (.pv (.tup (cutP xs lo hi))) A3
def aSlL (a : aTE) (l h : aTO) : aTN := fun sa A k => a sa A fun x A1 => l sa A1 fun lo A2 => h sa A2 fun hi A3 => ∃ xs, viewL A3 x = some xs ∧ k (.lst (cutP xs lo hi)) A3
def aRevL (a : aTE) : aTN := fun sa A k => a sa A fun x A1 => ∃ xs, viewL A1 x = some xs ∧ k (.lst xs.reverse) A1
theorem sim_dnew : SimN K m (fun _ A k => k (.dK []) A) tDNewK := fun {B s sa σ} rp g {Kc Q} q h p hp =>
  have n : NewH K s s.G (upd s.H p (.dK [])) (.dK []) (.ref p) [p] := ⟨Gr.own rp.le hp, ⟨p, [], rfl, rfl, upd_same, .nil⟩, by simp, fun b hb => by rw [List.mem_singleton.mp hb]; exact hp, fun b hb => by rw [List.mem_singleton.mp hb]; exact rp.le.free hp⟩
  q _ _ _ _ (n.at (m := m) rp (.refl rp)).1 (n.at (m := m) rp (.refl rp)).2 h
end
/-! ### ways to use: loops, comprehensions -/
/-- [e for x in xs if t]: each item gives its own -/
theorem lc_of {α : Type} {g : aTG} {ct : aTT} {e : aTE} {vs : List Nat} {C : Sto → Prop} {A : Sto} {sa : Sg} {k : AO → Sto → Prop} (l : List α) (enc : α → PV) (f : α → Bool) (q : α → PV) (hC : C A)
    (h : ∀ x ∈ l, ∀ (N1 : PV → Sto → Prop) (N2 : Sto → Prop), (f x = true → N1 (q x) A) → (f x = false → N2 A) → g (.pv (enc x)) (aWipe sa vs) A fun sa2 A2 => ct sa2 A2 fun b A3 => if b = true then e sa2 A3 fun y A4 => ∃ p, y = .pv p ∧ N1 p A4 else N2 A3)
    (hl : l.length ≤ 100000) (hk : k (.lst ((l.filter f).map q)) A) : (l.map enc).length ≤ 100000 ∧ ∃ I : Nat → List PV → Sto → Prop, I 0 [] A ∧ (∀ i acc A, I i acc A → C A ∧ acc.length ≤ i) ∧
      (∀ i x acc A, (l.map enc)[i]? = some x → I i acc A → g (.pv x) (aWipe sa vs) A fun sa2 A2 => ct sa2 A2 fun b A3 => if b = true then e sa2 A3 fun y A4 => ∃ p, y = .pv p ∧ I (i + 1) (acc ++ [p]) A4 else I (i + 1) acc A3) ∧
      ∀ acc A, I (l.map enc).length acc A → k (.lst acc) A := by
  refine ⟨by rw [List.length_map]; exact hl, fun i acc A' => A' = A ∧ i ≤ l.length ∧ acc = ((l.take i).filter f).map q, ⟨rfl, Nat.zero_le _, rfl⟩, fun i acc A' ⟨h1, h2, h3⟩ => ⟨h1 ▸ hC, ?_⟩, fun i x acc A' hx ⟨h1, h2, h3⟩ => ?_, fun acc A' ⟨h1, h2, h3⟩ => ?_⟩
  · rw [h3, List.length_map]
    refine Nat.le_trans (List.length_filter_le _ _) ?_
    rw [List.length_take]
    omega
  · subst h1 h3
    rw [List.getElem?_map] at hx
    obtain ⟨y, hy, rfl⟩ := Option.map_eq_some_iff.mp hx
    have hi := (List.getElem?_eq_some_iff.mp hy).1
    have et : l.take (i + 1) = l.take i ++ [y] := by rw [List.take_add_one, hy]; rfl
    refine h y (List.mem_of_getElem? hy) (fun p A4 => A4 = A' ∧ i + 1 ≤ l.length ∧ ((l.take i).filter f).map q ++ [p] = ((l.take (i + 1)).filter f).map q) _ (fun ef => ⟨rfl, hi, ?_⟩) fun ef => ⟨rfl, hi, ?_⟩
    · rw [et, List.filter_append, List.map_append, List.filter_cons, if_pos ef]
      rfl
    · rw [et, List.filter_append, List.map_append, List.filter_cons, if_neg (by rw [ef]; decide)]
      exact (List.append_nil _).symm
  · subst h1 h3
    rw [List.length_map, List.take_length]
    exact hk
/-- [e for x in xs] -/
theorem lc_map {α : Type} {g : aTG} {e : aTE} {vs : List Nat} {C : Sto → Prop} {A : Sto} {sa : Sg} {k : AO → Sto → Prop} (l : List α) (enc : α → PV) (q : α → PV) (hC : C A)
    (h : ∀ x ∈ l, ∀ (N1 : PV → Sto → Prop), N1 (q x) A → g (.pv (enc x)) (aWipe sa vs) A fun sa2 A2 => e sa2 A2 fun y A4 => ∃ p, y = .pv p ∧ N1 p A4)
    (hl : l.length ≤ 100000) (hk : k (.lst (l.map q)) A) : (l.map enc).length ≤ 100000 ∧ ∃ I : Nat → List PV → Sto → Prop, I 0 [] A ∧ (∀ i acc A, I i acc A → C A ∧ acc.length ≤ i) ∧
      (∀ i x acc A, (l.map enc)[i]? = some x → I i acc A → g (.pv x) (aWipe sa vs) A fun sa2 A2 => aYes sa2 A2 fun b A3 => if b = true then e sa2 A3 fun y A4 => ∃ p, y = .pv p ∧ I (i + 1) (acc ++ [p]) A4 else I (i + 1) acc A3) ∧
      ∀ acc A, I (l.map enc).length acc A → k (.lst acc) A :=
  lc_of (ct := aYes) l enc (fun _ => true) q hC (fun x hx N1 N2 h1 _ => h x hx N1 (h1 rfl)) hl (by rw [List.filter_eq_self.mpr fun _ _ => rfl]; exact hk)
theorem alc_map {α : Type} {wi : aTI} {g : aTG} {e : aTE} {vs : List Nat} {C : Sto → Prop} {A : Sto} {sa : Sg} {k : AO → Sto → Prop} (l : List α) (enc : α → PV) (q : α → PV) (hs : ∀ Kc : List PV → (Sto → Prop) → Sto → Prop, Kc (l.map enc) C A → wi sa A Kc) (hC : C A)
    (h : ∀ x ∈ l, ∀ (N1 : PV → Sto → Prop), N1 (q x) A → g (.pv (enc x)) (aWipe sa vs) A fun sa2 A2 => e sa2 A2 fun y A4 => ∃ p, y = .pv p ∧ N1 p A4)
    (hl : l.length ≤ 100000) (hk : k (.lst (l.map q)) A) : aLc wi g aYes e vs sa A k := hs _ (lc_map l enc q hC h hl hk)
theorem atI_zero {α : Type} {x : α} {t : List α} : atI (x :: t) 0 = some x := by
  unfold atI ixN
  rw [if_pos (by omega), if_pos (by rw [List.length_cons]; omega)]
  rfl
theorem atI_nat {α : Type} {xs : List α} {i : Nat} {x : α} (h : xs[i]? = some x) : atI xs (i : Int) = some x := by
  have hi := (List.getElem?_eq_some_iff.mp h).1
  unfold atI ixN
  rw [if_pos (by omega), if_pos (by omega)]
  exact h
theorem scalS {a b : Str} : scal (.str a) (.str b) = true := rfl
theorem scalI {a b : Int} : scal (.int a) (.int b) = true := rfl
theorem scalB {a b : Bool} : scal (.bl a) (.bl b) = true := rfl
theorem inV_s (x : Str) (xs : List Str) : inV (.str x) (xs.map V.str) = decide (x ∈ xs) := inV_strs x xs
theorem vals_s (xs : List Str) : vals (xs.map fun x => PV.v (.str x)) = some (xs.map V.str) := vals_map V.str xs
theorem vals_s' (xs : List Str) : vals (xs.map PV.str) = some (xs.map V.str) := vals_map V.str xs
theorem flat_s (xs : List Str) : (xs.map V.str).all flatV = true := flat_strs xs
theorem flat_1 {x : Str} : flatV (.str x) = true := rfl
end TH
/-! More readings where a token is out: operations, tests, targets, loops, comprehensions, methods. -/
namespace TH
open PySem PySem.Spec PyProof.Rows L2
variable [TC : TabC]
section
variable {α : Type} {M : Model} {Ar : Around} {t : Sem α} {Q Q' : α → Shared → Prop} {E : Value → Shared → Prop} {s : Shared}
/-- a token stays out -/
theorem keepT (h0 : 1 ≤ s.toks) (h : wpAny M Ar t Q E s) (k : ∀ a s', 1 ≤ s'.toks → Q a s' → Q' a s') : wpAny M Ar t Q' E s :=
  wpAny_mono (PySem.wpAny_toks_of h0 h) (fun a s' z => k a s' z.1 z.2) fun _ _ z => z.2
theorem keepM {E' : Value → Shared → Prop} (h0 : 1 ≤ s.toks) (h : wpAny M Ar t Q E s) (k : ∀ a s', 1 ≤ s'.toks → Q a s' → Q' a s') (kx : ∀ e s', E e s' → E' e s') : wpAny M Ar t Q' E' s :=
  wpAny_mono (PySem.wpAny_toks_of h0 h) (fun a s' z => k a s' z.1 z.2) fun e s' z => kx e s' z.2
theorem keepF (h0 : 1 ≤ s.toks) (h : wpAny M Ar t Q (fun _ _ => False) s) (k : ∀ a s', 1 ≤ s'.toks → Q a s' → Q' a s') : wpAny M Ar t Q' E s :=
  wpAny_mono (PySem.wpAny_toks_of h0 h) (fun a s' z => k a s' z.1 z.2) fun _ _ z => z.2.elim
end
section
variable {X : Cx} {a b c o : Expr} {ta tb te tc : TE} {pos apos pos' : Pos} {tt tu : TT} {ts tz : TS}
/-- two in a row -/
theorem pairT (ha : PET X a ta) (hb : PET X b tb) {pins : List (Addr × Obj)} {s : Shared} {σ : L2.St} {H : Hp} {R : V → V → Hp → Prop} (h0 : 1 ≤ s.toks) (I : Inv X pins σ H s) (h : ta σ H fun x H1 => tb σ H1 fun y H2 => R x y H2)
    {α : Type} {Q : α → Shared → Prop} {f : Value → Value → Sem α} (hf : ∀ v u s2 x y H2, 1 ≤ s2.toks → Inv X pins σ H2 s2 → RelV x v → RelV y u → R x y H2 → wpAny (model X.prog X.w) X.A (f v u) Q X.xe s2) :
    wpAny (model X.prog X.w) X.A (eval a X.env) (fun v s₁ => wpAny (model X.prog X.w) X.A (eval b X.env) (fun u s₂ => wpAny (model X.prog X.w) X.A (f v u) Q X.xe s₂) X.xe s₁) X.xe s :=
  keepT h0 (ha pins s σ H _ h0 I h) fun v s1 k1 ⟨x, H1, I1, r1, q1⟩ => keepT k1 (hb pins s1 σ H1 _ k1 I1 q1) fun u s2 k2 ⟨y, H2, I2, r2, q2⟩ => hf v u s2 x y H2 k2 I2 r1 r2 q2
theorem ptt_cmpR {op : CmpOp} {r : R2} (ho : OpR X (compareOp op) r) (ha : PET X a ta) (hb : PET X b tb) (hm : behindInMarks op b = false) : PTT X (.Compare a [op] [b] pos) (tTest (tOp r ta tb)) := fun pins s σ H Q h0 I h => by
  refine wpAny_isTrue_Compare1 (pairT ha hb h0 I h fun v u s2 x y H2 _ I2 rx ry q => thn (ho pins s2 σ H2 x y v u _ I2 rx ry q) fun cv s3 ⟨z, H3, I3, r3, kk, e, q3⟩ => ?_) hm
  subst e
  cases r3
  exact wpAny_truthy_bool ⟨H3, I3, q3⟩
theorem ptt_val (h : PET X a ta) (he : ∀ whole, isTrue a X.env whole = (do let v ← whole; standAt a.pos; holding [v] (truthy v)) := by intro _; rfl) : PTT X a (tB ta) := fun pins s σ H Q h0 I q => by
  refine isTrue_plain (thn (h pins s σ H _ h0 I q) fun v s1 ⟨x, H1, I1, r1, q1⟩ => ?_) (he _)
  obtain ⟨d, rfl, q1⟩ := q1
  cases r1
  exact wpAny_truthy_bool ⟨H1, I1, q1⟩
theorem ptt_not (ha : PTT X a tt) : PTT X (.UnaryOp .Not a pos) (tNot tt) := fun pins s σ H Q h0 I h => isTrue_not (ha pins s σ H (fun d H1 => Q (!d) H1) h0 I h)
variable {rest : List Expr}
/-! ### statements -/
/-- for, its body where a token is out -/
theorem pst_forT {tg iter : Expr} {body : List Stmt} {wi : TI} {g : TG} (own : PassesOwn (model X.prog X.w) X.A X.env X.xe) (calm : X.calm = true) (src : PIT X tg iter wi) (hg : PG X tg g) (hb : PSsT X body ts)
    (plain : ∀ x, foldedSetIterable iter X.env x = pure x := by intro _; rfl) : PST X (.For tg iter body [] pos) (tFor wi g ts) := fun pins s σ H D h0 I h => by
  refine wpAny_For (keepT h0 (src pins s σ H _ h0 I h) fun v s1 k1 z1 => keepT k1 z1 fun itv s2 k2 z2 => ?_) plain
  obtain ⟨it, fp, tn, J, H2, rfl, I2, T, at2, free2, W, ⟨m0, w0⟩, turn⟩ := z2
  have fpok : ∀ {H' : Hp}, (∀ b ∈ fp, H' b = none) → ∀ b ∈ fp, FpOk X pins H' b := fun hn b hb => ⟨hn b hb, (free2 b hb).2⟩
  refine codeAny_forLoop_any (fun n s' => 1 ≤ s'.toks ∧ ∃ i σ' H', Inv X pins σ' H' s' ∧ tn i s'.heap ∧ (∀ b ∈ fp, H' b = none) ∧ W i n σ' H') ?_ m0 ⟨k2, 0, σ, H2, I2, at2, fun b hb => (free2 b hb).1, w0⟩
  rintro n s3 ⟨k3, i, σ3, H3, I3, at3, free3, w3⟩
  rcases turn i n σ3 H3 w3 with ⟨stops, fin⟩ | ⟨goes, N, back, step⟩
  · refine wpAny_passesOwn own (thn (T.done X rfl rfl rfl calm i pins s3 σ3 H3 X.xe I3 (fpok free3) at3 stops) fun res s4 ⟨er, I4⟩ => ?_)
    subst er
    exact wpAny_execs_nil ⟨σ3, H3, I4, fin⟩
  · refine wpAny_passesOwn own (keepT k3 (T.item X rfl rfl rfl calm i pins s3 σ3 H3 X.xe I3 (fpok free3) at3 goes) fun res s4 k4 ⟨u, er, z4⟩ => ?_)
    subst er
    refine wpAny_passesOwn own (keepT k4 z4 fun _ s5 k5 ⟨x, H5, I5, r5, y5, at5, free5⟩ => ?_)
    have J5 := I5.pinned (fpok free5) (T.obj _ _ at5)
    refine wpAny_passesOwn own (keepT k5 (hg.run _ s5 σ3 H5 x u _ J5 r5 (step x H5 y5)) fun _ s6 k6 ⟨σ6, H6, I6, q6⟩ => ?_)
    refine wpAny_passesOwn own (keepT k6 (hb _ s6 σ6 H6 _ k6 I6 q6) fun fl s7 k7 q7 => ?_)
    have next : ∀ {σ7 : L2.St} {H7 : Hp}, Inv X (pins ++ pinsAt fp s5.heap) σ7 H7 s7 → N σ7 H7 → ∃ m, m < n ∧ 1 ≤ s7.toks ∧ ∃ i σ' H', Inv X pins σ' H' s7 ∧ tn i s7.heap ∧ (∀ b ∈ fp, H' b = none) ∧ W i m σ' H' := fun {σ7 H7} I7 n7 => by
      obtain ⟨m', lt, w7⟩ := back σ7 H7 n7
      have pinned : ∀ b ∈ fp, ∀ ob, s5.heap.get? b = some ob → s7.heap.get? b = some ob ∧ H7 b = none := fun b hb ob e =>
        have z := I7.pin (b, ob) (List.mem_append_right _ (List.mem_append_right _ (mem_pinsAt hb e)))
        ⟨z.1, z.2.1⟩
      exact ⟨m', lt, k7, i + 1, σ7, H7, I7.unpinned, T.keep _ _ _ at5 fun b hb ob e => (pinned b hb ob e).1, fun b hb => let ⟨ob, e, _⟩ := T.obj _ _ at5 b hb; (pinned b hb ob e).2, w7⟩
    cases fl with
    | ret v => obtain ⟨x7, σ7, H7, I7, r7, z7⟩ := q7; exact ⟨x7, σ7, H7, I7.unpinned, r7, z7⟩
    | brk => obtain ⟨σ7, H7, I7, z7⟩ := q7; exact ⟨σ7, H7, I7.unpinned, z7⟩
    | cont => obtain ⟨σ7, H7, I7, n7⟩ := q7; exact next I7 n7
    | next => obtain ⟨σ7, H7, I7, n7⟩ := q7; exact next I7 n7
theorem PIT.of {tg iter : Expr} {wi : TI} (h : PI X tg iter wi) : PIT X tg iter wi := fun pins s σ H R _ I q => h.run pins s σ H R I q
/-! ### [e for x in xs if t], a token out -/
def PTsT (X : Cx) (l : List Expr) (t : TT) : Prop := ∀ (pins : List (Addr × Obj)) (s : Shared) (σ : L2.St) (H : Hp) (Q : Bool → Hp → Prop), 1 ≤ s.toks → Inv X pins σ H s → t σ H Q →
  wpAny (model X.prog X.w) X.A (forIn l true fun c r => if r = true then do let ok ← isTrue c X.env (eval c X.env); pure (ForInStep.yield ok) else pure (ForInStep.yield r)) (TP X pins σ Q) X.xe s
theorem PTsT.of {l : List Expr} (h : PTs X l tt) : PTsT X l tt := fun pins s σ H Q _ I q => h.run pins s σ H Q I q
section
variable {elt tg iter : Expr} {ifs : List Expr} {scope : Scope} {own : List (Str × Nat)} {wi : TI} {g : TG} {te : TE}
theorem lcT {pins : List (Addr × Obj)} {s : Shared} {σ : L2.St} {H : Hp} {Q : VK} {use : Option (Value → Sem Unit)} {Qf : Value → Shared → Prop} (calm : X.calm = true) (nodup : X.N.Nodup) (h0 : 1 ≤ s.toks) (I : Inv X pins σ H s) (src : PIT X tg iter wi) (ok : BlkOk X.N X.env.scope scope own)
    (hg : ∀ (s : Shared) (H : Hp) (C : Addr) (cl : List (Str × Addr)) (fp : List Addr), PG (X.blk s H scope (compEnvC scope cl C X.env) fp) tg g) (ht : ∀ (s : Shared) (H : Hp) (C : Addr) (cl : List (Str × Addr)) (fp : List Addr), PTsT (X.blk s H scope (compEnvC scope cl C X.env) fp) ifs tt)
    (he : ∀ (s : Shared) (H : Hp) (C : Addr) (cl : List (Str × Addr)) (fp : List Addr), PET (X.blk s H scope (compEnvC scope cl C X.env) fp) elt te) (plain : ∀ x, foldedSetIterable iter X.env x = pure x) (h : tLc wi g tt te (own.map (·.2)) σ H Q)
    (done : ∀ D C s' m H', 1 ≤ s'.toks → Inv X pins σ H' s' → Q (.ref D) H' → s'.heap.Ns C m → FpOk X pins H' C → compPost (model X.prog X.w) X.A X.xe use Qf (.ref D) C (.ok .next) s') :
    wpAny (model X.prog X.w) X.A (comprehension (.ListComp elt [⟨tg, iter, ifs, 0⟩] scope pos) scope X.env pos' (newList []) false (eval iter X.env) use) Qf X.xe s := by
  have frees : ∀ y ∈ scope.names, y.2 = .free → ∃ c, X.env.cells.lookup y.1 = some c := fun y hy e => I.ok.has _ (ok.free y hy e)
  refine wpAny_comprehension_free (use := use) rfl plain (closure_ok frees) ok.kind (fun y hy e => by rw [ok.uniq y hy, e]) (keepT h0 (src pins s σ H _ h0 I h) fun xv s1 k1 hx => keepT k1 hx fun itv s2 k2 h2 => ?_)
  obtain ⟨it, fp, tn, J, H2, eit, I2, T, at2, free2, q⟩ := h2
  subst eit
  refine wpAny_newObj_type (newEnv_comp ?_) (show 0 ≤ sizeLine by decide)
  generalize eD : s2.heap.objs.size = D
  have freeD : H2 D = none := I2.hok.fresh (Nat.le_of_eq eD)
  obtain ⟨W, ⟨m0, w0⟩, turn⟩ := q D freeD
  -- the new list is made
  generalize e3 : ({ s2 with heap := s2.heap.push { cls := .type "list", data := .seq ([] : List Value).toArray } } : Shared) = s3
  have k3 : 1 ≤ s3.toks := by rw [← e3]; exact k2
  have heap3 : s3.heap = s2.heap.push { cls := .type "list", data := .seq ([] : List Value).toArray } := by rw [← e3]
  have I3 : Inv X pins σ (upd H2 D (.lst [])) s3 := by
    rw [← e3]
    exact I2.laid (t' := s2.toks) (fun b o e => Heap.get?_push_of_some _ e) (Nat.le_of_eq eD) ⟨Nat.zero_le _, [], 0, .nil, by rw [← eD]; exact Heap.get?_push_size _ rfl⟩
  have small : ∀ b ∈ fp, b < s2.heap.objs.size := fun b hb => let ⟨o, e, _⟩ := T.obj _ _ at2 b hb; Heap.lt_size e
  have free3 : ∀ b ∈ fp, FpOk X pins (upd H2 D (.lst [])) b ∧ b < s3.heap.objs.size := fun b hb => by
    have lt := small b hb
    refine ⟨⟨?_, (free2 b hb).2⟩, by rw [heap3, Heap.size_push]; exact Nat.lt_succ_of_lt lt⟩
    rw [upd_ne (show b ≠ D by rw [← eD]; exact Nat.ne_of_lt lt)]
    exact (free2 b hb).1
  have at3 : tn 0 s3.heap := T.keep _ _ _ at2 fun b _ o e => by rw [heap3]; exact Heap.get?_push_of_some _ e
  have I4 := block_start I3 ok nodup free3
  generalize ecl : cellsFrom (s3.heap.objs.size + 1) scope.names (cloFrom X.env.cells scope.names []) = cl at I4 ⊢
  have pg := hg s3 (upd H2 D (.lst [])) s3.heap.objs.size cl fp
  have pt := ht s3 (upd H2 D (.lst [])) s3.heap.objs.size cl fp
  have pe := he s3 (upd H2 D (.lst [])) s3.heap.objs.size cl fp
  show codeAny _ _ (.compStart (.ListComp elt [⟨tg, iter, ifs, 0⟩] scope pos) 0 (.ref it) (.ref D) (compEnvC scope cl s3.heap.objs.size X.env)) (compPost (model X.prog X.w) X.A X.xe use Qf (.ref D) s3.heap.objs.size) { s3 with heap := pushCells (s3.heap.push { cls := .type "dict", data := .dict #[] }) scope.names }
  have nofp : ∀ b ∈ fp, (upd H2 D (.lst [])) b = none := fun b hb => (free3 b hb).1.1
  generalize ece : compEnvC scope cl s3.heap.objs.size X.env = ce at I4 pg pt pe ⊢
  have locals : ce.locals = s3.heap.objs.size := by subst ece; rfl
  generalize eH3 : upd H2 D (.lst []) = H3 at I3 I4 pg pt pe w0 nofp free3
  generalize e4 : ({ s3 with heap := pushCells (s3.heap.push { cls := .type "dict", data := .dict #[] }) scope.names } : Shared) = s4 at I4 ⊢
  have k4 : 1 ≤ s4.toks := by rw [← e4]; exact k3
  have at4 : tn 0 s4.heap := T.keep _ _ _ at3 fun b _ o e => by rw [← e4]; exact pushCells_keeps _ _ _ _ (Heap.get?_push_of_some _ e)
  have fpok : ∀ {σ' : L2.St} {H' : Hp} {s' : Shared}, Inv (X.blk s3 H3 scope ce fp) [] σ' H' s' → (∀ b ∈ fp, H' b = none) → ∀ b ∈ fp, FpOk (X.blk s3 H3 scope ce fp) [] H' b := fun {σ' H' s'} I' hn b hb =>
    ⟨hn b hb, (I'.ok.exf b hb).1, I'.ok.exfs b hb, .inl hb, fun x c e => (I'.ok.exf b hb).2 x c e, fun p hp => absurd (show p ∈ ([] : List (Addr × Obj)) ++ [] from hp) (by simp)⟩
  have loop : codeAny (model X.prog X.w) X.A (.compLoop (.ListComp elt [⟨tg, iter, ifs, 0⟩] scope pos) 0 (.ref it) (.ref D) ce) (compPost (model X.prog X.w) X.A X.xe use Qf (.ref D) s3.heap.objs.size) s4 := by
    refine compLoop_any (fun n s' => 1 ≤ s'.toks ∧ ∃ i H', Inv (X.blk s3 H3 scope ce fp) [] (wipe σ (own.map (·.2))) H' s' ∧ tn i s'.heap ∧ (∀ b ∈ fp, H' b = none) ∧ W i n H') ?_ m0 ⟨k4, 0, H3, I4, at4, nofp, w0⟩
    rintro n s5 ⟨k5, i, H5, I5, at5, n5, w5⟩
    rcases turn i n H5 w5 with ⟨stops, fin⟩ | ⟨goes, Nx, back, step⟩
    · refine keepF k5 (T.done (X.blk s3 H3 scope ce fp) rfl rfl rfl calm i [] s5 _ H5 (fun _ _ => False) I5 (fpok I5 n5) at5 stops) fun r s6 k6 ⟨er, I6⟩ => ?_
      subst er
      have I7 : Inv X pins σ H5 s6 := I3.call' (ch := fp) I6.os I6.base I6.hok I6.bare fun b hb => ⟨(free3 b hb).1.2.2.2.1, (free3 b hb).1.2.1, (free3 b hb).1.2.2.2.2.1, (free3 b hb).1.2.2.2.2.2⟩
      have nC : H5 s3.heap.objs.size = none := by rw [← locals]; exact I6.free
      obtain ⟨m, hn, _⟩ := I6.loc
      have hn : s6.heap.Ns ce.locals m := hn
      rw [locals] at hn
      exact done D s3.heap.objs.size s6 m H5 k6 I7 fin hn (I3.fpOk (Nat.le_refl _) nC)
    · refine keepF k5 (T.item (X.blk s3 H3 scope ce fp) rfl rfl rfl calm i [] s5 _ H5 (fun _ _ => False) I5 (fpok I5 n5) at5 goes) fun r s6 k6 ⟨u, er, h6⟩ => ?_
      subst er
      refine keepF k6 h6 fun _ s7 k7 ⟨x, H7, I7, r7, y7, at7, n7⟩ => ?_
      have J7 := I7.pinned (fpok I7 n7) (T.obj _ _ at7)
      refine keepF k7 (pg.run _ s7 _ H7 x u _ J7 r7 (step x H7 y7)) fun _ s8 k8 ⟨σ8, H8, I8, w8, q8⟩ => ?_
      refine keepF k8 (pt _ s8 σ8 H8 _ k8 I8 q8) fun b s9 k9 ⟨H9, I9, q9⟩ => ?_
      have next : ∀ {s' : Shared} {H' : Hp}, 1 ≤ s'.toks → Inv (X.blk s3 H3 scope ce fp) ([] ++ pinsAt fp s7.heap) σ8 H' s' → Nx H' → ∃ m, m < n ∧ 1 ≤ s'.toks ∧ ∃ i H', Inv (X.blk s3 H3 scope ce fp) [] (wipe σ (own.map (·.2))) H' s' ∧ tn i s'.heap ∧ (∀ b ∈ fp, H' b = none) ∧ W i m H' := fun {s' H'} k' I' nx => by
        obtain ⟨m', lt, w'⟩ := back H' nx
        have pinned : ∀ b ∈ fp, ∀ o, s7.heap.get? b = some o → s'.heap.get? b = some o ∧ H' b = none := fun b hb o e =>
          have z := I'.pin (b, o) (List.mem_append_right _ (List.mem_append_right _ (mem_pinsAt hb e)))
          ⟨z.1, z.2.1⟩
        have len : (wipe σ (own.map (·.2))).length = σ8.length := by rw [← w8, wipe_length]
        refine ⟨m', lt, k', i + 1, H', (I'.unpinned (pins := [])).weak len (fun j v e => ?_), T.keep _ _ _ at7 fun b hb o e => (pinned b hb o e).1, fun b hb => let ⟨o, e, _⟩ := T.obj _ _ at7 b hb; (pinned b hb o e).2, w'⟩
        rw [← w8] at e
        exact (wipe_some e).1
      cases b with
      | false => exact next k9 I9 q9
      | true => exact keepF k9 (pe _ s9 σ8 H9 _ k9 I9 q9) fun z s10 k10 ⟨yv, H10, I10, r10, acc, hD10, hz10, nx⟩ => PySem.wpAny_with_toks (n := 1) k10 (L2.app_ok (X := X.blk s3 H3 scope ce fp) I10 hD10 hz10 r10 fun s11 I11 k11 => next k11 I11 nx)
  exact codeAny_compStart_list loop (T.self X.A 0 _ _ _ at4 loop)
theorem pet_lc (calm : X.calm = true) (nodup : X.N.Nodup) (src : PIT X tg iter wi) (ok : BlkOk X.N X.env.scope scope own)
    (hg : ∀ (s : Shared) (H : Hp) (C : Addr) (cl : List (Str × Addr)) (fp : List Addr), PG (X.blk s H scope (compEnvC scope cl C X.env) fp) tg g) (ht : ∀ (s : Shared) (H : Hp) (C : Addr) (cl : List (Str × Addr)) (fp : List Addr), PTsT (X.blk s H scope (compEnvC scope cl C X.env) fp) ifs tt)
    (he : ∀ (s : Shared) (H : Hp) (C : Addr) (cl : List (Str × Addr)) (fp : List Addr), PET (X.blk s H scope (compEnvC scope cl C X.env) fp) elt te) (plain : ∀ x, foldedSetIterable iter X.env x = pure x := by intro _; rfl) :
    PET X (.ListComp elt [⟨tg, iter, ifs, 0⟩] scope pos) (tLc wi g tt te (own.map (·.2))) := fun pins s σ H Q h0 I h => by
  rw [eval_ListComp]
  refine lcT calm nodup h0 I src ok hg ht he plain h fun D C s' m H' _ I' q hn ⟨f0, f1, f2, f3, f4, f5⟩ => ⟨m, hn, fun h'' sb => ?_⟩
  exact ⟨.ref D, H', I'.turned (t' := s'.toks) (fun b o hb e => (sb.2 b hb).trans e) f0 f1 f3 f4 f5, rfl, q⟩
end
/-! ### methods -/
section
variable {CX : CXT} {k : Nat} {f C : Addr} {fd : FuncData} {ps : List Str} {sp : Sp} {dvs : List V} {ds : List Value} {E : XK} {m : Str} {es : List Expr} {t : TA} {e : Expr}
end
end
end TH
/-! Defs that want a token out, by name; a token comes out. -/
namespace TH
open PySem PySem.Spec PyProof.Rows L2
variable [TC : TabC]
/-- a def, a class, a method that wants a token out -/
structure CalT (P : Program) (w : World) (K : PySem.W.Frag) (mg : Str → Option Value) (base : Heap) (k : Nat) (x : Str) (sp : Sp) (dvs : List V) : Prop where
  ex : ∃ (f : Addr) (fd : FuncData) (ps : List Str) (ds : List Value), FnT P w K mg base CX0 k f fd ps sp ∧ mg x = some (.ref f) ∧ PySem.W.keepIn K (.ref f) = true ∧ Binds K fd ps ds ∧ Vals dvs ds
structure MakT (P : Program) (w : World) (K : PySem.W.Frag) (mg : Str → Option Value) (base : Heap) (k : Nat) (x : Str) (C : Addr) (sp : Sp) (dvs : List V) : Prop where
  ex : ∃ (f : Addr) (fd : FuncData) (ps : List Str) (ds : List Value), Mk K C f ∧ FnT P w K mg base CX0 k f fd ps sp ∧ mg x = some (.ref C) ∧ Binds K fd ps ds ∧ Vals dvs ds
structure MetT (P : Program) (w : World) (K : PySem.W.Frag) (mg : Str → Option Value) (base : Heap) (k : Nat) (C : Addr) (m : Str) (sp : Sp) (dvs : List V) : Prop where
  ex : ∃ (f : Addr) (fd : FuncData) (ps : List Str) (ds : List Value), Cls K C ∧ Meth K C m f ∧ FnT P w K mg base CX0 k f fd ps sp ∧ Binds K fd ps ds ∧ Vals dvs ds
section
variable {P : Program} {w : World} {K : PySem.W.Frag} {mg : Str → Option Value} {base : Heap} {CX : CXT} {j k : Nat} {f C : Addr} {fd : FuncData} {ps : List Str} {sp : Sp} {x m : Str} {dvs : List V}
theorem FnT.mono (F : FnT P w K mg base CX j f fd ps sp) (h : j ≤ k) : FnT P w K mg base CX k f fd ps sp := ⟨F.len, fun A outer s H args us vs Q E h0 hr => F.run A outer s H args us vs Q E h0 (hr.mono h)⟩
theorem CalT.of (c : C8.Cal P w K mg base k x sp dvs) : CalT P w K mg base k x sp dvs := let ⟨f, fd, ps, ds, F, r⟩ := c.ex; ⟨f, fd, ps, ds, fnT_of F, r⟩
theorem MetT.of (c : C8.Met P w K mg base k C m sp dvs) : MetT P w K mg base k C m sp dvs := let ⟨f, fd, ps, ds, c, m, F, r⟩ := c.ex; ⟨f, fd, ps, ds, c, m, fnT_of F, r⟩
end
section
variable {X : Cx} {k j : Nat} {C : Addr} {x m : Str} {sp : Sp} {dvs : List V} {p pos apos : Pos} {e o : Expr} {es : List Expr} {ta : TE} {t : TA}
theorem pet_c (c : CalT X.prog X.w X.K X.mg X.base k x sp dvs) (hr : Room j X.A) (hk : k ≤ j) (hg : Gl X x) (ha : PAT X (e :: es) t)
    (hdb : (x == ("__debug__" : Str)) = false := by decide) (he : starEach (e :: es) X.env = (false, eval e X.env) :: starEach es X.env := by rfl) (hpl : (backTo pos (starEach es X.env)).any (·.1) = false := by rfl) :
    PET X (.Call (.Name x p) (e :: es) [] pos) (tCall sp dvs C8.E0 t) := by
  obtain ⟨f, fd, ps, ds, F, hm, kp, b, d⟩ := c.ex
  exact pet_call F (hr.mono hk) hg hm kp b d C8.pass0 ha hdb he hpl
theorem pet_mk (c : MakT X.prog X.w X.K X.mg X.base k x C sp dvs) (hr : Room j X.A) (hk : k + 1 ≤ j) (hg : Gl X x) (ha : PAT X (e :: es) t)
    (hdb : (x == ("__debug__" : Str)) = false := by decide) (he : starEach (e :: es) X.env = (false, eval e X.env) :: starEach es X.env := by rfl) (hpl : (backTo pos (starEach es X.env)).any (·.1) = false := by rfl) :
    PET X (.Call (.Name x p) (e :: es) [] pos) (tMake C sp dvs C8.E0 t) := by
  obtain ⟨f, fd, ps, ds, M, F, hm, b, d⟩ := c.ex
  exact pet_make M F (hr.mono hk) hg hm b d C8.pass0 ha hdb he hpl
end
/-! ### a def by its body, a token out -/
theorem PSsT.nox {X : Cx} {st : List Stmt} {t : TS} (h : PSsT X.nox st t) : PSsT X st t := fun pins s σ H D h0 I hw =>
  wpAny_mono (h pins s σ H D h0 (I.wish _) hw) (fun _ _ q => q.unwish) fun _ _ z => z.elim
section
variable {P : Program} {w : World} {K : PySem.W.Frag} {mg : Str → Option Value} {base : Heap} {x qual : Str} {params : Arguments} {body : List Stmt} {scope : Scope} {f : Addr} {fd : FuncData} {N ps : List Str} {k n0 : Nat} {ac : AC} {dvs : List V} {kws : List (Str × V)}
theorem fnAT (F : FunD K x qual params body scope dvs kws f fd) (S : FnScope N ps scope) {at' : aTS} (hlen : ∀ avs A Kc, ac avs A Kc → avs.length = ps.length ∧ A.length = n0)
    (hb : ∀ (cdv : Value) (A : Around) (outer : List PySem.Env) (s : Shared) (H : Hp) (E : XK), Room k (A.deeper (envOfC qual scope s.heap.objs.size f cdv)) → ∃ t, PSsT (cxOf CX0 P w K mg base N qual scope f cdv A outer s H E).nox body t ∧ SimS K n0 at' t)
    (hrun : ∀ avs A Kc, ac avs A Kc → at' (aEnd n0 Kc) (startA N avs) A) : FnT P w K mg base CX0 (k + 1) f fd ps (spA K ac) := by
  refine fnT_by F S (fun vs H Q E h => ?_) fun cdv A outer s H vs Q E hr h => ?_
  · obtain ⟨s, avs, Kc, _, _, h3, h4, _⟩ := h
    rw [← (hlen _ _ _ h4).1]
    exact h3.length.symm
  · obtain ⟨t, ht, hs⟩ := hb cdv A outer s H E hr
    exact ⟨t, TH.PSsT.nox ht, fnA_core hlen hs hrun h⟩
end
theorem petT {X : Cx} {e : Expr} {t t' : TE} (h : PET X e t) (q : t = t') : PET X e t' := q ▸ h
/-! ### a token comes out -/
def PAb (X : Cx) (es : List Expr) (t : TA) : Prop := ∀ (pos : Pos) (pins : List (Addr × Obj)) (s : Shared) (σ : L2.St) (H : Hp) (Q : List V → Hp → Prop), Inv X pins σ H s → t σ H Q →
  wpAny (model X.prog X.w) X.A (spliced (backTo pos (starEach es X.env))) (fun us s' => 1 ≤ s'.toks ∧ AP X pins σ Q us s') X.xe s
def PEb (X : Cx) (e : Expr) (t : TE) : Prop := ∀ (pins : List (Addr × Obj)) (s : Shared) (σ : L2.St) (H : Hp) (Q : VK), Inv X pins σ H s → t σ H Q → wpAny (model X.prog X.w) X.A (eval e X.env) (fun v s' => 1 ≤ s'.toks ∧ EP X pins σ Q v s') X.xe s
def PSb (X : Cx) (st : Stmt) (t : TS) : Prop := ∀ (pins : List (Addr × Obj)) (s : Shared) (σ : L2.St) (H : Hp) (D : Ends), Inv X pins σ H s → t D σ H → wpAny (model X.prog X.w) X.A (exec st X.env) (fun fl s' => 1 ≤ s'.toks ∧ SP X pins D fl s') X.xe s
section
variable {X : Cx} {e : Expr} {es : List Expr} {te : TE} {t : TA} {ts tu : TS} {pos p : Pos} {x : Str} {sp : Sp} {dvs : List V} {k j i : Nat} {pos' : Pos}
theorem peb_int {i : Int} {jj} {q : Pos} : PEb X (.Constant (.int i) jj q) (tC (.int i)) := fun _ s _ H _ I h => wpAny_Constant_int ⟨Nat.succ_le_succ (Nat.zero_le _), .int i, H, I.tok _, ⟨_, rfl⟩, h⟩
theorem pab_one (h : PEb X e te) (hs : starEach [e] X.env = (false, eval e X.env) :: starEach [] X.env := by rfl) : PAb X [e] (tCons te tNil) := fun pos pins s σ H Q I q => by
  rw [hs]
  exact Calls.spliced_cons (thn (h pins s σ H _ I q) fun u s1 ⟨h0, y, H1, I1, r1, q1⟩ => Calls.spliced_nil ⟨h0, [y], H1, I1, .cons r1 .nil, q1⟩)
theorem pab_cons (h : PE X e te) (hr : PAb X es t) (hs : starEach (e :: es) X.env = (false, eval e X.env) :: starEach es X.env := by rfl) : PAb X (e :: es) (tCons te t) := fun pos pins s σ H Q I q => by
  rw [hs]
  exact Calls.spliced_cons (thn (h.run pins s σ H _ I q) fun u s1 ⟨y, H1, I1, r1, q1⟩ => thn (hr pos pins s1 σ H1 _ I1 q1) fun us s2 ⟨h0, ys, H2, I2, r2, q2⟩ => ⟨h0, y :: ys, H2, I2, .cons r1 r2, q2⟩)
theorem peb_c (c : C8.Cal X.prog X.w X.K X.mg X.base k x sp dvs) (room : Room j X.A) (hk : k ≤ j) (glob : Gl X x) (ha : PAb X (e :: es) t)
    (hdb : (x == ("__debug__" : Str)) = false := by decide) (he : starEach (e :: es) X.env = (false, eval e X.env) :: starEach es X.env := by rfl) (hpl : (backTo pos (starEach es X.env)).any (·.1) = false := by rfl) :
    PEb X (.Call (.Name x p) (e :: es) [] pos) (tCall sp dvs C8.E0 t) := fun pins s σ H Q I h => by
  obtain ⟨f, fd, ps, ds, F, hm, kp, b, d⟩ := c.ex
  refine wpAny_Call_Name_kw (ld_glob I glob hm ?_ hdb)
  refine PySem.W.callWith_K (h₀ := X.base) I.ok.mod.kin kp (wpAny_mono (ha pos pins s σ H _ I h) (fun us s1 ⟨h1, vs, H1, I1, r, q⟩ => ⟨I1.kIn, ?_⟩) fun e s' z => z) he hpl
  exact wpAny_mono (PySem.wpAny_toks_of h1 (run_fnT (fnT_of F) (room.mono hk) b d C8.pass0 h1 I1 r q)) (fun _ _ z => z) fun _ _ z => z.2
theorem psb_set (hN : X.N.Nodup) (hi : X.N[i]? = some x) (hx : Loc X.env.scope x) (he : PEb X e te) (hs : swapsWith e (some (.Name x pos')) pos.line X.env = pure false := by rfl)
    (hf : X.fn x = true ∨ X.env.scope.names.lookup x = some .local := by first | exact .inl rfl | exact .inr rfl | assumption) : PSb X (.Assign [.Name x pos'] e pos) (tAsg te (gName i)) := fun pins s σ H D I h => by
  refine wpAny_Assign_Name (thn (he pins s σ H _ I h) fun v s1 ⟨h0, y, H1, I1, r1, q1⟩ => ?_) hs
  exact wpAny_mono (PySem.wpAny_toks_of h0 (store_ok (Q := fun _ s' => SP X pins D .next s') I1 hN hi hx r1 (fun s2 I2 => ⟨_, H1, I2, q1⟩) hf)) (fun _ _ z => z) fun _ _ z => z.2
theorem pss_consb {st : Stmt} {rest : List Stmt} (h1 : PSb X st ts) (h2 : PSsT X rest tu) : PSs X (st :: rest) (tSeq ts tu) := ⟨fun pins s σ H D I h => by
  refine wpAny_execs_cons (thn (h1 pins s σ H { D with nx := tu D } I h) fun fl s1 ⟨h0, q⟩ => ?_)
  cases fl with
  | next =>
    obtain ⟨σ', H', I', q⟩ := q
    exact h2 pins s1 σ' H' D h0 I' q
  | ret v => exact q
  | brk => exact q
  | cont => exact q⟩
end
end TH
/-! Words of a text whose brackets stand alone. -/
namespace TH
open PySem PySem.Spec PyProof.Rows L2
variable [TC : TabC]
/-- a sign's share: brackets stand alone -/
def expC (d : Nat) : List Nat := if d = 40 then [32, 40, 32] else if d = 41 then [32, 41, 32] else [d]
theorem repl1 {c : Nat} {z : List Nat} : ∀ l : List Nat, PySem.StrLaws.replL [c] z l = l.flatMap fun d => if d = c then z else [d]
  | [] => PySem.StrLaws.replL_nil
  | d :: r => by
    rw [List.flatMap_cons]
    by_cases h : d = c
    · subst h
      rw [PySem.StrLaws.replL_hit (List.cons_ne_nil _ _) (by rfl), if_pos rfl, ← repl1 r]
      rfl
    · rw [PySem.StrLaws.replL_miss (y := [c]) (c := d) (r := r) (fun e => h (List.cons.inj (show d :: [] = c :: [] from e)).1), if_neg h, ← repl1 r]
      rfl
def wordsR (z : Str) : List Str := Txt.words (Txt.replace (Txt.replace z "(" " ( ") ")" " ) ")
theorem repl_both (z : Str) : TL.tl (Txt.replace (Txt.replace z "(" " ( ") ")" " ) ") = (TL.tl z).flatMap expC := by
  have e1 := PySem.StrLaws.replace_list (x := Txt.replace z "(" " ( ") (y := ")") (z := " ) ") (by decide)
  have e2 := PySem.StrLaws.replace_list (x := z) (y := "(") (z := " ( ") (by decide)
  show (Txt.replace (Txt.replace z "(" " ( ") ")" " ) ").cps.toList = _
  rw [e1, e2]
  show PySem.StrLaws.replL [41] [32, 41, 32] (PySem.StrLaws.replL [40] [32, 40, 32] z.cps.toList) = _
  rw [repl1, repl1, List.flatMap_assoc]
  refine congrArg (fun g => List.flatMap g (TL.tl z)) (funext fun d => ?_)
  unfold expC
  by_cases h : d = 40
  · rw [if_pos h, if_pos h]
    rfl
  · rw [if_neg h, if_neg h]
    by_cases h2 : d = 41
    · subst h2
      rfl
    · rw [if_neg h2]
      show (if d = 41 then _ else [d]) ++ [] = _
      rw [if_neg h2]
      rfl
abbrev WSt := List (List Nat) × List Nat
def pstep (st : WSt) (c : Nat) : WSt := (expC c).foldl TL.wstep st
def tokL (l : List Nat) : List (List Nat) := TL.wfin (l.foldl pstep ([], []))
theorem fold_flat (l : List Nat) : ∀ st : WSt, (l.flatMap expC).foldl TL.wstep st = l.foldl pstep st := by
  induction l with
  | nil => exact fun _ => rfl
  | cons d r ih =>
    intro st
    rw [List.flatMap_cons, List.foldl_append, ih]
    rfl
theorem wordsR_tl (z : Str) : (wordsR z).map TL.tl = tokL (TL.tl z) := by
  unfold wordsR tokL
  rw [TL.words_tl, repl_both, fold_flat]
/-! ### a text in two parts -/
theorem wstep_app (ws : List (List Nat)) (st : WSt) (c : Nat) : TL.wstep (ws ++ st.1, st.2) c = (ws ++ (TL.wstep st c).1, (TL.wstep st c).2) := by
  unfold TL.wstep
  by_cases h : Unicode.isSpace c = true
  · rw [if_pos h, if_pos h]
    by_cases h2 : st.2 = []
    · rw [if_pos h2, if_pos h2]
    · rw [if_neg h2, if_neg h2, List.append_assoc]
  · rw [if_neg h, if_neg h]
theorem wfold_app (ws : List (List Nat)) : ∀ (l : List Nat) (st : WSt), l.foldl TL.wstep (ws ++ st.1, st.2) = (ws ++ (l.foldl TL.wstep st).1, (l.foldl TL.wstep st).2)
  | [], _ => rfl
  | c :: r, st => by
    rw [List.foldl_cons, wstep_app]
    exact wfold_app ws r (TL.wstep st c)
theorem pfold_app (ws : List (List Nat)) (l : List Nat) (st : WSt) : l.foldl pstep (ws ++ st.1, st.2) = (ws ++ (l.foldl pstep st).1, (l.foldl pstep st).2) := by
  rw [← fold_flat, ← fold_flat]
  exact wfold_app ws _ st
theorem wfin_app (ws : List (List Nat)) (st : WSt) : TL.wfin (ws ++ st.1, st.2) = ws ++ TL.wfin st := by
  unfold TL.wfin
  by_cases h : st.2 = []
  · rw [if_pos h, if_pos h]
  · rw [if_neg h, if_neg h, List.append_assoc]
/-- blanks and brackets -/
def isSep (c : Nat) : Prop := c = 32 ∨ c = 40 ∨ c = 41
theorem blank_flush (st : WSt) : TL.wstep st 32 = (TL.wfin st, []) := by
  have e : Unicode.isSpace 32 = true := by decide
  unfold TL.wstep TL.wfin
  rw [if_pos e]
  by_cases h : st.2 = []
  · rw [if_pos h, if_pos h, ← h]
  · rw [if_neg h, if_neg h]
theorem wfin_flush (st : WSt) : TL.wfin (TL.wfin st, []) = TL.wfin st := if_pos rfl
theorem sep_first {c : Nat} (h : isSep c) (st : WSt) : pstep st c = pstep (TL.wfin st, []) c := by
  rcases h with rfl | rfl | rfl
  · show TL.wstep st 32 = TL.wstep (TL.wfin st, []) 32
    rw [blank_flush, blank_flush, wfin_flush]
  · show TL.wstep (TL.wstep (TL.wstep st 32) 40) 32 = TL.wstep (TL.wstep (TL.wstep (TL.wfin st, []) 32) 40) 32
    rw [blank_flush st, blank_flush (TL.wfin st, []), wfin_flush]
  · show TL.wstep (TL.wstep (TL.wstep st 32) 41) 32 = TL.wstep (TL.wstep (TL.wstep (TL.wfin st, []) 32) 41) 32
    rw [blank_flush st, blank_flush (TL.wfin st, []), wfin_flush]
theorem sep_last {c : Nat} (h : isSep c) (st : WSt) : (pstep st c).2 = [] := by
  rcases h with rfl | rfl | rfl
  · show (TL.wstep st 32).2 = []
    rw [blank_flush]
  · show (TL.wstep (TL.wstep (TL.wstep st 32) 40) 32).2 = []
    rw [blank_flush]
  · show (TL.wstep (TL.wstep (TL.wstep st 32) 41) 32).2 = []
    rw [blank_flush]
theorem tok_from (ws : List (List Nat)) (l : List Nat) : TL.wfin (l.foldl pstep (ws, [])) = ws ++ tokL l := by
  have h := pfold_app ws l ([], [])
  rw [List.append_nil] at h
  rw [h, wfin_app]
  rfl
theorem tok_sepL {c : Nat} {x r : List Nat} (h : isSep c) : tokL (x ++ c :: r) = tokL x ++ tokL (c :: r) := by
  unfold tokL
  rw [List.foldl_append, List.foldl_cons, sep_first h, ← List.foldl_cons (f := pstep)]
  exact tok_from _ (c :: r)
theorem tok_sepR {c : Nat} {x r : List Nat} (h : isSep c) : tokL ((x ++ [c]) ++ r) = tokL (x ++ [c]) ++ tokL r := by
  have e : ((x ++ [c]).foldl pstep ([], [])) = (tokL (x ++ [c]), []) := by
    unfold tokL
    rw [List.foldl_append]
    show pstep _ c = (TL.wfin (pstep _ c), [])
    have h2 := sep_last h (x.foldl pstep ([], []))
    unfold TL.wfin
    rw [if_pos h2]
    exact Prod.ext rfl h2
  have e2 : tokL ((x ++ [c]) ++ r) = TL.wfin (r.foldl pstep ((x ++ [c]).foldl pstep ([], []))) := by
    unfold tokL
    rw [List.foldl_append]
  rw [e2, e]
  exact tok_from _ r
theorem tl_inj {a b : Str} (h : TL.tl a = TL.tl b) : a = b := Str.ext' (Array.toList_inj.mp h)
theorem map_tl_inj : ∀ {a b : List Str}, a.map TL.tl = b.map TL.tl → a = b
  | [], [], _ => rfl
  | [], _ :: _, h => nomatch h
  | _ :: _, [], h => nomatch h
  | x :: a, y :: b, h => by
    rw [List.map_cons, List.map_cons] at h
    have h := List.cons.inj h
    rw [tl_inj h.1, map_tl_inj h.2]
theorem wordsR_lit {z : Str} {l : List Str} (h : (tokL (TL.tl z) == l.map TL.tl) = true) : wordsR z = l := map_tl_inj ((wordsR_tl z).trans (eq_of_beq h))
/-- y begins with a blank or bracket -/
def sepL (y : Str) : Bool := match TL.tl y with | c :: _ => c == 32 || c == 40 || c == 41 | [] => false
def sepR (y : Str) : Bool := match (TL.tl y).reverse with | c :: _ => c == 32 || c == 40 || c == 41 | [] => false
theorem isSep_of {c : Nat} (h : (c == 32 || c == 40 || c == 41) = true) : isSep c := by
  rw [Bool.or_eq_true, Bool.or_eq_true] at h
  rcases h with (h | h) | h
  · exact .inl (eq_of_beq h)
  · exact .inr (.inl (eq_of_beq h))
  · exact .inr (.inr (eq_of_beq h))
theorem wordsR_appL {x y : Str} (h : sepL y = true) : wordsR (x ++ y) = wordsR x ++ wordsR y := by
  refine map_tl_inj ?_
  rw [List.map_append, wordsR_tl, wordsR_tl, wordsR_tl, TL.tl_append]
  unfold sepL at h
  cases e : TL.tl y with
  | nil => rw [e] at h; cases h
  | cons c r =>
    rw [e] at h
    exact tok_sepL (isSep_of h)
theorem wordsR_appR {x y : Str} (h : sepR x = true) : wordsR (x ++ y) = wordsR x ++ wordsR y := by
  refine map_tl_inj ?_
  rw [List.map_append, wordsR_tl, wordsR_tl, wordsR_tl, TL.tl_append]
  unfold sepR at h
  cases e : (TL.tl x).reverse with
  | nil => rw [e] at h; cases h
  | cons c r =>
    rw [e] at h
    have e2 : TL.tl x = r.reverse ++ [c] := by rw [← List.reverse_reverse (TL.tl x), e, List.reverse_cons]
    rw [e2]
    exact tok_sepR (isSep_of h)
example : wordsR "not (" = [Str.ofString "not", Str.ofString "("] := wordsR_lit (by decide)
example : wordsR " and " = [Str.ofString "and"] := wordsR_lit (by decide)
example : sepL " and " = true := by decide
end TH
/-! More readings over plain values: texts some times, one text in another, displays of dicts, isinstance, calls with defaults, join. -/
namespace TH
open PySem PySem.Spec PyProof.Rows L2
variable [TC : TabC]
section
variable {K : PySem.W.Frag} {B : Bs} {m : Bool} {a b c : aTE} {ta tb te tc : TE} {n0 : Nat} {ac : AC} {sp : Sp} {t : TA} {r : aTA} {E : XK}
/-! ### text * number -/
def fMulS : aR2 := fun _ x y k => match x, y with
  | .pv (.v (.str z)), .pv (.v (.int i)) => MulOk z i ∧ k (.pv (.v (.str (Txt.mul z i))))
  | _, _ => False
/-! ### a text in another -/
def subT (i j : Str) : Bool := !(Builtin.Str.occurrences j i 0 j.length 1).isEmpty
def fSub (neg : Bool) : aR2 := fun _ x y k => match x, y with
  | .pv (.v (.str i)), .pv (.v (.str j)) => k (.pv (.v (.bl (if neg then !subT i j else subT i j))))
  | _, _ => False
/-! ### a dict written out -/
def aPairs : List (aTE × aTE) → Sg → Sto → (List (Key × PV) → Sto → Prop) → Prop
  | [], _, A, k => k [] A
  | (a, b) :: r, sa, A, k => a sa A fun x A1 => b sa A1 fun y A2 => match x, y with
    | .pv (.v u), .pv p => ∃ key, keyOf u = some key ∧ aPairs r sa A2 fun kvs A3 => k ((key, p) :: kvs) A3
    | _, _ => False
def mergeP (kvs more : List (Key × PV)) : List (Key × PV) := more.foldl (fun acc kv => putP acc kv.1 kv.2) kvs
def aDisp (l : List (aTE × aTE)) : aTN := fun sa A k => aPairs l sa A fun kvs A1 => kvs.length ≤ 15 ∧ k (.dK (mergeP [] kvs)) A1
inductive SimP (K : PySem.W.Frag) : List (aTE × aTE) → List (TE × TE) → Prop
  | nil : SimP K [] []
  | cons {a b : aTE} {ta tb : TE} {r : List (aTE × aTE)} {tr : List (TE × TE)} (ha : SimE K true a ta) (hb : SimE K true b tb) (h : SimP K r tr) : SimP K ((a, b) :: r) ((ta, tb) :: tr)
/-! ### isinstance -/
def vty : V → Option String
  | .str _ => some "str"
  | .int _ => some "int"
  | .bl _ => some "bool"
  | .non => some "NoneType"
  | _ => none
def PV.ty : PV → Option String
  | .v x => vty x
  | .tup _ => some "tuple"
  | .lst _ => some "list"
  | _ => none
def tyOf (A : Sto) : AV → Option String
  | .pv p => p.ty
  | .loc n p => match aoAt A n p with
    | some (.lst _) => some "list"
    | some (.pv q) => q.ty
    | _ => none
def aIsi (c : String) (a : aTE) : aTE := fun sa A k => a sa A fun x A1 => ∃ t b, tyOf A1 x = some t ∧ kitB t c = some b ∧ k (.pv (.v (.bl b))) A1
def aIsiT (c d : String) (a : aTE) : aTE := fun sa A k => a sa A fun x A1 => ∃ t b1 b2, tyOf A1 x = some t ∧ kitB t c = some b1 ∧ kitB t d = some b2 ∧ k (.pv (.v (.bl (b1 || b2)))) A1
/-! ### calls with defaults -/
def aCall0D (ac : AC) (ds : List V) (r : aTA) : aTE := fun sa A k => r sa A fun avs A1 => ∃ ps, pvs avs = some ps ∧ ac ((ps ++ ds.map PV.v).map .pv) [] fun r _ => match r with
  | .pv p => k (.pv p) A1
  | _ => False
/-! ### join -/
def pstrs : List PV → Option (List Str)
  | [] => some []
  | .v (.str x) :: t => (pstrs t).map (x :: ·)
  | _ :: _ => none
theorem pstrs_map {α : Type} (f : α → Str) : ∀ xs : List α, pstrs (xs.map fun x => .v (.str (f x))) = some (xs.map f)
  | [] => rfl
  | x :: t => by
    show (pstrs (t.map fun x => .v (.str (f x)))).map (f x :: ·) = _
    rw [pstrs_map f t]
    rfl
theorem pstrs_s (xs : List Str) : pstrs (xs.map PV.str) = some xs := by
  have := pstrs_map id xs
  rwa [List.map_id] at this
theorem pstrs_al {G : Hp} : ∀ {xs : List PV} {vs : List V} {ss : List Str}, Al G (rPs K xs) vs → pstrs xs = some ss → vs = ss.map V.str
  | [], _, _, .nil, e => by cases e; rfl
  | .v (.str x) :: t, _, ws, .cons h al, e => by
    obtain ⟨us, e1, e2⟩ := Option.map_eq_some_iff.mp (show (pstrs t).map (x :: ·) = some ws from e)
    subst e2
    have h : _ = V.str x := h
    rw [h, pstrs_al al e1]
    rfl
def aJoin (a b : aTE) : aTE := fun sa A k => a sa A fun x A1 => match x with
  | .pv (.v (.str z)) => b sa A1 fun y A2 => ∃ xs ss, viewS A2 y = some xs ∧ pstrs xs = some ss ∧ (ss.map (·.length)).sum + ss.length * z.length ≤ 16777216 ∧ k (.pv (.v (.str (Txt.join z ss)))) A2
  | _ => False
theorem sim_join (ha : SimE K m a ta) (hb : SimE K m b tb) : SimE K m (aJoin a b) (tM1 (fun x xs H Q => ∃ a p, ∃ ys : List Str, x = .str a ∧ xs = [.ref p] ∧ (SqL K H p (ys.map V.str) ∨ SqT K H p (ys.map V.str)) ∧
      (ys.map (·.length)).sum + ys.length * a.length ≤ 16777216 ∧ Q (.str (Txt.join a ys)) H) ta tb) := fun {B s sa σ} rp g {Kc Q} q h =>
  ha rp g (fun x vx s1 e1 px k => by
    split at k
    · rename_i z
      obtain rfl : vx = .str z := px
      refine ⟨⟨z, rfl⟩, hb e1.rep (g.stp e1) (fun y vy s2 e2 py k => ?_) k⟩
      obtain ⟨xs, ss, k1, k2, k3, k4⟩ := k
      obtain ⟨d, ws, h1, h2, h3⟩ := viewS_ok e2.rep py k1
      rw [pstrs_al h3 k2] at h2
      exact ⟨z, d, ss, rfl, by rw [h1], h2, k3, q (.pv (.v (.str _))) _ s2 (e1.trans e2) rfl k4⟩
    · exact k.elim) h
theorem inV_b (x : Bool) (xs : List Bool) : inV (.bl x) (xs.map V.bl) = decide (x ∈ xs) := by
  unfold inV
  rw [List.any_map, Bool.eq_iff_iff, List.any_eq_true, decide_eq_true_iff]
  constructor
  · rintro ⟨y, hy, e⟩
    have e : (y == x) = true ∨ (x == y) = true := by
      revert e
      cases x <;> cases y <;> decide
    rcases e with e | e
    · rw [← eq_of_beq e]; exact hy
    · rw [eq_of_beq e]; exact hy
  · intro hx
    refine ⟨x, hx, ?_⟩
    cases x <;> decide
theorem vals_b (xs : List Bool) : vals (xs.map fun x => PV.v (.bl x)) = some (xs.map V.bl) := vals_map V.bl xs
theorem flat_b (xs : List Bool) : (xs.map V.bl).all flatV = true := by
  rw [List.all_map, List.all_eq_true]
  exact fun x _ => rfl
end
end TH
/-! Functions and lambdas made within defs: how they come to be, as values. -/
namespace TH
open PySem PySem.Spec PyProof.Rows L2 LamX NdefX
variable [TC : TabC]
/-! ### the function objects -/
/-- the object at f is the lambda with F's words and the body e -/
def LamO (f : Addr) (F : NdefX.NF) (e : Expr) : HO := .ext fun h => ∃ (od : Option Addr) (sl : Array (Option Value)) (pm ctv : Value), h.get? f = some (⟨.type "function", od, .func (PySem.W.kla_fn F.name F.qual F.params e F.scope F.cl pm (.ref F.c) ctv), sl⟩ : Obj)
/-- what the kit tells by a word of its own -/
def IsX (o : HO) : Prop := ∃ φ, o = .ext φ
theorem IsX.nf {o : HO} (h : IsX o) : NF o := fun _ _ z => by obtain ⟨φ, rfl⟩ := h; cases z
theorem IsX.nd {o : HO} (h : IsX o) : ¬ IsDct o := fun z => by obtain ⟨φ, rfl⟩ := h; exact z
/-! ### making one -/
/-- a function came to be: at f, with the code object at c -/
structure Made (G H G1 H1 : Hp) (f c : Addr) (q : Str) (o : HO) : Prop where
  gr : ∀ {W : List Addr}, Gr W G H G1 H1
  fG : G1 f = some o
  cG : G1 c = some (CodeO c q)
  nw : H f = none
section
variable {G H : Hp} {f c P : Addr} {q : Str} {o : HO}
/-- the table grows by a code object that is new -/
theorem gr_tab {ps : Array Value} {pos : Pos} {W : List Addr} (le : Le G H) (hP : H P = some (.tbl ps)) (ht : TriplesOk ps.toList) (hg : G P = none) (hc : H c = none) (hn : TC.nm pos.line pos.col = q) :
    Gr W G H (upd G c (CodeO c q)) (upd (upd H P (.tbl (ps ++ #[rawInt pos.line, rawInt pos.col, .ref c]))) c (CodeO c q)) where
  gg := Le.new (le.free hc)
  gh := (le.mut hg).upd
  hhN := fun b u e _ t => by
    rw [upd_ne (ne_of_none e hc), upd_ne (fun z => t ps (Option.some.inj (e.symm.trans (by rw [z]; exact hP))))]
    exact e
  dm := fun b e => by
    by_cases h1 : b = c
    · rw [h1, upd_same]; exact fun z => nomatch z
    · rw [upd_ne h1]
      by_cases h2 : b = P
      · rw [h2, upd_same]; exact fun z => nomatch z
      · rw [upd_ne h2]; exact e
  nw := fun b n1 n2 => by
    by_cases h1 : b = c
    · rw [h1]; exact hc
    · rw [upd_ne h1] at n2; exact (n2 n1).elim
  tb := fun R _ _ t => by
    obtain ⟨t0, qs, t1, t2, t3⟩ := t
    have gR : upd G c (CodeO c q) R = none := by rw [upd_ne (ne_of_none t1 hc)]; exact t0
    have up : ∀ {b : Addr} {x : Str}, G b = some (CodeO b x) → upd G c (CodeO c q) b = some (CodeO b x) := fun {b x} e => by
      rw [upd_ne (ne_of_none e (le.free hc))]; exact e
    by_cases h2 : R = P
    · subst h2
      rw [hP] at t1
      cases t1
      refine ⟨gR, _, by rw [upd_ne (ne_of_none hP hc), upd_same], ?_, fun p' cv hcv => ?_⟩
      · rw [show (ps ++ #[rawInt pos.line, rawInt pos.col, .ref c]).toList = ps.toList ++ [rawInt pos.line, rawInt pos.col, .ref c] by simp]
        exact PySem.TriplesOk_snoc _ _ _ _ ht
      · rw [show (ps ++ #[rawInt pos.line, rawInt pos.col, .ref c]).toList = ps.toList ++ [rawInt pos.line, rawInt pos.col, .ref c] by simp] at hcv
        rcases NdefX.among_app2 _ ht hcv with z | ⟨z, z1, z2⟩
        · obtain ⟨b, e1, e2⟩ := t3 p' cv z
          exact ⟨b, e1, up e2⟩
        · refine ⟨c, z, ?_⟩
          rw [← z1, ← z2, hn]
          exact upd_same
    · refine ⟨gR, qs, by rw [upd_ne (ne_of_none t1 hc), upd_ne h2]; exact t1, t2, fun p' cv hcv => ?_⟩
      obtain ⟨b, e1, e2⟩ := t3 p' cv hcv
      exact ⟨b, e1, up e2⟩
end
section
variable {X : Cx} {pins : List (Addr × Obj)} {σ : L2.St} {H : Hp} {s : Shared} {c P : Addr} {params : Arguments} {scope : Scope} {pos : Pos}
end
end TH
/-! sorted(xs, key=f) where f's calls may do what leaves the frame's knowledge whole. -/
namespace TH
open PySem PySem.Spec PyProof.Rows L2 PySem.W PySem.Calls
/-! ### over the heap: the loop over the keys by an invariant -/
section
variable {prog : Program} {w : World} {A : Around} {E : Value → Shared → Prop} {a kS : Addr} {vs : List Value} {e1 : Nat} {P : PySem.Fin → Shared → Prop}
/-- the invariant S j keys: the list's own object is empty, the store holds the keys -/
structure KeyInv (a kS : Addr) (e1 : Nat) (S : Nat → Array Value → Shared → Prop) : Prop where
  st : ∀ {j kA s}, S j kA s → ∃ e, s.heap.get? kS = some (seqObj "list" kA e)
  ls : ∀ {j kA s}, S j kA s → s.heap.get? a = some (seqObj "list" #[] e1)
end
/-! ### a thing of ours that is forgotten -/
section
variable {X : Cx} {pins : List (Addr × Obj)} {σ : L2.St} {H : Hp} {s : Shared}
end
/-! ### sorted(xs, key=f) -/
section
variable {X : Cx}
end
end TH
/-! What a lambda promises, and sorted by one. -/
namespace TH
open PySem PySem.Spec PyProof.Rows L2 LamX NdefX
variable [TC : TabC]
/-- the promise of the lambda with F's words and the body e, at f: sp ws, ws what its captured cells hold -/
structure LOk (P : Program) (w : World) (K : PySem.W.Frag) (mg : Str → Option Value) (base : Heap) (CX : CXT) (k : Nat) (f : Addr) (F : NdefX.NF) (e : Expr) (ps fr : List Str) (sp : List (Option V) → Sp) : Prop where
  len : ∀ ws vs H Q E, sp ws vs H Q E → vs.length = ps.length
  run : ∀ (A : Around) (outer : List Env) (s : Shared) (H : Hp) (us : List Value) (vs : List V) (ws : List (Option V)) (Q : VK) (E : XK), Room k A → Env0 P w K mg base A outer s H → H f = some (LamO f F e) → H F.c = some (CodeO F.c F.qual) →
    CellsAt F.cl fr ws s.heap H → Vals vs us → sp ws vs H Q E → codeAny (model P w) A (.call (.ref f) ⟨us, []⟩) (CR CX outer P w H s Q E) s
section
variable {CX : CXT} {P : Program} {w : World} {K : PySem.W.Frag} {mg : Str → Option Value} {base : Heap} {N ps fr : List Str} {F : NdefX.NF} {f : Addr} {e : Expr} {k j : Nat} {sp : List (Option V) → Sp}
end
/-! ### sorted(xs, key=..) as an expression -/
section
variable {X : Cx} {fc : L2.St → Addr → V → Hp → VK → Prop} {t tk : TA} {e : Expr} {kws : List Keyword} {p pos : Pos}
end
end TH
/-! Functions made within defs and sorted by a key, over plain values. -/
namespace TH
open PySem PySem.Spec PyProof.Rows L2 LamX NdefX
variable [TC : TabC]
/-! ### a function as a value -/
/-- the function made at a place: its object and its code are frozen -/
def rFn (q : Str) (mk : Addr → Addr → HO) (hx : ∀ f c, IsX (mk f c)) : Rl := ⟨fun G v => ∃ f c, v = .ref f ∧ G f = some (mk f c) ∧ G c = some (CodeO c q), fun e ⟨f, c, h1, h2, h3⟩ => ⟨f, c, h1, e.at h2 (hx f c).nf (hx f c).nd, e.at h3 code_nf code_nd⟩⟩
section
variable {K : PySem.W.Frag} {m : Bool}
theorem Made.out {G H G1 H1 : Hp} {f c : Addr} {q : Str} {mk : Addr → Addr → HO} {hx : ∀ f c, IsX (mk f c)} (M : Made G H G1 H1 f c q (mk f c)) : (rFn q mk hx).P G1 (.ref f) := ⟨f, c, rfl, M.fG, M.cG⟩
end
/-! ### what a lambda does with plain values -/
section
variable {P : Program} {w : World} {K : PySem.W.Frag} {mg : Str → Option Value} {base : Heap} {N ps fr : List Str} {F : NdefX.NF} {f : Addr} {e : Expr} {k : Nat} {ac : List (Option AV) → AC} {a : aTE}
end
/-! ### sorted(xs, key=lambda ..) -/
section
variable {K : PySem.W.Frag} {m : Bool} {r : aTA} {t : TA} {P : Addr} {pos : Pos} {q : Str} {mkF : Addr → NdefX.NF} {body : Expr} {js : List Nat} {ac : List (Option AV) → AC} {E : XK}
end
/-! ### a nested def by its body -/
section
variable {K : PySem.W.Frag} {n0 : Nat}
end
section
variable {P : Program} {w : World} {K : PySem.W.Frag} {mg : Str → Option Value} {base : Heap} {N ps fr : List Str} {F : NdefX.NF} {f : Addr} {k n0 : Nat} {ac : List (Option AV) → AC} {at' : aTS}
end
end TH
/-! Defs whose code object is known: those that make functions. -/
namespace TH
open PySem PySem.Spec PyProof.Rows L2 LamX NdefX
variable [TC : TabC]
section
variable {P : Program} {w : World} {K : PySem.W.Frag} {mg : Str → Option Value} {base : Heap} {x qual : Str} {params : Arguments} {body : List Stmt} {scope : Scope} {f : Addr} {fd : FuncData} {N ps : List Str} {k n0 : Nat} {ac : AC} {dvs : List V} {kws : List (Str × V)} {c : Addr}
/-- the code object of the def at fd, its table -/
structure CodeT (base : Heap) (mg : Str → Option Value) (fd : FuncData) (c P : Addr) : Prop where
  cd : fd.code = .ref c
  tb : TabB base mg c P
  at_ : P ∈ TC.T
end
end TH
/-! [elt for x in xs if .. for y in ys if ..] over plain values, no thing changing meanwhile. -/
namespace TH
open PySem PySem.Spec PyProof.Rows L2
variable [TC : TabC]
section
variable {K : PySem.W.Frag} {m : Bool} {wi wi1 : aTI} {ti ti1 : TI} {g g1 : aTG} {tg tg1 : TG} {ct ct1 : aTT} {tt tt1 : TT} {e : aTE} {te : TE} {vs vs1 : List Nat}
/-- where a pure walk stands: D holds what was gathered -/
structure Gat (K : PySem.W.Frag) (G0 H0 : Hp) (D : Addr) (acc : List PV) (H' : Hp) : Prop where
  ex : ∃ G' us, Gr [] G0 H0 G' H' ∧ H' D = some (.lst us) ∧ G' D = none ∧ Al G' (rPs K acc) us
structure GatL (K : PySem.W.Frag) (G0 H0 GL : Hp) (D : Addr) (acc : List PV) (H' : Hp) : Prop where
  ex : ∃ G' us, Gr [] G0 H0 G' H' ∧ Le GL G' ∧ H' D = some (.lst us) ∧ G' D = none ∧ Al G' (rPs K acc) us
end
end TH
/-! Comprehensions over a frozen dict's keys, locked meanwhile or already; dicts copied, asked, with a default; dicts by tuples. -/
namespace TH
open PySem PySem.Spec PyProof.Rows L2
variable [TC : TabC]
/-! ### rules -/
section
variable {X : Cx} {e : Expr} {t : TE} {st : Stmt} {i : Nat}
end
section
variable {X : Cx} {pins : List (Addr × Obj)} {σ : L2.St} {H : Hp} {s : Shared} {a b : Addr} {u r : Value} {d : V} {k : List Key} {A : Around} {E : Value → Shared → Prop}
end
section
variable {X : Cx} {o e f : Expr} {td ty tx : TE} {apos cpos : Pos}
end
/-! ### dicts: copied, asked with a default -/
section
variable {K : PySem.W.Frag} {m ml : Bool} {a b c : aTE} {ta tb te tc : TE} {ca cb : aTT} {tt tu : TT} {n0 : Nat}
/-! ### dicts by tuples: numbers and the like as values -/
end
/-! ### the keys of a frozen dict, walked -/
section
variable {K : PySem.W.Frag} {a c : aTE} {ta te : TE} {ca : aTT} {tt : TT}
end
end TH
/-! More of lists that change: pop, extend. -/
namespace TH
open PySem PySem.Spec PyProof.Rows L2
variable [TC : TabC]
section
variable {K : PySem.W.Frag} {m ml : Bool} {a b c : aTE} {ta tb te tc : TE} {ca cb : aTT} {tt tu : TT} {n0 : Nat}
theorem lst_own {fp : List Addr} {G H : Hp} {v : V} {d : Addr} {xs : List PV} (h1 : v = .ref d) : aoR K G H (.lst xs) v fp → fp = [d] := fun h => by
  obtain ⟨d', vs', z1, z2, _⟩ := h
  rw [h1] at z1
  cases z1
  exact z2
def aPop (a : aTE) : aTE := fun sa A k => a sa A fun x A1 => match x with
  | .loc n p => ∃ xs q, aoAt A1 n p = some (.lst (xs ++ [q])) ∧ k (.pv q) (aoSet A1 n p (.lst xs))
  | _ => False
theorem sim_pop (ha : SimE K false a ta) : SimE K false (aPop a) (tBM K "list" rPop ta tNil) := fun {B s sa σ} rp gg {Kc Q} q h =>
  ha rp gg (fun x vx s1 e1 px k => by
    split at k
    · rename_i n p
      obtain ⟨xs, y, k0, k⟩ := k
      obtain ⟨fp, ⟨d, vs, h1, h2, h3, h4⟩, _⟩ := e1.rep.sub px k0
      rw [rPs_app] at h4
      obtain ⟨us, w, ew, al, hw⟩ : ∃ us w, vs = us ++ [w] ∧ Al s1.G (rPs K xs) us ∧ (rPV K y).P s1.G w := by
        clear h3 h2 k k0
        generalize hr : rPs K xs = rs at h4
        clear hr
        induction rs generalizing vs with
        | nil =>
          cases h4 with
          | cons hy t => cases t; exact ⟨[], _, rfl, .nil, hy⟩
        | cons r rs ih =>
          cases h4 with
          | @cons _ v _ vs hy t =>
          obtain ⟨us, w, z1, z2, z3⟩ := ih vs t
          exact ⟨v :: us, w, by rw [z1]; rfl, .cons hy z2, z3⟩
      subst ew
      refine ⟨by rw [h1]; exact .inl ⟨rfl, us ++ [w], .of h3⟩, d, us ++ [w], w, h1, rfl, h3, by simp, ?_⟩
      rw [List.dropLast_concat]
      obtain ⟨φ', r', st⟩ := put1 (u' := .lst xs) (ho := .lst us) e1.rep px k0 h1 (fun fp h => lst_own h1 h) ⟨d, us, h1, rfl, upd_same, al⟩
      exact q (.pv y) w _ (e1.trans st) hw k
    · exact k.elim) h
def aExtL (a e : aTE) : aTE := fun sa A k => a sa A fun x A1 => match x with
  | .loc n p => ∃ ys, aoAt A1 n p = some (.lst ys) ∧ e sa A1 fun y A2 => ∃ xs zs, aoAt A2 n p = some (.lst xs) ∧ viewL A2 y = some zs ∧ xs.length + zs.length ≤ 100000 ∧ k (.pv (.v .non)) (aoSet A2 n p (.lst (xs ++ zs)))
  | _ => False
theorem sim_extL {e : aTE} (ha : SimE K false a ta) (he : SimE K true e te) : SimE K false (aExtL a e) (tBM K "list" rExtend ta (tCons te tNil)) := fun {B s sa σ} rp gg {Kc Q} q h =>
  ha rp gg (fun x vx s1 e1 px k => by
    split at k
    · rename_i n p
      obtain ⟨ys, k0, k⟩ := k
      obtain ⟨fp, ⟨d, vs, h1, h2, h3, h4⟩, _⟩ := e1.rep.sub px k0
      refine ⟨by rw [h1]; exact .inl ⟨rfl, vs, .of h3⟩, he e1.rep (gg.stp e1) (fun y vy s2 e2 py k => ?_) k⟩
      obtain ⟨xs, zs, k1, k2, k3, k4⟩ := k
      have px2 := px.stp e2
      obtain ⟨fp, ⟨d', us, g1, g2, g3, g4⟩, _⟩ := e2.rep.sub px2 k1
      rw [h1] at g1
      cases g1
      obtain ⟨b, ws, f1, f2, f3⟩ := viewL_ok e2.rep py k2
      refine ⟨d, b, us, ws, h1, by rw [f1], g3, f2, by rw [← g4.length, ← f3.length, rPs_len, rPs_len]; exact Nat.le_trans k3 (by decide), ?_⟩
      obtain ⟨φ', r', st⟩ := put1 (u' := .lst (xs ++ zs)) (ho := .lst (us ++ ws)) e2.rep px2 k1 h1 (fun fp h => lst_own h1 h) ⟨d, _, h1, rfl, upd_same, by rw [rPs_app]; exact g4.append f3⟩
      exact q (.pv (.v .non)) .non _ (e1.trans (e2.weak.trans st)) rfl k4
    · exact k.elim) h
end
end TH
/-! [elt for x in xs if .. for y in ys if ..], a token out where xs is reckoned. -/
namespace TH
open PySem PySem.Spec PyProof.Rows L2
variable [TC : TabC]
section
variable {X : Cx}
section
variable {elt tg iter tg1 iter1 : Expr} {ifs ifs1 : List Expr} {scope : Scope} {own : List (Str × Nat)} {vs1 : List Nat} {pos spos py : Pos} {wi wi1 : TI} {g g1 : TG} {tt tt1 : TT} {te : TE} {i : Nat} {y : Str}
end
end
end TH
/-! A lambda of a def's text, by its place. -/
namespace TH
open PySem PySem.Spec PyProof.Rows L2 LamX NdefX
variable [TC : TabC]
def lamArgs : Expr → Arguments
  | .Lambda a _ _ _ => a
  | _ => { posonlyargs := [], args := [], vararg := none, kwonlyargs := [], kw_defaults := [], kwarg := none, defaults := [] }
def lamBody : Expr → Expr
  | .Lambda _ b _ _ => b
  | e => e
def lamScope : Expr → Scope
  | .Lambda _ _ s _ => s
  | _ => { kind := .function, names := [], isGenerator := false, isCoroutine := false }
def lamPos : Expr → Pos
  | .Lambda _ _ _ p => p
  | _ => ⟨0, 0, 0, 0⟩
end TH
/-! Calls with keywords, with defaults that are things. -/
namespace TH
open PySem PySem.Spec PyProof.Rows L2
variable [TC : TabC]
section
variable {X : Cx} {CX : CXT} {k n : Nat} {f : Addr} {fd : FuncData} {ps ks : List Str} {sp : Sp} {E : XK} {x : Str} {p pos : Pos} {e : Expr} {es : List Expr} {kws : List Keyword} {t tk : TA} {g : List Value → List Value → List Value} {gV : List V → List V → List V}
end
/-- a def that wants a token out, called with n values by place, the others by the names ks, ds between -/
structure CalTK (P : Program) (w : World) (K : PySem.W.Frag) (mg : Str → Option Value) (base : Heap) (k : Nat) (x : Str) (sp : Sp) (n : Nat) (ks : List Str) (ds : List V) : Prop where
  ex : ∃ (f : Addr) (fd : FuncData) (ps : List Str) (g : List Value → List Value → List Value), FnT P w K mg base CX0 k f fd ps sp ∧ mg x = some (.ref f) ∧ PySem.W.keepIn K (.ref f) = true ∧ KBn K fd ps n ks g (fun vs zs => vs ++ (ds ++ zs))
section
variable {K : PySem.W.Frag} {m : Bool} {ac : AC} {sp : Sp} {r rk : aTA} {t tk : TA} {E : XK} {ds : List V} {dps : List PV}
/-- what stands for defaults, whatever the heap -/
def DsOk (K : PySem.W.Frag) (dps : List PV) (ds : List V) : Prop := ∀ G, Al G (rPs K dps) ds
theorem DsOk.nil : DsOk K [] [] := fun G => .nil
theorem DsOk.v {v : V} (h : DsOk K dps ds) : DsOk K (.v v :: dps) (v :: ds) := fun G => .cons rfl (h G)
end
end TH
/-! Nested defs some of whose own names are cells (a comprehension within takes them). -/
namespace TH
open PySem PySem.Spec PyProof.Rows L2 LamX NdefX
variable [TC : TabC]
/-- the names: parameters, captured ones, then others, some of them cells -/
structure NScC (N ps fr : List Str) (sc : Scope) : Prop where
  kind : sc.kind = .function
  co : sc.isCoroutine = false
  gen : sc.isGenerator = false
  nd : N.Nodup
  pre : N.take (ps.length + fr.length) = ps ++ fr
  par : ∀ x ∈ ps, sc.names.lookup x = some .local
  free : ∀ y ∈ sc.names, y.2 = .free → y.1 ∈ fr
  frk : ∀ x ∈ fr, sc.names.lookup x = some .free
  nocell : ∀ x ∈ fr, (x, NameKind.cell) ∉ sc.names
section
variable {CX : CXT} {P : Program} {w : World} {K : PySem.W.Frag} {mg : Str → Option Value} {base : Heap} {N ps fr : List Str} {F : NdefX.NF} {f : Addr} {A : Around} {outer : List Env} {s : Shared} {H : Hp} {E : XK} {us : List Value} {vs : List V} {ws : List (Option V)}
end
section
variable {CX : CXT} {P : Program} {w : World} {K : PySem.W.Frag} {mg : Str → Option Value} {base : Heap} {N ps fr : List Str} {F : NdefX.NF} {f : Addr} {k j : Nat} {sp sp' : List (Option V) → Sp}
end
/-! ### .. over plain values -/
section
variable {P : Program} {w : World} {K : PySem.W.Frag} {mg : Str → Option Value} {base : Heap} {N ps fr : List Str} {F : NdefX.NF} {f : Addr} {k n0 : Nat} {ac : List (Option AV) → AC} {at' : aTS}
end
end TH
/-! A lambda that hands its argument to a def made in the same frame; sorted by it. -/
namespace TH
open PySem PySem.Spec PyProof.Rows L2 LamX NdefX
variable [TC : TabC]
section
variable {X : Cx} {pins : List (Addr × Obj)} {σ : L2.St} {H : Hp} {s : Shared} {cl : List (Str × Addr)} {fr : List Str} {ws : List (Option V)}
end
section
variable {X : Cx} {CX : CXT} {k j i : Nat} {f2 : Addr} {F2 : NdefX.NF} {ps2 fr2 : List Str} {sp2 : List (Option V) → Sp} {ws2 : List (Option V)} {E : XK} {g : Str} {p pos : Pos} {e : Expr} {es : List Expr} {t : TA}
end
/-! ### .. over plain values -/
section
variable {K : PySem.W.Frag} {m : Bool} {r : aTA} {t : TA} {P : Addr} {pos : Pos} {q q2 : Str} {mkF mk2 : Addr → NdefX.NF} {body : Expr} {js : List Nat} {jg : Nat} {ac : List (Option AV) → AC} {E : XK}
end
end TH
/-! list.index by data, dict of pairs, a, b = value, new thing. -/
namespace TH
open PySem PySem.Spec PyProof.Rows L2
variable [TC : TabC]
section
variable {K : PySem.W.Frag} {m ml : Bool} {a b c e : aTE} {ta tb te tc : TE} {n0 : Nat}
def aIndexD (a e : aTE) : aTE := fun sa A k => a sa A fun x A1 => (∃ xs, viewL A1 x = some xs) ∧ e sa A1 fun y A2 => ∃ (ds : List PyData) (d : PyData) (j : Nat) (z : PyData), viewDat A2 x = some (.list ds) ∧ viewDat A2 y = some d ∧ SeqAt.shaped (.list ds) = true ∧ SeqAt.shaped d = true ∧ ds[j]? = some z ∧ PyData.eqv z d = true ∧
  (∀ (m : Nat) (z' : PyData), m < j → ds[m]? = some z' → PyData.eqv z' d = false) ∧ k (.pv (.v (.int (j : Nat)))) A2
theorem sim_indexD (ha : SimE K m a ta) (he : SimE K true e te) : SimE K m (aIndexD a e) (tBM K "list" (rIndexD K) ta (tCons te tNil)) := fun {B s sa σ} rp gg {Kc Q} q h =>
  ha rp gg (fun x vx s1 e1 px k => by
    obtain ⟨⟨xs, k0⟩, k⟩ := k
    obtain ⟨d0, vs, h1, h2, h3⟩ := viewL_ok e1.rep px k0
    refine ⟨by rw [h1]; exact .inl ⟨rfl, vs, .of h2⟩, he e1.rep (gg.stp e1) (fun y vy s2 e2 py k => ?_) k⟩
    obtain ⟨ds, d, j, z, k1, k2, k3, k4, k5, k6, k7, k8⟩ := k
    refine ⟨d0, vy, d, ds, j, z, h1, rfl, ?_, viewDat_ok e2.rep py k2, k3, k4, k5, k6, k7, q (.pv (.v (.int (j : Nat)))) _ s2 (e1.trans e2.weak) rfl k8⟩
    have := viewDat_ok e2.rep (px.stp e2) k1
    rw [h1] at this
    exact this) h
end
end TH
/-! Texts: split, count, str(i), int(x); first, *rest = a list; None in a tuple; a, b = two new things. -/
namespace TH
open PySem PySem.Spec PyProof.Rows L2
variable [TC : TabC]
/-! ### first, *rest = list -/
section
open PySem.W
variable {prog : Program} {w : World} {A : Around} {E : Value → Shared → Prop} {s : Shared}
end
section
variable {X : Cx} {pos p2 : Pos} {e1 e2 : Expr} {t : TGs} {k : Nat}
end
section
variable {K : PySem.W.Frag}
end
/-! ### split, count -/
section
variable {K : PySem.W.Frag} {m : Bool} {a b : aTE} {ta tb : TE}
end
/-! ### x in a tuple, by data -/
section
variable {X : Cx}
end
section
variable {K : PySem.W.Frag} {m : Bool} {n0 : Nat} {ta tb : TE}
end
section
variable {K : PySem.W.Frag} {n0 : Nat} {r : aTA} {t : TA}
end
end TH
/-! Things lent to a def that changes nothing; a new list told. -/
namespace TH
open PySem PySem.Spec PyProof.Rows L2
variable [TC : TabC]
section
variable {K : PySem.W.Frag} {m ml : Bool} {a b c e : aTE} {ta tb te tc : TE} {n0 : Nat} {ac : AC} {sp : Sp} {t : TA} {r : aTA} {E : XK}
/-- what a def is handed that may read a thing -/
def lendV (A : Sto) : AV → Option PV
  | .pv p => some p
  | .loc n [] => A[n]? >>= AO.fz
  | .loc _ (_ :: _) => none
def lends (A : Sto) : List AV → Option (List PV)
  | [] => some []
  | x :: t => match lendV A x, lends A t with
    | some p, some ps => some (p :: ps)
    | _, _ => none
def lendF (s : Cs) : List AV → List Addr
  | [] => []
  | .loc n [] :: t => (if n < s.A.length then s.φ n else []) ++ lendF s t
  | _ :: t => lendF s t
theorem lendF_nx {B : Bs} {s : Cs} (r : Rep K B s) : ∀ avs : List AV, ∀ b ∈ lendF s avs, ∃ o, s.H b = some o ∧ NX o
  | [], b, h => by cases h
  | .pv _ :: t, b, h => lendF_nx r t b h
  | .loc _ (_ :: _) :: t, b, h => lendF_nx r t b h
  | .loc n [] :: t, b, h => by
    rcases List.mem_append.mp (show b ∈ (if n < s.A.length then s.φ n else []) ++ lendF s t from h) with h | h
    · by_cases c : n < s.A.length
      · rw [if_pos c] at h; exact r.nx c b h
      · rw [if_neg c] at h; cases h
    · exact lendF_nx r t b h
theorem lend_al {B : Bs} {s : Cs} (r : Rep K B s) {fp : List Addr} {avs : List AV} {vs : List V} (p : Paired (avR K s) avs vs) : ∀ {ps : List PV}, (∀ b ∈ lendF s avs, b ∈ fp) → lends s.A avs = some ps → Al (frzH fp s.G s.H) (rPs K ps) vs := by
  induction p with
  | nil => intro ps _ e; cases e; exact .nil
  | cons h t ih =>
    rename_i x v xs vs
    intro ps hs e
    have hs2 : ∀ b ∈ lendF s xs, b ∈ fp := fun b hb => hs b (by
      match x with
      | .pv _ => exact hb
      | .loc _ (_ :: _) => exact hb
      | .loc _ [] => exact List.mem_append_right _ hb)
    unfold lends at e
    cases e1 : lendV s.A x with
    | none => simp only [e1] at e; cases e
    | some p =>
      cases e2 : lends s.A xs with
      | none => simp only [e1, e2] at e; cases e
      | some qs =>
        simp only [e1, e2] at e
        cases e
        refine .cons ?_ (ih hs2 e2)
        match x, h, e1, hs with
        | .pv q, h, e1, _ => cases e1; exact (rPV K p).mono (le_frzH r.le) h
        | .loc n [], ⟨u, h1, h2⟩, e1, hs =>
          obtain rfl : v = u := h2
          obtain ⟨o, e3, e4⟩ := Option.bind_eq_some_iff.mp e1
          obtain ⟨u', k1, k2⟩ := r.at' n o e3
          rw [h1] at k1
          cases k1
          have ln : n < s.A.length := (List.getElem?_eq_some_iff.mp e3).1
          exact fz_ok k2 e4 fp (fun b hb => hs b (List.mem_append_left _ (by rw [if_pos ln]; exact hb))) r.le
end
end TH
/-! Several things handed to a def at once. -/
namespace TH
open PySem PySem.Spec PyProof.Rows L2
variable [TC : TabC]
/-- the state that a def sees that is handed the things ns -/
def Cs.many (s : Cs) (ns : List Nat) : Cs := ⟨ns.map fun n => (s.ι[n]?).getD .non, fun j => (ns[j]?).elim [] s.φ, ns.map fun n => (s.A[n]?).getD (.pv (.v .non)), s.G, s.H⟩
section
variable {K : PySem.W.Frag} {B : Bs} {s s' : Cs} {ns : List Nat}
theorem many_phi {j n : Nat} (h : ns[j]? = some n) : (s.many ns).φ j = s.φ n := by
  show (ns[j]?).elim [] s.φ = _
  rw [h]
  rfl
theorem get_at {α : Type} {l : List α} {i : Nat} (h : i < l.length) : l[i]? = some l[i] := List.getElem?_eq_getElem h
theorem nd_get {i j : Nat} {n : Nat} (nd : ns.Nodup) (h1 : ns[i]? = some n) (h2 : ns[j]? = some n) : i = j := by
  obtain ⟨a, ea⟩ := List.getElem?_eq_some_iff.mp h1
  obtain ⟨b, eb⟩ := List.getElem?_eq_some_iff.mp h2
  rw [List.nodup_iff_pairwise_ne, List.pairwise_iff_getElem] at nd
  rcases Nat.lt_trichotomy i j with c | c | c
  · exact absurd (ea.trans eb.symm) (nd i j a b c)
  · exact c
  · exact absurd (eb.trans ea.symm) (nd j i b a c)
theorem Rep.many (r : Rep K B s) (nd : ns.Nodup) (lt : ∀ n ∈ ns, n < s.A.length) : Rep K (Bs.of (s.many ns)) (s.many ns) := by
  have ln : ∀ {j}, j < (s.many ns).A.length → ∃ n, ns[j]? = some n ∧ n < s.A.length := fun {j} h => by
    have h : j < (ns.map _).length := h
    rw [List.length_map] at h
    exact ⟨ns[j], get_at h, lt _ (List.getElem_mem h)⟩
  refine ⟨by show (ns.map _).length = (ns.map _).length; rw [List.length_map, List.length_map], fun j o e => ?_, fun j hj => ?_, fun i j hi hj ne b hb hb' => ?_, fun j hj b hb => ?_, fun j hj b hb => ?_, .refl r.le, List.prefix_refl _, r.tabs⟩
  · have e : (ns.map fun n => (s.A[n]?).getD (.pv (.v .non)))[j]? = some o := e
    rw [List.getElem?_map] at e
    obtain ⟨n, h1, h2⟩ := Option.map_eq_some_iff.mp e
    have hn := lt n (List.mem_of_getElem? h1)
    obtain ⟨v, h3, h4⟩ := r.at' n s.A[n] (get_at hn)
    rw [get_at hn] at h2
    have h2 : s.A[n] = o := h2
    refine ⟨v, ?_, ?_⟩
    · show (ns.map fun n => (s.ι[n]?).getD .non)[j]? = some v
      rw [List.getElem?_map, h1]
      show some ((s.ι[n]?).getD .non) = _
      rw [h3]
      rfl
    · rw [many_phi h1, ← h2]
      exact h4
  · obtain ⟨n, h1, h2⟩ := ln hj
    rw [many_phi h1]
    exact r.nd n h2
  · obtain ⟨n, h1, h2⟩ := ln hi
    obtain ⟨m, h3, h4⟩ := ln hj
    rw [many_phi h1] at hb
    rw [many_phi h3] at hb'
    exact r.dj n m h2 h4 (fun z => ne (nd_get nd h1 (by rw [z]; exact h3))) b hb hb'
  · obtain ⟨n, h1, h2⟩ := ln hj
    rw [many_phi h1] at hb
    exact r.out n h2 b hb
  · have hj : j < (ns.map _).length := hj
    rw [List.length_map] at hj
    exact .inl ⟨by show j < (ns.map _).length; rw [List.length_map]; exact hj, hb⟩
end
section
variable {K : PySem.W.Frag} {m : Bool} {ac : AC} {sp : Sp} {t : TA} {r : aTA} {E : XK}
end
end TH
/-! Dicts by tuples whose values are any plain values: things that change, or frozen. -/
namespace TH
open PySem PySem.Spec PyProof.Rows L2
variable [TC : TabC]
abbrev TKV := List (List Key × PV)
def DAlT (K : PySem.W.Frag) (G : Hp) (ks : TKV) (vs : List (List Key × V)) : Prop := Paired (fun (r : List Key × PV) (v : List Key × V) => r.1 = v.1 ∧ (rPV K r.2).P G v.2) ks vs
section
variable {K : PySem.W.Frag} {G G' : Hp}
theorem DAlT.mono (e : Le G G') : ∀ {ks : TKV} {vs : List (List Key × V)}, DAlT K G ks vs → DAlT K G' ks vs
  | [], _, .nil => .nil
  | _ :: _, _, .cons h t => .cons ⟨h.1, (rPV K _).mono e h.2⟩ (DAlT.mono e t)
end
section
variable {K : PySem.W.Frag} {m ml : Bool} {a b c e : aTE} {ta tb te tc : TE} {n0 : Nat}
end
end TH
/-! Exceptions over plain values: what is let out, an own continuation for it. -/
namespace TH
open PySem PySem.Spec PyProof.Rows L2
variable [TC : TabC]
/-- an exception: its class, its own fields -/
structure AX where
  cls : Value
  fs : List (Str × PV)
/-- told of an exception that has no dict -/
abbrev noD : Str × PV := ("", .v .non)
def excR (K : PySem.W.Frag) (s : Cs) (cls : Value) (d : Option Addr) (e : AX) : Prop := cls = e.cls ∧ (e.fs = [] ∨ (e.fs = [noD] ∧ d = none) ∨ ∃ da vs, d = some da ∧ s.H da = some (.xd vs) ∧ FAl s.G (rPV.rFs K e.fs) vs)
abbrev KX := AX → Sg → Sto → Prop
abbrev ACX := List AV → Sto → (Rt → Sto → Prop) → (AX → Sto → Prop) → Prop
def spX (K : PySem.W.Frag) (ac : ACX) : Sp := fun vs H Q E => ∃ (s : Cs) (avs : List AV) (Kc : Rt → Sto → Prop) (Kx : AX → Sto → Prop), s.H = H ∧ Rep K (Bs.of s) s ∧ Paired (avS K s) avs vs ∧ ac avs s.A Kc Kx ∧
  (∀ r v s', Rep K (Bs.of s) s' → s'.A.length = s.A.length → retR K s s' r v → Kc r s'.A → Q v s'.H) ∧
  ∀ e cls d s', Rep K (Bs.of s) s' → s'.A.length = s.A.length → excR K s' cls d e → Kx e s'.A → E cls d s'.H
/-- what may be let out from s0 on is wished for by W -/
def ExR (K : PySem.W.Frag) (B : Bs) (s0 : Cs) (W : WX) (Kx : KX) : Prop := ∀ e cls d s sa σ, Rep K B s → Grw s0 s → SgR K s sa σ → excR K s cls d e → Kx e sa s.A → W cls d σ s.H
theorem ExR.grw {K : PySem.W.Frag} {B : Bs} {s s1 : Cs} {W : WX} {Kx : KX} (x : ExR K B s W Kx) (g : Grw s s1) : ExR K B s1 W Kx := fun e cls d s' sa σ r g' => x e cls d s' sa σ r (g.trans g')
abbrev aTEX := KX → aTE
abbrev aTSX := KX → aTS
def SimEX (K : PySem.W.Frag) (W : WX) (a : aTEX) (t : TE) : Prop := ∀ ⦃B : Bs⦄ ⦃s : Cs⦄ ⦃sa : Sg⦄ ⦃σ : L2.St⦄, Rep K B s → SgR K s sa σ → ∀ ⦃Kx : KX⦄ ⦃Kc : AV → Sto → Prop⦄ ⦃Q : VK⦄, ExR K B s W Kx → (∀ av v s', Stp K B false s s' → avR K s' av v → Kc av s'.A → Q v s'.H) → a Kx sa s.A Kc → t σ s.H Q
def SimSX (K : PySem.W.Frag) (n0 : Nat) (W : WX) (a : aTSX) (t : TS) : Prop := ∀ ⦃B : Bs⦄ ⦃s : Cs⦄ ⦃Da : AEnds⦄ ⦃D : Ends⦄ ⦃Kx : KX⦄, B.ι.length = n0 → EndR K B s Da D → ExR K B s W Kx → ∀ ⦃sa : Sg⦄ ⦃σ : L2.St⦄, Rep K B s → SgR K s sa σ → a Kx Da sa s.A → t D σ s.H
section
variable {K : PySem.W.Frag} {n0 : Nat} {W : WX} {a a1 a2 : aTSX} {t t1 t2 : TS} {e : aTEX} {te : TE}
theorem simx {b : aTS} (h : SimS K n0 b t) : SimSX K n0 W (fun _ => b) t := fun {B s Da D Kx} h0 ed _ {sa σ} r g k => h h0 ed r g k
def aSeqX (a b : aTSX) : aTSX := fun Kx => aSeq (a Kx) (b Kx)
theorem simx_seq (h1 : SimSX K n0 W a1 t1) (h2 : SimSX K n0 W a2 t2) : SimSX K n0 W (aSeqX a1 a2) (tSeq t1 t2) := fun {B s Da D Kx} h0 ed x {sa σ} r g h =>
  h1 (Da := { Da with nx := a2 Kx Da }) (D := { D with nx := t2 D }) h0 ⟨fun s1 sa σ r1 g1 q k => h2 h0 (ed.grw g1) (x.grw g1) r1 q k, ed.rt, ed.bk, ed.ct⟩ x r g h
def aIfSX (c : aTT) (a b : aTSX) : aTSX := fun Kx => aIfS c (a Kx) (b Kx)
theorem simx_ifS {c : aTT} {tt : TT} (hc : SimT K false c tt) (h1 : SimSX K n0 W a1 t1) (h2 : SimSX K n0 W a2 t2) : SimSX K n0 W (aIfSX c a1 a2) (tIfS tt t1 t2) := fun {B s Da D Kx} h0 ed x {sa σ} r gg h =>
  hc r gg (fun b s' e1 k => by
    cases b with
    | true => exact h1 h0 (ed.grw e1.grw) (x.grw e1.grw) e1.rep (gg.stp e1) k
    | false => exact h2 h0 (ed.grw e1.grw) (x.grw e1.grw) e1.rep (gg.stp e1) k) h
def aAsgX (e : aTEX) (g : aTG) : aTSX := fun Kx => aAsg (e Kx) g
theorem simx_asg {g : aTG} {tg : TG} {vs : List Nat} (ha : SimEX K W e te) (hg : SimG K vs g tg) : SimSX K n0 W (aAsgX e g) (tAsg te tg) := fun {B s Da D Kx} h0 ed x {sa σ} r gg h =>
  ha r gg x (fun av v s1 e1 px k => hg e1.rep (gg.stp e1) px (fun s2 sa' σ' r2 g2 q2 _ k => ed.nx s2 sa' σ' r2 (e1.grw.trans g2) q2 k) k) h
def aRetX (e : aTEX) : aTSX := fun Kx => aRet (e Kx)
theorem simx_ret (ha : SimEX K W e te) : SimSX K n0 W (aRetX e) (tRet te) := fun {B s Da D Kx} h0 ed x {sa σ} r gg h =>
  ha r gg x (fun av v s1 e1 px k => ed.rt s1 av v e1.rep e1.grw px k) h
def aDropX (e : aTEX) : aTSX := fun Kx => aDrop (e Kx)
theorem simx_drop (ha : SimEX K W e te) : SimSX K n0 W (aDropX e) (tDrop te) := fun {B s Da D Kx} h0 ed x {sa σ} r gg h =>
  ha r gg x (fun av v s1 e1 px k => ed.nx s1 sa σ e1.rep e1.grw (gg.stp e1) k) h
/-! ### calls -/
/-- nothing that changes is handed in -/
def aCall0X (ac : ACX) (r : aTA) : aTEX := fun Kx sa A k => r sa A fun avs A1 => ∃ ps, pvs avs = some ps ∧ ac (ps.map .pv) [] (fun r _ => match r with
  | .pv p => k (.pv p) A1
  | _ => False) fun e _ => Kx e sa A1
theorem simx_call0 {ac : ACX} {r : aTA} {t : TA} (ha : SimA K false r t) : SimEX K W (aCall0X ac r) (tCallSD (spX K ac) [] (fun σ cls d H => W cls d σ H) t) := fun {B s sa σ} rp g {Kx Kc Q} x q h =>
  ha rp g (fun avs vs s1 e1 ps k => by
    obtain ⟨qs, k1, k2⟩ := k
    show spX K ac (vs ++ []) s1.H Q _
    rw [List.append_nil]
    refine ⟨s1.none, qs.map .pv, _, _, rfl, e1.rep.none, al_avS (pvs_al ps k1), k2, fun rv v s2 r2 hl hr k => ?_, fun ex cls d s2 r2 hl hx k => ?_⟩
    · have hA : s2.A = [] := List.length_eq_zero_iff.mp hl
      match rv, hr, k with
      | .pv p, hr, k => exact q (.pv p) v { s1 with G := s2.G, H := s2.H } (e1.trans (.of e1.rep r2.gr0)) hr k
    · have st := Stp.of (m := false) e1.rep r2.gr0
      have st2 := e1.trans st
      exact x ex cls d { s1 with G := s2.G, H := s2.H } sa σ st2.rep st2.grw (g.stp st2) hx k) h
/-! ### a def by its body -/
theorem aEnd_r {s0 : Cs} {Kc : Rt → Sto → Prop} {Q : VK} (h2 : Rep K (Bs.of s0) s0) (l2 : s0.A.length = n0)
    (h5 : ∀ r v s', Rep K (Bs.of s0) s' → s'.A.length = s0.A.length → retR K s0 s' r v → Kc r s'.A → Q v s'.H) : EndR K (Bs.of s0) s0 (aEnd n0 Kc) { nx := fun _ H' => Q .non H', rt := Q } := by
    have hl : s0.ι.length = s0.A.length := h2.len
    refine ⟨fun s1 sa σ r1 g1 q1 kk => ?_, fun s1 av v r1 g1 pv kk => ?_, fun s1 sa σ r1 g1 q1 kk => kk.elim, fun s1 sa σ r1 g1 q1 kk => kk.elim⟩
    · have kk : Kc (.pv (.v .non)) (s1.A.take n0) := kk
      rw [← l2] at kk
      exact h5 (.pv (.v .non)) .non { s1 with ι := s1.ι.take s0.A.length, A := s1.A.take s0.A.length } (r1.cut (r1.more hl) hl) (by have := r1.more hl; show (s1.A.take s0.A.length).length = _; rw [List.length_take]; omega) rfl kk
    · have cut := r1.cut (r1.more hl) hl
      have cl : (s1.A.take s0.A.length).length = s0.A.length := by have := r1.more hl; rw [List.length_take]; omega
      match av, pv, kk with
      | .pv p, pv, kk =>
        have kk : Kc (.pv p) (s1.A.take n0) := kk
        rw [← l2] at kk
        exact h5 (.pv p) v { s1 with ι := s1.ι.take s0.A.length, A := s1.A.take s0.A.length } cut cl pv kk
      | .loc n [], pv, kk =>
        obtain ⟨r0, z1, z2⟩ := pv
        have z2 : v = r0 := z2
        subst z2
        have kk : if n < n0 then Kc (.loc n) (s1.A.take n0) else ∃ o, s1.A[n]? = some o ∧ Kc (.new o) (s1.A.take n0) := kk
        rw [← l2] at kk
        by_cases c : n < s0.A.length
        · rw [if_pos c] at kk
          refine h5 (.loc n) v { s1 with ι := s1.ι.take s0.A.length, A := s1.A.take s0.A.length } cut cl ?_ kk
          show s0.ι[n]? = some v
          have hn : n < s0.ι.length := by rw [hl]; exact c
          have e : s0.ι[n]? = some s0.ι[n] := by simp [hn]
          have e2 := pre_get (l' := s1.ι) r1.pre e
          rw [z1] at e2
          rw [e, e2]
        · rw [if_neg c] at kk
          obtain ⟨o, k1, k2⟩ := kk
          refine h5 (.new o) v { s1 with ι := s1.ι.take s0.A.length, A := s1.A.take s0.A.length } cut cl ?_ k2
          have hn : n < s1.A.length := (List.getElem?_eq_some_iff.mp k1).1
          obtain ⟨w', y1, y2⟩ := r1.at' n o k1
          rw [z1] at y1
          cases y1
          refine ⟨s1.φ n, y2, r1.nd n hn, fun b hb => ?_, r1.out n hn, fun b hb i hi z => ?_⟩
          · rcases r1.fr n hn b hb with ⟨q, _⟩ | q
            · have q : n < s0.ι.length := q
              omega
            · exact q
          · have hi : i < (s1.A.take s0.A.length).length := hi
            rw [cl] at hi
            exact r1.dj n i hn (by omega) (by omega) b hb z
theorem body_coreX {ac : ACX} {at' : aTSX} {t : TS} {vs : List V} {H : Hp} {Q : VK} {E : XK} {N ps : List Str} (hlen : ∀ avs A Kc Kx, ac avs A Kc Kx → avs.length = ps.length ∧ A.length = n0) (hs : SimSX K n0 (fun cls d _ H => E cls d H) at' t)
    (hrun : ∀ avs A Kc Kx, ac avs A Kc Kx → at' (fun e _ A' => Kx e (A'.take n0)) (aEnd n0 Kc) (startA N avs) A) (h : spX K ac vs H Q E) : t { nx := fun _ H' => Q .non H', rt := Q } (L2.start N vs) H := by
  obtain ⟨s0, avs, Kc, Kx, rfl, h2, h3, h4, h5, h6⟩ := h
  obtain ⟨l1, l2⟩ := hlen _ _ _ _ h4
  have hl : s0.ι.length = s0.A.length := h2.len
  refine hs (Da := aEnd n0 Kc) (D := { nx := fun _ H' => Q .non H', rt := Q }) (by show s0.ι.length = n0; rw [hl, l2]) (aEnd_r h2 l2 h5) (fun e cls d s1 sa σ r1 g1 q1 hx kk => ?_) h2 (startA_r h3) (hrun _ _ _ _ h4)
  · have kk : Kx e (s1.A.take n0) := kk
    rw [← l2] at kk
    have cut := r1.cut (r1.more hl) hl
    have cl : (s1.A.take s0.A.length).length = s0.A.length := by have := r1.more hl; rw [List.length_take]; omega
    exact h6 e cls d { s1 with ι := s1.ι.take s0.A.length, A := s1.A.take s0.A.length } cut cl hx kk
end
end TH
/-! try with several clauses, some of them of two classes; defs that let exceptions out. -/
namespace TH
open PySem PySem.Spec PyProof.Rows L2
variable [TC : TabC]
/-! ### clauses -/
abbrev CTest := Value → Option Bool
/-- a test answers by f -/
def TestOk (X : Cx) (t : Expr) (f : CTest) : Prop := ∀ (a : Addr) (pn : List (Addr × Obj)) (oe : Obj) (pins : List (Addr × Obj)) (σ : L2.St) (H : Hp) (s : Shared) (cls : Value) (b : Bool), Inv (X.suite a ((a, oe) :: pn)) pins σ H s → (∃ o, s.heap.get? a = some o ∧ o.cls = cls) → f cls = some b → ∀ (Q : Bool → Shared → Prop) (E : Value → Shared → Prop),
  (∀ h', (∀ q o, s.heap.get? q = some o → h'.get? q = some o) → Q b { s with heap := h' }) → wpAny (model X.prog X.w) (X.A.mark (some (.ref a))) (eval t X.env) (fun c s1 => wpAny (model X.prog X.w) (X.A.mark (some (.ref a))) (excMatches (.ref a) c) Q E s1) E s
section
variable {X : Cx}
end
abbrev CList := List (CTest × (Addr → Value → Option Addr → TS))
inductive HdsT (X : Cx) : List ExceptHandler → CList → Prop
  | nil : HdsT X [] []
  | cons {t : Expr} {f : CTest} {ts : Addr → Value → Option Addr → TS} {b₀ : Stmt} {suite : List Stmt} {pos' : Pos} {hds : List ExceptHandler} {l : CList} (hc : TestOk X t f)
      (hsu : ∀ (a : Addr) (oe : Obj) (cls : Value) (d : Option Addr) (pn : List (Addr × Obj)), Zc cls d oe → (∃ vs, oe.data = .fields vs) → PSs (X.suite a ((a, oe) :: pn)) (b₀ :: suite) (ts a cls d)) (r : HdsT X hds l) :
      HdsT X (.ExceptHandler (some t) none (b₀ :: suite) pos' :: hds) ((f, ts) :: l)
section
variable {X : Cx} {body : List Stmt} {h₀ : ExceptHandler} {hds : List ExceptHandler} {l : CList} {pos : Pos} {tb : WX → TS} {Wout : WX}
end
/-! ### over plain values -/
inductive SimHs (K : PySem.W.Frag) (n0 : Nat) : List (CTest × aTS) → CList → Prop
  | nil : SimHs K n0 [] []
  | cons {f : CTest} {s : aTS} {ts : Addr → Value → Option Addr → TS} {l : List (CTest × aTS)} {l' : CList} (h : ∀ a cls d, SimS K n0 s (ts a cls d)) (r : SimHs K n0 l l') : SimHs K n0 ((f, s) :: l) ((f, ts) :: l')
/-! ### a def that lets exceptions out -/
section
variable {P : Program} {w : World} {K : PySem.W.Frag} {mg : Str → Option Value} {base : Heap} {x qual : Str} {params : Arguments} {body : List Stmt} {scope : Scope} {f : Addr} {fd : FuncData} {N ps : List Str} {k n0 : Nat} {ac : ACX}
end
end TH
/-! Raising exceptions of own classes with own __init__ by a class above. -/
namespace TH
open PySem PySem.Spec PyProof.Rows L2
section
variable {X : Cx} {x : Str} {C0 : Addr} {mc : Value} {e : Expr} {es : List Expr} {ta : TA} {p1 p2 pos : Pos}
theorem pe_tinit {pl : Sem Bool} (hg : Gl X x) (hm : X.mg x = some (.ref C0)) (hr : PySem.W.readsIn X.K C0 mc = true) (hs : PySem.W.specialIn X.K (.ref C0) "__getattribute__" = some (some (.builtin "type.__getattribute__")))
    (vV : PySem.W.findCls X.K (.ref C0) mc "__init__" = some (.val (.builtin "ValueError.__init__"))) (ha : PA X (e :: es) ta)
    (hdb : (x == ("__debug__" : Str)) = false := by decide)
    (hc : eval (.Call (.Attribute (.Name x p1) "__init__" p2) (e :: es) [] pos) X.env = (do
      let ov ← eval (.Name x p1) X.env
      standAt p2.atName
      let (f, first) ← holding [ov] (getMethod ov "__init__" pl)
      callWith pos f first (backTo pos (starEach (e :: es) X.env)) (backToKw pos (keywordEach [] X.env))) := by rfl)
    (he : starEach (e :: es) X.env = (false, eval e X.env) :: starEach es X.env := by rfl) (hpl : (backTo pos (starEach es X.env)).any (·.1) = false := by rfl) :
    PE X (.Call (.Attribute (.Name x p1) "__init__" p2) (e :: es) [] pos) (tVeI X.K ta) := by
  refine ⟨fun pins s σ H Q I h => ?_⟩
  refine PySem.W.methodCall_KW (ld_glob I hg hm ?_ hdb) hc
  refine PySem.W.method_cls I.kIn hs (PySem.W.cls_value I.kIn hr vV (by decide +kernel) ?_)
  show wpAny _ _ (callWith pos (Value.builtin "ValueError.__init__") [] (backTo pos (starEach (e :: es) X.env)) []) _ _ _
  refine PyProof.Rows.callWith_method1 (thn (ha.run pos pins _ σ H _ (I.tok _) h) fun us s1 ⟨vs, H1, I1, r1, a, C, ws, ev, hl, T, ea, q⟩ => ?_) he hpl
  subst ev
  cases r1 with
  | @cons _ u0 _ ur ra rw' =>
    obtain rfl : u0 = Value.ref a := ra
    have hlen : ur.length ≤ sizeLine := by
      rw [← Paired.length rw', sizeLine_eq]
      omega
    exact oinit_ok T I1 ea hlen fun s' J => ⟨.non, H1, J, rfl, q⟩
end
/-! ### classes with one value, why -/
/-- what the written part says of the class above -/
structure AboveC (K : PySem.W.Frag) (C0 : Addr) : Prop where
  rd : PySem.W.readsIn K C0 (.type "type") = true
  sp : PySem.W.specialIn K (.ref C0) "__getattribute__" = some (some (.builtin "type.__getattribute__"))
  ini : PySem.W.findCls K (.ref C0) (.type "type") "__init__" = some (.val (.builtin "ValueError.__init__"))
theorem above_ok {K : PySem.W.Frag} {C0 : Addr} (h : aboveB K C0 = true) : AboveC K C0 := by
  unfold aboveB at h
  simp only [Bool.and_eq_true, decide_eq_true_eq] at h
  obtain ⟨⟨h1, h2⟩, h3⟩ := h
  refine ⟨h1, h2, ?_⟩
  split at h3
  · rename_i n e
    rw [e, beq_iff_eq.mp h3]
  · cases h3
theorem oex_ok {K : PySem.W.Frag} {C : Addr} (h : oexB K C = true) : OexC K C := by
  unfold oexB at h
  simp only [Bool.and_eq_true, decide_eq_true_eq] at h
  obtain ⟨⟨⟨⟨q, h2⟩, h3⟩, h4⟩, h5⟩ := h
  refine ⟨?_, h2, h3, h4, h5⟩
  split at q
  · rename_i dd cd sl ho
    split at q
    · rename_i C' bm k0 k1 k2 k3 n k5 hm hs
      simp only [Bool.and_eq_true, beq_iff_eq, Bool.not_eq_true'] at q
      obtain ⟨⟨⟨⟨rfl, rfl⟩, hdel⟩, hdi⟩, ht⟩ := q
      obtain ⟨nm, bs, mro, ns, qn, hd, sn, sub, ab, col, del⟩ := cd
      dsimp only at hm hdel hdi
      subst hm hdel hdi
      have hsl : sl = #[k0, k1, k2, k3, some (.builtin "ValueError.__new__"), k5] := by
        rw [← hs]
      exact ⟨nm, qn, ns, bs, bm, sn, sub, ab, col, dd, k0, k1, k2, k3, k5, by rw [ho, hsl], ht⟩
    · cases q
  · cases q
section
variable {P : Program} {w : World} {K : PySem.W.Frag} {mg : Str → Option Value} {base : Heap} {f : Addr} {fd : FuncData} {x : Str} {C0 : Addr} {CX : CXT}
variable {qual : Str} {params : Arguments} {body : List Stmt} {scope : Scope} {dvs : List V} {kws : List (Str × V)}
variable [TC : TabC]
end
end TH
/-! Functions as values that outlive the frame that made them: their cells stand pinned. -/
namespace TH
open PySem PySem.Spec PyProof.Rows L2 NdefX LamX
/-! ### pinned cells -/
/-- an object that stands as it is -/
abbrev pinO (o : Obj) : HO := .frz o (.ext fun _ => True)
/-- the heap without what is pinned -/
def unpin (H : Hp) : Hp := fun b => match H b with
  | some (.frz _ (.ext _)) => none
  | o => o
def IsPin (u : HO) : Prop := ∃ o φ, u = .frz o (.ext φ)
theorem unpin_pin {H : Hp} {b : Addr} {u : HO} (h : H b = some u) (p : IsPin u) : unpin H b = none := by
  obtain ⟨o, φ, rfl⟩ := p
  unfold unpin
  rw [h]
section
variable {P : Program} {w : World}
/-- what is pinned stands -/
theorem pin_stands {H : Hp} {h : Heap} (k : HOk P w H h) {b : Addr} {o : Obj} {φ : Heap → Prop} (e : H b = some (.frz o (.ext φ))) : h.get? b = some o := (k b _ e).1
end
/-! ### a function's captured cells, pinned -/
structure PinAt (G : Hp) (cl : List (Str × Addr)) (fr : List Str) (ws : List V) : Prop where
  len : ws.length = fr.length
  pin : ∀ y c, cl.lookup y = some c → ∃ o v, G c = some (pinO o) ∧ o.data = .cell v
  inj : ∀ x y c, cl.lookup x = some c → cl.lookup y = some c → x = y
  has : ∀ (i : Nat) (y : Str), fr[i]? = some y → ∃ c, cl.lookup y = some c ∧ ∀ v, ws[i]? = some v → ∃ u o, L2.RelV v u ∧ G c = some (pinO o) ∧ o.data = .cell (some u)
theorem PinAt.cells {P : Program} {w : World} {H : Hp} {h : Heap} {cl : List (Str × Addr)} {fr : List Str} {ws : List V} (p : PinAt H cl fr ws) (k : HOk P w H h) : CellsAt cl fr (ws.map some) h (unpin H) := by
  refine ⟨by rw [List.length_map, p.len], fun y c e => ?_, p.inj, fun i y e => ?_⟩
  · obtain ⟨o, v, h1, h2⟩ := p.pin y c e
    exact ⟨unpin_pin h1 ⟨_, _, rfl⟩, v, o, pin_stands k h1, h2⟩
  · obtain ⟨c, h1, h2⟩ := p.has i y e
    refine ⟨c, h1, fun v hv => ?_⟩
    rw [List.getElem?_map] at hv
    obtain ⟨v', h3, h4⟩ := Option.map_eq_some_iff.mp hv
    cases h4
    obtain ⟨u, o, r, h5, h6⟩ := h2 v h3
    exact ⟨u, r, o, pin_stands k h5, h6⟩
section
variable {X : Cx} {k j i : Nat} {mk : List (Str × Addr) → Addr → NdefX.NF} {ps fr : List Str} {sp : List (Option V) → Sp} {W : WX} {x : Str} {p pos : Pos} {e : Expr} {es : List Expr} {t : TA}
end
end TH
/-! Defs that make a function of their own and tell it. -/
namespace TH
open PySem PySem.Spec PyProof.Rows L2 NdefX LamX
variable [TC : TabC]
theorem Le.pin {G G' : Hp} {b : Addr} {o : Obj} {φ : Heap → Prop} (le : Le G G') (h : G b = some (.frz o (.ext φ))) : G' b = some (.frz o (.ext φ)) := by
  obtain ⟨o', h1, h2⟩ := le b _ h
  rcases h2 with h2 | ⟨u, hu, h3, h4⟩
  · rw [h1, ← h2]
  · rcases h3 with rfl | ⟨ob, h3⟩
    · exact hu.elim
    · cases h3
      exact hu.elim
theorem PinAt.mono {G G' : Hp} {cl : List (Str × Addr)} {fr : List Str} {ws : List V} (le : Le G G') (p : PinAt G cl fr ws) : PinAt G' cl fr ws :=
  ⟨p.len, fun y c e => let ⟨o, v, h1, h2⟩ := p.pin y c e; ⟨o, v, le.pin h1, h2⟩, p.inj, fun i y e => let ⟨c, h1, h2⟩ := p.has i y e; ⟨c, h1, fun v hv => let ⟨u, o, h3, h4, h5⟩ := h2 v hv; ⟨u, o, h3, le.pin h4, h5⟩⟩⟩
section
variable {cl : List (Str × Addr)} {h : Heap} {G H : Hp}
end
section
variable {P : Program} {w : World} {K : PySem.W.Frag} {mg : Str → Option Value} {base : Heap} {x qual q nm : Str} {params : Arguments} {body : List Stmt} {scope nscope : Scope} {f c P0 : Addr} {fd : FuncData} {N ps fr : List Str} {js : List Nat} {k i : Nat} {dvs : List V} {kws : List (Str × V)} {CX : CXT}
variable {nst : Stmt} {p1 p2 pos : Pos} {mk : List (Str × Addr) → Addr → NdefX.NF}
end
end TH
/-! Functions as values that share things which change; they may raise. -/
namespace TH
open PySem PySem.Spec PyProof.Rows L2 NdefX LamX
variable [TC : TabC]
/-! ### a nested def that may raise, by its body -/
abbrev ACLX := List (Option AV) → ACX
section
variable {P : Program} {w : World} {K : PySem.W.Frag} {mg : Str → Option Value} {base : Heap} {N ps fr : List Str} {F : NdefX.NF} {f : Addr} {k n0 : Nat} {ac : ACLX} {at' : aTSX}
end
/-! ### things shared, within a value -/
def BunR (K : PySem.W.Frag) (G H : Hp) (os : List AO) (as : List Addr) (fps : List (List Addr)) : Prop := as.length = os.length ∧ fps.length = os.length ∧ ∀ (j : Nat) (o : AO) (a : Addr) (f : List Addr), os[j]? = some o → as[j]? = some a → fps[j]? = some f → aoR K G H o (.ref a) f
theorem BunR.all {K : PySem.W.Frag} {G H : Hp} {os : List AO} {as : List Addr} {fps : List (List Addr)} (h : BunR K G H os as fps) {f : List Addr} (hf : f ∈ fps) : ∃ o v, aoR K G H o v f := by
  obtain ⟨j, hj, e⟩ := List.getElem_of_mem hf
  have h1 : j < os.length := by rw [← h.2.1]; exact hj
  have h2 : j < as.length := by rw [h.1]; exact h1
  exact ⟨os[j], .ref as[j], h.2.2 j _ _ f (List.getElem?_eq_getElem h1) (List.getElem?_eq_getElem h2) (by rw [List.getElem?_eq_getElem hj, e])⟩
/-! ### without what is pinned -/
/-! ### the state that such a function sees, and what is behind -/
section
variable {K : PySem.W.Frag} {G H : Hp} {as : List Addr} {os : List AO} {fps : List (List Addr)} {s1 : Cs}
end
/-! ### such a function called -/
section
variable {K : PySem.W.Frag} {B : Bs} {s : Cs}
end
end TH
/-! Methods that only read a thing; loops over a dict's keys; parts that change nothing. -/
namespace TH
open PySem PySem.Spec PyProof.Rows L2
variable [TC : TabC]
/-! ### a thing lent to a method -/
/-- no thing known by a relation of its own -/
def AO.known : AO → Bool
  | .pv _ => true
  | .lst _ => true
  | .dK _ => true
  | .ins _ fs => knowns fs
  | .res _ => false
where
  knowns : List (Str × AO) → Bool
    | [] => true
    | (_, o) :: t => AO.known o && knowns t
def IsMut (u : HO) : Prop := (∃ xs, u = .lst xs) ∨ (∃ kvs, u = .dK kvs) ∨ ∃ C dx fs, u = .ins C dx fs
section
variable {K : PySem.W.Frag} {G H : Hp}
mutual
theorem known_mut : ∀ {o : AO} {v : V} {fp : List Addr}, o.known = true → aoR K G H o v fp → ∀ b ∈ fp, ∃ u, H b = some u ∧ IsMut u
  | .pv p, v, fp, _, ⟨h1, h2⟩, b, hb => by rw [h1] at hb; cases hb
  | .lst xs, v, fp, _, ⟨a, vs, h1, h2, h3, h4⟩, b, hb => by rw [h2] at hb; rw [List.mem_singleton.mp hb]; exact ⟨_, h3, .inl ⟨_, rfl⟩⟩
  | .dK kvs, v, fp, _, ⟨a, vs, h1, h2, h3, h4⟩, b, hb => by rw [h2] at hb; rw [List.mem_singleton.mp hb]; exact ⟨_, h3, .inr (.inl ⟨_, rfl⟩)⟩
  | .ins C fs, v, fp, k, ⟨a, dx, vs, fq, h1, h2, h3, h4⟩, b, hb => by
    rw [h2] at hb
    rcases List.mem_cons.mp hb with z | z
    · rw [z]; exact ⟨_, h3, .inr (.inr ⟨_, _, _, rfl⟩)⟩
    · exact knowns_mut k h4 b z
theorem knowns_mut : ∀ {fs : List (Str × AO)} {vs : List (Str × V)} {fq : List Addr}, AO.known.knowns fs = true → foR K G H fs vs fq → ∀ b ∈ fq, ∃ u, H b = some u ∧ IsMut u
  | [], vs, fq, _, h, b, hb => by rw [h.2] at hb; cases hb
  | (f, o) :: t, vs, fq, k, ⟨v, r, f1, f2, h1, h2, h3, h4⟩, b, hb => by
    have k : (AO.known o && AO.known.knowns t) = true := k
    obtain ⟨k1, k2⟩ := Bool.and_eq_true_iff.mp k
    rw [h2] at hb
    rcases List.mem_append.mp hb with z | z
    · exact known_mut k1 h3 b z
    · exact knowns_mut k2 h4 b z
end
end
/-- values and tuples of them alone -/
def PV.tupP : PV → Bool
  | .v _ => true
  | .tup xs => tups xs
  | _ => false
where
  tups : List PV → Bool
    | [] => true
    | p :: t => PV.tupP p && tups t
section
variable {K : PySem.W.Frag} {G G1 H : Hp} {ps : List Addr}
theorem lk_tup {u : HO} {vs : List V} (h : Lk u (.tup vs)) : u = .tup vs := by
  rcases h with h | ⟨w, hw, h1, h2⟩
  · exact h
  · rcases h2 with h2 | ⟨ob, h2⟩
    · rw [← h2] at hw; exact hw.elim
    · cases h2
theorem lk_frztup {u : HO} {ob : Obj} {vs : List V} (h : Lk u (.frz ob (.tup vs))) : u = .frz ob (.tup vs) := by
  rcases h with h | ⟨w, hw, h1, h2⟩
  · exact h
  · rcases h2 with h2 | ⟨ob', h2⟩
    · rw [← h2] at hw; exact hw.elim
    · cases h2; exact hw.elim
theorem off_seqT {a : Addr} {vs : List V} (m : ∀ b ∈ ps, ∃ u, H b = some u ∧ IsMut u) (le : Le (frzH ps G H) G1) (h : SqT K G1 a vs) : SqT K (offG ps G G1) a vs := by
  have key : ∀ o, G1 a = some o → (o = .tup vs ∨ ∃ ob, o = .frz ob (.tup vs)) → offG ps G G1 a = some o := fun o e c => by
    unfold offG
    by_cases ha : a ∈ ps
    · obtain ⟨u, h1, h2⟩ := m a ha
      obtain ⟨o', h3, h4⟩ := le a u (by rw [frzH_in ha]; exact h1)
      rw [e] at h3
      cases h3
      exfalso
      rcases c with rfl | ⟨ob, rfl⟩
      · rw [lk_tup h4] at h2
        rcases h2 with ⟨_, z⟩ | ⟨_, z⟩ | ⟨_, _, _, z⟩ <;> cases z
      · rw [lk_frztup h4] at h2
        rcases h2 with ⟨_, z⟩ | ⟨_, z⟩ | ⟨_, _, _, z⟩ <;> cases z
    · rw [if_neg ha]; exact e
  rcases h with (h | ⟨ob, h⟩) | h
  · exact .inl (.inl (key _ h (.inl rfl)))
  · exact .inl (.inr ⟨ob, key _ h (.inr ⟨ob, rfl⟩)⟩)
  · exact .inr h
mutual
theorem off_pv (m : ∀ b ∈ ps, ∃ u, H b = some u ∧ IsMut u) (le : Le (frzH ps G H) G1) : ∀ {p : PV} {v : V}, p.tupP = true → (rPV K p).P G1 v → (rPV K p).P (offG ps G G1) v
  | .v _, _, _, h => h
  | .tup xs, v, t, h => by
    obtain ⟨a, vs, h1, h2, h3⟩ := (h : (rTup K (rPs K xs)).P G1 v)
    exact ⟨a, vs, h1, off_seqT m le h2, off_pvs m le t h3⟩
theorem off_pvs (m : ∀ b ∈ ps, ∃ u, H b = some u ∧ IsMut u) (le : Le (frzH ps G H) G1) : ∀ {xs : List PV} {vs : List V}, PV.tupP.tups xs = true → Al G1 (rPs K xs) vs → Al (offG ps G G1) (rPs K xs) vs
  | [], _, _, .nil => .nil
  | x :: t, _, k, .cons h r => by
    obtain ⟨k1, k2⟩ := Bool.and_eq_true_iff.mp (show (PV.tupP x && PV.tupP.tups t) = true from k)
    exact .cons (off_pv m le k1 h) (off_pvs m le k2 r)
end
end
section
variable {K : PySem.W.Frag} {m ml : Bool} {a b c e : aTE} {ta tb te tc : TE} {n0 : Nat} {ac : AC} {sp : Sp} {t : TA} {r : aTA} {E : XK}
end
end TH
/-! Parts that change nothing; loops over a dict's keys; reversed; pop; try .. finally run through; keywords. -/
namespace TH
open PySem PySem.Spec PyProof.Rows L2
variable [TC : TabC]
/-! ### parts that change nothing -/
structure EndRP (K : PySem.W.Frag) (B : Bs) (s0 : Cs) (Da : AEnds) (D : Ends) : Prop where
  nx : ∀ s sa σ, Stp K B true s0 s → SgR K s sa σ → Da.nx sa s.A → D.nx σ s.H
  rt : ∀ s p v, Stp K B true s0 s → (rPV K p).P s.G v → Da.rt (.pv p) s.A → D.rt v s.H
  bk : ∀ s sa σ, Stp K B true s0 s → SgR K s sa σ → Da.bk sa s.A → D.bk σ s.H
  ct : ∀ s sa σ, Stp K B true s0 s → SgR K s sa σ → Da.ct sa s.A → D.ct σ s.H
section
variable {K : PySem.W.Frag} {n0 : Nat} {a b e : aTE} {ta tb te : TE} {s1 s2 : aTS} {t1 t2 : TS} {ca : aTT} {tt : TT}
theorem EndRP.go {B : Bs} {s s' : Cs} {Da : AEnds} {D : Ends} (e : EndRP K B s Da D) (g : Stp K B true s s') : EndRP K B s' Da D :=
  ⟨fun s1 sa σ r1 q k => e.nx s1 sa σ (g.trans r1) q k, fun s1 p v r1 q k => e.rt s1 p v (g.trans r1) q k, fun s1 sa σ r1 q k => e.bk s1 sa σ (g.trans r1) q k, fun s1 sa σ r1 q k => e.ct s1 sa σ (g.trans r1) q k⟩
/-! ### for k in d, d frozen -/
/-! ### reversed(a frozen list); d.pop(k) -/
end
/-! ### try: body / except .. / finally: suite, where nothing is raised and the body ends -/
section
variable {X : Cx} {body : List Stmt} {h₀ : ExceptHandler} {hs : List ExceptHandler} {f₀ : Stmt} {fs : List Stmt} {t u : TS} {pos : Pos}
end
/-! ### o.m(k = v, ..), a token out -/
structure MetTK (P : Program) (w : World) (K : PySem.W.Frag) (mg : Str → Option Value) (base : Heap) (k : Nat) (C : Addr) (m : Str) (sp : Sp) (ks : List Str) (ds : List V) : Prop where
  ex : ∃ (f : Addr) (fd : FuncData) (ps : List Str) (g : List Value → List Value → List Value), Cls K C ∧ Meth K C m f ∧ FnT P w K mg base CX0 k f fd ps sp ∧ KBn K fd ps 1 ks g (fun vs zs => vs ++ (ds ++ zs))
section
variable {K : PySem.W.Frag} {ac : AC} {sp : Sp} {a : aTE} {ta : TE} {rk : aTA} {tk : TA} {E : XK} {ds : List V} {dps : List PV}
end
/-! ### C(e, .., k = v) -/
structure MakK (P : Program) (w : World) (K : PySem.W.Frag) (mg : Str → Option Value) (base : Heap) (k : Nat) (x : Str) (C : Addr) (sp : Sp) (n : Nat) (ks : List Str) (ds : List V) : Prop where
  ex : ∃ (f : Addr) (fd : FuncData) (ps : List Str) (g : List Value → List Value → List Value), Mk K C f ∧ FnOk P w K mg base CX0 k f fd ps sp ∧ mg x = some (.ref C) ∧ KBn K fd ps (n + 1) ks g (fun vs zs => vs ++ (ds ++ zs))
section
variable {K : PySem.W.Frag} {m : Bool} {ac : AC} {sp : Sp} {r rk : aTA} {t tk : TA} {E : XK} {ds : List V} {dps : List PV} {n l : Nat}
end
end TH
/-! Things at known places; things that go over into what functions share. -/
namespace TH
open PySem PySem.Spec PyProof.Rows L2
variable [TC : TabC]
section
variable {K : PySem.W.Frag} {n0 : Nat} {s1 : aTS} {t1 : TS} {B : Bs} {s : Cs}
/-! ### places handed in as values -/
section
variable {m : Bool} {ac : AC} {sp : Sp} {t : TA} {r : aTA} {E : XK}
end
/-! ### a thing goes over into what functions share -/
end
end TH
/-! Methods called with some keywords, others filled by defaults; a new thing handed in whose place is known. -/
namespace TH
open PySem PySem.Spec PyProof.Rows L2
variable [TC : TabC]
/-- o.m(e, .., k = v, ..): n values, keywords ks; d1 and d2 are the defaults ahead of and behind the keywords -/
structure MetTQ (P : Program) (w : World) (K : PySem.W.Frag) (mg : Str → Option Value) (base : Heap) (k : Nat) (C : Addr) (m : Str) (sp : Sp) (n : Nat) (ks : List Str) (d1 d2 : List V) : Prop where
  ex : ∃ (f : Addr) (fd : FuncData) (ps : List Str) (g : List Value → List Value → List Value), Cls K C ∧ Meth K C m f ∧ FnT P w K mg base CX0 k f fd ps sp ∧ KBn K fd ps (n + 1) ks g (fun vs zs => vs ++ (d1 ++ (zs ++ d2)))
section
variable {K : PySem.W.Frag} {ac : AC} {sp : Sp} {a : aTE} {ta : TE} {rp rk : aTA} {tp tk : TA} {E : XK} {d1 d2 : List V} {q1 q2 : List PV}
/-! ### a new thing handed in, its place known -/
end
end TH
/-! Methods that let exceptions out, of a thing that may change. -/
namespace TH
open PySem PySem.Spec PyProof.Rows L2
variable [TC : TabC]
/-- a method that may let an exception out -/
structure MetX (P : Program) (w : World) (K : PySem.W.Frag) (mg : Str → Option Value) (base : Heap) (k : Nat) (C : Addr) (m : Str) (sp : Sp) : Prop where
  ex : ∃ (g : Addr) (fd : FuncData) (ps : List Str), Cls K C ∧ Meth K C m g ∧ FnOk P w K mg base (L2.CX P w) k g fd ps sp ∧ Binds K fd ps []
def tMethX (C : Addr) (m : Str) (sp : Sp) (W : WX) (ta : TE) (t : TA) : TE := fun σ H Q => ta σ H fun x H1 => ∃ a dx fs, x = .ref a ∧ H1 a = some (.ins C dx fs) ∧ fs.lookup m = none ∧ t σ H1 fun vs H2 => sp (x :: vs) H2 Q (WE W σ)
section
variable {X : Cx} {W : WX} {k j : Nat} {C : Addr} {m : Str} {sp : Sp} {o e : Expr} {es : List Expr} {ta : TE} {t : TA} {apos pos : Pos}
end
section
variable {K : PySem.W.Frag} {W : WX} {ac : ACX} {a : aTE} {r : aTA} {ta : TE} {t : TA}
/-- the thing taken out for a call, whatever it lets out -/
theorem call1X_ok {B : Bs} {s : Cs} {vs : List V} {ps : List PV} {n : Nat} {p : List Str} {v : V} {o : AO} {E : XK} (r : Rep K B s) (hv : avR K s (.loc n p) v) (e : aoAt s.A n p = some o) (al : Al s.G (rPs K ps) vs) {Kc : Rt → Sto → Prop} {Kx : AX → Sto → Prop} {Q : VK} (h : ac (.loc 0 [] :: ps.map .pv) [o] Kc Kx)
    (q : ∀ rv w o' s', Rep K B s' → Stp K B false s s' → s'.A = aoSet s.A n p o' → Kc rv [o'] → (match rv with | .pv x => (rPV K x).P s'.G w | .loc i => i = 0 → w = v | .new _ => True) → Q w s'.H)
    (qx : ∀ ex cls d o' s', Rep K B s' → Stp K B false s s' → s'.A = aoSet s.A n p o' → Kx ex [o'] → excR K s' cls d ex → E cls d s'.H) : spX K ac (v :: vs) s.H Q E := by
  obtain ⟨fp, h1, hnd, _, hout, _, put⟩ := r.opn hv e
  have h2 := one_start h1 hnd hout r.le r.tabs
  have key : ∀ s' : Cs, Rep K (Bs.of (⟨[v], fun _ => fp, [o], s.G, s.H⟩ : Cs)) s' → s'.A.length = 1 → ∃ o' φ', s'.A = [o'] ∧ Rep K B { s with φ := φ', A := aoSet s.A n p o', G := s'.G, H := s'.H } ∧ Stp K B false s { s with φ := φ', A := aoSet s.A n p o', G := s'.G, H := s'.H } := fun s' r' hl => by
    obtain ⟨o', eo⟩ : ∃ o', s'.A = [o'] := by
      match s'.A, hl with
      | [o'], _ => exact ⟨o', rfl⟩
    obtain ⟨v', y1, y2⟩ := r'.at' 0 o' (by rw [eo]; rfl)
    have y3 : s'.ι[0]? = some v := pre_get r'.pre (show [v][0]? = some v from rfl)
    rw [y3] at y1
    cases y1
    have hl0 : 0 < s'.A.length := by rw [eo]; exact Nat.zero_lt_one
    have gr : Gr fp s.G s.H s'.G s'.H := r'.gr.mono fun b hb => by
      obtain ⟨i, _, z⟩ := List.mem_flatMap.mp hb
      exact z
    obtain ⟨φ', z1, z2⟩ := put y2 (r'.nd 0 hl0) (fun b hb => (r'.fr 0 hl0 b hb).imp And.right id) (fun b hb => r'.out 0 hl0 b hb) gr
    exact ⟨o', φ', eo, z1, ⟨z2, List.prefix_refl _, gr.dm, fun z => (nomatch z), z1⟩⟩
  refine ⟨(⟨[v], fun _ => fp, [o], s.G, s.H⟩ : Cs), .loc 0 [] :: ps.map .pv, Kc, Kx, rfl, h2, .cons rfl (al_avS (s := ⟨[v], fun _ => fp, [o], s.G, s.H⟩) al), h, fun rv w s' r' hl hr k => ?_, fun ex cls d s' r' hl hx k => ?_⟩
  · obtain ⟨o', φ', eo, z1, z2⟩ := key s' r' hl
    rw [eo] at k
    refine q rv w o' { s with φ := φ', A := aoSet s.A n p o', G := s'.G, H := s'.H } z1 z2 rfl k ?_
    match rv, hr with
    | .pv x, hr => exact hr
    | .loc i, hr =>
      intro hi
      subst hi
      have hr : [v][0]? = some w := hr
      exact (Option.some.inj hr).symm
    | .new _, _ => trivial
  · obtain ⟨o', φ', eo, z1, z2⟩ := key s' r' hl
    rw [eo] at k
    exact qx ex cls d o' { s with φ := φ', A := aoSet s.A n p o', G := s'.G, H := s'.H } z1 z2 rfl k hx
def aMeth1X (C : Addr) (mt : Str) (ac : ACX) (a : aTE) (r : aTA) : aTEX := fun Kx sa A k => a sa A fun x A1 => match x with
  | .loc n p => ∃ fs, aoAt A1 n p = some (.ins C fs) ∧ fs.lookup mt = none ∧ r sa A1 fun avs A2 => ∃ ps o, pvs avs = some ps ∧ aoAt A2 n p = some o ∧ ac (.loc 0 [] :: ps.map .pv) [o] (fun rv os => match rv, os with
    | .pv q, [o'] => k (.pv q) (aoSet A2 n p o')
    | _, _ => False) fun e os => match os with
    | [o'] => Kx e sa (aoSet A2 n p o')
    | _ => False
  | _ => False
theorem simx_meth1 {C : Addr} {mt : Str} (ha : SimE K false a ta) (hr : SimA K true r t) : SimEX K W (aMeth1X C mt ac a r) (tMethX C mt (spX K ac) W ta t) := fun {B s sa σ} rp g {Kx Kc Q} x q h =>
  ha rp g (fun y vy s1 e1 px k => by
    split at k
    · rename_i n p
      obtain ⟨fs, k0, k1, k2⟩ := k
      obtain ⟨fp, ⟨d, dx, vs, fq, h1, h2, h3, h4⟩, _⟩ := e1.rep.sub px k0
      refine ⟨d, dx, vs, h1, h3, for_none h4 k1, hr e1.rep (g.stp e1) (fun avs ws s2 e2 ps k => ?_) k2⟩
      obtain ⟨qs, o, k4, k5, k6⟩ := k
      refine call1X_ok (Kc := _) (Kx := _) e2.rep (px.stp e2) k5 (pvs_al ps k4) k6 (fun rv w o' s3 r3 e3 hA k hr => ?_) fun ex cls dd o' s3 r3 e3 hA k hx => ?_
      · match rv, hr, k with
        | .pv x, hr, k => exact q (.pv x) w s3 ((e1.off.trans e2.weak).trans e3) hr (by rw [hA]; exact k)
      · have st := (e1.off.trans e2.weak).trans e3
        exact x ex cls dd s3 sa σ r3 st.grw (g.stp st) hx (by rw [hA]; exact k)
    · exact k.elim) h
end
/-! ### loops, operations -/
section
variable {K : PySem.W.Frag} {W : WX}
end
/-! ### o.f += d -/
section
variable {K : PySem.W.Frag} {n0 : Nat}
def aFAug (C : Addr) (f : Str) (a : aTE) (d : Int) : aTS := fun D sa A => a sa A fun x A1 => match x with
  | .loc n p => ∃ fs i, aoAt A1 n p = some (.ins C fs) ∧ fs.lookup f = some (.pv (.v (.int i))) ∧ fs.length < 1000 ∧ D.nx sa (aoSet A1 n p (.ins C (putFo f (.pv (.v (.int (i + d)))) fs)))
  | _ => False
theorem sim_faug {C : Addr} {f : Str} {a : aTE} {ta : TE} {d : Int} (hc : Cls K C) (hn : NoAttr K C f) (ha : SimE K false a ta) : SimS K n0 (aFAug C f a d) (sFldAug K ta (tC (.int d)) rAdd f) := fun {B s Da D} h0 ed {sa σ} rp gg h =>
  ha rp gg (fun x vx s1 e1 px k => by
    split at k
    · rename_i n p
      obtain ⟨fs, i, k1, k2, k3, k4⟩ := k
      obtain ⟨fp, ⟨dd, dx, vs, fq, h1, h2, h3, h4⟩, _⟩ := e1.rep.sub px k1
      obtain ⟨v, _, fo, _, hv, _, ho, _⟩ := foR_get h4 k2
      obtain rfl : v = .int i := by
        exact ho.2
      obtain ⟨s', r', g', hA, hH⟩ := put_fld (f := f) (o := .pv (.v (.int (i + d)))) (fo := []) (w := .int (i + d)) e1.rep px k1 h1 h3 ⟨rfl, rfl⟩ List.nodup_nil (fun b hb => (nomatch hb)) (fun b hb => (nomatch hb)) (fun b hb => (nomatch hb))
      refine ⟨dd, C, dx, vs, _, h1, h3, hc, hn, hv, i, d, rfl, rfl, dx, vs, h3, by rw [foR_len h4]; exact k3, ?_⟩
      rw [← hH]
      exact ed.nx s' sa σ r' (e1.grw.trans g') ((gg.stp e1).grw g') (by rw [hA]; exact k4)
    · exact k.elim) h
end
end TH
/-! Exceptions where a token is out. -/
namespace TH
open PySem PySem.Spec PyProof.Rows L2
variable [TC : TabC]
/-! ### a try whose body asks for a token; a method that lets exceptions out, with such arguments -/
section
variable {X : Cx} {body : List Stmt} {h₀ : ExceptHandler} {hds : List ExceptHandler} {l : CList} {pos : Pos} {tb : WX → TS} {Wout : WX}
end
section
variable {X : Cx} {W : WX} {k j : Nat} {C : Addr} {m : Str} {sp : Sp} {o e : Expr} {es : List Expr} {ta : TE} {t : TA} {apos pos : Pos}
end
end TH
/-! ### d.get(text, new) of a dict without entries, whose keys were to be tuples -/
namespace TH
open PySem PySem.Spec PyProof.Rows L2
variable [TC : TabC]
section
variable {X : Cx} {o e f : Expr} {apos cpos : Pos} {td ty tx : TE}
end
section
variable {K : PySem.W.Frag} {m : Bool} {ta tb tc : TE}
end
/-! ### o.m(..) with defaults -/
section
variable {K : PySem.W.Frag} {m : Bool} {ac : AC} {sp : Sp} {a : aTE} {r : aTA} {ta : TE} {t : TA} {E : XK}
end
/-! ### things lent to a def that tells a text, a number or None; keyword calls that tell something new -/
section
variable {K : PySem.W.Frag} {m : Bool} {ac : AC} {sp : Sp} {r rk : aTA} {t tk : TA} {E : XK}
def isSc (k : V → Prop) : Rt → Sto → Prop := fun r _ => match r with
  | .pv (.v u) => k u
  | _ => False
theorem isSc_at {k : V → Prop} {r : Rt} {A : Sto} (h : isSc k r A) : ∃ u, r = .pv (.v u) ∧ k u := by
  unfold isSc at h
  split at h
  · exact ⟨_, rfl, h⟩
  · exact h.elim
theorem lent {B : Bs} {s1 : Cs} {avs : List AV} {vs : List V} {ps : List PV} {qs : List PV} {us : List V} {Q : VK} {k : V → Prop} (rp : Rep K B s1) (hsp : SpLe (spA K ac) sp) (pr : Paired (avR K s1) avs vs) (hl : lends s1.A avs = some ps) (al2 : Al s1.G (rPs K qs) us)
    (h : ac ((ps ++ qs).map .pv) [] (isSc k)) (q : ∀ u s', Stp K B m s1 s' → s'.A = s1.A → k u → Q u s'.H) : sp (vs ++ us) s1.H Q E := by
  have hx := lendF_nx rp avs
  have al := lend_al rp pr (fp := lendF s1 avs) (fun b hb => hb) hl
  generalize lendF s1 avs = fp at hx al
  have tg : ∀ P, TabG s1.G s1.H P → TabG (frzH fp s1.G s1.H) s1.H P := fun P t => t.go (le_frzH rp.le) rfl ((frzH_out fun z => by
    obtain ⟨o, e, n⟩ := hx P z
    exact t.off e n.1 rfl).trans t.1)
  have r0 : Rep K (Bs.of (Cs.none { s1 with G := frzH fp s1.G s1.H })) (Cs.none { s1 with G := frzH fp s1.G s1.H }) :=
    ⟨rfl, fun n o e => (by cases e), fun n h => (by cases h), fun m n h => (by cases h), fun n h => (by cases h), fun n h => (by cases h), .refl (frzH_le rp.le), List.prefix_refl _, fun P hP => tg P (rp.tabs P hP)⟩
  have al3 : Al (frzH fp s1.G s1.H) (rPs K (ps ++ qs)) (vs ++ us) := by
    rw [rPs_app]
    exact al.append (al2.mono (le_frzH rp.le))
  refine hsp _ _ _ _ ⟨Cs.none { s1 with G := frzH fp s1.G s1.H }, (ps ++ qs).map .pv, _, rfl, r0, al_avS (s := Cs.none { s1 with G := frzH fp s1.G s1.H }) al3, h, fun rv v s2 r2 hl hr k => ?_⟩
  have bk := (tmp_back (M := md0) (fun p hp => ⟨hx p hp, fun z => nomatch z⟩) rp.le ⟨r2.gr, trivial⟩).gr
  have bk : Gr [] s1.G s1.H (offG fp s1.G s2.G) s2.H := bk
  obtain ⟨u, rfl, k⟩ := isSc_at k
  obtain rfl : v = u := hr
  exact q v { s1 with G := offG fp s1.G s2.G, H := s2.H } (.of rp bk) rfl k
end
end TH
/-! ### {(..): v}; d[(..)] = v where the key is drawn; sorted(numbers) -/
namespace PySem
open Sem (wp)
section
variable {prog : Program} {w : World} {K : Type} [DecidableEq K] {knd : HeapKind prog w K} {A : Around} {E : Value → Shared → Prop} {s : Shared}
end
end PySem
namespace TH
open PySem PySem.Spec PyProof.Rows L2
variable [TC : TabC]
section
variable {K : PySem.W.Frag} {m : Bool} {ta tb te : TE} {n0 i : Nat} {a b : aTE}
end
end TH
/-! sorted(xs) of what reads as data; sorted(d), list(d) of a dict by tuples; such a dict whose values are cut, key by key. -/
namespace TH
open PySem PySem.Spec PyProof.Rows L2 PySem.W PySem.Calls
variable [TC : TabC]
/-! ### sorted(xs), by data -/
section
variable {X : Cx}
/-! ### sorted(d): the keys, in some order -/
end
section
variable {prog : Program} {w : World} {A : Around} {E : Value → Shared → Prop} {s : Shared} {T : String} {r d : Addr} {n : Nat} {P : Nat → Value → Prop} {OK : Heap → Prop}
end
section
variable {X : Cx}

end
section
open Classical
variable {K : PySem.W.Frag} {m ml : Bool} {a b c e : aTE} {ta tb te tc : TE} {n0 : Nat}
/-! ### a dict by tuples whose values are cut, key by key -/
noncomputable def cutM (g : List Key → PV → List PV) (kvs : TKV) (done : List (List Key)) : TKV := kvs.map fun x => if x.1 ∈ done then (x.1, .lst (g x.1 x.2)) else x
end
end TH
/-! A def that is handed a thing and tells a new one. -/
namespace TH
open PySem PySem.Spec PyProof.Rows L2
variable [TC : TabC]
section
variable {K : PySem.W.Frag} {ac : AC} {sp : Sp} {t : TA} {r : aTA} {E : XK}
end
end TH
/-! a list of lists that change: made by `[[] for ..]`, changed by xs[i].append(v). -/
namespace TH
open PySem PySem.Spec PyProof.Rows L2
variable [TC : TabC]
/-- some lists of their own -/
def LsR (K : PySem.W.Frag) (G H : Hp) : List Addr → List (List PV) → Prop := Paired (fun b xs => ∃ vs, H b = some (.lst vs) ∧ Al G (rPs K xs) vs)
theorem LsR.frame {K : PySem.W.Frag} {G H G' H' : Hp} (le : Le G G') : ∀ {bs : List Addr} {ls : List (List PV)}, LsR K G H bs ls → (∀ b ∈ bs, H' b = H b) → LsR K G' H' bs ls
  | _, _, .nil, _ => .nil
  | b :: _, _, .cons ⟨vs, h1, h2⟩ t, e => .cons ⟨vs, by rw [e b List.mem_cons_self]; exact h1, h2.mono le⟩ (LsR.frame le t fun c hc => e c (List.mem_cons_of_mem _ hc))
theorem LsR.there {K : PySem.W.Frag} {G H : Hp} : ∀ {bs : List Addr} {ls : List (List PV)}, LsR K G H bs ls → ∀ b ∈ bs, ∃ o, H b = some o ∧ NX o
  | _, _, .nil, b, hb => nomatch hb
  | _, _, .cons ⟨vs, h1, _⟩ t, b, hb => (List.mem_cons.mp hb).elim (fun e => ⟨_, e ▸ h1, by exact ⟨fun _ z => (nomatch z), fun _ z => (nomatch z)⟩⟩) fun hb => LsR.there t b hb
theorem LsR.fz {K : PySem.W.Frag} {G H : Hp} {ps : List Addr} (le : Le G H) : ∀ {bs : List Addr} {ls : List (List PV)}, LsR K G H bs ls → (∀ b ∈ bs, b ∈ ps) → Al (frzH ps G H) (rPs K (ls.map PV.lst)) (bs.map V.ref)
  | _, _, .nil, _ => .nil
  | b :: _, _, .cons ⟨vs, h1, h2⟩ t, e => .cons ⟨b, vs, rfl, by rw [frzH_in (e b List.mem_cons_self)]; exact h1, h2.mono (le_frzH le)⟩ (LsR.fz le t fun c hc => e c (List.mem_cons_of_mem _ hc))
section
variable {K : PySem.W.Frag} {m ml : Bool} {a b c e : aTE} {ta tb tc te : TE} {n0 : Nat}
theorem LsR.at {G H : Hp} : ∀ {bs : List Addr} {ls : List (List PV)}, LsR K G H bs ls → ∀ {i : Nat} {xs : List PV}, ls[i]? = some xs → ∃ b vs, bs[i]? = some b ∧ H b = some (.lst vs) ∧ Al G (rPs K xs) vs
  | _, _, .nil, i, xs, e => by cases e
  | b :: _, _, .cons ⟨vs, h1, h2⟩ t, 0, xs, e => by cases e; exact ⟨b, vs, rfl, h1, h2⟩
  | b :: _, _, .cons _ t, i + 1, xs, e => LsR.at t (i := i) e
theorem LsR.len {G H : Hp} : ∀ {bs : List Addr} {ls : List (List PV)}, LsR K G H bs ls → bs.length = ls.length
  | _, _, .nil => rfl
  | _, _, .cons _ t => congrArg Nat.succ (LsR.len t)
theorem LsR.put {G H : Hp} {xs : List PV} {ws : List V} (al : Al G (rPs K xs) ws) : ∀ {bs : List Addr} {ls : List (List PV)}, LsR K G H bs ls → bs.Nodup → ∀ {i : Nat} {d : Addr}, bs[i]? = some d → LsR K G (upd H d (.lst ws)) bs (ls.set i xs)
  | _, _, .nil, _, i, d, e => by cases e
  | b :: bs, _, .cons ⟨vs, h1, h2⟩ t, nd, 0, d, e => by
    cases e
    obtain ⟨n1, _⟩ := List.nodup_cons.mp nd
    exact .cons ⟨ws, upd_same, al⟩ (LsR.frame (Le.refl _) t fun c hc => upd_ne fun z => n1 (z ▸ hc))
  | b :: bs, _, .cons ⟨vs, h1, h2⟩ t, nd, i + 1, d, e => by
    obtain ⟨n1, n2⟩ := List.nodup_cons.mp nd
    have hd : d ∈ bs := List.mem_of_getElem? e
    have ne : b ≠ d := fun z => n1 (by rw [z]; exact hd)
    exact .cons ⟨vs, by rw [upd_ne ne]; exact h1, h2⟩ (LsR.put al t n2 (i := i) e)
theorem al_set {G : Hp} {p : PV} {v : V} (hp : (rPV K p).P G v) : ∀ {xs : List PV} {vs : List V} (i : Nat), Al G (rPs K xs) vs → Al G (rPs K (xs.set i p)) (vs.set i v)
  | [], _, i, .nil => .nil
  | _ :: _, _, 0, .cons _ t => .cons hp t
  | _ :: _, _, i + 1, .cons h t => .cons h (al_set hp i t)
end
section
variable {K : PySem.W.Frag}
end
/-! ### what is never reached -/
section
variable {X : Cx} {K : PySem.W.Frag} {n0 : Nat}
theorem ps_dead {st : Stmt} : PS X st (fun _ _ _ => False) := ⟨fun _ _ _ _ _ _ h => h.elim⟩
theorem sim_dead : SimS K n0 (fun _ _ _ => False) (fun _ _ _ => False) := fun {B s Da D} h0 ed {sa σ} rp gg h => h.elim
end
section
variable {X : Cx}
end
end TH
/-! for k in (a dict just made): it is held shut for good. -/
namespace TH
open PySem PySem.Spec PyProof.Rows L2
variable [TC : TabC]
section
variable {X : Cx} {tg e : Expr} {td : TE}
end
section
variable {X : Cx} {id : String} {x : Str} {e : Expr} {es : List Expr} {t : TA} {r : List V → Hp → VK → Prop} {p pos : Pos}
theorem pet_callB (hc : CallR X (.builtin id) r) (hg : Gl X x) (hm : X.mg x = none) (hv : bootBuiltins x = some (.builtin id)) (ha : PAT X (e :: es) t) (hn : x ≠ "__name__" := by decide) (hdb : (x == ("__debug__" : Str)) = false := by decide)
    (he : starEach (e :: es) X.env = (false, eval e X.env) :: starEach es X.env := by rfl) (hpl : (backTo pos (starEach es X.env)).any (·.1) = false := by rfl) : PET X (.Call (.Name x p) (e :: es) [] pos) (tCB r t) := by
  intro pins s σ H Q h0 I h
  refine wpAny_Call_Name_kw (ld_blt I hg hm hv ?_ hn hdb)
  exact PyProof.Rows.callWith_builtin1 (thn (ha pos pins s σ H _ h0 I h) fun us s1 ⟨vs, H1, I1, r1, q1⟩ => hc pins s1 σ H1 vs us Q I1 r1 q1) he hpl
end
section
variable {K : PySem.W.Frag} {n0 : Nat} {s1 : aTS} {t1 : TS}
end
end TH
/-! A lambda without arguments, with a default perhaps, handed to a def that calls it within a try. -/
namespace TH
open PySem PySem.Spec PyProof.Rows L2 LamX NdefX
variable [TC : TabC]
abbrev lamFd (q : Str) (params : Arguments) (body : Expr) (scope : Scope) (cl : List (Str × Addr)) (pm : Value) (c : Addr) (ctv dV : Value) : FuncData :=
  { PySem.W.kla_fn "<lambda>" q params body scope cl pm (.ref c) ctv with defaults := dV }
abbrev lamObj (q : Str) (params : Arguments) (body : Expr) (scope : Scope) (cl : List (Str × Addr)) (pm : Value) (c : Addr) (ctv dV : Value) : Obj :=
  { cls := .type "function", data := .func (lamFd q params body scope cl pm c ctv dV) }
section
variable {M : Model} {A : Around} {E : Value → Shared → Prop} {s : Shared} {qual : Str} {params : Arguments} {body : Expr} {scope : Scope} {env : Env} {c P : Addr} {ps : Array Value} {pos : Pos} {firstLine : Nat} {mg : Str → Option Value}
  {clos : List (Str × Addr)} {Q : Value → Shared → Prop} {dV : Value}
theorem tailD_new (hcl : closureFor scope env = pure clos) (hge0 : env.globals = mainGlobals) (hg : s.heap.Ns mainGlobals mg) (hcode : env.code = .ref c) (C : PySem.W.CodeHd s.heap c P) (hP : s.heap.get? P = some (PySem.W.tabObj ps)) (ht : TriplesOk ps.toList)
    (hnf : codeAmong pos ps.toList = none) (hgP : mainGlobals ≠ P) (hb : s.heap.BuiltinsAt mg P)
    (h : ∀ d ctv h' tk, Heap.ExtBut P s.heap h' → s.heap.objs.size ≤ d → d < h'.objs.size → h'.CodeRec (.ref d) qual → h'.get? P = some (PySem.W.tabObj (ps ++ #[rawInt pos.line, rawInt pos.col, .ref d])) →
      Q (.ref h'.objs.size) { s with heap := h'.push (lamObj qual params body scope clos ((mg "__name__").getD .none) d ctv dV), toks := tk }) :
    wpAny M A (makeTail "<lambda>" qual params (.expr body) scope env dV .none none pos firstLine) Q E s := by
  obtain ⟨bm, ob, b1, b2, _, b3, b4, b5, b6, b7⟩ := hb
  unfold makeTail
  rw [hcl, hge0]
  refine wpAny_bind (wpAny_pure ?_)
  cases clos with
  | nil =>
    simp only [List.isEmpty_nil, if_true]
    refine wpAny_bind (wpAny_pure ?_)
    refine wpAny_bind (wpAny_functionCodeX hcode (C.code hP ht) (C.tab hP) hnf fun d h' tk x1 x2 x3 _ x4 x5 _ => ?_)
    have g1 := hg.extBut x1 hgP
    refine wpAny_bind (wpAny_builtinsFor g1 b1 b2 (x1 _ _ b3 b4) b5 b6 b7 ?_)
    refine wpAny_bind (wpAny_nsGet g1 ?_)
    exact wpAny_bind (wpAny_pure (wpAny_newObj_type (h d .none h' tk x1 x2 x3 x4 x5.2) (by size_fits)))
  | cons q r =>
    simp only [List.isEmpty_cons, Bool.false_eq_true, if_false]
    refine wpAny_bind (wpAny_newTextTuple ?_)
    have cp := C.keeps (h' := s.heap.push { cls := .type "tuple", data := .seq (((q :: r).mergeSort fun a b => a.1.cps.toList ≤ b.1.cps.toList).map (.ref ·.2)).toArray }) fun b o e => Heap.get?_push_of_some _ e
    refine wpAny_bind (wpAny_functionCodeX hcode (cp.code (Heap.get?_push_of_some _ hP) ht) (cp.tab (Heap.get?_push_of_some _ hP)) hnf fun d h' tk x1 x2 x3 _ x4 x5 _ => ?_)
    have g1 := (hg.push _).extBut x1 hgP
    have y1 : Heap.ExtBut P s.heap h' := fun b o hb' e => x1 b o hb' (Heap.get?_push_of_some _ e)
    have y2 : s.heap.objs.size ≤ d := Nat.le_trans (by rw [Heap.size_push]; omega) x2
    refine wpAny_bind (wpAny_builtinsFor g1 b1 b2 (y1 _ _ b3 b4) b5 b6 b7 ?_)
    refine wpAny_bind (wpAny_nsGet g1 ?_)
    exact wpAny_bind (wpAny_pure (wpAny_newObj_type (h d _ h' tk y1 y2 x3 x4 x5.2) (by size_fits)))
theorem tailD_hit {d : Addr} (hcl : closureFor scope env = pure clos) (hge0 : env.globals = mainGlobals) (hg : s.heap.Ns mainGlobals mg) (hcode : env.code = .ref c) (C : PySem.W.CodeHd s.heap c P) (hP : s.heap.get? P = some (PySem.W.tabObj ps)) (ht : TriplesOk ps.toList)
    (hf : codeAmong pos ps.toList = some (.ref d)) (hb : s.heap.BuiltinsAt mg P)
    (h : ∀ (ctv : Value) (h' : Heap) (tk : Tok), (∀ b o, s.heap.get? b = some o → h'.get? b = some o) → s.heap.objs.size ≤ h'.objs.size →
      Q (.ref h'.objs.size) { s with heap := h'.push (lamObj qual params body scope clos ((mg "__name__").getD .none) d ctv dV), toks := tk }) :
    wpAny M A (makeTail "<lambda>" qual params (.expr body) scope env dV .none none pos firstLine) Q E s := by
  obtain ⟨bm, ob, b1, b2, _, b3, b4, b5, b6, b7⟩ := hb
  unfold makeTail
  rw [hcl, hge0]
  refine wpAny_bind (wpAny_pure ?_)
  cases clos with
  | nil =>
    simp only [List.isEmpty_nil, if_true]
    refine wpAny_bind (wpAny_pure ?_)
    refine wpAny_bind (wpAny_functionCode_hit hcode (C.code hP ht) hf ?_)
    refine wpAny_bind (wpAny_builtinsFor hg b1 b2 b4 b5 b6 b7 ?_)
    refine wpAny_bind (wpAny_nsGet hg ?_)
    exact wpAny_bind (wpAny_pure (wpAny_newObj_type (h .none s.heap s.toks (fun _ _ e => e) (Nat.le_refl _)) (by size_fits)))
  | cons q r =>
    simp only [List.isEmpty_cons, Bool.false_eq_true, if_false]
    refine wpAny_bind (wpAny_newTextTuple ?_)
    have cp := C.keeps (h' := s.heap.push { cls := .type "tuple", data := .seq (((q :: r).mergeSort fun a b => a.1.cps.toList ≤ b.1.cps.toList).map (.ref ·.2)).toArray }) fun b o e => Heap.get?_push_of_some _ e
    refine wpAny_bind (wpAny_functionCode_hit hcode (cp.code (Heap.get?_push_of_some _ hP) ht) hf ?_)
    refine wpAny_bind (wpAny_builtinsFor (hg.push _) b1 b2 (Heap.get?_push_of_some _ b4) b5 b6 b7 ?_)
    refine wpAny_bind (wpAny_nsGet (hg.push _) ?_)
    have sz : ∀ oT : Obj, s.heap.objs.size ≤ (s.heap.push oT).objs.size := fun oT => by rw [Heap.size_push]; omega
    exact wpAny_bind (wpAny_pure (wpAny_newObj_type (h _ _ s.toks (fun b o e => Heap.get?_push_of_some _ e) (sz _)) (by size_fits)))
end
/-- the defaults of a lambda: whole numbers -/
structure DefN (X : Cx) (params : Arguments) (ns : List Int) : Prop where
  kw : (defaultsOf params X.env).2 = []
  ev : ∀ (A : Around) (E : Value → Shared → Prop) (Q : List Value → Shared → Prop) (s : Shared), (∀ ts k, Vals (ns.map V.int) ts → Q ts { s with toks := s.toks + k }) → wpAny (model X.prog X.w) A (evalAll (defaultsOf params X.env).1) Q E s
theorem defN0 {X : Cx} {params : Arguments} (h : defaultsOf params X.env = ([], [])) : DefN X params [] := ⟨by rw [h], fun A E Q s q => by
  rw [h]
  exact wpAny_pure (q [] 0 .nil)⟩
/-- where the defaults lie -/
def DAt (h : Heap) (H : Hp) (fs : List Addr) (ns : List Int) (dV : Value) : Prop := (ns = [] ∧ dV = .none) ∨ ∃ T ts, ns ≠ [] ∧ dV = .ref T ∧ h.get? T = some { cls := .type "tuple", data := .seq ts.toArray } ∧ Vals (ns.map V.int) ts ∧ H T = none ∧ T ∉ fs
section
variable {X : Cx} {pins : List (Addr × Obj)} {σ : L2.St} {H : Hp} {s : Shared} {c P : Addr} {params : Arguments} {body : Expr} {scope : Scope} {pos : Pos} {ps : Array Value} {E : Value → Shared → Prop} {Q : Value → Shared → Prop} {ns : List Int}
/-- the heap once the lambda at the place is made -/
def MadeL (H : Hp) (P : Addr) (pos : Pos) (q : Str) (ps : Array Value) (d : Addr) (H1 : Hp) : Prop := (codeAmong pos ps.toList = some (.ref d) ∧ H1 = H) ∨ (H d = none ∧ H1 = upd (upd H P (.tbl (ps ++ #[rawInt pos.line, rawInt pos.col, .ref d]))) d (CodeO d q))
theorem lamD_tail {dV : Value} (TB : TabB X.base X.mg c P) (hcode : X.env.code = .ref c) (hfree : ∀ y ∈ scope.names, y.2 = .free → ∃ c, X.env.cells.lookup y.1 = some c) (I : Inv X pins σ H s) (hP : H P = some (.tbl ps)) (ht : TriplesOk ps.toList) (hr : ∀ cv, codeAmong pos ps.toList = some cv → ∃ d, cv = .ref d)
    (hd : DAt s.heap H (frs X.stack) ns dV)
    (h : ∀ (f d : Addr) (pm ctv : Value) (H1 : Hp) (s' : Shared), Inv X pins σ H1 s' → MadeL H P pos (X.env.qual ++ "<lambda>") ps d H1 → s'.heap.get? f = some (lamObj (X.env.qual ++ "<lambda>") params body scope (cloFrom X.env.cells scope.names []) pm d ctv dV) → H1 f = none → f ∉ frs X.stack → DAt s'.heap H1 (frs X.stack) ns dV → Q (.ref f) s') :
    wpAny (model X.prog X.w) X.A (makeTail "<lambda>" (X.env.qual ++ "<lambda>") params (.expr body) scope X.env dV .none none pos pos.line) Q E s := by
  have at1 : s.heap.get? P = some { cls := .none, data := .fields ps } := I.hok P _ hP
  have nofr : ∀ f, s.heap.objs.size ≤ f → f ∉ frs X.stack := fun f hf z => by
    rcases List.mem_cons.mp (I.stkSub _ z) with e | e
    · have h1 := I.lt
      rw [← e] at h1
      exact Nat.lt_irrefl _ (Nat.lt_of_lt_of_le h1 hf)
    · exact I.nofs hf e
  cases seen : codeAmong pos ps.toList with
  | some cv =>
    obtain ⟨d, rfl⟩ := hr cv seen
    refine tailD_hit (mg := X.mg) (P := P) (closure_ok hfree) I.ok.glob (I.mod.glob.keeps I.bk) hcode (TB.code.keeps I.bk) at1 ht seen (TB.bm.keeps I.bk) fun ctv h' tk hx hz => ?_
    have I1 : Inv X pins σ H { s with heap := h'.push (lamObj (X.env.qual ++ "<lambda>") params body scope (cloFrom X.env.cells scope.names []) ((X.mg "__name__").getD .none) d ctv dV), toks := tk } := I.kept fun b o e => Heap.get?_push_of_some _ (hx b o e)
    refine h h'.objs.size d _ ctv H _ I1 (.inl ⟨seen, rfl⟩) (Heap.get?_push_size _ rfl) (I.hok.fresh hz) (nofr _ hz) ?_
    rcases hd with z | ⟨T, ts, z0, z1, z2, z3, z4, z5⟩
    · exact .inl z
    · exact .inr ⟨T, ts, z0, z1, Heap.get?_push_of_some _ (hx _ _ z2), z3, z4, z5⟩
  | none =>
    refine tailD_new (mg := X.mg) (P := P) (closure_ok hfree) I.ok.glob (I.mod.glob.keeps I.bk) hcode (TB.code.keeps I.bk) at1 ht seen TB.gP (TB.bm.keeps I.bk) fun d ctv h' tk hx hge hlt hrec htb => ?_
    obtain ⟨d', oc, vs, t, e2, ho, hdd, hv⟩ := hrec
    cases e2
    have hsz : s.heap.objs.size ≤ h'.objs.size := Nat.le_trans hge (Nat.le_of_lt hlt)
    have nD : H d = none := I.hok.fresh hge
    have I1 := inv_table (t' := tk) (more := #[rawInt pos.line, rawInt pos.col, .ref d]) (h' := h'.push (lamObj (X.env.qual ++ "<lambda>") params body scope (cloFrom X.env.cells scope.names []) ((X.mg "__name__").getD .none) d ctv dV)) I hP
      (fun b o hb e => Heap.get?_push_of_some _ (hx b o hb e)) (Heap.get?_push_of_some _ htb) hge ⟨oc, vs, t, Heap.get?_push_of_some _ ho, hdd, hv⟩
    refine h h'.objs.size d _ ctv _ _ I1 (.inr ⟨nD, rfl⟩) (Heap.get?_push_size _ rfl) ?_ (nofr _ hsz) ?_
    · rw [upd_ne (Nat.ne_of_gt hlt), upd_ne (Nat.ne_of_gt (Nat.lt_of_lt_of_le (Heap.lt_size at1) hsz))]
      exact I.hok.fresh hsz
    · rcases hd with z | ⟨T, ts, z0, z1, z2, z3, z4, z5⟩
      · exact .inl z
      · have n1 : T ≠ P := fun e => by rw [e, hP] at z4; cases z4
        have n2 : T ≠ d := Nat.ne_of_lt (Nat.lt_of_lt_of_le (Heap.lt_size z2) hge)
        exact .inr ⟨T, ts, z0, z1, Heap.get?_push_of_some _ (hx _ _ n1 z2), z3, by rw [upd_ne n2, upd_ne n1]; exact z4, z5⟩
theorem lamD_mk (D : DefN X params ns) (TB : TabB X.base X.mg c P) (hcode : X.env.code = .ref c) (hfree : ∀ y ∈ scope.names, y.2 = .free → ∃ c, X.env.cells.lookup y.1 = some c) (I : Inv X pins σ H s) (hP : H P = some (.tbl ps)) (ht : TriplesOk ps.toList) (hr : ∀ cv, codeAmong pos ps.toList = some cv → ∃ d, cv = .ref d)
    (h : ∀ (f d : Addr) (pm ctv dV : Value) (H1 : Hp) (s' : Shared), Inv X pins σ H1 s' → MadeL H P pos (X.env.qual ++ "<lambda>") ps d H1 → s'.heap.get? f = some (lamObj (X.env.qual ++ "<lambda>") params body scope (cloFrom X.env.cells scope.names []) pm d ctv dV) → H1 f = none → f ∉ frs X.stack → DAt s'.heap H1 (frs X.stack) ns dV → Q (.ref f) s') :
    wpAny (model X.prog X.w) X.A (eval (.Lambda params body scope pos) X.env) Q E s := by
  obtain ⟨d1, e⟩ : ∃ d1, defaultsOf params X.env = (d1, []) := ⟨_, Prod.ext rfl D.kw⟩
  have ev := D.ev
  rw [e] at ev
  rw [arm_eval_Lambda, e]
  show wpAny _ _ (do let dv ← evalAll d1; let kdv ← holding dv (evalAllOpt []); makeFunction "<lambda>" (X.env.qual ++ "<lambda>") params (.expr body) scope X.env dv kdv [] pos pos.line) Q E s
  refine wpAny_bind (ev _ _ _ _ fun ts k r => wpAny_bind (wpAny_holding (wpAny_pure ?_)))
  rw [makeFunction_eq]
  simp only [List.zip_nil_right, List.filterMap_nil, List.isEmpty_nil, if_true, pure_bind]
  have I1 : Inv X pins σ H { s with toks := s.toks + k } := I.tok _
  have nofr : s.heap.objs.size ∉ frs X.stack := fun z => by
    rcases List.mem_cons.mp (I.stkSub _ z) with e | e
    · have h1 := I.lt
      rw [← e] at h1
      exact Nat.lt_irrefl _ h1
    · exact I.nofs (Nat.le_refl _) e
  cases ns with
  | nil =>
    cases r
    simp only [List.isEmpty_nil, if_true, pure_bind]
    exact lamD_tail (ns := []) TB hcode hfree I1 hP ht hr (.inl ⟨rfl, rfl⟩) fun f d pm ctv => h f d pm ctv .none
  | cons n ns =>
    cases r with
    | @cons _ x _ xs r1 r2 =>
      simp only [List.isEmpty_cons, Bool.false_eq_true, if_false]
      refine wpAny_bind (wpAny_newTextTuple ?_)
      have I2 : Inv X pins σ H { s with heap := s.heap.push { cls := .type "tuple", data := .seq (x :: xs).toArray }, toks := s.toks + k } := I.kept fun b o e => Heap.get?_push_of_some _ e
      exact lamD_tail (ns := n :: ns) TB hcode hfree I2 hP ht hr (.inr ⟨s.heap.objs.size, x :: xs, List.cons_ne_nil _ _, rfl, Heap.get?_push_size _ rfl, .cons r1 r2, I.hok.fresh (Nat.le_refl _), nofr⟩) fun f d pm ctv => h f d pm ctv _
end
/-! ### the call -/
structure LamN (N : List Str) (sc scope : Scope) : Prop where
  kind : scope.kind = .function
  co : scope.isCoroutine = false
  gen : scope.isGenerator = false
  own : ∀ y ∈ scope.names, y.2 ≠ .cell ∧ (y.2 = .local → y.1 ∉ N)
  free : ∀ y ∈ scope.names, y.2 = .free → sc.names.lookup y.1 = some .cell ∨ sc.names.lookup y.1 = some .free
def lamNB (N : List Str) (sc scope : Scope) : Bool :=
  decide (scope.kind = .function) && !scope.isCoroutine && !scope.isGenerator && scope.names.all fun y => !decide (y.2 = .cell) && (!decide (y.2 = .local) || !decide (y.1 ∈ N)) && (!decide (y.2 = .free) || decide (sc.names.lookup y.1 = some .cell) || decide (sc.names.lookup y.1 = some .free))
theorem lamN_by {N : List Str} {sc scope : Scope} (h : lamNB N sc scope = true) : LamN N sc scope := by
  unfold lamNB at h
  simp only [Bool.and_eq_true, Bool.or_eq_true, Bool.not_eq_true', decide_eq_true_eq, decide_eq_false_iff_not, List.all_eq_true] at h
  obtain ⟨⟨⟨h1, h2⟩, h3⟩, h4⟩ := h
  refine ⟨h1, h2, h3, fun y hy => ⟨(h4 y hy).1.1, fun e => (h4 y hy).1.2.resolve_left fun z => z e⟩, fun y hy e => ?_⟩
  rcases (h4 y hy).2 with (z | z) | z
  · exact absurd e z
  · exact .inl z
  · exact .inr z
theorem LamN.has {X : Cx} {N : List Str} {scope : Scope} (L : LamN N X.env.scope scope) (ok : X.Ok) : ∀ y ∈ scope.names, y.2 = .free → ∃ c, X.env.cells.lookup y.1 = some c := fun y hy e => by
  rcases L.free y hy e with k | k
  · exact ok.has _ (.inl k)
  · exact ok.has _ (.inr k)
/-- how such a lambda binds -/
structure BindN (params : Arguments) (body : Expr) (scope : Scope) (ns : List Int) : Prop where
  b0 : ns = [] → ∀ q cl pm d ctv, bindArgs (lamFd q params body scope cl pm d ctv .none) ⟨[], []⟩ = pure []
  b1 : ns ≠ [] → (∃ n, ns = [n]) ∧ ∃ nm, scope.names.lookup nm = some .local ∧ ∀ q cl pm d ctv T x, ∃ k, bindArgs (lamFd q params body scope cl pm d ctv (.ref T)) ⟨[], []⟩ = seqItems? (.ref T) >>= k ∧ k (some #[x]) = pure [(nm, x)]
section
variable {X : Cx} {pins : List (Addr × Obj)} {σ : L2.St} {H HZ : Hp} {s s1 : Shared}
end
/-! ### try: .. except x as n: .., a token out -/
section
variable {X : Cx} {x n : Str} {c : Value} {i : Nat} {body suite : List Stmt} {b₀ : Stmt} {np pos pos' : Pos} {tb : WX → TS} {ts : Addr → Value → Option Addr → TS} {Wout : WX}
end
/-! ### f(lambda: ..) -/
section
variable {P : Program} {w : World} {K : PySem.W.Frag} {mg : Str → Option Value} {base : Heap} {CX : CXT} {k : Nat} {f : Addr} {fd : FuncData} {ps N : List Str} {x qual : Str} {params : Arguments} {body : List Stmt} {scope : Scope} {dvs : List V} {kws : List (Str × V)}
end
/-- what the def that is handed the lambda makes of what the lambda does -/
def TKnd (KW : Value → Option Addr → Hp → Str → Prop) (w0 : Str) : (XK → Hp → VK → Prop) → Hp → VK → Prop := fun tl H Q => tl (fun cls dd H' => ∃ w, KW cls dd H' w ∧ ∀ H'', (∀ b o, H' b = some o → H'' b = some o) → Q (.str w) H'') H (fun _ H' => Q (.str w0) H')
def tKnd (P : Addr) (pos : Pos) (q : Str) (TT : (XK → Hp → VK → Prop) → Hp → VK → Prop) (t : XK → TE) : TE := fun σ H Q => ∃ ps, H P = some (.tbl ps) ∧ TriplesOk ps.toList ∧ (∀ cv, codeAmong pos ps.toList = some cv → ∃ d, cv = .ref d) ∧
  ∀ d H1, MadeL H P pos q ps d H1 → H1 d = some (CodeO d q) ∧ TT (fun E H' Q' => t E σ H' Q') H1 Q
section
variable {X : Cx}
end
/-! ### over plain values -/
def aKnd (KWa : AX → Str → Prop) (w0 : Str) (b : aTEX) : aTE := fun sa A k => b (fun e _ A' => ∃ w, KWa e w ∧ k (.pv (.v (.str w))) A') sa A fun _ A' => k (.pv (.v (.str w0))) A'
theorem gr_ext {G H H' : Hp} (le : Le G H) (e : ∀ b o, H b = some o → H' b = some o) : Gr [] G H G H' where
  gg := Le.refl _
  gh := fun b o h => by
    obtain ⟨o', h1, h2⟩ := le b o h
    exact ⟨o', e b o' h1, h2⟩
  hhN := fun b o h _ _ => e b o h
  dm := fun b h => by
    cases c : H b with
    | none => exact absurd c h
    | some o => rw [e b o c]; exact fun z => nomatch z
  nw := fun b h1 h2 => absurd h1 h2
  tb := fun P _ _ t => by
    obtain ⟨_, qs, t1, _⟩ := id t
    exact t.go (Le.refl _) ((e P _ t1).trans t1.symm) t.1
theorem sim_kind {K : PySem.W.Frag} {P : Addr} {pos : Pos} {q : Str} {KW : Value → Option Addr → Hp → Str → Prop} {KWa : AX → Str → Prop} {w0 : Str} {b : aTEX} {t : XK → TE} (hP : P ∈ TC.T) (hn : TC.nm pos.line pos.col = q) (hKW : ∀ (s : Cs) cls dd e w, excR K s cls dd e → KWa e w → KW cls dd s.H w)
    (hb : ∀ E : XK, SimEX K (fun cls d _ H => E cls d H) b (t E)) : SimE K false (aKnd KWa w0 b) (tKnd P pos q (TKnd KW w0) t) := fun {B s sa σ} rp gg {Kc Q} qq h => by
  obtain ⟨t0, ps, t1, t2, t3⟩ := rp.tabs P hP
  refine ⟨ps, t1, t2, fun cv e => (t3 pos cv e).imp fun d z => z.1, fun d H1 mk => ?_⟩
  have st : ∃ G1, Stp K B false s { s with G := G1, H := H1 } ∧ H1 d = some (CodeO d q) := by
    rcases mk with ⟨e, rfl⟩ | ⟨nd, rfl⟩
    · obtain ⟨d', e1, e2⟩ := t3 pos _ e
      cases e1
      rw [hn] at e2
      exact ⟨s.G, .refl rp, rp.le.at e2 (IsX.nf ⟨_, rfl⟩) (IsX.nd ⟨_, rfl⟩)⟩
    · exact ⟨_, .of rp (gr_tab rp.le t1 t2 t0 nd hn), upd_same⟩
  obtain ⟨G1, e1, hd⟩ := st
  refine ⟨hd, hb _ (B := Bs.of { s with G := G1, H := H1 }) (s := { s with G := G1, H := H1 }) e1.rep.start (gg.stp e1) (fun e cls dd s2 sa σ r2 g2 q2 hx kk => ?_) (fun av v s2 e2 pv kk => qq (.pv (.v (.str w0))) (.str w0) s2 (e1.trans (e2.rebase e1.rep)) rfl kk) h⟩
  obtain ⟨w, hw, kk⟩ := kk
  refine ⟨w, hKW s2 cls dd e w hx hw, fun H'' hE => ?_⟩
  have st2 : Stp K B false { s with G := G1, H := H1 } s2 := ⟨g2.le, g2.pre, r2.gr.dm, fun z => (nomatch z), e1.rep.rebase r2⟩
  have st3 : Stp K B false s2 { s2 with G := s2.G, H := H'' } := .of st2.rep (gr_ext st2.rep.le hE)
  exact qq (.pv (.v (.str w))) (.str w) { s2 with H := H'' } (e1.trans (st2.trans st3)) rfl kk
/-! ### isinstance of the exception that is handled -/
def rIsD (K : PySem.W.Frag) (D a : Addr) (d : Option Addr) : List V → Hp → VK → Prop := fun xs H Q => ∃ (c : V) (cv : Value) (b : Bool), xs = [.ref a, c] ∧ (∀ da, d = some da → ∃ vs, H da = some (.xd vs)) ∧ (∀ u, L2.RelV c u → u = cv) ∧ PySem.W.kitOne K (.ref D) cv = some b ∧ Q (.bl b) H
theorem call_isD {X : Cx} {a D : Addr} {d : Option Addr} {oe : Obj} {pn : List (Addr × Obj)} (C : ExcC X.K D) (hz : Zc (.ref D) d oe) (hf : ∃ vs, oe.data = .fields vs) : CallR (X.suite a ((a, oe) :: pn)) (.builtin "isinstance") (rIsD X.K D a d) := by
  intro pins s σ H xs us Q I r h
  obtain ⟨c, cv, b, rfl, hd, hcv, e, q⟩ := h
  cases r with
  | cons rx rr =>
    cases rr with
    | cons rt rr =>
      cases rr
      cases rx
      have ec := hcv _ rt
      subst ec
      obtain ⟨hget, _⟩ := I.pin (a, oe) (List.mem_append.mpr (.inl List.mem_cons_self))
      obtain ⟨vs, hv⟩ := hf
      obtain ⟨od, J⟩ : ∃ od, PySem.W.InstAt s.heap a oe D od := by
        obtain ⟨oc, od, oda, osl⟩ := oe
        obtain ⟨h1, h2⟩ := hz
        dsimp only at h1 h2 hv
        subst h1 h2 hv
        cases od with
        | none => exact ⟨none, hget, rfl, rfl, trivial⟩
        | some da =>
          obtain ⟨ws, hx⟩ := hd da rfl
          obtain ⟨mA, ⟨ob, es, ep, eo, _⟩, _⟩ := I.hok da _ hx
          exact ⟨some ob, hget, rfl, rfl, eo⟩
      have cs : (PySem.W.clsIn X.K D).isSome = true := by
        obtain ⟨cd, hc, _⟩ := PySem.W.any_some C.hd
        rw [hc]
        rfl
      exact PySem.W.kia_one (PySem.W.kitx_exc cs C.hg C.hk C.hs C.ha C.hn C.ht C.hm) I.kIn J e (fun z => nomatch z) fun tk => ⟨.bl b, H, I.kept (t' := tk) fun _ _ z => z, rfl, q⟩
/-- the exception that is handled, as a value -/
def rRf (a : Addr) (d : Option Addr) : Rl := ⟨fun G v => v = .ref a ∧ ∀ da, d = some da → ∃ vs, G da = some (.xd vs), fun le h => ⟨h.1, fun da e => (h.2 da e).imp fun vs z => le.at z (fun _ _ z => nomatch z) (fun z => z)⟩⟩
def aIsD (K : PySem.W.Frag) (D a : Addr) (d : Option Addr) (x c : aTE) : aTE := fun sa A k => x sa A fun xv A1 => c sa A1 fun yv A2 => ∃ u b cv, xv = .pv (.rel (rRf a d)) ∧ yv = .pv (.v u) ∧ (∀ w, L2.RelV u w → w = cv) ∧ PySem.W.kitOne K (.ref D) cv = some b ∧ k (.pv (.v (.bl b))) A2
theorem sim_isD {K : PySem.W.Frag} {m : Bool} {D a : Addr} {d : Option Addr} {x c : aTE} {tx tc : TE} (hx : SimE K m x tx) (hc : SimE K true c tc) : SimE K m (aIsD K D a d x c) (tCB (rIsD K D a d) (tCons tx (tCons tc tNil))) := fun {B s sa σ} rp gg {Kc Q} q h =>
  hx rp gg (fun xv vx s1 e1 px k => hc e1.rep (gg.stp e1) (fun yv vy s2 e2 py k => by
    obtain ⟨u, b, cv, rfl, rfl, h1, h2, k⟩ := k
    have px : (rRf a d).P s1.G vx := px
    have px2 : (rRf a d).P s2.G vx := (rRf a d).mono e2.le px
    obtain rfl : vy = u := py
    obtain ⟨rfl, hd⟩ := px2
    exact ⟨vy, cv, b, rfl, fun da e => (hd da e).imp fun vs z => e2.rep.le.at z (fun _ _ z => nomatch z) (fun z => z), h1, h2, q (.pv (.v (.bl b))) _ s2 (e1.trans e2.weak) rfl k⟩) k) h
/-! ### a call within the lambda that may raise -/
section
variable {X : Cx} {A : Around} {outer : List Env} {s : Shared} {H : Hp} {E : XK} {scope : Scope} {f d : Addr}
/-- a def that lets exceptions out, called with n values by place, the others by the names ks, ds between -/
structure CalXK (P : Program) (w : World) (K : PySem.W.Frag) (mg : Str → Option Value) (base : Heap) (k : Nat) (x : Str) (sp : Sp) (n : Nat) (ks : List Str) (ds : List V) : Prop where
  ex : ∃ (f : Addr) (fd : FuncData) (ps : List Str) (g : List Value → List Value → List Value), FnT P w K mg base (L2.CX P w) k f fd ps sp ∧ mg x = some (.ref f) ∧ PySem.W.keepIn K (.ref f) = true ∧ KBn K fd ps n ks g (fun vs zs => vs ++ (ds ++ zs))
end
end TH
/-! An own exception class made with keywords alone. -/
namespace TH
open PySem PySem.Spec PyProof.Rows L2
namespace XK1
open Builtin Builtin.ObjectAttr PySem.Calls PySem.HandSPX
section
variable {M : Model} {A : Around} {E : Value → Shared → Prop} {h : Heap} {g : Array GenState} {d : Drawn} {t : Nat} {os : OsState}
variable {nm q : Str} {C N : Addr} {bs bm bmB : List Value} {hdct : Bool} {sn : List Str} {sub : List Value} {ab : Bool} {col : Option Bool} {dd : Option Addr} {k0 k1 k2 k3 k5 : Option Value} {B newId initId : String} {kw : List (Str × Value)}
theorem check_sub {rest : List Value} {Q : Unit → Shared → Prop} (hC : h.get? C = some (excClassObj nm q C N bs bm hdct sn sub ab col dd k0 k1 k2 k3 k5 newId))
    (hq : Q () ⟨h, g, d, t, os⟩) : wpAny M A (checkBuiltinCall "type.__call__" ⟨.ref C :: rest, kw⟩) Q E ⟨h, g, d, t, os⟩ := by
  have f3 := tc_sub
  have hT : (⟨h, g, d, t, os⟩ : Shared).TypeIs (.ref C) "type" := ⟨_, hC, rfl⟩
  simp only [checkBuiltinCall, tc_kind, tc_split]
  repeat (any_goals (first | assumption | with_reducible refine wpAny_loadPart_at hC ?_ | with_reducible refine wpAny_onRaise ?_ | with_reducible refine wpAny_map ?_ | wp_step))
theorem check_new (F : ExcBaseFacts B newId initId bmB) (hT : ∀ X : String, bm.contains (.type X) = bmB.contains (.type X)) {rest : List Value} {Q : Unit → Shared → Prop}
    (hC : h.get? C = some (excClassObj nm q C N bs bm hdct sn sub ab col dd k0 k1 k2 k3 k5 newId)) (hq : Q () ⟨h, g, d, t, os⟩) : wpAny M A (checkBuiltinCall newId ⟨.ref C :: rest, kw⟩) Q E ⟨h, g, d, t, os⟩ := by
  have hcont : (Value.ref C :: bm).contains (.type B) = true := by rw [List.contains_cons, hT, F.hasB, Bool.or_true]
  have hstar := F.noStar
  simp only [checkBuiltinCall, F.newKind, F.newSplit, F.newRow]
  repeat (first | refine wpAny_loadPart_at hC ?_ | (refine wpAny_isSubtype_exc hC ?_; rw [hcont]) | refine wpAny_staticBase_exc hC ?_ | refine wpAny_madeBy_exc hC ?_ | simp only [bne_self_eq_false, Bool.false_eq_true, if_false] | wp_step)
  exact hq
end
section
variable {prog : Program} {w : World} {A : Around} {E : Value → Shared → Prop} {R : Result → Shared → Prop} {h : Heap} {g : Array GenState} {d : Drawn} {t : Nat} {os : OsState}
variable {nm q : Str} {C N : Addr} {bs bm bmB : List Value} {hdct : Bool} {sn : List Str} {sub : List Value} {ab : Bool} {col : Option Bool} {dd : Option Addr} {k0 k1 k2 k3 k5 : Option Value} {B newId initId : String} {kw : List (Str × Value)}
theorem newK (F : ExcBaseFacts B newId initId bmB) (hT : ∀ X : String, bm.contains (.type X) = bmB.contains (.type X)) {rest : List Value}
    (hC : h.get? C = some (excClassObj nm q C N bs bm hdct sn sub ab col dd k0 k1 k2 k3 k5 newId))
    (hq : R (.ok (.ret (.ref (h.objs.size + 1)))) ⟨(h.push { cls := .type "tuple", data := .seq rest.toArray }).push
      { cls := .ref C, data := .fields #[.ref h.objs.size, .none, .none, .none, .bool false, .none] }, g, d, t, os⟩) (hrest : rest.length ≤ sizeLine) :
    codeAny (model prog w) A (.builtin newId ⟨.ref C :: rest, kw⟩) R ⟨h, g, d, t, os⟩ := by
  have hends := F.ends
  have hcB : (Value.ref C :: bm).contains (.type B) = true := by rw [List.contains_cons, hT, F.hasB, Bool.or_true]
  have hcA : (Value.ref C :: bm).contains (.type "AttributeError") = false := by rw [List.contains_cons, hT, F.noAttr]; rfl
  have hcN : (Value.ref C :: bm).contains (.type "NameError") = false := by rw [List.contains_cons, hT, F.noName]; rfl
  refine codeAny_builtinAt F.entry ?_
  unfold Builtin.«BaseException.__new__»
  refine PySem.wpAt_bind ?_
  show PySem.wpAt _ _ _ (stack >>= _) _ _ _
  refine PySem.wpAt_bind (PySem.wpAt_stack fun p below => PySem.wpAt_of_wpAny ?_)
  wp_walk
  refine PySem.wpAt_of_wpAny ?_
  rw [F.owner]
  repeat (first | with_reducible refine wpAny_madeHere_exc F.canon hC ?_ | with_reducible refine wpAny_loadPart_at hC ?_ | (with_reducible refine wpAny_isSubtype_exc hC ?_; first | rw [hcB] | rw [hcA] | rw [hcN]) | wp_step)
  show R _ _
  rw [Heap.size_push]
  exact hq
theorem type_callK (F : ExcBaseFacts B newId initId bmB) (hT : ∀ X : String, bm.contains (.type X) = bmB.contains (.type X)) {rest : List Value} {fI : Addr} {Q : Fin → Shared → Prop}
    (hC : h.get? C = some (excClassObj nm q C N bs bm hdct sn sub ab col dd k0 k1 k2 k3 k5 newId))
    (hi : W.Looks (model prog w) h (typeLookup (.ref C) "__init__") (some (.ref fI))) (hb : ∀ self, W.Looks (model prog w) h (bindSpecial (.ref fI) self) (.ref fI, [self])) (hrest : rest.length ≤ sizeLine)
    (hq : codeAny (model prog w) A (.call (.ref fI) ⟨.ref (h.objs.size + 1) :: rest, kw⟩)
      (fun r s' => match r with | .ok (.ret v) => v = .none ∧ Q (.done (.ret (.ref (h.objs.size + 1)))) s' | .ok _ => False | .error e => E e s')
      ⟨(h.push (W.kdv_tup rest)).push (excO C h.objs.size), g, d, t, os⟩) :
    wpAny (model prog w) A (Builtin.«type.__call__» ⟨.ref C :: rest, kw⟩) Q E ⟨h, g, d, t, os⟩ := by
  repeat (first | with_reducible refine wpAny_loadPart_at hC ?_ | with_reducible refine wpAny_madeBy_exc hC ?_ | wp_step)
  refine codeAny_call_builtin_code (Code.quiet_builtin _ F.quiet) (check_new F hT hC ?_)
  refine newK F hT hC ?_ hrest
  show wpAny _ _ _ _ _ _
  have k : ∀ b o, h.get? b = some o → ((h.push (W.kdv_tup rest)).push (excO C h.objs.size)).get? b = some o := fun b o e => Heap.get?_push_of_some _ (Heap.get?_push_of_some _ e)
  have hC₁ := k _ _ hC
  have hget : ((h.push (W.kdv_tup rest)).push (excO C h.objs.size)).get? (h.objs.size + 1) = some (excO C h.objs.size) := by heap_get
  have hcC : (Value.ref C :: bm).contains (.ref C) = true := by simp
  have i1 := hi.keeps k
  have b1 := (hb (.ref (h.objs.size + 1))).keeps k
  unfold isInstance
  repeat (first | with_reducible refine wpAny_loadPart_at hget ?_ | (with_reducible refine wpAny_isSubtype_exc hC₁ ?_; rw [hcC]) | wp_step)
  show wpAny _ _ (typeLookup (.ref C) _) _ _ _
  refine i1.at ?_
  refine wpAny_holding (wpAny_bind (b1.at ?_))
  refine wpAny_bind (wpAny_call (codeAny_mono hq fun r s' z => ?_))
  rcases r with e | (v | _ | _ | _) <;> first | exact z | exact z.elim | skip
  obtain ⟨rfl, z⟩ := z
  first
    | exact wpAny_pure (wpAny_pure z)
    | (wp_walk; exact z)
theorem callK (F : ExcBaseFacts B newId initId bmB) (hT : ∀ X : String, bm.contains (.type X) = bmB.contains (.type X)) {rest : List Value} {fI : Addr}
    (hC : h.get? C = some (excClassObj nm q C N bs bm hdct sn sub ab col dd k0 k1 k2 k3 k5 newId))
    (hi : W.Looks (model prog w) h (typeLookup (.ref C) "__init__") (some (.ref fI))) (hb : ∀ self, W.Looks (model prog w) h (bindSpecial (.ref fI) self) (.ref fI, [self])) (hrest : rest.length ≤ sizeLine)
    (hq : codeAny (model prog w) (A.under (.builtin "type.__call__" ⟨.ref C :: rest, kw⟩)) (.call (.ref fI) ⟨.ref (h.objs.size + 1) :: rest, kw⟩) (W.InitBack (h.objs.size + 1) R)
      ⟨(h.push (W.kdv_tup rest)).push (excO C h.objs.size), g, d, t, os⟩) :
    codeAny (model prog w) A (.call (.ref C) ⟨rest, kw⟩) R ⟨h, g, d, t, os⟩ := by
  have f1 := tc_lookup
  have f2 := tc_bind (.ref C)
  have hTy : (⟨h, g, d, t, os⟩ : Shared).TypeIs (.ref C) "type" := ⟨_, hC, rfl⟩
  refine codeAny_of_tree ?_
  show wpAny _ _ (callAny (.ref C) _) _ _ _
  repeat (any_goals (first | assumption | with_reducible refine wpAny_loadPart_at hC ?_ | wp_step))
  refine ⟨rfl, ?_⟩
  refine codeAny_call_builtin_at (Code.quiet_builtin _ (by decide +kernel)) entry_typeCall (check_sub hC (type_callK F hT hC hi hb hrest ?_))
  refine codeAny_mono hq fun r s' z => ?_
  rcases r with e | (v | _ | _ | _) <;> exact z
end
end XK1
/-- C(k = e, ..), C's own __init__ keeping sp -/
def tMkK (C : Addr) (sp : Sp) (l : Nat) (gV : List V → List V → List V) (tk : TA) : L2.St → Hp → XK → Prop := fun σ H Q => tk σ H fun zs H1 => zs.length = l ∧ ∀ a, H1 a = none → sp (gV [.ref a] zs) (upd H1 a (exo a C none))
  (fun v H2 => v = .non ∧ ∃ (d : Addr) (fs : List (Str × V)), H2 a = some (exo a C (some d)) ∧ H2 d = some (exd d fs) ∧ H1 d = none ∧ Q (.ref C) (some d) (upd (del H2 a) d (.xd fs))) (fun _ _ _ => False)
section
variable {X : Cx} {p pos : Pos} {kws : List Keyword}
end
end TH
/-! Classes with one value by its name; raising them. -/
namespace TH
open PySem PySem.Spec PyProof.Rows L2
variable [TC : TabC]
/-- __init__(self, *, f): the class above is told, f kept -/
def sp_one (K : PySem.W.Frag) (f : Str) : Sp := fun vs H Q _ => ∃ (a C : Addr) (y : V), vs = [.ref a, y] ∧ H a = some (exo a C none) ∧ OexC K C ∧ PySem.W.findIn K (.ref C) f = some none ∧ ∀ dx, H dx = none → dx ≠ a → Q .non (upd (upd H dx (exd dx [(f, y)])) a (exo a C (some dx)))
section
variable {K : PySem.W.Frag}
theorem one_run {D : Ends} {a C : Addr} {f m : Str} {y : V} {H : Hp} (h : H a = some (exo a C none)) (T : OexC K C) (hf : PySem.W.findIn K (.ref C) f = some none) (q : ∀ dx, H dx = none → dx ≠ a → D.nx [some (.ref a), some y] (upd (upd H dx (exd dx [(f, y)])) a (exo a C (some dx)))) :
    tSeq (tDrop (tVeI K (tCons (tVar 0) (tCons (tC (.str m)) tNil)))) (tSeq (tOst K f (tVar 0) (tVar 1)) tNext) D [some (.ref a), some y] H :=
  ⟨.ref a, rfl, a, C, [.str m], rfl, (show 1 ≤ 1000 by decide), T, h, y, rfl, .ref a, rfl, a, C, rfl, T, hf, .inl ⟨h, q⟩⟩
abbrev gOne : List V → List V → List V := fun vs zs => vs ++ ([] ++ zs)
theorem mkk_one {C : Addr} {f : Str} {y : V} {H : Hp} {Q : XK} {l : Nat} (hl : 1 = l) (T : OexC K C) (hf : PySem.W.findIn K (.ref C) f = some none) (q : ∀ d, H d = none → Q (.ref C) (some d) (upd H d (.xd [(f, y)]))) :
    [y].length = l ∧ ∀ a, H a = none → sp_one K f (gOne [.ref a] [y]) (upd H a (exo a C none))
      (fun v H2 => v = .non ∧ ∃ (d : Addr) (fs : List (Str × V)), H2 a = some (exo a C (some d)) ∧ H2 d = some (exd d fs) ∧ H d = none ∧ Q (.ref C) (some d) (upd (del H2 a) d (.xd fs))) (fun _ _ _ => False) := by
  subst hl
  refine ⟨rfl, fun a na => ⟨a, C, y, rfl, upd_same, T, hf, fun dx nd ne => ⟨rfl, dx, [(f, y)], upd_same, ?_, ?_, ?_⟩⟩⟩
  · rw [upd_ne ne]; exact upd_same
  · have : upd H a (exo a C none) dx = none := nd
    rwa [upd_ne ne] at this
  · have nd' : H dx = none := by
      have : upd H a (exo a C none) dx = none := nd
      rwa [upd_ne ne] at this
    have e : upd (del (upd (upd (upd H a (exo a C none)) dx (exd dx [(f, y)])) a (exo a C (some dx))) a) dx (.xd [(f, y)]) = upd H dx (.xd [(f, y)]) := by
      funext b
      by_cases c : b = dx
      · rw [c, upd_same, upd_same]
      · rw [upd_ne c, upd_ne c]
        by_cases d : b = a
        · rw [d, del_same, na]
        · rw [del_ne d, upd_ne d, upd_ne c, upd_ne d]
    rw [e]
    exact q dx nd'
/-- raise C(f = e) -/
def aRaiseF (C : Addr) (f : Str) (e : aTE) : aTSX := fun Kx _ sa A => e sa A fun x A1 => ∃ p, x = .pv p ∧ Kx ⟨.ref C, [(f, p)]⟩ sa A1
theorem simx_raiseF {n0 : Nat} {W : WX} {C : Addr} {f : Str} {e : aTE} {te : TE} {l : Nat} (hl : 1 = l) (T : OexC K C) (hf : PySem.W.findIn K (.ref C) f = some none) (he : SimE K false e te) :
    SimSX K n0 W (aRaiseF C f e) (fun _ σ H => tMkK C (sp_one K f) l gOne (tCons te tNil) σ H fun cls d H' => W cls d σ H') := fun {B s Da D Kx} h0 ed x {sa σ} r gg h =>
  he r gg (fun av v s1 e1 px k => by
    obtain ⟨p, rfl, k⟩ := k
    have px : (rPV K p).P s1.G v := px
    refine (show tNil σ s1.H _ from mkk_one (H := s1.H) (y := v) (Q := fun cls d H' => W cls d σ H') hl T hf fun d nd => ?_)
    have st : Stp K B false s1 { s1 with H := upd s1.H d (.xd [(f, v)]) } := Stp.of e1.rep (Gr.own e1.rep.le nd)
    exact x ⟨.ref C, [(f, p)]⟩ (.ref C) (some d) { s1 with H := upd s1.H d (.xd [(f, v)]) } sa σ st.rep (e1.grw.trans st.grw) ((gg.stp e1).stp st) ⟨rfl, .inr (.inr ⟨d, _, rfl, upd_same, .cons ⟨rfl, px⟩ .nil⟩)⟩ k) h
end
/-! ### defs that want a token out and let exceptions out -/
section
variable {P : Program} {w : World} {K : PySem.W.Frag} {mg : Str → Option Value} {base : Heap} {x qual : Str} {params : Arguments} {body : List Stmt} {scope : Scope} {f : Addr} {fd : FuncData} {N ps : List Str} {k n0 : Nat} {ac : ACX} {dvs : List V} {kws : List (Str × V)}
/-- such a def by its name -/
structure CalXT (P : Program) (w : World) (K : PySem.W.Frag) (mg : Str → Option Value) (base : Heap) (k : Nat) (x : Str) (sp : Sp) (dvs : List V) : Prop where
  ex : ∃ (f : Addr) (fd : FuncData) (ps : List Str) (ds : List Value), FnT P w K mg base (L2.CX P w) k f fd ps sp ∧ mg x = some (.ref f) ∧ PySem.W.keepIn K (.ref f) = true ∧ Binds K fd ps ds ∧ Vals dvs ds
/-- .. as a method, some values by keywords -/
structure MetTQX (P : Program) (w : World) (K : PySem.W.Frag) (mg : Str → Option Value) (base : Heap) (k : Nat) (C : Addr) (m : Str) (sp : Sp) (n : Nat) (ks : List Str) (d1 d2 : List V) : Prop where
  ex : ∃ (f : Addr) (fd : FuncData) (ps : List Str) (g : List Value → List Value → List Value), Cls K C ∧ Meth K C m f ∧ FnT P w K mg base (L2.CX P w) k f fd ps sp ∧ KBn K fd ps (n + 1) ks g (fun vs zs => vs ++ (d1 ++ (zs ++ d2)))
end
section
variable {X : Cx} {k j n : Nat} {x m : Str} {C : Addr} {sp : Sp} {dvs d1 d2 : List V} {ks : List Str} {o e : Expr} {es : List Expr} {kws : List Keyword} {p apos pos : Pos} {ta : TE} {t tp tk : TA} {E : XK}
end
/-! ### calls over plain values -/
section
variable {K : PySem.W.Frag} {ac : ACX} {a : aTE} {ta : TE} {r rp rk : aTA} {t tp tk : TA} {E : XK} {ds d1 d2 : List V} {dps q1 q2 : List PV}
def aCallDX (ac : ACX) (dps : List PV) (r : aTA) : aTEX := fun Kx sa A k => r sa A fun avs A1 => ∃ ps, pvs avs = some ps ∧ ac ((ps ++ dps).map .pv) [] (fun r _ => match r with
  | .pv p => k (.pv p) A1
  | _ => False) fun e _ => Kx e sa A1
theorem simx_callD (hd : DsOk K dps ds) (ha : SimA K false r t) : SimEX K (fun cls d _ H => E cls d H) (aCallDX ac dps r) (tCall (spX K ac) ds E t) := fun {B s sa σ} rp g {Kx Kc Q} x q h =>
  ha rp g (fun avs vs s1 e1 ps k => by
    obtain ⟨qs, k1, k2⟩ := k
    have al : Al s1.G (rPs K (qs ++ dps)) (vs ++ ds) := by rw [rPs_app]; exact (pvs_al ps k1).append (hd s1.G)
    refine ⟨s1.none, (qs ++ dps).map .pv, _, _, rfl, e1.rep.none, al_avS al, k2, fun rv v s2 r2 hl hr k => ?_, fun ex cls d s2 r2 hl hx k => ?_⟩
    · match rv, hr, k with
      | .pv p, hr, k => exact q (.pv p) v { s1 with G := s2.G, H := s2.H } (e1.trans (.of e1.rep r2.gr0)) hr k
    · have st2 := e1.trans (Stp.of (m := false) e1.rep r2.gr0)
      exact x ex cls d { s1 with G := s2.G, H := s2.H } sa σ st2.rep st2.grw (g.stp st2) hx k) h
end
end TH
/-! Iterators that come to their end while an exception is handled. -/
namespace TH
open PySem PySem.Spec PyProof.Rows HotX
section
variable {prog : Program} {w : World} {A : Around} {E : Value → Shared → Prop} {s : Shared} {x1 : Addr}
theorem hot_at1 {h : Heap} (hot : HotAt A x1 h) : HotAt A.in1 x1 h := ⟨show A.in1.handled = _ from hot.1, hot.2⟩
/-- the handled exception is none of the small things -/
theorem hot_ne2 {h : Heap} (hot : HotAt A x1 h) {b : Addr} {o : Obj} {vs : Array Value} (e : h.get? b = some o) (d : o.data = .fields vs) (z : vs[2]? ≠ some .none) : x1 ≠ b := fun q => by
  obtain ⟨_, o1, v1, h1, d1, c1⟩ := hot
  subst q
  rw [e] at h1
  cases h1
  rw [d] at d1
  cases d1
  exact z c1
theorem hot_ne {h : Heap} (hot : HotAt A x1 h) {b : Addr} {o : Obj} {vs : Array Value} (e : h.get? b = some o) (d : o.data = .fields vs) (z : vs.size ≤ 2) : x1 ≠ b := hot_ne2 hot e d (by rw [Array.getElem?_eq_none z]; exact fun z => nomatch z)
theorem hot_kept {h h' : Heap} (hot : HotAt A x1 h) (k : ∀ b o, h.get? b = some o → b = x1 → h'.get? b = some o) : HotAt A x1 h' := ⟨hot.1, let ⟨o, v, a, b, c⟩ := hot.2; ⟨o, v, k _ _ a rfl, b, c⟩⟩
theorem hot_upd {h : Heap} (hot : HotAt A x1 h) {b : Addr} {f : Obj → Obj} (n : x1 ≠ b) : HotAt A x1 (h.update b f) := hot_kept hot fun c o e q => by rw [Heap.get?_update_other _ _ (by rw [q]; exact fun z => n z.symm)]; exact e
theorem hot_push {h : Heap} (hot : HotAt A x1 h) {o : Obj} : HotAt A x1 (h.push o) := hot_kept hot fun c o e q => Heap.get?_push_of_some _ e
/-- StopIteration is made and raised -/
theorem stop_hot {α : Type} {Q : α → Shared → Prop} (hot : HotAt A x1 s.heap)
    (hE : ∀ h' e, (∀ b o, s.heap.get? b = some o → h'.get? b = some o) → (∃ o, h'.get? e = some o ∧ o.cls = .type "StopIteration") → E (.ref e) { s with heap := h' }) :
    wpAny (model prog w) A (newExc (.type "StopIteration") [] >>= fun e => (raiseNew e : Sem α)) Q E s := by
  refine wpAny_bind ?_
  simp only [newExc, newTuple]
  refine wpAny_bind (wpAny_newObj_type ?_ (by size_fits))
  refine wpAny_bind (m := firstArgMember _ _) (wpAny_of_eq (a := Value.none) (by first | rfl | (simp only [firstArgMember]; rfl)) ?_)
  refine wpAny_newObj_type ?_ (by size_fits)
  refine raiseNew_hot (x1 := x1) ?_ ?_ (Heap.get?_push_size _ rfl) rfl ?_ ?_
  · exact hot_push (hot_push hot)
  · obtain ⟨o1, v1, g1, d1, c1⟩ := hot.2
    exact Nat.ne_of_lt (Heap.lt_size (Heap.get?_push_of_some _ g1))
  · first | (simp; done) | (simp; omega) | (simp only [Array.size_append]; simp; omega)
  refine hE _ _ (fun b o e => ?_) ⟨_, Heap.get?_update_self _ (Heap.get?_push_size _ rfl) rfl, rfl⟩
  rw [Heap.get?_update_other _ _ (Nat.ne_of_gt (Heap.lt_size (Heap.get?_push_of_some _ e)))]
  exact Heap.get?_push_of_some _ (Heap.get?_push_of_some _ e)
theorem next_list_end_hot {it l : Addr} {i : Nat} {items : Array Value} {Q : Option Value → Shared → Prop} (hot : HotAt A x1 s.heap)
    (hit : s.heap.IsListIter it l i) (hl : s.heap.IsList l items) (hx : items[i]? = none)
    (hQ : ∀ h', Heap.ExtBut it s.heap h' → Q none { s with heap := h' }) : wpAny (model prog w) A (pyNext (.ref it)) Q E s := by
  obtain ⟨o, ho, hc, hd⟩ := id hit
  obtain ⟨ol, hol, _, nl, hdl⟩ := hl
  have ne : x1 ≠ it := hot_ne hot ho hd (Nat.le_refl 2)
  unfold pyNext
  refine wpAny_bind (wpAny_attempt (wpAny_callSpecial?_slot (name := Str.ofString "__next__") hit.typeIs slot_listiter_next (wpAny_call_entry slot_listiter_next hit.typeIs entry_listiter_next ?_ (args_listiter_next _))))
  show wpAny _ _ (field (.ref it) 0 >>= _) _ _ s
  refine wpAny_bind (wpAny_field ho hd (x := .ref l) rfl ?_)
  show wpAny _ _ (if (Value.ref l == Value.none) = true then _ else _) _ _ s
  rw [if_neg (show ¬ ((Value.ref l == Value.none) = true) from Bool.false_ne_true)]
  show wpAny _ _ (field (.ref it) 1 >>= _) _ _ s
  refine wpAny_bind (wpAny_field ho hd (x := .int i 0) rfl ?_)
  show wpAny _ _ (seqItems? (.ref l) >>= _) _ _ s
  refine wpAny_bind (wpAny_seqItems hol hdl ?_)
  simp only [Int.toNat_natCast, hx]
  refine wpAny_bind (wpAny_rule (wpAny_bind (wpAny_setField ho hd (by simp) ?_)))
  show wpAny _ A.in1 (newExc (.type "StopIteration") [] >>= fun e => raiseNew e) _ _ _
  refine stop_hot (hot_at1 (hot_upd hot ne)) fun h' e k ⟨oe, e1, e2⟩ => ?_
  refine wpAny_bind (wpAny_isInstance (T := "StopIteration") (b := true) ⟨oe, e1, e2⟩ isSubtype_stop ?_)
  exact wpAny_pure (hQ _ fun b o hb e => k b o (by rw [Heap.get?_update_other _ _ (Ne.symm hb)]; exact e))
theorem next_tuple_end_hot {it l : Addr} {i : Nat} {items : Array Value} {Q : Option Value → Shared → Prop} (hot : HotAt A x1 s.heap)
    (hit : s.heap.IsTupleIter it l i) (hl : s.heap.IsTuple l items) (hx : items[i]? = none)
    (hQ : ∀ h', Heap.ExtBut it s.heap h' → Q none { s with heap := h' }) : wpAny (model prog w) A (pyNext (.ref it)) Q E s := by
  obtain ⟨o, ho, hc, hd⟩ := id hit
  obtain ⟨ol, hol, _, nl, hdl⟩ := hl
  have ne : x1 ≠ it := hot_ne hot ho hd (Nat.le_refl 2)
  unfold pyNext
  refine wpAny_bind (wpAny_attempt (wpAny_callSpecial?_slot (name := Str.ofString "__next__") hit.typeIs F.slot_tuple_iterator_next (wpAny_call_entry F.slot_tuple_iterator_next hit.typeIs F.entry_tuple_iterator_next ?_ (F.args_tuple_iterator_next_1 _))))
  show wpAny _ _ (field (.ref it) 0 >>= _) _ _ s
  refine wpAny_bind (wpAny_field ho hd (x := .ref l) rfl ?_)
  show wpAny _ _ (if (Value.ref l == Value.none) = true then _ else _) _ _ s
  rw [if_neg (show ¬ ((Value.ref l == Value.none) = true) from Bool.false_ne_true)]
  show wpAny _ _ (field (.ref it) 1 >>= _) _ _ s
  refine wpAny_bind (wpAny_field ho hd (x := .int i 0) rfl ?_)
  show wpAny _ _ (seqItems? (.ref l) >>= _) _ _ s
  refine wpAny_bind (wpAny_seqItems hol hdl ?_)
  simp only [Int.toNat_natCast, hx]
  refine wpAny_bind (wpAny_rule (wpAny_bind (wpAny_setField ho hd (by simp) ?_)))
  show wpAny _ A.in1 (newExc (.type "StopIteration") [] >>= fun e => raiseNew e) _ _ _
  refine stop_hot (hot_at1 (hot_upd hot ne)) fun h' e k ⟨oe, e1, e2⟩ => ?_
  refine wpAny_bind (wpAny_isInstance (T := "StopIteration") (b := true) ⟨oe, e1, e2⟩ isSubtype_stop ?_)
  exact wpAny_pure (hQ _ fun b o hb e => k b o (by rw [Heap.get?_update_other _ _ (Ne.symm hb)]; exact e))
/-- a text's signs, of either kind -/
theorem next_ascii_end_hot {it : Addr} {x : Str} {t : Tok} {i : Nat} {Q : Option Value → Shared → Prop} (hot : HotAt A x1 s.heap)
    (hit : s.heap.IsStrIter it "str_ascii_iterator" x t i) (hx : x.cps[i]? = none)
    (hQ : ∀ h', Heap.ExtBut it s.heap h' → Q none { s with heap := h' }) : wpAny (model prog w) A (pyNext (.ref it)) Q E s := by
  obtain ⟨o, ho, hc, hd⟩ := id hit
  have ne : x1 ≠ it := hot_ne hot ho hd (Nat.le_refl 2)
  unfold pyNext
  refine wpAny_bind (wpAny_attempt (wpAny_callSpecial?_slot (name := Str.ofString "__next__") hit.typeIs F.slot_str_ascii_iterator_next (wpAny_call_entry F.slot_str_ascii_iterator_next hit.typeIs F.entry_str_ascii_iterator_next ?_ (F.args_str_ascii_iterator_next_1 _))))
  show wpAny _ _ (field (.ref it) 0 >>= _) _ _ s
  refine wpAny_bind (wpAny_field ho hd (x := .str x t) rfl ?_)
  show wpAny _ _ (field (.ref it) 1 >>= _) _ _ s
  refine wpAny_bind (wpAny_field ho hd (x := .int i 0) rfl ?_)
  simp only [Int.toNat_natCast, hx]
  refine wpAny_bind (wpAny_rule (wpAny_bind (wpAny_setField ho hd (by simp) (wpAny_bind (wpAny_letGo ?_)))))
  show wpAny _ A.in1 (newExc (.type "StopIteration") [] >>= fun e => raiseNew e) _ _ _
  refine stop_hot (hot_at1 (hot_upd hot ne)) fun h' e k ⟨oe, e1, e2⟩ => ?_
  refine wpAny_bind (wpAny_isInstance (T := "StopIteration") (b := true) ⟨oe, e1, e2⟩ isSubtype_stop ?_)
  exact wpAny_pure (hQ _ fun b o hb e => k b o (by rw [Heap.get?_update_other _ _ (Ne.symm hb)]; exact e))
theorem next_wide_end_hot {it : Addr} {x : Str} {t : Tok} {i : Nat} {Q : Option Value → Shared → Prop} (hot : HotAt A x1 s.heap)
    (hit : s.heap.IsStrIter it "str_iterator" x t i) (hx : x.cps[i]? = none)
    (hQ : ∀ h', Heap.ExtBut it s.heap h' → Q none { s with heap := h' }) : wpAny (model prog w) A (pyNext (.ref it)) Q E s := by
  obtain ⟨o, ho, hc, hd⟩ := id hit
  have ne : x1 ≠ it := hot_ne hot ho hd (Nat.le_refl 2)
  unfold pyNext
  refine wpAny_bind (wpAny_attempt (wpAny_callSpecial?_slot (name := Str.ofString "__next__") hit.typeIs F.slot_str_iterator_next (wpAny_call_entry F.slot_str_iterator_next hit.typeIs F.entry_str_iterator_next ?_ (F.args_str_iterator_next_1 _))))
  show wpAny _ _ (field (.ref it) 0 >>= _) _ _ s
  refine wpAny_bind (wpAny_field ho hd (x := .str x t) rfl ?_)
  show wpAny _ _ (field (.ref it) 1 >>= _) _ _ s
  refine wpAny_bind (wpAny_field ho hd (x := .int i 0) rfl ?_)
  simp only [Int.toNat_natCast, hx]
  refine wpAny_bind (wpAny_rule (wpAny_bind (wpAny_setField ho hd (by simp) (wpAny_bind (wpAny_letGo ?_)))))
  show wpAny _ A.in1 (newExc (.type "StopIteration") [] >>= fun e => raiseNew e) _ _ _
  refine stop_hot (hot_at1 (hot_upd hot ne)) fun h' e k ⟨oe, e1, e2⟩ => ?_
  refine wpAny_bind (wpAny_isInstance (T := "StopIteration") (b := true) ⟨oe, e1, e2⟩ isSubtype_stop ?_)
  exact wpAny_pure (hQ _ fun b o hb e => k b o (by rw [Heap.get?_update_other _ _ (Ne.symm hb)]; exact e))
theorem nextOf_list_end_hot {it l : Addr} {i : Nat} {items : Array Value} {Q : Value → Shared → Prop} (hot : HotAt A x1 s.heap)
    (hit : s.heap.IsListIter it l i) (hl : s.heap.IsList l items) (hx : items[i]? = none)
    (hE : ∀ h' e, Heap.ExtBut it s.heap h' → (∃ o, h'.get? e = some o ∧ o.cls = .type "StopIteration") → E (.ref e) { s with heap := h' }) :
    wpAny (model prog w) A (Builtin.SmallTypes.nextOf (.ref it)) Q E s := by
  obtain ⟨o, ho, hc, hd⟩ := id hit
  obtain ⟨ol, hol, _, nl, hdl⟩ := hl
  have ne : x1 ≠ it := hot_ne hot ho hd (Nat.le_refl 2)
  unfold Builtin.SmallTypes.nextOf
  refine wpAny_bind (wpAny_callSpecial?_slot (name := Str.ofString "__next__") hit.typeIs slot_listiter_next (wpAny_call_entry slot_listiter_next hit.typeIs entry_listiter_next ?_ (args_listiter_next _)))
  show wpAny _ _ (field (.ref it) 0 >>= _) _ _ s
  refine wpAny_bind (wpAny_field ho hd (x := .ref l) rfl ?_)
  show wpAny _ _ (if (Value.ref l == Value.none) = true then _ else _) _ _ s
  rw [if_neg (show ¬ ((Value.ref l == Value.none) = true) from Bool.false_ne_true)]
  show wpAny _ _ (field (.ref it) 1 >>= _) _ _ s
  refine wpAny_bind (wpAny_field ho hd (x := .int i 0) rfl ?_)
  show wpAny _ _ (seqItems? (.ref l) >>= _) _ _ s
  refine wpAny_bind (wpAny_seqItems hol hdl ?_)
  simp only [Int.toNat_natCast, hx]
  refine wpAny_bind (wpAny_rule (wpAny_bind (wpAny_setField ho hd (by simp) ?_)))
  show wpAny _ A.in1 (newExc (.type "StopIteration") [] >>= fun e => raiseNew e) _ _ _
  refine stop_hot (hot_at1 (hot_upd hot ne)) fun h' e k ⟨oe, e1, e2⟩ => ?_
  exact hE _ _ (fun b o hb e => k b o (by rw [Heap.get?_update_other _ _ (Ne.symm hb)]; exact e)) ⟨oe, e1, e2⟩
theorem nextOf_tuple_end_hot {it l : Addr} {i : Nat} {items : Array Value} {Q : Value → Shared → Prop} (hot : HotAt A x1 s.heap)
    (hit : s.heap.IsTupleIter it l i) (hl : s.heap.IsTuple l items) (hx : items[i]? = none)
    (hE : ∀ h' e, Heap.ExtBut it s.heap h' → (∃ o, h'.get? e = some o ∧ o.cls = .type "StopIteration") → E (.ref e) { s with heap := h' }) :
    wpAny (model prog w) A (Builtin.SmallTypes.nextOf (.ref it)) Q E s := by
  obtain ⟨o, ho, hc, hd⟩ := id hit
  obtain ⟨ol, hol, _, nl, hdl⟩ := hl
  have ne : x1 ≠ it := hot_ne hot ho hd (Nat.le_refl 2)
  unfold Builtin.SmallTypes.nextOf
  refine wpAny_bind (wpAny_callSpecial?_slot (name := Str.ofString "__next__") hit.typeIs F.slot_tuple_iterator_next (wpAny_call_entry F.slot_tuple_iterator_next hit.typeIs F.entry_tuple_iterator_next ?_ (F.args_tuple_iterator_next_1 _)))
  show wpAny _ _ (field (.ref it) 0 >>= _) _ _ s
  refine wpAny_bind (wpAny_field ho hd (x := .ref l) rfl ?_)
  show wpAny _ _ (if (Value.ref l == Value.none) = true then _ else _) _ _ s
  rw [if_neg (show ¬ ((Value.ref l == Value.none) = true) from Bool.false_ne_true)]
  show wpAny _ _ (field (.ref it) 1 >>= _) _ _ s
  refine wpAny_bind (wpAny_field ho hd (x := .int i 0) rfl ?_)
  show wpAny _ _ (seqItems? (.ref l) >>= _) _ _ s
  refine wpAny_bind (wpAny_seqItems hol hdl ?_)
  simp only [Int.toNat_natCast, hx]
  refine wpAny_bind (wpAny_rule (wpAny_bind (wpAny_setField ho hd (by simp) ?_)))
  show wpAny _ A.in1 (newExc (.type "StopIteration") [] >>= fun e => raiseNew e) _ _ _
  refine stop_hot (hot_at1 (hot_upd hot ne)) fun h' e k ⟨oe, e1, e2⟩ => ?_
  exact hE _ _ (fun b o hb e => k b o (by rw [Heap.get?_update_other _ _ (Ne.symm hb)]; exact e)) ⟨oe, e1, e2⟩
theorem next_enum_end_hot {e it : Addr} {i : Int} {old : Value} {Q : Option Value → Shared → Prop} (he : IsEnum s.heap e it i old)
    (hn : ∀ {Q2 : Value → Shared → Prop} {E2 : Value → Shared → Prop}, (∀ h' x, Heap.ExtBut it s.heap h' → (∃ o, h'.get? x = some o ∧ o.cls = .type "StopIteration") → E2 (.ref x) { s with heap := h' }) → wpAny (model prog w) A.in1 (Builtin.SmallTypes.nextOf (.ref it)) Q2 E2 s)
    (hQ : ∀ h', Heap.ExtBut it s.heap h' → Q none { s with heap := h' }) : wpAny (model prog w) A (pyNext (.ref e)) Q E s := by
  have hT : s.TypeIs (.ref e) "enumerate" := ⟨_, he, rfl⟩
  unfold pyNext
  refine wpAny_bind (wpAny_attempt (wpAny_callSpecial?_slot (name := Str.ofString "__next__") hT F.slot_enumerate_next (wpAny_call_entry F.slot_enumerate_next hT F.entry_enumerate_next ?_ (F.args_enumerate_next_1 _))))
  show wpAny _ _ (field (.ref e) 2 >>= _) _ _ _
  refine wpAny_bind (wpAny_field he rfl (x := .ref it) rfl ?_)
  refine wpAny_bind (hn fun h' x he' hx' => ?_)
  obtain ⟨o, ho, hc⟩ := hx'
  refine wpAny_bind (wpAny_isInstance (T := "StopIteration") (b := true) ⟨o, ho, hc⟩ isSubtype_stop ?_)
  exact wpAny_pure (hQ _ he')
end
end TH
/-! Loops over lists, tuples, texts, dicts while an exception is handled. -/
namespace TH
open PySem PySem.Spec PyProof.Rows L2 HotX L2H
/-! ### walks by builtins -/
section
variable {prog : Program} {w : World} {A : Around} {x1 : Addr}
theorem hot_frame {h h' : Heap} (hot : HotAt A x1 h) (k : ∀ o, h.get? x1 = some o → h'.get? x1 = some o) : HotAt A x1 h' := hot_kept hot fun b o e q => by subst q; exact k o e
theorem draws_listH (it l : Addr) (hne : l ≠ it) (items : Array Value) :
    Draws prog w A it [it, l, x1] items.size (fun i v => items[i]? = some v) (fun i h => h.IsListIter it l i ∧ h.IsList l items ∧ HotAt A x1 h) where
  live := fun _ _ st => let ⟨o, ho, _⟩ := st.1; ⟨o, ho⟩
  frame := fun _ _ _ st hk => ⟨st.1.at fun o e => hk it (by simp) o e, st.2.1.at fun o e => hk l (by simp) o e, hot_frame st.2.2 fun o e => hk x1 (by simp) o e⟩
  item := fun i s Q E hi st hQ => by
    obtain ⟨o, ho, hc, hd⟩ := id st.1
    have ne : x1 ≠ it := hot_ne st.2.2 ho hd (Nat.le_refl 2)
    refine wpAny_nextOf_list_item st.1 st.2.1 (x := items[i]) (by simp [hi]) fun h' hit' hs' => ?_
    exact hQ _ h' s.toks (by simp [hi]) ⟨hit', st.2.1.extBut hs'.extBut hne, hot_frame st.2.2 fun o e => hs'.extBut x1 o ne e⟩ hs'
  done := fun s Q E st hE => nextOf_list_end_hot st.2.2 st.1 st.2.1 (by simp) hE
theorem draws_tupleH (it l : Addr) (hne : l ≠ it) (items : Array Value) :
    Draws prog w A it [it, l, x1] items.size (fun i v => items[i]? = some v) (fun i h => h.IsTupleIter it l i ∧ h.IsTuple l items ∧ HotAt A x1 h) where
  live := fun _ _ st => let ⟨o, ho, _⟩ := st.1; ⟨o, ho⟩
  frame := fun _ _ _ st hk => ⟨st.1.at fun o e => hk it (by simp) o e, st.2.1.at fun o e => hk l (by simp) o e, hot_frame st.2.2 fun o e => hk x1 (by simp) o e⟩
  item := fun i s Q E hi st hQ => by
    obtain ⟨o, ho, hc, hd⟩ := id st.1
    have ne : x1 ≠ it := hot_ne st.2.2 ho hd (Nat.le_refl 2)
    refine wpAny_nextOf_tuple_item st.1 st.2.1 (x := items[i]) (by simp [hi]) fun h' hit' hs' => ?_
    exact hQ _ h' s.toks (by simp [hi]) ⟨hit', st.2.1.extBut hs'.extBut hne, hot_frame st.2.2 fun o e => hs'.extBut x1 o ne e⟩ hs'
  done := fun s Q E st hE => nextOf_tuple_end_hot st.2.2 st.1 st.2.1 (by simp) hE
end
/-! ### for -/
section
variable {P : Program} {w : World} {K : PySem.W.Frag} {tg : Expr}
theorem turn_listH (a it : Addr) : TurnH P w K tg (Itl K a) [it] it (fun i h => h.IsListIter it a i) where
  mem := by simp
  obj := (turn_list (P := P) (w := w) (K := K) (tg := tg) a it).obj
  keep := (turn_list (P := P) (w := w) (K := K) (tg := tg) a it).keep
  item := by
    intro X hP hw hK hc i pins s σ H E I hf st hg
    subst hP hw hK
    obtain ⟨xs, x, hq, hx⟩ := hg
    obtain ⟨its, rv, p, hz⟩ := I.list hq
    obtain ⟨u, hu, ru⟩ := rv.get hx
    obtain ⟨f0, f1, f2, f3, f4, f5⟩ := hf it (by simp)
    refine wpAny_pyNext_list_item st p.isList (x := u) (by simpa using hu) fun h' st' sb => ?_
    have I1 : Inv X pins σ H { s with heap := h' } := I.turned (t' := s.toks) (fun b o hb e => (sb.2 b hb).trans e) f0 f1 f3 f4 f5
    obtain ⟨o, e, c, d⟩ := id st'
    exact ⟨u, rfl, go_of (s := { s with heap := h' }) e c d (by decide) ⟨x, H, I1, ru, ⟨rfl, fun ys hy => by rw [I.list_inj hy hq]; exact hx⟩, st', fun b hb => (hf b hb).1⟩⟩
  done := by
    intro X hP hw hK hc i pins s σ H E I hf st hg
    subst hP hw hK
    obtain ⟨xs, hq, hx⟩ := hg
    obtain ⟨its, rv, p, hz⟩ := I.list hq
    obtain ⟨f0, f1, f2, f3, f4, f5⟩ := hf it (by simp)
    have hl := rv.length
    obtain ⟨x1, hot⟩ := hc.at I
    exact next_list_end_hot hot st p.isList (by simp; omega) fun h' eb => ⟨rfl, I.turned (t' := s.toks) (fun b o hb e => eb b o hb e) f0 f1 f3 f4 f5⟩
  self := fun _ _ _ _ _ st h => wpAny_pyIter_listiter st h
theorem turn_strH (it : Addr) (x : Str) (t : Tok) (ty : String) (hty : ty = "str_ascii_iterator" ∨ ty = "str_iterator") :
    TurnH P w K tg (Its x) [it] it (fun i h => h.IsStrIter it ty x t i) where
  mem := by simp
  obj := (turn_str (P := P) (w := w) (K := K) (tg := tg) it x t ty hty).obj
  keep := (turn_str (P := P) (w := w) (K := K) (tg := tg) it x t ty hty).keep
  item := by
    intro X hP hw hK hc i pins s σ H E I hf st hg
    subst hP hw hK
    obtain ⟨f0, f1, f2, f3, f4, f5⟩ := hf it (by simp)
    have hi : i < x.cps.size := hg
    have hcx : x.cps[i]? = some x.cps[i] := by simp [hi]
    have hno : ["enumerate", "zip", "dict_itemiterator", "dict_reverseitemiterator", "odict_iterator", "itertools.zip_longest", "itertools.pairwise"].contains ty = false := by
      rcases hty with e | e
      · rw [e]; decide
      · rw [e]; decide
    have fin : ∀ h', h'.IsStrIter it ty x t (i + 1) → Heap.SameBut it s.heap h' → ∃ u, some (Value.str ⟨#[x.cps[i]]⟩ s.toks) = some u ∧ wpAny (model X.prog X.w) X.A (letOwnedTupleGo tg (.ref it) u) (fun _ s2 => ∃ y H', Inv X pins σ H' s2 ∧ RelV y u ∧ (Its x).yld i H y H' ∧ s2.heap.IsStrIter it ty x t (i + 1) ∧ ∀ b ∈ [it], H' b = none) E { s with heap := h', toks := s.toks + 1 } := fun h' st' sb => by
      have I1 : Inv X pins σ H { s with heap := h', toks := s.toks + 1 } := I.turned (fun b o hb e => (sb.2 b hb).trans e) f0 f1 f3 f4 f5
      obtain ⟨oi, e, cc, dd⟩ := id st'
      exact ⟨_, rfl, go_of (s := { s with heap := h', toks := s.toks + 1 }) e cc dd hno ⟨.str ⟨#[x.cps[i]]⟩, H, I1, ⟨_, rfl⟩, ⟨rfl, _, hcx, rfl⟩, st', fun b hb => (hf b hb).1⟩⟩
    rcases hty with e | e
    · subst e
      exact wpAny_pyNext_ascii_item st hcx fun h' st' sb => fin h' st' sb
    · subst e
      exact wpAny_pyNext_wide_item st hcx fun h' st' sb => fin h' st' sb
  done := by
    intro X hP hw hK hc i pins s σ H E I hf st hg
    subst hP hw hK
    obtain ⟨f0, f1, f2, f3, f4, f5⟩ := hf it (by simp)
    have hx : x.cps[i]? = none := Array.getElem?_eq_none hg
    obtain ⟨x1, hot⟩ := hc.at I
    rcases hty with e | e
    · rw [e] at st
      exact next_ascii_end_hot hot st hx fun h' eb => ⟨rfl, I.turned (t' := s.toks) (fun b o hb e => eb b o hb e) f0 f1 f3 f4 f5⟩
    · rw [e] at st
      exact next_wide_end_hot hot st hx fun h' eb => ⟨rfl, I.turned (t' := s.toks) (fun b o hb e => eb b o hb e) f0 f1 f3 f4 f5⟩
  self := (turn_str (P := P) (w := w) (K := K) (tg := tg) it x t ty hty).self
theorem turn_enumTH {elts : List Expr} {kk : Nat} {tpos : Pos} (a e it : Addr) :
    TurnH P w K (.Tuple elts kk tpos) (IteT K a) [e, it] e (fun i h => (∃ old, IsEnum h e it ((i : Nat) : Int) old) ∧ h.IsTupleIter it a i ∧ e ≠ it ∧ a ≠ it ∧ a ≠ e) where
  mem := by simp
  obj := (turn_enumT (P := P) (w := w) (K := K) (elts := elts) (kk := kk) (tpos := tpos) a e it).obj
  keep := (turn_enumT (P := P) (w := w) (K := K) (elts := elts) (kk := kk) (tpos := tpos) a e it).keep
  item := by
    intro X hP hw hK hc i pins s σ H E I hf st hg
    subst hP hw hK
    obtain ⟨⟨old, he⟩, hit, hne, ha1, ha2⟩ := st
    obtain ⟨xs, x, hq, hx⟩ := hg
    obtain ⟨its, rv, p, hz⟩ := I.tuple hq
    obtain ⟨u, hu, ru⟩ := rv.get hx
    obtain ⟨x1, hot⟩ := hc.at I
    have hel : e < s.heap.objs.size := Heap.lt_size he
    have hil : it < s.heap.objs.size := by obtain ⟨_, q, _⟩ := hit; exact Heap.lt_size q
    have hlt : i < its.toArray.size := by simpa using (List.getElem?_eq_some_iff.mp hu).1
    have nx : x1 ≠ e := hot_ne2 hot he rfl (fun z => by
      have z : some (Value.ref it) = some Value.none := z
      cases z)
    refine wpAny_pyNext_enum_itemD (draws_tupleH (A := X.A.in1) (x1 := x1) it a ha1 its.toArray) he ⟨hit, p, hot_at1 hot⟩ hlt hne (by simp [hne, Ne.symm ha2, Ne.symm nx]) fun y h' tk hy ho st' hT hsz hk => ?_
    have ey : y = u := by
      have hy : its.toArray[i]? = some y := hy
      rw [List.getElem?_toArray, hu] at hy
      exact (Option.some.inj hy).symm
    subst ey
    refine ⟨_, rfl, wpAny_letOwnedTupleGo_enum (s := { s with heap := h', toks := tk + 1 }) ho fun h'' he' sb => ?_⟩
    have hT2 : h''.get? s.heap.objs.size = some { cls := .type "tuple", data := .seq #[.int i tk, y] } := (sb.2 _ (Nat.ne_of_gt hel)).trans hT
    have new : ObjOk X.prog X.w (upd H s.heap.objs.size (.tup [.int (i : Nat), x])) h'' s.heap.objs.size (.tup [.int (i : Nat), x]) :=
      ⟨by show 2 ≤ sizeLine; decide, [.int i tk, y], .cons ⟨_, rfl⟩ (.cons ru .nil), ⟨_, hT2, rfl, _, rfl⟩⟩
    have I1 : Inv X pins σ (upd H s.heap.objs.size (.tup [.int (i : Nat), x])) { s with heap := h'', toks := tk + 1 } :=
      I.turnedNew (ch := [e, it]) (fun b ob hb q => (sb.2 b (fun z => hb (by simp [z]))).trans (hk b ob (fun z => hb (by simp [z])) (fun z => hb (by simp [z])) q)) hf (Nat.le_refl _) new
    refine ⟨.ref s.heap.objs.size, _, I1, rfl, ⟨_, x, rfl, I.hok.fresh (Nat.le_refl _), rfl, fun ys hy => by rw [I.tuple_inj hy hq]; exact hx⟩, ⟨⟨y, ?_⟩, st'.1.at fun o q => (sb.2 it (Ne.symm hne)).trans q, hne, ha1, ha2⟩, fun b hb => ?_⟩
    · have e1 : ((i + 1 : Nat) : Int) = (i : Int) + 1 := by omega
      rw [e1]; exact he'
    · have hb' : b < s.heap.objs.size := by
        rcases List.mem_cons.mp hb with z | z
        · rw [z]; exact hel
        · rw [List.mem_singleton.mp z]; exact hil
      rw [upd_ne (Nat.ne_of_lt hb')]
      exact (hf b hb).1
  done := by
    intro X hP hw hK hc i pins s σ H E I hf st hg
    subst hP hw hK
    obtain ⟨⟨old, he⟩, hit, hne, ha1, ha2⟩ := st
    obtain ⟨xs, hq, hx⟩ := hg
    obtain ⟨its, rv, p, hz⟩ := I.tuple hq
    obtain ⟨f0, f1, f2, f3, f4, f5⟩ := hf it (by simp)
    obtain ⟨x1, hot⟩ := hc.at I
    have hl := rv.length
    have ei : i = its.toArray.size := by rw [List.size_toArray, ← hl, hx]
    subst ei
    exact wpAny_pyNext_enum_endD (draws_tupleH (A := X.A.in1) (x1 := x1) it a ha1 its.toArray) he ⟨hit, p, hot_at1 hot⟩ fun h' eb => ⟨rfl, I.turned (t' := s.toks) (fun b o hb q => eb b o hb q) f0 f1 f3 f4 f5⟩
  self := fun A i s Q E st h => let ⟨⟨_, he⟩, _⟩ := st; wpAny_pyIter_enum he h
end
section
variable {X : Cx}
theorem pi_oneH {tg : Expr} {pins : List (Addr × Obj)} {σ : L2.St} {H : Hp} {s : Shared} {R : It → Hp → Prop} {J : It} {tn : Nat → Heap → Prop} {tk : Nat} (I : Inv X pins σ H s) (o : Obj)
    (T : TurnH X.prog X.w X.K tg J [s.heap.objs.size] s.heap.objs.size tn) (st : tn 0 (s.heap.push o)) (q : R J H) : PIEH X pins σ tg R (.ref s.heap.objs.size) { s with heap := s.heap.push o, toks := tk } := by
  refine ⟨s.heap.objs.size, [s.heap.objs.size], tn, J, H, rfl, I.kept fun b ob e => Heap.get?_push_of_some _ e, T, st, fun b hb => ?_, q⟩
  rw [List.mem_singleton.mp hb]
  exact I.fpOk (Nat.le_refl _) (I.hok.fresh (Nat.le_refl _))
end
end TH
/-! Defs while an exception is handled, a token out: what they promise, calls, loops, comprehensions. -/
namespace TH
open PySem PySem.Spec PyProof.Rows L2 HotX L2H
variable [TC : TabC]
/-! ### sources -/
def PITH (X : Cx) (tg iter : Expr) (wi : TI) : Prop := ∀ (pins : List (Addr × Obj)) (s : Shared) (σ : L2.St) (H : Hp) (R : It → Hp → Prop), 1 ≤ s.toks → Inv X pins σ H s → wi σ H R →
  wpAny (model X.prog X.w) X.A (eval iter X.env) (fun v s1 => wpAny (model X.prog X.w) X.A (pyIter v) (PIEH X pins σ tg R) X.xe s1) X.xe s
section
variable {X : Cx} {tg l : Expr} {tl : TE}
theorem PITH.of {iter : Expr} {wi : TI} (h : PIH X tg iter wi) : PITH X tg iter wi := fun pins s σ H R _ I q => h.run pins s σ H R I q
theorem pih_list (hl : PET X l tl) : PITH X tg l (iList X.K tl) := fun pins s σ H R h0 I h =>
  thn (hl pins s σ H _ h0 I h) fun v s1 ⟨x, H1, I1, r1, q1⟩ => by
    obtain ⟨d, ex, ⟨xs, seq⟩, q⟩ := q1
    subst ex
    cases r1
    obtain ⟨its, rv, tp, sz⟩ := I1.list seq
    refine wpAny_pyIter_list tp.isList ⟨s1.heap.objs.size, [s1.heap.objs.size], _, _, H1, rfl, I1.kept (t' := s1.toks) fun b o e => Heap.get?_push_of_some _ e, turn_listH d _, ⟨_, Heap.get?_push_size _ rfl, rfl, rfl⟩, fun b hb => ?_, q⟩
    rw [List.mem_singleton.mp hb]
    exact I1.fpOk (Nat.le_refl _) (I1.hok.fresh (Nat.le_refl _))
theorem pih_str (hl : PET X l tl) : PITH X tg l (iStr tl) := fun pins s σ H R h0 I h =>
  thn (hl pins s σ H _ h0 I h) fun v s1 ⟨y, H1, I1, r1, x, ex, q⟩ => by
    subst ex
    obtain ⟨t, rfl⟩ := r1
    cases ha : x.cps.all (· < 128)
    · exact wpAny_pyIter_wide ha (pi_oneH (tk := s1.toks) I1 _ (turn_strH _ x t "str_iterator" (.inr rfl)) ⟨_, Heap.get?_push_size _ rfl, rfl, rfl⟩ q)
    · exact wpAny_pyIter_ascii ha (pi_oneH (tk := s1.toks) I1 _ (turn_strH _ x t "str_ascii_iterator" (.inl rfl)) ⟨_, Heap.get?_push_size _ rfl, rfl, rfl⟩ q)
theorem pih_enumT {e : Expr} {ta : TA} {p pos tpos : Pos} {elts : List Expr} {kk : Nat} (hg : Gl X "enumerate") (hm : X.mg "enumerate" = none) (ha : PAT X [e] ta) (hs : starEach [e] X.env = [(false, eval e X.env)] := by rfl) :
    PITH X (.Tuple elts kk tpos) (.Call (.Name "enumerate" p) [e] [] pos) (iEnumT X.K ta) := fun pins s σ H R h0 I h => by
  refine wpAny_with_toks (n := 1) h0 (Call_ (ld_blt I hg hm boot_enumerate (PyProof.Rows.callWith_type1 (keepM h0 (ha pos pins s σ H _ h0 I h) (fun us s1 k1 ⟨vs, H1, I1, r1, a, xs, ex, hq, q⟩ => ?_) fun e s' z => fun _ => z) hs rfl)))
  subst ex
  rw [Vals.ref1 r1]
  obtain ⟨its, rv, p', hz⟩ := I1.tuple hq
  have al : a < s1.heap.objs.size := p'.lt
  refine call_enumT p' fun h' he hit hk _ => wpAny_pyIter_enum he ?_
  refine ⟨s1.heap.objs.size + 1, [s1.heap.objs.size + 1, s1.heap.objs.size], _, _, H1, rfl, I1.kept (t' := s1.toks) hk, turn_enumTH a (s1.heap.objs.size + 1) s1.heap.objs.size, ⟨⟨.none, he⟩, hit, Nat.succ_ne_self _, Nat.ne_of_lt al, Nat.ne_of_lt (Nat.lt_succ_of_lt al)⟩, fun b hb => ?_, q⟩
  have hle : s1.heap.objs.size ≤ b := by
    rcases List.mem_cons.mp hb with z | z
    · rw [z]; exact Nat.le_succ _
    · rw [List.mem_singleton.mp z]; exact Nat.le_refl _
  exact I1.fpOk hle (I1.hok.fresh hle)
end
/-! ### for -/
section
variable {X : Cx} {ts : TS} {pos : Pos}
theorem pst_forTH {tg iter : Expr} {body : List Stmt} {wi : TI} {g : TG} (own : PassesOwn (model X.prog X.w) X.A X.env X.xe) (hot : HotC X) (src : PITH X tg iter wi) (hg : PG X tg g) (hb : PSsT X body ts)
    (plain : ∀ x, foldedSetIterable iter X.env x = pure x := by intro _; rfl) : PST X (.For tg iter body [] pos) (tFor wi g ts) := fun pins s σ H D h0 I h => by
  refine wpAny_For (keepT h0 (src pins s σ H _ h0 I h) fun v s1 k1 z1 => keepT k1 z1 fun itv s2 k2 z2 => ?_) plain
  obtain ⟨it, fp, tn, J, H2, rfl, I2, T, at2, free2, W, ⟨m0, w0⟩, turn⟩ := z2
  have fpok : ∀ {H' : Hp}, (∀ b ∈ fp, H' b = none) → ∀ b ∈ fp, FpOk X pins H' b := fun hn b hb => ⟨hn b hb, (free2 b hb).2⟩
  refine codeAny_forLoop_any (fun n s' => 1 ≤ s'.toks ∧ ∃ i σ' H', Inv X pins σ' H' s' ∧ tn i s'.heap ∧ (∀ b ∈ fp, H' b = none) ∧ W i n σ' H') ?_ m0 ⟨k2, 0, σ, H2, I2, at2, fun b hb => (free2 b hb).1, w0⟩
  rintro n s3 ⟨k3, i, σ3, H3, I3, at3, free3, w3⟩
  rcases turn i n σ3 H3 w3 with ⟨stops, fin⟩ | ⟨goes, N, back, step⟩
  · refine wpAny_passesOwn own (thn (T.done X rfl rfl rfl hot i pins s3 σ3 H3 X.xe I3 (fpok free3) at3 stops) fun res s4 ⟨er, I4⟩ => ?_)
    subst er
    exact wpAny_execs_nil ⟨σ3, H3, I4, fin⟩
  · refine wpAny_passesOwn own (keepT k3 (T.item X rfl rfl rfl hot i pins s3 σ3 H3 X.xe I3 (fpok free3) at3 goes) fun res s4 k4 ⟨u, er, z4⟩ => ?_)
    subst er
    refine wpAny_passesOwn own (keepT k4 z4 fun _ s5 k5 ⟨x, H5, I5, r5, y5, at5, free5⟩ => ?_)
    have J5 := I5.pinned (fpok free5) (T.obj _ _ at5)
    refine wpAny_passesOwn own (keepT k5 (hg.run _ s5 σ3 H5 x u _ J5 r5 (step x H5 y5)) fun _ s6 k6 ⟨σ6, H6, I6, q6⟩ => ?_)
    refine wpAny_passesOwn own (keepT k6 (hb _ s6 σ6 H6 _ k6 I6 q6) fun fl s7 k7 q7 => ?_)
    have next : ∀ {σ7 : L2.St} {H7 : Hp}, Inv X (pins ++ pinsAt fp s5.heap) σ7 H7 s7 → N σ7 H7 → ∃ m, m < n ∧ 1 ≤ s7.toks ∧ ∃ i σ' H', Inv X pins σ' H' s7 ∧ tn i s7.heap ∧ (∀ b ∈ fp, H' b = none) ∧ W i m σ' H' := fun {σ7 H7} I7 n7 => by
      obtain ⟨m', lt, w7⟩ := back σ7 H7 n7
      have pinned : ∀ b ∈ fp, ∀ ob, s5.heap.get? b = some ob → s7.heap.get? b = some ob ∧ H7 b = none := fun b hb ob e =>
        have z := I7.pin (b, ob) (List.mem_append_right _ (List.mem_append_right _ (mem_pinsAt hb e)))
        ⟨z.1, z.2.1⟩
      exact ⟨m', lt, k7, i + 1, σ7, H7, I7.unpinned, T.keep _ _ _ at5 fun b hb ob e => (pinned b hb ob e).1, fun b hb => let ⟨ob, e, _⟩ := T.obj _ _ at5 b hb; (pinned b hb ob e).2, w7⟩
    cases fl with
    | ret v => obtain ⟨x7, σ7, H7, I7, r7, z7⟩ := q7; exact ⟨x7, σ7, H7, I7.unpinned, r7, z7⟩
    | brk => obtain ⟨σ7, H7, I7, z7⟩ := q7; exact ⟨σ7, H7, I7.unpinned, z7⟩
    | cont => obtain ⟨σ7, H7, I7, n7⟩ := q7; exact next I7 n7
    | next => obtain ⟨σ7, H7, I7, n7⟩ := q7; exact next I7 n7
end
/-! ### [e for x in xs if t] -/
abbrev bkH (X : Cx) (s : Shared) (H : Hp) (scope : Scope) (cenv : PySem.Env) (fp : List Addr) (p : Addr × Obj) : Cx := (X.blk s H scope cenv fp).tr [p] (fun _ _ => False)
theorem inv_bkH {X : Cx} {s s4 : Shared} {H H' : Hp} {scope : Scope} {ce : PySem.Env} {fp : List Addr} {p : Addr × Obj} {σ : L2.St} (I : Inv (X.blk s H scope ce fp) [] σ H' s4) (h1 : s4.heap.get? p.1 = some p.2) (h2 : H' p.1 = none) (h3 : p.1 ≠ ce.locals) (h4 : p.1 ∉ frs X.stack) (h5 : ∀ v, p.2.data ≠ .cell v) : Inv (bkH X s H scope ce fp p) [] σ H' s4 :=
  ⟨I.ok.toTry _ _, I.os, I.bare, I.base, I.loc, I.cell, I.free, I.freeC, fun q hq => by
    rw [List.mem_singleton.mp (show q ∈ [p] from hq)]
    exact ⟨h1, h2, h3, h4, h5⟩, I.hok, I.len⟩
section
variable {X : Cx} {pos pos' : Pos} {tt : TT} {elt tg iter : Expr} {ifs : List Expr} {scope : Scope} {own : List (Str × Nat)} {wi : TI} {g : TG} {te : TE}
theorem lcTH {pins : List (Addr × Obj)} {s : Shared} {σ : L2.St} {H : Hp} {Q : VK} {use : Option (Value → Sem Unit)} {Qf : Value → Shared → Prop} (hot : HotC X) (nodup : X.N.Nodup) (h0 : 1 ≤ s.toks) (I : Inv X pins σ H s) (src : PITH X tg iter wi) (ok : BlkOk X.N X.env.scope scope own)
    (hg : ∀ (s : Shared) (H : Hp) (C : Addr) (cl : List (Str × Addr)) (fp : List Addr) (p : Addr × Obj), HotC (bkH X s H scope (compEnvC scope cl C X.env) fp p) → PG (bkH X s H scope (compEnvC scope cl C X.env) fp p) tg g) (ht : ∀ (s : Shared) (H : Hp) (C : Addr) (cl : List (Str × Addr)) (fp : List Addr) (p : Addr × Obj), HotC (bkH X s H scope (compEnvC scope cl C X.env) fp p) → PTsT (bkH X s H scope (compEnvC scope cl C X.env) fp p) ifs tt)
    (he : ∀ (s : Shared) (H : Hp) (C : Addr) (cl : List (Str × Addr)) (fp : List Addr) (p : Addr × Obj), HotC (bkH X s H scope (compEnvC scope cl C X.env) fp p) → PET (bkH X s H scope (compEnvC scope cl C X.env) fp p) elt te) (plain : ∀ x, foldedSetIterable iter X.env x = pure x) (h : tLc wi g tt te (own.map (·.2)) σ H Q)
    (done : ∀ D C s' m H', 1 ≤ s'.toks → Inv X pins σ H' s' → Q (.ref D) H' → s'.heap.Ns C m → FpOk X pins H' C → compPost (model X.prog X.w) X.A X.xe use Qf (.ref D) C (.ok .next) s') :
    wpAny (model X.prog X.w) X.A (comprehension (.ListComp elt [⟨tg, iter, ifs, 0⟩] scope pos) scope X.env pos' (newList []) false (eval iter X.env) use) Qf X.xe s := by
  have frees : ∀ y ∈ scope.names, y.2 = .free → ∃ c, X.env.cells.lookup y.1 = some c := fun y hy e => I.ok.has _ (ok.free y hy e)
  refine wpAny_comprehension_free (use := use) rfl plain (closure_ok frees) ok.kind (fun y hy e => by rw [ok.uniq y hy, e]) (keepT h0 (src pins s σ H _ h0 I h) fun xv s1 k1 hx => keepT k1 hx fun itv s2 k2 h2 => ?_)
  obtain ⟨it, fp, tn, J, H2, eit, I2, T, at2, free2, q⟩ := h2
  subst eit
  refine wpAny_newObj_type (newEnv_comp ?_) (show 0 ≤ sizeLine by decide)
  generalize eD : s2.heap.objs.size = D
  have freeD : H2 D = none := I2.hok.fresh (Nat.le_of_eq eD)
  obtain ⟨W, ⟨m0, w0⟩, turn⟩ := q D freeD
  -- the new list is made
  generalize e3 : ({ s2 with heap := s2.heap.push { cls := .type "list", data := .seq ([] : List Value).toArray } } : Shared) = s3
  have k3 : 1 ≤ s3.toks := by rw [← e3]; exact k2
  have heap3 : s3.heap = s2.heap.push { cls := .type "list", data := .seq ([] : List Value).toArray } := by rw [← e3]
  have I3 : Inv X pins σ (upd H2 D (.lst [])) s3 := by
    rw [← e3]
    exact I2.laid (t' := s2.toks) (fun b o e => Heap.get?_push_of_some _ e) (Nat.le_of_eq eD) ⟨Nat.zero_le _, [], 0, .nil, by rw [← eD]; exact Heap.get?_push_size _ rfl⟩
  have small : ∀ b ∈ fp, b < s2.heap.objs.size := fun b hb => let ⟨o, e, _⟩ := T.obj _ _ at2 b hb; Heap.lt_size e
  have free3 : ∀ b ∈ fp, FpOk X pins (upd H2 D (.lst [])) b ∧ b < s3.heap.objs.size := fun b hb => by
    have lt := small b hb
    refine ⟨⟨?_, (free2 b hb).2⟩, by rw [heap3, Heap.size_push]; exact Nat.lt_succ_of_lt lt⟩
    rw [upd_ne (show b ≠ D by rw [← eD]; exact Nat.ne_of_lt lt)]
    exact (free2 b hb).1
  have at3 : tn 0 s3.heap := T.keep _ _ _ at2 fun b _ o e => by rw [heap3]; exact Heap.get?_push_of_some _ e
  obtain ⟨p, hot1, hpin⟩ := hot
  have P3 := I3.pin p (List.mem_append_left _ hpin)
  have I4 := inv_bkH (p := p) (block_start I3 ok nodup free3) (pushCells_keeps _ _ _ _ (Heap.get?_push_of_some _ P3.1)) P3.2.1 (Nat.ne_of_lt (Heap.lt_size P3.1)) (fun hm => (List.mem_cons.mp (I3.stkSub p.1 hm)).elim P3.2.2.1 P3.2.2.2.1) P3.2.2.2.2
  generalize ecl : cellsFrom (s3.heap.objs.size + 1) scope.names (cloFrom X.env.cells scope.names []) = cl at I4 ⊢
  have hotB : HotC (bkH X s3 (upd H2 D (.lst [])) scope (compEnvC scope cl s3.heap.objs.size X.env) fp p) := ⟨p, hot1, List.mem_singleton.mpr rfl⟩
  have pg := hg s3 (upd H2 D (.lst [])) s3.heap.objs.size cl fp p hotB
  have pt := ht s3 (upd H2 D (.lst [])) s3.heap.objs.size cl fp p hotB
  have pe := he s3 (upd H2 D (.lst [])) s3.heap.objs.size cl fp p hotB
  show codeAny _ _ (.compStart (.ListComp elt [⟨tg, iter, ifs, 0⟩] scope pos) 0 (.ref it) (.ref D) (compEnvC scope cl s3.heap.objs.size X.env)) (compPost (model X.prog X.w) X.A X.xe use Qf (.ref D) s3.heap.objs.size) { s3 with heap := pushCells (s3.heap.push { cls := .type "dict", data := .dict #[] }) scope.names }
  have nofp : ∀ b ∈ fp, (upd H2 D (.lst [])) b = none := fun b hb => (free3 b hb).1.1
  generalize ece : compEnvC scope cl s3.heap.objs.size X.env = ce at I4 hotB pg pt pe ⊢
  have locals : ce.locals = s3.heap.objs.size := by subst ece; rfl
  generalize eH3 : upd H2 D (.lst []) = H3 at I3 I4 hotB pg pt pe w0 nofp free3
  generalize e4 : ({ s3 with heap := pushCells (s3.heap.push { cls := .type "dict", data := .dict #[] }) scope.names } : Shared) = s4 at I4 ⊢
  have k4 : 1 ≤ s4.toks := by rw [← e4]; exact k3
  have at4 : tn 0 s4.heap := T.keep _ _ _ at3 fun b _ o e => by rw [← e4]; exact pushCells_keeps _ _ _ _ (Heap.get?_push_of_some _ e)
  have fpok : ∀ {σ' : L2.St} {H' : Hp} {s' : Shared}, Inv (bkH X s3 H3 scope ce fp p) [] σ' H' s' → (∀ b ∈ fp, H' b = none) → ∀ b ∈ fp, FpOk (bkH X s3 H3 scope ce fp p) [] H' b := fun {σ' H' s'} I' hn b hb =>
    ⟨hn b hb, (I'.ok.exf b hb).1, I'.ok.exfs b hb, .inl hb, fun x c e => (I'.ok.exf b hb).2 x c e, fun q hq => by
      rw [List.mem_singleton.mp (show q ∈ [p] from by simpa using hq)]
      exact (free3 b hb).1.2.2.2.2.2 p (List.mem_append_left _ hpin)⟩
  have loop : codeAny (model X.prog X.w) X.A (.compLoop (.ListComp elt [⟨tg, iter, ifs, 0⟩] scope pos) 0 (.ref it) (.ref D) ce) (compPost (model X.prog X.w) X.A X.xe use Qf (.ref D) s3.heap.objs.size) s4 := by
    refine compLoop_any (fun n s' => 1 ≤ s'.toks ∧ ∃ i H', Inv (bkH X s3 H3 scope ce fp p) [] (wipe σ (own.map (·.2))) H' s' ∧ tn i s'.heap ∧ (∀ b ∈ fp, H' b = none) ∧ W i n H') ?_ m0 ⟨k4, 0, H3, I4, at4, nofp, w0⟩
    rintro n s5 ⟨k5, i, H5, I5, at5, n5, w5⟩
    rcases turn i n H5 w5 with ⟨stops, fin⟩ | ⟨goes, Nx, back, step⟩
    · refine keepF k5 (T.done (bkH X s3 H3 scope ce fp p) rfl rfl rfl hotB i [] s5 _ H5 (fun _ _ => False) I5 (fpok I5 n5) at5 stops) fun r s6 k6 ⟨er, I6⟩ => ?_
      subst er
      have I7 : Inv X pins σ H5 s6 := I3.call' (ch := fp) I6.os I6.base I6.hok I6.bare fun b hb => ⟨(free3 b hb).1.2.2.2.1, (free3 b hb).1.2.1, (free3 b hb).1.2.2.2.2.1, (free3 b hb).1.2.2.2.2.2⟩
      have nC : H5 s3.heap.objs.size = none := by rw [← locals]; exact I6.free
      obtain ⟨m, hn, _⟩ := I6.loc
      have hn : s6.heap.Ns ce.locals m := hn
      rw [locals] at hn
      exact done D s3.heap.objs.size s6 m H5 k6 I7 fin hn (I3.fpOk (Nat.le_refl _) nC)
    · refine keepF k5 (T.item (bkH X s3 H3 scope ce fp p) rfl rfl rfl hotB i [] s5 _ H5 (fun _ _ => False) I5 (fpok I5 n5) at5 goes) fun r s6 k6 ⟨u, er, h6⟩ => ?_
      subst er
      refine keepF k6 h6 fun _ s7 k7 ⟨x, H7, I7, r7, y7, at7, n7⟩ => ?_
      have J7 := I7.pinned (fpok I7 n7) (T.obj _ _ at7)
      refine keepF k7 (pg.run _ s7 _ H7 x u _ J7 r7 (step x H7 y7)) fun _ s8 k8 ⟨σ8, H8, I8, w8, q8⟩ => ?_
      refine keepF k8 (pt _ s8 σ8 H8 _ k8 I8 q8) fun b s9 k9 ⟨H9, I9, q9⟩ => ?_
      have next : ∀ {s' : Shared} {H' : Hp}, 1 ≤ s'.toks → Inv (bkH X s3 H3 scope ce fp p) ([] ++ pinsAt fp s7.heap) σ8 H' s' → Nx H' → ∃ m, m < n ∧ 1 ≤ s'.toks ∧ ∃ i H', Inv (bkH X s3 H3 scope ce fp p) [] (wipe σ (own.map (·.2))) H' s' ∧ tn i s'.heap ∧ (∀ b ∈ fp, H' b = none) ∧ W i m H' := fun {s' H'} k' I' nx => by
        obtain ⟨m', lt, w'⟩ := back H' nx
        have pinned : ∀ b ∈ fp, ∀ o, s7.heap.get? b = some o → s'.heap.get? b = some o ∧ H' b = none := fun b hb o e =>
          have z := I'.pin (b, o) (List.mem_append_right _ (List.mem_append_right _ (mem_pinsAt hb e)))
          ⟨z.1, z.2.1⟩
        have len : (wipe σ (own.map (·.2))).length = σ8.length := by rw [← w8, wipe_length]
        refine ⟨m', lt, k', i + 1, H', (I'.unpinned (pins := [])).weak len (fun j v e => ?_), T.keep _ _ _ at7 fun b hb o e => (pinned b hb o e).1, fun b hb => let ⟨o, e, _⟩ := T.obj _ _ at7 b hb; (pinned b hb o e).2, w'⟩
        rw [← w8] at e
        exact (wipe_some e).1
      cases b with
      | false => exact next k9 I9 q9
      | true => exact keepF k9 (pe _ s9 σ8 H9 _ k9 I9 q9) fun z s10 k10 ⟨yv, H10, I10, r10, acc, hD10, hz10, nx⟩ => PySem.wpAny_with_toks (n := 1) k10 (L2.app_ok (X := bkH X s3 H3 scope ce fp p) I10 hD10 hz10 r10 fun s11 I11 k11 => next k11 I11 nx)
  exact codeAny_compStart_list loop (T.self X.A 0 _ _ _ at4 loop)
theorem pet_lcH (hot : HotC X) (nodup : X.N.Nodup) (src : PITH X tg iter wi) (ok : BlkOk X.N X.env.scope scope own)
    (hg : ∀ (s : Shared) (H : Hp) (C : Addr) (cl : List (Str × Addr)) (fp : List Addr) (p : Addr × Obj), HotC (bkH X s H scope (compEnvC scope cl C X.env) fp p) → PG (bkH X s H scope (compEnvC scope cl C X.env) fp p) tg g) (ht : ∀ (s : Shared) (H : Hp) (C : Addr) (cl : List (Str × Addr)) (fp : List Addr) (p : Addr × Obj), HotC (bkH X s H scope (compEnvC scope cl C X.env) fp p) → PTsT (bkH X s H scope (compEnvC scope cl C X.env) fp p) ifs tt)
    (he : ∀ (s : Shared) (H : Hp) (C : Addr) (cl : List (Str × Addr)) (fp : List Addr) (p : Addr × Obj), HotC (bkH X s H scope (compEnvC scope cl C X.env) fp p) → PET (bkH X s H scope (compEnvC scope cl C X.env) fp p) elt te) (plain : ∀ x, foldedSetIterable iter X.env x = pure x := by intro _; rfl) :
    PET X (.ListComp elt [⟨tg, iter, ifs, 0⟩] scope pos) (tLc wi g tt te (own.map (·.2))) := fun pins s σ H Q h0 I h => by
  rw [eval_ListComp]
  refine lcTH hot nodup h0 I src ok hg ht he plain h fun D C s' m H' _ I' q hn ⟨f0, f1, f2, f3, f4, f5⟩ => ⟨m, hn, fun h'' sb => ?_⟩
  exact ⟨.ref D, H', I'.turned (t' := s'.toks) (fun b o hb e => (sb.2 b hb).trans e) f0 f1 f3 f4 f5, rfl, q⟩
end
end TH
/-! What a def promises while an exception is handled, a token out; calls there. -/
namespace TH
open PySem PySem.Spec PyProof.Rows L2 HotX L2H
variable [TC : TabC]
structure FnHT (P : Program) (w : World) (K : PySem.W.Frag) (mg : Str → Option Value) (base : Heap) (CX : CXT) (k : Nat) (f : Addr) (fd : FuncData) (ps : List Str) (sp : Sp) : Prop where
  len : ∀ vs H Q E, sp vs H Q E → vs.length = ps.length
  run : ∀ (A : Around) (outer : List PySem.Env) (s : Shared) (H : Hp) (args : Args) (us : List Value) (vs : List V) (Q : VK) (E : XK) (p : Addr × Obj), 1 ≤ s.toks → RoomH k A → Hot1 A p → PinOk outer H s p → Env0 P w K mg base A outer s H → BindsTo s fd args (ps.zip us) → Vals vs us → sp vs H Q E →
    codeAny (model P w) A (.call (.ref f) args) (CR CX outer P w H s Q E) s
section
variable {P : Program} {w : World} {K : PySem.W.Frag} {mg : Str → Option Value} {base : Heap} {CX : CXT} {j k : Nat} {f C : Addr} {fd : FuncData} {ps N : List Str} {sp sp' : Sp} {x m qual : Str} {params : Arguments} {body : List Stmt} {scope : Scope} {dvs : List V} {kws : List (Str × V)}
theorem FnHT.mono (F : FnHT P w K mg base CX j f fd ps sp) (h : j ≤ k) : FnHT P w K mg base CX k f fd ps sp := ⟨F.len, fun A outer s H args us vs Q E p h0 hr => F.run A outer s H args us vs Q E p h0 (hr.mono h)⟩
theorem FnHT.imp (F : FnHT P w K mg base CX k f fd ps sp) (h : ∀ vs H Q E, sp' vs H Q E → sp vs H Q E) : FnHT P w K mg base CX k f fd ps sp' := ⟨fun vs H Q E z => F.len vs H Q E (h _ _ _ _ z), fun A outer s H args us vs Q E p h0 hr ht hp e b r z => F.run A outer s H args us vs Q E p h0 hr ht hp e b r (h _ _ _ _ z)⟩
theorem hotC_cxH {N : List Str} {qual : Str} {scope : Scope} {cdv : Value} {A : Around} {outer : List PySem.Env} {s : Shared} {H : Hp} {E : XK} {p : Addr × Obj} (h : Hot1 A p) : HotC (cxH CX P w K mg base N qual scope f cdv A outer s H E p) := ⟨p, ⟨h.1, h.2⟩, List.mem_singleton.mpr rfl⟩
theorem HotC.nox {X : Cx} (h : HotC X) : HotC X.nox := h
theorem fnHT_byC (F : FunD K x qual params body scope dvs kws f fd) (S : FnScope N ps scope) (len : ∀ vs H Q E, sp vs H Q E → vs.length = ps.length)
    (hbody : ∀ (cdv : Value) (A : Around) (outer : List PySem.Env) (s : Shared) (H : Hp) (vs : List V) (Q : VK) (E : XK) (p : Addr × Obj), fd.code = cdv → RoomH k (A.deeper (envOfC qual scope s.heap.objs.size f cdv)) → HotC (cxH CX P w K mg base N qual scope f cdv A outer s H E p) → sp vs H Q E →
      ∃ t, PSsT (cxH CX P w K mg base N qual scope f cdv A outer s H E p) body t ∧ t { nx := fun _ H' => Q .non H', rt := Q } (L2.start N vs) H) : FnHT P w K mg base CX (k + 1) f fd ps sp := by
  obtain ⟨oc, od, dV, kV, doc, pm, an, cdv, ct, osl, rfl, lk, hcd, _, _⟩ := F.ex
  refine ⟨len, fun A outer s H args us vs Q E p h0 hr hot hpin e0 hb r hsp => ?_⟩
  have hl := len _ _ _ _ hsp
  have KX : K.In s.heap := e0.mod.kin.keeps fun b o e => (e0.bs b o e).1
  have lim : s.heap.NoLimit := e0.mod.nolimit.keeps fun b o e => (e0.bs b o e).1
  have kinds : ∀ y ∈ ps.zip us, scope.names.lookup y.1 = some .local ∨ (scope.names.lookup y.1 = some .cell ∧ ((cellsFrom (s.heap.objs.size + 1) scope.names []).lookup y.1).isSome = true) := fun ⟨n, v⟩ hy => by
    rcases S.par n (List.of_mem_zip hy).1 with q | q
    · exact .inl q
    · exact .inr ⟨q, PySem.W.cellsFrom_some _ _ _ (.inl q)⟩
  refine codeAny_call_function hr.depth (KX _ _ lk) rfl S.co S.gen rfl (PySem.W.codeRec_of KX hcd) (hb _ _ _ _ (wpAny_with_toks (n := 1) h0 ?_))
  refine wpAny_newFunctionEnv_cells S.kind kinds fun env he s1 y hk => ?_
  subst he
  refine ⟨lim.keeps y.toInCall.keep, codeAny_func ?_⟩
  obtain ⟨t, ht, hq⟩ := hbody cdv A outer s H vs Q E p rfl (hr.deeper _) (hotC_cxH hot) hsp
  have I : Inv (cxH CX P w K mg base N qual scope f cdv A outer s H E p) [] (L2.start N vs) H s1 := inv_startH S hpin e0 hl r y
  refine wpAny_mono (ht [] s1 (L2.start N vs) H _ hk I hq) (fun fl s' hs => ?_) fun e s' hs => hs
  have fin : ∀ {σ' : L2.St} {H' : Hp} {v : V} {u : Value}, Inv (cxH CX P w K mg base N qual scope f cdv A outer s H E p) [] σ' H' s' → RelV v u → Q v H' → CE outer P w H s Q u s' := fun {σ' H' v u} J rv q => ⟨v, H', J.os, J.bare, J.base, J.hok, rv, q⟩
  cases fl with
  | ret u =>
    obtain ⟨v, σ', H', J, rv, q⟩ := hs
    exact fin J rv q
  | next =>
    obtain ⟨σ', H', J, q⟩ := hs
    exact fin (v := V.non) (u := Value.none) J rfl q
  | brk =>
    obtain ⟨_, _, _, q⟩ := hs
    exact q.elim
  | cont =>
    obtain ⟨_, _, _, q⟩ := hs
    exact q.elim
end
theorem inv_pin {X : Cx} {pins : List (Addr × Obj)} {σ : L2.St} {H : Hp} {s : Shared} {p : Addr × Obj} (I : Inv X pins σ H s) (hp : p ∈ X.pn) : PinOk X.stack H s p :=
  have P1 := I.pin p (List.mem_append_left _ hp)
  ⟨P1.1, P1.2.1, fun hm => (List.mem_cons.mp (I.stkSub p.1 hm)).elim P1.2.2.1 P1.2.2.2.1, P1.2.2.2.2⟩
theorem roomH_make {k : Nat} {A : Around} (r : RoomH (k + 1) A) (C : Addr) (us : List Value) (kw : List (Str × Value)) : RoomH k (A.under (.builtin "type.__call__" ⟨.ref C :: us, kw⟩)) :=
  ⟨by have := r.dp; rw [make_depth]; omega, by have := r.un; rw [make_units]; omega⟩
/-! ### calls -/
section
variable {X : Cx} {CX : CXT} {k : Nat} {f C : Addr} {fd : FuncData} {ps : List Str} {sp : Sp} {dvs : List V} {ds : List Value} {E : XK} {x m : Str} {p pos apos : Pos} {e o : Expr} {es : List Expr} {ta : TE} {t : TA}
theorem run_fnHT {pins : List (Addr × Obj)} {σ : L2.St} {H : Hp} {s : Shared} {Q : VK} {us : List Value} {vs : List V} (F : FnHT X.prog X.w X.K X.mg X.base CX k f fd ps sp) (hr : RoomH k X.A) (hc : HotC X) (hb : Binds X.K fd ps ds) (hd : Vals dvs ds) (hx : Passes CX X E)
    (h0 : 1 ≤ s.toks) (I : Inv X pins σ H s) (r : Vals vs us) (h : sp (vs ++ dvs) H Q E) : wpAny (model X.prog X.w) X.A (call (.ref f) us) (EP X pins σ Q) X.xe s := by
  obtain ⟨q, hot, hq⟩ := hc
  have r2 : Vals (vs ++ dvs) (us ++ ds) := r.append hd
  have hl : (us ++ ds).length = ps.length := by rw [← r2.length]; exact F.len _ _ _ _ h
  refine wpAny_call (codeAny_mono (F.run X.A X.stack s H ⟨us, []⟩ (us ++ ds) (vs ++ dvs) Q E q h0 hr hot (inv_pin I hq) I.env0 (hb s us I.kIn hl) r2 h) fun z s' hq => ?_)
  cases z with
  | error e => exact hx pins σ H s e s' I hq
  | ok fl =>
    cases fl with
    | ret u => exact I.after hq
    | next => exact False.elim hq
    | brk => exact False.elim hq
    | cont => exact False.elim hq
theorem pet_callH (F : FnHT X.prog X.w X.K X.mg X.base CX k f fd ps sp) (hr : RoomH k X.A) (hc : HotC X) (hg : Gl X x) (hm : X.mg x = some (.ref f)) (hk : PySem.W.keepIn X.K (.ref f) = true) (hb : Binds X.K fd ps ds) (hd : Vals dvs ds) (hx : Passes CX X E)
    (ha : PAT X (e :: es) t) (hdb : (x == ("__debug__" : Str)) = false := by decide) (he : starEach (e :: es) X.env = (false, eval e X.env) :: starEach es X.env := by rfl) (hpl : (backTo pos (starEach es X.env)).any (·.1) = false := by rfl) :
    PET X (.Call (.Name x p) (e :: es) [] pos) (tCall sp dvs E t) := by
  intro pins s σ H Q h0 I h
  refine wpAny_with_toks (n := 1) h0 (wpAny_Call_Name_kw (ld_glob I hg hm ?_ hdb))
  refine PySem.W.callWith_K (h₀ := X.base) I.ok.mod.kin hk (wpAny_mono (PySem.wpAny_toks_of h0 (ha pos pins s σ H _ h0 I h)) (fun us s1 ⟨hk1, vs, H1, I1, r, q⟩ => ⟨I1.kIn, ?_⟩) fun e s' z => ?_) he hpl
  · exact wpAny_mono (run_fnHT F hr hc hb hd hx hk1 I1 r q) (fun _ _ z _ => z) fun _ _ z _ => z
  · exact fun _ => z.2
theorem run_makeHT {pins : List (Addr × Obj)} {σ : L2.St} {H : Hp} {s : Shared} {Q : VK} {us : List Value} {vs : List V} (M : Mk X.K C f) (F : FnHT X.prog X.w X.K X.mg X.base CX k f fd ps sp) (hr : RoomH (k + 1) X.A) (hc : HotC X) (hb : Binds X.K fd ps ds) (hd : Vals dvs ds)
    (hx : Passes CX X E) (h0 : 1 ≤ s.toks) (I : Inv X pins σ H s) (r : Vals vs us)
    (h : ∀ x dx, H x = none → H dx = none → dx ≠ x → sp (.ref x :: (vs ++ dvs)) (upd (upd H dx (.own x)) x (.ins C dx [])) (fun v H2 => v = .non ∧ Q (.ref x) H2) E) : wpAny (model X.prog X.w) X.A (call (.ref C) us) (EP X pins σ Q) X.xe s := by
  have hq := h (s.heap.objs.size + 1) s.heap.objs.size (I.hok.fresh (Nat.le_succ _)) (I.hok.fresh (Nat.le_refl _)) (Nat.ne_of_lt (Nat.lt_succ_self _))
  have J := Inv.made (C := C) I
  obtain ⟨q, hot, hqp⟩ := hc
  have r2 : Vals (V.ref (s.heap.objs.size + 1) :: (vs ++ dvs)) (Value.ref (s.heap.objs.size + 1) :: (us ++ ds)) := .cons rfl (r.append hd)
  have hl : (Value.ref (s.heap.objs.size + 1) :: us ++ ds).length = ps.length := by
    have e := r2.length
    rw [F.len _ _ _ _ hq] at e
    exact e.symm
  refine wpAny_call (make_map (f := f) I.kIn M.makes M.init (beq_iff_eq.mp M.fn) (codeAny_mono (F.run _ X.stack _ _ ⟨Value.ref (s.heap.objs.size + 1) :: us, []⟩ (Value.ref (s.heap.objs.size + 1) :: (us ++ ds)) _ _ E q h0 (roomH_make hr C us [])
    ⟨hot.1, hot.2⟩ (inv_pin J hqp) (J.env0.make C us []) (hb _ (Value.ref (s.heap.objs.size + 1) :: us) J.kIn hl) r2 hq) fun z s' hq' => ?_))
  cases z with
  | error e => exact hx pins σ _ _ e s' J hq'
  | ok g =>
    cases g with
    | ret u =>
      obtain ⟨v, H', I3, rv, ev, q3⟩ := J.after hq'
      subst ev
      exact ⟨rv, ⟨V.ref (s.heap.objs.size + 1), H', I3, rfl, q3⟩⟩
    | next => exact False.elim hq'
    | brk => exact False.elim hq'
    | cont => exact False.elim hq'
theorem pet_makeH (M : Mk X.K C f) (F : FnHT X.prog X.w X.K X.mg X.base CX k f fd ps sp) (hr : RoomH (k + 1) X.A) (hc : HotC X) (hg : Gl X x) (hm : X.mg x = some (.ref C)) (hb : Binds X.K fd ps ds) (hd : Vals dvs ds) (hx : Passes CX X E)
    (ha : PAT X (e :: es) t) (hdb : (x == ("__debug__" : Str)) = false := by decide) (he : starEach (e :: es) X.env = (false, eval e X.env) :: starEach es X.env := by rfl) (hpl : (backTo pos (starEach es X.env)).any (·.1) = false := by rfl) :
    PET X (.Call (.Name x p) (e :: es) [] pos) (tMake C sp dvs E t) := by
  intro pins s σ H Q h0 I h
  refine wpAny_with_toks (n := 1) h0 (wpAny_Call_Name_kw (ld_glob I hg hm ?_ hdb))
  refine PySem.W.callWith_K (h₀ := X.base) I.ok.mod.kin M.kp (wpAny_mono (PySem.wpAny_toks_of h0 (ha pos pins s σ H _ h0 I h)) (fun us s1 ⟨hk1, vs, H1, I1, r, q⟩ => ⟨I1.kIn, ?_⟩) fun e s' z => ?_) he hpl
  · exact wpAny_mono (run_makeHT M F hr hc hb hd hx hk1 I1 r q) (fun _ _ z _ => z) fun _ _ z _ => z
  · exact fun _ => z.2
theorem pet_methH0 {pl : Sem Bool} (he : PET X o ta) (c : Cls X.K C) (hm : Meth X.K C m f) (F : FnHT X.prog X.w X.K X.mg X.base CX k f fd ps sp) (hr : RoomH k X.A) (hc : HotC X) (hb : Binds X.K fd ps ds) (hd : Vals dvs ds) (hx : Passes CX X E)
    (ht : eval (.Call (.Attribute o m apos) [] [] pos) X.env = (do
      let ov ← eval o X.env
      standAt apos.atName
      let (f, first) ← holding [ov] (getMethod ov m pl)
      callWith pos f first (backTo pos (starEach [] X.env)) (backToKw pos (keywordEach [] X.env))) := by rfl) : PET X (.Call (.Attribute o m apos) [] [] pos) (tMeth C m sp dvs E ta tNil) := fun pins s σ H Q h0 I h => by
  refine wpAny_with_toks (n := 1) h0 (PySem.W.methodCall_KW (pl := pl) (keepM h0 (he pins s σ H _ h0 I h) (fun u s1 k1 ⟨x, H1, I1, rx, a, dx, fs, ex, ea, l, q⟩ => ?_) fun e s' z => fun _ => z) ht)
  subst ex
  obtain rfl : u = Value.ref a := rx
  refine getmeth_ok I1 ea c hm l ?_
  exact wpAny_mono (PySem.W.callWith_K0 (first := [.ref a]) I1.kIn hm.kp (run_fnHT (us := [.ref a]) (vs := [.ref a]) F hr hc hb hd hx k1 I1 (.cons rfl .nil) q)) (fun _ _ z _ => z) fun _ _ z _ => z
end
end TH
/-! While an exception is handled: builtins that walk, tuples taken apart; defs by their bodies, by names; raising. -/
namespace TH
open PySem PySem.Spec PyProof.Rows L2 HotX L2H
variable [TC : TabC]
/-! ### builtins -/
section
variable {prog : Program} {w : World} {A : Around} {x1 : Addr}
theorem walks_listH (I ax : Addr) (hne : ax ≠ I) (items : Array Value) :
    Walks prog w A I [I, ax, x1] [I] items.size (fun i v => items[i]? = some v) (fun i h => h.IsListIter I ax i ∧ h.IsList ax items ∧ HotAt A x1 h) where
  sub := fun b hb => by simp at hb; simp [hb]
  frame := fun _ _ _ st hk => ⟨st.1.at fun o e => hk I (by simp) o e, st.2.1.at fun o e => hk ax (by simp) o e, hot_frame st.2.2 fun o e => hk x1 (by simp) o e⟩
  item := fun i s Q E hi st hQ => by
    obtain ⟨o, ho, hc, hd⟩ := id st.1
    have ne : x1 ≠ I := hot_ne st.2.2 ho hd (Nat.le_refl 2)
    refine wpAny_pyNext_list_item st.1 st.2.1 (x := items[i]) (by simp [hi]) fun h' hit' hs' => ?_
    exact hQ _ h' s.toks (by simp [hi]) ⟨hit', st.2.1.extBut hs'.extBut hne, hot_frame st.2.2 fun o e => hs'.extBut x1 o ne e⟩ fun b o hb e => hs'.extBut b o (fun h => hb (by simp [h])) e
  done := fun s Q E st hQ => next_list_end_hot st.2.2 st.1 st.2.1 (by simp) fun h' he' => hQ h' s.toks fun b o hb e => he' b o (fun h => hb (by simp [h])) e
  self := fun _ _ _ _ st hQ => wpAny_pyIter_listiter st.1 hQ
end
section
variable {X : Cx}
theorem cr_allH (hc : HotC X) : CallR X (.builtin "all") (L2.rAll X.K) := by
  intro pins s σ H vs us Q I r h
  obtain ⟨a, bs, rfl, hs, q⟩ := h
  obtain ⟨its, rv, hl, _⟩ := I.list hs
  rw [Vals.ref1 r]
  have hb := rv.bls
  obtain ⟨x1, hot⟩ := hc.at I
  refine call_all_walk (iter_any hl.isList fun s₂ e2 st hne => ?_)
  subst e2
  refine ⟨_, _, _, _, _, _, _, rfl, walks_listH (A := X.A.in1) (x1 := x1) _ a hne its.toArray, ⟨st.1, st.2, hot_push (hot_at1 hot)⟩, truth_bools hb, fun h' tk hk => ?_⟩
  refine ⟨.bl _, H, I.kept fun b o eo => hk b o (fun hmem => ?_) (Heap.get?_push_of_some _ eo), ?_, q⟩
  · rw [List.mem_singleton.mp hmem] at eo
    exact absurd (Heap.lt_size eo) (Nat.lt_irrefl _)
  · show Value.bool _ = Value.bool _
    rw [← L2.all_range, hb, List.size_toArray, List.length_map]
end
/-! ### a, b = t -/
section
variable {prog : Program} {w : World} {A : Around} {E : Value → Shared → Prop} {s : Shared} {x1 : Addr}
theorem unpackItems_tupleH {t : Addr} {items : Array Value} {Q : List Value → Shared → Prop} (hot : HotAt A x1 s.heap) (ht : s.heap.IsTuple t items)
    (hQ : ∀ h', Heap.ExtBut s.heap.objs.size s.heap h' → Q items.toList { s with heap := h' }) : wpAny (model prog w) A (unpackItems (.ref t) items.size none) Q E s := by
  have hlt : t ≠ s.heap.objs.size := by obtain ⟨o, ho, _⟩ := ht; exact Nat.ne_of_lt (Heap.lt_size ho)
  have nx : x1 ≠ s.heap.objs.size := by obtain ⟨_, o, vs, e, _⟩ := hot; exact Nat.ne_of_lt (Heap.lt_size e)
  unfold unpackItems
  refine wpAny_bind ?_
  · unfold notIterableAtAll
    refine wpAny_bind (wpAny_specialOf ht.typeIs F.slot_tuple_iter.lookup ?_)
    refine wpAny_pure ?_
    simp only [Bool.false_eq_true, if_false]
    refine wpAny_bind (wpAny_holding (wpAny_pyIter_tuple ht ?_))
    refine wpAny_bind (wpAny_holding (wpAny_draw_tuple hlt items.size 0 _ _ ⟨_, Heap.get?_push_size _ rfl, rfl, rfl⟩ (ht.push _) (by omega) fun h₁ hit₁ hs₁ => ?_))
    rw [show List.take items.size (List.drop 0 items.toList) = items.toList by rw [List.drop_zero]; exact List.take_of_length_le (by simp)]
    rw [if_neg (by simp)]
    have ht₁ : h₁.IsTuple t items := (ht.push _).extBut hs₁.extBut hlt
    have hot₁ : HotAt A x1 h₁ := hot_frame (hot_push hot) fun o e => hs₁.extBut x1 o nx e
    refine wpAny_bind (wpAny_holding (next_tuple_end_hot hot₁ hit₁ ht₁ (by simp) fun h₂ he₂ => ?_))
    simp only [Option.isSome_none, Bool.false_eq_true, if_false]
    exact wpAny_pure (hQ h₂ fun b o hb e => he₂ b o hb (hs₁.extBut b o hb (Heap.get?_push_of_some _ e)))
theorem assign_TupleH {env : PySem.Env} {elts : List Expr} {k : Nat} {pos : Pos} {t : Addr} {items : Array Value} {Q : Unit → Shared → Prop} (hot : HotAt A x1 s.heap) (ht : s.heap.IsTuple t items)
    (hn : (assignEach elts env).length = items.size) (hstar : (assignEach elts env).findIdx? (·.1) = none)
    (h : ∀ h', Heap.ExtBut s.heap.objs.size s.heap h' → wpAny (model prog w) A (assignInOrder ((assignEach elts env).map (·.2)) items.toList) Q E { s with heap := h' }) :
    wpAny (model prog w) A (assign (.Tuple elts k pos) env (.ref t)) Q E s := by
  rw [arm_assign_Tuple]
  refine wpAny_bind (wpAny_standAt ?_)
  unfold unpack
  rw [hn, hstar]
  exact wpAny_bind (wpAny_holding (unpackItems_tupleH hot ht h))
end
section
variable {X : Cx} {pos : Pos}
theorem pg_tupH {es : List Expr} {k : Nat} {t : TGs} {n : Nat} (hc : HotC X) (h : PGs X es t)
    (hn : (assignEach es X.env).length = n := by rfl) (hst : (assignEach es X.env).findIdx? (·.1) = none := by rfl) : PG X (.Tuple es k pos) (gTup X.K n t) := by
  refine ⟨fun pins s σ H v u Q I r hw => ?_⟩
  obtain ⟨a, xs, e1, hq, hl, hw⟩ := hw
  subst e1
  cases r
  obtain ⟨its, rv, ht, hz⟩ := I.tuple hq
  obtain ⟨x1, hot⟩ := hc.at I
  refine assign_TupleH hot (show s.heap.IsTuple a its.toArray from ht) (by simp [hn, ← hl, rv.length]) hst fun h' hx => ?_
  have I1 : Inv X pins σ H { s with heap := h' } := I.kept (t' := s.toks) fun b o e => hx b o (Nat.ne_of_lt (Heap.lt_size e)) e
  exact h.run pins _ σ H xs _ Q I1 (by simpa using rv) hw
end
/-! ### by names -/
structure CalH (P : Program) (w : World) (K : PySem.W.Frag) (mg : Str → Option Value) (base : Heap) (CX : CXT) (k : Nat) (x : Str) (sp : Sp) (dvs : List V) : Prop where
  ex : ∃ (f : Addr) (fd : FuncData) (ps : List Str) (ds : List Value), FnHT P w K mg base CX k f fd ps sp ∧ mg x = some (.ref f) ∧ PySem.W.keepIn K (.ref f) = true ∧ Binds K fd ps ds ∧ Vals dvs ds
structure MakH (P : Program) (w : World) (K : PySem.W.Frag) (mg : Str → Option Value) (base : Heap) (CX : CXT) (k : Nat) (x : Str) (C : Addr) (sp : Sp) (dvs : List V) : Prop where
  ex : ∃ (f : Addr) (fd : FuncData) (ps : List Str) (ds : List Value), Mk K C f ∧ FnHT P w K mg base CX k f fd ps sp ∧ mg x = some (.ref C) ∧ Binds K fd ps ds ∧ Vals dvs ds
structure MetH (P : Program) (w : World) (K : PySem.W.Frag) (mg : Str → Option Value) (base : Heap) (CX : CXT) (k : Nat) (C : Addr) (m : Str) (sp : Sp) (dvs : List V) : Prop where
  ex : ∃ (f : Addr) (fd : FuncData) (ps : List Str) (ds : List Value), Cls K C ∧ Meth K C m f ∧ FnHT P w K mg base CX k f fd ps sp ∧ Binds K fd ps ds ∧ Vals dvs ds
section
variable {X : Cx} {CX : CXT} {k j : Nat} {C : Addr} {x m : Str} {sp : Sp} {dvs : List V} {p pos apos : Pos} {e o : Expr} {es : List Expr} {ta : TE} {t : TA} {E : XK}
theorem pet_cH (c : CalH X.prog X.w X.K X.mg X.base CX k x sp dvs) (hx : Passes CX X E) (hr : RoomH j X.A) (hc : HotC X) (hk : k ≤ j) (hg : Gl X x) (ha : PAT X (e :: es) t)
    (hdb : (x == ("__debug__" : Str)) = false := by decide) (he : starEach (e :: es) X.env = (false, eval e X.env) :: starEach es X.env := by rfl) (hpl : (backTo pos (starEach es X.env)).any (·.1) = false := by rfl) :
    PET X (.Call (.Name x p) (e :: es) [] pos) (tCall sp dvs E t) := by
  obtain ⟨f, fd, ps, ds, F, hm, kp, b, d⟩ := c.ex
  exact pet_callH F (hr.mono hk) hc hg hm kp b d hx ha hdb he hpl
theorem pet_mkH (c : MakH X.prog X.w X.K X.mg X.base CX k x C sp dvs) (hx : Passes CX X E) (hr : RoomH j X.A) (hc : HotC X) (hk : k + 1 ≤ j) (hg : Gl X x) (ha : PAT X (e :: es) t)
    (hdb : (x == ("__debug__" : Str)) = false := by decide) (he : starEach (e :: es) X.env = (false, eval e X.env) :: starEach es X.env := by rfl) (hpl : (backTo pos (starEach es X.env)).any (·.1) = false := by rfl) :
    PET X (.Call (.Name x p) (e :: es) [] pos) (tMake C sp dvs E t) := by
  obtain ⟨f, fd, ps, ds, M, F, hm, b, d⟩ := c.ex
  exact pet_makeH M F (hr.mono hk) hc hg hm b d hx ha hdb he hpl
theorem pet_mtH0 {pl : Sem Bool} (c : MetH X.prog X.w X.K X.mg X.base CX k C m sp dvs) (hx : Passes CX X E) (hr : RoomH j X.A) (hc : HotC X) (hk : k ≤ j) (he : PET X o ta)
    (ht : eval (.Call (.Attribute o m apos) [] [] pos) X.env = (do
      let ov ← eval o X.env
      standAt apos.atName
      let (f, first) ← holding [ov] (getMethod ov m pl)
      callWith pos f first (backTo pos (starEach [] X.env)) (backToKw pos (keywordEach [] X.env))) := by rfl) : PET X (.Call (.Attribute o m apos) [] [] pos) (tMeth C m sp dvs E ta tNil) := by
  obtain ⟨f, fd, ps, ds, hC, hm, F, b, d⟩ := c.ex
  exact pet_methH0 (pl := pl) he hC hm F (hr.mono hk) hc b d hx ht
end
/-! ### defs by their bodies -/
section
variable {P : Program} {w : World} {K : PySem.W.Frag} {mg : Str → Option Value} {base : Heap} {x qual : Str} {params : Arguments} {body : List Stmt} {scope : Scope} {f : Addr} {fd : FuncData} {N ps : List Str} {k n0 : Nat} {dvs : List V} {kws : List (Str × V)}
theorem fnAHT {ac : AC} (F : FunD K x qual params body scope dvs kws f fd) (S : FnScope N ps scope) {at' : aTS} (hlen : ∀ avs A Kc, ac avs A Kc → avs.length = ps.length ∧ A.length = n0)
    (hb : ∀ (cdv : Value) (A : Around) (outer : List PySem.Env) (s : Shared) (H : Hp) (E : XK) (p : Addr × Obj), RoomH k (A.deeper (envOfC qual scope s.heap.objs.size f cdv)) → HotC (cxH CX0 P w K mg base N qual scope f cdv A outer s H E p).nox → ∃ t, PSsT (cxH CX0 P w K mg base N qual scope f cdv A outer s H E p).nox body t ∧ SimS K n0 at' t)
    (hrun : ∀ avs A Kc, ac avs A Kc → at' (aEnd n0 Kc) (startA N avs) A) : FnHT P w K mg base CX0 (k + 1) f fd ps (spA K ac) := by
  refine fnHT_byC F S (fun vs H Q E h => ?_) fun cdv A outer s H vs Q E p _ hr hot h => ?_
  · obtain ⟨s, avs, Kc, _, _, h3, h4, _⟩ := h
    rw [← (hlen _ _ _ h4).1]
    exact h3.length.symm
  · obtain ⟨t, ht, hs⟩ := hb cdv A outer s H E p hr hot
    exact ⟨t, TH.PSsT.nox ht, fnA_core hlen hs hrun h⟩
theorem fnXHT {ac : ACX} (F : FunD K x qual params body scope dvs kws f fd) (S : FnScope N ps scope) {at' : aTSX} (hlen : ∀ avs A Kc Kx, ac avs A Kc Kx → avs.length = ps.length ∧ A.length = n0)
    (hb : ∀ (cdv : Value) (A : Around) (outer : List PySem.Env) (s : Shared) (H : Hp) (E : XK) (p : Addr × Obj), RoomH k (A.deeper (envOfC qual scope s.heap.objs.size f cdv)) → HotC (cxH (L2.CX P w) P w K mg base N qual scope f cdv A outer s H E p) → Takes (cxH (L2.CX P w) P w K mg base N qual scope f cdv A outer s H E p) (fun cls d _ H => E cls d H) → ∃ t, PSsT (cxH (L2.CX P w) P w K mg base N qual scope f cdv A outer s H E p) body t ∧ SimSX K n0 (fun cls d _ H => E cls d H) at' t)
    (hrun : ∀ avs A Kc Kx, ac avs A Kc Kx → at' (fun e _ A' => Kx e (A'.take n0)) (aEnd n0 Kc) (startA N avs) A) : FnHT P w K mg base (L2.CX P w) (k + 1) f fd ps (spX K ac) := by
  refine fnHT_byC F S (fun vs H Q E h => ?_) fun cdv A outer s H vs Q E p _ hr hot h => ?_
  · obtain ⟨s, avs, Kc, Kx, _, _, h3, h4, _⟩ := h
    rw [← (hlen _ _ _ _ h4).1]
    exact h3.length.symm
  · obtain ⟨t, ht, hs⟩ := hb cdv A outer s H E p hr hot (takes_of rfl rfl rfl rfl)
    exact ⟨t, ht, body_coreX hlen hs hrun h⟩
/-- cold, the exceptions' contexts known -/
theorem fnXNT {ac : ACX} (F : FunD K x qual params body scope dvs kws f fd) (S : FnScope N ps scope) {at' : aTSX} (hlen : ∀ avs A Kc Kx, ac avs A Kc Kx → avs.length = ps.length ∧ A.length = n0)
    (hb : ∀ (cdv : Value) (A : Around) (outer : List PySem.Env) (s : Shared) (H : Hp) (E : XK), Room k (A.deeper (envOfC qual scope s.heap.objs.size f cdv)) → L2N.Takes (cxOf (L2N.CX P w) P w K mg base N qual scope f cdv A outer s H E) (fun cls d _ H => E cls d H) → ∃ t, PSsT (cxOf (L2N.CX P w) P w K mg base N qual scope f cdv A outer s H E) body t ∧ SimSX K n0 (fun cls d _ H => E cls d H) at' t)
    (hrun : ∀ avs A Kc Kx, ac avs A Kc Kx → at' (fun e _ A' => Kx e (A'.take n0)) (aEnd n0 Kc) (startA N avs) A) : FnT P w K mg base (L2N.CX P w) (k + 1) f fd ps (spX K ac) := by
  refine fnT_byC F S (fun vs H Q E h => ?_) fun cdv A outer s H vs Q E _ hr h => ?_
  · obtain ⟨s, avs, Kc, Kx, _, _, h3, h4, _⟩ := h
    rw [← (hlen _ _ _ _ h4).1]
    exact h3.length.symm
  · obtain ⟨t, ht, hs⟩ := hb cdv A outer s H E hr (L2N.takes_of rfl rfl rfl rfl)
    exact ⟨t, ht, body_coreX hlen hs hrun h⟩
end
end TH
/-! Own exceptions, their contexts known: cold; made and raised while an exception is handled. -/
namespace TH
open PySem PySem.Spec PyProof.Rows L2 HotX L2H
variable [TC : TabC]
section
variable {X : Cx}
theorem mk_endN {pins : List (Addr × Obj)} {σ : L2.St} {H1 H2 : Hp} {Q : XK} {hp hp2 h2 : Heap} {g1 g2 : Array GenState} {d1 d2 : Drawn} {t1 t2 : Nat} {os1 os2 : OsState} {a C d : Addr} {fs : List (Str × V)} (T : Raises X (.ref C)) (I1 : Inv X pins σ H1 ⟨hp, g1, d1, t1, os1⟩)
    (ha : hp.objs.size ≤ a) (k : ∀ b o, hp.get? b = some o → hp2.get? b = some o) (un : Un (frs X.stack) [] (upd H1 a (exo a C none)) H2 hp2 h2) (hok : HOk X.prog X.w H2 h2) (ho : os2 = os1) (hb : AllBare g2)
    (ea : H2 a = some (exo a C (some d))) (ed : H2 d = some (exd d fs)) (hd1 : H1 d = none) (q : Q (.ref C) (some d) (upd (del H2 a) d (.xd fs))) : L2N.MkP X pins σ Q (.ref a) ⟨h2, g2, d2, t2, os2⟩ := by
  obtain ⟨t0, G, J, kG, ge, hoe, na⟩ := mk_end0 (d2 := d2) (t2 := t2) I1 ha k un hok ho hb ea ed hd1
  exact ⟨a, _, _, ⟨G, g2, d2, t2, os2⟩, _, .ref C, some d, rfl, J, kG, ge, hoe, ⟨rfl, rfl, fun vs hv => by cases hv; rfl⟩, rfl, rfl, na, rfl, hb, T, q⟩
/-- an exception is made, a token out -/
def PMkT (X : Cx) (e : Expr) (t : L2.St → Hp → XK → Prop) : Prop :=
  ∀ (pins : List (Addr × Obj)) (s : Shared) (σ : L2.St) (H : Hp) (Q : XK), 1 ≤ s.toks → Inv X pins σ H s → t σ H Q → wpAny (model X.prog X.w) X.A (eval e X.env) (L2N.MkP X pins σ Q) X.xe s
end
section
variable {X : Cx} {p pos : Pos} {kws : List Keyword}
theorem pmk_oexKN {CX : CXT} {x : Str} {C fI : Addr} {k : Nat} {fd : FuncData} {ps ks : List Str} {sp : Sp} {g : List Value → List Value → List Value} {gV : List V → List V → List V} {tk : TA} (T : OexC X.K C) (iC : PySem.W.findIn X.K (.ref C) "__init__" = some (some (.ref fI))) (tI : PySem.W.typeIn X.K (.ref fI) = some (.type "function"))
    (F1 : FnOk X.prog X.w X.K X.mg X.base CX k fI fd ps sp) (hr : Room (k + 1) X.A) (hb : KBn X.K fd ps 1 ks g gV) (hx : Passes CX X (fun _ _ _ => False)) (hg : Gl X x) (hm : X.mg x = some (.ref C)) (hkw : PK X kws tk)
    (hdb : (x == ("__debug__" : Str)) = false := by decide) (hall : (backToKw pos (keywordEach kws X.env)).all (·.1.isSome) = true := by rfl) (hks : (backToKw pos (keywordEach kws X.env)).filterMap (·.1) = ks := by rfl)
    (hpl : ((backTo pos (starEach [] X.env)).any (·.1) || (backToKw pos (keywordEach kws X.env)).any (·.1.isNone)) = false := by rfl) :
    L2N.PMk X (.Call (.Name x p) [] kws pos) (tMkK C sp ks.length gV tk) := by
  intro pins s σ H Q I h
  obtain ⟨nm, q, N, bs, bm, sn, sub, ab, col, dd, k0, k1, k2, k3, k5, hC, hbm⟩ := T.cls
  refine wpAny_Call_Name_kw (ld_glob I hg hm ?_ hdb)
  refine PySem.W.callWith_KW0 (h₀ := X.base) I.ok.mod.kin T.kC hall (wpAny_mono (hkw.run pos pins s σ H _ I h) (fun ws s1 ⟨zs, H1, I1, rz, hz, q1⟩ => ⟨I1.kIn, ?_⟩) fun e s' z => z) hpl
  rw [hks]
  show wpAny _ _ (call (.ref C) [] (ks.zip ws)) _ _ _
  obtain ⟨hp, g0, dr, tk0, os⟩ := s1
  have hsz : hp.objs.size ≤ hp.objs.size + 1 := Nat.le_succ _
  have hn : H1 (hp.objs.size + 1) = none := I1.hok.fresh hsz
  have hq := q1 (hp.objs.size + 1) hn
  have kk : ∀ b o, hp.get? b = some o → ((hp.push (PySem.W.kdv_tup [])).push (PySem.HandSPX.excO C hp.objs.size)).get? b = some o := fun b o e => Heap.get?_push_of_some _ (Heap.get?_push_of_some _ e)
  have hget : ((hp.push (PySem.W.kdv_tup [])).push (PySem.HandSPX.excO C hp.objs.size)).get? (hp.objs.size + 1) = some (PySem.HandSPX.excO C hp.objs.size) := by heap_get
  have I2 : Inv X pins σ (upd H1 (hp.objs.size + 1) (exo (hp.objs.size + 1) C none)) ⟨(hp.push (PySem.W.kdv_tup [])).push (PySem.HandSPX.excO C hp.objs.size), g0, dr, tk0, os⟩ :=
    I1.laid (t' := tk0) (a := hp.objs.size + 1) (o := exo (hp.objs.size + 1) C none) (h' := (hp.push (PySem.W.kdv_tup [])).push (PySem.HandSPX.excO C hp.objs.size)) kk hsz (exo_ok hget)
  have r2 := hb.rel (vs := [V.ref (hp.objs.size + 1)]) (us := [Value.ref (hp.objs.size + 1)]) (.cons rfl .nil) rz
  refine wpAny_call (XK1.callK F.excBase_ValueError (fun Y => PySem.HandSPX.refsVE_contains Y bm hbm) (I1.kIn _ _ hC) (PySem.W.looks_findIn I1.kIn iC) (fun self => PySem.W.bind_fn I1.kIn self tI) (Nat.zero_le _)
    (codeAny_mono (F1.run _ X.stack _ _ ⟨[Value.ref (hp.objs.size + 1)], ks.zip ws⟩ (g [Value.ref (hp.objs.size + 1)] ws) _ _ (fun _ _ _ => False) (hr.make C [] (ks.zip ws)) (I2.env0.make C [] (ks.zip ws)) (hb.to _ [Value.ref (hp.objs.size + 1)] ws I2.kIn rfl (rz.length.symm.trans hz)) r2 hq) fun r s' hq' => ?_))
  cases r with
  | error er => exact hx pins σ _ _ er s' I2 hq'
  | ok fl =>
    cases fl with
    | ret u =>
      obtain ⟨v, H2, os2, bare2, un2, hok2, rv, ev, d, fs, ea, ed, hd1, q2⟩ := hq'
      subst ev
      obtain ⟨h2, g2, d2, t2, os'⟩ := s'
      exact ⟨rv, mk_endN (raises_own T.exC T.tyC) I1 hsz kk un2 hok2 os2 bare2 ea ed hd1 q2⟩
    | next => exact False.elim hq'
    | brk => exact False.elim hq'
    | cont => exact False.elim hq'
theorem pmk_oexKH {CX : CXT} {x : Str} {C fI : Addr} {k : Nat} {fd : FuncData} {ps ks : List Str} {sp : Sp} {g : List Value → List Value → List Value} {gV : List V → List V → List V} {tk : TA} (T : OexC X.K C) (iC : PySem.W.findIn X.K (.ref C) "__init__" = some (some (.ref fI))) (tI : PySem.W.typeIn X.K (.ref fI) = some (.type "function"))
    (F1 : FnHT X.prog X.w X.K X.mg X.base CX k fI fd ps sp) (hr : RoomH (k + 1) X.A) (hc : HotC X) (hb : KBn X.K fd ps 1 ks g gV) (hx : Passes CX X (fun _ _ _ => False)) (hg : Gl X x) (hm : X.mg x = some (.ref C)) (hkw : PK X kws tk)
    (hdb : (x == ("__debug__" : Str)) = false := by decide) (hall : (backToKw pos (keywordEach kws X.env)).all (·.1.isSome) = true := by rfl) (hks : (backToKw pos (keywordEach kws X.env)).filterMap (·.1) = ks := by rfl)
    (hpl : ((backTo pos (starEach [] X.env)).any (·.1) || (backToKw pos (keywordEach kws X.env)).any (·.1.isNone)) = false := by rfl) :
    PMkT X (.Call (.Name x p) [] kws pos) (tMkK C sp ks.length gV tk) := by
  intro pins s σ H Q h0 I h
  obtain ⟨pn, hot, hpn⟩ := hc
  obtain ⟨nm, q, N, bs, bm, sn, sub, ab, col, dd, k0, k1, k2, k3, k5, hC, hbm⟩ := T.cls
  refine wpAny_with_toks (n := 1) h0 (wpAny_Call_Name_kw (ld_glob I hg hm ?_ hdb))
  refine PySem.W.callWith_KW0 (h₀ := X.base) I.ok.mod.kin T.kC hall (wpAny_mono (PySem.wpAny_toks_of h0 (hkw.run pos pins s σ H _ I h)) (fun ws s1 ⟨hk1, zs, H1, I1, rz, hz, q1⟩ => ⟨I1.kIn, ?_⟩) fun e s' z => fun _ => z.2) hpl
  rw [hks]
  show wpAny _ _ (call (.ref C) [] (ks.zip ws)) _ _ _
  obtain ⟨hp, g0, dr, tk0, os⟩ := s1
  have hsz : hp.objs.size ≤ hp.objs.size + 1 := Nat.le_succ _
  have hn : H1 (hp.objs.size + 1) = none := I1.hok.fresh hsz
  have hq := q1 (hp.objs.size + 1) hn
  have kk : ∀ b o, hp.get? b = some o → ((hp.push (PySem.W.kdv_tup [])).push (PySem.HandSPX.excO C hp.objs.size)).get? b = some o := fun b o e => Heap.get?_push_of_some _ (Heap.get?_push_of_some _ e)
  have hget : ((hp.push (PySem.W.kdv_tup [])).push (PySem.HandSPX.excO C hp.objs.size)).get? (hp.objs.size + 1) = some (PySem.HandSPX.excO C hp.objs.size) := by heap_get
  have I2 : Inv X pins σ (upd H1 (hp.objs.size + 1) (exo (hp.objs.size + 1) C none)) ⟨(hp.push (PySem.W.kdv_tup [])).push (PySem.HandSPX.excO C hp.objs.size), g0, dr, tk0, os⟩ :=
    I1.laid (t' := tk0) (a := hp.objs.size + 1) (o := exo (hp.objs.size + 1) C none) (h' := (hp.push (PySem.W.kdv_tup [])).push (PySem.HandSPX.excO C hp.objs.size)) kk hsz (exo_ok hget)
  have r2 := hb.rel (vs := [V.ref (hp.objs.size + 1)]) (us := [Value.ref (hp.objs.size + 1)]) (.cons rfl .nil) rz
  refine wpAny_mono (Q := L2N.MkP X pins σ Q) (E := X.xe) ?_ (fun _ _ z _ => z) (fun _ _ z _ => z)
  refine wpAny_call (XK1.callK F.excBase_ValueError (fun Y => PySem.HandSPX.refsVE_contains Y bm hbm) (I1.kIn _ _ hC) (PySem.W.looks_findIn I1.kIn iC) (fun self => PySem.W.bind_fn I1.kIn self tI) (Nat.zero_le _)
    (codeAny_mono (F1.run _ X.stack _ _ ⟨[Value.ref (hp.objs.size + 1)], ks.zip ws⟩ (g [Value.ref (hp.objs.size + 1)] ws) _ _ (fun _ _ _ => False) pn hk1 (roomH_make hr C [] (ks.zip ws)) ⟨hot.1, hot.2⟩ (inv_pin I2 hpn) (I2.env0.make C [] (ks.zip ws)) (hb.to _ [Value.ref (hp.objs.size + 1)] ws I2.kIn rfl (rz.length.symm.trans hz)) r2 hq) fun r s' hq' => ?_))
  cases r with
  | error er => exact hx pins σ _ _ er s' I2 hq'
  | ok fl =>
    cases fl with
    | ret u =>
      obtain ⟨v, H2, os2, bare2, un2, hok2, rv, ev, d, fs, ea, ed, hd1, q2⟩ := hq'
      subst ev
      obtain ⟨h2, g2, d2, t2, os'⟩ := s'
      exact ⟨rv, mk_endN (raises_own T.exC T.tyC) I1 hsz kk un2 hok2 os2 bare2 ea ed hd1 q2⟩
    | next => exact False.elim hq'
    | brk => exact False.elim hq'
    | cont => exact False.elim hq'
end
theorem pst_raiseH {X : Cx} {W : WX} {e : Expr} {t : L2.St → Hp → XK → Prop} {pos : Pos} (hc : HotC X) (tk : Takes X W) (he : PMkT X e t) : PST X (.Raise (some e) none pos) (fun _ σ H => t σ H fun cls d H' => W cls d σ H') := fun pins s σ H D h0 I h => by
  obtain ⟨p, ⟨hh, v1, e1, c1⟩, hp⟩ := hc
  show wpAny _ _ (do standAt pos; raiseStmt X.env (some (do let v ← eval e X.env; standAt pos; pure v)) none) _ _ _
  refine wpAny_bind (wpAny_standAt (raise_made_hot (x1 := p.1) (wpAny_bind (wpAny_mono (he pins s σ H _ h0 I h) (fun u s1 hu => wpAny_bind (wpAny_standAt (wpAny_pure ?_))) fun _ _ x => x))))
  obtain ⟨a, oe, vs, sI, H', cls, d, rfl, J, k, hne, ha, hz, hd, h1, na, os, ag, r, q⟩ := hu
  obtain ⟨r1, r2⟩ := r (model X.prog X.w) s1.heap (J.kIn.keeps k)
  have P1 := (J.pin p (List.mem_append_left _ hp)).1
  have nap : p.1 ≠ a := fun z => by
    rw [z, hne] at P1
    cases P1
  have hi : 2 < vs.size := (Array.getElem?_eq_some_iff.mp (hz.2.2 vs hd)).1
  have h1' : (vs.setIfInBounds 2 (Value.ref p.1))[1]? = some Value.none := by
    rw [Array.getElem?_setIfInBounds_ne (by decide)]
    exact h1
  refine ⟨a, oe, vs, cls, rfl, ha, hz.1, hd, h1, hi, nap, ⟨hh, p.2, v1, k _ _ P1, e1, c1⟩, r1, r2, tk _ _ (XE.new J (fun b u z => ?_) hne (Heap.get?_update_self _ ha (Obj.isFreed_of_fields (Obj.data_mapFields hd _))) ⟨(Obj.cls_mapFields ..).trans hz.1, (HandSPX.dict_mapFields ..).trans hz.2.1⟩ (Obj.data_mapFields hd _) h1' na os ag q)⟩
  have nab : a ≠ b := fun y => by
    rw [← y, hne] at z
    cases z
  show (s1.heap.update a (Obj.mapFields (·.setIfInBounds 2 (.ref p.1)))).get? b = some u
  rw [Heap.get?_update_other _ _ nab]
  exact k b u z
end TH
/-! try .. except C as e: within a suite; the suite's exception of a known context, a token out. -/
namespace TH
open PySem PySem.Spec PyProof.Rows L2 HotX L2H
variable [TC : TabC]
section
variable {X : Cx} {x n : Str} {c : Value} {i : Nat} {body suite : List Stmt} {b₀ : Stmt} {np pos pos' : Pos} {tb : WX → TS} {ts : Addr → Value → Option Addr → TS} {Wout : WX}
theorem pst_try_asH (hs : X.stack = X.env :: X.outer) (hf : X.env.frame = some X.env.locals) (hN : X.N.Nodup) (hi : X.N[i]? = some n) (hln : X.env.kindOf n = some .local) (hc : Names X x c) (tk : Takes X Wout)
    (hb : ∀ (W : WX) (pn : List (Addr × Obj)) (xe : Value → Shared → Prop), (∀ q ∈ X.pn, q ∈ pn) → Takes (X.tr pn xe) W → PassesOwn (model X.prog X.w) X.A X.env xe → PSsT (X.tr pn xe) body (tb W))
    (hsu : ∀ (a : Addr) (oe : Obj) (cls : Value) (d : Option Addr) (pn : List (Addr × Obj)), Zc cls d oe → (∃ vs, oe.data = .fields vs) → PSs (X.suite a ((a, oe) :: pn)) (b₀ :: suite) (ts a cls d)) :
    PST X (.Try body [.ExceptHandler (some (.Name x np)) (some n) (b₀ :: suite) pos'] [] [] pos) (fun D σ H => tb (wAs X.K c i ts Wout D) D σ H) := by
  intro pins s σ H D h0 I h
  have ok := I.ok
  have wfr : X.A.frames = some (X.env :: X.outer) := by rw [ok.frames, hs]
  have wloc : Loc X.env.scope n := .inl hln
  refine wpAny_Try_except ?_
  refine wpAny_mono ((hb (wAs X.K c i ts Wout D) (X.pn ++ pins) (fun e s₁ => wpAny (model X.prog X.w) X.A (noteFrame e X.env) (fun _ s₂ => wpAny (model X.prog X.w) X.A (setFlight e none) (fun _ s₃ =>
    wpAny (model X.prog X.w) X.A (handleBy e X.env [.ExceptHandler (some (.Name x np)) (some n) (b₀ :: suite) pos']) (SP X pins D) X.xe s₃) X.xe s₂) X.xe s₁) (fun q hq => List.mem_append_left _ hq) (fun u s' xx => ?_) PassesOwn.looking) [] s σ H D h0 (I.toTry _) h) (fun f s1 wsp => ?_) (fun e s1 he => he)
  · obtain ⟨a, B, sI, pins', σ', H', cls, d, rfl, J', nb, up, sky, na, os, ag, b, wb1, wy, wn⟩ := xx
    have J : Inv X pins σ' H' sI := J'.ofTry ok
    have sk1 : Sky B (X.env :: X.outer) a (Zc cls d) X.env.locals s'.heap := by rw [← hs]; exact sky
    show wpAny (model X.prog X.w) X.A (noteFrame (.ref a) X.env) _ _ _
    refine Sky.land Zc.steady wfr hf sk1 fun g3 f3 u3 => ?_
    have K3 : Inv X pins σ' H' { s' with heap := g3 } := J.landed nb f3.1 (up.trans u3) os ag
    obtain ⟨o3, v3, e3, z3, d3⟩ := f3.there
    have offr : ∀ {h : Heap} {o : Obj} {vs : Array Value}, h.FunFrames B (X.env :: X.outer) → h.get? a = some o → o.data = .fields vs → a ∉ frs (X.env :: X.outer) := fun {h o vs} ff e dd hm => by
      obtain ⟨_, o', e', hnf⟩ := ff.mem hm
      rw [e] at e'; cases e'
      exact hnf _ dd
    have wnf := offr f3.2.2.1 e3 d3
    have wnl : a ≠ X.env.locals := fun z => wnf (List.mem_filterMap.mpr ⟨X.env, List.mem_cons_self, by rw [hf, z]⟩)
    have wnF : a ∉ X.fs := fun hm => by
      obtain ⟨e, he, q⟩ := List.mem_filterMap.mp hm
      exact wnf (List.mem_filterMap.mpr ⟨e, List.mem_cons_of_mem _ he, q⟩)
    have T3 := K3.suite e3 d3 na wnl wnF
    refine wpAny_handleBy_cons (codeAny_handlers_test ?_) (by intro q; cases q)
    have lk1 : PySem.W.Looks (model X.prog X.w) g3 (typeOf (.ref a)) cls := fun A Q E s k q => wpAny_typeOf_ref (k _ _ e3) (by rw [z3.1]; exact q)
    have lk2 := PySem.W.exm_one (M := model X.prog X.w) (K3.kIn) lk1 wb1
    have tst : ∀ {Q : Value → Shared → Prop} {E : Value → Shared → Prop}, Q c { s' with heap := g3 } → wpAny (model X.prog X.w) (X.A.mark (some (.ref a))) (eval (.Name x np) X.env) Q E { s' with heap := g3 } := fun {Q E} q => by
      obtain ⟨hg, hdbg, hm | ⟨hm, hv, hnn⟩⟩ := hc
      · exact ld_glob (X := X.suite a ((a, o3) :: (X.pn ++ pins))) T3 hg hm q hdbg
      · exact ld_blt (X := X.suite a ((a, o3) :: (X.pn ++ pins))) T3 hg hm hv q hnn hdbg
    refine tst (lk2.here ?_)
    cases b with
    | true =>
      refine codeAny_handlers_suite_as ?_
      refine HandSPX.lands_againZ f3 fun g4 f4 u4 => ?_
      have K4 : Inv X pins σ' H' { s' with heap := g4 } := J.landed nb f4.1 ((up.trans u3).trans u4) os ag
      obtain ⟨o4, v4, e4, z4, d4⟩ := f4.there
      have T4 := K4.suite e4 d4 na wnl wnF
      refine store_ok (X := X.suite a ((a, o4) :: (X.pn ++ pins))) (v := .ref a) T4 hN hi wloc rfl (fun s5 T5 => ?_) (.inr hln)
      refine wpAny_mono ((hsu a o4 cls d (X.pn ++ pins) z4 ⟨_, d4⟩).run [] s5 _ H' _ T5 (wy rfl a na)) (fun f s6 wsp => ?_) (fun _ _ z => False.elim z)
      have endq : ∀ {σ6 : L2.St} {H6 : Hp} {Q : Shared → Prop}, Inv (X.suite a ((a, o4) :: (X.pn ++ pins))) [] σ6 H6 s6 → (∀ s7, Inv X pins (σ6.set i none) H6 s7 → Q s7) →
          wpAny (model X.prog X.w) X.A (do bindName X.env n .none; unbindBehindTheSuite X.env n pos') (fun _ s7 => Q s7) X.xe s6 := fun {σ6 H6 Q} T6 hq => gone_ok (T6.unsuite ok) hN hi hln hq
      cases f with
      | next =>
        obtain ⟨σ6, H6, T6, q6⟩ := wsp
        exact endq T6 fun s7 K7 => ⟨_, _, K7, q6⟩
      | brk =>
        obtain ⟨σ6, H6, T6, q6⟩ := wsp
        exact endq T6 fun s7 K7 => ⟨_, _, K7, q6⟩
      | cont =>
        obtain ⟨σ6, H6, T6, q6⟩ := wsp
        exact endq T6 fun s7 K7 => ⟨_, _, K7, q6⟩
      | ret u =>
        obtain ⟨v6, σ6, H6, T6, r6, q6⟩ := wsp
        exact endq T6 fun s7 K7 => ⟨_, _, _, K7, r6, q6⟩
    | false =>
      show wpAny _ X.A (handleBy (.ref a) X.env []) _ _ _
      refine wpAny_handleBy_nil ?_
      obtain ⟨k1, k2, k3, oe, vs, T, oT, ts', he, hz, hd, h1, hr⟩ := id f3
      unfold PySem.passOn
      refine wpAny_bind (wpAny_field he hd h1 ?_)
      rw [if_neg (show ¬ ((Value.ref T == Value.none) = true) from by simp)]
      have finq : wpAny (model X.prog X.w) X.A (setFlight (.ref a) X.env.frame) (fun _ s4 => wpAny (model X.prog X.w) X.A (throw (.ref a) : Sem Flow) (SP X pins D) X.xe s4) X.xe { s' with heap := g3 } := by
        rw [hf]
        refine HandSPX.setFlight_upZ f3 fun g4 hh4 u4 => wpAny_throw (tk _ _ ?_)
        exact ⟨a, B, sI, pins, σ', H', cls, d, rfl, J, nb, (up.trans u3).trans u4, .inr (.inr (by rw [hs]; exact hh4)), na, os, ag, wn rfl⟩
      first
        | exact wpAny_bind (wpAny_pure (wpAny_bind finq))
        | exact wpAny_bind finq
  · cases f with
    | next =>
      obtain ⟨σ', H', J', q⟩ := wsp
      exact wpAny_execs_nil ⟨σ', H', J'.ofTry ok, q⟩
    | brk =>
      obtain ⟨σ', H', J', q⟩ := wsp
      exact ⟨σ', H', J'.ofTry ok, q⟩
    | cont =>
      obtain ⟨σ', H', J', q⟩ := wsp
      exact ⟨σ', H', J'.ofTry ok, q⟩
    | ret u =>
      obtain ⟨v, σ', H', J', r, q⟩ := wsp
      exact ⟨v, σ', H', J'.ofTry ok, r, q⟩
theorem pst_try_asN (hs : X.stack = X.env :: X.outer) (hf : X.env.frame = some X.env.locals) (hN : X.N.Nodup) (hi : X.N[i]? = some n) (hln : X.env.kindOf n = some .local) (hc : Names X x c) (tk : L2N.Takes X Wout)
    (hb : ∀ (W : WX) (pn : List (Addr × Obj)) (xe : Value → Shared → Prop), L2N.Takes (X.tr pn xe) W → PassesOwn (model X.prog X.w) X.A X.env xe → PSsT (X.tr pn xe) body (tb W))
    (hsu : ∀ (a : Addr) (oe : Obj) (cls : Value) (d : Option Addr) (pn : List (Addr × Obj)), L2N.Zn cls d oe → (∃ vs, oe.data = .fields vs) → PSsT (X.suite a ((a, oe) :: pn)) (b₀ :: suite) (ts a cls d)) :
    PST X (.Try body [.ExceptHandler (some (.Name x np)) (some n) (b₀ :: suite) pos'] [] [] pos) (fun D σ H => tb (wAs X.K c i ts Wout D) D σ H) := by
  intro pins s σ H D h0 I h
  have ok := I.ok
  have wfr : X.A.frames = some (X.env :: X.outer) := by rw [ok.frames, hs]
  have wloc : Loc X.env.scope n := .inl hln
  refine wpAny_Try_except ?_
  refine wpAny_mono (PySem.wpAny_toks_of h0 ((hb (wAs X.K c i ts Wout D) (X.pn ++ pins) (fun e s₁ => wpAny (model X.prog X.w) X.A (noteFrame e X.env) (fun _ s₂ => wpAny (model X.prog X.w) X.A (setFlight e none) (fun _ s₃ => 1 ≤ s₃.toks →
    wpAny (model X.prog X.w) X.A (handleBy e X.env [.ExceptHandler (some (.Name x np)) (some n) (b₀ :: suite) pos']) (SP X pins D) X.xe s₃) X.xe s₂) X.xe s₁) (fun u s' xx => ?_) PassesOwn.looking) [] s σ H D h0 (I.toTry _) h)) (fun f s1 ⟨_, wsp⟩ => ?_) (fun e s1 ⟨k1, he⟩ => wpAny_mono (PySem.wpAny_toks_of k1 he) (fun _ s2 ⟨k2, he2⟩ => wpAny_mono (PySem.wpAny_toks_of k2 he2) (fun _ s3 ⟨k3, he3⟩ => he3 k3) fun _ _ z => z.2) fun _ _ z => z.2)
  · obtain ⟨a, B, sI, pins', σ', H', cls, d, rfl, J', nb, up, sky, na, os, ag, b, wb1, wy, wn⟩ := xx
    have J : Inv X pins σ' H' sI := J'.ofTry ok
    have sk1 : Sky B (X.env :: X.outer) a (L2N.Zn cls d) X.env.locals s'.heap := by rw [← hs]; exact sky
    show wpAny (model X.prog X.w) X.A (noteFrame (.ref a) X.env) _ _ _
    refine L2N.Sky.land L2N.Zn.steady wfr hf sk1 fun g3 f3 u3 k3 => ?_
    have K3 : Inv X pins σ' H' { s' with heap := g3 } := J.landed nb f3.1 (up.trans u3) os ag
    obtain ⟨o3, v3, e3, z3, d3⟩ := f3.there
    have offr : ∀ {h : Heap} {o : Obj} {vs : Array Value}, h.FunFrames B (X.env :: X.outer) → h.get? a = some o → o.data = .fields vs → a ∉ frs (X.env :: X.outer) := fun {h o vs} ff e dd hm => by
      obtain ⟨_, o', e', hnf⟩ := ff.mem hm
      rw [e] at e'; cases e'
      exact hnf _ dd
    have wnf := offr f3.2.2.1 e3 d3
    have wnl : a ≠ X.env.locals := fun z => wnf (List.mem_filterMap.mpr ⟨X.env, List.mem_cons_self, by rw [hf, z]⟩)
    have wnF : a ∉ X.fs := fun hm => by
      obtain ⟨e, he, q⟩ := List.mem_filterMap.mp hm
      exact wnf (List.mem_filterMap.mpr ⟨e, List.mem_cons_of_mem _ he, q⟩)
    have T3 := K3.suite e3 d3 na wnl wnF
    refine wpAny_handleBy_cons (codeAny_handlers_test ?_) (by intro q; cases q)
    have lk1 : PySem.W.Looks (model X.prog X.w) g3 (typeOf (.ref a)) cls := fun A Q E s k q => wpAny_typeOf_ref (k _ _ e3) (by rw [z3.1]; exact q)
    have lk2 := PySem.W.exm_one (M := model X.prog X.w) (K3.kIn) lk1 wb1
    have tst : ∀ {Q : Value → Shared → Prop} {E : Value → Shared → Prop}, Q c { s' with heap := g3 } → wpAny (model X.prog X.w) (X.A.mark (some (.ref a))) (eval (.Name x np) X.env) Q E { s' with heap := g3 } := fun {Q E} q => by
      obtain ⟨hg, hdbg, hm | ⟨hm, hv, hnn⟩⟩ := hc
      · exact ld_glob (X := X.suite a ((a, o3) :: (X.pn ++ pins))) T3 hg hm q hdbg
      · exact ld_blt (X := X.suite a ((a, o3) :: (X.pn ++ pins))) T3 hg hm hv q hnn hdbg
    refine tst (lk2.here ?_)
    cases b with
    | true =>
      refine codeAny_handlers_suite_as ?_
      refine HandSPX.lands_againZ f3 fun g4 f4 u4 => ?_
      have K4 : Inv X pins σ' H' { s' with heap := g4 } := J.landed nb f4.1 ((up.trans u3).trans u4) os ag
      obtain ⟨o4, v4, e4, z4, d4⟩ := f4.there
      have T4 := K4.suite e4 d4 na wnl wnF
      refine wpAny_with_toks (n := 1) (show 1 ≤ s'.toks from k3) (store_ok (X := X.suite a ((a, o4) :: (X.pn ++ pins))) (v := .ref a) T4 hN hi wloc rfl (fun s5 T5 k5 => ?_) (.inr hln))
      refine wpAny_mono (hsu a o4 cls d (X.pn ++ pins) z4 ⟨_, d4⟩ [] s5 _ H' _ k5 T5 (wy rfl a na)) (fun f s6 wsp => ?_) (fun _ _ z => False.elim z)
      have endq : ∀ {σ6 : L2.St} {H6 : Hp} {Q : Shared → Prop}, Inv (X.suite a ((a, o4) :: (X.pn ++ pins))) [] σ6 H6 s6 → (∀ s7, Inv X pins (σ6.set i none) H6 s7 → Q s7) →
          wpAny (model X.prog X.w) X.A (do bindName X.env n .none; unbindBehindTheSuite X.env n pos') (fun _ s7 => Q s7) X.xe s6 := fun {σ6 H6 Q} T6 hq => gone_ok (T6.unsuite ok) hN hi hln hq
      cases f with
      | next =>
        obtain ⟨σ6, H6, T6, q6⟩ := wsp
        exact endq T6 fun s7 K7 => ⟨_, _, K7, q6⟩
      | brk =>
        obtain ⟨σ6, H6, T6, q6⟩ := wsp
        exact endq T6 fun s7 K7 => ⟨_, _, K7, q6⟩
      | cont =>
        obtain ⟨σ6, H6, T6, q6⟩ := wsp
        exact endq T6 fun s7 K7 => ⟨_, _, K7, q6⟩
      | ret u =>
        obtain ⟨v6, σ6, H6, T6, r6, q6⟩ := wsp
        exact endq T6 fun s7 K7 => ⟨_, _, _, K7, r6, q6⟩
    | false =>
      show wpAny _ X.A (handleBy (.ref a) X.env []) _ _ _
      refine wpAny_handleBy_nil ?_
      obtain ⟨k1, k2, k3, oe, vs, T, oT, ts', he, hz, hd, h1, hr⟩ := id f3
      unfold PySem.passOn
      refine wpAny_bind (wpAny_field he hd h1 ?_)
      rw [if_neg (show ¬ ((Value.ref T == Value.none) = true) from by simp)]
      have finq : wpAny (model X.prog X.w) X.A (setFlight (.ref a) X.env.frame) (fun _ s4 => wpAny (model X.prog X.w) X.A (throw (.ref a) : Sem Flow) (SP X pins D) X.xe s4) X.xe { s' with heap := g3 } := by
        rw [hf]
        refine HandSPX.setFlight_upZ f3 fun g4 hh4 u4 => wpAny_throw (tk _ _ ?_)
        exact ⟨a, B, sI, pins, σ', H', cls, d, rfl, J, nb, (up.trans u3).trans u4, .inr (.inr (by rw [hs]; exact hh4)), na, os, ag, wn rfl⟩
      first
        | exact wpAny_bind (wpAny_pure (wpAny_bind finq))
        | exact wpAny_bind finq
  · cases f with
    | next =>
      obtain ⟨σ', H', J', q⟩ := wsp
      exact wpAny_execs_nil ⟨σ', H', J'.ofTry ok, q⟩
    | brk =>
      obtain ⟨σ', H', J', q⟩ := wsp
      exact ⟨σ', H', J'.ofTry ok, q⟩
    | cont =>
      obtain ⟨σ', H', J', q⟩ := wsp
      exact ⟨σ', H', J'.ofTry ok, q⟩
    | ret u =>
      obtain ⟨v, σ', H', J', r, q⟩ := wsp
      exact ⟨v, σ', H', J'.ofTry ok, r, q⟩
end
end TH
/-! Defs that refuse, cold (contexts known) and hot at once; while; what lets exceptions out within expressions. -/
namespace TH
open PySem PySem.Spec PyProof.Rows L2 HotX L2H
variable [TC : TabC]
theorem _root_.L2H.RoomH.units {k : Nat} {A : Around} (r : RoomH k A) : A.units + 64 < cLine := by have := r.un; omega
theorem pass0E {X : Cx} : Passes CX0 X C8.E0 := C8.pass0
/-! ### cold, by names -/
structure CalC (P : Program) (w : World) (K : PySem.W.Frag) (mg : Str → Option Value) (base : Heap) (CX : CXT) (k : Nat) (x : Str) (sp : Sp) (dvs : List V) : Prop where
  ex : ∃ (f : Addr) (fd : FuncData) (ps : List Str) (ds : List Value), FnT P w K mg base CX k f fd ps sp ∧ mg x = some (.ref f) ∧ PySem.W.keepIn K (.ref f) = true ∧ Binds K fd ps ds ∧ Vals dvs ds
structure MetC (P : Program) (w : World) (K : PySem.W.Frag) (mg : Str → Option Value) (base : Heap) (CX : CXT) (k : Nat) (C : Addr) (m : Str) (sp : Sp) (dvs : List V) : Prop where
  ex : ∃ (f : Addr) (fd : FuncData) (ps : List Str) (ds : List Value), Cls K C ∧ Meth K C m f ∧ FnT P w K mg base CX k f fd ps sp ∧ Binds K fd ps ds ∧ Vals dvs ds
section
variable {X : Cx} {CX : CXT} {k j : Nat} {C : Addr} {x m : Str} {sp : Sp} {dvs : List V} {p pos apos : Pos} {e o : Expr} {es : List Expr} {ta : TE} {t : TA} {E : XK}
theorem pet_cC (c : CalC X.prog X.w X.K X.mg X.base CX k x sp dvs) (hx : Passes CX X E) (hr : Room j X.A) (hk : k ≤ j) (hg : Gl X x) (ha : PAT X (e :: es) t)
    (hdb : (x == ("__debug__" : Str)) = false := by decide) (he : starEach (e :: es) X.env = (false, eval e X.env) :: starEach es X.env := by rfl) (hpl : (backTo pos (starEach es X.env)).any (·.1) = false := by rfl) :
    PET X (.Call (.Name x p) (e :: es) [] pos) (tCall sp dvs E t) := by
  obtain ⟨f, fd, ps, ds, F, hm, kp, b, d⟩ := c.ex
  exact pet_call F (hr.mono hk) hg hm kp b d hx ha hdb he hpl
theorem pet_mtC0 {pl : Sem Bool} (c : MetC X.prog X.w X.K X.mg X.base CX k C m sp dvs) (hx : Passes CX X E) (hr : Room j X.A) (hk : k ≤ j) (he : PET X o ta)
    (ht : eval (.Call (.Attribute o m apos) [] [] pos) X.env = (do
      let ov ← eval o X.env
      standAt apos.atName
      let (f, first) ← holding [ov] (getMethod ov m pl)
      callWith pos f first (backTo pos (starEach [] X.env)) (backToKw pos (keywordEach [] X.env))) := by rfl) : PET X (.Call (.Attribute o m apos) [] [] pos) (tMeth C m sp dvs E ta tNil) := by
  obtain ⟨f, fd, ps, ds, hC, hm, F, b, d⟩ := c.ex
  exact pet_meth0 (pl := pl) he hC hm F (hr.mono hk) b d hx ht
end
/-! ### while -/
theorem pst_whileT {X : Cx} {pos : Pos} {c : Expr} {body : List Stmt} {tc : TT} {tb : TS} (hp : PassesOwn (model X.prog X.w) X.A X.env X.xe) (hc : PTT X c tc) (hb : PSsT X body tb) : PST X (.While c body [] pos) (tWhile tc tb) := fun pins s σ H D h0 I h => by
  obtain ⟨W, ⟨m0, w0⟩, turn⟩ := h
  refine wpAny_While (codeAny_whileLoop (fun n s' => 1 ≤ s'.toks ∧ ∃ σ' H', Inv X pins σ' H' s' ∧ W n σ' H') ?_ m0 ⟨h0, σ, H, I, w0⟩)
  rintro n s1 ⟨k1, σ1, H1, I1, w1⟩
  refine wpAny_passesOwn hp (keepT k1 (hc pins s1 σ1 H1 _ k1 I1 (turn n σ1 H1 w1)) fun b s2 k2 ⟨H2, I2, q2⟩ => ?_)
  cases b with
  | true =>
    obtain ⟨N, hN, q2⟩ := q2
    rw [if_pos rfl]
    refine wpAny_passesOwn hp (keepT k2 (hb pins s2 σ1 H2 _ k2 I2 q2) fun f s3 k3 q3 => ?_)
    cases f with
    | next =>
      obtain ⟨σ3, H3, I3, n3⟩ := q3
      obtain ⟨m', hm, w3⟩ := hN σ3 H3 n3
      exact ⟨m', hm, k3, σ3, H3, I3, w3⟩
    | cont =>
      obtain ⟨σ3, H3, I3, n3⟩ := q3
      obtain ⟨m', hm, w3⟩ := hN σ3 H3 n3
      exact ⟨m', hm, k3, σ3, H3, I3, w3⟩
    | brk => exact q3
    | ret v => exact q3
  | false =>
    rw [if_neg Bool.false_ne_true]
    exact wpAny_execs_nil ⟨σ1, H2, I2, q2⟩
def aWhileX (c : aTT) (b : aTSX) : aTSX := fun Kx => aWhile c (b Kx)
section
variable {K : PySem.W.Frag} {W : WX} {n0 : Nat}
theorem simx_while {ca : aTT} {tt : TT} {s1 : aTSX} {t1 : TS} (hc : SimT K false ca tt) (hb : SimSX K n0 W s1 t1) : SimSX K n0 W (aWhileX ca s1) (tWhile tt t1) := fun {B s Da D Kx} h0 e x {sa σ} r gg h => by
  obtain ⟨I, ⟨m0, i0⟩, step⟩ := h
  refine ⟨fun k σ' H' => ∃ s2 sa2, s2.H = H' ∧ Rep K B s2 ∧ Grw s s2 ∧ SgR K s2 sa2 σ' ∧ I k sa2 s2.A, ⟨m0, s, sa, rfl, r, .refl _, gg, i0⟩, ?_⟩
  rintro k σ' H' ⟨s2, sa2, rfl, r2, g2, q2, k2⟩
  refine hc r2 q2 (fun t s3 e3 k3 => ?_) (step k sa2 s2.A k2)
  cases t with
  | true =>
    refine ⟨fun σ3 H3 => ∃ k', k' < k ∧ ∃ s4 sa4, s4.H = H3 ∧ Rep K B s4 ∧ Grw s s4 ∧ SgR K s4 sa4 σ3 ∧ I k' sa4 s4.A, fun σ3 H3 z => z, ?_⟩
    have st : ∀ (s4 : Cs) (sa4 : Sg) (σ4 : L2.St), Rep K B s4 → Grw s3 s4 → SgR K s4 sa4 σ4 → (∃ m', m' < k ∧ I m' sa4 s4.A) → ∃ k', k' < k ∧ ∃ s5 sa5, s5.H = s4.H ∧ Rep K B s5 ∧ Grw s s5 ∧ SgR K s5 sa5 σ4 ∧ I k' sa5 s5.A := fun s4 sa4 σ4 r4 g4 q4 ⟨m', h1, h2⟩ => ⟨m', h1, s4, sa4, rfl, r4, g2.trans (e3.grw.trans g4), q4, h2⟩
    exact hb (Da := { Da with nx := fun sa A => ∃ m', m' < k ∧ I m' sa A, ct := fun sa A => ∃ m', m' < k ∧ I m' sa A, bk := Da.nx }) (D := { D with nx := fun σ3 H3 => ∃ k', k' < k ∧ ∃ s4 sa4, s4.H = H3 ∧ Rep K B s4 ∧ Grw s s4 ∧ SgR K s4 sa4 σ3 ∧ I k' sa4 s4.A, ct := fun σ3 H3 => ∃ k', k' < k ∧ ∃ s4 sa4, s4.H = H3 ∧ Rep K B s4 ∧ Grw s s4 ∧ SgR K s4 sa4 σ3 ∧ I k' sa4 s4.A, bk := D.nx }) h0 ⟨st, fun s5 av v r5 g5 pv k => e.rt s5 av v r5 (g2.trans (e3.grw.trans g5)) pv k, fun s5 sa5 σ5 r5 g5 q5 k => e.nx s5 sa5 σ5 r5 (g2.trans (e3.grw.trans g5)) q5 k, st⟩ (x.grw (g2.trans e3.grw)) e3.rep (q2.stp e3) k3
  | false => exact e.nx s3 sa2 σ' e3.rep (g2.trans e3.grw) (q2.stp e3) k3
end
/-! ### lists and tuples of what lets exceptions out -/
abbrev aTNX := KX → Sg → Sto → (AO → Sto → Prop) → Prop
abbrev aTAX := KX → Sg → Sto → (List AV → Sto → Prop) → Prop
def SimNX (K : PySem.W.Frag) (W : WX) (a : aTNX) (t : TE) : Prop := ∀ ⦃B : Bs⦄ ⦃s : Cs⦄ ⦃sa : Sg⦄ ⦃σ : L2.St⦄, Rep K B s → SgR K s sa σ → ∀ ⦃Kx : KX⦄ ⦃Kc : AO → Sto → Prop⦄ ⦃Q : VK⦄, ExR K B s W Kx → (∀ o v fp s', Stp K B false s s' → NewAt K s s' o v fp → Kc o s'.A → Q v s'.H) → a Kx sa s.A Kc → t σ s.H Q
def SimAX (K : PySem.W.Frag) (W : WX) (a : aTAX) (t : TA) : Prop := ∀ ⦃B : Bs⦄ ⦃s : Cs⦄ ⦃sa : Sg⦄ ⦃σ : L2.St⦄, Rep K B s → SgR K s sa σ → ∀ ⦃Kx : KX⦄ ⦃Kc : List AV → Sto → Prop⦄ ⦃Q : List V → Hp → Prop⦄, ExR K B s W Kx → (∀ avs vs s', Stp K B false s s' → Paired (avR K s') avs vs → Kc avs s'.A → Q vs s'.H) → a Kx sa s.A Kc → t σ s.H Q
section
variable {K : PySem.W.Frag} {W : WX} {n0 : Nat} {a : aTEX} {t ta : TE}
def aOneX (a : aTEX) : aTAX := fun Kx sa A k => a Kx sa A fun x A1 => k [x] A1
theorem simxA_one (ha : SimEX K W a t) : SimAX K W (aOneX a) (tCons t tNil) := fun {B s sa σ} rp g {Kx Kc Q} x q h =>
  ha rp g x (fun av v s1 e1 px k => q [av] [v] s1 e1 (.cons px .nil) k) h
theorem simxA_cons {c : aTE} {tc : TE} {r : aTAX} {tr : TA} (hs : Stb c) (hc : SimE K false c tc) (hr : SimAX K W r tr) : SimAX K W (fun Kx => aCons c (r Kx)) (tCons tc tr) := fun {B s sa σ} rp g {Kx Kc Q} x q h =>
  hc rp g (fun y v s1 e1 p k => hr e1.rep (g.stp e1) (x.grw e1.grw) (fun xs vs s2 e2 ps k' => q (y :: xs) (v :: vs) s2 (e1.trans e2) (.cons (p.stpS k.1 e2) ps) k') k.2) (hs sa s.A _ h)
theorem simx_tup {r : aTAX} {tr : TA} (ha : SimAX K W r tr) : SimEX K W (fun Kx => aTup (r Kx)) (tTup tr) := fun {B s sa σ} rp g {Kx Kc Q} x q h =>
  ha rp g x (fun xs vs s1 e1 ps k => by
    cases e : pvs xs with
    | none => simp only [e] at k
    | some qs =>
      simp only [e] at k
      have al := pvs_al ps e
      refine ⟨by rw [← al.length, rPs_len]; exact Nat.le_trans k.1 (by decide), fun p hp => ?_⟩
      have c := Gr.new (W := []) e1.rep.le (o := .tup vs) hp
      exact q (.pv (.tup qs)) _ _ (e1.trans (.of e1.rep c)) ⟨p, vs, rfl, .of upd_same, al.mono c.gg⟩ k.2) h
theorem simx_lst {r : aTAX} {tr : TA} (ha : SimAX K W r tr) : SimNX K W (fun Kx => aLst (r Kx)) (tLst tr) := fun {B s sa σ} rp g {Kx Kc Q} x q h =>
  ha rp g x (fun xs vs s1 e1 ps k => by
    cases e : pvs xs with
    | none => simp only [e] at k
    | some qs =>
      simp only [e] at k
      have al := pvs_al ps e
      refine ⟨by rw [← al.length, rPs_len]; exact Nat.le_trans k.1 (by decide), fun p hp => ?_⟩
      have c := Gr.own (W := []) e1.rep.le (o := .lst vs) hp
      refine q (.lst qs) (.ref p) [p] _ (e1.trans (.of e1.rep c)) ⟨⟨p, vs, rfl, rfl, upd_same, al⟩, by simp, fun b hb => ?_, fun b hb => ?_, fun b hb n hn z => ?_⟩ k.2
      · rw [List.mem_singleton.mp hb]; exact e1.back hp
      · rw [List.mem_singleton.mp hb]; exact e1.rep.le.free hp
      · rw [List.mem_singleton.mp hb] at z
        exact e1.rep.there hn p z hp) h
theorem simx_fz {a : aTNX} (h : SimNX K W a ta) : SimEX K W (fun Kx => aFz (a Kx)) ta := fun {B s sa σ} rp g {Kx Kc Q} x q hh =>
  h rp g x (fun o v fp s1 e1 n k => by
    cases e : o.fz with
    | none => simp only [e] at k
    | some p =>
      simp only [e] at k
      have nx := aoR_nx n.is
      have r2 := e1.rep.frz n.off (fun b hb => rp.back (n.nw b hb)) nx
      exact q (.pv p) v { s1 with G := frzH fp s1.G s1.H } ⟨e1.le.trans (le_frzH e1.rep.le), e1.pre, e1.dm, fun z => (nomatch z), r2⟩ (fz_ok n.is e fp (fun _ z => z) e1.rep.le) k) hh
def aAsgNX (i : Nat) (e : aTNX) : aTSX := fun Kx => aAsgN i (e Kx)
theorem simx_asgN {i : Nat} {e' : aTNX} (ha : SimNX K W e' ta) : SimSX K n0 W (aAsgNX i e') (tAsg ta (gName i)) := fun {B s Da D Kx} h0 e x {sa σ} r gg h =>
  ha r gg x (fun o v fp s1 e1 n k => by
    have r2 := e1.rep.push n.is n.nd n.off n.out fun b hb => r.back (n.nw b hb)
    have g2 : Grw s1 { s1 with ι := s1.ι ++ [v], φ := fun i => if i = s1.A.length then fp else s1.φ i, A := s1.A ++ [o] } := ⟨Le.refl _, List.prefix_append _ _⟩
    refine e.nx { s1 with ι := s1.ι ++ [v], φ := fun i => if i = s1.A.length then fp else s1.φ i, A := s1.A ++ [o] } _ _ r2 (e1.grw.trans g2) (((gg.stp e1).grw g2).set i (a := .loc s1.A.length []) ?_) k
    show (s1.ι ++ [v])[s1.A.length]? = some v
    rw [← e1.rep.len, List.getElem?_append_right (Nat.le_refl _), Nat.sub_self]
    rfl) h
def aIfX (c : aTT) (a b : aTEX) : aTEX := fun Kx => aIf c (a Kx) (b Kx)
theorem simx_if {ca : aTT} {tt : TT} {b : aTEX} {tb : TE} (hc : SimT K false ca tt) (ha : SimEX K W a ta) (hb : SimEX K W b tb) : SimEX K W (aIfX ca a b) (tIf tt ta tb) := fun {B s sa σ} rp g {Kx Kc Q} x q hh =>
  hc rp g (fun v s1 e1 k => by
    cases v with
    | true => exact ha e1.rep (g.stp e1) (x.grw e1.grw) (fun y vy s2 e2 py k => q y vy s2 (e1.trans e2) py k) k
    | false => exact hb e1.rep (g.stp e1) (x.grw e1.grw) (fun y vy s2 e2 py k => q y vy s2 (e1.trans e2) py k) k) hh
def aAppX (a : aTE) (e : aTEX) : aTEX := fun Kx => aApp a (e Kx)
theorem simx_app {ea : aTE} {e : aTEX} {te : TE} (hs : Stb ea) (ha : SimE K false ea ta) (he : SimEX K W e te) : SimEX K W (aAppX ea e) (tBM K "list" rAppend ta (tCons te tNil)) := fun {B s sa σ} rp gg {Kx Kc Q} xx q h =>
  ha rp gg (fun x vx s1 e1 px k => by
    obtain ⟨st, k⟩ := k
    split at k
    · rename_i n p
      obtain ⟨ys, k0, k⟩ := k
      obtain ⟨fp, ⟨d, vs, h1, h2, h3, h4⟩, _⟩ := e1.rep.sub px k0
      refine ⟨by rw [h1]; exact .inl ⟨rfl, vs, .of h3⟩, he e1.rep (gg.stp e1) (xx.grw e1.grw) (fun y vy s2 e2 py k => ?_) k⟩
      split at k
      · rename_i w
        obtain ⟨xs, k1, k2, k3⟩ := k
        exact app_ok e2.rep (e1.off.trans e2.off) (px.stpS st e2) py k1 k2 k3 q
      · exact k.elim
    · exact k.elim) (hs sa s.A _ h)
/-! ### o.m() -/
theorem simx_methC {ea : aTE} {C : Addr} {mt : Str} {ac : ACX} {E : XK} (ha : SimE K false ea ta) : SimEX K (fun cls d _ H => E cls d H) (aMeth1X C mt ac ea aNil) (tMeth C mt (spX K ac) [] E ta tNil) := fun {B s sa σ} rp g {Kx Kc Q} x q h =>
  simx_meth1 (W := fun cls d _ H => E cls d H) ha sim_nil rp g x q h
end
/-! ### more forms where a token is out -/
section
variable {X : Cx} {es : List Expr} {t : TA} {pos : Pos} {tt : TT} {a b c : Expr} {ta tb : TE}
theorem pet_tupM {x1} (h : PAT X es t) : PET X (.Tuple es x1 pos) (tTup t) := by
  intro pins s σ H Q h0 I hq
  refine wpAny_Tuple_spliced (thn (h pos pins s σ H _ h0 I hq) fun us s1 ⟨xs, H1, I1, r, z, q⟩ => ⟨by rw [← r.length]; exact z, ?_⟩)
  exact ⟨.ref s1.heap.objs.size, upd H1 s1.heap.objs.size (.tup xs), I1.laid (t' := s1.toks) (fun b u e => Heap.get?_push_of_some _ e) (Nat.le_refl _) ⟨z, us, r, _, Heap.get?_push_size _ rfl, rfl, _, rfl⟩, rfl, q _ (I1.hok.fresh (Nat.le_refl _))⟩
theorem pet_ifM (hc : PTT X c tt) (ha : PET X a ta) (hb : PET X b tb) : PET X (.IfExp c a b pos) (tIf tt ta tb) := by
  intro pins s σ H Q h0 I h
  refine wpAny_IfExp (wpAny_mono (PySem.wpAny_toks_of h0 (hc pins s σ H _ h0 I h)) (fun d s1 ⟨hk, H1, I1, q1⟩ => ?_) fun _ _ z => z.2)
  cases d with
  | true => exact ha pins s1 σ H1 Q hk I1 q1
  | false => exact hb pins s1 σ H1 Q hk I1 q1
end
section
variable {X : Cx} {o e : Expr} {es : List Expr} {to : TE} {t : TA} {name : Str} {apos cpos : Pos} {T id : String} {r : V → List V → Hp → VK → Prop}
theorem pet_bmH (pa : PlainAttrs T) (slot : Slot T name id) (hty : typeOf (.builtin id) = pure (.type "method_descriptor")) (hm : MtM X id r) (ho : PE X o to) (ha : PAT X (e :: es) t)
    (hbase : attributeBase o name X.env (eval o X.env) = eval o X.env := by rfl)
    (hfew : ((backTo cpos (starEach (e :: es) X.env)).all (fun x => !x.1) && (backToKw cpos (keywordEach [] X.env)).all (fun x => x.1.isSome)
      && decide ((e :: es).length + ([] : List Keyword).length + (if ([] : List Keyword).isEmpty then 0 else 1) < 30)) = true := by rfl)
    (hline : (apos.endLine == cpos.line) = true := by rfl) (hs : starEach (e :: es) X.env = (false, eval e X.env) :: starEach es X.env := by rfl) (hplain : (backTo cpos (starEach es X.env)).any (·.1) = false := by rfl) :
    PET X (.Call (.Attribute o name apos) (e :: es) [] cpos) (tBM X.K T r to t) := by
  intro pins s σ H Q h0 I h
  refine wpAny_Call_method_late hbase hfew hline rfl (keepT h0 (ho.run pins s σ H _ I h) fun v s1 k1 z => ?_)
  obtain ⟨x, H1, I1, r1, ty, q1⟩ := z
  obtain ⟨h1, h2⟩ := tyV_is I1 r1 ty
  refine ⟨T, id, pa, slot, hty, h1, h2, ?_⟩
  have hA := ha cpos pins s1 σ H1 _ k1 I1 q1
  rw [hs] at hA ⊢
  refine Calls.callWith_builtin (by show (false || (backTo cpos (starEach es X.env)).any (·.1)) = false; rw [hplain] <;> rfl) (Calls.evalArgs_plain ?_)
  exact thn hA fun us s2 ⟨vs, H2, I2, r2, q2⟩ => hm pins s2 σ H2 x vs v us Q I2 r1 r2 q2
end
section
variable {X : Cx} {a b : Expr} {ta tb : TE} {rest : List Expr} {pos : Pos}
theorem pet_one {op} {t : TE} (h : PET X a t) : PET X (.BoolOp op [a] pos) t := fun pins s σ H Q h0 I hw => BoolOp_one (h pins s σ H Q h0 I hw)
theorem pet_and (ha : PET X a ta) (hb : PET X (.BoolOp .And (b :: rest) pos) tb) : PET X (.BoolOp .And (a :: b :: rest) pos) (tAndV ta tb) := by
  intro pins s σ H Q h0 I h
  refine BoolOp_and (keepT h0 (ha pins s σ H _ h0 I h) fun v s1 k1 ⟨x, H1, I1, r1, q1⟩ => ?_)
  obtain ⟨c, rfl, q1⟩ := q1
  cases r1
  refine wpAny_truthy_bool ?_
  cases c with
  | true => exact hb pins s1 σ H1 Q k1 I1 q1
  | false => exact ⟨.bl false, H1, I1, rfl, q1⟩
end
/-! ### own exceptions with one value by its name -/
structure ExcN1 (P : Program) (w : World) (K : PySem.W.Frag) (mg : Str → Option Value) (base : Heap) (x : Str) (C : Addr) (f : Str) : Prop where
  hm : mg x = some (.ref C)
  ok : OexC K C
  hf : PySem.W.findIn K (.ref C) f = some none
  ex : ∃ (fI : Addr) (fd : FuncData) (g : List Value → List Value → List Value), PySem.W.findIn K (.ref C) "__init__" = some (some (.ref fI)) ∧ PySem.W.typeIn K (.ref fI) = some (.type "function") ∧ FnOk P w K mg base CX0 1 fI fd ["self", f] (sp_one K f) ∧ FnHT P w K mg base CX0 1 fI fd ["self", f] (sp_one K f) ∧ KBn K fd ["self", f] 1 [f] g gOne
section
variable {X : Cx} {j : Nat} {x f : Str} {C : Addr} {kws : List Keyword} {p pos : Pos} {tk : TA}
theorem pmk_exoN (T : ExcN1 X.prog X.w X.K X.mg X.base x C f) (hr : Room j X.A) (hj : 2 ≤ j) (hg : Gl X x) (hkw : PK X kws tk)
    (hdb : (x == ("__debug__" : Str)) = false := by decide) (hall : (backToKw pos (keywordEach kws X.env)).all (·.1.isSome) = true := by rfl) (hks : (backToKw pos (keywordEach kws X.env)).filterMap (·.1) = [f] := by rfl)
    (hpl : ((backTo pos (starEach [] X.env)).any (·.1) || (backToKw pos (keywordEach kws X.env)).any (·.1.isNone)) = false := by rfl) :
    L2N.PMk X (.Call (.Name x p) [] kws pos) (tMkK C (sp_one X.K f) 1 gOne tk) := by
  obtain ⟨fI, fd, g, iC, tI, F1, _, hb⟩ := T.ex
  exact pmk_oexKN T.ok iC tI F1 (hr.mono hj) hb (fun _ _ _ _ _ _ _ h => h.elim) hg T.hm hkw hdb hall hks hpl
theorem pmk_exoH (T : ExcN1 X.prog X.w X.K X.mg X.base x C f) (hr : RoomH j X.A) (hc : HotC X) (hj : 2 ≤ j) (hg : Gl X x) (hkw : PK X kws tk)
    (hdb : (x == ("__debug__" : Str)) = false := by decide) (hall : (backToKw pos (keywordEach kws X.env)).all (·.1.isSome) = true := by rfl) (hks : (backToKw pos (keywordEach kws X.env)).filterMap (·.1) = [f] := by rfl)
    (hpl : ((backTo pos (starEach [] X.env)).any (·.1) || (backToKw pos (keywordEach kws X.env)).any (·.1.isNone)) = false := by rfl) :
    PMkT X (.Call (.Name x p) [] kws pos) (tMkK C (sp_one X.K f) 1 gOne tk) := by
  obtain ⟨fI, fd, g, iC, tI, _, F1, hb⟩ := T.ex
  exact pmk_oexKH T.ok iC tI F1 (hr.mono hj) hc hb (fun _ _ _ _ _ _ _ h => h.elim) hg T.hm hkw hdb hall hks hpl
end
/-! ### o.f -= d -/
def aFSub (C : Addr) (f : Str) (a : aTE) (d : Int) : aTS := fun D sa A => a sa A fun x A1 => match x with
  | .loc n p => ∃ fs i, aoAt A1 n p = some (.ins C fs) ∧ fs.lookup f = some (.pv (.v (.int i))) ∧ fs.length < 1000 ∧ D.nx sa (aoSet A1 n p (.ins C (putFo f (.pv (.v (.int (i - d)))) fs)))
  | _ => False
section
variable {K : PySem.W.Frag} {n0 : Nat}
theorem sim_fsub {C : Addr} {f : Str} {a : aTE} {ta : TE} {d : Int} (hc : Cls K C) (hn : NoAttr K C f) (ha : SimE K false a ta) : SimS K n0 (aFSub C f a d) (sFldAug K ta (tC (.int d)) rSub f) := fun {B s Da D} h0 ed {sa σ} rp gg h =>
  ha rp gg (fun x vx s1 e1 px k => by
    split at k
    · rename_i n p
      obtain ⟨fs, i, k1, k2, k3, k4⟩ := k
      obtain ⟨fp, ⟨dd, dx, vs, fq, h1, h2, h3, h4⟩, _⟩ := e1.rep.sub px k1
      obtain ⟨v, _, fo, _, hv, _, ho, _⟩ := foR_get h4 k2
      obtain rfl : v = .int i := by
        exact ho.2
      obtain ⟨s', r', g', hA, hH⟩ := put_fld (f := f) (o := .pv (.v (.int (i - d)))) (fo := []) (w := .int (i - d)) e1.rep px k1 h1 h3 ⟨rfl, rfl⟩ List.nodup_nil (fun b hb => (nomatch hb)) (fun b hb => (nomatch hb)) (fun b hb => (nomatch hb))
      refine ⟨dd, C, dx, vs, _, h1, h3, hc, hn, hv, i, d, rfl, rfl, dx, vs, h3, by rw [foR_len h4]; exact k3, ?_⟩
      rw [← hH]
      exact ed.nx s' sa σ r' (e1.grw.trans g') ((gg.stp e1).grw g') (by rw [hA]; exact k4)
    · exact k.elim) h
end
/-! ### loops within expressions whose source lets exceptions out -/
section
variable {K : PySem.W.Frag} {W : WX} {n0 : Nat} {a : aTEX} {ta : TE} {ml : Bool}
abbrev aTIX := KX → aTI
def SimIX (K : PySem.W.Frag) (W : WX) (ml : Bool) (a : aTIX) (t : TI) : Prop := ∀ ⦃B : Bs⦄ ⦃s : Cs⦄ ⦃sa : Sg⦄ ⦃σ : L2.St⦄, Rep K B s → SgR K s sa σ → ∀ ⦃Kx : KX⦄ ⦃Kc : List PV → (Sto → Prop) → Sto → Prop⦄ ⦃R : It → Hp → Prop⦄, ExR K B s W Kx → (∀ xs C J s', Stp K B false s s' → WalkA K B ml J s' xs C → C s'.A → Kc xs C s'.A → R J s'.H) → a Kx sa s.A Kc → t σ s.H R
theorem simx_ilist (ha : SimEX K W a ta) : SimIX K W ml (fun Kx => aIList (a Kx)) (iList K ta) := fun {B s sa σ} rp g {Kx Kc R} xx q hh =>
  ha rp g xx (fun x v s1 e1 px k => by
    split at k
    · rename_i xs
      obtain ⟨d, vs, rfl, h3, h4⟩ := px
      have at' : ∀ s, Rep K B s → Lat ml s1 s → True → ∃ vs, SqL K s.H d vs ∧ Al s.G (rPs K xs) vs := fun s r l _ => ⟨vs, .of (r.le.at (l.grw.le.at h3 nf_lst fun z => z) nf_lst fun z => z), h4.mono l.grw.le⟩
      obtain ⟨vs', z1, _⟩ := at' s1 e1.rep (.refl s1) trivial
      exact ⟨d, rfl, ⟨vs', z1⟩, q xs _ _ s1 e1 (walk_lst at') trivial k⟩
    · rename_i n
      obtain ⟨xs, h1, h2⟩ := k
      obtain ⟨r0, z1, z2⟩ := px
      have z2 : v = r0 := z2
      subst z2
      have at' : ∀ s, Rep K B s → Lat ml s1 s → s.A[n]? = some (.lst xs) → ∃ d vs, v = .ref d ∧ SqL K s.H d vs ∧ Al s.G (rPs K xs) vs := fun s r l hc => by
        obtain ⟨w, y1, d, vs, y2, y3, y4, y5⟩ := r.at' n _ hc
        rw [pre_get l.grw.pre z1] at y1
        cases y1
        exact ⟨d, vs, y2, .of y4, y5⟩
      obtain ⟨d, vs', z3, z4, _⟩ := at' s1 e1.rep (.refl s1) h1
      refine ⟨d, z3, ⟨vs', z4⟩, q xs _ _ s1 e1 (walk_lst fun s r l hc => ?_) h1 h2⟩
      obtain ⟨d', vs, y1, y2, y3⟩ := at' s r l hc
      rw [z3] at y1
      cases y1
      exact ⟨vs, y2, y3⟩
    · exact k.elim) hh
theorem simx_lc {wi : aTIX} {ti : TI} {g : aTG} {tg : TG} {vs : List Nat} {ca : aTT} {tt : TT} {e : aTE} {te : TE} (hi : SimIX K W false wi ti) (hg : NamesG K vs g tg) (hc : SimT K false ca tt) (he : SimE K false e te) : SimNX K W (fun Kx => aLc (wi Kx) g ca e vs) (tLc ti tg tt te vs) := fun {B s sa σ} rp gg {Kx Kc Q} x q hh =>
  lc_at rp gg (fun _ _ z => hi rp gg x z) hg hc he q hh
end
/-! ### enumerate(list) while an exception is handled -/
section
variable {P : Program} {w : World} {K : PySem.W.Frag}
theorem turn_enumH {elts : List Expr} {kk : Nat} {tpos : Pos} (a e it : Addr) :
    TurnH P w K (.Tuple elts kk tpos) (Ite K a) [e, it] e (fun i h => (∃ old, IsEnum h e it ((i : Nat) : Int) old) ∧ h.IsListIter it a i ∧ e ≠ it ∧ a ≠ it ∧ a ≠ e) where
  mem := by simp
  obj := fun i h st => (turn_enum (P := P) (w := w) (K := K) (elts := elts) (kk := kk) (tpos := tpos) a e it).obj i h ⟨st.1, st.2.1, st.2.2.1⟩
  keep := fun i h h' st k => let z := (turn_enum (P := P) (w := w) (K := K) (elts := elts) (kk := kk) (tpos := tpos) a e it).keep i h h' ⟨st.1, st.2.1, st.2.2.1⟩ k; ⟨z.1, z.2.1, z.2.2, st.2.2.2⟩
  item := by
    intro X hP hw hK hc i pins s σ H E I hf st hg
    subst hP hw hK
    obtain ⟨⟨old, he⟩, hit, hne, ha1, ha2⟩ := st
    obtain ⟨xs, x, hq, hx⟩ := hg
    obtain ⟨its, rv, p, hz⟩ := I.list hq
    obtain ⟨u, hu, ru⟩ := rv.get hx
    obtain ⟨x1, hot⟩ := hc.at I
    have hel : e < s.heap.objs.size := Heap.lt_size he
    have hil : it < s.heap.objs.size := by obtain ⟨_, q, _⟩ := hit; exact Heap.lt_size q
    have hlt : i < its.toArray.size := by simpa using (List.getElem?_eq_some_iff.mp hu).1
    have nx : x1 ≠ e := hot_ne2 hot he rfl (fun z => by
      have z : some (Value.ref it) = some Value.none := z
      cases z)
    refine wpAny_pyNext_enum_itemD (draws_listH (A := X.A.in1) (x1 := x1) it a ha1 its.toArray) he ⟨hit, p.isList, hot_at1 hot⟩ hlt hne (by simp [hne, Ne.symm ha2, Ne.symm nx]) fun y h' tk hy ho st' hT hsz hk => ?_
    have ey : y = u := by
      have hy : its.toArray[i]? = some y := hy
      rw [List.getElem?_toArray, hu] at hy
      exact (Option.some.inj hy).symm
    subst ey
    refine ⟨_, rfl, wpAny_letOwnedTupleGo_enum (s := { s with heap := h', toks := tk + 1 }) ho fun h'' he' sb => ?_⟩
    have hT2 : h''.get? s.heap.objs.size = some { cls := .type "tuple", data := .seq #[.int i tk, y] } := (sb.2 _ (Nat.ne_of_gt hel)).trans hT
    have new : ObjOk X.prog X.w (upd H s.heap.objs.size (.tup [.int (i : Nat), x])) h'' s.heap.objs.size (.tup [.int (i : Nat), x]) :=
      ⟨by show 2 ≤ sizeLine; decide, [.int i tk, y], .cons ⟨_, rfl⟩ (.cons ru .nil), ⟨_, hT2, rfl, _, rfl⟩⟩
    have I1 : Inv X pins σ (upd H s.heap.objs.size (.tup [.int (i : Nat), x])) { s with heap := h'', toks := tk + 1 } :=
      I.turnedNew (ch := [e, it]) (fun b ob hb q => (sb.2 b (fun z => hb (by simp [z]))).trans (hk b ob (fun z => hb (by simp [z])) (fun z => hb (by simp [z])) q)) hf (Nat.le_refl _) new
    refine ⟨.ref s.heap.objs.size, _, I1, rfl, ⟨_, x, rfl, I.hok.fresh (Nat.le_refl _), rfl, fun ys hy => by rw [I.list_inj hy hq]; exact hx⟩, ⟨⟨y, ?_⟩, st'.1.at fun o q => (sb.2 it (Ne.symm hne)).trans q, hne, ha1, ha2⟩, fun b hb => ?_⟩
    · have e1 : ((i + 1 : Nat) : Int) = (i : Int) + 1 := by omega
      rw [e1]; exact he'
    · have hb' : b < s.heap.objs.size := by
        rcases List.mem_cons.mp hb with z | z
        · rw [z]; exact hel
        · rw [List.mem_singleton.mp z]; exact hil
      rw [upd_ne (Nat.ne_of_lt hb')]
      exact (hf b hb).1
  done := by
    intro X hP hw hK hc i pins s σ H E I hf st hg
    subst hP hw hK
    obtain ⟨⟨old, he⟩, hit, hne, ha1, ha2⟩ := st
    obtain ⟨xs, hq, hx⟩ := hg
    obtain ⟨its, rv, p, hz⟩ := I.list hq
    obtain ⟨f0, f1, f2, f3, f4, f5⟩ := hf it (by simp)
    obtain ⟨x1, hot⟩ := hc.at I
    have hl := rv.length
    exact next_enum_end_hot he (fun hE => nextOf_list_end_hot (hot_at1 hot) hit p.isList (by rw [List.getElem?_toArray, List.getElem?_eq_none]; omega) hE) fun h' eb => ⟨rfl, I.turned (t' := s.toks) (fun b o hb q => eb b o hb q) f0 f1 f3 f4 f5⟩
  self := fun A i s Q E st h => let ⟨⟨_, he⟩, _⟩ := st; wpAny_pyIter_enum he h
theorem pih_enum {X : Cx} {e : Expr} {ta : TA} {p pos tpos : Pos} {elts : List Expr} {kk : Nat} (hg : Gl X "enumerate") (hm : X.mg "enumerate" = none) (ha : PAT X [e] ta) (hs : starEach [e] X.env = [(false, eval e X.env)] := by rfl) :
    PITH X (.Tuple elts kk tpos) (.Call (.Name "enumerate" p) [e] [] pos) (iEnum X.K ta) := fun pins s σ H R h0 I h => by
  refine wpAny_with_toks (n := 1) h0 (Call_ (ld_blt I hg hm boot_enumerate (PyProof.Rows.callWith_type1 (keepM h0 (ha pos pins s σ H _ h0 I h) (fun us s1 k1 ⟨vs, H1, I1, r1, a, xs, ex, hq, q⟩ => ?_) fun e s' z => fun _ => z) hs rfl)))
  subst ex
  rw [Vals.ref1 r1]
  obtain ⟨its, rv, p', hz⟩ := I1.list hq
  have al : a < s1.heap.objs.size := p'.lt
  refine call_enumerate_list p'.isList fun h' he hit hsz hk _ => wpAny_pyIter_enum he ?_
  refine ⟨s1.heap.objs.size + 1, [s1.heap.objs.size + 1, s1.heap.objs.size], _, _, H1, rfl, I1.kept (t' := s1.toks) hk, turn_enumH a (s1.heap.objs.size + 1) s1.heap.objs.size, ⟨⟨.none, he⟩, hit, Nat.succ_ne_self _, Nat.ne_of_lt al, Nat.ne_of_lt (Nat.lt_succ_of_lt al)⟩, fun b hb => ?_, q⟩
  have hle : s1.heap.objs.size ≤ b := by
    rcases List.mem_cons.mp hb with z | z
    · rw [z]; exact Nat.le_succ _
    · rw [List.mem_singleton.mp z]; exact Nat.le_refl _
  exact I1.fpOk hle (I1.hok.fresh hle)
end
/-! ### cold and hot at once -/
section
variable {P : Program} {w : World} {K : PySem.W.Frag} {mg : Str → Option Value} {base : Heap} {x qual : Str} {params : Arguments} {body : List Stmt} {scope : Scope} {f : Addr} {fd : FuncData} {N ps : List Str} {k n0 : Nat} {ac : ACX} {dvs : List V} {kws : List (Str × V)}
theorem fnB (F : FunD K x qual params body scope dvs kws f fd) (S : FnScope N ps scope) {at' : aTSX} (hlen : ∀ avs A Kc Kx, ac avs A Kc Kx → avs.length = ps.length ∧ A.length = n0)
    (hb : ∀ (cdv : Value) (A : Around) (outer : List PySem.Env) (s : Shared) (H : Hp) (E : XK), Room k (A.deeper (envOfC qual scope s.heap.objs.size f cdv)) → L2N.Takes (cxOf (L2N.CX P w) P w K mg base N qual scope f cdv A outer s H E) (fun cls d _ H => E cls d H) → ∃ t, PSsT (cxOf (L2N.CX P w) P w K mg base N qual scope f cdv A outer s H E) body t ∧ SimSX K n0 (fun cls d _ H => E cls d H) at' t)
    (hh : ∀ (cdv : Value) (A : Around) (outer : List PySem.Env) (s : Shared) (H : Hp) (E : XK) (p : Addr × Obj), RoomH k (A.deeper (envOfC qual scope s.heap.objs.size f cdv)) → HotC (cxH (L2.CX P w) P w K mg base N qual scope f cdv A outer s H E p) → Takes (cxH (L2.CX P w) P w K mg base N qual scope f cdv A outer s H E p) (fun cls d _ H => E cls d H) → ∃ t, PSsT (cxH (L2.CX P w) P w K mg base N qual scope f cdv A outer s H E p) body t ∧ SimSX K n0 (fun cls d _ H => E cls d H) at' t)
    (hrun : ∀ avs A Kc Kx, ac avs A Kc Kx → at' (fun e _ A' => Kx e (A'.take n0)) (aEnd n0 Kc) (startA N avs) A) :
    FnT P w K mg base (L2N.CX P w) (k + 1) f fd ps (spX K ac) ∧ FnHT P w K mg base (L2.CX P w) (k + 1) f fd ps (spX K ac) := ⟨fnXNT F S hlen hb hrun, fnXHT F S hlen hh hrun⟩
end
end TH
/-! A lambda without arguments, handed to a def that calls it within a try, while an exception is handled. -/
namespace TH
open PySem PySem.Spec PyProof.Rows L2 HotX L2H LamX NdefX
variable [TC : TabC]
/-- the lambda's context -/
def lamCxH (X : Cx) (A : Around) (outer : List Env) (s : Shared) (H : Hp) (E : XK) (scope : Scope) (f c' : Addr) (p : Addr × Obj) : Cx := { lamCx X A outer s H E scope f c' with calm := false, pn := [p] }
section
variable {X : Cx} {pins : List (Addr × Obj)} {σ : L2.St} {H HZ : Hp} {s s1 : Shared}
theorem lam_startNH {A : Around} {outer : List Env} {E : XK} {scope : Scope} {f d : Addr} {h₁ : Heap} {tk : Nat} {m : Str → Option Value} (I : Inv X pins σ H s) (L : LamN X.N X.env.scope scope) (e0 : Env0 X.prog X.w X.K X.mg X.base A outer s1 HZ) {p : Addr × Obj} (hpin : PinOk outer HZ s1 p)
    (un : Un (frs X.stack) [] H HZ s.heap s1.heap) (hns : h₁.Ns s1.heap.objs.size m) (kp : ∀ b o, s1.heap.get? b = some o → h₁.get? b = some o) :
    Inv (lamCxH X A outer s1 HZ E scope f d p) [] σ HZ { s1 with heap := h₁, toks := tk } := by
  have hfree := L.has I.ok
  have cm : ∀ {y c}, (cloFrom X.env.cells scope.names []).lookup y = some c → X.env.cells.lookup y = some c := fun {y c} e => by
    rcases cloFrom_mem (PySem.mem_of_lookup e) with hm | ⟨h1, h2⟩
    · cases hm
    · obtain ⟨c1, hc⟩ := hfree _ h1 rfl
      have hc : X.env.cells.lookup y = some c1 := hc
      have e2 : c = c1 := by
        rw [h2, hc] <;> rfl
      rw [e2]
      exact hc
  have look : ∀ {y}, scope.names.lookup y = some .free → ∃ c, (cloFrom X.env.cells scope.names []).lookup y = some c := fun {y} hl => by
    have hy : (y, NameKind.free) ∈ scope.names := PySem.mem_of_lookup hl
    exact mem_lookup (cloFrom_has (cells := X.env.cells) (acc := []) hy)
  have cellK : ∀ {c : Addr} {v : Option Value}, H c = none → s.heap.IsCell c v → h₁.IsCell c v := fun {c v} n ⟨o, ho, hd⟩ => by
    obtain ⟨sl, q⟩ := un.any ho n (by simp)
    exact ⟨_, kp _ _ q, hd⟩
  have noA : ∀ b : Addr, b ∉ (lamCxH X A outer s1 HZ E scope f d p).ex := fun b z => absurd (show b ∈ ([] : List Addr) from z) (by simp)
  have pinq : ∀ q ∈ (lamCxH X A outer s1 HZ E scope f d p).pn ++ ([] : List (Addr × Obj)), h₁.get? q.1 = some q.2 ∧ HZ q.1 = none ∧ q.1 ≠ (lamCxH X A outer s1 HZ E scope f d p).env.locals ∧ q.1 ∉ (lamCxH X A outer s1 HZ E scope f d p).fs ∧ ∀ v, q.2.data ≠ .cell v := fun q hq => by
    have eq : q = p := by simpa using (show q ∈ [p] ++ ([] : List (Addr × Obj)) from hq)
    rw [eq]
    exact ⟨kp p.1 p.2 hpin.get, hpin.free, Nat.ne_of_lt (Heap.lt_size hpin.get), hpin.nofs, hpin.nocell⟩
  refine ⟨⟨e0.mod, L.kind, rfl, rfl, Nat.le_refl _, fun y z c e1 e2 => I.ok.inj y z c (cm e1) (cm e2), fun y hy => ?_, fun y c z _ => ?_, (fun z => Bool.noConfusion (show false = true from z)), Around.frames_deeper e0.frames, .inr ⟨rfl, rfl⟩, fun b z => absurd z (noA b), e0.bs, e0.bsz, fun b _ _ => noA b,
      fun b z => absurd z (noA b), e0.funs, e0.frf⟩,
    rfl, e0.bare, Un.kept kp, ⟨_, hns, fun i y v e1 e2 e3 => ?_⟩, fun y c e => ?_, e0.hok.fresh (Nat.le_refl _), fun y c e => ?_, pinq, e0.hok.kept kp, I.len⟩
  · have hy : scope.names.lookup y = some .cell ∨ scope.names.lookup y = some .free := hy
    rcases hy with hy | hy
    · exact absurd rfl (L.own _ (PySem.mem_of_lookup hy)).1
    · exact look hy
  · have z : false = true := z
    cases z
  · have e3 : Vis scope y := e3
    have e1 : X.N[i]? = some y := e1
    rcases e3 with k | k | k
    · exact absurd (List.mem_of_getElem? e1) ((L.own _ (PySem.mem_of_lookup k)).2 rfl)
    · exact absurd rfl (L.own _ (PySem.mem_of_lookup k)).1
    · obtain ⟨m, hn, hl⟩ := I.loc
      have hvis : Vis X.env.scope y := (L.free _ (PySem.mem_of_lookup k) rfl).elim (fun k => .inr (.inl k)) (fun k => .inr (.inr k))
      obtain ⟨w', r, q⟩ := hl i y v e1 e2 hvis
      obtain ⟨c2, h2⟩ := look k
      refine ⟨w', r, .inr ⟨.inr k, c2, h2, ?_⟩⟩
      have c1 := cm h2
      rcases q with ⟨k', _⟩ | ⟨_, c3, e', z⟩
      · have k' : X.env.scope.names.lookup y = some .local := k'
        rcases L.free _ (PySem.mem_of_lookup k) rfl with k2 | k2 <;> rw [show X.env.scope.names.lookup y = _ from k2] at k' <;> cases k'
      · rw [c1] at e'
        cases e'
        exact cellK (I.freeC y _ c1) z
  · obtain ⟨w', z⟩ := I.cell y c (cm e)
    exact ⟨w', cellK (I.freeC y c (cm e)) z⟩
  · obtain ⟨v, o, ho, hd⟩ := I.cell y c (cm e)
    exact un.free c o ho (I.freeC y c (cm e)) (by simp)
theorem pet_actH {CXg : CXT} {Eg : XK} {Ng : List Str} {qg : Str} {sg : Scope} {g f d : Addr} {cdg pm ctv dV : Value} {params : Arguments} {body : Expr} {scope : Scope} {k i : Nat} {a : Str} {pn : List (Addr × Obj)} {xe : Value → Shared → Prop} {W : WX} {E : XK} {tb : TE} {p1 p2 : Pos} {ns : List Int} {p : Addr × Obj}
    (I : Inv X pins σ H s) (L : LamN X.N X.env.scope scope) (hf : s.heap.get? f = some (lamObj (X.env.qual ++ "<lambda>") params body scope (cloFrom X.env.cells scope.names []) pm d ctv dV)) (hfn : H f = none) (hfr : f ∉ frs X.stack) (hdv : DAt s.heap H (frs X.stack) ns dV)
    (hbind : BindN params body scope ns) (tk : Takes ((cxH CXg X.prog X.w X.K X.mg X.base Ng qg sg g cdg X.A X.stack s H Eg p).tr pn xe) W) (hW : ∀ cls d σ' H', σ'.length = Ng.length → E cls d H' → W cls d σ' H') (hpn : p ∈ pn) (hot : Hot1 X.A p) (hr : RoomH (k + 1) (X.A.deeper (envOfC qg sg s.heap.objs.size g cdg)))
    (hbody : ∀ (A : Around) (outer : List Env) (s : Shared) (H : Hp), RoomH k (A.deeper (lamEnv X scope s.heap.objs.size f d)) → HotC (lamCxH X A outer s H E scope f d p) → PET (lamCxH X A outer s H E scope f d p) body tb)
    (hN : Ng[i]? = some a) (hv : Vis sg a) (hdb : (a == ("__debug__" : Str)) = false := by decide) (hcd : (a == ("__classdict__" : Str)) = false := by decide) :
    PET ((cxH CXg X.prog X.w X.K X.mg X.base Ng qg sg g cdg X.A X.stack s H Eg p).tr pn xe) (.Call (.Name a p1) [] [] p2) (fun σZ HZ Q => σZ[i]? = some (some (.ref f)) ∧ HZ d = some (CodeO d (X.env.qual ++ "<lambda>")) ∧ tb σ HZ Q) := by
  intro pinsZ sZ σZ HZ Q h0 IZ h
  obtain ⟨hs, hc, ht⟩ := h
  refine wpAny_with_toks (n := 1) h0 (wpAny_Call_Name_kw (wpAny_mono (PySem.wpAny_toks_of h0 ((pe_var (pos := p1) (i := i) hN hv hdb hcd).run pinsZ sZ σZ HZ (fun v H1 => v = .ref f ∧ H1 = HZ) IZ ⟨.ref f, hs, rfl, rfl⟩)) (fun u s1 ⟨hk1, v, H1, I1, r1, q1⟩ => ?_) fun e s' z => fun _ => z.2))
  obtain ⟨ev, eH⟩ := q1
  subst ev
  rw [eH] at I1
  obtain rfl : u = Value.ref f := r1
  have keepN : ∀ b o, s.heap.get? b = some o → H b = none → b ∉ frs X.stack → s1.heap.get? b = some o := fun b o e n nf => I1.base.keep b o e n nf (fun z => nomatch (show b ∈ ([] : List Addr) from z))
  have of1 := keepN f _ hf hfn hfr
  refine PySem.W.callWith_F0 ⟨_, _, _, _, of1⟩ ?_
  have un : Un (frs X.stack) [] H HZ s.heap s1.heap := I1.base
  obtain ⟨⟨oc, vs, t, hoc, hdc, hvc⟩, _, _⟩ := I1.hok d _ hc
  have rc : codeAny (model X.prog X.w) (X.A.deeper (envOfC qg sg s.heap.objs.size g cdg)) (.call (.ref f) ⟨[], []⟩) (CR (L2.CX X.prog X.w) (envOfC qg sg s.heap.objs.size g cdg :: X.stack) X.prog X.w HZ s1 Q E) s1 := by
    have fin : ∀ bs : List (Str × Value), (∀ y ∈ bs, scope.names.lookup y.1 = some .local) → wpAny (model X.prog X.w) (X.A.deeper (envOfC qg sg s.heap.objs.size g cdg)).in1 (newFunctionEnv scope mainGlobals (cloFrom X.env.cells scope.names []) bs ((X.env.qual ++ "<lambda>") ++ ".<locals>.") (some f) (.ref d) none builtinsNs)
        (fun env s₂ => s₂.heap.NoLimit ∧ codeAny (model X.prog X.w) (X.A.deeper (envOfC qg sg s.heap.objs.size g cdg)) (.expr body env) (CR (L2.CX X.prog X.w) (envOfC qg sg s.heap.objs.size g cdg :: X.stack) X.prog X.w HZ s1 Q E) s₂)
        (fun e s' => CR (L2.CX X.prog X.w) (envOfC qg sg s.heap.objs.size g cdg :: X.stack) X.prog X.w HZ s1 Q E (.error e) s') s1 := fun bs hbs => by
      refine wpAny_newFunctionEnv (fun y hy => (L.own y hy).1) hbs (fun h₁ hns hsb => ⟨I1.nolimit.fresh _ hsb, ?_⟩) L.kind
      show codeAny _ _ (.expr body (lamEnv X scope s1.heap.objs.size f d)) _ _
      have kp : ∀ b o, s1.heap.get? b = some o → h₁.get? b = some o := fun b o e => hsb.extBut b o (Nat.ne_of_lt (Heap.lt_size e)) (Heap.get?_push_of_some _ e)
      have J : Inv (lamCxH X (X.A.deeper (envOfC qg sg s.heap.objs.size g cdg)) (envOfC qg sg s.heap.objs.size g cdg :: X.stack) s1 HZ E scope f d p) [] σ HZ { s1 with heap := h₁, toks := s1.toks + bs.length } :=
        lam_startNH I L I1.env0 (inv_pin (p := p) I1 hpn) un hns kp
      refine PySem.W.kla_codeExpr (wpAny_mono ((hbody _ _ s1 HZ (hr.deeper _) ⟨p, ⟨hot.1, hot.2⟩, List.mem_singleton.mpr rfl⟩) [] _ _ HZ Q (Nat.le_trans hk1 (Nat.le_add_right _ _)) J ht) (fun v s' hq => ?_) fun e s' hq => hq)
      obtain ⟨w', H', J', rv, q⟩ := hq
      exact ⟨w', H', J'.os, J'.bare, J'.base, J'.hok, rv, q⟩
    refine PySem.W.kla_callFunE hr.depth of1 rfl L.co L.gen rfl ⟨d, oc, vs, t, rfl, hoc, hdc, hvc⟩ ?_
    rcases hdv with ⟨z1, z2⟩ | ⟨T, ts, z0, z1, z2, z3, z4, z5⟩
    · subst z2
      rw [hbind.b0 z1]
      exact wpAny_pure (fin [] fun y hy => nomatch hy)
    · subst z1
      obtain ⟨⟨n, hn⟩, nm, hl, hb⟩ := hbind.b1 z0
      rw [hn] at z3
      cases z3 with
      | @cons _ x _ xs r1 r2 =>
        cases r2
        obtain ⟨k', e1, e2⟩ := hb (X.env.qual ++ "<lambda>") (cloFrom X.env.cells scope.names []) pm d ctv T x
        rw [e1]
        refine wpAny_bind (wpAny_seqItems (keepN T _ z2 z4 z5) rfl ?_)
        rw [e2]
        exact wpAny_pure (fin [(nm, x)] fun y hy => by rw [List.mem_singleton.mp hy]; exact hl)
  have hx : Passes (L2.CX X.prog X.w) ((cxH CXg X.prog X.w X.K X.mg X.base Ng qg sg g cdg X.A X.stack s H Eg p).tr pn xe) E := fun _ σ _ _ e s' I c => tk e s' (XE.of_call I (fun cls d H' h => hW cls d σ H' I.len h) c)
  refine wpAny_mono (wpAny_call (codeAny_mono rc fun r s' hq => ?_) : wpAny _ _ (call (.ref f) []) (EP _ pinsZ σZ Q) _ s1) (fun _ _ z _ => z) fun _ _ z _ => z
  cases r with
  | error e => exact hx pinsZ σZ HZ s1 e s' I1 hq
  | ok fl =>
    cases fl with
    | ret u => exact I1.after hq
    | next => exact False.elim hq
    | brk => exact False.elim hq
    | cont => exact False.elim hq
end
section
variable {P : Program} {w : World} {K : PySem.W.Frag} {mg : Str → Option Value} {base : Heap} {CX : CXT} {k : Nat} {f : Addr} {fd : FuncData} {ps N : List Str} {x qual : Str} {params : Arguments} {body : List Stmt} {scope : Scope} {dvs : List V} {kws : List (Str × V)}
/-- a def called where a token is out, told of the very state -/
theorem run_ofSTH (F : FunD K x qual params body scope dvs kws f fd) (S : FnScope N ps scope) {A : Around} {outer : List Env} {s : Shared} {H : Hp} {args : Args} {us : List Value} {vs : List V} {Q : VK} {E : XK} (h0 : 1 ≤ s.toks) {p : Addr × Obj} (hr : RoomH (k + 1) A) (hot : Hot1 A p) (hpin : PinOk outer H s p) (e0 : Env0 P w K mg base A outer s H) (hb : BindsTo s fd args (ps.zip us)) (r : Vals vs us) (hl : vs.length = ps.length)
    (hbody : ∀ (cdv : Value), RoomH k (A.deeper (envOfC qual scope s.heap.objs.size f cdv)) → ∃ t, PSsT (cxH CX P w K mg base N qual scope f cdv A outer s H E p) body t ∧ t { nx := fun _ H' => Q .non H', rt := Q } (L2.start N vs) H) :
    codeAny (model P w) A (.call (.ref f) args) (CR CX outer P w H s Q E) s := by
  obtain ⟨oc, od, dV, kV, doc, pm, an, cdv, ct, osl, rfl, lk, hcd, _, _⟩ := F.ex
  have kin : K.In s.heap := e0.mod.kin.keeps fun b o e => (e0.bs b o e).1
  have lm : s.heap.NoLimit := e0.mod.nolimit.keeps fun b o e => (e0.bs b o e).1
  have hks : ∀ y ∈ ps.zip us, scope.names.lookup y.1 = some .local ∨ (scope.names.lookup y.1 = some .cell ∧ ((cellsFrom (s.heap.objs.size + 1) scope.names []).lookup y.1).isSome = true) := fun ⟨n, v⟩ hy => by
    rcases S.par n (List.of_mem_zip hy).1 with q | q
    · exact .inl q
    · exact .inr ⟨q, PySem.W.cellsFrom_some _ _ _ (.inl q)⟩
  refine codeAny_call_function hr.depth (kin _ _ lk) rfl S.co S.gen rfl (PySem.W.codeRec_of kin hcd) (hb _ _ _ _ (wpAny_with_toks (n := 1) h0 ?_))
  refine wpAny_newFunctionEnv_cells S.kind hks fun env he s1 y hk => ?_
  subst he
  refine ⟨lm.keeps y.toInCall.keep, codeAny_func ?_⟩
  obtain ⟨t, ht, hq⟩ := hbody cdv (hr.deeper _)
  have I : Inv (cxH CX P w K mg base N qual scope f cdv A outer s H E p) [] (L2.start N vs) H s1 := inv_startH S hpin e0 hl r y
  refine wpAny_mono (ht [] s1 (L2.start N vs) H _ hk I hq) (fun fl s' hs => ?_) fun e s' hs => hs
  have fin : ∀ {σ' : L2.St} {H' : Hp} {v : V} {u : Value}, Inv (cxH CX P w K mg base N qual scope f cdv A outer s H E p) [] σ' H' s' → L2.RelV v u → Q v H' → CE outer P w H s Q u s' := fun {σ' H' v u} J rv q => ⟨v, H', J.os, J.bare, J.base, J.hok, rv, q⟩
  cases fl with
  | ret u =>
    obtain ⟨v, σ', H', J, rv, q⟩ := hs
    exact fin J rv q
  | next =>
    obtain ⟨σ', H', J, q⟩ := hs
    exact fin (v := V.non) (u := Value.none) J rfl q
  | brk =>
    obtain ⟨_, _, _, q⟩ := hs
    exact q.elim
  | cont =>
    obtain ⟨_, _, _, q⟩ := hs
    exact q.elim
end
/-- the def x does so -/
def GivesKH (X : Cx) (k : Nat) (Ng : List Str) (x : Str) (sg : Scope) (g : Addr) (bg : List Stmt) (a : Str) (q : Str) (TT : (XK → Hp → VK → Prop) → Hp → VK → Prop) : Prop :=
  ∀ (cdg : Value) (p : Addr × Obj) (f d : Addr) (s : Shared) (H : Hp) (Q : VK) (tl : XK → Hp → VK → Prop), HotC (cxH C8.CX0 X.prog X.w X.K X.mg X.base Ng x sg g cdg X.A X.stack s H C8.E0 p) → RoomH k (X.A.deeper (envOfC x sg s.heap.objs.size g cdg)) →
    (∀ (W : WX) (pn : List (Addr × Obj)) (xe : Value → Shared → Prop) (E : XK) (p1 p2 : Pos), p ∈ pn → Takes ((cxH C8.CX0 X.prog X.w X.K X.mg X.base Ng x sg g cdg X.A X.stack s H C8.E0 p).tr pn xe) W → (∀ cls d σ' H', σ'.length = Ng.length → E cls d H' → W cls d σ' H') →
      PET ((cxH C8.CX0 X.prog X.w X.K X.mg X.base Ng x sg g cdg X.A X.stack s H C8.E0 p).tr pn xe) (.Call (.Name a p1) [] [] p2) (fun σZ HZ Q => σZ[0]? = some (some (.ref f)) ∧ HZ d = some (CodeO d q) ∧ tl E HZ Q)) →
    H d = some (CodeO d q) → TT tl H Q →
    ∃ t, PSsT (cxH C8.CX0 X.prog X.w X.K X.mg X.base Ng x sg g cdg X.A X.stack s H C8.E0 p) bg t ∧ t { nx := fun _ H' => Q .non H', rt := Q } (L2.start Ng [.ref f]) H
section
variable {X : Cx}
theorem pet_kindH {TT : (XK → Hp → VK → Prop) → Hp → VK → Prop} {x a : Str} {g c P : Addr} {fd : FuncData} {k kg : Nat} {pg : Arguments} {bg : List Stmt} {sg : Scope} {dvs : List V} {kws : List (Str × V)} {Ng : List Str} {ns : List Int}
    {params : Arguments} {body : Expr} {scope : Scope} {t : XK → TE} {pp lpos pos : Pos} (F : FunD X.K x x pg bg sg dvs kws g fd) (Sg : FnScope Ng [a] sg) (hg : Gl X x) (hm : X.mg x = some (.ref g)) (hb : L2.Binds X.K fd [a] []) (hNg : Ng[0]? = some a) (hva : Vis sg a)
    (hG : GivesKH X kg Ng x sg g bg a (X.env.qual ++ "<lambda>") TT) (hkg : kg ≤ k + 1)
    (TB : TabB X.base X.mg c P) (hcode : X.env.code = .ref c) (hr : RoomH (k + 2) X.A) (hc : HotC X) (L : LamN X.N X.env.scope scope) (D : DefN X params ns) (hbind : BindN params body scope ns)
    (hbody : ∀ (A : Around) (outer : List Env) (s : Shared) (H : Hp) (E : XK) (f d : Addr) (p : Addr × Obj), RoomH k (A.deeper (lamEnv X scope s.heap.objs.size f d)) → HotC (lamCxH X A outer s H E scope f d p) → PET (lamCxH X A outer s H E scope f d p) body (t E))
    (hdb : (x == ("__debug__" : Str)) = false := by decide) (hd : (a == ("__debug__" : Str)) = false := by decide) (hcd : (a == ("__classdict__" : Str)) = false := by decide) :
    PET X (.Call (.Name x pp) [.Lambda params body scope lpos] [] pos) (tKnd P lpos (X.env.qual ++ "<lambda>") TT t) := by
  intro pins s σ H Q h0 I h
  obtain ⟨ps, hP, ht, hrr, h⟩ := h
  refine wpAny_with_toks (n := 1) h0 (wpAny_Call_Name_kw (ld_glob I hg hm ?_ hdb))
  refine PySem.W.callWith_K (h₀ := X.base) I.ok.mod.kin F.kp ?_ (by rfl) (by rfl)
  show wpAny _ _ (spliced ((false, eval (.Lambda params body scope lpos) X.env) :: backTo pos (starEach [] X.env))) _ _ s
  refine Calls.spliced_cons (wpAny_mono (PySem.wpAny_toks_of h0 (lamD_mk (E := fun _ _ => False) (Q := fun u s' => ∃ (f d : Addr) (pm ctv dV : Value) (H1 : Hp), u = .ref f ∧ Inv X pins σ H1 s' ∧ MadeL H P lpos (X.env.qual ++ "<lambda>") ps d H1 ∧ s'.heap.get? f = some (lamObj (X.env.qual ++ "<lambda>") params body scope (cloFrom X.env.cells scope.names []) pm d ctv dV) ∧ H1 f = none ∧ f ∉ frs X.stack ∧ DAt s'.heap H1 (frs X.stack) ns dV)
    D TB hcode (L.has I.ok) I hP ht hrr fun f d pm ctv dV H1 s' I1 mk hf hfn hfr hdv => ⟨f, d, pm, ctv, dV, H1, rfl, I1, mk, hf, hfn, hfr, hdv⟩)) (fun u s' ⟨hk1, f, d, pm, ctv, dV, H1, eu, I1, mk, hf, hfn, hfr, hdv⟩ => ?_) fun e s' z => z.2.elim)
  subst eu
  obtain ⟨hco, hTT⟩ := h d H1 mk
  obtain ⟨p, hot, hp⟩ := hc
  have hpin := inv_pin I1 hp
  refine Calls.spliced_nil ⟨I1.kIn, ?_⟩
  have rc : codeAny (model X.prog X.w) X.A (.call (.ref g) ⟨[.ref f], []⟩) (CR C8.CX0 X.stack X.prog X.w H1 s' Q C8.E0) s' := by
    refine run_ofSTH (N := Ng) (ps := [a]) (us := [.ref f]) (vs := [.ref f]) F Sg hk1 hr hot hpin I1.env0 (hb s' [.ref f] I1.kIn rfl) (.cons rfl .nil) rfl fun cdg hr' => ?_
    exact hG cdg p f d s' H1 Q (fun E H' Q' => t E σ H' Q') (hotC_cxH hot) (hr'.mono hkg) (fun W pn xe E p1 p2 hpn tk hW => pet_actH (i := 0) I1 L hf hfn hfr hdv hbind tk hW hpn hot hr' (fun A outer s H hr2 hc2 => hbody A outer s H E f d p hr2 hc2) hNg hva hd hcd) hco hTT
  refine wpAny_mono (wpAny_call (codeAny_mono rc fun r s2 hq => ?_) : wpAny _ _ (call (.ref g) [.ref f]) (EP X pins σ Q) X.xe s') (fun _ _ z _ => z) fun _ _ z _ => z
  cases r with
  | error e => exact (show False from hq).elim
  | ok fl =>
    cases fl with
    | ret u => exact I1.after hq
    | next => exact False.elim hq
    | brk => exact False.elim hq
    | cont => exact False.elim hq
end
/-! ### a call within the lambda that may raise -/
section
variable {X : Cx} {A : Around} {outer : List Env} {s : Shared} {H : Hp} {E : XK} {scope : Scope} {f d : Addr} {p : Addr × Obj}
theorem takes_lamH : Takes (lamCxH X A outer s H E scope f d p) (fun cls d _ H => E cls d H) := takes_of rfl rfl rfl rfl
theorem passes_lamH : Passes (L2.CX X.prog X.w) (lamCxH X A outer s H E scope f d p) E := passes_call takes_lamH fun _ _ _ _ h => h
end
end TH
/-! try: f(..) except C as e: return e.x if .. else .. ; the call lets exceptions out, its own names known. -/
namespace TH
open PySem PySem.Spec PyProof.Rows L2 HotX L2H
variable [TC : TabC]
section
variable {X : Cx} {k j : Nat} {f : Addr} {fd : FuncData} {ps : List Str} {sp : Sp} {dvs : List V} {ds : List Value} {W : WX} {x : Str} {p pos : Pos} {e : Expr} {es : List Expr} {t : TA}
theorem run_fnTS {pins : List (Addr × Obj)} {σ : L2.St} {H : Hp} {s : Shared} {Q : VK} {us : List Value} {vs : List V} (F : FnT X.prog X.w X.K X.mg X.base (L2N.CX X.prog X.w) k f fd ps sp) (hr : Room k X.A) (hb : Binds X.K fd ps ds) (hd : Vals dvs ds) (tk : L2N.Takes X W)
    (h0 : 1 ≤ s.toks) (I : Inv X pins σ H s) (r : Vals vs us) (h : sp (vs ++ dvs) H Q (fun cls d H' => W cls d σ H')) : wpAny (model X.prog X.w) X.A (call (.ref f) us) (EP X pins σ Q) X.xe s := by
  have r2 : Vals (vs ++ dvs) (us ++ ds) := r.append hd
  have hl : (us ++ ds).length = ps.length := by rw [← r2.length]; exact F.len _ _ _ _ h
  refine wpAny_call (codeAny_mono (F.run X.A X.stack s H ⟨us, []⟩ (us ++ ds) (vs ++ dvs) Q _ h0 hr I.env0 (hb s us I.kIn hl) r2 h) fun z s' hq => ?_)
  cases z with
  | error e => exact tk e s' (L2N.XE.of_call I (fun _ _ _ h => h) hq)
  | ok fl =>
    cases fl with
    | ret u => exact I.after hq
    | next => exact False.elim hq
    | brk => exact False.elim hq
    | cont => exact False.elim hq
theorem pet_cCS (c : CalC X.prog X.w X.K X.mg X.base (L2N.CX X.prog X.w) k x sp []) (tk : L2N.Takes X W) (hr : Room j X.A) (hk : k ≤ j) (hg : Gl X x) (ha : PAT X (e :: es) t)
    (hdb : (x == ("__debug__" : Str)) = false := by decide) (he : starEach (e :: es) X.env = (false, eval e X.env) :: starEach es X.env := by rfl) (hpl : (backTo pos (starEach es X.env)).any (·.1) = false := by rfl) :
    PET X (.Call (.Name x p) (e :: es) [] pos) (tCallSD sp [] (fun σ cls d H => W cls d σ H) t) := by
  obtain ⟨f, fd, ps, ds, F, hm, kp, b, d⟩ := c.ex
  intro pins s σ H Q h0 I h
  refine wpAny_with_toks (n := 1) h0 (wpAny_Call_Name_kw (ld_glob I hg hm ?_ hdb))
  refine PySem.W.callWith_K (h₀ := X.base) I.ok.mod.kin kp (wpAny_mono (PySem.wpAny_toks_of h0 (ha pos pins s σ H _ h0 I h)) (fun us s1 ⟨hk1, vs, H1, I1, r, q⟩ => ⟨I1.kIn, ?_⟩) fun e s' z => ?_) he hpl
  · exact wpAny_mono (run_fnTS F (hr.mono hk) b d tk hk1 I1 r q) (fun _ _ z _ => z) fun _ _ z _ => z
  · exact fun _ => z.2
end
/-! ### over plain values -/
def aTryF (C : Addr) (f : Str) (i : Nat) (b : aTSX) (c : aTT) (e2 : aTE) : aTS := fun D sa A => b (fun e sa' A' => e.cls = .ref C ∧ A' = [] ∧ i < sa'.length ∧ ∃ p, e.fs = [(f, p)] ∧ c (sa'.set i none) A' fun t A2 => if t = true then D.rt (.pv p) A2 else e2 (sa'.set i none) A2 D.rt) D sa A
theorem SgR.forget {K : PySem.W.Frag} {s : Cs} {sa : Sg} {σ : L2.St} (h : SgR K s sa σ) (i : Nat) (w : Option V) : SgR K s (sa.set i none) (σ.set i w) := by
  refine ⟨by simp [h.len], fun j b q => ?_⟩
  rw [List.getElem?_set] at q ⊢
  by_cases c : i = j
  · rw [if_pos c] at q
    subst c
    by_cases d : i < sa.length
    · rw [if_pos d] at q; cases q
    · rw [if_neg d] at q; cases q
  · rw [if_neg c] at q ⊢
    exact h.at' j b q
theorem nt_xd {fs : List (Str × V)} : NT (.xd fs) := fun ps e => by cases e
theorem sim_tryF {K : PySem.W.Frag} {n0 : Nat} {C : Addr} {cv : Value} {f : Str} {i : Nat} {b : aTSX} {tb : WX → TS} {c : aTT} {tt : TT} {e2 : aTE} {te2 : TE} {Wout : WX} (hex : PySem.W.exmOne K (.ref C) cv = some true) (hf : f ≠ "")
    (hb : ∀ W, SimSX K n0 W b (tb W)) (hc : SimT K false c tt) (he : SimE K false e2 te2) :
    SimS K n0 (aTryF C f i b c e2) (fun D σ H => tb (wAs K cv i (fun a cls d => tRet (tIf tt (tXf a cls d C f (tVar i)) te2)) Wout D) D σ H) := fun {B s Da D} h0 ed {sa σ} r gg h => by
  refine hb _ h0 ed (fun e cls d s' sa' σ' r1 g1 q1 hx kk => ?_) r gg h
  obtain ⟨k1, kA, kl, p, k2, k3⟩ := kk
  obtain ⟨x1, x2⟩ := hx
  rw [k1] at x1
  subst x1
  have hxd : ∃ da v, d = some da ∧ s'.H da = some (.xd [(f, v)]) ∧ (rPV K p).P s'.G v := by
    rw [k2] at x2
    rcases x2 with z | ⟨z, _⟩ | ⟨da, vs, z1, z2, z3⟩
    · cases z
    · have z : (f, p) = noD := List.head_eq_of_cons_eq z
      exact absurd (congrArg Prod.fst z) hf
    · have z3 : FAl s'.G [(f, rPV K p)] vs := z3
      cases z3 with
      | cons a t =>
        cases t
        rename_i y
        obtain ⟨y1, y2⟩ := y
        obtain ⟨a1, a2⟩ := a
        cases a1
        exact ⟨da, y2, z1, z2, a2⟩
  obtain ⟨da, v, rfl, hda, hp⟩ := hxd
  refine ⟨true, hex, fun _ a ha => ?_, fun z => nomatch z⟩
  have li : i < σ'.length := by rw [← q1.len]; exact kl
  refine hc (B := Bs.of s') r1.start (q1.forget i (some (.ref a))) (fun t s2 e2' k2 => ?_) k3
  have r2 : Rep K B s2 := r1.rebase e2'.rep
  have g2 : Grw s s2 := g1.trans e2'.grw
  cases t with
  | true =>
    have hd2 : s2.H da = some (.xd [(f, v)]) := e2'.rep.gr.hhN da _ hda (fun z => by
      obtain ⟨n, hn, hm⟩ := List.mem_flatMap.mp z
      have l0 : (Bs.of s').ι.length = 0 := by show s'.ι.length = 0; rw [r1.len, kA]; rfl
      rw [l0] at hn; exact absurd (List.mem_range.mp hn) (Nat.not_lt_zero _)) nt_xd
    show tXf a (.ref C) (some da) C f (tVar i) (σ'.set i (some (.ref a))) s2.H D.rt
    exact ⟨.ref a, by rw [List.getElem?_set_self li], rfl, rfl, da, [(f, v)], v, rfl, hd2, by simp [List.lookup_cons], ed.rt s2 (.pv p) v r2 g2 ((rPV K p).mono e2'.le hp) k2⟩
  | false =>
    exact he r2 ((q1.forget i (some (.ref a))).stp (e2'.rebase r1)) (fun av w s3 e3 px k => ed.rt s3 av w e3.rep (g2.trans e3.grw) px k) k2
end TH
namespace TH
open PySem PySem.Spec PyProof.Rows L2
variable [TC : TabC]
def letters : Str := "abcdefghijklmnopqrstuvwxyz"
def words3 : List Str := ["and", "or", "not"]
def scopes4 : List Str := ["run", "house", "group", "try"]
/-- whether a word is a name -/
def isName (x : Str) : Bool := (decide ((1 : Int) ≤ x.length) && decide ((x.length : Int) ≤ 8)) && (x.cps.toList.all (fun c => decide (c ∈ letters.cps.toList)) && !decide (x ∈ words3))
def sp_is_name : Sp := spP (ι := Str) (fun x _ _ => x.length ≤ 100000) (fun x => [rStr x]) (fun x => rBl (isName x))
section
variable {P : Program} {w : World} {K : PySem.W.Frag} {mg : Str → Option Value} {base : Heap} {f : Addr} {fd : FuncData}
theorem sc_is_name : FnScope ["word", "sign"] ["word"] (defScope s_is_name) := ⟨rfl, rfl, rfl, by decide +kernel, rfl, by decide +kernel, by decide +kernel⟩
theorem fn_is_name (F : FnP K "is_name" "is_name" s_is_name f fd) (T : Top K mg) : FnOk P w K mg base CX0 1 f fd ["word"] sp_is_name := by
  refine fn_pure F sc_is_name (fun _ => rfl) fun cdv A outer s H E hr => ⟨_, (pss_one (ps_ret (pe_and (pe_chain op_le op_le pe_int (pe_callB (call_len_str) (by rfl) T.z_len PySem.boot_len (pa_cons (pv 0) pa_nil (star_Name _ _))) (C8.pe_gc rfl T.c_MOST_SIGNS)) (pe_and (pe_callB (cr_all rfl) (by rfl) T.z_all (by decide +kernel) (pa_cons (pe_lc (own := [("sign", 1)]) rfl sc_is_name.nd (pi_str (pv 0)) (blkOk_by (own := [("sign", 1)]) (N := ["word", "sign"]) (sc := defScope s_is_name) (by decide +kernel)) (fun _ _ _ _ _ => (pg_name (i := 1) sc_is_name.nd rfl (Or.inl rfl))) (fun _ _ _ _ _ => pts_nil) (fun _ _ _ _ _ => peT (pe_cmpR op_in_sign (pv 1) (C8.pe_gc rfl T.c_LETTERS) rfl) (by (try dsimp only [Cx.blk, Cx.nox, cxOf]) <;> rfl))) pa_nil (star_ListComp _ _ _ _))) (pe_one (pe_cmpR (op_notInK (K := K) rfl) (pv 0) (C8.pe_gc rfl T.c_WORDS) rfl)))))), ?_⟩
  intro x G vs D a pre al hrt hnx
  obtain ⟨v, rfl, hv⟩ := al1 al
  obtain rfl : v = .str x := hv
  have hz : x.length ≤ sizeLine := Nat.le_trans pre (by decide)
  refine s_ret (ev_andV (ev_chain ev_c (ev_lenS (ev_val rfl) hz) ev_c) fun _ => ev_andV (ev_all (EvN.lst (en_map (src_str (ev_val rfl)) (fun c => rBl (decide (c ∈ letters.cps.toList))) (fun _ => rfl) (fun c v G' H' hc g p => ev_sign (ev_var rfl p) ev_c) pre))) fun _ => ?_) a fun v G' H' g p => hrt v G' H' g.gr p
  exact ev_in (neg := true) (ev_val rfl) (ev_top T.t_WORDS).st
end

end TH
namespace TH
open PySem PySem.Spec PyProof.Rows L2
variable [TC : TabC]
/-- whether names are names, none twice -/
def areUnlike (xs : List Str) : Bool := xs.all isName && decide xs.Nodup
section
variable {P : Program} {w : World} {K : PySem.W.Frag} {mg : Str → Option Value} {base : Heap} {f : Addr} {fd : FuncData}
end

end TH
namespace TH
open PySem PySem.Spec PyProof.Rows L2
variable [TC : TabC]
/-- a need, a try of a book -/
structure Nd where
  nm : Str
  sc : Str
  ot : List Str
  ws : Int
structure Tr where
  nm : Str
  hs : Str
  gp : Str
  nd : List Str
  ms : List Str
  tm : Int
  ex : Bool
/-- the first need of a name, and its number -/
def findNd (x : Str) : Nat → List Nd → Option (Nat × Nd)
  | _, [] => none
  | i, n :: t => if n.nm = x then some (i, n) else findNd x (i + 1) t
def scIx (x : Str) : Nat := scopes4.findIdx (· == x)
/-- what a class has that the top made: no attribute hides a field -/
structure TopBook (K : PySem.W.Frag) (mg : Str → Option Value) (C : Addr) : Prop where
  cl : Cls K C
  n_needs : NoAttr K C "needs"
  n_tries : NoAttr K C "tries"
section
variable {P : Program} {w : World} {K : PySem.W.Frag} {mg : Str → Option Value} {base : Heap} {f : Addr} {fd : FuncData} {C : Addr}
variable {M : Md} {σ : L2.St} {G H G' H' : Hp} {ta tb te tc : TE}
end

end TH
namespace TH
open PySem PySem.Spec PyProof.Rows L2
variable [TC : TabC]
/-! ### what names lead to -/
/-- the needs from the last one on: others of those that are found are found -/
def leadsAcc : List Nd → List Str → List Str
  | [], acc => acc
  | n :: t, acc => leadsAcc t (if n.nm ∈ acc then acc ++ n.ot else acc)
def closureM (ns : List Nd) (names : List Str) : List Str := (ns.map Nd.nm).filter fun x => decide (x ∈ leadsAcc ns.reverse names)
inductive Rch (l : List Nd) (acc : List Str) : Str → Prop
  | base {x : Str} : x ∈ acc → Rch l acc x
  | step {x : Str} {m : Nd} : Rch l acc m.nm → m ∈ l → x ∈ m.ot → Rch l acc x
/-- none of the later needs is an other -/
def RevOk : List Nd → Prop
  | [] => True
  | n :: t => (∀ m ∈ n :: t, n.nm ∉ m.ot) ∧ RevOk t
/-- names that differ, others ahead -/
def OrdN : List Str → List Nd → Prop
  | _, [] => True
  | seen, n :: t => n.nm ∉ seen ∧ (∀ o ∈ n.ot, o ∈ seen) ∧ OrdN (seen ++ [n.nm]) t
theorem OrdN.fresh : ∀ {seen : List Str} {ns : List Nd}, OrdN seen ns → ∀ n ∈ ns, n.nm ∉ seen
  | seen, n :: t, h, m, hm => by
    rcases List.mem_cons.mp hm with e | hm
    · rw [e]; exact h.1
    · exact fun z => OrdN.fresh h.2.2 m hm (List.mem_append_left _ z)
theorem OrdN.nodup : ∀ {seen : List Str} {ns : List Nd}, OrdN seen ns → (ns.map Nd.nm).Nodup
  | _, [], _ => List.nodup_nil
  | seen, n :: t, h => by
    rw [List.map_cons, List.nodup_cons]
    refine ⟨fun m => ?_, OrdN.nodup h.2.2⟩
    obtain ⟨k, hk, e⟩ := List.mem_map.mp m
    exact OrdN.fresh h.2.2 k hk (by rw [e]; simp)
theorem OrdN.ots : ∀ {seen : List Str} {ns : List Nd}, OrdN seen ns → ∀ n ∈ ns, ∀ o ∈ n.ot, o ∈ seen ∨ o ∈ ns.map Nd.nm
  | seen, n :: t, h, m, hm, o, ho => by
    rcases List.mem_cons.mp hm with e | hm
    · rw [e] at ho; exact .inl (h.2.1 o ho)
    · rcases OrdN.ots h.2.2 m hm o ho with z | z
      · rcases List.mem_append.mp z with z | z
        · exact .inl z
        · rw [List.mem_singleton] at z
          exact .inr (by rw [z]; exact List.mem_cons_self)
      · exact .inr (List.mem_cons_of_mem _ z)
theorem revOk_app : ∀ {l : List Nd} {n : Nd}, RevOk l → (∀ m ∈ l, m.nm ∉ n.ot) → n.nm ∉ n.ot → RevOk (l ++ [n])
  | [], n, _, _, h => ⟨fun m hm => by rw [List.mem_singleton.mp hm]; exact h, trivial⟩
  | k :: t, n, h, h1, h2 => ⟨fun m hm => by
      rcases List.mem_append.mp (show m ∈ (k :: t) ++ [n] from hm) with z | z
      · exact h.1 m z
      · rw [List.mem_singleton.mp z]; exact h1 k List.mem_cons_self, revOk_app h.2 (fun m hm => h1 m (List.mem_cons_of_mem _ hm)) h2⟩
theorem OrdN.rev : ∀ {seen : List Str} {ns : List Nd}, OrdN seen ns → RevOk ns.reverse
  | _, [], _ => trivial
  | seen, n :: t, h => by
    rw [List.reverse_cons]
    exact revOk_app (OrdN.rev h.2.2) (fun m hm z => OrdN.fresh h.2.2 m (List.mem_reverse.mp hm) (List.mem_append_left _ (h.2.1 _ z))) fun z => h.1 (h.2.1 _ z)
theorem sub_len : ∀ {l D : List Str}, l.Nodup → (∀ x ∈ l, x ∈ D) → l.length ≤ D.length
  | [], _, _, _ => Nat.zero_le _
  | x :: l, D, hn, hs => by
    obtain ⟨h1, h2⟩ := List.nodup_cons.mp hn
    have hx : x ∈ D := hs x List.mem_cons_self
    have ih := sub_len (l := l) (D := D.erase x) h2 fun y hy => (List.mem_erase_of_ne (show y ≠ x from fun e => h1 (by rw [← e]; exact hy))).2 (hs y (List.mem_cons_of_mem _ hy))
    rw [List.length_erase_of_mem hx] at ih
    have hp : 0 < D.length := List.length_pos_of_mem hx
    rw [List.length_cons]
    omega
/-! ### the walk -/
/-- what a def asks of a book that it walks: names that differ, others ahead, few enough; its dict isn't locked -/
structure BkOk (ns : List Nd) : Prop where
  ord : OrdN [] ns
  few : ns.length ≤ 100
  ots : ∀ n ∈ ns, n.ot.length ≤ 100
  oks : ∀ n ∈ ns, PyData.strOk n.nm = true
  scs : ∀ n ∈ ns, n.sc ∈ scopes4
def Open (d : Addr) (H : Hp) : Prop := ∃ kvs, H d = some (.dK kvs)
section
variable {P : Program} {w : World} {K : PySem.W.Frag} {mg : Str → Option Value} {base : Heap} {f : Addr} {fd : FuncData} {C : Addr}
end

end TH
namespace TH
open PySem PySem.Spec PyProof.Rows L2
variable [TC : TabC]
/-! ### the rows of a book -/
def isNeed (ns : List Nd) (n : Nd) : Bool :=
  if !isName n.nm || (decide (n.nm ∈ ns.map Nd.nm) || (!decide (n.sc ∈ scopes4) || !(decide ((1 : Int) ≤ n.ws) && decide (n.ws ≤ 4)))) then false
  else if !areUnlike n.ot || !(n.ot.all fun o => decide (o ∈ ns.map Nd.nm)) then false
  else n.ot.all fun o => decide (((scIx ((findNd o 0 ns).elim "" fun p => p.2.sc) : Nat) : Int) ≤ (scIx n.sc : Nat))
/-- texts short enough for the machine -/
def NdFit (n : Nd) : Prop := n.nm.length ≤ 100000 ∧ n.ot.length < 4000 ∧ ∀ o ∈ n.ot, o.length ≤ 100000
section
variable {P : Program} {w : World} {K : PySem.W.Frag} {mg : Str → Option Value} {base : Heap} {f : Addr} {fd : FuncData} {C : Addr}
end

end TH
namespace TH
open PySem PySem.Spec PyProof.Rows L2
variable [TC : TabC]
/-! ### the tries of a book -/
def waysOf (ns : List Nd) (x : Str) : Int := (findNd x 0 ns).elim 1 fun p => p.2.ws
def manyOf (ns : List Nd) (names : List Str) : Int := (closureM ns names).foldl (fun m x => m * waysOf ns x) 1
def isTry (ns : List Nd) (ts : List Tr) (t : Tr) : Bool :=
  if !([t.nm, t.hs, t.gp].all isName) || decide (t.nm ∈ ts.map Tr.nm) then false
  else if !areUnlike t.nd || !(t.nd.all fun o => decide (o ∈ ns.map Nd.nm)) then false
  else if !areUnlike t.ms || !(decide ((1 : Int) ≤ t.tm) && decide (t.tm ≤ 4)) then false
  else decide (manyOf ns t.nd ≤ 64)
def TrFit (t : Tr) : Prop := (∀ x ∈ [t.nm, t.hs, t.gp], x.length ≤ 100000) ∧ (t.nd.length ≤ 100 ∧ ∀ o ∈ t.nd, o.length ≤ 100000) ∧ t.ms.length < 4000 ∧ ∀ o ∈ t.ms, o.length ≤ 100000
structure WsOk (ns : List Nd) : Prop where
  lo : ∀ n ∈ ns, (1 : Int) ≤ n.ws
  hi : ∀ n ∈ ns, n.ws ≤ 4
section
variable {P : Program} {w : World} {K : PySem.W.Frag} {mg : Str → Option Value} {base : Heap} {f : Addr} {fd : FuncData} {C : Addr}
variable {M : Md} {σ : L2.St} {G H : Hp} {ta tb : TE}
theorem Open.go {d : Addr} {G' H' : Hp} {W : List Addr} (h : Open d H) (g : Gr W G H G' H') (n : d ∉ W) : Open d H' := by
  obtain ⟨kvs, e⟩ := h
  exact ⟨kvs, g.hh d _ e n⟩
end

end TH
namespace TH
open PySem PySem.Spec PyProof.Rows L2
variable [TC : TabC]
/-! ### a valid book -/
structure BookOk (ns : List Nd) (ts : List Tr) : Prop where
  n1 : ∀ i n, ns[i]? = some n → isNeed (ns.take i) n = true
  n2 : ∀ n ∈ ns, NdFit n
  n3 : ns.length ≤ 12
  t1 : ∀ i t, ts[i]? = some t → isTry ns (ts.take i) t = true
  t2 : ∀ t ∈ ts, TrFit t
  t3 : ts.length ≤ 30
/-- what a need that is one is like -/
structure NdLike (seen : List Nd) (n : Nd) : Prop where
  nm : isName n.nm = true
  nw : n.nm ∉ seen.map Nd.nm
  sc : n.sc ∈ scopes4
  lo : (1 : Int) ≤ n.ws
  hi : n.ws ≤ 4
  un : areUnlike n.ot = true
  ot : ∀ o ∈ n.ot, o ∈ seen.map Nd.nm
  le : ∀ o ∈ n.ot, scIx ((findNd o 0 seen).elim "" fun p => p.2.sc) ≤ scIx n.sc
theorem isNeed_like {seen : List Nd} {n : Nd} : isNeed seen n = true ↔ NdLike seen n := by
  unfold isNeed
  constructor
  · intro h
    split at h
    · cases h
    · rename_i c1
      split at h
      · cases h
      · rename_i c2
        simp only [Bool.or_eq_true, Bool.not_eq_true', Bool.and_eq_true, decide_eq_true_iff, decide_eq_false_iff_not, not_or, Bool.not_eq_false, Classical.not_not, Bool.and_eq_false_iff, not_and, List.all_eq_true] at c1 c2 h
        obtain ⟨a1, a2, a3, a4, a5⟩ := c1
        exact ⟨a1, a2, a3, a4, a5, c2.1, c2.2, fun o ho => by have := h o ho; omega⟩
  · rintro ⟨a1, a2, a3, a4, a5, a6, a7, a8⟩
    rw [if_neg (by simp [a1, a2, a3, a4, a5]), if_neg (by simpa [a6] using a7), List.all_eq_true]
    intro o ho
    have := a8 o ho
    simpa using this
theorem BookOk.like {ns : List Nd} {ts : List Tr} (b : BookOk ns ts) {i : Nat} {n : Nd} (h : ns[i]? = some n) : NdLike (ns.take i) n := isNeed_like.mp (b.n1 i n h)
theorem areUnlike_nodup {xs : List Str} (h : areUnlike xs = true) : xs.Nodup := by
  unfold areUnlike at h
  rw [Bool.and_eq_true, decide_eq_true_iff] at h
  exact h.2
theorem areUnlike_names {xs : List Str} (h : areUnlike xs = true) : ∀ x ∈ xs, isName x = true := by
  unfold areUnlike at h
  rw [Bool.and_eq_true, List.all_eq_true] at h
  exact h.1
theorem ordN_of {ns : List Nd} (h : ∀ i n, ns[i]? = some n → NdLike (ns.take i) n) : ∀ m k, k + m = ns.length → OrdN ((ns.take k).map Nd.nm) (ns.drop k)
  | 0, k, e => by rw [List.drop_of_length_le (by omega)]; trivial
  | m + 1, k, e => by
    have hk : k < ns.length := by omega
    rw [List.drop_eq_getElem_cons hk]
    have q := h k ns[k] (by simp [hk])
    refine ⟨q.nw, q.ot, ?_⟩
    have ih := ordN_of h m (k + 1) (by omega)
    rw [List.take_add_one, List.map_append] at ih
    simpa [hk] using ih
theorem letters_ok {x : Str} (h : isName x = true) : PyData.strOk x = true := by
  unfold isName at h
  simp only [Bool.and_eq_true] at h
  have h2 := h.2.1
  rw [List.all_eq_true] at h2
  have k : ∀ c ∈ letters.cps.toList, c < 0x110000 := by decide +kernel
  show x.cps.all (· < 0x110000) = true
  rw [← Array.all_toList, List.all_eq_true]
  intro c hc
  exact decide_eq_true (k c (of_decide_eq_true (h2 c hc)))
theorem name_len {x : Str} (h : isName x = true) : x.length ≤ 8 := by
  unfold isName at h
  simp only [Bool.and_eq_true, decide_eq_true_iff] at h
  omega
theorem BookOk.bk {ns : List Nd} {ts : List Tr} (b : BookOk ns ts) : BkOk ns := by
  have hl : ∀ n ∈ ns, ∃ i, NdLike (ns.take i) n := fun n hn => by
    obtain ⟨i, hi⟩ := List.getElem?_of_mem hn
    exact ⟨i, b.like hi⟩
  refine ⟨?_, by have := b.n3; omega, fun n hn => ?_, fun n hn => ?_, fun n hn => ?_⟩
  · have := ordN_of (fun i n h => b.like h) ns.length 0 (by omega)
    exact this
  · obtain ⟨i, q⟩ := hl n hn
    have h1 := sub_len (areUnlike_nodup q.un) q.ot
    rw [List.length_map, List.length_take] at h1
    have := b.n3
    omega
  · obtain ⟨i, q⟩ := hl n hn
    exact letters_ok q.nm
  · obtain ⟨i, q⟩ := hl n hn
    exact q.sc
theorem BookOk.ws {ns : List Nd} {ts : List Tr} (b : BookOk ns ts) : WsOk ns := by
  have hl : ∀ n ∈ ns, ∃ i, NdLike (ns.take i) n := fun n hn => by
    obtain ⟨i, hi⟩ := List.getElem?_of_mem hn
    exact ⟨i, b.like hi⟩
  exact ⟨fun n hn => let ⟨i, q⟩ := hl n hn; q.lo, fun n hn => let ⟨i, q⟩ := hl n hn; q.hi⟩
theorem DAl.app {G : Hp} : ∀ {ks : List (Key × Rl)} {vs : List (Key × V)} {k : Key} {r : Rl} {v : V}, DAl G ks vs → r.P G v → DAl G (ks ++ [(k, r)]) (vs ++ [(k, v)])
  | _, _, _, _, _, .nil, h => .cons ⟨rfl, h⟩ .nil
  | _, _, _, _, _, .cons a t, h => .cons a (DAl.app t h)
theorem DAl.len {G : Hp} {ks : List (Key × Rl)} {vs : List (Key × V)} (h : DAl G ks vs) : vs.length = ks.length := by
  induction h with
  | nil => rfl
  | cons _ _ ih => rw [List.length_cons, List.length_cons, ih]
theorem Al.app {G : Hp} : ∀ {rs : List Rl} {vs : List V} {r : Rl} {v : V}, Al G rs vs → r.P G v → Al G (rs ++ [r]) (vs ++ [v])
  | _, _, _, _, .nil, h => .cons h .nil
  | _, _, _, _, .cons a t, h => .cons a (Al.app t h)
/-! ### e.f = a thing -/
section
variable {K : PySem.W.Frag} {M : Md} {σ : L2.St} {G H : Hp} {ta te : TE} {D : Ends} {tz : TS} {φ : Hp → HO → Prop} {C dx p : Addr} {fs : List (Str × V)} {f : Str}
end
/-! ### what a try of a book is like -/
structure TrLike (ns : List Nd) (seen : List Tr) (t : Tr) : Prop where
  nm : ∀ x ∈ [t.nm, t.hs, t.gp], isName x = true
  nw : t.nm ∉ seen.map Tr.nm
  un : areUnlike t.nd = true
  nd : ∀ o ∈ t.nd, o ∈ ns.map Nd.nm
  ms : areUnlike t.ms = true
  lo : (1 : Int) ≤ t.tm
  hi : t.tm ≤ 4
  mn : manyOf ns t.nd ≤ 64
theorem isTry_like {ns : List Nd} {seen : List Tr} {t : Tr} : isTry ns seen t = true ↔ TrLike ns seen t := by
  unfold isTry
  constructor
  · intro h
    split at h
    · cases h
    · rename_i c1
      split at h
      · cases h
      · rename_i c2
        split at h
        · cases h
        · rename_i c3
          simp only [Bool.or_eq_true, Bool.not_eq_true', Bool.and_eq_true, decide_eq_true_iff, decide_eq_false_iff_not, not_or, Bool.not_eq_false, Classical.not_not, Bool.and_eq_false_iff, not_and, List.all_eq_true] at c1 c2 c3 h
          exact ⟨c1.1, c1.2, c2.1, c2.2, c3.1, c3.2.1, c3.2.2, h⟩
  · rintro ⟨a1, a2, a3, a4, a5, a6, a7, a8⟩
    rw [if_neg (by simpa [a2] using a1), if_neg (by simpa [a3] using a4), if_neg (by simp [a5, a6, a7])]
    exact decide_eq_true a8
theorem TrLike.few {ns : List Nd} {seen : List Tr} {t : Tr} (q : TrLike ns seen t) : t.nd.length ≤ ns.length := by
  have := sub_len (areUnlike_nodup q.un) q.nd
  rwa [List.length_map] at this

end TH
namespace TH
open PySem PySem.Spec PyProof.Rows L2
variable [TC : TabC]
/-! ### Book.__init__ -/
section
variable {P : Program} {w : World} {K : PySem.W.Frag} {mg : Str → Option Value} {base : Heap} {f : Addr} {fd : FuncData} {C : Addr}
theorem sc_Book___init__ : FnScope ["self", "rows", "needs", "tries", "number", "row", "name", "scope", "others", "ways"] ["self", "rows"] (defScope s_Book___init__) := ⟨rfl, rfl, rfl, by decide +kernel, rfl, by decide +kernel, by decide +kernel⟩
end

end TH
namespace TH
open PySem PySem.Spec PyProof.Rows L2
variable [TC : TabC]
theorem ofS_inj {a b : String} (h : Str.ofString a = Str.ofString b) : a = b := by
  rw [Str.ofString_eq_byList] at h
  have h := congrArg (fun x : Str => x.cps.toList) h
  have h : a.toList.map Char.toNat = b.toList.map Char.toNat := by simpa [Str.ofStringByList] using h
  have inj : ∀ {l l' : List Char}, l.map Char.toNat = l'.map Char.toNat → l = l' := by
    intro l
    induction l with
    | nil => intro l' h; cases l' with
      | nil => rfl
      | cons _ _ => cases h
    | cons x t ih =>
      intro l' h
      cases l' with
      | nil => cases h
      | cons y u =>
        injection h with h1 h2
        rw [ih h2]
        have : x = y := by
          apply Char.ext
          apply UInt32.toNat_inj.mp
          exact h1
        rw [this]
  exact String.toList_inj.mp (inj h)
theorem ofS_beq (a b : String) : (Str.ofString a == Str.ofString b) = (a == b) := by
  rw [Bool.eq_iff_iff, beq_iff_eq, beq_iff_eq]
  exact ⟨ofS_inj, fun h => h ▸ rfl⟩
theorem ofS_eq (a b : String) : (Str.ofString a = Str.ofString b) = (a = b) := propext ⟨ofS_inj, fun h => h ▸ rfl⟩
theorem isName_fit {x : Str} (h : isName x = true) : x.length ≤ 100000 := Nat.le_trans (name_len h) (by decide)
/-! ### books, rows as plain values -/
def pStrs (xs : List Str) : PV := .tup (xs.map PV.str)
def pNd (n : Nd) : PV := .tup [.str n.nm, .str n.sc, pStrs n.ot, .int n.ws]
def pTr (t : Tr) : PV := .tup [.str t.nm, .str t.hs, .str t.gp, pStrs t.nd, pStrs t.ms, .int t.tm, .bl t.ex]
def pRows (ns : List Nd) (ts : List Tr) : PV := .tup [.tup (ns.map pNd), .tup (ts.map pTr)]
def pNeed (i : Nat) (n : Nd) : PV := .tup [.int i, .str n.sc, pStrs n.ot, .int n.ws]
def pNeeds : Nat → List Nd → List (Key × PV)
  | _, [] => []
  | i, n :: t => (Sum.inr n.nm, pNeed i n) :: pNeeds (i + 1) t
def pBook (C : Addr) (ns : List Nd) (ts : List Tr) : PV := .ins C [("needs", .dct (pNeeds 0 ns)), ("tries", .lst (ts.map pTr))]
section
variable (K : PySem.W.Frag)
theorem rPs_of {α : Type} {f : α → PV} {g : α → Rl} (h : ∀ x, rPV K (f x) = g x) (xs : List α) : rPs K (xs.map f) = xs.map g := by
  rw [rPs_map, List.map_map]
  exact List.map_congr_left fun x _ => h x
end
/-! ### defs known by relations, told of plain values -/
theorem al_of_pv {K : PySem.W.Frag} {s : Cs} : ∀ {ps : List PV} {vs : List V}, Paired (avS K s) (ps.map AV.pv) vs → Al s.G (rPs K ps) vs
  | [], _, .nil => .nil
  | _ :: _, _, .cons h t => .cons h (al_of_pv t)
/-- a def of values alone -/
def acP {ι : Type} (pre : ι → Prop) (args : ι → List PV) (res : ι → PV) : AC := fun avs A k => ∃ i, avs = (args i).map AV.pv ∧ A = [] ∧ pre i ∧ k (.pv (res i)) []
theorem le_P {K : PySem.W.Frag} {ι κ : Type} {pre : ι → Prop} {args : ι → List PV} {res : ι → PV} {pre' : κ → Hp → Hp → Prop} {args' : κ → List Rl} {res' : κ → Rl} (f : ι → κ) (h1 : ∀ i G H, pre i → pre' (f i) G H) (h2 : ∀ i, rPs K (args i) = args' (f i)) (h3 : ∀ i G v, (res' (f i)).P G v → (rPV K (res i)).P G v) :
    SpLe (spA K (acP pre args res)) (spP pre' args' res') := fun vs H Q E ⟨s, avs, Kc, e, r, p, ⟨i, ea, eA, hp, hk⟩, q⟩ => by
  subst e ea
  have al := al_of_pv p
  rw [h2] at al
  refine ⟨f i, s.G, r.le, h1 i s.G s.H hp, al, fun v G' H' g pv => ?_⟩
  have hl : s.A.length = 0 := by rw [eA]; rfl
  refine q (.pv (res i)) v { s with G := G', H := H' } (r.pure g) rfl (h3 i G' v pv) ?_
  show Kc (.pv (res i)) s.A
  rw [eA]
  exact hk
def ac_is_name : AC := acP (ι := Str) (fun x => x.length ≤ 100000) (fun x => [.str x]) (fun x => .bl (isName x))
theorem le_is_name {K : PySem.W.Frag} : SpLe (spA K ac_is_name) sp_is_name := le_P id (fun _ _ _ h => h) (fun _ => rfl) (fun _ _ _ h => h)
/-! ### Book(rows) -/
def aBook (C : Addr) (r : aTA) : aTE := fun sa A k => r sa A fun avs A1 => ∃ ns ts, avs = [.pv (pRows ns ts)] ∧ BookOk ns ts ∧ k (.pv (pBook C ns ts)) A1
end TH
namespace TH
open PySem PySem.Spec PyProof.Rows L2
variable [TC : TabC]
local macro_rules
  | `(tactic| dsimp! only [$ts,*]) => `(tactic| simp only [aDisp, aPairs, fMulS, fSub, aIsi, aIsiT, tyOf, vty, PV.ty, aCall0D, aJoin, aSeq, aIfS, aTest, aOp, aVar, aC, aCp, aRet, aRetN, aRetZ, aDrop, aNext, aBreak, aCont, aAsg, aAsgN, aGTup, aGCons, aGNil, aName, aUn, aUnN, aOpN, aFz, aTup, aLst, aIList, aIListP, aITup, aIEnum, aIEnumT, aIRng, aIStr, aYes, aCall0, aCall0N, aCall1, aMeth0, aMeth1, aMake, aCons, aNil, aWipe, aNotV, aAndV, aOrV, aIf, aAnd, aOr, aNot, aChain, aDGet, aDIn, aDPut, aApp, aAug, aPar, aSFld, aSFldN, aFld, aFldF, aSlT, aSlL, aRevL, aPO, aPO0, aBook, fIsN, fNotN, fEq, fNe, fI0, fI, fAddS, fAny, fAll, fIxL, fIxT, fIxS, fIn, fSign, fLen, fLenS, fList, fTuple, fInt, fMax2, fCat, fRep, fCatT, fEqD, fNeD, startA, aEnd, viewT, viewL, viewS, viewF, viewD, pvs, aoAt, aoSub, aoSet, aoPut, foPut, putFo, AO.fz, AO.fz.fzs, PV.isNon, AV.clsAt, keyOf, vdat, PV.dat, PV.dat.dats, viewDat, numP, List.getElem?_cons_zero, List.getElem?_cons_succ, List.getElem?_nil, List.set_cons_zero, List.set_cons_succ, List.map_cons, List.map_nil, List.cons_append, List.nil_append, List.append_nil, List.replicate_succ, List.replicate_zero, List.length_cons, List.length_nil, List.take_zero, List.take_succ_cons, List.take_nil, Nat.reduceAdd, Nat.reduceSub, Nat.reduceLT, Nat.reduceLeDiff, if_true, if_false, reduceIte, Option.map_some, Option.map_none, Option.bind_some, Option.bind_none, Bool.false_eq_true, Bool.not_true, Bool.not_false, List.lookup_cons, List.lookup_nil, Option.some.injEq, exists_eq_left', exists_eq_left, exists_and_left, AO.ins.injEq, AO.lst.injEq, AO.dK.injEq, Nat.zero_add, ite_true, ite_false, List.cons.injEq, AV.pv.injEq, PV.v.injEq, AV.loc.injEq, and_self, bools_map, decide_true, decide_false, true_and, and_true, decide_eq_true_eq, V.str.injEq, V.int.injEq, V.bl.injEq, scalS, scalI, scalB, inV_s, vals_s, vals_s', flat_s, flat_1, inV_b, vals_b, flat_b, pstrs_s, reduceCtorEq, ofS_beq, ofS_eq, String.reduceBEq, String.reduceEq, $ts,*])
local macro_rules
  | `(tactic| dsimp! [$ts,*]) => `(tactic| simp (config := {maxSteps := 2000000}) only [aDisp, aPairs, fMulS, fSub, aIsi, aIsiT, tyOf, vty, PV.ty, aCall0D, aJoin, aSeq, aIfS, aTest, aOp, aVar, aC, aCp, aRet, aRetN, aRetZ, aDrop, aNext, aBreak, aCont, aAsg, aAsgN, aGTup, aGCons, aGNil, aName, aUn, aUnN, aOpN, aFz, aTup, aLst, aIList, aIListP, aITup, aIEnum, aIEnumT, aIRng, aIStr, aYes, aCall0, aCall0N, aCall1, aMeth0, aMeth1, aMake, aCons, aNil, aWipe, aNotV, aAndV, aOrV, aIf, aAnd, aOr, aNot, aChain, aDGet, aDIn, aDPut, aApp, aAug, aPar, aSFld, aSFldN, aFld, aFldF, aSlT, aSlL, aRevL, aPO, aPO0, aBook, fIsN, fNotN, fEq, fNe, fI0, fI, fAddS, fAny, fAll, fIxL, fIxT, fIxS, fIn, fSign, fLen, fLenS, fList, fTuple, fInt, fMax2, fCat, fRep, fCatT, fEqD, fNeD, startA, aEnd, viewT, viewL, viewS, viewF, viewD, pvs, aoAt, aoSub, aoSet, aoPut, foPut, putFo, AO.fz, AO.fz.fzs, PV.isNon, AV.clsAt, keyOf, vdat, PV.dat, PV.dat.dats, viewDat, numP, List.getElem?_cons_zero, List.getElem?_cons_succ, List.getElem?_nil, List.set_cons_zero, List.set_cons_succ, List.map_cons, List.map_nil, List.cons_append, List.nil_append, List.append_nil, List.replicate_succ, List.replicate_zero, List.length_cons, List.length_nil, List.take_zero, List.take_succ_cons, List.take_nil, Nat.reduceAdd, Nat.reduceSub, Nat.reduceLT, Nat.reduceLeDiff, if_true, if_false, reduceIte, Option.map_some, Option.map_none, Option.bind_some, Option.bind_none, Bool.false_eq_true, Bool.not_true, Bool.not_false, List.lookup_cons, List.lookup_nil, Option.some.injEq, exists_eq_left', exists_eq_left, exists_and_left, AO.ins.injEq, AO.lst.injEq, AO.dK.injEq, Nat.zero_add, ite_true, ite_false, List.cons.injEq, AV.pv.injEq, PV.v.injEq, AV.loc.injEq, and_self, bools_map, decide_true, decide_false, true_and, and_true, decide_eq_true_eq, V.str.injEq, V.int.injEq, V.bl.injEq, scalS, scalI, scalB, inV_s, vals_s, vals_s', flat_s, flat_1, inV_b, vals_b, flat_b, pstrs_s, reduceCtorEq, ofS_beq, ofS_eq, String.reduceBEq, String.reduceEq, $ts,*])
/-! ### the words of a text -/
def wordsM (z : Str) : List Str := Txt.words (Txt.replace (Txt.replace z "(" " ( ") ")" " ) ")
def sp_words : Sp := fun vs H Q _ => ∃ z : Str, vs = [.str z] ∧ z.length ≤ 3000 ∧ ∀ p, H p = none → Q (.ref p) (upd H p (.lst ((wordsM z).map V.str)))
theorem rep_len (z y u : Str) (n : Nat) (hz : z.length ≤ n) (hu : u.length = 3) : (Txt.replace z y u).length ≤ 4 * n + 3 := by
  have := TK.replace_len z y u
  rw [hu] at this
  omega
section
variable {P : Program} {w : World} {K : PySem.W.Frag} {mg : Str → Option Value} {base : Heap} {f : Addr} {fd : FuncData}
theorem sc_words_of : FnScope ["text"] ["text"] (defScope s_words_of) := ⟨rfl, rfl, rfl, by decide +kernel, rfl, by decide +kernel, by decide +kernel⟩
theorem fnT_words_of (F : FnP K "words_of" "words_of" s_words_of f fd) : FnT P w K mg base CX0 1 f fd ["text"] sp_words := by
  refine fnT_by F sc_words_of (fun vs H Q E h => ?_) fun cdv A outer s H vs Q E hr h => ⟨_, psst1 (pst_ret (pet_bm0 PySem.F.plainAttrs_str PySem.F.slot_str_split PySem.F.type_str_split mt_words (pet_replace (pet_replace (PET.of (pv 0)))))), ?_⟩
  · obtain ⟨z, e, _⟩ := h
    rw [e]
    rfl
  · obtain ⟨z, rfl, hz, q⟩ := h
    have l1 := rep_len z "(" " ( " 3000 hz rfl
    have l2 := rep_len (Txt.replace z "(" " ( ") ")" " ) " _ l1 rfl
    refine ⟨.str z, rfl, z, rfl, ?_, Txt.replace z "(" " ( ", rfl, ?_, rfl, Txt.replace (Txt.replace z "(" " ( ") ")" " ) ", rfl, rfl, ?_, q⟩
    · show z.length + (z.length + 1) * 3 ≤ _
      omega
    · show (Txt.replace z "(" " ( ").length + ((Txt.replace z "(" " ( ").length + 1) * 3 ≤ _
      omega
    · exact Nat.le_trans (show (Txt.replace (Txt.replace z "(" " ( ") ")" " ) ").length + 2 ≤ 100000 by omega) (by decide)
end
/-! ### texts that choose: trees, the parser in Lean -/
inductive Tree where
  | node (w : Str) (l : List Tree)
/-- the parts' relation to values -/
def rTree (K : PySem.W.Frag) : Tree → Rl
  | .node w l => rTup K [rStr w, rLsH (rTrees l)]
where
  rTrees : List Tree → List Rl
    | [] => []
    | t :: r => rTree K t :: rTrees r
abbrev PR := Option (Tree × Nat)
def wAt (ws : List Str) (i : Nat) : Str := ws.getD i ""
/-- (p and p ..), from behind the first p -/
def pLoop (ws : List Str) (word : Str) (p : Nat → PR) : Nat → Nat → List Tree → Option (List Tree × Nat)
  | 0, _, _ => none
  | f + 1, i, acc => if wAt ws i = word then (p (i + 1)).bind fun q => pLoop ws word p f q.2 (acc ++ [q.1]) else some (acc, i)
def pJoin (ws : List Str) (word : Str) (p : Nat → PR) (i : Nat) : PR := (p i).bind fun q => (pLoop ws word p (ws.length + 1) q.2 [q.1]).map fun r => (.node word r.1, r.2)
def pName (ws : List Str) (i : Nat) : PR := if isName (wAt ws i) then some (.node (wAt ws i) [], i + 1) else none
/-- n: how much deeper it may go -/
def pNot (ws : List Str) : Nat → Nat → PR
  | 0, i => if wAt ws i = "not" ∨ wAt ws i = "(" then none else pName ws i
  | n + 1, i =>
    if wAt ws i = "not" then (pNot ws n (i + 1)).map fun q => (.node "not" [q.1], q.2)
    else if wAt ws i = "(" then (pJoin ws "or" (pJoin ws "and" (pNot ws n)) (i + 1)).bind fun q => if wAt ws q.2 = ")" then some (q.1, q.2 + 1) else none
    else pName ws i
def pAnd (ws : List Str) (n : Nat) : Nat → PR := pJoin ws "and" (pNot ws n)
def pOr (ws : List Str) (n : Nat) : Nat → PR := pJoin ws "or" (pAnd ws n)
/-- the whole text: none where it is refused; none inside where there are no words -/
def pAll (ws : List Str) : Option (Option Tree) := if ws = [] then some none else (pOr ws 20 0).bind fun q => if q.2 < ws.length then none else some (some q.1)
/-- which things a tree chooses -/
def isTrue (names : List Str) : Tree → Bool
  | .node w l => if w = "or" then anyT l else if w = "and" then allT l else if w = "not" then !(headT l) else decide (w ∈ names)
where
  anyT : List Tree → Bool
    | [] => false
    | t :: r => isTrue names t || anyT r
  allT : List Tree → Bool
    | [] => true
    | t :: r => isTrue names t && allT r
  headT : List Tree → Bool
    | [] => false
    | t :: _ => isTrue names t
theorem anyT_eq (names : List Str) : ∀ l : List Tree, isTrue.anyT names l = l.any (isTrue names)
  | [] => rfl
  | t :: r => by
    show (isTrue names t || isTrue.anyT names r) = _
    rw [anyT_eq names r]
    rfl
theorem allT_eq (names : List Str) : ∀ l : List Tree, isTrue.allT names l = l.all (isTrue names)
  | [] => rfl
  | t :: r => by
    show (isTrue names t && isTrue.allT names r) = _
    rw [allT_eq names r]
    rfl
/-! ### a method of a thing that may change -/
section
variable {K : PySem.W.Frag} {M : Md} {σ : L2.St} {G H : Hp} {ta : TE} {t : TA} {rs : List Rl} {E : XK} {C dx p : Addr} {fs : List (Str × V)} {m : Str}
end
/-- a Chooser at p: its words, where it is, how deep -/
def ChAt (K : PySem.W.Frag) (C p dx wl : Addr) (ws : List Str) (i d : Nat) (G H : Hp) : Prop := H p = some (.ins C dx [("words", .ref wl), ("at", .int (i : Nat)), ("deep", .int (d : Nat))]) ∧ (rLst K (ws.map rStr)).P G (.ref wl)
/-! ### Chooser.here -/
structure TopChs (K : PySem.W.Frag) (mg : Str → Option Value) (C : Addr) : Prop where
  cl : Cls K C
  n_words : NoAttr K C "words"
  n_at : NoAttr K C "at"
  n_deep : NoAttr K C "deep"
  c_OR : ∃ u, mg "OR" = some u ∧ RelV (.str "or") u
  c_AND : ∃ u, mg "AND" = some u ∧ RelV (.str "and") u
  c_NOT : ∃ u, mg "NOT" = some u ∧ RelV (.str "not") u
  c_MOST_WITHIN : ∃ u, mg "MOST_WITHIN" = some u ∧ RelV (.int 20) u
section
variable {P : Program} {w : World} {K : PySem.W.Frag} {mg : Str → Option Value} {base : Heap} {f : Addr} {fd : FuncData} {C : Addr}
theorem sc_Chooser_here : FnScope ["self"] ["self"] (defScope s_Chooser_here) := ⟨rfl, rfl, rfl, by decide +kernel, rfl, by decide +kernel, by decide +kernel⟩
end
/-! ### reading on: a method that reads one part, one that reads some of them -/
theorem ChAt.gr {K : PySem.W.Frag} {C p dx wl : Addr} {ws : List Str} {i d : Nat} {G H G' H' : Hp} {W : List Addr} (h : ChAt K C p dx wl ws i d G H) (g : Gr W G H G' H') (n : p ∉ W) : ChAt K C p dx wl ws i d G' H' := ⟨g.hh p _ h.1 n, Rl.mono _ g.gg h.2⟩
section
variable {K : PySem.W.Frag} {mg : Str → Option Value} {C p dx wl : Addr} {ws : List Str} {i d i' : Nat} {G H : Hp} {fn : List Str → Nat → PR} {n j : Nat} {t : Tree} {m word : Str} {E : XK} {Q : VK} {σ : L2.St} {D : Ends} {tz : TS}
end
section
variable {K : PySem.W.Frag} {mg : Str → Option Value} {C p dx wl : Addr} {ws : List Str} {i d i' : Nat} {G H : Hp} {n j : Nat} {E : XK} {σ : L2.St} {D : Ends} {tz : TS}
end
section
variable {K : PySem.W.Frag} {mg : Str → Option Value} {C p dx wl : Addr} {ws : List Str} {i d i' : Nat} {G H : Hp} {n j : Nat} {E : XK} {σ : L2.St} {D : Ends}
end
section
variable {K : PySem.W.Frag} {mg : Str → Option Value} {C p dx wl : Addr} {ws : List Str} {i d i' : Nat} {G H : Hp} {fn : List Str → Nat → PR} {n : Nat} {t : Tree} {m word : Str} {D : Ends}
end
section
variable {P : Program} {w : World} {K : PySem.W.Frag} {mg : Str → Option Value} {base : Heap} {f : Addr} {fd : FuncData} {C : Addr}
theorem sc_Chooser_read_and : FnScope ["self", "found"] ["self"] (defScope s_Chooser_read_and) := ⟨rfl, rfl, rfl, by decide +kernel, rfl, by decide +kernel, by decide +kernel⟩
theorem sc_Chooser_read_or : FnScope ["self", "found"] ["self"] (defScope s_Chooser_read_or) := ⟨rfl, rfl, rfl, by decide +kernel, rfl, by decide +kernel, by decide +kernel⟩
end
section
variable {P : Program} {w : World} {K : PySem.W.Frag} {mg : Str → Option Value} {base : Heap} {f : Addr} {fd : FuncData} {C : Addr}
theorem sc_Chooser_read_not : FnScope ["self", "word", "found"] ["self"] (defScope s_Chooser_read_not) := ⟨rfl, rfl, rfl, by decide +kernel, rfl, by decide +kernel, by decide +kernel⟩
end
/-! ### trees as plain values -/
def pTree : Tree → PV
  | .node w l => .tup [.str w, .lst (pTrees l)]
where
  pTrees : List Tree → List PV
    | [] => []
    | t :: r => pTree t :: pTrees r
theorem pTrees_map : ∀ l : List Tree, pTree.pTrees l = l.map pTree
  | [] => rfl
  | t :: r => congrArg (pTree t :: ·) (pTrees_map r)
mutual
theorem r_tree (K : PySem.W.Frag) : ∀ t : Tree, rPV K (pTree t) = rTree K t
  | .node w l => by
    show rTup K [rStr w, rLsH (rPs K (pTree.pTrees l))] = rTup K [rStr w, rLsH (rTree.rTrees K l)]
    rw [r_trees K l]
theorem r_trees (K : PySem.W.Frag) : ∀ l : List Tree, rPs K (pTree.pTrees l) = rTree.rTrees K l
  | [] => rfl
  | t :: r => by
    show rPV K (pTree t) :: rPs K (pTree.pTrees r) = rTree K t :: rTree.rTrees K r
    rw [r_tree K t, r_trees K r]
end
def pTreeO : Option Tree → PV
  | none => .non
  | some t => pTree t
def isTrueO (names : List Str) : Option Tree → Bool
  | none => true
  | some t => isTrue names t
/-- so deep at most, and every not has a part -/
def TD : Nat → Tree → Prop
  | 0, .node w l => l = [] ∧ w ≠ "not"
  | n + 1, .node w l => ((w = "not" → l ≠ []) ∧ l.length ≤ 100000) ∧ ∀ t ∈ l, TD n t
def TDO (n : Nat) : Option Tree → Prop
  | none => True
  | some t => TD n t
structure TopOr (K : PySem.W.Frag) (mg : Str → Option Value) : Prop where
  c_OR : ∃ u, mg "OR" = some u ∧ RelV (.str "or") u
  c_AND : ∃ u, mg "AND" = some u ∧ RelV (.str "and") u
  c_NOT : ∃ u, mg "NOT" = some u ∧ RelV (.str "not") u
section
variable {P : Program} {w : World} {K : PySem.W.Frag} {mg : Str → Option Value} {base : Heap} {f : Addr} {fd : FuncData}
end
/-! ### a Chooser made -/
def pStrsL (xs : List Str) : PV := .lst (xs.map PV.str)
/-- a Chooser -/
def oCh (C : Addr) (ws : List Str) (i d : Nat) : AO := .ins C [("words", .pv (pStrsL ws)), ("at", .pv (.int i)), ("deep", .pv (.int d))]
def aWords (r : aTA) : aTN := fun sa A k => r sa A fun avs A1 => ∃ z : Str, avs = [.pv (.str z)] ∧ z.length ≤ 3000 ∧ k (.lst ((wordsM z).map PV.str)) A1
theorem sim_words {K : PySem.W.Frag} {m : Bool} {r : aTA} {t : TA} {E : XK} (ha : SimA K m r t) : SimN K m (aWords r) (tCall sp_words [] E t) := fun {B s sa σ} rp g {Kc Q} q h =>
  ha rp g (fun avs vs s1 e1 ps k => by
    obtain ⟨z, rfl, hz, k⟩ := k
    cases ps with
    | cons p ps =>
      cases ps
      rename_i v
      obtain rfl : v = .str z := p
      refine ⟨z, rfl, hz, fun p hp => ?_⟩
      have n := newH_lst (K := K) (xs := (wordsM z).map PV.str) e1.rep hp (by rw [rPs_of K (g := rStr) fun _ => rfl]; exact Al.of_vals (f := V.str))
      exact q _ _ _ _ (n.at e1.rep e1).1 (n.at e1.rep e1).2 k) h
def ac_chinit (C : Addr) : AC := fun avs A k => ∃ z : Str, avs = [.loc 0 [], .pv (.str z)] ∧ A = [.ins C []] ∧ z.length ≤ 3000 ∧ k (.pv (.v .non)) [oCh C (wordsM z) 0 0]
section
variable {P : Program} {w : World} {K : PySem.W.Frag} {mg : Str → Option Value} {base : Heap} {f : Addr} {fd : FuncData} {C : Addr}
theorem sc_Chooser___init__ : FnScope ["self", "text"] ["self", "text"] (defScope s_Chooser___init__) := ⟨rfl, rfl, rfl, by decide +kernel, rfl, by decide +kernel, by decide +kernel⟩
theorem fn_chinit (F : FnP K "__init__" "Chooser.__init__" s_Chooser___init__ f fd) (T : Top K mg) (B : TopChs K mg C) (c_words_of : CalT P w K mg base 1 "words_of" sp_words []) : FnT P w K mg base CX0 2 f fd ["self", "text"] (spA K (ac_chinit C)) := by
  refine fnAT (n0 := 1) F sc_Chooser___init__ (fun avs A Kc ⟨z, e, eA, _⟩ => ⟨by rw [e]; rfl, by rw [eA]; rfl⟩) (fun cdv A outer s H E hr => ⟨_, (psst_cons (pst_fld (pv 0) (pet_c c_words_of hr (by first | decide | omega) rfl (@PAT.of _ _ _ (pa_cons (pv 1) pa_nil (star_Name _ _))) (he := (star_Name _ _))) rfl) (PSsT.of (pss_cons (ps_fld (pv 0) pe_int rfl) (pss_one (ps_fld (pv 0) pe_int rfl))))),
  (sim_seq (sim_sfld B.cl B.n_words (sim_fz (sim_words (sim_cons sim_var sim_nil))) sim_var) (sim_seq (sim_sfld B.cl B.n_at sim_c sim_var) (sim_sfld B.cl B.n_deep sim_c sim_var)))⟩) ?_
  rintro avs A Kc ⟨z, rfl, rfl, hz, hK⟩
  dsimp! only [aWords]
  exact ⟨hz, hK⟩
end
/-! ### a Chooser reads -/
theorem eqv_list_strs (xs : List Str) : PyData.eqv (.list (xs.map PyData.str)) (.list []) = xs.isEmpty := by cases xs <;> rfl
theorem dats_strs (xs : List Str) : PV.dat.dats (xs.map PV.str) = some (xs.map PyData.str) := dats_map (f := PV.str) (g := PyData.str) (fun _ => rfl) xs
section
variable {P : Program} {w : World} {K : PySem.W.Frag} {mg : Str → Option Value} {base : Heap} {f : Addr} {fd : FuncData} {C : Addr}
theorem sc_Chooser_read_all : FnScope ["self", "found"] ["self"] (defScope s_Chooser_read_all) := ⟨rfl, rfl, rfl, by decide +kernel, rfl, by decide +kernel, by decide +kernel⟩
end
/-! ### C(..).m(): a thing made, asked at once, let go -/
/-! ### the tries that a text chooses -/
def trNames (t : Tr) : List Str := t.nm :: t.hs :: t.gp :: t.ms
structure ChOk (ts : List Tr) (z : Str) (o : Option Tree) : Prop where
  len : z.length ≤ 3000
  ws : (wordsM z).length ≤ 50000
  ok : ∀ x ∈ wordsM z, PyData.strOk x = true
  all : pAll (wordsM z) = some o
  td : TDO 42 o
  few : ts.length ≤ 30
  ms : ∀ t ∈ ts, t.ms.length ≤ 900
section
variable {P : Program} {w : World} {K : PySem.W.Frag} {mg : Str → Option Value} {base : Heap} {f : Addr} {fd : FuncData} {C CB : Addr}
theorem sc_chosen_numbers : FnScope ["book", "only", "told", "found", "number", "name", "house", "group", "others", "marks", "times", "is_expected"] ["book", "only"] (defScope s_chosen_numbers) := ⟨rfl, rfl, rfl, by decide +kernel, rfl, by decide +kernel, by decide +kernel⟩
end
/-! ### chosen -/
section
variable {P : Program} {w : World} {K : PySem.W.Frag} {mg : Str → Option Value} {base : Heap} {f : Addr} {fd : FuncData} {CB : Addr}
theorem sc_chosen : FnScope ["rows", "only", "book", "number"] ["rows", "only"] (defScope s_chosen) := ⟨rfl, rfl, rfl, by decide +kernel, rfl, by decide +kernel, by decide +kernel⟩
end
/-! ### what the parser makes of joined words -/
/-- the reader fn takes the words W, wherever they stand, ahead of words that ok allows -/
def Ps (ok : Str → Prop) (fn : List Str → Nat → PR) (W : List Str) (t : Tree) : Prop := ∀ pre post : List Str, ok (wAt post 0) → fn (pre ++ W ++ post) pre.length = some (t, pre.length + W.length)
theorem wAt_app (pre l : List Str) : wAt (pre ++ l) pre.length = wAt l 0 := by
  unfold wAt
  rw [List.getD_eq_getElem?_getD, List.getD_eq_getElem?_getD, List.getElem?_append_right (Nat.le_refl _), Nat.sub_self]
/-- word X word Y .. -/
def wTail (word : Str) : List (List Str × Tree) → List Str
  | [] => []
  | x :: r => word :: (x.1 ++ wTail word r)
theorem wTail_len (word : Str) : ∀ l : List (List Str × Tree), l.length ≤ (wTail word l).length
  | [] => Nat.le_refl _
  | x :: r => by
    have := wTail_len word r
    show r.length + 1 ≤ (x.1 ++ wTail word r).length + 1
    rw [List.length_append]
    omega
theorem wTail_head {word : Str} {ok : Str → Prop} (h : ok word) : ∀ (l : List (List Str × Tree)) (post : List Str), ok (wAt post 0) → ok (wAt (wTail word l ++ post) 0)
  | [], _, hp => hp
  | _ :: _, _, _ => h
theorem loop_run {ok : Str → Prop} {fn : List Str → Nat → PR} {word : Str} (hw : ok word) : ∀ (l : List (List Str × Tree)), (∀ x ∈ l, Ps ok fn x.1 x.2) → ∀ (pre post : List Str) (f : Nat) (acc : List Tree), ok (wAt post 0) → wAt post 0 ≠ word → l.length < f →
    pLoop (pre ++ wTail word l ++ post) word (fn (pre ++ wTail word l ++ post)) f pre.length acc = some (acc ++ l.map (·.2), pre.length + (wTail word l).length)
  | [], _, pre, post, f + 1, acc, hp, hn, _ => by
    have e : wAt (pre ++ wTail word [] ++ post) pre.length = wAt post 0 := by
      show wAt (pre ++ [] ++ post) pre.length = _
      rw [List.append_nil, wAt_app]
    rw [pLoop, e, if_neg hn]
    show some (acc, pre.length) = some (acc ++ [], pre.length + 0)
    rw [List.append_nil, Nat.add_zero]
  | x :: r, hx, pre, post, f + 1, acc, hp, hn, hf => by
    have e : wAt (pre ++ wTail word (x :: r) ++ post) pre.length = word := by
      rw [List.append_assoc, wAt_app]
      rfl
    have e1 : pre ++ wTail word (x :: r) ++ post = (pre ++ [word]) ++ x.1 ++ (wTail word r ++ post) := by
      show pre ++ (word :: (x.1 ++ wTail word r)) ++ post = _
      simp only [List.append_assoc, List.cons_append, List.nil_append]
    have e2 : pre ++ wTail word (x :: r) ++ post = (pre ++ [word] ++ x.1) ++ wTail word r ++ post := by
      rw [e1]
      simp only [List.append_assoc]
    have l1 : (pre ++ [word]).length = pre.length + 1 := by rw [List.length_append]; rfl
    have l2 : (pre ++ [word] ++ x.1).length = pre.length + 1 + x.1.length := by rw [List.length_append, l1]
    have h1 := hx x List.mem_cons_self (pre ++ [word]) (wTail word r ++ post) (wTail_head hw r post hp)
    rw [← e1, l1] at h1
    have h2 := loop_run hw r (fun y hy => hx y (List.mem_cons_of_mem _ hy)) (pre ++ [word] ++ x.1) post f (acc ++ [x.2]) hp hn (Nat.lt_of_succ_lt_succ hf)
    rw [← e2, l2] at h2
    rw [pLoop, e, if_pos rfl, h1]
    show pLoop _ word _ f (pre.length + 1 + x.1.length) (acc ++ [x.2]) = _
    rw [h2]
    show some (acc ++ [x.2] ++ r.map (·.2), _) = some (acc ++ (x.2 :: r.map (·.2)), pre.length + ((x.1 ++ wTail word r).length + 1))
    rw [List.append_assoc, List.length_append]
    refine congrArg some (Prod.ext rfl ?_)
    show pre.length + 1 + x.1.length + (wTail word r).length = _
    omega
theorem join_ps {ok : Str → Prop} {fn : List Str → Nat → PR} {word : Str} (hw : ok word) {W : List Str} {t : Tree} {l : List (List Str × Tree)} (h : Ps ok fn W t) (hl : ∀ x ∈ l, Ps ok fn x.1 x.2) :
    Ps (fun z => ok z ∧ z ≠ word) (fun ws => pJoin ws word (fn ws)) (W ++ wTail word l) (.node word (t :: l.map (·.2))) := fun pre post hp => by
  have e1 : pre ++ (W ++ wTail word l) ++ post = pre ++ W ++ (wTail word l ++ post) := by simp only [List.append_assoc]
  have e2 : pre ++ (W ++ wTail word l) ++ post = (pre ++ W) ++ wTail word l ++ post := by simp only [List.append_assoc]
  have h1 := h pre (wTail word l ++ post) (wTail_head hw l post hp.1)
  have h2 := loop_run hw l hl (pre ++ W) post ((pre ++ (W ++ wTail word l) ++ post).length + 1) [t] hp.1 hp.2 (by
    have := wTail_len word l
    simp only [List.length_append]
    omega)
  rw [← e1] at h1
  rw [← e2, (List.length_append : (pre ++ W).length = _)] at h2
  show (fn _ pre.length).bind _ = _
  rw [h1]
  show (pLoop _ word _ _ (pre.length + W.length) [t]).map _ = _
  rw [h2]
  show some (Tree.node word (t :: l.map (·.2)), pre.length + W.length + (wTail word l).length) = _
  rw [List.length_append, Nat.add_assoc]
theorem Ps.weak {ok ok' : Str → Prop} {fn : List Str → Nat → PR} {W : List Str} {t : Tree} (h : Ps ok fn W t) (w : ∀ z, ok' z → ok z) : Ps ok' fn W t := fun pre post hp => h pre post (w _ hp)
/-! ### depth -/
theorem TD.up : ∀ {n : Nat} {t : Tree}, TD n t → ∀ {m : Nat}, n ≤ m → TD m t
  | 0, .node _ _, h, 0, _ => h
  | 0, .node w l, h, m + 1, _ => by
    have h : l = [] ∧ w ≠ "not" := h
    obtain ⟨rfl, h2⟩ := h
    exact ⟨⟨fun e => absurd e h2, by decide⟩, fun t ht => nomatch ht⟩
  | n + 1, .node w l, h, 0, hm => absurd hm (Nat.not_succ_le_zero n)
  | n + 1, .node w l, h, m + 1, hm => ⟨h.1, fun t ht => TD.up (h.2 t ht) (Nat.le_of_succ_le_succ hm)⟩
/-! ### words that say f of a thing's names -/
abbrev NmF := List Str → Bool
structure RN (d k : Nat) (W : List Str) (f : NmF) : Prop where
  ex : ∃ t, (∀ n, d ≤ n → Ps (fun _ => True) (fun ws => pNot ws n) W t) ∧ TD k t ∧ ∀ names, isTrue names t = f names
  ok : ∀ x ∈ W, PyData.strOk x = true
structure RA (d k : Nat) (W : List Str) (f : NmF) : Prop where
  ex : ∃ t, (∀ n, d ≤ n → Ps (fun z => z ≠ "and") (fun ws => pAnd ws n) W t) ∧ TD k t ∧ ∀ names, isTrue names t = f names
  ok : ∀ x ∈ W, PyData.strOk x = true
structure RO (d k : Nat) (W : List Str) (f : NmF) : Prop where
  ex : ∃ t, (∀ n, d ≤ n → Ps (fun z => z ≠ "and" ∧ z ≠ "or") (fun ws => pOr ws n) W t) ∧ TD k t ∧ ∀ names, isTrue names t = f names
  ok : ∀ x ∈ W, PyData.strOk x = true
theorem RN.name {d k : Nat} {w : Str} (h : isName w = true) (h1 : w ≠ "not") (h2 : w ≠ "(") (h3 : w ≠ "or") (h4 : w ≠ "and") : RN d (k + 1) [w] (fun names => decide (w ∈ names)) := by
  refine ⟨⟨.node w [], fun n _ pre post _ => ?_, ⟨⟨fun e => absurd e h1, by decide⟩, fun _ h => nomatch h⟩, fun names => ?_⟩, fun x hx => ?_⟩
  · have e : wAt (pre ++ [w] ++ post) pre.length = w := by
      rw [List.append_assoc, wAt_app]
      rfl
    have e2 : pName (pre ++ [w] ++ post) pre.length = some (.node w [], pre.length + 1) := by
      unfold pName
      rw [e, if_pos h]
    cases n with
    | zero =>
      show (if _ then _ else _) = _
      rw [e, if_neg (fun z => z.elim h1 h2)]
      exact e2
    | succ n =>
      show (if _ then _ else _) = _
      rw [e, if_neg h1, if_neg h2]
      exact e2
  · rw [isTrue, if_neg h3, if_neg h4, if_neg h1]
  · rw [List.mem_singleton] at hx
    rw [hx]
    exact letters_ok h
theorem RN.up {d d' k k' : Nat} {W : List Str} {f : NmF} (h : RN d k W f) (hd : d ≤ d') (hk : k ≤ k') : RN d' k' W f :=
  let ⟨t, a, b, c⟩ := h.ex
  ⟨⟨t, fun n hn => a n (Nat.le_trans hd hn), b.up hk, c⟩, h.ok⟩
theorem RN.not {d k : Nat} {W : List Str} {f : NmF} (h : RN d k W f) : RN (d + 1) (k + 1) ("not" :: W) (fun names => !(f names)) := by
  obtain ⟨t, a, b, c⟩ := h.ex
  refine ⟨⟨.node "not" [t], fun n hn pre post hp => ?_, ⟨⟨fun _ => List.cons_ne_nil _ _, show 1 ≤ 100000 by decide⟩, fun x hx => by rw [List.mem_singleton] at hx; rw [hx]; exact b⟩, fun names => ?_⟩, fun x hx => ?_⟩
  · obtain ⟨n, rfl⟩ : ∃ m, n = m + 1 := ⟨n - 1, by omega⟩
    have e : wAt (pre ++ (Str.ofString "not" :: W) ++ post) pre.length = "not" := by
      rw [List.append_assoc, wAt_app]
      rfl
    have e1 : pre ++ ((Str.ofString "not") :: W) ++ post = (pre ++ [Str.ofString "not"]) ++ W ++ post := by simp only [List.append_assoc, List.cons_append, List.nil_append]
    have h1 := a n (by omega) (pre ++ [Str.ofString "not"]) post trivial
    rw [← e1, List.length_append] at h1
    show (if _ then _ else _) = _
    rw [e, if_pos rfl]
    show (pNot _ n (pre.length + 1)).map _ = _
    have h1 : pNot (pre ++ ((Str.ofString "not") :: W) ++ post) n (pre.length + 1) = _ := h1
    rw [h1]
    show some (Tree.node "not" [t], pre.length + 1 + W.length) = some (_, pre.length + (W.length + 1))
    rw [Nat.add_assoc, Nat.add_comm 1]
  · rw [isTrue, if_neg (by decide), if_neg (by decide), if_pos rfl]
    show (!(isTrue names t)) = _
    rw [c]
  · rcases List.mem_cons.mp hx with rfl | hx
    · decide +kernel
    · exact h.ok x hx
theorem RN.par {d k : Nat} {W : List Str} {f : NmF} (h : RO d k W f) : RN (d + 1) k ("(" :: (W ++ [Str.ofString ")"])) f := by
  obtain ⟨t, a, b, c⟩ := h.ex
  refine ⟨⟨t, fun n hn pre post hp => ?_, b, c⟩, fun x hx => ?_⟩
  · obtain ⟨n, rfl⟩ : ∃ m, n = m + 1 := ⟨n - 1, by omega⟩
    have e : wAt (pre ++ ((Str.ofString "(") :: (W ++ [Str.ofString ")"])) ++ post) pre.length = "(" := by
      rw [List.append_assoc, wAt_app]
      rfl
    have e1 : pre ++ ((Str.ofString "(") :: (W ++ [Str.ofString ")"])) ++ post = (pre ++ [Str.ofString "("]) ++ W ++ (Str.ofString ")" :: post) := by simp only [List.append_assoc, List.cons_append, List.nil_append]
    have h1 := a n (by omega) (pre ++ [Str.ofString "("]) (Str.ofString ")" :: post) ⟨by show Str.ofString ")" ≠ _; decide, by show Str.ofString ")" ≠ _; decide⟩
    have e2 : wAt (pre ++ ((Str.ofString "(") :: (W ++ [Str.ofString ")"])) ++ post) (pre.length + 1 + W.length) = ")" := by
      have : pre.length + 1 + W.length = (pre ++ [Str.ofString "("] ++ W).length := by simp only [List.length_append, List.length_cons, List.length_nil]
      rw [e1, this, wAt_app]
      rfl
    rw [← e1, List.length_append] at h1
    have h1 : pOr (pre ++ ((Str.ofString "(") :: (W ++ [Str.ofString ")"])) ++ post) n (pre.length + 1) = some (t, pre.length + 1 + W.length) := h1
    show (if _ then _ else _) = _
    rw [e, if_neg (by decide), if_pos rfl]
    show (pOr _ n (pre.length + 1)).bind _ = _
    rw [h1]
    show (if wAt _ (pre.length + 1 + W.length) = _ then _ else _) = _
    rw [e2, if_pos rfl]
    show some (t, pre.length + 1 + W.length + 1) = some (t, pre.length + ((W ++ [Str.ofString ")"]).length + 1))
    rw [List.length_append]
    refine congrArg some (Prod.ext rfl ?_)
    show pre.length + 1 + W.length + 1 = pre.length + (W.length + 1 + 1)
    omega
  · rcases List.mem_cons.mp hx with rfl | hx
    · decide +kernel
    · rcases List.mem_append.mp hx with hx | hx
      · exact h.ok x hx
      · rw [List.mem_singleton] at hx
        rw [hx]
        decide +kernel
/-- more parts -/
abbrev Pts := List (List Str × NmF)
def wTl (word : Str) : Pts → List Str
  | [] => []
  | x :: r => word :: (x.1 ++ wTl word r)
theorem parts_of {R : List Str → NmF → Prop} {Q : List Str → Tree → Prop} (hR : ∀ W f, R W f → ∃ t, Q W t ∧ ∀ names, isTrue names t = f names) (word : Str) : ∀ l : Pts, (∀ x ∈ l, R x.1 x.2) → ∃ ts : List (List Str × Tree), wTail word ts = wTl word l ∧ ts.length = l.length ∧ (∀ x ∈ ts, Q x.1 x.2) ∧ ∀ names, ts.map (fun x => isTrue names x.2) = l.map (fun x => x.2 names)
  | [], _ => ⟨[], rfl, rfl, fun x h => (nomatch h), fun _ => rfl⟩
  | x :: r, h => by
    obtain ⟨t, ht, hv⟩ := hR _ _ (h x List.mem_cons_self)
    obtain ⟨ts, e1, e2, e3, e4⟩ := parts_of hR word r fun y hy => h y (List.mem_cons_of_mem _ hy)
    refine ⟨(x.1, t) :: ts, ?_, by rw [List.length_cons, List.length_cons, e2], fun y hy => ?_, fun names => ?_⟩
    · show word :: (x.1 ++ wTail word ts) = word :: (x.1 ++ wTl word r)
      rw [e1]
    · rcases List.mem_cons.mp hy with rfl | hy
      · exact ht
      · exact e3 y hy
    · show isTrue names t :: ts.map (fun x => isTrue names x.2) = _
      rw [hv, e4]
      rfl
theorem wTl_ok {word : Str} (hw : PyData.strOk word = true) : ∀ (l : Pts), (∀ x ∈ l, ∀ y ∈ x.1, PyData.strOk y = true) → ∀ y ∈ wTl word l, PyData.strOk y = true
  | [], _, y, hy => nomatch hy
  | x :: r, h, y, hy => by
    rcases List.mem_cons.mp hy with rfl | hy
    · exact hw
    · rcases List.mem_append.mp hy with hy | hy
      · exact h x List.mem_cons_self y hy
      · exact wTl_ok hw r (fun z hz => h z (List.mem_cons_of_mem _ hz)) y hy
theorem RA.many {d k : Nat} {W : List Str} {f : NmF} {l : Pts} (h : RN d k W f) (hl : ∀ x ∈ l, RN d k x.1 x.2) (le : l.length ≤ 1000) : RA d (k + 1) (W ++ wTl "and" l) (fun names => f names && l.all fun x => x.2 names) := by
  obtain ⟨t, a, b, c⟩ := h.ex
  obtain ⟨ts, e1, e2, e3, e4⟩ := parts_of (R := RN d k) (Q := fun W t => (∀ n, d ≤ n → Ps (fun _ => True) (fun ws => pNot ws n) W t) ∧ TD k t) (fun W f h => let ⟨t, a, b, c⟩ := h.ex
    ⟨t, ⟨a, b⟩, c⟩) "and" l hl
  refine ⟨⟨.node "and" (t :: ts.map (·.2)), fun n hn => ?_, ⟨⟨fun e => absurd e (by decide), by rw [List.length_cons, List.length_map]; omega⟩, fun x hx => ?_⟩, fun names => ?_⟩, fun x hx => ?_⟩
  · have j := join_ps (word := "and") (ok := fun _ => True) (fn := fun ws => pNot ws n) trivial (a n hn) fun x hx => (e3 x hx).1 n hn
    rw [e1] at j
    exact j.weak fun z hz => ⟨trivial, hz⟩
  · rcases List.mem_cons.mp hx with rfl | hx
    · exact b
    · obtain ⟨y, hy, rfl⟩ := List.mem_map.mp hx
      exact (e3 y hy).2
  · have e : ts.all (fun x => isTrue names x.2) = l.all (fun x => x.2 names) := by
      have := congrArg (fun z => z.all id) (e4 names)
      simpa [List.all_map, Function.comp_def] using this
    rw [isTrue, if_neg (by decide), if_pos rfl, isTrue.allT, allT_eq, List.all_map, c names, ← e]
    rfl
  · rcases List.mem_append.mp hx with hx | hx
    · exact h.ok x hx
    · exact wTl_ok (by decide +kernel) l (fun y hy => (hl y hy).ok) x hx
theorem RO.many {d k : Nat} {W : List Str} {f : NmF} {l : Pts} (h : RA d k W f) (hl : ∀ x ∈ l, RA d k x.1 x.2) (le : l.length ≤ 1000) : RO d (k + 1) (W ++ wTl "or" l) (fun names => f names || l.any fun x => x.2 names) := by
  obtain ⟨t, a, b, c⟩ := h.ex
  obtain ⟨ts, e1, e2, e3, e4⟩ := parts_of (R := RA d k) (Q := fun W t => (∀ n, d ≤ n → Ps (fun z => z ≠ "and") (fun ws => pAnd ws n) W t) ∧ TD k t) (fun W f h => let ⟨t, a, b, c⟩ := h.ex
    ⟨t, ⟨a, b⟩, c⟩) "or" l hl
  refine ⟨⟨.node "or" (t :: ts.map (·.2)), fun n hn => ?_, ⟨⟨fun e => absurd e (by decide), by rw [List.length_cons, List.length_map]; omega⟩, fun x hx => ?_⟩, fun names => ?_⟩, fun x hx => ?_⟩
  · have j := join_ps (word := "or") (ok := fun z => z ≠ "and") (fn := fun ws => pAnd ws n) (by decide) (a n hn) fun x hx => (e3 x hx).1 n hn
    rw [e1] at j
    exact j
  · rcases List.mem_cons.mp hx with rfl | hx
    · exact b
    · obtain ⟨y, hy, rfl⟩ := List.mem_map.mp hx
      exact (e3 y hy).2
  · have e : ts.any (fun x => isTrue names x.2) = l.any (fun x => x.2 names) := by
      have := congrArg (fun z => z.any id) (e4 names)
      simpa [List.any_map, Function.comp_def] using this
    rw [isTrue, if_pos rfl, isTrue.anyT, anyT_eq, List.any_map, c names, ← e]
    rfl
  · rcases List.mem_append.mp hx with hx | hx
    · exact h.ok x hx
    · exact wTl_ok (by decide +kernel) l (fun y hy => (hl y hy).ok) x hx
theorem RA.up {d d' k k' : Nat} {W : List Str} {f : NmF} (h : RA d k W f) (hd : d ≤ d') (hk : k ≤ k') : RA d' k' W f :=
  let ⟨t, a, b, c⟩ := h.ex
  ⟨⟨t, fun n hn => a n (Nat.le_trans hd hn), b.up hk, c⟩, h.ok⟩
theorem RO.up {d d' k k' : Nat} {W : List Str} {f : NmF} (h : RO d k W f) (hd : d ≤ d') (hk : k ≤ k') : RO d' k' W f :=
  let ⟨t, a, b, c⟩ := h.ex
  ⟨⟨t, fun n hn => a n (Nat.le_trans hd hn), b.up hk, c⟩, h.ok⟩
theorem RN.one {d k : Nat} {W : List Str} {f : NmF} (h : RN d k W f) : RA d (k + 1) W f := by
  have := RA.many (l := []) h (fun _ h => nomatch h) (by decide)
  simpa [wTl] using this
theorem RA.one {d k : Nat} {W : List Str} {f : NmF} (h : RA d k W f) : RO d (k + 1) W f := by
  have := RO.many (l := []) h (fun _ h => nomatch h) (by decide)
  simpa [wTl] using this
/-- the whole text is read -/
theorem RO.all {d k : Nat} {W : List Str} {f : NmF} (h : RO d k W f) (hd : d ≤ 20) (hne : W ≠ []) : ∃ t, pAll W = some (some t) ∧ TD k t ∧ ∀ names, isTrue names t = f names := by
  obtain ⟨t, a, b, c⟩ := h.ex
  refine ⟨t, ?_, b, c⟩
  have h1 := a 20 hd [] [] ⟨by decide, by decide⟩
  rw [List.nil_append, List.append_nil] at h1
  have h1 : pOr W 20 0 = some (t, 0 + W.length) := h1
  unfold pAll
  rw [if_neg hne, h1]
  show (if 0 + W.length < W.length then _ else _) = _
  rw [if_neg (by omega)]
/-! ### _law_alike -/
section
variable {P : Program} {w : World} {K : PySem.W.Frag} {mg : Str → Option Value} {base : Heap} {f : Addr} {fd : FuncData}
theorem sc__law_alike : FnScope ["_law_found", "_law_due", "_law_k"] ["_law_found", "_law_due"] (defScope s__law_alike) := ⟨rfl, rfl, rfl, by decide +kernel, rfl, by decide +kernel, by decide +kernel⟩
theorem fn_law_alike {ps : List Str} (hps : ps = (["_law_found", "_law_due"] : List Str)) (F : FnP K "_law_alike" "_law_alike" s__law_alike f fd) (T : Top K mg) (W : ∀ k sp, FnOk P w K mg base CX0 k f fd ps sp → C8.Cal P w K mg base k "_law_alike" sp []) : ∀ n, FnOk P w K mg base CX0 n f fd ps (sp_alike K n)
  | 0 => ⟨fun _ _ _ _ h => False.elim h, fun _ _ _ _ _ _ _ _ _ _ _ _ _ h => False.elim h⟩
  | n + 1 => by
    have c_alike := W n _ (fn_law_alike hps F T W n)
    subst hps
    refine fn_pure F sc__law_alike (fun _ => rfl) fun cdv A outer s H E hr => ⟨_, (pss_cons (ps_if (pt_val (pe_callB (call_isiT) (by rfl) T.z_isinstance (by decide +kernel) (pa_cons (pv 1) (pa_cons (pe_tup (pa_cons (pe_bltn (v := .ty "tuple") rfl T.z_tuple (by decide +kernel) rfl) (pa_cons (pe_bltn (v := .ty "list") rfl T.z_list (by decide +kernel) rfl) pa_nil (star_Name _ _)) (star_Name _ _))) pa_nil (star_Tuple _ _ _)) (star_Name _ _)))) (pss_cons (ps_if (PW.pt (pw_or (pt_not (pt_val (pe_callB (call_isiT) (by rfl) T.z_isinstance (by decide +kernel) (pa_cons (pv 0) (pa_cons (pe_tup (pa_cons (pe_bltn (v := .ty "tuple") rfl T.z_tuple (by decide +kernel) rfl) (pa_cons (pe_bltn (v := .ty "list") rfl T.z_list (by decide +kernel) rfl) pa_nil (star_Name _ _)) (star_Name _ _))) pa_nil (star_Tuple _ _ _)) (star_Name _ _))))) (pw_or1 (pt_cmpR op_ne (pe_callB (call_isi) (by rfl) T.z_isinstance (by decide +kernel) (pa_cons (pv 0) (pa_cons (pe_bltn (v := .ty "list") rfl T.z_list (by decide +kernel) rfl) pa_nil (star_Name _ _)) (star_Name _ _))) (pe_callB (call_isi) (by rfl) T.z_isinstance (by decide +kernel) (pa_cons (pv 1) (pa_cons (pe_bltn (v := .ty "list") rfl T.z_list (by decide +kernel) rfl) pa_nil (star_Name _ _)) (star_Name _ _))) (nomark _))))) (pss_one (ps_ret pe_bl)) pss_nil) (pss_cons (ps_if (pt_cmpR op_ne (pe_callB (call_len_seq) (by rfl) T.z_len PySem.boot_len (pa_cons (pv 0) pa_nil (star_Name _ _))) (pe_callB (call_len_seq) (by rfl) T.z_len PySem.boot_len (pa_cons (pv 1) pa_nil (star_Name _ _))) (nomark _)) (pss_one (ps_ret pe_bl)) pss_nil) (pss_one (ps_ret (pe_cmpR (op_eqD hr.units) (pe_lc (own := [("_law_k", 2)]) rfl sc__law_alike.nd (pi_range1 rfl T.z_range (pa_cons (pe_callB (call_len_seq) (by rfl) T.z_len PySem.boot_len (pa_cons (pv 1) pa_nil (star_Name _ _))) pa_nil (star_Call _ _ _ _))) (blkOk_by (own := [("_law_k", 2)]) (N := ["_law_found", "_law_due", "_law_k"]) (sc := defScope s__law_alike) (by decide +kernel)) (fun _ _ _ _ _ => (pg_name (i := 2) sc__law_alike.nd rfl (Or.inl rfl))) (fun _ _ _ _ _ => ptsT (pts_one (pt_not (pt_val (C8.pe_c c_alike hr (by first | decide | omega) rfl (pa_cons (pe_ix ix_seq (pv 0) (pv 2) (fun _ _ => rfl)) (pa_cons (pe_ix ix_seq (pv 1) (pv 2) (fun _ _ => rfl)) pa_nil (star_Subscript _ _ _)) (star_Subscript _ _ _)) (he := (star_Subscript _ _ _)))))) (by (try dsimp only [Cx.blk, Cx.nox, cxOf]) <;> rfl)) (fun _ _ _ _ _ => peT (pv 2) (by (try dsimp only [Cx.blk, Cx.nox, cxOf]) <;> rfl))) (pe_lst pa_nil) (nomark _)))))) pss_nil) (pss_cons (ps_if (PW.pt (pw_or (pt_cmpR op_isN (pv 1) pe_non (nomark _)) (pw_or1 (pt_val (pe_callB (call_isi) (by rfl) T.z_isinstance (by decide +kernel) (pa_cons (pv 1) (pa_cons (pe_bltn (v := .ty "str") rfl T.z_str (by decide +kernel) rfl) pa_nil (star_Name _ _)) (star_Name _ _))))))) (pss_one (ps_ret (pe_and (pe_cmpR op_eq (pv 0) (pv 1) (nomark _)) (pe_one (pe_cmpR op_eq (pe_callB (call_isi) (by rfl) T.z_isinstance (by decide +kernel) (pa_cons (pv 0) (pa_cons (pe_bltn (v := .ty "str") rfl T.z_str (by decide +kernel) rfl) pa_nil (star_Name _ _)) (star_Name _ _))) (pe_callB (call_isi) (by rfl) T.z_isinstance (by decide +kernel) (pa_cons (pv 1) (pa_cons (pe_bltn (v := .ty "str") rfl T.z_str (by decide +kernel) rfl) pa_nil (star_Name _ _)) (star_Name _ _))) (nomark _)))))) pss_nil) (pss_one (ps_ret (pe_and (pe_callB (call_isi) (by rfl) T.z_isinstance (by decide +kernel) (pa_cons (pv 0) (pa_cons (pe_bltn (v := .ty "int") rfl T.z_int (by decide +kernel) rfl) pa_nil (star_Name _ _)) (star_Name _ _))) (pe_and (pe_cmpR op_eq (pe_callB (call_isi) (by rfl) T.z_isinstance (by decide +kernel) (pa_cons (pv 0) (pa_cons (pe_bltn (v := .ty "bool") rfl T.z_bool (by decide +kernel) rfl) pa_nil (star_Name _ _)) (star_Name _ _))) (pe_callB (call_isi) (by rfl) T.z_isinstance (by decide +kernel) (pa_cons (pv 1) (pa_cons (pe_bltn (v := .ty "bool") rfl T.z_bool (by decide +kernel) rfl) pa_nil (star_Name _ _)) (star_Name _ _))) (nomark _)) (pe_one (pe_cmpR op_eq (pv 0) (pv 1) (nomark _))))))))), ?_⟩
    rintro ⟨r, hd⟩ G vs D a - al hrt hnx
    obtain ⟨x, y, rfl, hx, hy⟩ := al2 al
    have hx : r.P G x := hx
    have hy : r.P G y := hy
    have hrt : ∀ G' H', Gr [] G H G' H' → D.rt (.bl true) H' := fun G' H' g => hrt _ G' H' g rfl
    have done : ∀ {te : TE} {σ : L2.St} {G1 H1 : Hp}, Go md0 G H G1 H1 → Ev md0 te σ G1 H1 (rBl true) → tRet te D σ H1 := fun e h => s_ret h e.at fun v G' H' g p => by
      obtain rfl : v = .bl true := p
      exact hrt G' H' (e.trans g).gr
    have cs : (∃ (t : String) (rs : List Rl) (b1 b2 bL : Bool), TyR K t r ∧ kitB t "tuple" = some b1 ∧ kitB t "list" = some b2 ∧ (b1 || b2) = true ∧ kitB t "list" = some bL ∧ (∀ G v, r.P G v → (rSeq K rs).P G v) ∧ (∀ q ∈ rs, ∃ m, n = m + 1 ∧ AD K m q) ∧ rs.length ≤ 100000) ∨
        (∃ z, r = rStr z) ∨ r = rNon ∨ (∃ z, r = rInt z) ∨ ∃ z, r = rBl z := by
      cases hd with
      | @lst m rs h hl => exact .inl ⟨"list", rs, false, true, true, ty_lst, by decide +kernel, by decide +kernel, rfl, by decide +kernel, fun _ _ => rSeq_l, fun q hq => ⟨m, rfl, h q hq⟩, hl⟩
      | @tup m rs h hl => exact .inl ⟨"tuple", rs, true, false, false, ty_tup, by decide +kernel, by decide +kernel, rfl, by decide +kernel, fun _ _ => rSeq_t, fun q hq => ⟨m, rfl, h q hq⟩, hl⟩
      | str z => exact .inr (.inl ⟨z, rfl⟩)
      | non => exact .inr (.inr (.inl rfl))
      | int z => exact .inr (.inr (.inr (.inl ⟨z, rfl⟩)))
      | bl z => exact .inr (.inr (.inr (.inr ⟨z, rfl⟩)))
    rcases cs with ⟨t, rs, b1, b2, bL, ty, k1, k2, k3, k4, sq, hel, hlen⟩ | ⟨z, rfl⟩ | rfl | ⟨z, rfl⟩ | ⟨z, rfl⟩
    · -- all items
      refine q_if (B := fun b => b = true) ?_ a (fun _ G1 H1 e1 => ?_) fun hB => by cases hB
      · rw [← k3]
        exact et_B (ev_isiT (K := K) (ev_var rfl hy) ty k1 k2)
      · have hx1 := Rl.mono _ e1.gg hx
        have hy1 := Rl.mono _ e1.gg hy
        refine q_when (B := fun b => b = false) (et_or (a := false) (b := false) (et_not (a := true) ?_) fun _ => et_test ((ev_ne (x := .bl bL) (y := .bl bL) (ev_isi (K := K) (ev_var rfl hx1) ty k4) (ev_isi (K := K) (ev_var rfl hy1) ty k4) (by rfl)).imp fun _ _ p => by rwa [decide_eq_true rfl] at p)) e1.at (fun hB => by cases hB) fun _ G2 H2 e2 => ?_
        · rw [← k3]
          exact et_B (ev_isiT (K := K) (ev_var rfl hx1) ty k1 k2)
        have hx2 := sq _ _ (Rl.mono _ e2.gg hx1)
        have hy2 := sq _ _ (Rl.mono _ e2.gg hy1)
        refine q_when (B := fun b => b = false) (et_test ((ev_neI (ev_len (ev_var rfl hx2)) (ev_len (ev_var rfl hy2))).imp fun _ _ p => by rwa [decide_eq_true rfl] at p)) e2.at (fun hB => by cases hB) fun _ G3 H3 e3 => ?_
        have hx3 := Rl.mono _ e3.gg hx2
        have hy3 := Rl.mono _ e3.gg hy2
        refine done (e1.trans (e2.trans e3)) (ev_eqNil ?_)
        have := en_lcX (M := md0) (G := G3) (H := H3) (tt := tNot (tB (tCall (sp_alike K n) [] E0 (tCons (tOp (rIx K) (tVar 0) (tVar 2)) (tCons (tOp (rIx K) (tVar 1) (tVar 2)) tNil))))) (te := tVar 2) (vs := [2]) (j := 2) (enc := fun i : Nat => rInt (i : Nat)) (σ := [some x, some y, none]) (src_rng1 (ev_len (K := K) (ev_var (i := 1) rfl hy3)) ⟨by omega, by omega⟩)
          (fun _ => false) (fun i => rInt (i : Nat)) (fun _ => rfl) (fun i vi G4 H4 hi g4 pi => ⟨?_, fun z => by cases z⟩) (by rw [List.length_range]; omega)
        · rw [List.filter_eq_nil_iff.mpr (by simp)] at this
          exact this
        · have hi : i < rs.length := by have := List.mem_range.mp hi; omega
          obtain ⟨m, em, had⟩ := hel rs[i] (by simp)
          subst em
          have at1 : atI rs (i : Nat) = some rs[i] := by
            unfold atI ixN
            rw [if_pos (by omega), if_pos (by omega)]
            simp [hi]
          exact et_not (a := true) (et_B (ev_call (E := E0) (⟨rs[i], had⟩ : { r : Rl // AD K m r }) (ea_cons (ev_ix2 (ev_var rfl (Rl.mono _ g4.gg hx3)) (ev_var rfl pi) at1) (ea_cons (ev_ix2 (ev_var rfl (Rl.mono _ g4.gg hy3)) (ev_var rfl pi) at1) ea_nil)) fun _ _ _ => trivial))
    · refine q_when (et_B (ev_isiT (K := K) (b1 := false) (b2 := false) (ev_var rfl hy) ty_str (by decide +kernel) (by decide +kernel))) a (fun hB => by cases hB) fun hB G1 H1 e1 => ?_
      have hx1 := Rl.mono _ e1.gg hx
      have hy1 := Rl.mono _ e1.gg hy
      refine q_if (et_or (et_test (ev_isN (ev_var rfl hy1) (nn_ref (K := K) (by decide) ty_str))) fun _ => et_B (ev_isi (K := K) (b := true) (ev_var rfl hy1) ty_str (by decide +kernel))) e1.at (fun hB G2 H2 e2 => ?_) fun hB => by cases hB
      have hx2 := Rl.mono _ e2.gg hx1
      have hy2 := Rl.mono _ e2.gg hy1
      refine done (e1.trans e2) (ev_andV (a := true) (b := true) ((ev_eqS (ev_var rfl hx2) (ev_var rfl hy2)).imp fun _ _ p => by rwa [decide_eq_true rfl] at p) fun _ => (ev_eq (x := .bl true) (y := .bl true) (ev_isi (K := K) (b := true) (ev_var rfl hx2) ty_str (by decide +kernel)) (ev_isi (K := K) (b := true) (ev_var rfl hy2) ty_str (by decide +kernel)) (by rfl)))
    · refine q_when (et_B (ev_isiT (K := K) (b1 := false) (b2 := false) (ev_var rfl hy) ty_non (by decide +kernel) (by decide +kernel))) a (fun hB => by cases hB) fun hB G1 H1 e1 => ?_
      have hx1 := Rl.mono _ e1.gg hx
      have hy1 := Rl.mono _ e1.gg hy
      refine q_if (B := fun b => b = true) (et_or (a := true) (b := true) (et_test (ev_isN (ev_var rfl hy1) (fun G v p => by cases (show v = .non from p); rfl))) fun z => by cases z) e1.at (fun hB G2 H2 e2 => ?_) fun hB => by cases hB
      have hx2 := Rl.mono _ e2.gg hx1
      have hy2 := Rl.mono _ e2.gg hy1
      refine done (e1.trans e2) (ev_andV (a := true) (b := true) (ev_eq (x := .non) (y := .non) (ev_var rfl hx2) (ev_var rfl hy2) (by rfl)) fun _ => (ev_eq (x := .bl false) (y := .bl false) (ev_isi (K := K) (b := false) (ev_var rfl hx2) ty_non (by decide +kernel)) (ev_isi (K := K) (b := false) (ev_var rfl hy2) ty_non (by decide +kernel)) (by rfl)))
    · refine q_when (et_B (ev_isiT (K := K) (b1 := false) (b2 := false) (ev_var rfl hy) ty_int (by decide +kernel) (by decide +kernel))) a (fun hB => by cases hB) fun hB G1 H1 e1 => ?_
      have hx1 := Rl.mono _ e1.gg hx
      have hy1 := Rl.mono _ e1.gg hy
      refine q_if (B := fun b => b = false) (et_or (a := false) (b := false) (et_test (ev_isN (ev_var rfl hy1) (nn_ref (K := K) (by decide) ty_int))) fun _ => et_B (ev_isi (K := K) (b := false) (ev_var rfl hy1) ty_int (by decide +kernel))) e1.at (fun hB => by cases hB) fun hB G2 H2 e2 => ?_
      have hx2 := Rl.mono _ e2.gg hx1
      have hy2 := Rl.mono _ e2.gg hy1
      refine done (e1.trans e2) (ev_andV (a := true) (b := true) (ev_isi (K := K) (b := true) (ev_var rfl hx2) ty_int (by decide +kernel)) fun _ => ev_andV (a := true) (b := true) (ev_eq (x := .bl false) (y := .bl false) (ev_isi (K := K) (b := false) (ev_var rfl hx2) ty_int (by decide +kernel)) (ev_isi (K := K) (b := false) (ev_var rfl hy2) ty_int (by decide +kernel)) (by rfl)) fun _ => (ev_eqI (ev_var rfl hx2) (ev_var rfl hy2)).imp fun _ _ p => by rwa [decide_eq_true rfl] at p)
    · refine q_when (et_B (ev_isiT (K := K) (b1 := false) (b2 := false) (ev_var rfl hy) ty_bl (by decide +kernel) (by decide +kernel))) a (fun hB => by cases hB) fun hB G1 H1 e1 => ?_
      have hx1 := Rl.mono _ e1.gg hx
      have hy1 := Rl.mono _ e1.gg hy
      refine q_if (B := fun b => b = false) (et_or (a := false) (b := false) (et_test (ev_isN (ev_var rfl hy1) (nn_ref (K := K) (by decide) ty_bl))) fun _ => et_B (ev_isi (K := K) (b := false) (ev_var rfl hy1) ty_bl (by decide +kernel))) e1.at (fun hB => by cases hB) fun hB G2 H2 e2 => ?_
      have hx2 := Rl.mono _ e2.gg hx1
      have hy2 := Rl.mono _ e2.gg hy1
      refine done (e1.trans e2) (ev_andV (a := true) (b := true) (ev_isi (K := K) (b := true) (ev_var rfl hx2) ty_bl (by decide +kernel)) fun _ => ev_andV (a := true) (b := true) (ev_eq (x := .bl true) (y := .bl true) (ev_isi (K := K) (b := true) (ev_var rfl hx2) ty_bl (by decide +kernel)) (ev_isi (K := K) (b := true) (ev_var rfl hy2) ty_bl (by decide +kernel)) (by rfl)) fun _ => (ev_eq (x := .bl z) (y := .bl z) (ev_var rfl hx2) (ev_var rfl hy2) (by rfl)).imp fun _ _ p => by rwa [decide_eq_true rfl] at p)
end
/-! ### draws -/
theorem ixN_mod {n : Nat} {i : Int} (h : 0 < n) : ixN n (i % (n : Int)) = some (i % (n : Int)).toNat := by
  have h1 : 0 ≤ i % (n : Int) := Int.emod_nonneg _ (by omega)
  have h2 : i % (n : Int) < n := Int.emod_lt_of_pos _ (by omega)
  unfold ixN
  rw [if_pos h1, if_pos h2]
section
variable {P : Program} {w : World} {K : PySem.W.Frag} {mg : Str → Option Value} {base : Heap} {f : Addr} {fd : FuncData}
theorem sc__law_next : FnScope ["_law_h", "_law_many", "_law_cell"] ["_law_h", "_law_many"] (defScope s__law_next) := ⟨rfl, rfl, rfl, by decide +kernel, rfl, by decide +kernel, by decide +kernel⟩
theorem fn_law_next (F : FnP K "_law_next" "_law_next" s__law_next f fd) (T : Top K mg) : FnOk P w K mg base CX0 1 f fd ["_law_h", "_law_many"] sp_next := by
  refine F.ok sc__law_next (fun vs H Q E h => ?_) fun cdv A outer s H vs Q E hr h => ?_
  · obtain ⟨h, l, n, G, e, _⟩ := h
    rw [e]
    rfl
  suffices hs : ∃ t, PSs (cxOf CX0 P w K mg base ["_law_h", "_law_many", "_law_cell"] "_law_next" (defScope s__law_next) f cdv A outer s H E).nox (defBody s__law_next) t ∧ t { nx := fun _ H' => Q .non H', rt := Q } (L2.start ["_law_h", "_law_many", "_law_cell"] vs) H by
    obtain ⟨t, h1, h2⟩ := hs
    exact ⟨t, h1.nox, h2⟩
  refine ⟨_, (pss_cons (ps_set (i := 2) sc__law_next.nd rfl (Or.inl rfl) (pe_ix ix_list (pe_op op_cat (pe_ix ix_list (pv 0) pe_int (fun _ _ => rfl)) (pe_lst (pa_cons pe_int pa_nil (star_Constant _ _ _)))) (pe_op op_mod (pe_ix ix_list (pv 0) pe_int (fun _ _ => rfl)) (pe_callB (call_max2 rfl) (by rfl) T.z_max (by decide +kernel) (pa_cons pe_int (pa_cons (pe_callB (call_len_seq) (by rfl) T.z_len PySem.boot_len (pa_cons (pe_ix ix_list (pv 0) pe_int (fun _ _ => rfl)) pa_nil (star_Subscript _ _ _))) pa_nil (star_Call _ _ _ _)) (star_Constant _ _ _)))) (fun _ _ => rfl))) (pss_cons (ps_if (pt_cmpR op_ge (pv 2) (pe_op op_pow pe_int pe_int) (nomark _)) (pss_cons (ps_asg (pe_op op_fdiv (pv 2) (pv 1)) (pg_sub (pe_ix ix_list (pv 0) pe_int (fun _ _ => rfl)) (pe_op op_mod (pe_ix ix_list (pv 0) pe_int (fun _ _ => rfl)) (pe_callB (call_len_seq) (by rfl) T.z_len PySem.boot_len (pa_cons (pe_ix ix_list (pv 0) pe_int (fun _ _ => rfl)) pa_nil (star_Subscript _ _ _)))) set_list)) (pss_one (ps_ret (pe_op op_mod (pv 2) (pv 1))))) pss_nil) (pss_cons (ps_asg (pe_op op_mod (pe_op op_add (pe_op op_add (pe_op op_mul (pe_ix ix_list (pv 0) pe_int (fun _ _ => rfl)) pe_int) (pe_op op_mul (pv 2) pe_int)) pe_int) pe_int) (pg_sub (pv 0) pe_int set_list)) (pss_cons (ps_asg (pe_op op_add (pe_ix ix_list (pv 0) pe_int (fun _ _ => rfl)) pe_int) (pg_sub (pv 0) pe_int set_list)) (pss_one (ps_ret (pe_op op_mod (pe_op op_fdiv (pe_ix ix_list (pv 0) pe_int (fun _ _ => rfl)) pe_int) (pv 1)))))))), ?_⟩
  obtain ⟨h, l, n, G, rfl, n1, n2, le, hh, hl, hne, ⟨m, i, cells, j1, j2, j3⟩, hQ⟩ := h
  have a0 : At md0 G H := ⟨le, trivial⟩
  have J : ∀ {G' H' : Hp} {m i : Int} {cells : List Int}, H' h = some (.lst [.int m, .ref l, .int i]) → H' l = some (.lst (cells.map V.int)) → cells.length ≤ 1000 → JS h l H' := fun h1 h2 h3 => ⟨_, _, _, h1, h2, h3⟩
  -- the cell
  have hidx : ∃ c, atI ((cells.map V.int) ++ [V.int 0]) (i % (if ((cells.map V.int).length : Int) > 1 then ((cells.map V.int).length : Int) else 1)) = some (.int c) ∧ (c ≥ 10 ^ 18 → cells ≠ []) := by
    by_cases hc : cells = []
    · subst hc
      refine ⟨0, ?_, fun z => absurd z (by decide)⟩
      show atI [V.int 0] (i % 1) = _
      rw [Int.emod_one]
      rfl
    · have hp : 0 < cells.length := List.length_pos_iff.mpr hc
      have e : (if ((cells.map V.int).length : Int) > 1 then ((cells.map V.int).length : Int) else 1) = (cells.length : Int) := by
        rw [List.length_map]
        split <;> omega
      rw [e]
      have h1 : 0 ≤ i % (cells.length : Int) := Int.emod_nonneg _ (by omega)
      have h2 : i % (cells.length : Int) < cells.length := Int.emod_lt_of_pos _ (by omega)
      refine ⟨cells[(i % (cells.length : Int)).toNat]'(by omega), ?_, fun _ => hc⟩
      unfold atI ixN
      rw [if_pos h1, if_pos (by simp; omega)]
      show ((cells.map V.int) ++ [V.int 0])[_]? = _
      rw [List.getElem?_append_left (by simp; omega), List.getElem?_map, List.getElem?_eq_getElem (by omega)]
      rfl
  obtain ⟨c, hc1, hc2⟩ := hidx
  have mx : (0 : Int) < (if ((cells.map V.int).length : Int) > 1 then ((cells.map V.int).length : Int) else 1) := by split <;> omega
  refine q_asgV (v := .int c) (ev_ixL (K := K) (EvN.vals (xs := (cells.map V.int) ++ [V.int 0]) (en_catM (ys := [V.int 0]) (ev_ixM (K := K) (ev_val rfl) j1 (by simp [md0]) ev_c rfl) j2 (by simp [md0]) (en_lst (ea_cons ev_c ea_nil) (show 1 ≤ 100000 by decide)) (by simp; omega)))
    (ev_I (ev_ixM (K := K) (v := .int i) (ev_val rfl) j1 (by simp [md0]) ev_c rfl) (ev_max2 ev_c (ev_lenM (K := K) (ev_ixM (K := K) (ev_val rfl) j1 (by simp [md0]) ev_c rfl) j2 (by simp [md0]))) mx) ?_) a0 fun G1 H1 e1 => ?_
  · unfold atI at hc1 ⊢
    rw [List.length_map]
    cases e : ixN ((cells.map V.int) ++ [V.int 0]).length (i % (if ((cells.map V.int).length : Int) > 1 then ((cells.map V.int).length : Int) else 1)) with
    | none => rw [e] at hc1; cases hc1
    | some j =>
      rw [e] at hc1
      show (((cells.map V.int) ++ [V.int 0]).map rV)[j]? = _
      rw [List.getElem?_map]
      have hc1 : ((cells.map V.int) ++ [V.int 0])[j]? = some (.int c) := hc1
      rw [hc1]
      rfl
  obtain ⟨k1, k2⟩ := e1.gr.loc j1 hh (by simp [md0])
  obtain ⟨k3, k4⟩ := e1.gr.loc j2 hl (by simp [md0])
  refine q_when (et_test (ev_I0 (g := fun i j => .bl (decide (i ≥ j))) (ev_val (v := .int c) rfl) (ev_I (g := fun i j => .int (i ^ j.toNat)) ev_c ev_c ⟨by decide, by decide, by decide⟩))) e1.at (fun hB G2 H2 e2 => ?_) fun hB G2 H2 e2 => ?_
  · have big : c ≥ 10 ^ 18 := of_decide_eq_true hB.symm
    have hp : 0 < cells.length := List.length_pos_iff.mpr (hc2 big)
    obtain ⟨k5, k6⟩ := e2.gr.loc k1 k2 (by simp [md0])
    obtain ⟨k7, k8⟩ := e2.gr.loc k3 k4 (by simp [md0])
    refine q_setL (r := rInt (c / n)) (i := i % (cells.length : Int)) (ev_I (ev_val rfl) (ev_val rfl) ⟨by omega, n2⟩) (ev_ixM (K := K) (v := .ref l) (ev_val rfl) k5 (by simp [md0]) ev_c rfl) ?_ e2.at k7 k8 (by simp [md0]) (j := (i % (cells.length : Int)).toNat) ?_ fun v G3 H3 e3 pv m1 m2 => ?_
    · have := ev_I (M := md0) (σ := [some (.ref h), some (.int n), some (.int c)]) (G := G2) (H := H2) (C := fun _ j => 0 < j) (g := fun i j => .int (i % j)) (ta := tOp (rIxL K) (tVar 0) (tC (.int 2))) (ev_ixM (K := K) (v := .int i) (ev_val rfl) k5 (by simp [md0]) ev_c rfl) (ev_lenM (K := K) (ev_ixM (K := K) (v := .ref l) (ev_val (i := 0) rfl) k5 (by simp [md0]) (ev_c (v := .int 1)) rfl) k7 (by simp [md0])) (by simp; omega)
      rw [List.length_map] at this
      exact this
    · rw [List.length_map]
      exact ixN_mod hp
    · obtain rfl : v = .int (c / n) := pv
      have g3 : Gr [] G H G3 H3 := (e1.trans (e2.trans e3)).gr
      have g4 : Gr [h, l] G H G3 (upd H3 l (.lst ((cells.map V.int).set (i % (cells.length : Int)).toNat (.int (c / n))))) := g3.nil.putW (by simp) m2
      have a4 : At md0 G3 (upd H3 l (.lst ((cells.map V.int).set (i % (cells.length : Int)).toNat (.int (c / n))))) := ⟨g4.gh, trivial⟩
      obtain ⟨k9, k10⟩ := e3.gr.loc k5 k6 (by simp [md0])
      refine s_ret (ev_I (g := fun i j => .int (i % j)) (ev_val (v := .int c) rfl) (ev_val (v := .int n) rfl) (by show 0 < n; omega)) a4 fun v G5 H5 e5 p => ?_
      obtain rfl : v = .int (c % n) := p
      refine hQ _ G5 H5 (Int.emod_nonneg _ (by omega)) (Int.emod_lt_of_pos _ (by omega)) (g4.trans e5.gr.nil) ⟨m, i, cells.set (i % (cells.length : Int)).toNat (c / n), ?_, ?_, by rw [List.length_set]; exact j3⟩
      · exact e5.gr.hh h _ (by rw [upd_ne hne]; exact k9) (by simp [md0])
      · refine e5.gr.hh l _ ?_ (by simp [md0])
        rw [upd_same, List.map_set]
  · obtain ⟨k5, k6⟩ := e2.gr.loc k1 k2 (by simp [md0])
    obtain ⟨k7, k8⟩ := e2.gr.loc k3 k4 (by simp [md0])
    refine q_setL (r := rInt ((m * 48271 + c * 69621 + 11) % 2147483647)) (i := 0) (ev_I (ev_I0 (ev_I0 (ev_I (ev_ixM (K := K) (v := .int m) (ev_val rfl) k5 (by simp [md0]) ev_c rfl) ev_c (.inr ⟨by decide, by decide⟩)) (ev_I (ev_val rfl) ev_c (.inr ⟨by decide, by decide⟩))) ev_c) ev_c (by decide)) (ev_val rfl) ev_c e2.at k5 k6 (by simp [md0]) (j := 0) rfl fun v G3 H3 e3 pv m1 m2 => ?_
    obtain rfl : v = .int ((m * 48271 + c * 69621 + 11) % 2147483647) := pv
    generalize (m * 48271 + c * 69621 + 11) % 2147483647 = mm
    have g3 : Gr [] G H G3 H3 := (e1.trans (e2.trans e3)).gr
    have g4 : Gr [h, l] G H G3 (upd H3 h (.lst [.int mm, .ref l, .int i])) := g3.nil.putW (by simp) m2
    have a4 : At md0 G3 (upd H3 h (.lst [.int mm, .ref l, .int i])) := ⟨g4.gh, trivial⟩
    obtain ⟨k9, k10⟩ := e3.gr.loc k7 k8 (by simp [md0])
    show tSeq _ _ _ _ (upd H3 h (.lst [.int mm, .ref l, .int i]))
    refine q_setL (r := rInt (i + 1)) (i := 2) (ev_I0 (ev_ixM (K := K) (v := .int i) (ev_val rfl) upd_same (by simp [md0]) ev_c rfl) ev_c) (ev_val rfl) ev_c a4 upd_same m2 (by simp [md0]) (j := 2) rfl fun v G5 H5 e5 pv m3 m4 => ?_
    obtain rfl : v = .int (i + 1) := pv
    have g6 : Gr [h, l] G H G5 (upd H5 h (.lst [.int mm, .ref l, .int (i + 1)])) := (g4.trans e5.gr.nil).putW (by simp) m4
    have a6 : At md0 G5 (upd H5 h (.lst [.int mm, .ref l, .int (i + 1)])) := ⟨g6.gh, trivial⟩
    have k11 := e5.gr.hh l _ (show upd H3 h (.lst [.int mm, .ref l, .int i]) l = _ by rw [upd_ne (Ne.symm hne)]; exact k9) (by simp [md0])
    show tRet _ _ _ (upd H5 h (.lst [.int mm, .ref l, .int (i + 1)]))
    refine s_ret (r := rInt (mm / 7 % n)) (ev_I (ev_I (ev_ixM (K := K) (v := .int mm) (ev_val rfl) upd_same (by simp [md0]) ev_c rfl) ev_c ⟨by decide, by decide⟩) (ev_val rfl) (by show 0 < n; omega)) a6 fun v G7 H7 e7 p => ?_
    obtain rfl : v = .int (mm / 7 % n) := p
    refine hQ _ G7 H7 (Int.emod_nonneg _ (by omega)) (Int.emod_lt_of_pos _ (by omega)) (g6.trans e7.gr.nil) ⟨mm, i + 1, cells, ?_, ?_, j3⟩
    · exact e7.gr.hh h _ upd_same (by simp [md0])
    · exact e7.gr.hh l _ (by rw [upd_ne (Ne.symm hne)]; exact k11) (by simp [md0])
end
/-! ### the state made -/
def sp_mix (K : PySem.W.Frag) : Sp := fun vs H Q _ => ∃ (v : V) (seed : Int) (cells : List Int) (G : Hp), vs = [v, .int seed] ∧ cells.length ≤ 1000 ∧ Le G H ∧ (rLst K (cells.map rInt)).P G v ∧
  ∀ h l G' H', Gr [] G H G' H' → H h = none → H l = none → G' h = none → G' l = none → h ≠ l → JS h l H' → Q (.ref h) H'
section
variable {K : PySem.W.Frag} {σ : L2.St} {G H : Hp} {D : Ends} {tz : TS} {E : XK} {t : TA} {v : V}
end
section
variable {P : Program} {w : World} {K : PySem.W.Frag} {mg : Str → Option Value} {base : Heap} {f : Addr} {fd : FuncData}
theorem sc__law_mix : FnScope ["_law_script", "_law_seed", "_law_mixed", "_law_cell"] ["_law_script", "_law_seed"] (defScope s__law_mix) := ⟨rfl, rfl, rfl, by decide +kernel, rfl, by decide +kernel, by decide +kernel⟩
theorem fn_law_mix (F : FnP K "_law_mix" "_law_mix" s__law_mix f fd) (T : Top K mg) : FnOk P w K mg base CX0 1 f fd ["_law_script", "_law_seed"] (sp_mix K) := by
  refine F.ok sc__law_mix (fun vs H Q E h => ?_) fun cdv A outer s H vs Q E hr h => ?_
  · obtain ⟨v, seed, cells, G, e, _⟩ := h
    rw [e]
    rfl
  suffices hs : ∃ t, PSs (cxOf CX0 P w K mg base ["_law_script", "_law_seed", "_law_mixed", "_law_cell"] "_law_mix" (defScope s__law_mix) f cdv A outer s H E).nox (defBody s__law_mix) t ∧ t { nx := fun _ H' => Q .non H', rt := Q } (L2.start ["_law_script", "_law_seed", "_law_mixed", "_law_cell"] vs) H by
    obtain ⟨t, h1, h2⟩ := hs
    exact ⟨t, h1.nox, h2⟩
  refine ⟨_, (pss_cons (ps_set (i := 2) sc__law_mix.nd rfl (Or.inl rfl) (pv 1)) (pss_cons (ps_for PassesOwn.never rfl (pi_list (pv 0)) (pg_name (i := 3) sc__law_mix.nd rfl (Or.inl rfl)) (pss_one (ps_set (i := 2) sc__law_mix.nd rfl (Or.inl rfl) (pe_op op_mod (pe_op op_add (pe_op op_add (pe_op op_mul (pv 2) pe_int) (pe_op op_mod (pv 3) pe_int)) pe_int) pe_int)))) (pss_one (ps_ret (pe_lst (pa_cons (pv 2) (pa_cons (pe_callTy (call_list_of) (by rfl) T.z_list (by decide +kernel) (pa_cons (pv 0) pa_nil (star_Name _ _))) (pa_cons pe_int pa_nil (star_Constant _ _ _)) (star_Call _ _ _ _)) (star_Name _ _))))))), ?_⟩
  obtain ⟨v, seed, cells, G, rfl, hc, le, hv, hQ⟩ := h
  have a0 : At md0 G H := ⟨le, trivial⟩
  refine q_asgV (v := .int seed) (ev_val rfl) a0 fun G1 H1 e1 => ?_
  refine q_for (W := []) (src_lst (K := K) (ev_var rfl (Rl.mono _ e1.gg hv))) e1.at (by simp [md0]) (fun i σ' _ _ => ∃ (m : Int) (x : Option V), σ' = [some v, some (.int seed), some (.int m), x]) (fun _ _ _ => ⟨seed, none, rfl⟩) (fun i r vr σ' G2 H2 hi hr2 g2 j2 hI N hN => ?_) (fun _ _ _ _ _ _ _ _ _ h => h) fun σ' G2 H2 g2 j2 hI => ?_
  · obtain ⟨m, x, rfl⟩ := hI
    rw [List.getElem?_map, Option.map_eq_some_iff] at hi
    obtain ⟨c, hi, rfl⟩ := hi
    obtain rfl : vr = .int c := hr2
    refine s_asg (r := rInt ((m * 48271 + c % 2147483629 + 1) % 2147483647)) (ev_I (ev_I0 (ev_I0 (ev_I (ev_val rfl) ev_c (.inr ⟨by decide, by decide⟩)) (ev_I (ev_val rfl) ev_c (by decide))) ev_c) ev_c (by decide)) ⟨g2.gh, j2⟩ fun v' G3 H3 e3 pv => ?_
    obtain rfl : v' = .int _ := pv
    exact hN _ G3 H3 e3.gr trivial ⟨_, _, rfl⟩
  · obtain ⟨m, x, rfl⟩ := hI
    have hv2 : (rLst K (cells.map rInt)).P G2 v := Rl.mono _ (e1.gg.trans g2.gg) hv
    have a2 : At md0 G2 H2 := ⟨g2.gh, trivial⟩
    show tLst _ _ H2 _
    refine ⟨_, rfl, en_list (K := K) (ev_var (i := 0) rfl hv2).sl G2 H2 a2.go _ fun l o G3 H3 e3 n1 n2 n3 ⟨vs, f1, f2⟩ => ⟨show 3 ≤ sizeLine by decide, fun h hh => ?_⟩⟩
    subst f1
    have f3 : vs = cells.map V.int := Al.vals f2
    subst f3
    have g3 : Gr [] G H G3 H3 := (e1.gr.trans g2).trans e3.gr
    have hl : h ≠ l := fun z => by subst z; rw [n3] at hh; cases hh
    refine hQ h l G3 (upd H3 h (.lst [.int m, .ref l, .int 0])) (g3.trans (e3.at.own hh).gr) ((Gr.go g3 trivial (M := md0) (W' := [])).back hh) ((Gr.go (e1.gr.trans g2) trivial (M := md0) (W' := [])).back n1) (e3.at.le.free hh) n2 hl ⟨m, 0, cells, upd_same, ?_, hc⟩
    rw [upd_ne (Ne.symm hl)]
    exact n3
end
/-! ### _law_leads -/
structure LdFit (ns : List Nd) (names : List Str) : Prop where
  n1 : ns.length ≤ 100
  n2 : names.length ≤ 100
  n3 : ∀ n ∈ ns, n.ot.length ≤ 100
/-! ### _law_some -/
/-- some of these, in some order -/
structure SubP (ys xs : List Str) : Prop where
  mem : ∀ y ∈ ys, y ∈ xs
  nd : xs.Nodup → ys.Nodup
  le : ys.length ≤ xs.length
section
variable {K : PySem.W.Frag} {σ : L2.St} {G H : Hp} {h l : Addr} {n : Int} {t : TA} {E : XK}
end
/-! ### the books that the laws draw -/
def nName (i : Nat) : Str := ⟨#[110, 97 + i]⟩
def tName (i : Nat) : Str := ⟨#[116, 97 + i]⟩
abbrev hNames : List Str := ["ha", "hb", "hc"]
abbrev gNames : List Str := ["ga", "gb"]
abbrev mNames : List Str := ["fast", "slow", "db"]
structure GenN (ns : List Nd) : Prop where
  is : ∀ i n, ns[i]? = some n → isNeed (ns.take i) n = true
  nm : ∀ i n, ns[i]? = some n → n.nm = nName i
  ws : ∀ n ∈ ns, n.ws = 1 ∨ n.ws = 2 ∨ n.ws = 3
  le : ns.length ≤ 12
structure GenT (ns : List Nd) (ts : List Tr) : Prop where
  is : ∀ i t, ts[i]? = some t → isTry ns (ts.take i) t = true
  nm : ∀ i t, ts[i]? = some t → t.nm = tName i
  hs : ∀ t ∈ ts, t.hs ∈ hNames
  gp : ∀ t ∈ ts, t.gp ∈ gNames
  ms : ∀ t ∈ ts, ∀ m ∈ t.ms, m ∈ mNames
  tm : ∀ t ∈ ts, t.tm = 1 ∨ t.tm = 2 ∨ t.tm = 4
  mn : ∀ t ∈ ts, manyOf ns t.nd < 13
  le : ts.length ≤ 10
theorem tName_inj {i j : Nat} (h : tName i = tName j) : i = j := by
  have h := congrArg (fun x : Str => x.cps.toList) h
  simp only [tName] at h
  injection h with _ h
  injection h with h
  omega
theorem NdLike.fit {seen : List Nd} {n : Nd} (q : NdLike seen n) (h : seen.length ≤ 1000) : NdFit n := by
  refine ⟨isName_fit q.nm, ?_, fun o ho => isName_fit (areUnlike_names q.un o ho)⟩
  have := sub_len (areUnlike_nodup q.un) q.ot
  rw [List.length_map] at this
  omega
theorem ms_len {t : Tr} {ns : List Nd} {seen : List Tr} (q : TrLike ns seen t) (h : ∀ m ∈ t.ms, m ∈ mNames) : t.ms.length ≤ 3 := sub_len (areUnlike_nodup q.ms) h
theorem GenT.fit {ns : List Nd} {ts : List Tr} (g : GenT ns ts) (hn : ns.length ≤ 100) {t : Tr} (ht : t ∈ ts) : TrFit t := by
  obtain ⟨i, hi⟩ := List.getElem?_of_mem ht
  have q := isTry_like.mp (g.is i t hi)
  have f := q.few
  refine ⟨fun x hx => isName_fit (q.nm x hx), ⟨by omega, fun o ho => isName_fit (areUnlike_names q.un o ho)⟩, ?_, fun o ho => isName_fit (areUnlike_names q.ms o ho)⟩
  have := ms_len q (g.ms t ht)
  omega
theorem GenN.snoc {ns : List Nd} {n : Nd} (g : GenN ns) (h : isNeed ns n = true) (nm : n.nm = nName ns.length) (ws : n.ws = 1 ∨ n.ws = 2 ∨ n.ws = 3) (le : ns.length < 12) : GenN (ns ++ [n]) := by
  have at' : ∀ i m, (ns ++ [n])[i]? = some m → (i < ns.length ∧ ns[i]? = some m) ∨ (i = ns.length ∧ m = n) := fun i m e => by
    by_cases c : i < ns.length
    · rw [List.getElem?_append_left c] at e
      exact .inl ⟨c, e⟩
    · rw [List.getElem?_append_right (by omega)] at e
      have : i - ns.length = 0 := by
        cases q : i - ns.length with
        | zero => rfl
        | succ k => rw [q] at e; cases e
      rw [this] at e
      cases e
      exact .inr ⟨by omega, rfl⟩
  refine ⟨fun i m e => ?_, fun i m e => ?_, fun m hm => ?_, by rw [List.length_append]; exact le⟩
  · rcases at' i m e with ⟨c, e1⟩ | ⟨c, e1⟩
    · rw [List.take_append_of_le_length (by omega)]
      exact g.is i m e1
    · subst c e1
      rw [List.take_append_of_le_length (Nat.le_refl _), List.take_length]
      exact h
  · rcases at' i m e with ⟨c, e1⟩ | ⟨c, e1⟩
    · exact g.nm i m e1
    · subst c e1
      exact nm
  · rcases List.mem_append.mp hm with z | z
    · exact g.ws m z
    · rw [List.mem_singleton.mp z]; exact ws
theorem GenT.snoc {ns : List Nd} {ts : List Tr} {t : Tr} (g : GenT ns ts) (h : isTry ns ts t = true) (nm : t.nm = tName ts.length) (hs : t.hs ∈ hNames) (gp : t.gp ∈ gNames) (ms : ∀ m ∈ t.ms, m ∈ mNames) (tm : t.tm = 1 ∨ t.tm = 2 ∨ t.tm = 4) (mn : manyOf ns t.nd < 13) (le : ts.length < 10) : GenT ns (ts ++ [t]) := by
  have at' : ∀ i m, (ts ++ [t])[i]? = some m → (i < ts.length ∧ ts[i]? = some m) ∨ (i = ts.length ∧ m = t) := fun i m e => by
    by_cases c : i < ts.length
    · rw [List.getElem?_append_left c] at e
      exact .inl ⟨c, e⟩
    · rw [List.getElem?_append_right (by omega)] at e
      have : i - ts.length = 0 := by
        cases q : i - ts.length with
        | zero => rfl
        | succ k => rw [q] at e; cases e
      rw [this] at e
      cases e
      exact .inr ⟨by omega, rfl⟩
  have mem : ∀ {P : Tr → Prop}, (∀ m ∈ ts, P m) → P t → ∀ m ∈ ts ++ [t], P m := fun h1 h2 m hm => by
    rcases List.mem_append.mp hm with z | z
    · exact h1 m z
    · rw [List.mem_singleton.mp z]; exact h2
  refine ⟨fun i m e => ?_, fun i m e => ?_, mem g.hs hs, mem g.gp gp, mem g.ms ms, mem g.tm tm, mem g.mn mn, by rw [List.length_append]; exact le⟩
  · rcases at' i m e with ⟨c, e1⟩ | ⟨c, e1⟩
    · rw [List.take_append_of_le_length (by omega)]
      exact g.is i m e1
    · subst c e1
      rw [List.take_append_of_le_length (Nat.le_refl _), List.take_length]
      exact h
  · rcases at' i m e with ⟨c, e1⟩ | ⟨c, e1⟩
    · exact g.nm i m e1
    · subst c e1
      exact nm
theorem GenN.nil : GenN [] := by
  refine ⟨fun i n z => ?_, fun i n z => ?_, fun n z => (nomatch z), by decide⟩
  · simp at z
  · simp at z
theorem GenT.nil (ns : List Nd) : GenT ns [] := by
  refine ⟨fun i n z => ?_, fun i n z => ?_, fun n z => (nomatch z), fun n z => (nomatch z), fun n z => (nomatch z), fun n z => (nomatch z), fun n z => (nomatch z), by decide⟩
  · simp at z
  · simp at z
/-! ### _law_book, walked -/
/-- what is drawn -/
def Drawn (a b : Nat) (p : List Nd × List Tr) : Prop := GenN p.1 ∧ GenT p.1 p.2 ∧ p.1.length ≤ a ∧ p.2.length ≤ b
section
variable {K : PySem.W.Frag} {σ : L2.St} {G H : Hp} {h l : Addr} {n : Int} {t : TA} {E : XK}
end
/-! ### the law's draws over plain values -/
/-- the state that is drawn from -/
def rDS : Res where
  P := fun _ _ H v fp => ∃ h l : Addr, v = .ref h ∧ fp = [h, l] ∧ h ≠ l ∧ JS h l H
  frame := by
    rintro K G H G' H' v fp ⟨h, l, e1, e2, ne, m, i, cs, h1, h2, h3⟩ - e
    subst e2
    exact ⟨h, l, e1, rfl, ne, m, i, cs, (e h List.mem_cons_self).trans h1, (e l (List.mem_cons_of_mem _ List.mem_cons_self)).trans h2, h3⟩
  there := by
    rintro K G H v fp ⟨h, l, e1, rfl, ne, m, i, cs, h1, h2, h3⟩ b hb
    rcases List.mem_cons.mp hb with rfl | hb
    · exact ⟨_, h1, by exact ⟨fun _ z => (nomatch z), fun _ z => (nomatch z)⟩⟩
    · rw [List.mem_singleton.mp hb]; exact ⟨_, h2, by exact ⟨fun _ z => (nomatch z), fun _ z => (nomatch z)⟩⟩
abbrev oDS : AO := .res rDS
theorem Rep.one {K : PySem.W.Frag} {s : Cs} {o o' : AO} {G' H' : Hp} {v : V} (r : Rep K (Bs.of s) s) (hA : s.A = [o]) (p0 : s.ι[0]? = some v) (h : aoR K G' H' o' v (s.φ 0)) (g : Gr (s.φ 0) s.G s.H G' H') : Rep K (Bs.of s) { s with A := [o'], G := G', H := H' } := by
  have one : s.A.length = 1 := by rw [hA]; rfl
  have hn : 0 < s.A.length := by omega
  have zero : ∀ {m}, m < 1 → m = 0 := fun {m} h => by omega
  refine ⟨by show s.ι.length = 1; rw [r.len, one], fun m o em => ?_, fun m hm => ?_, fun m l hm hl' ne => ?_, fun m hm b hb => ?_, fun m hm b hb => .inl ⟨by show m < s.ι.length; rw [r.len, one]; exact hm, hb⟩, g.mono fun b hb => ?_, List.prefix_refl _, fun P hP => g.tb P hP (fun z => ?_) (r.tabs P hP)⟩
  · match m, em with
    | 0, em =>
      cases em
      exact ⟨v, p0, h⟩
    | m + 1, em => simp at em
  · rw [zero hm]; exact r.nd 0 hn
  · exact absurd ((zero hm).trans (zero hl').symm) ne
  · rw [zero hm] at hb
    exact g.gnone (r.there hn b hb) (r.out 0 hn b hb)
  · exact Bs.inW (n := 0) (by show 0 < s.ι.length; rw [r.len]; exact hn) hb
  · obtain ⟨o, e, q⟩ := r.nx hn P z
    exact (r.tabs P hP).off e q.1 rfl
/-- a state handed in -/
theorem ds_at {K : PySem.W.Frag} {s : Cs} {v : V} (r : Rep K (Bs.of s) s) (hA : s.A = [oDS]) (p0 : s.ι[0]? = some v) : ∃ h l, v = .ref h ∧ s.φ 0 = [h, l] ∧ SS h l s.G s.H := by
  have hn : 0 < s.A.length := by rw [hA]; exact Nat.zero_lt_one
  obtain ⟨v', h1, h2⟩ := r.at' 0 oDS (by rw [hA]; rfl)
  rw [p0] at h1
  cases h1
  obtain ⟨h, l, e1, e2, ne, js⟩ := h2
  exact ⟨h, l, e1, e2, r.out 0 hn h (by rw [e2]; exact List.mem_cons_self), r.out 0 hn l (by rw [e2]; exact List.mem_cons_of_mem _ List.mem_cons_self), ne, js⟩
def ac_next : AC := fun avs A k => ∃ n : Int, avs = [.loc 0 [], .pv (.int n)] ∧ A = [oDS] ∧ 1 ≤ n ∧ n < 1073741824 ∧ ∀ r : Int, 0 ≤ r → r < n → k (.pv (.int r)) [oDS]
theorem le_next {K : PySem.W.Frag} : SpLe (spA K ac_next) sp_next := fun vs H Q E ⟨s, avs, Kc, e, r, pr, ⟨n, ea, eA, n1, n2, hk⟩, q⟩ => by
  subst e ea
  cases pr with
  | cons p0 pr =>
    cases pr with
    | cons p1 pr =>
      cases pr
      obtain ⟨h, l, rfl, efp, ss⟩ := ds_at r eA p0
      cases (show _ = V.int n from p1)
      refine ⟨h, l, n, s.G, rfl, n1, n2, r.le, ss.h0, ss.l0, ss.ne, ss.js, fun x G' H' x0 x1 g j => ?_⟩
      exact q (.pv (.int x)) _ _ (r.one eA p0 (o' := oDS) (by rw [efp]; exact ⟨h, l, rfl, rfl, ss.ne, j⟩) (by rw [efp]; exact g)) (by rw [eA]) (show _ = _ from rfl) (hk x x0 x1)
def ac_mix (K : PySem.W.Frag) : AC := fun avs A k => ∃ (cells : List Int) (seed : Int), avs = [.pv (.rel (rLst K (cells.map rInt))), .pv (.int seed)] ∧ A = [] ∧ cells.length ≤ 1000 ∧ k (.new oDS) []
theorem le_mix {K : PySem.W.Frag} : SpLe (spA K (ac_mix K)) (sp_mix K) := fun vs H Q E ⟨s, avs, Kc, e, r, pr, ⟨cells, seed, ea, eA, n1, hk⟩, q⟩ => by
  subst e ea
  cases pr with
  | cons p0 pr =>
    cases pr with
    | cons p1 pr =>
      cases pr
      cases (show _ = V.int seed from p1)
      have hl : s.A.length = 0 := by rw [eA]; rfl
      refine ⟨_, seed, cells, s.G, rfl, n1, r.le, p0, fun h l G' H' g h0 l0 g1 g2 ne j => ?_⟩
      refine q (.new oDS) (.ref h) { s with G := G', H := H' } (r.pure g) rfl ⟨[h, l], ⟨⟨h, l, rfl, rfl, ne, j⟩, by simp [ne], fun b hb => ?_, fun b hb => ?_, fun b hb n hn => ?_⟩⟩ ?_
      · rcases List.mem_cons.mp hb with rfl | hb
        · exact h0
        · rw [List.mem_singleton.mp hb]; exact l0
      · rcases List.mem_cons.mp hb with rfl | hb
        · exact g1
        · rw [List.mem_singleton.mp hb]; exact g2
      · exact absurd (show n < s.A.length from hn) (by omega)
      · show Kc (.new oDS) s.A
        rw [eA]
        exact hk
/-! ### _law_alike over plain values -/
def rAl (K : PySem.W.Frag) : PV → Rl
  | .v x => rV x
  | .tup xs => rTup K (rAls xs)
  | .lst xs => rLst K (rAls xs)
  | .dct kvs => rPV K (.dct kvs)
  | .ins C fs => rPV K (.ins C fs)
  | .rel r => r
where
  rAls : List PV → List Rl
    | [] => []
    | p :: t => rAl K p :: rAls t
def AP : Nat → PV → Prop
  | n + 1, .v (.str _) => True
  | n + 1, .v (.int _) => True
  | n + 1, .v (.bl _) => True
  | n + 1, .v .non => True
  | n + 1, .tup xs => xs.length ≤ 100000 ∧ ∀ x ∈ xs, AP n x
  | n + 1, .lst xs => xs.length ≤ 100000 ∧ ∀ x ∈ xs, AP n x
  | _, _ => False
def MoA (r : aTA) : Prop := ∀ sa A (k k' : List AV → Sto → Prop), (∀ x A, k x A → k' x A) → r sa A k → r sa A k'
def MoC (ac : AC) : Prop := ∀ avs A (k k' : Rt → Sto → Prop), (∀ x A, k x A → k' x A) → ac avs A k → ac avs A k'
section
variable {a b : aTE} {r : aTA} {f : aR2} {ac : AC}
theorem moa_nil : MoA aNil := fun sa A k k' w h => w _ _ h
theorem moa_cons (ha : Mo a) (hr : MoA r) : MoA (aCons a r) := fun sa A k k' w h => ha sa A _ _ (fun x A1 h => hr sa A1 _ _ (fun xs A2 h => w _ _ h) h) h
theorem mo_callH (hc : MoC ac) (hr : MoA r) : Mo (aCall1 ac r) := fun sa A k k' w h => hr sa A _ _ (fun avs A1 h => by
  split at h
  · obtain ⟨ps, o, e1, e2, h⟩ := h
    refine ⟨ps, o, e1, e2, hc _ _ _ _ (fun rv os h => ?_) h⟩
    split at h
    · exact w _ _ h
    · exact h.elim
  · exact h.elim) h
theorem stb_lst (h : MoA r) : Stb (aFz (aLst r)) := stb_fz fun sa A k k' w hh => h sa A _ _ (fun avs A1 hh => by
  split at hh
  · exact ⟨hh.1, w _ _ hh.2⟩
  · exact hh.elim) hh
end
/-! ### the texts of the law -/
theorem sepR_app {x y : Str} (h : sepR y = true) : sepR (x ++ y) = true := by
  unfold sepR at h ⊢
  rw [TL.tl_append, List.reverse_append]
  cases e : (TL.tl y).reverse with
  | nil => rw [e] at h; cases h
  | cons c r => rw [e] at h; exact h
theorem w_mid {l : Str} {W : List Str} (hl : sepL l = true) (hr : sepR l = true) (hw : (tokL (TL.tl l) == W.map TL.tl) = true) (x z : Str) : wordsR (x ++ l ++ z) = wordsR x ++ (W ++ wordsR z) := by
  rw [wordsR_appR (sepR_app hr), wordsR_appL hl, wordsR_lit hw, List.append_assoc]
theorem w_fin {l : Str} {W : List Str} (hl : sepL l = true) (hw : (tokL (TL.tl l) == W.map TL.tl) = true) (x : Str) : wordsR (x ++ l) = wordsR x ++ W := by
  rw [wordsR_appL hl, wordsR_lit hw]
theorem w_pre {l : Str} {W : List Str} (hr : sepR l = true) (hw : (tokL (TL.tl l) == W.map TL.tl) = true) (z : Str) : wordsR (l ++ z) = W ++ wordsR z := by
  rw [wordsR_appR hr, wordsR_lit hw]
abbrev wNot : Str := "not"
abbrev wAnd : Str := "and"
abbrev wOr : Str := "or"
abbrev wL : Str := "("
abbrev wR : Str := ")"
theorem m_and (x z : Str) : wordsR (x ++ (" and " : Str) ++ z) = wordsR x ++ ([wAnd] ++ wordsR z) := w_mid (by decide) (by decide) (by decide) x z
theorem m_or (x z : Str) : wordsR (x ++ (" or " : Str) ++ z) = wordsR x ++ ([wOr] ++ wordsR z) := w_mid (by decide) (by decide) (by decide) x z
theorem e_p (x : Str) : wordsR (x ++ (")" : Str)) = wordsR x ++ [wR] := w_fin (by decide) (by decide) x
theorem p_notsp (z : Str) : wordsR (("not (" : Str) ++ z) = [wNot, wL] ++ wordsR z := w_pre (by decide) (by decide) z
theorem p_p (z : Str) : wordsR (("(" : Str) ++ z) = [wL] ++ wordsR z := w_pre (by decide) (by decide) z
/-- what may be handed to chosen, and what it says of a thing's names -/
structure ChT (z : Str) (f : NmF) : Prop where
  len : z.length ≤ 3000
  ok : ∀ x ∈ wordsM z, PyData.strOk x = true
  ex : ∃ o, pAll (wordsM z) = some o ∧ TDO 42 o ∧ ∀ names, isTrueO names o = f names
theorem ChT.of {z : Str} {W : List Str} {d k : Nat} {f : NmF} (e : wordsR z = W) (h : RO d k W f) (hd : d ≤ 20) (hk : k ≤ 42) (hne : W ≠ []) (hl : z.length ≤ 3000) : ChT z f := by
  have e : wordsM z = W := e
  obtain ⟨t, h1, h2, h3⟩ := h.all hd hne
  exact ⟨hl, fun x hx => h.ok x (by rw [← e]; exact hx), some t, by rw [e]; exact h1, h2.up hk, h3⟩
/-- a drawn text -/
structure TX (L d k : Nat) (f : NmF) (z : Str) : Prop where
  len : z.length ≤ L
  rn : RN d k (wordsR z) f
theorem slen (x y : Str) : (x ++ y).length = x.length + y.length := Str.length_append x y
section
variable {L d k : Nat} {fa fb fc : NmF} {a b c : Str}
theorem TX.up {L' d' k' : Nat} (h : TX L d k fa a) (h1 : L ≤ L') (h2 : d ≤ d') (h3 : k ≤ k') : TX L' d' k' fa a := ⟨Nat.le_trans h.len h1, h.rn.up h2 h3⟩
theorem TX.ro (h : TX L d k fa a) : RO d (k + 2) (wordsR a) fa := h.rn.one.one
theorem TX.not (h : TX L d k fa a) : TX (L + 6) (d + 2) (k + 3) (fun n => !(fa n)) (("not (" : Str) ++ a ++ (")" : Str)) := by
  refine ⟨?_, ?_⟩
  · have := h.len
    rw [slen, slen]
    show 5 + a.length + 1 ≤ _
    omega
  · have := (RN.par h.ro).not
    rw [e_p, p_notsp]
    exact this
theorem ro_and (ha : RN d k (wordsR a) fa) (hb : RN d k (wordsR b) fb) : RO d (k + 2) (wordsR a ++ ([wAnd] ++ wordsR b)) (fun n => fa n && fb n) := by
  have := (RA.many (l := [(wordsR b, fb)]) ha (fun x hx => by rw [List.mem_singleton] at hx; rw [hx]; exact hb) (show 1 ≤ 1000 by decide)).one
  simpa [wTl] using this
theorem ro_or {W V : List Str} (ha : RA d k W fa) (hb : RA d k V fb) : RO d (k + 1) (W ++ ([wOr] ++ V)) (fun n => fa n || fb n) := by
  have := RO.many (l := [(V, fb)]) ha (fun x hx => by rw [List.mem_singleton] at hx; rw [hx]; exact hb) (show 1 ≤ 1000 by decide)
  simpa [wTl] using this
theorem TX.and (ha : TX L d k fa a) (hb : TX L d k fb b) : TX (2 * L + 7) (d + 1) (k + 2) (fun n => fa n && fb n) (("(" : Str) ++ a ++ (" and " : Str) ++ b ++ (")" : Str)) := by
  refine ⟨?_, ?_⟩
  · have := ha.len
    have := hb.len
    rw [slen, slen, slen, slen]
    show 1 + a.length + 5 + b.length + 1 ≤ _
    omega
  · have := RN.par (ro_and ha.rn hb.rn)
    rw [e_p, m_and, p_p]
    simpa using this
theorem TX.or (ha : TX L d k fa a) (hb : TX L d k fb b) : TX (2 * L + 7) (d + 1) (k + 2) (fun n => fa n || fb n) (("(" : Str) ++ a ++ (" or " : Str) ++ b ++ (")" : Str)) := by
  refine ⟨?_, ?_⟩
  · have := ha.len
    have := hb.len
    rw [slen, slen, slen, slen]
    show 1 + a.length + 4 + b.length + 1 ≤ _
    omega
  · have := RN.par (ro_or ha.rn.one hb.rn.one)
    rw [e_p, m_or, p_p]
    simpa using this
theorem RN.ne {W : List Str} (h : RN d k W fa) : W ≠ [] := fun e => by
  subst e
  obtain ⟨t, h1, _, _⟩ := h.ex
  have h2 : pNot [] d 0 = some (t, 0) := h1 d (Nat.le_refl d) [] [] trivial
  have e : wAt [] 0 = "" := rfl
  have h3 : pName [] 0 = none := by
    unfold pName
    rw [e, if_neg (by decide +kernel)]
  cases d with
  | zero =>
    have h2 : (if wAt [] 0 = "not" ∨ wAt [] 0 = "(" then none else pName [] 0) = some (t, 0) := h2
    rw [e, if_neg (by decide), h3] at h2
    cases h2
  | succ n =>
    have h2 : (if wAt [] 0 = "not" then _ else if wAt [] 0 = "(" then _ else pName [] 0) = some (t, 0) := h2
    rw [e, if_neg (by decide), if_neg (by decide), h3] at h2
    cases h2
end
/-! ### _law_alike over plain values; a, b = a list -/
section
variable {K : PySem.W.Frag}
theorem rAls_map : ∀ xs : List PV, rAl.rAls K xs = xs.map (rAl K)
  | [] => rfl
  | p :: t => congrArg (rAl K p :: ·) (rAls_map t)
theorem ap_ad : ∀ {n : Nat} {p : PV}, AP n p → AD K n (rAl K p)
  | n + 1, .v (.str _), _ => .str _
  | n + 1, .v (.int _), _ => .int _
  | n + 1, .v (.bl _), _ => .bl _
  | n + 1, .v .non, _ => .non
  | n + 1, .tup xs, h => .tup (fun r hr => by
      have hr : r ∈ rAl.rAls K xs := hr
      rw [rAls_map] at hr
      obtain ⟨x, hx, rfl⟩ := List.mem_map.mp hr
      exact ap_ad (h.2 x hx)) (by rw [rAls_map, List.length_map]; exact h.1)
  | n + 1, .lst xs, h => .lst (fun r hr => by
      have hr : r ∈ rAl.rAls K xs := hr
      rw [rAls_map] at hr
      obtain ⟨x, hx, rfl⟩ := List.mem_map.mp hr
      exact ap_ad (h.2 x hx)) (by rw [rAls_map, List.length_map]; exact h.1)
mutual
theorem al_of {G : Hp} : ∀ {p : PV} {v : V}, (rPV K p).P G v → (rAl K p).P G v
  | .v _, v, h => h
  | .dct _, v, h => h
  | .ins _ _, v, h => h
  | .rel _, v, h => h
  | .lst xs, v, h => by
    obtain ⟨a, vs, e1, e2, e3⟩ := (raw_lst h : (rLst K (rPs K xs)).P G v)
    exact ⟨a, vs, e1, e2, als_of e3⟩
  | .tup xs, v, h => by
    obtain ⟨a, vs, e1, e2, e3⟩ := (h : (rTup K (rPs K xs)).P G v)
    exact ⟨a, vs, e1, e2, als_of e3⟩
theorem als_of {G : Hp} : ∀ {xs : List PV} {vs : List V}, Al G (rPs K xs) vs → Al G (rAl.rAls K xs) vs
  | [], _, .nil => .nil
  | _ :: _, _, .cons h t => .cons (al_of h) (als_of t)
end
def ac_alike (n : Nat) : AC := fun avs A k => ∃ p, avs = [.pv p, .pv p] ∧ A = [] ∧ AP n p ∧ k (.pv (.bl true)) []
theorem le_alike {n : Nat} : SpLe (spA K (ac_alike n)) (sp_alike K (n + 1)) := fun vs H Q E ⟨s, avs, Kc, e, r, pr, ⟨p, ea, eA, hp, hk⟩, q⟩ => by
  subst e ea
  cases pr with
  | cons p0 pr =>
    cases pr with
    | cons p1 pr =>
      cases pr
      have hl : s.A.length = 0 := by rw [eA]; rfl
      refine ⟨⟨rAl K p, ap_ad hp⟩, s.G, r.le, trivial, .cons (al_of p0) (.cons (al_of p1) .nil), fun v G' H' g pv => ?_⟩
      refine q (.pv (.bl true)) v { s with G := G', H := H' } (r.pure g) rfl pv ?_
      show Kc (.pv (.bl true)) s.A
      rw [eA]
      exact hk
end
/-- the names of those that f says -/
def sel (ts : List Tr) (f : NmF) : List Str := (ts.filter fun t => f (trNames t)).map Tr.nm
theorem GenT.inj {ns : List Nd} {ts : List Tr} (g : GenT ns ts) {t u : Tr} (ht : t ∈ ts) (hu : u ∈ ts) (e : u.nm = t.nm) : u = t := by
  obtain ⟨i, hi⟩ := List.mem_iff_getElem?.mp ht
  obtain ⟨j, hj⟩ := List.mem_iff_getElem?.mp hu
  have := tName_inj ((g.nm j u hj).symm.trans (e.trans (g.nm i t hi)))
  subst this
  rw [hi] at hj
  exact (Option.some.inj hj).symm
theorem alc_some {wi : aTI} {g : aTG} {e : aTE} {vs : List Nat} {C : Sto → Prop} {A : Sto} {sa : Sg} {k : AO → Sto → Prop} (xs : List PV) (R : PV → Prop) (hs : ∀ Kc : List PV → (Sto → Prop) → Sto → Prop, Kc xs C A → wi sa A Kc) (hC : C A)
    (h : ∀ x ∈ xs, ∀ (N1 : PV → Sto → Prop), (∀ p, R p → N1 p A) → g (.pv x) (aWipe sa vs) A fun sa2 A2 => e sa2 A2 fun y A4 => ∃ p, y = .pv p ∧ N1 p A4)
    (hl : xs.length ≤ 100000) (hk : ∀ ys : List PV, ys.length = xs.length → (∀ y ∈ ys, R y) → k (.lst ys) A) : aLc wi g aYes e vs sa A k := by
  refine hs _ ⟨hl, fun i acc A' => A' = A ∧ acc.length = i ∧ ∀ y ∈ acc, R y, ⟨rfl, rfl, fun y hy => nomatch hy⟩, fun i acc A' hI => ⟨hI.1 ▸ hC, Nat.le_of_eq hI.2.1⟩, fun i x acc A' hx hI => ?_, fun acc A' hI => ?_⟩
  · obtain ⟨rfl, h2, h3⟩ := hI
    refine h x (List.mem_of_getElem? hx) (fun p A4 => A4 = A' ∧ (acc ++ [p]).length = i + 1 ∧ ∀ y ∈ acc ++ [p], R y) fun p hp => ⟨rfl, by rw [List.length_append, h2]; rfl, fun y hy => ?_⟩
    rcases List.mem_append.mp hy with hy | hy
    · exact h3 y hy
    · rw [List.mem_singleton.mp hy]
      exact hp
  · obtain ⟨rfl, h2, h3⟩ := hI
    exact hk acc h2 h3
theorem three {α : Type} : ∀ {ys : List α}, ys.length = 3 → ∃ a b c, ys = [a, b, c]
  | [a, b, c], _ => ⟨a, b, c, rfl⟩
theorem GenT.oks {ns : List Nd} {ts : List Tr} (g : GenT ns ts) (f : NmF) : ∀ x ∈ sel ts f, PyData.strOk x = true := fun x hx => by
  obtain ⟨t, ht, rfl⟩ := List.mem_map.mp hx
  obtain ⟨i, hi⟩ := List.getElem?_of_mem (List.mem_filter.mp ht).1
  exact letters_ok ((isTry_like.mp (g.is i t hi)).nm _ List.mem_cons_self)
/-! ### steadiness of places in lists; comprehensions that draw -/
section
variable {a b : aTE} {r : aTA}
theorem mo_fzl (h : MoA r) : Mo (aFz (aLst r)) := fun sa A k k' w hh => h sa A _ _ (fun avs A1 hh => by
  split at hh
  · exact ⟨hh.1, w (.pv (.lst _)) _ hh.2⟩
  · exact hh.elim) hh
theorem pvo_ixL : PvOp fIxL := fun A x y k h => by
  unfold fIxL at h ⊢
  split at h
  · obtain ⟨xs, p, h1, h2, h3⟩ := h
    exact ⟨xs, p, h1, h2, rfl, h3⟩
  · exact h.elim
end
theorem lc_some {g : aTG} {e : aTE} {vs : List Nat} {C : Sto → Prop} {A : Sto} {sa : Sg} {k : AO → Sto → Prop} (xs : List PV) (R : PV → Prop) (hC : C A)
    (h : ∀ x ∈ xs, ∀ (N1 : PV → Sto → Prop), (∀ p, R p → N1 p A) → g (.pv x) (aWipe sa vs) A fun sa2 A2 => e sa2 A2 fun y A4 => ∃ p, y = .pv p ∧ N1 p A4)
    (hl : xs.length ≤ 100000) (hk : ∀ ys : List PV, ys.length = xs.length → (∀ y ∈ ys, R y) → k (.lst ys) A) : xs.length ≤ 100000 ∧ ∃ I : Nat → List PV → Sto → Prop, I 0 [] A ∧ (∀ i acc A, I i acc A → C A ∧ acc.length ≤ i) ∧
      (∀ i x acc A, xs[i]? = some x → I i acc A → g (.pv x) (aWipe sa vs) A fun sa2 A2 => aYes sa2 A2 fun b A3 => if b = true then e sa2 A3 fun y A4 => ∃ p, y = .pv p ∧ I (i + 1) (acc ++ [p]) A4 else I (i + 1) acc A3) ∧
      ∀ acc A, I xs.length acc A → k (.lst acc) A :=
  alc_some (wi := fun _ A Kc => Kc xs C A) (g := g) (e := e) (vs := vs) (sa := sa) (k := k) xs R (fun _ h => h) hC h hl hk
theorem word_at {xs : List Str} {r : Int} (h0 : 0 ≤ r) (h1 : r < xs.length) : ∃ w ∈ xs, atI (xs.map PV.str) r = some (PV.str w) := by
  obtain ⟨i, rfl⟩ := Int.eq_ofNat_of_zero_le h0
  have hi : i < xs.length := by omega
  exact ⟨xs[i], List.getElem_mem hi, atI_nat (by rw [List.getElem?_map, List.getElem?_eq_getElem hi]; rfl)⟩
theorem alc_someQ {wi : aTI} {g : aTG} {e : aTE} {vs : List Nat} {A : Sto} {sa : Sg} {k : AO → Sto → Prop} (Q : List PV → Prop) (R : PV → Prop) (hs : ∀ kk : List PV → (Sto → Prop) → Sto → Prop, (∀ xs, Q xs → kk xs (fun _ => True) A) → wi sa A kk)
    (h : ∀ xs, Q xs → ∀ x ∈ xs, ∀ (N1 : PV → Sto → Prop), (∀ p, R p → N1 p A) → g (.pv x) (aWipe sa vs) A fun sa2 A2 => e sa2 A2 fun y A4 => ∃ p, y = .pv p ∧ N1 p A4)
    (hl : ∀ xs, Q xs → xs.length ≤ 100000) (hk : ∀ xs, Q xs → ∀ ys : List PV, ys.length = xs.length → (∀ y ∈ ys, R y) → k (.lst ys) A) : aLc wi g aYes e vs sa A k := hs _ fun xs hx => lc_some xs R trivial (h xs hx) (hl xs hx) (hk xs hx)
/-! weakening, more -/
section
variable {a b : aTE} {r : aTA} {f : aR2N} {e : aTN} {f1 : aR1}
end
section
variable {α : Type} {a b c d e f g : α} {t : List α}
theorem atI_1 : atI (a :: b :: t) 1 = some b := atI_nat (i := 1) rfl
end
section
variable {a b : aTE} {c d : aTT}
end
/-! ### a law begins -/
/-- the heap without its tables -/
def noTab (H : Hp) : Hp := fun b => match H b with
  | some (.tbl _) => none
  | o => o
theorem noTab_le (H : Hp) : Le (noTab H) H := fun b o e => by
  unfold noTab at e
  split at e
  · cases e
  · exact ⟨o, e, .refl o⟩
theorem noTab_at {H : Hp} {b : Addr} {o : HO} (h : H b = some o) (n : NT o) : noTab H b = some o := by
  unfold noTab
  split
  · rename_i ps e
    rw [h] at e
    exact (n ps (Option.some.inj e)).elim
  · exact h
theorem noTab_seqL {K : PySem.W.Frag} {H : Hp} {a : Addr} {xs : List V} (h : SqL K H a xs) : SqL K (noTab H) a xs := by
  rcases h with (h | ⟨ob, h⟩) | h
  · exact .inl (.inl (noTab_at h (by exact fun _ z => (nomatch z))))
  · exact .inl (.inr ⟨ob, noTab_at h (by exact fun _ z => (nomatch z))⟩)
  · exact .inr h
def sp_law (K : PySem.W.Frag) : Sp := fun vs H Q _ => ∃ (a : Addr) (ns : List Int), vs = [.ref a] ∧ SqL K H a (ns.map V.int) ∧ ns.length ≤ 63 ∧ (∀ P ∈ TC.T, H P = some (.tbl #[])) ∧ ∀ H', Q (.bl true) H'
theorem cells_al {G : Hp} : ∀ ns : List Int, Al G (ns.map rInt) (ns.map V.int)
  | [] => .nil
  | n :: t => .cons rfl (cells_al t)
def ac_law (K : PySem.W.Frag) : AC := fun avs A k => ∃ ns : List Int, avs = [.pv (.rel (rLst K (ns.map rInt)))] ∧ A = [] ∧ ns.length ≤ 63 ∧ k (.pv (.bl true)) []
theorem law_le {K : PySem.W.Frag} : SpLe (sp_law K) (spA K (ac_law K)) := fun vs H Q E ⟨a, ns, e, hS, hl, hT, hQ⟩ => by
  subst e
  have hv : (rLst K (ns.map rInt)).P (noTab H) (.ref a) := ⟨a, _, rfl, noTab_seqL hS, cells_al ns⟩
  have rp : Rep K (Bs.of (⟨[], fun _ => [], [], noTab H, H⟩ : Cs)) (⟨[], fun _ => [], [], noTab H, H⟩ : Cs) :=
    ⟨rfl, fun n o h => (nomatch h), fun n h => absurd h (Nat.not_lt_zero n), fun m n h => absurd h (Nat.not_lt_zero m), fun n h => absurd h (Nat.not_lt_zero n), fun n h => absurd h (Nat.not_lt_zero n), Gr.refl (noTab_le H), List.prefix_refl _,
      fun P hP => ⟨by show noTab H P = none; unfold noTab; rw [hT P hP], #[], hT P hP, True.intro, fun pos cv hc => by
        have z : codeAmong pos [] = some cv := hc
        simp [codeAmong] at z⟩⟩
  refine ⟨⟨[], fun _ => [], [], noTab H, H⟩, [.pv (.rel (rLst K (ns.map rInt)))], fun r _ => r = .pv (.bl true), rfl, rp, .cons hv .nil, ⟨ns, rfl, rfl, hl, rfl⟩, fun r v s' r' _ pv e => ?_⟩
  subst e
  cases (show _ = V.bl true from pv)
  exact hQ _
/-! ### a thing that changes no more -/
section
variable {K : PySem.W.Frag} {B : Bs} {s : Cs}
/-- the thing of place n becomes a value -/
theorem Rep.frzAt (r : Rep K B s) {n : Nat} {o : AO} {p : PV} (e : s.A[n]? = some o) (ef : o.fz = some p) (nb : B.ι.length ≤ n) : Rep K B { s with φ := fun i => if i = n then [] else s.φ i, A := s.A.set n (.pv p), G := frzH (s.φ n) s.G s.H } := by
  obtain ⟨v, h2, h3⟩ := r.at' n o e
  have hn := (List.getElem?_eq_some_iff.mp e).1
  have len : (s.A.set n (.pv p)).length = s.A.length := List.length_set
  have nx := aoR_nx h3
  have hB : ∀ b ∈ s.φ n, B.H b = Option.none := fun b hb => (r.fr n hn b hb).resolve_left fun z => by omega
  have r1 : Rep K B { s with φ := fun i => if i = n then [] else s.φ i, A := s.A.set n (.pv (.v v)) } := by
    have len : (s.A.set n (.pv (.v v))).length = s.A.length := List.length_set
    refine ⟨by show s.ι.length = _; rw [len]; exact r.len, fun i u e2 => ?_, fun i hi => ?_, fun i j hi hj ne b hb => ?_, fun i hi b hb => ?_, fun i hi b hb => ?_, r.gr, r.pre, r.tabs⟩
    · have e2 : (s.A.set n (.pv (.v v)))[i]? = some u := e2
      rw [List.getElem?_set] at e2
      by_cases c : n = i
      · subst c
        rw [if_pos rfl, if_pos hn] at e2
        cases e2
        exact ⟨v, h2, by show (if n = n then [] else s.φ n) = [] ∧ _; rw [if_pos rfl]; exact ⟨rfl, rfl⟩⟩
      · rw [if_neg c] at e2
        obtain ⟨w, z1, z2⟩ := r.at' i u e2
        exact ⟨w, z1, by show aoR K s.G s.H u w (if i = n then [] else s.φ i); rw [if_neg (Ne.symm c)]; exact z2⟩
    · show (if i = n then [] else s.φ i).Nodup
      by_cases c : i = n
      · rw [if_pos c]; exact List.nodup_nil
      · rw [if_neg c]; exact r.nd i (by rw [← len]; exact hi)
    · have hb : b ∈ (if i = n then [] else s.φ i) := hb
      show b ∉ (if j = n then [] else s.φ j)
      by_cases c : i = n
      · rw [if_pos c] at hb; cases hb
      · rw [if_neg c] at hb
        by_cases d : j = n
        · rw [if_pos d]; exact List.not_mem_nil
        · rw [if_neg d]; exact r.dj i j (by rw [← len]; exact hi) (by rw [← len]; exact hj) ne b hb
    · have hb : b ∈ (if i = n then [] else s.φ i) := hb
      by_cases c : i = n
      · rw [if_pos c] at hb; cases hb
      · rw [if_neg c] at hb; exact r.out i (by rw [← len]; exact hi) b hb
    · have hb : b ∈ (if i = n then [] else s.φ i) := hb
      by_cases c : i = n
      · rw [if_pos c] at hb; cases hb
      · rw [if_neg c] at hb; exact r.fr i (by rw [← len]; exact hi) b hb
  have r2 := r1.frz (fp := s.φ n) (fun b hb m hm z => by
    have z : b ∈ (if m = n then [] else s.φ m) := z
    by_cases c : m = n
    · rw [if_pos c] at z; cases z
    · rw [if_neg c] at z
      have hm : m < s.A.length := by
        have hm : m < (s.A.set n (.pv (.v v))).length := hm
        rw [List.length_set] at hm; exact hm
      exact r.dj m n hm hn c b z hb) hB nx
  refine ⟨?_, fun i u e2 => ?_, fun i hi => r2.nd i (by show i < (s.A.set n _).length; rw [List.length_set, ← len]; exact hi), fun i j hi hj => r2.dj i j (by show i < (s.A.set n _).length; rw [List.length_set, ← len]; exact hi) (by show j < (s.A.set n _).length; rw [List.length_set, ← len]; exact hj), fun i hi => r2.out i (by show i < (s.A.set n _).length; rw [List.length_set, ← len]; exact hi), fun i hi => r2.fr i (by show i < (s.A.set n _).length; rw [List.length_set, ← len]; exact hi), r2.gr, r2.pre, r2.tabs⟩
  · show s.ι.length = _; rw [len]; exact r.len
  · have e2 : (s.A.set n (.pv p))[i]? = some u := e2
    rw [List.getElem?_set] at e2
    by_cases c : n = i
    · subst c
      rw [if_pos rfl, if_pos hn] at e2
      cases e2
      exact ⟨v, h2, by show (if n = n then [] else s.φ n) = [] ∧ _; rw [if_pos rfl]; exact ⟨rfl, fz_ok h3 ef (s.φ n) (fun _ z => z) r.le⟩⟩
    · rw [if_neg c] at e2
      exact r2.at' i u (by show (s.A.set n _)[i]? = _; rw [List.getElem?_set, if_neg c]; exact e2)
end
/-- ahead of a statement: slot i names a value from now on -/
def aFrzS (n0 i : Nat) (u : aTS) : aTS := fun D sa A => ∃ n o p, sa[i]? = some (some (.loc n [])) ∧ A[n]? = some o ∧ o.fz = some p ∧ n0 ≤ n ∧ u D (sa.set i (some (.pv p))) (A.set n (.pv p))
theorem sim_frzS {K : PySem.W.Frag} {n0 i : Nat} {s1 : aTS} {t1 : TS} (h1 : SimS K n0 s1 t1) : SimS K n0 (aFrzS n0 i s1) t1 := fun {B s Da D} h0 ed {sa σ} r gg h => by
  obtain ⟨n, o, p, k1, k2, k3, k4, k5⟩ := h
  obtain ⟨vx, hv, px⟩ := gg.at' i _ k1
  obtain ⟨v, h2, h3⟩ := r.at' n o k2
  have hx : s.ι[n]? = some vx := px
  obtain rfl : v = vx := by rw [h2] at hx; exact Option.some.inj hx
  have r2 := r.frzAt k2 k3 (by rw [h0]; exact k4)
  have g : Grw s { s with φ := fun i => if i = n then [] else s.φ i, A := s.A.set n (.pv p), G := frzH (s.φ n) s.G s.H } := ⟨le_frzH r.le, List.prefix_refl _⟩
  have gg2 := (gg.grw g).set i (a := .pv p) (v := v) (fz_ok h3 k3 (s.φ n) (fun _ z => z) r.le)
  have eσ : σ.set i (some v) = σ := by
    refine List.ext_getElem? fun j => ?_
    rw [List.getElem?_set]
    by_cases c : i = j
    · subst c
      rw [if_pos rfl, if_pos (List.getElem?_eq_some_iff.mp hv).1, hv]
    · rw [if_neg c]
  rw [eσ] at gg2
  exact h1 h0 (ed.grw g) r2 gg2 k5
/-! ### the Chooser refuses, too: cold and while an exception is handled -/
inductive XR where
  | ok (t : Tree) (j : Nat)
  | no (j : Nat)
def XR.bd (r : XR) (f : Tree → Nat → XR) : XR := match r with
  | .ok t j => f t j
  | .no j => .no j
def xLoop (ws : List Str) (word : Str) (p : Nat → XR) : Nat → Nat → List Tree → XR
  | 0, i, _ => .no i
  | f + 1, i, acc => if wAt ws i = word then (p (i + 1)).bd fun t j => xLoop ws word p f j (acc ++ [t]) else .ok (.node word acc) i
def xJoin (ws : List Str) (word : Str) (p : Nat → XR) (i : Nat) : XR := (p i).bd fun t j => xLoop ws word p (ws.length + 1) j [t]
def xName (ws : List Str) (i : Nat) : XR := if isName (wAt ws i) then .ok (.node (wAt ws i) []) (i + 1) else .no i
/-- n: how much deeper it may go -/
def xNot (ws : List Str) : Nat → Nat → XR
  | 0, i => if wAt ws i = "not" ∨ wAt ws i = "(" then .no i else xName ws i
  | n + 1, i =>
    if wAt ws i = "not" then (xNot ws n (i + 1)).bd fun t j => .ok (.node "not" [t]) j
    else if wAt ws i = "(" then (xJoin ws "or" (xJoin ws "and" (xNot ws n)) (i + 1)).bd fun t j => if wAt ws j = ")" then .ok t (j + 1) else .no j
    else xName ws i
def xAnd (ws : List Str) (n : Nat) : Nat → XR := xJoin ws "and" (xNot ws n)
def xOr (ws : List Str) (n : Nat) : Nat → XR := xJoin ws "or" (xAnd ws n)
/-- the whole text -/
inductive XA where
  | ok (t : Option Tree)
  | no (j : Nat)
def xAll (ws : List Str) : XA := if ws = [] then .ok none else match xOr ws 20 0 with
  | .ok t j => if j < ws.length then .no j else .ok (some t)
  | .no j => .no j
theorem bd_ok {r : XR} {f : Tree → Nat → XR} {t : Tree} {j : Nat} (h : r.bd f = .ok t j) : ∃ u i, r = .ok u i ∧ f u i = .ok t j := by
  cases r with
  | ok u i => exact ⟨u, i, rfl, h⟩
  | no i => cases h
/-- what is read moves on -/
def On (p : Nat → XR) : Prop := ∀ i t j, p i = .ok t j → i < j
theorem on_loop {ws : List Str} {word : Str} {p : Nat → XR} (hp : On p) : ∀ f i acc t j, xLoop ws word p f i acc = .ok t j → i ≤ j
  | 0, i, acc, t, j, h => by cases h
  | f + 1, i, acc, t, j, h => by
    have h : (if wAt ws i = word then (p (i + 1)).bd fun t j => xLoop ws word p f j (acc ++ [t]) else .ok (.node word acc) i) = .ok t j := h
    by_cases c : wAt ws i = word
    · rw [if_pos c] at h
      obtain ⟨u, m, h1, h2⟩ := bd_ok h
      have a := hp _ _ _ h1
      have b := on_loop hp f m _ _ _ h2
      omega
    · rw [if_neg c] at h
      cases h
      exact Nat.le_refl _
theorem on_join {ws : List Str} {word : Str} {p : Nat → XR} (hp : On p) : On (xJoin ws word p) := fun i t j h => by
  obtain ⟨u, m, h1, h2⟩ := bd_ok h
  have a := hp _ _ _ h1
  have b := on_loop hp _ m _ _ _ h2
  omega
theorem on_name {ws : List Str} : On (xName ws) := fun i t j h => by
  unfold xName at h
  split at h <;> cases h
  omega
theorem on_not {ws : List Str} : ∀ n, On (xNot ws n)
  | 0, i, t, j, h => by
    have h : (if wAt ws i = "not" ∨ wAt ws i = "(" then XR.no i else xName ws i) = .ok t j := h
    split at h
    · cases h
    · exact on_name _ _ _ h
  | n + 1, i, t, j, h => by
    have h : (if wAt ws i = "not" then (xNot ws n (i + 1)).bd fun t j => .ok (.node "not" [t]) j
      else if wAt ws i = "(" then (xJoin ws "or" (xJoin ws "and" (xNot ws n)) (i + 1)).bd fun t j => if wAt ws j = ")" then .ok t (j + 1) else .no j
      else xName ws i) = .ok t j := h
    split at h
    · obtain ⟨u, m, h1, h2⟩ := bd_ok h
      have a := on_not n _ _ _ h1
      cases h2
      omega
    · split at h
      · obtain ⟨u, m, h1, h2⟩ := bd_ok h
        have a := on_join (on_join (on_not n)) _ _ _ h1
        split at h2 <;> cases h2
        omega
      · exact on_name _ _ _ h
/-! ### the defs -/
def xTx (CT : Addr) (i : Nat) : AX := ⟨.ref CT, [("place", .int i)]⟩
def WdsOk (ws : List Str) : Prop := ws.length ≤ 50000 ∧ ∀ x ∈ ws, x.length ≤ 100000
theorem WdsOk.at {ws : List Str} (h : WdsOk ws) (i : Nat) : (wAt ws i).length ≤ 100000 := by
  unfold wAt
  rw [List.getD_eq_getElem?_getD]
  cases e : ws[i]? with
  | none => exact Nat.zero_le _
  | some x => exact h.2 x (List.mem_of_getElem? e)
def xrK (CT C : Addr) (ws : List Str) (d : Nat) (r : XR) (k : Rt → Sto → Prop) (kx : AX → Sto → Prop) : Prop := match r with
  | .ok t j => k (.pv (pTree t)) [oCh C ws j d]
  | .no j => ∀ d', kx (xTx CT j) [oCh C ws j d']
def ac_xr (CT C : Addr) (fn : List Str → Nat → XR) (n : Nat) : ACX := fun avs A k kx => ∃ ws i d, avs = [.loc 0 []] ∧ A = [oCh C ws i d] ∧ d + n = 20 ∧ WdsOk ws ∧ xrK CT C ws d (fn ws i) k kx
def ac_refN (CT C : Addr) : ACX := fun avs A k kx => ∃ ws i d, avs = [.loc 0 []] ∧ A = [oCh C ws i d] ∧ kx (xTx CT i) [oCh C ws i d]
def ac_hereN (C : Addr) : AC := fun avs A k => ∃ ws i d, avs = [.loc 0 []] ∧ A = [oCh C ws i d] ∧ ws.length ≤ 50000 ∧ k (.pv (.str (wAt ws i))) [oCh C ws i d]
section
variable {P : Program} {w : World} {K : PySem.W.Frag} {mg : Str → Option Value} {base : Heap} {f : Addr} {fd : FuncData} {C0 CT C : Addr}
theorem sc_BadText___init__ : FnScope ["self", "place"] ["self", "place"] (defScope s_BadText___init__) := ⟨rfl, rfl, rfl, by decide +kernel, rfl, by decide +kernel, by decide +kernel⟩
theorem fn_badtextN (F : FunD K "__init__" "BadText.__init__" (defArgs s_BadText___init__) (defBody s_BadText___init__) (defScope s_BadText___init__) [] [] f fd) (hm : mg "TryError" = some (.ref C0)) (A0 : AboveC K C0) : FnOk P w K mg base CX0 1 f fd ["self", "place"] (sp_one K "place") ∧ FnHT P w K mg base CX0 1 f fd ["self", "place"] (sp_one K "place") :=
  ⟨F.ok sc_BadText___init__ (fun vs H Q E ⟨a, C, z, h, _⟩ => by rw [h]; rfl) fun cdv A outer s H vs Q E hr ⟨a, C, z, hv, h1, h2, h3, h4⟩ =>
    ⟨_, (pss_cons (ps_expr (pe_tinit rfl hm A0.rd A0.sp A0.ini (pa_cons (pv 0) (pa_cons pe_str pa_nil)))) (pss_one (ps_ost (pv 0) (pv 1)))), by subst hv; exact one_run h1 h2 h3 h4⟩,
   fnHT_byC F sc_BadText___init__ (fun vs H Q E ⟨a, C, z, h, _⟩ => by rw [h]; rfl) fun cdv A outer s H vs Q E p _ hr hc ⟨a, C, z, hv, h1, h2, h3, h4⟩ =>
    ⟨_, PSsT.of (pss_cons (ps_expr (pe_tinit rfl hm A0.rd A0.sp A0.ini (pa_cons (pv 0) (pa_cons pe_str pa_nil)))) (pss_one (ps_ost (pv 0) (pv 1)))), by subst hv; exact one_run h1 h2 h3 h4⟩⟩
theorem sc_Chooser_refuse : FnScope ["self"] ["self"] (defScope s_Chooser_refuse) := ⟨rfl, rfl, rfl, by decide +kernel, rfl, by decide +kernel, by decide +kernel⟩
theorem fn_refN (F : FnP K "refuse" "Chooser.refuse" s_Chooser_refuse f fd) (B : TopChs K mg C) (TT : ExcN1 P w K mg base "BadText" CT "place") : FnT P w K mg base (L2N.CX P w) 3 f fd ["self"] (spX K (ac_refN CT C)) ∧ FnHT P w K mg base (L2.CX P w) 3 f fd ["self"] (spX K (ac_refN CT C)) := by
  refine fnB (n0 := 1) F sc_Chooser_refuse (fun avs A Kc Kx ⟨ws, i, d, e, eA, _⟩ => ⟨by rw [e]; rfl, by rw [eA]; rfl⟩)
    (fun cdv A outer s H E hr tk => ⟨_, (psst1 (PST.of (L2N.ps_raise rfl tk (pmk_exoN TT hr (by first | decide | omega) rfl (pk_cons (pe_fldK (K := K) rfl (pv 0) rfl) pk_nil))))),
      (simx_raiseF rfl TT.ok TT.hf (sim_fld B.cl B.n_at sim_var))⟩)
    (fun cdv A outer s H E p hr hc tk => ⟨_, (psst1 (pst_raiseH hc tk (pmk_exoH TT hr hc (by first | decide | omega) rfl (pk_cons (pe_fldK (K := K) rfl (pv 0) rfl) pk_nil)))),
      (simx_raiseF rfl TT.ok TT.hf (sim_fld B.cl B.n_at sim_var))⟩) ?_
  rintro avs A Kc Kx ⟨ws, i, d, rfl, rfl, hx⟩
  dsimp! only [aRaiseF, oCh]
  exact hx
theorem fn_hereN (F : FnP K "here" "Chooser.here" s_Chooser_here f fd) (T : Top K mg) (B : TopChs K mg C) : FnOk P w K mg base CX0 1 f fd ["self"] (spA K (ac_hereN C)) ∧ FnHT P w K mg base CX0 1 f fd ["self"] (spA K (ac_hereN C)) := by
  have walk : ∀ avs A Kc, ac_hereN C avs A Kc → ∃ ws i d, avs = [.loc 0 []] ∧ A = [oCh C ws i d] ∧ (if (i : Int) < ((ws.map PV.str).length : Nat) then ∃ p, atI (ws.map PV.str) i = some p ∧ Kc (.pv p) [oCh C ws i d] else Kc (.pv (.str "")) [oCh C ws i d]) := fun avs A Kc ⟨ws, i, d, h1, h2, hl, hK⟩ => by
    refine ⟨ws, i, d, h1, h2, ?_⟩
    by_cases c : i < ws.length
    · rw [if_pos (by rw [List.length_map]; omega)]
      refine ⟨.str (wAt ws i), atI_nat (by rw [List.getElem?_map]; unfold wAt; rw [List.getD_eq_getElem?_getD, List.getElem?_eq_getElem c]; rfl), hK⟩
    · rw [if_neg (by rw [List.length_map]; omega)]
      have e : wAt ws i = "" := by unfold wAt; rw [List.getD_eq_getElem?_getD, List.getElem?_eq_none (by omega)]; rfl
      rw [e] at hK
      exact hK
  refine ⟨?_, ?_⟩
  · refine fnA (n0 := 1) F sc_Chooser_here (fun avs A Kc ⟨ws, i, d, e, eA, _⟩ => ⟨by rw [e]; rfl, by rw [eA]; rfl⟩) (fun cdv A outer s H E hr => ⟨_, (pss_one (ps_ret (pe_ifExp (pt_cmpR op_lt (pe_fldK (K := K) rfl (pv 0) rfl) (pe_callB (call_len_seq) (by rfl) T.z_len PySem.boot_len (pa_cons (pe_fldK (K := K) rfl (pv 0) rfl) pa_nil (star_Attribute _ _ _))) (nomark _)) (pe_ix ix_list (pe_fldK (K := K) rfl (pv 0) rfl) (pe_fldK (K := K) rfl (pv 0) rfl) (fun _ _ => rfl)) pe_str))),
  (sim_ret (sim_if (sim_test (sim_op (sim_fld B.cl B.n_at sim_var) (sim_call1 (sim_fld B.cl B.n_words sim_var) uns_len) ops_I0)) (sim_op (sim_fld B.cl B.n_words sim_var) (sim_fld B.cl B.n_at sim_var) ops_ixL) sim_c))⟩) ?_
    intro avs A Kc h
    obtain ⟨ws, i, d, rfl, rfl, h2⟩ := walk _ _ _ h
    dsimp! only [oCh, pStrsL]
    exact h2
  · refine fnAHT (n0 := 1) F sc_Chooser_here (fun avs A Kc ⟨ws, i, d, e, eA, _⟩ => ⟨by rw [e]; rfl, by rw [eA]; rfl⟩) (fun cdv A outer s H E p hr hc => ⟨_, (PSsT.of (pss_one (ps_ret (pe_ifExp (pt_cmpR op_lt (pe_fldK (K := K) rfl (pv 0) rfl) (pe_callB (call_len_seq) (by rfl) T.z_len PySem.boot_len (pa_cons (pe_fldK (K := K) rfl (pv 0) rfl) pa_nil (star_Attribute _ _ _))) (nomark _)) (pe_ix ix_list (pe_fldK (K := K) rfl (pv 0) rfl) (pe_fldK (K := K) rfl (pv 0) rfl) (fun _ _ => rfl)) pe_str)))),
      (sim_ret (sim_if (sim_test (sim_op (sim_fld B.cl B.n_at sim_var) (sim_call1 (sim_fld B.cl B.n_words sim_var) uns_len) ops_I0)) (sim_op (sim_fld B.cl B.n_words sim_var) (sim_fld B.cl B.n_at sim_var) ops_ixL) sim_c))⟩) ?_
    intro avs A Kc h
    obtain ⟨ws, i, d, rfl, rfl, h2⟩ := walk _ _ _ h
    dsimp! only [oCh, pStrsL]
    exact h2
theorem fn_is_nameH (F : FnP K "is_name" "is_name" s_is_name f fd) (T : Top K mg) : FnHT P w K mg base CX0 1 f fd ["word"] (spA K ac_is_name) := by
  refine fnAHT (n0 := 0) F sc_is_name (fun avs A Kc ⟨x, e, eA, _⟩ => ⟨by rw [e]; rfl, by rw [eA]; rfl⟩) (fun cdv A outer s H E p hr hc => ⟨_, (psst1 (pst_ret (pet_and (PET.of (pe_chain op_le op_le pe_int (pe_callB (call_len_str) (by rfl) T.z_len PySem.boot_len (pa_cons (pv 0) pa_nil (star_Name _ _))) (C8.pe_gc rfl T.c_MOST_SIGNS))) (pet_and (pet_callB (cr_allH hc) rfl T.z_all rfl (pat_cons (pet_lcH (own := [("sign", 1)]) hc sc_is_name.nd (pih_str (PET.of (pv 0))) (blkOk_by (own := [("sign", 1)]) (N := ["word", "sign"]) (sc := defScope s_is_name) (by decide +kernel)) (fun _ _ _ _ _ _ hc => (pg_name (i := 1) sc_is_name.nd rfl (Or.inl rfl))) (fun _ _ _ _ _ _ hc => (PTsT.of pts_nil)) (fun _ _ _ _ _ _ hc => petT (PET.of (pe_cmpR op_in_sign (pv 1) (C8.pe_gc rfl T.c_LETTERS) rfl)) (by (try dsimp only [bkH, cxH, Cx.tr, Cx.blk, Cx.nox, cxOf]) <;> rfl))) pat_nil (star_ListComp _ _ _ _)) (he := (star_ListComp _ _ _ _))) (pet_one (PET.of (pe_cmpR (op_notInK (K := K) rfl) (pv 0) (C8.pe_gc rfl T.c_WORDS) rfl))))))),
      (sim_ret (sim_andV (sim_chain sim_c (sim_call1 sim_var uns_lenS) sim_c) (sim_andV (sim_call1 (sim_fz (sim_lc (sim_istr sim_var) ng_name sim_yes (sim_op sim_var sim_c ops_sign))) uns_all) (sim_op sim_var (sim_cp (p := .tup [.str "and", .str "or", .str "not"]) (fun G => ⟨_, _, rfl, T.t_WORDS G, .cons rfl (.cons rfl (.cons rfl .nil))⟩)) ops_in))))⟩) ?_
  rintro avs A Kc ⟨x, rfl, rfl, hx, hK⟩
  dsimp! only []
  refine ⟨Nat.le_trans hx (by decide), ?_⟩
  have hn : isName x = ((decide ((1 : Int) ≤ x.length) && decide ((x.length : Int) ≤ 8)) && (x.cps.toList.all (fun c => decide (c ∈ letters.cps.toList)) && !decide (x ∈ words3))) := rfl
  have hK : Kc (.pv (.bl (isName x))) [] := hK
  by_cases c1 : (1 : Int) ≤ x.length
  · rw [if_pos c1]
    by_cases c2 : (x.length : Int) ≤ 8
    · rw [if_pos c2]
      refine alc_map x.cps.toList (fun c => PV.str ⟨#[c]⟩) (fun c => .bl (decide (c ∈ letters.cps.toList))) (fun Kc h => by dsimp! only []; exact h) trivial (fun c hc N hN => ?_) (by have : x.cps.toList.length ≤ 100000 := (by simpa [Str.length] using hx); omega) ?_
      · dsimp! only []
        exact ⟨c, rfl, hN⟩
      · dsimp! only []
        have ea : (List.map (fun c => decide (c ∈ letters.cps.toList)) x.cps.toList).all id = x.cps.toList.all (fun c => decide (c ∈ letters.cps.toList)) := by rw [List.all_map]; rfl
        by_cases c3 : x.cps.toList.all (fun c => decide (c ∈ letters.cps.toList)) = true
        · rw [ea, if_pos c3]
          refine ⟨_, rfl, rfl, ?_⟩
          rw [hn, decide_eq_true c1, decide_eq_true c2, c3] at hK
          have ei : inV (.str x) ([.str "and", .str "or", .str "not"] : List V) = decide (x ∈ words3) := inV_s x words3
          show Kc (.pv (.bl (!inV (.str x) ([.str "and", .str "or", .str "not"] : List V)))) []
          rw [ei]
          exact hK
        · rw [ea, if_neg c3]
          rw [hn, Bool.eq_false_iff.mpr c3, Bool.false_and, Bool.and_false] at hK
          exact hK
    · rw [if_neg c2]
      rw [hn, decide_eq_false c2, Bool.and_false, Bool.false_and] at hK
      exact hK
  · rw [if_neg c1]
    rw [hn, decide_eq_false c1, Bool.false_and, Bool.false_and] at hK
    exact hK
end
section
variable {P : Program} {w : World} {K : PySem.W.Frag} {mg : Str → Option Value} {base : Heap} {f : Addr} {fd : FuncData} {CT C : Addr} {k k1 : Nat} {n : Nat} {fn : List Str → Nat → XR}
/-- what is kept through such a loop -/
def xjI (CT C : Addr) (fn : List Str → Nat → XR) (word : Str) (ws : List Str) (d : Nat) (k : Rt → Sto → Prop) (kx : AX → Sto → Prop) (m : Nat) (sa : Sg) (A : Sto) : Prop :=
  ∃ f j acc, m = f + 1 ∧ sa = [some (.loc 0 []), some (.loc 1 [])] ∧ A = [oCh C ws j d, .lst (acc.map pTree)] ∧ ws.length < f + j ∧ acc.length ≤ j ∧ xrK CT C ws d (xLoop ws word (fn ws) (f + 1) j acc) k kx
theorem fn_andN (hk : 3 ≤ k) (hk1 : k1 ≤ k) (hfn : ∀ ws, On (fn ws)) (F : FnP K "read_and" "Chooser.read_and" s_Chooser_read_and f fd) (B : TopChs K mg C) (c_here : C8.Met P w K mg base 1 C "here" (spA K (ac_hereN C)) []) (h_here : MetH P w K mg base CX0 1 C "here" (spA K (ac_hereN C)) [])
    (c_not : MetC P w K mg base (L2N.CX P w) k1 C "read_not" (spX K (ac_xr CT C fn n)) []) (h_not : MetH P w K mg base (L2.CX P w) k1 C "read_not" (spX K (ac_xr CT C fn n)) []) :
    FnT P w K mg base (L2N.CX P w) (k + 1) f fd ["self"] (spX K (ac_xr CT C (fun ws => xJoin ws "and" (fn ws)) n)) ∧ FnHT P w K mg base (L2.CX P w) (k + 1) f fd ["self"] (spX K (ac_xr CT C (fun ws => xJoin ws "and" (fn ws)) n)) := by
  refine fnB (n0 := 1) F sc_Chooser_read_and (fun avs A Kc Kx ⟨ws, i, d, e, eA, _⟩ => ⟨by rw [e]; rfl, by rw [eA]; rfl⟩)
    (fun cdv A outer s H E hr tk => ⟨_, (psst_cons (pst_set (i := 1) sc_Chooser_read_and.nd rfl (Or.inl rfl) (pet_lst (pat_cons (pet_mtC0 c_not (L2N.passes_call tk fun _ _ _ _ h => h) hr (by first | decide | omega) (PET.of (pv 0))) pat_nil (star_Call _ _ _ _)))) (psst_cons (pst_whileT (passes_of rfl) (PTT.of (pt_cmpR op_eq (C8.pe_mt0 c_here hr (by first | decide | omega) (pv 0)) (C8.pe_gc rfl B.c_AND) (nomark _))) (psst_cons (PST.of (ps_fldaug (pv 0) pe_int in_add)) (psst1 (pst_expr (pet_bmH PySem.F.plainAttrs_list PySem.F.slot_list_append PySem.F.type_list_append (mt_append) (pv 1) (pat_cons (pet_mtC0 c_not (L2N.passes_call tk fun _ _ _ _ h => h) hr (by first | decide | omega) (PET.of (pv 0))) pat_nil (star_Call _ _ _ _))))))) (psst1 (PST.of (ps_ret (pe_tup (pa_cons (C8.pe_gc rfl B.c_AND) (pa_cons (pv 1) pa_nil (star_Name _ _)) (star_Name _ _)))))))),
      (simx_seq (simx_asgN (i := 1) (simx_lst (simxA_one (simx_methC sim_var)))) (simx_seq (simx_while (sim_test (sim_op (sim_meth1 (SpLe.refl _) sim_var sim_nil) sim_c ops_eq)) (simx_seq (simx (sim_faug B.cl B.n_at sim_var)) (simx_drop (simx_app stb_var sim_var (simx_methC sim_var))))) (simx (sim_frzS (i := 1) (sim_ret (sim_tup (sim_cons sim_c (sim_cons sim_var sim_nil))))))))⟩)
    (fun cdv A outer s H E p hr hc tk => ⟨_, (psst_cons (pst_set (i := 1) sc_Chooser_read_and.nd rfl (Or.inl rfl) (pet_lst (pat_cons (pet_mtH0 h_not (passes_call tk fun _ _ _ _ h => h) hr hc (by first | decide | omega) (PET.of (pv 0))) pat_nil (star_Call _ _ _ _)))) (psst_cons (pst_whileT (passes_of rfl) (ptt_cmpR op_eq (pet_mtH0 h_here pass0E hr hc (by first | decide | omega) (PET.of (pv 0))) (PET.of (C8.pe_gc rfl B.c_AND)) (nomark _)) (psst_cons (PST.of (ps_fldaug (pv 0) pe_int in_add)) (psst1 (pst_expr (pet_bmH PySem.F.plainAttrs_list PySem.F.slot_list_append PySem.F.type_list_append (mt_append) (pv 1) (pat_cons (pet_mtH0 h_not (passes_call tk fun _ _ _ _ h => h) hr hc (by first | decide | omega) (PET.of (pv 0))) pat_nil (star_Call _ _ _ _))))))) (psst1 (PST.of (ps_ret (pe_tup (pa_cons (C8.pe_gc rfl B.c_AND) (pa_cons (pv 1) pa_nil (star_Name _ _)) (star_Name _ _)))))))),
      (simx_seq (simx_asgN (i := 1) (simx_lst (simxA_one (simx_methC sim_var)))) (simx_seq (simx_while (sim_test (sim_op (sim_meth1 (SpLe.refl _) sim_var sim_nil) sim_c ops_eq)) (simx_seq (simx (sim_faug B.cl B.n_at sim_var)) (simx_drop (simx_app stb_var sim_var (simx_methC sim_var))))) (simx (sim_frzS (i := 1) (sim_ret (sim_tup (sim_cons sim_c (sim_cons sim_var sim_nil))))))))⟩) ?_
  rintro avs A Kc Kx ⟨ws, i, d, rfl, rfl, hd, hl, hx⟩
  dsimp! only [aSeqX, aAsgNX, aOneX, aMeth1X, aWhileX, aDropX, aAppX]
  unfold oCh
  dsimp only
  refine ⟨_, rfl, rfl, ws, i, d, rfl, rfl, hd, hl, ?_⟩
  have hx : xrK CT C ws d ((fn ws i).bd fun t j => xLoop ws "and" (fn ws) (ws.length + 1) j [t]) Kc Kx := hx
  cases e1 : fn ws i with
  | no j =>
    rw [e1] at hx
    intro d'
    exact hx d'
  | ok t j =>
    rw [e1] at hx
    have o1 := hfn ws i t j e1
    refine ⟨xjI CT C fn "and" ws d Kc Kx, ⟨_, ws.length, j, [t], rfl, rfl, rfl, by omega, by show 1 ≤ j; omega, hx⟩, ?_⟩
    rintro m sa A ⟨f, j, acc, rfl, rfl, rfl, h1, h2, h3⟩
    dsimp! only []
    unfold oCh
    dsimp only
    refine ⟨_, rfl, rfl, ws, j, d, rfl, rfl, hl.1, ?_⟩
    dsimp! only []
    have h3 : xrK CT C ws d (if wAt ws j = "and" then (fn ws (j + 1)).bd fun t j => xLoop ws "and" (fn ws) f j (acc ++ [t]) else .ok (.node "and" acc) j) Kc Kx := h3
    by_cases c : wAt ws j = "and"
    · rw [if_pos c] at h3 ⊢
      have hj : j < ws.length := Nat.lt_of_not_le fun z => by
        have e : wAt ws j = "" := by unfold wAt; rw [List.getD_eq_getElem?_getD, List.getElem?_eq_none z]; rfl
        rw [e] at c
        revert c
        decide
      dsimp! only [aFAug, oCh, aDrop, aMeth1X]
      refine ⟨(j : Nat), rfl, ws, j + 1, d, rfl, rfl, hd, hl, ?_⟩
      cases e2 : fn ws (j + 1) with
      | no j2 =>
        rw [e2] at h3
        intro d'
        exact h3 d'
      | ok t2 j2 =>
        rw [e2] at h3
        have o2 := hfn ws (j + 1) t2 j2 e2
        cases f with
        | zero => omega
        | succ f => exact ⟨by rw [List.length_map]; have := hl.1; omega, f + 1, by omega, f, j2, acc ++ [t2], rfl, rfl, by rw [List.map_append]; rfl, by omega, by rw [List.length_append, List.length_singleton]; omega, h3⟩
    · rw [if_neg c] at h3 ⊢
      dsimp! only [aFrzS]
      have h3 : Kc (.pv (.tup [.str "and", .lst (pTree.pTrees acc)])) [oCh C ws j d] := h3
      rw [pTrees_map] at h3
      exact h3
theorem fn_orN (hk : 3 ≤ k) (hk1 : k1 ≤ k) (hfn : ∀ ws, On (fn ws)) (F : FnP K "read_or" "Chooser.read_or" s_Chooser_read_or f fd) (B : TopChs K mg C) (c_here : C8.Met P w K mg base 1 C "here" (spA K (ac_hereN C)) []) (h_here : MetH P w K mg base CX0 1 C "here" (spA K (ac_hereN C)) [])
    (c_and : MetC P w K mg base (L2N.CX P w) k1 C "read_and" (spX K (ac_xr CT C fn n)) []) (h_and : MetH P w K mg base (L2.CX P w) k1 C "read_and" (spX K (ac_xr CT C fn n)) []) :
    FnT P w K mg base (L2N.CX P w) (k + 1) f fd ["self"] (spX K (ac_xr CT C (fun ws => xJoin ws "or" (fn ws)) n)) ∧ FnHT P w K mg base (L2.CX P w) (k + 1) f fd ["self"] (spX K (ac_xr CT C (fun ws => xJoin ws "or" (fn ws)) n)) := by
  refine fnB (n0 := 1) F sc_Chooser_read_or (fun avs A Kc Kx ⟨ws, i, d, e, eA, _⟩ => ⟨by rw [e]; rfl, by rw [eA]; rfl⟩)
    (fun cdv A outer s H E hr tk => ⟨_, (psst_cons (pst_set (i := 1) sc_Chooser_read_or.nd rfl (Or.inl rfl) (pet_lst (pat_cons (pet_mtC0 c_and (L2N.passes_call tk fun _ _ _ _ h => h) hr (by first | decide | omega) (PET.of (pv 0))) pat_nil (star_Call _ _ _ _)))) (psst_cons (pst_whileT (passes_of rfl) (PTT.of (pt_cmpR op_eq (C8.pe_mt0 c_here hr (by first | decide | omega) (pv 0)) (C8.pe_gc rfl B.c_OR) (nomark _))) (psst_cons (PST.of (ps_fldaug (pv 0) pe_int in_add)) (psst1 (pst_expr (pet_bmH PySem.F.plainAttrs_list PySem.F.slot_list_append PySem.F.type_list_append (mt_append) (pv 1) (pat_cons (pet_mtC0 c_and (L2N.passes_call tk fun _ _ _ _ h => h) hr (by first | decide | omega) (PET.of (pv 0))) pat_nil (star_Call _ _ _ _))))))) (psst1 (PST.of (ps_ret (pe_tup (pa_cons (C8.pe_gc rfl B.c_OR) (pa_cons (pv 1) pa_nil (star_Name _ _)) (star_Name _ _)))))))),
      (simx_seq (simx_asgN (i := 1) (simx_lst (simxA_one (simx_methC sim_var)))) (simx_seq (simx_while (sim_test (sim_op (sim_meth1 (SpLe.refl _) sim_var sim_nil) sim_c ops_eq)) (simx_seq (simx (sim_faug B.cl B.n_at sim_var)) (simx_drop (simx_app stb_var sim_var (simx_methC sim_var))))) (simx (sim_frzS (i := 1) (sim_ret (sim_tup (sim_cons sim_c (sim_cons sim_var sim_nil))))))))⟩)
    (fun cdv A outer s H E p hr hc tk => ⟨_, (psst_cons (pst_set (i := 1) sc_Chooser_read_or.nd rfl (Or.inl rfl) (pet_lst (pat_cons (pet_mtH0 h_and (passes_call tk fun _ _ _ _ h => h) hr hc (by first | decide | omega) (PET.of (pv 0))) pat_nil (star_Call _ _ _ _)))) (psst_cons (pst_whileT (passes_of rfl) (ptt_cmpR op_eq (pet_mtH0 h_here pass0E hr hc (by first | decide | omega) (PET.of (pv 0))) (PET.of (C8.pe_gc rfl B.c_OR)) (nomark _)) (psst_cons (PST.of (ps_fldaug (pv 0) pe_int in_add)) (psst1 (pst_expr (pet_bmH PySem.F.plainAttrs_list PySem.F.slot_list_append PySem.F.type_list_append (mt_append) (pv 1) (pat_cons (pet_mtH0 h_and (passes_call tk fun _ _ _ _ h => h) hr hc (by first | decide | omega) (PET.of (pv 0))) pat_nil (star_Call _ _ _ _))))))) (psst1 (PST.of (ps_ret (pe_tup (pa_cons (C8.pe_gc rfl B.c_OR) (pa_cons (pv 1) pa_nil (star_Name _ _)) (star_Name _ _)))))))),
      (simx_seq (simx_asgN (i := 1) (simx_lst (simxA_one (simx_methC sim_var)))) (simx_seq (simx_while (sim_test (sim_op (sim_meth1 (SpLe.refl _) sim_var sim_nil) sim_c ops_eq)) (simx_seq (simx (sim_faug B.cl B.n_at sim_var)) (simx_drop (simx_app stb_var sim_var (simx_methC sim_var))))) (simx (sim_frzS (i := 1) (sim_ret (sim_tup (sim_cons sim_c (sim_cons sim_var sim_nil))))))))⟩) ?_
  rintro avs A Kc Kx ⟨ws, i, d, rfl, rfl, hd, hl, hx⟩
  dsimp! only [aSeqX, aAsgNX, aOneX, aMeth1X, aWhileX, aDropX, aAppX]
  unfold oCh
  dsimp only
  refine ⟨_, rfl, rfl, ws, i, d, rfl, rfl, hd, hl, ?_⟩
  have hx : xrK CT C ws d ((fn ws i).bd fun t j => xLoop ws "or" (fn ws) (ws.length + 1) j [t]) Kc Kx := hx
  cases e1 : fn ws i with
  | no j =>
    rw [e1] at hx
    intro d'
    exact hx d'
  | ok t j =>
    rw [e1] at hx
    have o1 := hfn ws i t j e1
    refine ⟨xjI CT C fn "or" ws d Kc Kx, ⟨_, ws.length, j, [t], rfl, rfl, rfl, by omega, by show 1 ≤ j; omega, hx⟩, ?_⟩
    rintro m sa A ⟨f, j, acc, rfl, rfl, rfl, h1, h2, h3⟩
    dsimp! only []
    unfold oCh
    dsimp only
    refine ⟨_, rfl, rfl, ws, j, d, rfl, rfl, hl.1, ?_⟩
    dsimp! only []
    have h3 : xrK CT C ws d (if wAt ws j = "or" then (fn ws (j + 1)).bd fun t j => xLoop ws "or" (fn ws) f j (acc ++ [t]) else .ok (.node "or" acc) j) Kc Kx := h3
    by_cases c : wAt ws j = "or"
    · rw [if_pos c] at h3 ⊢
      have hj : j < ws.length := Nat.lt_of_not_le fun z => by
        have e : wAt ws j = "" := by unfold wAt; rw [List.getD_eq_getElem?_getD, List.getElem?_eq_none z]; rfl
        rw [e] at c
        revert c
        decide
      dsimp! only [aFAug, oCh, aDrop, aMeth1X]
      refine ⟨(j : Nat), rfl, ws, j + 1, d, rfl, rfl, hd, hl, ?_⟩
      cases e2 : fn ws (j + 1) with
      | no j2 =>
        rw [e2] at h3
        intro d'
        exact h3 d'
      | ok t2 j2 =>
        rw [e2] at h3
        have o2 := hfn ws (j + 1) t2 j2 e2
        cases f with
        | zero => omega
        | succ f => exact ⟨by rw [List.length_map]; have := hl.1; omega, f + 1, by omega, f, j2, acc ++ [t2], rfl, rfl, by rw [List.map_append]; rfl, by omega, by rw [List.length_append, List.length_singleton]; omega, h3⟩
    · rw [if_neg c] at h3 ⊢
      dsimp! only [aFrzS]
      have h3 : Kc (.pv (.tup [.str "or", .lst (pTree.pTrees acc)])) [oCh C ws j d] := h3
      rw [pTrees_map] at h3
      exact h3
theorem fn_notN {acO acN : ACX} {kO kN : Nat} (hk : 3 ≤ k) (hO : kO ≤ k) (hN : kN ≤ k) (F : FnP K "read_not" "Chooser.read_not" s_Chooser_read_not f fd) (B : TopChs K mg C) (c_is_name : C8.Cal P w K mg base 1 "is_name" (spA K ac_is_name) []) (h_is_name : CalH P w K mg base CX0 1 "is_name" (spA K ac_is_name) [])
    (c_here : C8.Met P w K mg base 1 C "here" (spA K (ac_hereN C)) []) (h_here : MetH P w K mg base CX0 1 C "here" (spA K (ac_hereN C)) []) (c_refuse : MetC P w K mg base (L2N.CX P w) 3 C "refuse" (spX K (ac_refN CT C)) []) (h_refuse : MetH P w K mg base (L2.CX P w) 3 C "refuse" (spX K (ac_refN CT C)) [])
    (c_or : MetC P w K mg base (L2N.CX P w) kO C "read_or" (spX K acO) []) (h_or : MetH P w K mg base (L2.CX P w) kO C "read_or" (spX K acO) []) (c_not : MetC P w K mg base (L2N.CX P w) kN C "read_not" (spX K acN) []) (h_not : MetH P w K mg base (L2.CX P w) kN C "read_not" (spX K acN) [])
    (hsp : ∀ n', n = n' + 1 → acO = ac_xr CT C (fun ws => xOr ws n') n' ∧ acN = ac_xr CT C (fun ws => xNot ws n') n') :
    FnT P w K mg base (L2N.CX P w) (k + 1) f fd ["self"] (spX K (ac_xr CT C (fun ws => xNot ws n) n)) ∧ FnHT P w K mg base (L2.CX P w) (k + 1) f fd ["self"] (spX K (ac_xr CT C (fun ws => xNot ws n) n)) := by
  refine fnB (n0 := 1) F sc_Chooser_read_not (fun avs A Kc Kx ⟨ws, i, d, e, eA, _⟩ => ⟨by rw [e]; rfl, by rw [eA]; rfl⟩)
    (fun cdv A outer s H E hr tk => ⟨_, (psst_cons (PST.of (ps_set (i := 1) sc_Chooser_read_not.nd rfl (Or.inl rfl) (C8.pe_mt0 c_here hr (by first | decide | omega) (pv 0)))) (psst_cons (pst_if (PTT.of (PW.pt (pw_or (pt_cmpR op_eq (pv 1) (C8.pe_gc rfl B.c_NOT) (nomark _)) (pw_or1 (pt_cmpR op_eq (pv 1) pe_str (nomark _)))))) (psst_cons (pst_if (PTT.of (pt_cmpR op_eq (pe_fldK (K := K) rfl (pv 0) rfl) (C8.pe_gc rfl B.c_MOST_WITHIN) (nomark _))) (psst1 (pst_expr (pet_mtC0 c_refuse (L2N.passes_call tk fun _ _ _ _ h => h) hr (by first | decide | omega) (PET.of (pv 0))))) (PSsT.of pss_nil)) (psst_cons (PST.of (ps_fldaug (pv 0) pe_int in_add)) (psst_cons (PST.of (ps_fldaug (pv 0) pe_int in_add)) (psst_cons (pst_set (i := 2) sc_Chooser_read_not.nd rfl (Or.inl rfl) (pet_ifM (PTT.of (pt_cmpR op_eq (pv 1) (C8.pe_gc rfl B.c_NOT) (nomark _))) (pet_tupM (pat_cons (PET.of (C8.pe_gc rfl B.c_NOT)) (pat_cons (pet_lst (pat_cons (pet_mtC0 c_not (L2N.passes_call tk fun _ _ _ _ h => h) hr (by first | decide | omega) (PET.of (pv 0))) pat_nil (star_Call _ _ _ _))) pat_nil (star_List _ _)) (star_Name _ _))) (pet_mtC0 c_or (L2N.passes_call tk fun _ _ _ _ h => h) hr (by first | decide | omega) (PET.of (pv 0))))) (psst_cons (PST.of (ps_fldaug (pv 0) pe_int in_sub)) (psst_cons (pst_if (PTT.of (pt_cmpR op_eq (pv 1) pe_str (nomark _))) (psst_cons (pst_if (PTT.of (pt_cmpR op_ne (C8.pe_mt0 c_here hr (by first | decide | omega) (pv 0)) pe_str (nomark _))) (psst1 (pst_expr (pet_mtC0 c_refuse (L2N.passes_call tk fun _ _ _ _ h => h) hr (by first | decide | omega) (PET.of (pv 0))))) (PSsT.of pss_nil)) (psst1 (PST.of (ps_fldaug (pv 0) pe_int in_add)))) (PSsT.of pss_nil)) (psst1 (PST.of (ps_ret (pv 2)))))))))) (PSsT.of pss_nil)) (psst_cons (pst_if (PTT.of (pt_not (pt_val (C8.pe_c c_is_name hr (by first | decide | omega) rfl (pa_cons (pv 1) pa_nil (star_Name _ _)) (he := (star_Name _ _)))))) (psst1 (pst_expr (pet_mtC0 c_refuse (L2N.passes_call tk fun _ _ _ _ h => h) hr (by first | decide | omega) (PET.of (pv 0))))) (PSsT.of pss_nil)) (psst_cons (PST.of (ps_fldaug (pv 0) pe_int in_add)) (psst1 (PST.of (ps_ret (pe_tup (pa_cons (pv 1) (pa_cons (pe_lst pa_nil) pa_nil (star_List _ _)) (star_Name _ _)))))))))),
      (simx_seq (simx (sim_asg (sim_meth1 (SpLe.refl _) sim_var sim_nil) (sim_gname (vs := [0, 1, 2])))) (simx_seq (simx_ifS (sim_or (sim_test (sim_op sim_var sim_c ops_eq)) (sim_test (sim_op sim_var sim_c ops_eq))) (simx_seq (simx_ifS (sim_test (sim_op (sim_fld B.cl B.n_deep sim_var) sim_c ops_eq)) (simx_drop (simx_methC sim_var)) (simx sim_next)) (simx_seq (simx (sim_faug B.cl B.n_deep sim_var)) (simx_seq (simx (sim_faug B.cl B.n_at sim_var)) (simx_seq (simx_asg (simx_if (sim_test (sim_op sim_var sim_c ops_eq)) (simx_tup (simxA_cons stb_c sim_c (simxA_one (simx_fz (simx_lst (simxA_one (simx_methC sim_var))))))) (simx_methC sim_var)) (sim_gname (vs := [0, 1, 2]))) (simx_seq (simx (sim_fsub B.cl B.n_deep sim_var)) (simx_seq (simx_ifS (sim_test (sim_op sim_var sim_c ops_eq)) (simx_seq (simx_ifS (sim_test (sim_op (sim_meth1 (SpLe.refl _) sim_var sim_nil) sim_c ops_ne)) (simx_drop (simx_methC sim_var)) (simx sim_next)) (simx (sim_faug B.cl B.n_at sim_var))) (simx sim_next)) (simx (sim_ret sim_var)))))))) (simx sim_next)) (simx_seq (simx_ifS (sim_not (sim_B (sim_call0 (SpLe.refl _) (sim_cons sim_var sim_nil)))) (simx_drop (simx_methC sim_var)) (simx sim_next)) (simx_seq (simx (sim_faug B.cl B.n_at sim_var)) (simx (sim_ret (sim_tup (sim_cons sim_var (sim_cons (sim_fz (sim_lst sim_nil)) sim_nil)))))))))⟩)
    (fun cdv A outer s H E p hr hc tk => ⟨_, (psst_cons (pst_set (i := 1) sc_Chooser_read_not.nd rfl (Or.inl rfl) (pet_mtH0 h_here pass0E hr hc (by first | decide | omega) (PET.of (pv 0)))) (psst_cons (pst_if (PTT.of (PW.pt (pw_or (pt_cmpR op_eq (pv 1) (C8.pe_gc rfl B.c_NOT) (nomark _)) (pw_or1 (pt_cmpR op_eq (pv 1) pe_str (nomark _)))))) (psst_cons (pst_if (PTT.of (pt_cmpR op_eq (pe_fldK (K := K) rfl (pv 0) rfl) (C8.pe_gc rfl B.c_MOST_WITHIN) (nomark _))) (psst1 (pst_expr (pet_mtH0 h_refuse (passes_call tk fun _ _ _ _ h => h) hr hc (by first | decide | omega) (PET.of (pv 0))))) (PSsT.of pss_nil)) (psst_cons (PST.of (ps_fldaug (pv 0) pe_int in_add)) (psst_cons (PST.of (ps_fldaug (pv 0) pe_int in_add)) (psst_cons (pst_set (i := 2) sc_Chooser_read_not.nd rfl (Or.inl rfl) (pet_ifM (PTT.of (pt_cmpR op_eq (pv 1) (C8.pe_gc rfl B.c_NOT) (nomark _))) (pet_tupM (pat_cons (PET.of (C8.pe_gc rfl B.c_NOT)) (pat_cons (pet_lst (pat_cons (pet_mtH0 h_not (passes_call tk fun _ _ _ _ h => h) hr hc (by first | decide | omega) (PET.of (pv 0))) pat_nil (star_Call _ _ _ _))) pat_nil (star_List _ _)) (star_Name _ _))) (pet_mtH0 h_or (passes_call tk fun _ _ _ _ h => h) hr hc (by first | decide | omega) (PET.of (pv 0))))) (psst_cons (PST.of (ps_fldaug (pv 0) pe_int in_sub)) (psst_cons (pst_if (PTT.of (pt_cmpR op_eq (pv 1) pe_str (nomark _))) (psst_cons (pst_if (ptt_cmpR op_ne (pet_mtH0 h_here pass0E hr hc (by first | decide | omega) (PET.of (pv 0))) (PET.of pe_str) (nomark _)) (psst1 (pst_expr (pet_mtH0 h_refuse (passes_call tk fun _ _ _ _ h => h) hr hc (by first | decide | omega) (PET.of (pv 0))))) (PSsT.of pss_nil)) (psst1 (PST.of (ps_fldaug (pv 0) pe_int in_add)))) (PSsT.of pss_nil)) (psst1 (PST.of (ps_ret (pv 2)))))))))) (PSsT.of pss_nil)) (psst_cons (pst_if (ptt_not (ptt_val (pet_cH h_is_name pass0E hr hc (by first | decide | omega) rfl (@PAT.of _ _ _ (pa_cons (pv 1) pa_nil (star_Name _ _))) (he := (star_Name _ _))))) (psst1 (pst_expr (pet_mtH0 h_refuse (passes_call tk fun _ _ _ _ h => h) hr hc (by first | decide | omega) (PET.of (pv 0))))) (PSsT.of pss_nil)) (psst_cons (PST.of (ps_fldaug (pv 0) pe_int in_add)) (psst1 (PST.of (ps_ret (pe_tup (pa_cons (pv 1) (pa_cons (pe_lst pa_nil) pa_nil (star_List _ _)) (star_Name _ _)))))))))),
      (simx_seq (simx (sim_asg (sim_meth1 (SpLe.refl _) sim_var sim_nil) (sim_gname (vs := [0, 1, 2])))) (simx_seq (simx_ifS (sim_or (sim_test (sim_op sim_var sim_c ops_eq)) (sim_test (sim_op sim_var sim_c ops_eq))) (simx_seq (simx_ifS (sim_test (sim_op (sim_fld B.cl B.n_deep sim_var) sim_c ops_eq)) (simx_drop (simx_methC sim_var)) (simx sim_next)) (simx_seq (simx (sim_faug B.cl B.n_deep sim_var)) (simx_seq (simx (sim_faug B.cl B.n_at sim_var)) (simx_seq (simx_asg (simx_if (sim_test (sim_op sim_var sim_c ops_eq)) (simx_tup (simxA_cons stb_c sim_c (simxA_one (simx_fz (simx_lst (simxA_one (simx_methC sim_var))))))) (simx_methC sim_var)) (sim_gname (vs := [0, 1, 2]))) (simx_seq (simx (sim_fsub B.cl B.n_deep sim_var)) (simx_seq (simx_ifS (sim_test (sim_op sim_var sim_c ops_eq)) (simx_seq (simx_ifS (sim_test (sim_op (sim_meth1 (SpLe.refl _) sim_var sim_nil) sim_c ops_ne)) (simx_drop (simx_methC sim_var)) (simx sim_next)) (simx (sim_faug B.cl B.n_at sim_var))) (simx sim_next)) (simx (sim_ret sim_var)))))))) (simx sim_next)) (simx_seq (simx_ifS (sim_not (sim_B (sim_call0 (SpLe.refl _) (sim_cons sim_var sim_nil)))) (simx_drop (simx_methC sim_var)) (simx sim_next)) (simx_seq (simx (sim_faug B.cl B.n_at sim_var)) (simx (sim_ret (sim_tup (sim_cons sim_var (sim_cons (sim_fz (sim_lst sim_nil)) sim_nil)))))))))⟩) ?_
  rintro avs A Kc Kx ⟨ws, i, d, rfl, rfl, hd, hl, hx⟩
  simp only [aDisp, aPairs, fMulS, fSub, aIsi, aIsiT, tyOf, vty, PV.ty, aCall0D, aJoin, aSeq, aTest, aOp, aVar, aC, aCp, aRet, aRetN, aRetZ, aDrop, aNext, aBreak, aCont, aAsg, aAsgN, aGTup, aGCons, aGNil, aName, aUn, aUnN, aOpN, aFz, aTup, aLst, aIList, aIListP, aITup, aIEnum, aIEnumT, aIRng, aIStr, aYes, aCall0, aCall0N, aCall1, aMeth0, aMeth1, aMake, aCons, aNil, aWipe, aNotV, aAndV, aOrV, aAnd, aOr, aNot, aChain, aDGet, aDIn, aDPut, aApp, aAug, aPar, aSFld, aSFldN, aFld, aFldF, aSlT, aSlL, aRevL, aPO, aPO0, aBook, fIsN, fNotN, fEq, fNe, fI0, fI, fAddS, fAny, fAll, fIxL, fIxT, fIxS, fIn, fSign, fLen, fLenS, fList, fTuple, fInt, fMax2, fCat, fRep, fCatT, fEqD, fNeD, startA, aEnd, viewT, viewL, viewS, viewF, viewD, pvs, aoAt, aoSub, aoSet, aoPut, foPut, putFo, AO.fz, AO.fz.fzs, PV.isNon, AV.clsAt, keyOf, vdat, PV.dat, PV.dat.dats, viewDat, numP, List.getElem?_cons_zero, List.getElem?_cons_succ, List.getElem?_nil, List.set_cons_zero, List.set_cons_succ, List.map_cons, List.map_nil, List.cons_append, List.nil_append, List.append_nil, List.replicate_succ, List.replicate_zero, List.length_cons, List.length_nil, List.take_zero, List.take_succ_cons, List.take_nil, Nat.reduceAdd, Nat.reduceSub, Nat.reduceLT, Nat.reduceLeDiff, if_true, if_false, reduceIte, Option.map_some, Option.map_none, Option.bind_some, Option.bind_none, Bool.false_eq_true, Bool.not_true, Bool.not_false, List.lookup_cons, List.lookup_nil, Option.some.injEq, exists_eq_left', exists_eq_left, exists_and_left, AO.ins.injEq, AO.lst.injEq, AO.dK.injEq, Nat.zero_add, ite_true, ite_false, List.cons.injEq, AV.pv.injEq, PV.v.injEq, AV.loc.injEq, and_self, bools_map, decide_true, decide_false, true_and, and_true, decide_eq_true_eq, V.str.injEq, V.int.injEq, V.bl.injEq, scalS, scalI, scalB, inV_s, vals_s, vals_s', flat_s, flat_1, inV_b, vals_b, flat_b, pstrs_s, reduceCtorEq, ofS_beq, ofS_eq, String.reduceBEq, String.reduceEq, aSeqX, aAsgX, aAsgNX, aIfX, aIfSX, aOneX, aMeth1X, aWhileX, aDropX]
  unfold oCh
  dsimp only
  refine ⟨_, rfl, rfl, ws, i, d, rfl, rfl, hl.1, ?_⟩
  dsimp only
  have dd : ∀ d' : Nat, ((d' : Nat) : Int) + 1 = ((d' + 1 : Nat) : Int) := fun d' => by omega
  have ds : ∀ d' : Nat, (((d' + 1 : Nat) : Nat) : Int) - 1 = ((d' : Nat) : Int) := fun d' => by omega
  by_cases cn : wAt ws i = "not"
  · rw [cn]
    cases n with
    | zero =>
      have hx : xrK CT C ws d (if wAt ws i = "not" ∨ wAt ws i = "(" then .no i else xName ws i) Kc Kx := hx
      rw [if_pos (.inl cn)] at hx
      have e : ((d : Nat) : Int) = 20 := by omega
      dsimp! only [aIfS, aOr, oCh, aDrop, aMeth1X, aFAug]
      rw [if_pos e]
      exact ⟨ws, i, d, rfl, rfl, hx d⟩
    | succ n =>
      obtain ⟨rfl, rfl⟩ := hsp n rfl
      have hx : xrK CT C ws d (if wAt ws i = "not" then (xNot ws n (i + 1)).bd fun t j => .ok (.node "not" [t]) j else _) Kc Kx := hx
      rw [if_pos cn] at hx
      have e : ¬ ((d : Nat) : Int) = 20 := by omega
      dsimp! only [aIfS, aOr, oCh, aDrop, aMeth1X, aFAug, aOneX]
      rw [if_neg e]
      refine ⟨(d : Nat), rfl, (i : Nat), rfl, ws, i + 1, d + 1, rfl, rfl, by omega, hl, ?_⟩
      show xrK CT C ws (d + 1) (xNot ws n (i + 1)) _ _
      cases e1 : xNot ws n (i + 1) with
      | no j =>
        rw [e1] at hx
        intro d'
        exact hx d'
      | ok t j =>
        rw [e1] at hx
        have hx : Kc (.pv (.tup [.str "not", .lst [pTree t]])) [oCh C ws j d] := hx
        dsimp only [xrK]
        dsimp! only [aIfS, aFSub, oCh, aMeth1X, aDrop]
        refine ⟨((d + 1 : Nat) : Int), rfl, ?_⟩
        rw [ds]
        exact hx
  by_cases cp : wAt ws i = "("
  · rw [cp]
    cases n with
    | zero =>
      have hx : xrK CT C ws d (if wAt ws i = "not" ∨ wAt ws i = "(" then .no i else xName ws i) Kc Kx := hx
      rw [if_pos (.inr cp)] at hx
      have e : ((d : Nat) : Int) = 20 := by omega
      dsimp! only [aIfS, aOr, oCh, aDrop, aMeth1X, aFAug]
      rw [if_pos e]
      exact ⟨ws, i, d, rfl, rfl, hx d⟩
    | succ n =>
      obtain ⟨rfl, rfl⟩ := hsp n rfl
      have hx : xrK CT C ws d (if wAt ws i = "not" then _ else if wAt ws i = "(" then (xJoin ws "or" (xJoin ws "and" (xNot ws n)) (i + 1)).bd fun t j => if wAt ws j = ")" then .ok t (j + 1) else .no j else xName ws i) Kc Kx := hx
      rw [if_neg cn, if_pos cp] at hx
      have e : ¬ ((d : Nat) : Int) = 20 := by omega
      dsimp! only [aIfS, aOr, oCh, aDrop, aMeth1X, aFAug, aOneX]
      rw [if_neg e]
      refine ⟨(d : Nat), rfl, (i : Nat), rfl, ws, i + 1, d + 1, rfl, rfl, by omega, hl, ?_⟩
      show xrK CT C ws (d + 1) (xOr ws n (i + 1)) _ _
      cases e1 : xOr ws n (i + 1) with
      | no j =>
        have e1' : xJoin ws "or" (xJoin ws "and" (xNot ws n)) (i + 1) = .no j := e1
        rw [e1'] at hx
        intro d'
        exact hx d'
      | ok t j =>
        have e1' : xJoin ws "or" (xJoin ws "and" (xNot ws n)) (i + 1) = .ok t j := e1
        rw [e1'] at hx
        have hx : xrK CT C ws d (if wAt ws j = ")" then .ok t (j + 1) else .no j) Kc Kx := hx
        dsimp only [xrK]
        dsimp! only [aIfS, aFSub, oCh, aMeth1X, aDrop, aFAug]
        refine ⟨((d + 1 : Nat) : Int), rfl, ?_⟩
        rw [ds]
        refine ⟨ws, j, d, rfl, rfl, hl.1, ?_⟩
        by_cases c : wAt ws j = ")"
        · rw [if_pos c] at hx
          rw [c]
          dsimp! only [oCh]
          exact ⟨_, rfl, hx⟩
        · rw [if_neg c] at hx
          dsimp! only [oCh]
          rw [if_pos (by simpa using c)]
          exact ⟨ws, j, d, rfl, rfl, hx d⟩
  · have hx : xrK CT C ws d (xName ws i) Kc Kx := by
      cases n with
      | zero =>
        have hx : xrK CT C ws d (if wAt ws i = "not" ∨ wAt ws i = "(" then .no i else xName ws i) Kc Kx := hx
        rw [if_neg (by rintro (z | z) <;> contradiction)] at hx
        exact hx
      | succ n =>
        have hx : xrK CT C ws d (if wAt ws i = "not" then _ else if wAt ws i = "(" then _ else xName ws i) Kc Kx := hx
        rw [if_neg cn, if_neg cp] at hx
        exact hx
    dsimp! only [aIfS, aOr, oCh, aDrop, aMeth1X, aFAug]
    rw [if_neg cn, if_neg cp]
    refine ⟨wAt ws i, rfl, rfl, hl.at i, ?_⟩
    have hx : xrK CT C ws d (if isName (wAt ws i) then .ok (.node (wAt ws i) []) (i + 1) else .no i) Kc Kx := hx
    dsimp only
    cases c : isName (wAt ws i) with
    | true =>
      rw [c] at hx
      dsimp! only [oCh]
      exact ⟨_, rfl, hx⟩
    | false =>
      rw [c] at hx
      dsimp! only [oCh]
      exact ⟨ws, i, d, rfl, rfl, hx d⟩
end
/-! ### what is asked: words, the whole text, an empty book -/
section
variable {K : PySem.W.Frag} {E : XK} {C : Addr} {mt : Str} {a1 : AC} {ac : ACX} {sp1 : Sp} {r : aTA} {t : TA} {E1 : XK}
def aMakeMX (C : Addr) (mt : Str) (a1 : AC) (a2 : ACX) (r : aTA) : aTEX := fun Kx sa A k => r sa A fun avs A1 => ∃ ps, pvs avs = some ps ∧ a1 (.loc 0 [] :: ps.map .pv) [.ins C []] fun rv os => match rv, os with
  | .pv q, [o] => q = .v .non ∧ ∃ D fs, o = .ins D fs ∧ D = C ∧ fs.lookup mt = none ∧ a2 [.loc 0 []] [o] (fun rv2 _ => match rv2 with
    | .pv p => k (.pv p) A1
    | _ => False) fun e _ => Kx e sa A1
  | _, _ => False
theorem simx_makeM (h1 : SpLe (spA K a1) sp1) (ha : SimA K false r t) : SimEX K (fun cls d _ H => E cls d H) (aMakeMX C mt a1 ac r) (tMeth C mt (spX K ac) [] E (tMake C sp1 [] E1 t) tNil) := fun {B s sa σ} rp g {Kx Kc Q} x q h => by
  refine sim_make (C := C) h1 ha rp g (fun o v fp s1 e1 n k => ?_) (show aMake C a1 r sa s.A fun o A1 => ∃ D fs, o = .ins D fs ∧ D = C ∧ fs.lookup mt = none ∧ ac [.loc 0 []] [o] (fun rv2 _ => match rv2 with
    | .pv p => Kc (.pv p) A1
    | _ => False) (fun e _ => Kx e sa A1) from h)
  obtain ⟨D, fs, rfl, rfl, hl, k⟩ := k
  obtain ⟨d, dx, vs, fq, z1, z2, z3, z4⟩ := n.is
  refine ⟨d, dx, vs, z1, z3, for_none z4 hl, ?_⟩
  have st := one_start n.is n.nd n.out e1.rep.le e1.rep.tabs
  have nb : ∀ b ∈ fp, B.H b = none := fun b hb => rp.back (n.nw b hb)
  refine ⟨(⟨[v], fun _ => fp, [.ins D fs], s1.G, s1.H⟩ : Cs), [.loc 0 []], _, _, rfl, st, .cons rfl .nil, k, fun rv w s' r' hl' hr kk => ?_, fun ex cls dd s' r' hl' hx kk => ?_⟩
  · match rv, hr, kk with
    | .pv p, hr, kk =>
      have gr : Gr fp s1.G s1.H s'.G s'.H := r'.gr.mono fun b hb => by
        obtain ⟨i, _, z⟩ := List.mem_flatMap.mp hb
        exact z
      have keep : ∀ m, m < s1.A.length → ∀ b ∈ s1.φ m, s'.H b = s1.H b := fun m hm b hb => by
        obtain ⟨u, c, q⟩ := e1.rep.nx hm b hb
        rw [c]
        exact gr.hhN b u c (fun z => n.off b z m hm hb) q.1
      have r2 : Rep K B { s1 with G := s'.G, H := s'.H } := ⟨e1.rep.len, fun m o eo => by
          obtain ⟨x, y1, y2⟩ := e1.rep.at' m o eo
          exact ⟨x, y1, aoR_frame y2 gr.gg (keep m (List.getElem?_eq_some_iff.mp eo).1)⟩, e1.rep.nd, e1.rep.dj, fun m hm b hb => gr.gnone (e1.rep.there hm b hb) (e1.rep.out m hm b hb), e1.rep.fr, e1.rep.gr.over gr fun b hb => .inr (nb b hb), e1.rep.pre, r'.tabs⟩
      exact q (.pv p) w { s1 with G := s'.G, H := s'.H } ⟨e1.le.trans gr.gg, e1.pre, fun b hb => gr.dm b (e1.dm b hb), fun z => (nomatch z), r2⟩ hr kk
  · have gr : Gr fp s1.G s1.H s'.G s'.H := r'.gr.mono fun b hb => by
      obtain ⟨i, _, z⟩ := List.mem_flatMap.mp hb
      exact z
    have keep : ∀ m, m < s1.A.length → ∀ b ∈ s1.φ m, s'.H b = s1.H b := fun m hm b hb => by
      obtain ⟨u, c, q⟩ := e1.rep.nx hm b hb
      rw [c]
      exact gr.hhN b u c (fun z => n.off b z m hm hb) q.1
    have r2 : Rep K B { s1 with G := s'.G, H := s'.H } := ⟨e1.rep.len, fun m o eo => by
        obtain ⟨x, y1, y2⟩ := e1.rep.at' m o eo
        exact ⟨x, y1, aoR_frame y2 gr.gg (keep m (List.getElem?_eq_some_iff.mp eo).1)⟩, e1.rep.nd, e1.rep.dj, fun m hm b hb => gr.gnone (e1.rep.there hm b hb) (e1.rep.out m hm b hb), e1.rep.fr, e1.rep.gr.over gr fun b hb => .inr (nb b hb), e1.rep.pre, r'.tabs⟩
    have st2 : Stp K B false s { s1 with G := s'.G, H := s'.H } := ⟨e1.le.trans gr.gg, e1.pre, fun b hb => gr.dm b (e1.dm b hb), fun z => (nomatch z), r2⟩
    exact x ex cls dd { s1 with G := s'.G, H := s'.H } sa σ r2 st2.grw (g.stp st2) hx kk
end
def ac_xall (CT C : Addr) : ACX := fun avs A k kx => ∃ ws, avs = [.loc 0 []] ∧ A = [oCh C ws 0 0] ∧ WdsOk ws ∧ (∀ x ∈ ws, PyData.strOk x = true) ∧ match xAll ws with
  | .ok o => ∀ j, k (.pv (pTreeO o)) [oCh C ws j 0]
  | .no j => ∀ d', kx (xTx CT j) [oCh C ws j d']
/-- an empty book, made -/
def ac_bk0 (C : Addr) : AC := fun avs A k => avs = [.loc 0 [], .pv (pRows [] [])] ∧ A = [.ins C []] ∧ k (.pv (.v .non)) [.ins C [("needs", .pv (.dct [])), ("tries", .pv (.lst []))]]
def xK0 (CT : Addr) (z : Str) (k : Prop) (kx : AX → Prop) : Prop := match xAll (wordsM z) with
  | .ok _ => k
  | .no j => kx (xTx CT j)
def ac_cn0 (CT C : Addr) : ACX := fun avs A k kx => ∃ z, avs = [.pv (pBook C [] []), .pv (.str z)] ∧ A = [] ∧ z.length ≤ 3000 ∧ WdsOk (wordsM z) ∧ (∀ x ∈ wordsM z, PyData.strOk x = true) ∧ xK0 CT z (k (.pv (.lst [])) []) fun e => kx e []
def ac_ch0 (CT : Addr) : ACX := fun avs A k kx => ∃ z, avs = [.pv (pRows [] []), .pv (.str z)] ∧ A = [] ∧ z.length ≤ 3000 ∧ WdsOk (wordsM z) ∧ (∀ x ∈ wordsM z, PyData.strOk x = true) ∧ xK0 CT z (k (.pv (.lst [])) []) fun e => kx e []
section
variable {P : Program} {w : World} {K : PySem.W.Frag} {mg : Str → Option Value} {base : Heap} {f : Addr} {fd : FuncData} {C0 CT C CB : Addr}
theorem fn_words_ofH (F : FnP K "words_of" "words_of" s_words_of f fd) : FnHT P w K mg base CX0 1 f fd ["text"] sp_words := by
  refine fnHT_byC F sc_words_of (fun vs H Q E h => ?_) fun cdv A outer s H vs Q E p _ hr hc h => ⟨_, psst1 (pst_ret (pet_bm0 PySem.F.plainAttrs_str PySem.F.slot_str_split PySem.F.type_str_split mt_words (pet_replace (pet_replace (PET.of (pv 0)))))), ?_⟩
  · obtain ⟨z, e, _⟩ := h
    rw [e]
    rfl
  · obtain ⟨z, rfl, hz, q⟩ := h
    have l1 := rep_len z "(" " ( " 3000 hz rfl
    have l2 := rep_len (Txt.replace z "(" " ( ") ")" " ) " _ l1 rfl
    refine ⟨.str z, rfl, z, rfl, ?_, Txt.replace z "(" " ( ", rfl, ?_, rfl, Txt.replace (Txt.replace z "(" " ( ") ")" " ) ", rfl, rfl, ?_, q⟩
    · show z.length + (z.length + 1) * 3 ≤ _
      omega
    · show (Txt.replace z "(" " ( ").length + ((Txt.replace z "(" " ( ").length + 1) * 3 ≤ _
      omega
    · exact Nat.le_trans (show (Txt.replace (Txt.replace z "(" " ( ") ")" " ) ").length + 2 ≤ 100000 by omega) (by decide)
theorem fn_chinitH (F : FnP K "__init__" "Chooser.__init__" s_Chooser___init__ f fd) (T : Top K mg) (B : TopChs K mg C) (h_words_of : CalH P w K mg base CX0 1 "words_of" sp_words []) : FnHT P w K mg base CX0 2 f fd ["self", "text"] (spA K (ac_chinit C)) := by
  refine fnAHT (n0 := 1) F sc_Chooser___init__ (fun avs A Kc ⟨z, e, eA, _⟩ => ⟨by rw [e]; rfl, by rw [eA]; rfl⟩)
    (fun cdv A outer s H E p hr hc => ⟨_, (psst_cons (pst_fld (pv 0) (pet_cH h_words_of pass0E hr hc (by first | decide | omega) rfl (@PAT.of _ _ _ (pa_cons (pv 1) pa_nil (star_Name _ _))) (he := (star_Name _ _))) rfl) (psst_cons (PST.of (ps_fld (pv 0) pe_int rfl)) (psst1 (PST.of (ps_fld (pv 0) pe_int rfl))))),
      (sim_seq (sim_sfld B.cl B.n_words (sim_fz (sim_words (sim_cons sim_var sim_nil))) sim_var) (sim_seq (sim_sfld B.cl B.n_at sim_c sim_var) (sim_sfld B.cl B.n_deep sim_c sim_var)))⟩) ?_
  rintro avs A Kc ⟨z, rfl, rfl, hz, hK⟩
  dsimp! only [aWords]
  exact ⟨hz, hK⟩
theorem fn_allN {k : Nat} (hk : 3 ≤ k) (F : FnP K "read_all" "Chooser.read_all" s_Chooser_read_all f fd) (B : TopChs K mg C) (c_refuse : MetC P w K mg base (L2N.CX P w) 3 C "refuse" (spX K (ac_refN CT C)) []) (h_refuse : MetH P w K mg base (L2.CX P w) 3 C "refuse" (spX K (ac_refN CT C)) [])
    (T : Top K mg) (c_or : MetC P w K mg base (L2N.CX P w) k C "read_or" (spX K (ac_xr CT C (fun ws => xOr ws 20) 20)) []) (h_or : MetH P w K mg base (L2.CX P w) k C "read_or" (spX K (ac_xr CT C (fun ws => xOr ws 20) 20)) []) :
    FnT P w K mg base (L2N.CX P w) (k + 1) f fd ["self"] (spX K (ac_xall CT C)) ∧ FnHT P w K mg base (L2.CX P w) (k + 1) f fd ["self"] (spX K (ac_xall CT C)) := by
  refine fnB (n0 := 1) F sc_Chooser_read_all (fun avs A Kc Kx ⟨ws, e, eA, _⟩ => ⟨by rw [e]; rfl, by rw [eA]; rfl⟩)
    (fun cdv A outer s H E hr tk => ⟨_, (psst_cons (PST.of (ps_if (pt_cmpR (op_eqD hr.units) (pe_fldK (K := K) rfl (pv 0) rfl) (pe_lst pa_nil) (nomark _)) (pss_one (ps_ret pe_non)) pss_nil)) (psst_cons (pst_set (i := 1) sc_Chooser_read_all.nd rfl (Or.inl rfl) (pet_mtC0 c_or (L2N.passes_call tk fun _ _ _ _ h => h) hr (by first | decide | omega) (PET.of (pv 0)))) (psst_cons (pst_if (PTT.of (pt_cmpR op_lt (pe_fldK (K := K) rfl (pv 0) rfl) (pe_callB (call_len_seq) (by rfl) T.z_len PySem.boot_len (pa_cons (pe_fldK (K := K) rfl (pv 0) rfl) pa_nil (star_Attribute _ _ _))) (nomark _))) (psst1 (pst_expr (pet_mtC0 c_refuse (L2N.passes_call tk fun _ _ _ _ h => h) hr (by first | decide | omega) (PET.of (pv 0))))) (PSsT.of pss_nil)) (psst1 (PST.of (ps_ret (pv 1))))))),
      (simx_seq (simx (sim_ifS (sim_test (sim_op (sim_fld B.cl B.n_words sim_var) (sim_fz (sim_lst sim_nil)) ops_eqD)) (sim_ret sim_c) sim_next)) (simx_seq (simx_asg (simx_methC sim_var) (sim_gname (vs := [0, 1]))) (simx_seq (simx_ifS (sim_test (sim_op (sim_fld B.cl B.n_at sim_var) (sim_call1 (sim_fld B.cl B.n_words sim_var) uns_len) ops_I0)) (simx_drop (simx_methC sim_var)) (simx sim_next)) (simx (sim_ret sim_var)))))⟩)
    (fun cdv A outer s H E p hr hc tk => ⟨_, (psst_cons (PST.of (ps_if (pt_cmpR (op_eqD hr.units) (pe_fldK (K := K) rfl (pv 0) rfl) (pe_lst pa_nil) (nomark _)) (pss_one (ps_ret pe_non)) pss_nil)) (psst_cons (pst_set (i := 1) sc_Chooser_read_all.nd rfl (Or.inl rfl) (pet_mtH0 h_or (passes_call tk fun _ _ _ _ h => h) hr hc (by first | decide | omega) (PET.of (pv 0)))) (psst_cons (pst_if (PTT.of (pt_cmpR op_lt (pe_fldK (K := K) rfl (pv 0) rfl) (pe_callB (call_len_seq) (by rfl) T.z_len PySem.boot_len (pa_cons (pe_fldK (K := K) rfl (pv 0) rfl) pa_nil (star_Attribute _ _ _))) (nomark _))) (psst1 (pst_expr (pet_mtH0 h_refuse (passes_call tk fun _ _ _ _ h => h) hr hc (by first | decide | omega) (PET.of (pv 0))))) (PSsT.of pss_nil)) (psst1 (PST.of (ps_ret (pv 1))))))),
      (simx_seq (simx (sim_ifS (sim_test (sim_op (sim_fld B.cl B.n_words sim_var) (sim_fz (sim_lst sim_nil)) ops_eqD)) (sim_ret sim_c) sim_next)) (simx_seq (simx_asg (simx_methC sim_var) (sim_gname (vs := [0, 1]))) (simx_seq (simx_ifS (sim_test (sim_op (sim_fld B.cl B.n_at sim_var) (sim_call1 (sim_fld B.cl B.n_words sim_var) uns_len) ops_I0)) (simx_drop (simx_methC sim_var)) (simx sim_next)) (simx (sim_ret sim_var)))))⟩) ?_
  rintro avs A Kc Kx ⟨ws, rfl, rfl, hl, hok, hx⟩
  dsimp! only [aSeqX, aAsgX, aIfSX, aDropX, oCh, pStrsL, aIfS, aMeth1X, aDrop, dats_strs, eqv_list_strs]
  refine ⟨shaped_strs hok, by decide +kernel, ?_⟩
  cases ws with
  | nil =>
    have hx : ∀ j, Kc (.pv (pTreeO none)) [oCh C [] j 0] := hx
    exact hx 0
  | cons x0 t0 =>
    rw [if_neg (by simp)]
    refine ⟨x0 :: t0, 0, 0, rfl, rfl, rfl, hl, ?_⟩
    have hx : match (match xOr (x0 :: t0) 20 0 with | .ok t j => if j < (x0 :: t0).length then XA.no j else .ok (some t) | .no j => .no j) with
      | .ok o => ∀ j, Kc (.pv (pTreeO o)) [oCh C (x0 :: t0) j 0]
      | .no j => ∀ d', Kx (xTx CT j) [oCh C (x0 :: t0) j d'] := hx
    show xrK CT C (x0 :: t0) 0 (xOr (x0 :: t0) 20 0) _ _
    cases e : xOr (x0 :: t0) 20 0 with
    | no j =>
      rw [e] at hx
      intro d'
      exact hx d'
    | ok t j =>
      rw [e] at hx
      dsimp only [xrK]
      dsimp! only [oCh, pStrsL, aMeth1X]
      dsimp only at hx
      by_cases c : j < (x0 :: t0).length
      · rw [if_pos c] at hx
        have c' : (j : Int) < (((List.map PV.str t0).length + 1 : Nat) : Int) := by rw [List.length_map]; rw [List.length_cons] at c; omega
        rw [if_pos c']
        exact ⟨x0 :: t0, j, 0, rfl, rfl, hx 0⟩
      · rw [if_neg c] at hx
        have c' : ¬ (j : Int) < (((List.map PV.str t0).length + 1 : Nat) : Int) := by rw [List.length_map]; rw [List.length_cons] at c; omega
        rw [if_neg c']
        exact hx j
theorem fn_bk0 (F : FnP K "__init__" "Book.__init__" s_Book___init__ f fd) (T : Top K mg) (B : TopBook K mg CB) : FnOk P w K mg base CX0 4 f fd ["self", "rows"] (spA K (ac_bk0 CB)) ∧ FnHT P w K mg base CX0 4 f fd ["self", "rows"] (spA K (ac_bk0 CB)) := by
  refine ⟨?_, ?_⟩
  · refine fnA (n0 := 1) F sc_Book___init__ (fun avs A Kc ⟨e, eA, _⟩ => ⟨by rw [e]; rfl, by rw [eA]; rfl⟩) (fun cdv A outer s H E hr => ⟨_, (pss_cons (ps_fld (pv 0) pe_dnewK rfl) (pss_cons (ps_fld (pv 0) (pe_lst pa_nil) rfl) (pss_cons (ps_asg (pv 1) (pg_tup rfl (pgs_cons (pg_name (i := 2) sc_Book___init__.nd rfl (Or.inl rfl)) (pgs_cons (pg_name (i := 3) sc_Book___init__.nd rfl (Or.inl rfl)) pgs_nil)))) (pss_cons (ps_for PassesOwn.never rfl (pi_enumT rfl T.z_enumerate (pa_cons (pv 2) pa_nil (star_Name _ _))) (pg_tup rfl (pgs_cons (pg_name (i := 4) sc_Book___init__.nd rfl (Or.inl rfl)) (pgs_cons (pg_name (i := 5) sc_Book___init__.nd rfl (Or.inl rfl)) pgs_nil))) (pss_cons ps_dead (pss_cons ps_dead (pss_one ps_dead)))) (pss_one (ps_for PassesOwn.never rfl (pi_enumT rfl T.z_enumerate (pa_cons (pv 3) pa_nil (star_Name _ _))) (pg_tup rfl (pgs_cons (pg_name (i := 4) sc_Book___init__.nd rfl (Or.inl rfl)) (pgs_cons (pg_name (i := 5) sc_Book___init__.nd rfl (Or.inl rfl)) pgs_nil))) (pss_cons ps_dead (pss_one ps_dead)))))))),
  (sim_seq (sim_sfld B.cl B.n_needs (sim_fz sim_dnew) sim_var) (sim_seq (sim_sfld B.cl B.n_tries (sim_fz (sim_lst sim_nil)) sim_var) (sim_seq (sim_asg sim_var (sim_gtup (n := 2) (sim_gcons (sim_gname (vs := [0, 1, 2, 3, 4, 5, 6, 7, 8, 9])) (sim_gcons (sim_gname (vs := [0, 1, 2, 3, 4, 5, 6, 7, 8, 9])) sim_gnil)))) (sim_seq (sim_for (sim_ienumT sim_var) (sim_gtup (n := 2) (sim_gcons (sim_gname (vs := [0, 1, 2, 3, 4, 5, 6, 7, 8, 9])) (sim_gcons (sim_gname (vs := [0, 1, 2, 3, 4, 5, 6, 7, 8, 9])) sim_gnil))) (sim_seq sim_dead (sim_seq sim_dead sim_dead))) (sim_for (sim_ienumT sim_var) (sim_gtup (n := 2) (sim_gcons (sim_gname (vs := [0, 1, 2, 3, 4, 5, 6, 7, 8, 9])) (sim_gcons (sim_gname (vs := [0, 1, 2, 3, 4, 5, 6, 7, 8, 9])) sim_gnil))) (sim_seq sim_dead sim_dead))))))⟩) ?_
    rintro avs A Kc ⟨rfl, rfl, hK⟩
    dsimp! only [pRows, aFor]
    refine ⟨[], rfl, fun _ sa A => sa = [some (.loc 0 []), some (.pv (.tup [.tup [], .tup []])), some (.pv (.tup [])), some (.pv (.tup [])), none, none, none, none, none, none] ∧ A = [.ins CB [("needs", .pv (.dct [])), ("tries", .pv (.lst []))]], ⟨rfl, rfl⟩, fun _ _ _ _ => trivial, fun i x sa A hx => (by cases hx), fun sa A hI => ?_⟩
    obtain ⟨rfl, rfl⟩ := hI
    dsimp! only [pRows, aFor]
    refine ⟨[], rfl, fun _ sa A => A = [.ins CB [("needs", .pv (.dct [])), ("tries", .pv (.lst []))]], rfl, fun _ _ _ _ => trivial, fun i x sa A hx => (by cases hx), fun sa A hI => ?_⟩
    subst hI
    exact hK
  · refine fnAHT (n0 := 1) F sc_Book___init__ (fun avs A Kc ⟨e, eA, _⟩ => ⟨by rw [e]; rfl, by rw [eA]; rfl⟩) (fun cdv A outer s H E p hr hc => ⟨_, (psst_cons (PST.of (ps_fld (pv 0) pe_dnewK rfl)) (psst_cons (PST.of (ps_fld (pv 0) (pe_lst pa_nil) rfl)) (psst_cons (PST.of (ps_asg (pv 1) (pg_tupH hc (pgs_cons (pg_name (i := 2) sc_Book___init__.nd rfl (Or.inl rfl)) (pgs_cons (pg_name (i := 3) sc_Book___init__.nd rfl (Or.inl rfl)) pgs_nil))))) (psst_cons (pst_forTH PassesOwn.never hc (pih_enumT rfl T.z_enumerate (@PAT.of _ _ _ (pa_cons (pv 2) pa_nil (star_Name _ _)))) (pg_tupH hc (pgs_cons (pg_name (i := 4) sc_Book___init__.nd rfl (Or.inl rfl)) (pgs_cons (pg_name (i := 5) sc_Book___init__.nd rfl (Or.inl rfl)) pgs_nil))) (psst_cons (PST.of ps_dead) (psst_cons (PST.of ps_dead) (psst1 (PST.of ps_dead))))) (psst1 (pst_forTH PassesOwn.never hc (pih_enumT rfl T.z_enumerate (@PAT.of _ _ _ (pa_cons (pv 3) pa_nil (star_Name _ _)))) (pg_tupH hc (pgs_cons (pg_name (i := 4) sc_Book___init__.nd rfl (Or.inl rfl)) (pgs_cons (pg_name (i := 5) sc_Book___init__.nd rfl (Or.inl rfl)) pgs_nil))) (psst_cons (PST.of ps_dead) (psst1 (PST.of ps_dead))))))))),
      (sim_seq (sim_sfld B.cl B.n_needs (sim_fz sim_dnew) sim_var) (sim_seq (sim_sfld B.cl B.n_tries (sim_fz (sim_lst sim_nil)) sim_var) (sim_seq (sim_asg sim_var (sim_gtup (n := 2) (sim_gcons (sim_gname (vs := [0, 1, 2, 3, 4, 5, 6, 7, 8, 9])) (sim_gcons (sim_gname (vs := [0, 1, 2, 3, 4, 5, 6, 7, 8, 9])) sim_gnil)))) (sim_seq (sim_for (sim_ienumT sim_var) (sim_gtup (n := 2) (sim_gcons (sim_gname (vs := [0, 1, 2, 3, 4, 5, 6, 7, 8, 9])) (sim_gcons (sim_gname (vs := [0, 1, 2, 3, 4, 5, 6, 7, 8, 9])) sim_gnil))) (sim_seq sim_dead (sim_seq sim_dead sim_dead))) (sim_for (sim_ienumT sim_var) (sim_gtup (n := 2) (sim_gcons (sim_gname (vs := [0, 1, 2, 3, 4, 5, 6, 7, 8, 9])) (sim_gcons (sim_gname (vs := [0, 1, 2, 3, 4, 5, 6, 7, 8, 9])) sim_gnil))) (sim_seq sim_dead sim_dead))))))⟩) ?_
    rintro avs A Kc ⟨rfl, rfl, hK⟩
    dsimp! only [pRows, aFor]
    refine ⟨[], rfl, fun _ sa A => sa = [some (.loc 0 []), some (.pv (.tup [.tup [], .tup []])), some (.pv (.tup [])), some (.pv (.tup [])), none, none, none, none, none, none] ∧ A = [.ins CB [("needs", .pv (.dct [])), ("tries", .pv (.lst []))]], ⟨rfl, rfl⟩, fun _ _ _ _ => trivial, fun i x sa A hx => (by cases hx), fun sa A hI => ?_⟩
    obtain ⟨rfl, rfl⟩ := hI
    dsimp! only [pRows, aFor]
    refine ⟨[], rfl, fun _ sa A => A = [.ins CB [("needs", .pv (.dct [])), ("tries", .pv (.lst []))]], rfl, fun _ _ _ _ => trivial, fun i x sa A hx => (by cases hx), fun sa A hI => ?_⟩
    subst hI
    exact hK
theorem fn_cn0 {k kr : Nat} (h1 : 4 ≤ k) (h2 : kr ≤ k) (F : FnP K "chosen_numbers" "chosen_numbers" s_chosen_numbers f fd) (T : Top K mg) (B : TopBook K mg CB) (c_Chooser : MakT P w K mg base 2 "Chooser" C (spA K (ac_chinit C)) []) (h_Chooser : MakH P w K mg base CX0 2 "Chooser" C (spA K (ac_chinit C)) [])
    (c_read_all : MetC P w K mg base (L2N.CX P w) kr C "read_all" (spX K (ac_xall CT C)) []) (h_read_all : MetH P w K mg base (L2.CX P w) kr C "read_all" (spX K (ac_xall CT C)) []) :
    FnT P w K mg base (L2N.CX P w) (k + 1) f fd ["book", "only"] (spX K (ac_cn0 CT CB)) ∧ FnHT P w K mg base (L2.CX P w) (k + 1) f fd ["book", "only"] (spX K (ac_cn0 CT CB)) := by
  refine fnB (n0 := 0) F sc_chosen_numbers (fun avs A Kc Kx ⟨z, e, eA, _⟩ => ⟨by rw [e]; rfl, by rw [eA]; rfl⟩)
    (fun cdv A outer s H E hr tk => ⟨_, (psst_cons (pst_set (i := 2) sc_chosen_numbers.nd rfl (Or.inl rfl) (pet_mtC0 c_read_all (L2N.passes_call tk fun _ _ _ _ h => h) hr (by first | decide | omega) (pet_mk c_Chooser hr (by first | decide | omega) rfl (@PAT.of _ _ _ (pa_cons (pv 1) pa_nil (star_Name _ _))) (he := (star_Name _ _))))) (psst_cons (PST.of (ps_set (i := 3) sc_chosen_numbers.nd rfl (Or.inl rfl) (pe_lst pa_nil))) (psst_cons (pst_forT (passes_of rfl) rfl (PIT.of (pi_enum rfl T.z_enumerate (pa_cons (pe_fldK (K := K) rfl (pv 0) rfl) pa_nil (star_Attribute _ _ _)))) (pg_tup rfl (pgs_cons (pg_name (i := 4) sc_chosen_numbers.nd rfl (Or.inl rfl)) (pgs_cons (pg_tup rfl (pgs_cons (pg_name (i := 5) sc_chosen_numbers.nd rfl (Or.inl rfl)) (pgs_cons (pg_name (i := 6) sc_chosen_numbers.nd rfl (Or.inl rfl)) (pgs_cons (pg_name (i := 7) sc_chosen_numbers.nd rfl (Or.inl rfl)) (pgs_cons (pg_name (i := 8) sc_chosen_numbers.nd rfl (Or.inl rfl)) (pgs_cons (pg_name (i := 9) sc_chosen_numbers.nd rfl (Or.inl rfl)) (pgs_cons (pg_name (i := 10) sc_chosen_numbers.nd rfl (Or.inl rfl)) (pgs_cons (pg_name (i := 11) sc_chosen_numbers.nd rfl (Or.inl rfl)) pgs_nil)))))))) pgs_nil))) (psst1 (PST.of ps_dead))) (psst1 (PST.of (ps_ret (pv 3))))))),
      (simx_seq (simx_asg (simx_makeM (SpLe.refl _) (sim_cons sim_var sim_nil)) (sim_gname (vs := [0, 1, 2, 3, 4, 5, 6, 7, 8, 9, 10, 11]))) (simx_seq (simx (sim_asgN (sim_lst sim_nil))) (simx_seq (simx (sim_for (sim_ienum (sim_fld B.cl B.n_tries sim_var)) (sim_gtup (n := 2) (sim_gcons (sim_gname (vs := [0, 1, 2, 3, 4, 5, 6, 7, 8, 9, 10, 11])) (sim_gcons (sim_gtup (n := 7) (sim_gcons (sim_gname (vs := [0, 1, 2, 3, 4, 5, 6, 7, 8, 9, 10, 11])) (sim_gcons (sim_gname (vs := [0, 1, 2, 3, 4, 5, 6, 7, 8, 9, 10, 11])) (sim_gcons (sim_gname (vs := [0, 1, 2, 3, 4, 5, 6, 7, 8, 9, 10, 11])) (sim_gcons (sim_gname (vs := [0, 1, 2, 3, 4, 5, 6, 7, 8, 9, 10, 11])) (sim_gcons (sim_gname (vs := [0, 1, 2, 3, 4, 5, 6, 7, 8, 9, 10, 11])) (sim_gcons (sim_gname (vs := [0, 1, 2, 3, 4, 5, 6, 7, 8, 9, 10, 11])) (sim_gcons (sim_gname (vs := [0, 1, 2, 3, 4, 5, 6, 7, 8, 9, 10, 11])) sim_gnil)))))))) sim_gnil))) sim_dead)) (simx (sim_retZ sim_var)))))⟩)
    (fun cdv A outer s H E p hr hc tk => ⟨_, (psst_cons (pst_set (i := 2) sc_chosen_numbers.nd rfl (Or.inl rfl) (pet_mtH0 h_read_all (passes_call tk fun _ _ _ _ h => h) hr hc (by first | decide | omega) (pet_mkH h_Chooser pass0E hr hc (by first | decide | omega) rfl (@PAT.of _ _ _ (pa_cons (pv 1) pa_nil (star_Name _ _))) (he := (star_Name _ _))))) (psst_cons (PST.of (ps_set (i := 3) sc_chosen_numbers.nd rfl (Or.inl rfl) (pe_lst pa_nil))) (psst_cons (pst_forTH (passes_of rfl) hc (pih_enum rfl T.z_enumerate (@PAT.of _ _ _ (pa_cons (pe_fldK (K := K) rfl (pv 0) rfl) pa_nil (star_Attribute _ _ _)))) (pg_tupH hc (pgs_cons (pg_name (i := 4) sc_chosen_numbers.nd rfl (Or.inl rfl)) (pgs_cons (pg_tupH hc (pgs_cons (pg_name (i := 5) sc_chosen_numbers.nd rfl (Or.inl rfl)) (pgs_cons (pg_name (i := 6) sc_chosen_numbers.nd rfl (Or.inl rfl)) (pgs_cons (pg_name (i := 7) sc_chosen_numbers.nd rfl (Or.inl rfl)) (pgs_cons (pg_name (i := 8) sc_chosen_numbers.nd rfl (Or.inl rfl)) (pgs_cons (pg_name (i := 9) sc_chosen_numbers.nd rfl (Or.inl rfl)) (pgs_cons (pg_name (i := 10) sc_chosen_numbers.nd rfl (Or.inl rfl)) (pgs_cons (pg_name (i := 11) sc_chosen_numbers.nd rfl (Or.inl rfl)) pgs_nil)))))))) pgs_nil))) (psst1 (PST.of ps_dead))) (psst1 (PST.of (ps_ret (pv 3))))))),
      (simx_seq (simx_asg (simx_makeM (SpLe.refl _) (sim_cons sim_var sim_nil)) (sim_gname (vs := [0, 1, 2, 3, 4, 5, 6, 7, 8, 9, 10, 11]))) (simx_seq (simx (sim_asgN (sim_lst sim_nil))) (simx_seq (simx (sim_for (sim_ienum (sim_fld B.cl B.n_tries sim_var)) (sim_gtup (n := 2) (sim_gcons (sim_gname (vs := [0, 1, 2, 3, 4, 5, 6, 7, 8, 9, 10, 11])) (sim_gcons (sim_gtup (n := 7) (sim_gcons (sim_gname (vs := [0, 1, 2, 3, 4, 5, 6, 7, 8, 9, 10, 11])) (sim_gcons (sim_gname (vs := [0, 1, 2, 3, 4, 5, 6, 7, 8, 9, 10, 11])) (sim_gcons (sim_gname (vs := [0, 1, 2, 3, 4, 5, 6, 7, 8, 9, 10, 11])) (sim_gcons (sim_gname (vs := [0, 1, 2, 3, 4, 5, 6, 7, 8, 9, 10, 11])) (sim_gcons (sim_gname (vs := [0, 1, 2, 3, 4, 5, 6, 7, 8, 9, 10, 11])) (sim_gcons (sim_gname (vs := [0, 1, 2, 3, 4, 5, 6, 7, 8, 9, 10, 11])) (sim_gcons (sim_gname (vs := [0, 1, 2, 3, 4, 5, 6, 7, 8, 9, 10, 11])) sim_gnil)))))))) sim_gnil))) sim_dead)) (simx (sim_retZ sim_var)))))⟩) ?_
  rintro avs A Kc Kx ⟨z, rfl, rfl, hz, hw, hok, hx⟩
  dsimp! only [aSeqX, aAsgX, aIfSX, aDropX, aMakeMX, ac_chinit, aFor]
  refine ⟨hz, C, _, rfl, rfl, rfl, wordsM z, rfl, rfl, hw, hok, ?_⟩
  have hx : match xAll (wordsM z) with
    | .ok _ => Kc (.pv (.lst [])) []
    | .no j => Kx (xTx CT j) [] := hx
  cases e : xAll (wordsM z) with
  | no j =>
    rw [e] at hx
    intro d'
    exact hx
  | ok o =>
    rw [e] at hx
    intro j
    dsimp! only [pBook]
    refine ⟨_, rfl, fun _ sa A => (∃ x4 x5 x6 x7 x8 x9 x10 x11, sa = [some (.pv (pBook CB [] [])), some (.pv (.str z)), some (.pv (pTreeO o)), some (.loc 0 []), x4, x5, x6, x7, x8, x9, x10, x11]) ∧ A = [.lst []], ⟨⟨_, _, _, _, _, _, _, _, rfl⟩, rfl⟩, fun _ _ _ _ => trivial, fun i x sa A hx => (by cases hx), fun sa A hI => ?_⟩
    obtain ⟨⟨x4, x5, x6, x7, x8, x9, x10, x11, rfl⟩, rfl⟩ := hI
    dsimp! only []
    exact hx
theorem fn_ch0 {k kc : Nat} (h1 : 5 ≤ k) (h2 : kc ≤ k) (F : FunD K "chosen" "chosen" (defArgs s_chosen) (defBody s_chosen) (defScope s_chosen) [.str ""] [] f fd) (T : Top K mg) (B : TopBook K mg CB) (c_Book : C8.Mak P w K mg base 4 "Book" CB (spA K (ac_bk0 CB)) []) (h_Book : MakH P w K mg base CX0 4 "Book" CB (spA K (ac_bk0 CB)) [])
    (c_cn : CalC P w K mg base (L2N.CX P w) kc "chosen_numbers" (spX K (ac_cn0 CT CB)) []) (h_cn : CalH P w K mg base (L2.CX P w) kc "chosen_numbers" (spX K (ac_cn0 CT CB)) []) :
    FnT P w K mg base (L2N.CX P w) (k + 1) f fd ["rows", "only"] (spX K (ac_ch0 CT)) ∧ FnHT P w K mg base (L2.CX P w) (k + 1) f fd ["rows", "only"] (spX K (ac_ch0 CT)) := by
  refine fnB (n0 := 0) F sc_chosen (fun avs A Kc Kx ⟨z, e, eA, _⟩ => ⟨by rw [e]; rfl, by rw [eA]; rfl⟩)
    (fun cdv A outer s H E hr tk => ⟨_, (psst_cons (PST.of (ps_set (i := 2) sc_chosen.nd rfl (Or.inr rfl) (C8.pe_mk c_Book hr (by first | decide | omega) rfl (pa_cons (pv 0) pa_nil (star_Name _ _)) (he := (star_Name _ _))))) (psst1 (pst_ret (pet_lc (own := [("number", 3)]) rfl sc_chosen.nd (pit_list (pet_cC c_cn (L2N.passes_call tk fun _ _ _ _ h => h) hr (by first | decide | omega) rfl (@PAT.of _ _ _ (pa_cons (pv 2) (pa_cons (pv 1) pa_nil (star_Name _ _)) (star_Name _ _))) (he := (star_Name _ _)))) (blkOk_by (own := [("number", 3)]) (N := ["rows", "only", "book", "number"]) (sc := defScope s_chosen) (by decide +kernel)) (fun _ _ _ _ _ => (pg_name (i := 3) sc_chosen.nd rfl (Or.inl rfl))) (fun _ _ _ _ _ => (PTsT.of pts_nil)) (fun _ _ _ _ _ => petT (PET.of (pe_ix ix_tup (pe_ix ix_list (pe_fldK (K := K) rfl (pv 2) rfl) (pv 3) (fun _ _ => rfl)) pe_int (fun _ _ => rfl))) (by (try dsimp only [Cx.blk, Cx.nox, cxOf]) <;> rfl)))))),
      (simx_seq (simx (sim_asg (sim_fz (sim_make (SpLe.refl _) (sim_cons sim_var sim_nil))) (sim_gname (vs := [0, 1, 2, 3])))) (simx_ret (simx_fz (simx_lc (simx_ilist (simx_callD DsOk.nil (sim_cons sim_var (sim_cons sim_var sim_nil)))) ng_name sim_yes (sim_op (sim_op (sim_fld B.cl B.n_tries sim_var) sim_var ops_ixL) sim_c ops_ixT)))))⟩)
    (fun cdv A outer s H E p hr hc tk => ⟨_, (psst_cons (pst_set (i := 2) sc_chosen.nd rfl (Or.inr rfl) (pet_mkH h_Book pass0E hr hc (by first | decide | omega) rfl (@PAT.of _ _ _ (pa_cons (pv 0) pa_nil (star_Name _ _))) (he := (star_Name _ _)))) (psst1 (pst_ret (pet_lcH (own := [("number", 3)]) hc sc_chosen.nd (pih_list (pet_cH h_cn (passes_call tk fun _ _ _ _ h => h) hr hc (by first | decide | omega) rfl (@PAT.of _ _ _ (pa_cons (pv 2) (pa_cons (pv 1) pa_nil (star_Name _ _)) (star_Name _ _))) (he := (star_Name _ _)))) (blkOk_by (own := [("number", 3)]) (N := ["rows", "only", "book", "number"]) (sc := defScope s_chosen) (by decide +kernel)) (fun _ _ _ _ _ _ hc => (pg_name (i := 3) sc_chosen.nd rfl (Or.inl rfl))) (fun _ _ _ _ _ _ hc => (PTsT.of pts_nil)) (fun _ _ _ _ _ _ hc => petT (PET.of (pe_ix ix_tup (pe_ix ix_list (pe_fldK (K := K) rfl (pv 2) rfl) (pv 3) (fun _ _ => rfl)) pe_int (fun _ _ => rfl))) (by (try dsimp only [bkH, cxH, Cx.tr, Cx.blk, Cx.nox, cxOf]) <;> rfl)))))),
      (simx_seq (simx (sim_asg (sim_fz (sim_make (SpLe.refl _) (sim_cons sim_var sim_nil))) (sim_gname (vs := [0, 1, 2, 3])))) (simx_ret (simx_fz (simx_lc (simx_ilist (simx_callD DsOk.nil (sim_cons sim_var (sim_cons sim_var sim_nil)))) ng_name sim_yes (sim_op (sim_op (sim_fld B.cl B.n_tries sim_var) sim_var ops_ixL) sim_c ops_ixT)))))⟩) ?_
  rintro avs A Kc Kx ⟨z, rfl, rfl, hz, hw, hok, hx⟩
  dsimp! only [aSeqX, aAsgX, aIfSX, aDropX, aCallDX, aRetX, ac_bk0]
  have hx : match xAll (wordsM z) with
    | .ok _ => Kc (.pv (.lst [])) []
    | .no j => Kx (xTx CT j) [] := hx
  cases e : xAll (wordsM z) with
  | no j =>
    rw [e] at hx
    unfold aLc
    dsimp! only [aCallDX]
    refine ⟨z, rfl, rfl, hz, hw, hok, ?_⟩
    unfold xK0
    rw [e]
    exact hx
  | ok o =>
    rw [e] at hx
    refine alc_map (C := fun _ => True) ([] : List Nat) (fun _ => .v .non) (fun _ => .v .non) (fun Kq h => ?_) trivial (fun x hx => nomatch hx) (by decide) ?_
    · dsimp! only [aCallDX]
      refine ⟨z, rfl, rfl, hz, hw, hok, ?_⟩
      unfold xK0
      rw [e]
      exact h
    · dsimp! only []
      exact hx
end
/-! ### list.count by data -/
section
variable {X : Cx}
def rCountD (K : PySem.W.Frag) : V → List V → Hp → VK → Prop := fun x xs H Q => ∃ (a : Addr) (y : V) (d : PyData) (ds : List PyData), x = V.ref a ∧ xs = [y] ∧ Dp K H (V.ref a) (.list ds) ∧ Dp K H y d ∧
  SeqAt.shaped (.list ds) = true ∧ SeqAt.shaped d = true ∧ Q (.int ((ds.countP fun z => PyData.eqv z d : Nat) : Int)) H
theorem mt_countD (hu : X.A.units + 65 < cLine) : MtR X "list.count" (rCountD X.K) := by
  intro pins s σ H x xs v us Q I rx rxs h
  obtain ⟨a, y, d, ds, rfl, rfl, hl, hy, sl, sd, q⟩ := h
  cases rx
  cases rxs with
  | cons ry rt =>
    rename_i uy ut
    cases rt
    obtain ⟨bs, r1⟩ := Dp.reads I d y uy hy ry
    have hxs : PyData.canLayAll0 ds = true := SeqAt.canLay_of_shaped sl
    have hroom : X.A.units + 1 + min (PyData.depthAll ds) d.depth < cLine := room_in_shaped sd hu
    cases hl with
    | lst hs ha =>
      obtain ⟨its, rv, ⟨⟨cls, dd, data, sls⟩, n, ho, hc, hdn, hdt⟩, hlen⟩ := I.list hs
      simp only at hc hdt
      subst hc hdt
      obtain ⟨as, h4⟩ := Dp.readsAll I ds _ its ha rv
      have hmap : its.map (SeqAt.readOf s.heap) = ds := SeqAt.readsAll_map ds its as hxs h4
      have hct : its.toArray.toList.countP (fun u => PyData.eqv (SeqAt.readOf s.heap u) d) = ds.countP fun z => PyData.eqv z d := by
        rw [← hmap, List.countP_map]
        rfl
      refine call_meets PySem.F.slot_list_count ⟨_, ho, rfl⟩ PySem.F.entry_list_count (PySem.F.args_list_count_2 _ _)
        (SeqAt.list_countAt a its.toArray n dd sls uy (fun u => PyData.eqv (SeqAt.readOf s.heap u) d)) ⟨ho, SeqAt.items_eqAt (vs := its.toArray) (show ReadsAll s.heap its.toArray.toList ds as from h4) r1 hxs (SeqAt.canLay_of_shaped sd) hroom, ?_⟩
      rw [hct]
      exact ⟨.int _, H, I.tok _, ⟨_, rfl⟩, q⟩
end
section
variable {K : PySem.W.Frag} {m : Bool} {a b c e : aTE} {ta tb tc te : TE}
def aCountL (a e : aTE) : aTE := fun sa A k => a sa A fun x A1 => (∃ xs, viewL A1 x = some xs) ∧ e sa A1 fun y A2 => ∃ (ds : List PyData) (d : PyData), viewDat A2 x = some (.list ds) ∧ viewDat A2 y = some d ∧ SeqAt.shaped (.list ds) = true ∧ SeqAt.shaped d = true ∧
  k (.pv (.v (.int ((ds.countP fun z => PyData.eqv z d : Nat) : Int)))) A2
theorem sim_countL (ha : SimE K m a ta) (he : SimE K true e te) : SimE K m (aCountL a e) (tBM K "list" (rCountD K) ta (tCons te tNil)) := fun {B s sa σ} rp gg {Kc Q} q h =>
  ha rp gg (fun x vx s1 e1 px k => by
    obtain ⟨⟨xs, k0⟩, k⟩ := k
    obtain ⟨d0, vs, h1, h2, h3⟩ := viewL_ok e1.rep px k0
    refine ⟨by rw [h1]; exact .inl ⟨rfl, vs, .of h2⟩, he e1.rep (gg.stp e1) (fun y vy s2 e2 py k => ?_) k⟩
    obtain ⟨ds, d, k1, k2, k3, k4, k8⟩ := k
    refine ⟨d0, vy, d, ds, h1, rfl, ?_, viewDat_ok e2.rep py k2, k3, k4, q (.pv (.v (.int _))) _ s2 (e1.trans e2.weak) rfl k8⟩
    have := viewDat_ok e2.rep (px.stp e2) k1
    rw [h1] at this
    exact this) h
end
/-! ### what kind of refusal -/
def kdWords : List Str := ["fail", "skip", "book", "text", "many", "work", "busy", "other"]
structure TopKd (K : PySem.W.Frag) (mg : Str → Option Value) : Prop where
  te : mg "TryError" = some (.ref (He.ga K "TryError"))
  c0 : mg "Fail" = some (.ref (He.ga K "Fail"))
  c1 : mg "Skip" = some (.ref (He.ga K "Skip"))
  c2 : mg "BadBook" = some (.ref (He.ga K "BadBook"))
  c3 : mg "BadText" = some (.ref (He.ga K "BadText"))
  c4 : mg "BadMany" = some (.ref (He.ga K "BadMany"))
  c5 : mg "NoWork" = some (.ref (He.ga K "NoWork"))
  c6 : mg "Busy" = some (.ref (He.ga K "Busy"))
  ve : mg "ValueError" = none
/-- an exception class that is the j-th of them -/
structure KindIs (K : PySem.W.Frag) (D : Addr) (j : Nat) : Prop where
  ex : ExcC K D
  te : PySem.W.exmOne K (.ref D) (.ref (He.ga K "TryError")) = some true
  is : ∀ (i : Nat) (x : Str), kdNames[i]? = some x → PySem.W.kitOne K (.ref D) (.ref (He.ga K x)) = some (decide (i = j))
  ve : PySem.W.kitOne K (.ref D) (.type "ValueError") = some true
  lt : j < 7
def KWk (K : PySem.W.Frag) : Value → Option Addr → Hp → Str → Prop := fun cls d H w => ∃ D j, cls = .ref D ∧ KindIs K D j ∧ (∀ da, d = some da → ∃ vs, H da = some (.xd vs)) ∧ kdWords[j]? = some w
def KWa (K : PySem.W.Frag) : AX → Str → Prop := fun e w => ∃ D j, e.cls = .ref D ∧ KindIs K D j ∧ e.fs ≠ [] ∧ kdWords[j]? = some w
theorem kw_of {K : PySem.W.Frag} (s : Cs) (cls : Value) (dd : Option Addr) (e : AX) (w : Str) (h : excR K s cls dd e) (k : KWa K e w) : KWk K cls dd s.H w := by
  obtain ⟨D, j, h1, h2, h3, h4⟩ := k
  obtain ⟨rfl, h5⟩ := h
  refine ⟨D, j, h1, h2, fun da ed => ?_, h4⟩
  rcases h5 with z | ⟨_, z⟩ | ⟨da', vs, z1, z2, _⟩
  · exact absurd z h3
  · rw [z] at ed; cases ed
  · rw [z1] at ed
    cases ed
    exact ⟨vs, z2⟩
theorem pss_if {X : Cx} {body : List Stmt} {ι : Type} {p : ι → Prop} {t : ι → TS} (h : ∀ i, p i → PSs X body (t i)) : PSs X body (fun D σ H => ∃ i, p i ∧ t i D σ H) := ⟨fun pins s σ H D I ⟨i, hp, z⟩ => (h i hp).run pins s σ H D I z⟩
def fNegK : aR1 := fun _ x k => ∃ i : Int, x = .pv (.v (.int i)) ∧ k (.pv (.v (.int (-i))))
theorem uns_negK {K : PySem.W.Frag} : UnS K fNegK (rU fun i => V.int (-i)) := fun {B s x vx} r px {k Q} q h => by
  obtain ⟨i, rfl, h⟩ := h
  obtain rfl : vx = .int i := px
  exact ⟨i, rfl, q (.pv (.v (.int (-i)))) (.int (-i)) _ _ r.g0 rfl h⟩
section
variable {P : Program} {w : World} {K : PySem.W.Frag} {mg : Str → Option Value} {base : Heap}
theorem sc__law_kind : FnScope ["_law_call", "e", "_law_kinds", "_law_words"] ["_law_call"] (defScope s__law_kind) := ⟨rfl, rfl, rfl, by decide +kernel, rfl, by decide +kernel, by decide +kernel⟩
def kHand : List Stmt := match defBody s__law_kind with
  | .Try _ (.ExceptHandler _ _ b _ :: _) _ _ _ :: _ => b
  | _ => []
abbrev AE0 : AEnds := ⟨fun _ _ => False, fun _ _ => False, fun _ _ => False, fun _ _ => False⟩
abbrev TC00 : TabC := ⟨[], fun _ _ => ""⟩
theorem tell_by (hT : TC.T = []) {aK : aTS} {t : TS} (hs : SimS K 0 aK t) {H' : Hp} {σ : L2.St} {sa : Sg} {w0 : Str} {D : Ends} (ha : aK { AE0 with rt := fun v _ => v = .pv (.v (.str w0)) } sa []) (hg : SgR K ⟨[], fun _ => [], [], H', H'⟩ sa σ) (hq : ∀ H'', (∀ b o, H' b = some o → H'' b = some o) → D.rt (.str w0) H'') : t D σ H' := by
  have rp : Rep K ⟨H', H', [], fun _ => []⟩ ⟨[], fun _ => [], [], H', H'⟩ := ⟨rfl, fun n o e => (by simp at e), fun n hn => absurd hn (Nat.not_lt_zero _), fun m n hm => absurd hm (Nat.not_lt_zero _), fun n hn => absurd hn (Nat.not_lt_zero _), fun n hn => absurd hn (Nat.not_lt_zero _), Gr.refl (Le.refl _), List.prefix_refl _, fun P hP => by rw [hT] at hP; cases hP⟩
  refine hs (B := ⟨H', H', [], fun _ => []⟩) (s := ⟨[], fun _ => [], [], H', H'⟩) (Da := { AE0 with rt := fun v _ => v = .pv (.v (.str w0)) }) (D := D) rfl ⟨fun _ _ _ _ _ _ z => False.elim z, fun s2 av v r g2 pv e => ?_, fun _ _ _ _ _ _ z => False.elim z, fun _ _ _ _ _ _ z => False.elim z⟩ rp hg ha
  have e : av = .pv (.v (.str w0)) := e
  subst e
  obtain rfl : v = .str w0 := pv
  refine hq _ fun b o hb => ?_
  by_cases nt : NT o
  · exact r.gr.hhN b o hb (fun z => nomatch z) nt
  · have l : Le H' s2.H := r.gr.gg.trans r.gr.gh
    have ⟨ps, hp⟩ : ∃ ps, o = .tbl ps := Classical.byContradiction fun z => nt fun ps e => z ⟨ps, e⟩
    subst hp
    exact l.at hb (fun _ _ z => nomatch z) (fun z => z)
end
/-! ### what kind of refusal, asked while an exception is handled -/
section
open HotX L2H
variable {P : Program} {w : World} {K : PySem.W.Frag} {mg : Str → Option Value} {base : Heap}
theorem un65PH {k : Nat} {A : Around} {a : Value} {e : Env} (r : RoomH k (A.deeper e)) : ((A.deeper e).mark (some a)).units + 65 < cLine := by have := r.un; show (A.deeper e).units + 65 < cLine; omega
abbrev kXH (P : Program) (w : World) (K : PySem.W.Frag) (mg : Str → Option Value) (base : Heap) (g : Addr) (cdg : Value) (A : Around) (outer : List PySem.Env) (s : Shared) (H : Hp) (p : Addr × Obj) : Cx := (cxH C8.CX0 P w K mg base (["_law_call", "e", "_law_kinds", "_law_words"] : List Str) "_law_kind" (defScope s__law_kind) g cdg A outer s H C8.E0 p).nox
/-- the handler's reading, the exception at a of the class D, its dict at d -/
theorem kind_handH (T : Top K mg) (N : TopKd K mg) {g : Addr} {cdg : Value} {A : Around} {outer : List PySem.Env} {s : Shared} {H : Hp} {p : Addr × Obj} {k : Nat} (D a : Addr) (d : Option Addr) (hr : RoomH k (A.deeper (envOfC "_law_kind" (defScope s__law_kind) s.heap.objs.size g cdg))) :
    ∃ (t : TS) (aK : aTS), (∀ (oe : Obj) (pn : List (Addr × Obj)), ExcC K D → Zc (.ref D) d oe → (∃ vs, oe.data = .fields vs) →
      PSs ((kXH P w K mg base g cdg A outer s H p).suite a ((a, oe) :: pn)) kHand t) ∧ SimS K 0 aK t ∧
      ∀ (j : Nat) (w0 : Str) (D0 : AEnds), KindIs K D j → kdWords[j]? = some w0 → aK { D0 with rt := fun v _ => v = .pv (.v (.str w0)) } [none, some (.pv (.rel (rRf a d))), none, none] [] := by
  refine ⟨_, _, fun oe pn C hz hf => (pss_cons (ps_set (i := 2) sc__law_kind.nd rfl (Or.inl rfl) (pe_lst (pa_cons (pe_callB (call_isD (X := kXH P w K mg base g cdg A outer s H p) C hz hf) (by rfl) T.z_isinstance (by decide +kernel) (pa_cons (pv 1) (pa_cons (C8.pe_gc (X := (kXH P w K mg base g cdg A outer s H p).suite a ((a, oe) :: pn)) (x := "Fail") (v := .ref (He.ga K "Fail")) rfl ⟨_, N.c0, rfl⟩) pa_nil (star_Name _ _)) (star_Name _ _))) (pa_cons (pe_callB (call_isD (X := kXH P w K mg base g cdg A outer s H p) C hz hf) (by rfl) T.z_isinstance (by decide +kernel) (pa_cons (pv 1) (pa_cons (C8.pe_gc (X := (kXH P w K mg base g cdg A outer s H p).suite a ((a, oe) :: pn)) (x := "Skip") (v := .ref (He.ga K "Skip")) rfl ⟨_, N.c1, rfl⟩) pa_nil (star_Name _ _)) (star_Name _ _))) (pa_cons (pe_callB (call_isD (X := kXH P w K mg base g cdg A outer s H p) C hz hf) (by rfl) T.z_isinstance (by decide +kernel) (pa_cons (pv 1) (pa_cons (C8.pe_gc (X := (kXH P w K mg base g cdg A outer s H p).suite a ((a, oe) :: pn)) (x := "BadBook") (v := .ref (He.ga K "BadBook")) rfl ⟨_, N.c2, rfl⟩) pa_nil (star_Name _ _)) (star_Name _ _))) (pa_cons (pe_callB (call_isD (X := kXH P w K mg base g cdg A outer s H p) C hz hf) (by rfl) T.z_isinstance (by decide +kernel) (pa_cons (pv 1) (pa_cons (C8.pe_gc (X := (kXH P w K mg base g cdg A outer s H p).suite a ((a, oe) :: pn)) (x := "BadText") (v := .ref (He.ga K "BadText")) rfl ⟨_, N.c3, rfl⟩) pa_nil (star_Name _ _)) (star_Name _ _))) pa_nil (star_Call _ _ _ _)) (star_Call _ _ _ _)) (star_Call _ _ _ _)) (star_Call _ _ _ _)))) (pss_cons (ps_expr (peT (pe_bm PySem.F.plainAttrs_list PySem.F.slot_list_extend PySem.F.type_list_extend (mt_extend) (pv 2) (pa_cons (pe_lst (pa_cons (pe_callB (call_isD (X := kXH P w K mg base g cdg A outer s H p) C hz hf) (by rfl) T.z_isinstance (by decide +kernel) (pa_cons (pv 1) (pa_cons (C8.pe_gc (X := (kXH P w K mg base g cdg A outer s H p).suite a ((a, oe) :: pn)) (x := "BadMany") (v := .ref (He.ga K "BadMany")) rfl ⟨_, N.c4, rfl⟩) pa_nil (star_Name _ _)) (star_Name _ _))) (pa_cons (pe_callB (call_isD (X := kXH P w K mg base g cdg A outer s H p) C hz hf) (by rfl) T.z_isinstance (by decide +kernel) (pa_cons (pv 1) (pa_cons (C8.pe_gc (X := (kXH P w K mg base g cdg A outer s H p).suite a ((a, oe) :: pn)) (x := "NoWork") (v := .ref (He.ga K "NoWork")) rfl ⟨_, N.c5, rfl⟩) pa_nil (star_Name _ _)) (star_Name _ _))) (pa_cons (pe_callB (call_isD (X := kXH P w K mg base g cdg A outer s H p) C hz hf) (by rfl) T.z_isinstance (by decide +kernel) (pa_cons (pv 1) (pa_cons (C8.pe_gc (X := (kXH P w K mg base g cdg A outer s H p).suite a ((a, oe) :: pn)) (x := "Busy") (v := .ref (He.ga K "Busy")) rfl ⟨_, N.c6, rfl⟩) pa_nil (star_Name _ _)) (star_Name _ _))) pa_nil (star_Call _ _ _ _)) (star_Call _ _ _ _)) (star_Call _ _ _ _))) pa_nil (star_List _ _))) (by (try dsimp only [Cx.suite, Cx.nox, cxOf]) <;> rfl))) (pss_cons (ps_set (i := 3) sc__law_kind.nd rfl (Or.inl rfl) (pe_lst (pa_cons pe_str (pa_cons pe_str (pa_cons pe_str (pa_cons pe_str (pa_cons pe_str (pa_cons pe_str (pa_cons pe_str (pa_cons pe_str pa_nil (star_Constant _ _ _)) (star_Constant _ _ _)) (star_Constant _ _ _)) (star_Constant _ _ _)) (star_Constant _ _ _)) (star_Constant _ _ _)) (star_Constant _ _ _)) (star_Constant _ _ _)))) (pss_one (ps_ret (peT (pe_ix ix_list (pv 3) (pe_ifExp (PW.pt (pw_and (pt_cmpR op_eq (pe_bm PySem.F.plainAttrs_list PySem.F.slot_list_count PySem.F.type_list_count ((mt_countD (X := (kXH P w K mg base g cdg A outer s H p).suite a ((a, oe) :: pn)) (un65PH hr))) (pv 2) (pa_cons pe_bl pa_nil (star_Constant _ _ _))) pe_int (nomark _)) (pw_and1 (pt_val (pe_callB (call_isD (X := kXH P w K mg base g cdg A outer s H p) C hz hf) (by rfl) T.z_isinstance (by decide +kernel) (pa_cons (pv 1) (pa_cons (pe_bltn (X := (kXH P w K mg base g cdg A outer s H p).suite a ((a, oe) :: pn)) (x := "ValueError") (v := .ty "ValueError") rfl N.ve (by decide +kernel) rfl) pa_nil (star_Name _ _)) (star_Name _ _))))))) (pe_bm PySem.F.plainAttrs_list PySem.F.slot_list_index PySem.F.type_list_index ((mt_indexD (X := (kXH P w K mg base g cdg A outer s H p).suite a ((a, oe) :: pn)) (un65PH hr))) (pv 2) (pa_cons pe_bl pa_nil (star_Constant _ _ _))) (pe_un un_neg pe_int)) (fun _ _ => rfl)) (by (try dsimp only [Cx.suite, Cx.nox, cxOf, kXH, cxH]) <;> rfl))))))),
    (sim_seq (sim_asgN (sim_lst (sim_cons (sim_isD sim_var sim_c) (sim_cons (sim_isD sim_var sim_c) (sim_cons (sim_isD sim_var sim_c) (sim_cons (sim_isD sim_var sim_c) sim_nil)))))) (sim_seq (sim_drop (sim_extL sim_var (sim_fz (sim_lst (sim_cons (sim_isD sim_var sim_c) (sim_cons (sim_isD sim_var sim_c) (sim_cons (sim_isD sim_var sim_c) sim_nil))))))) (sim_seq (sim_asg (sim_fz (sim_lst (sim_cons sim_c (sim_cons sim_c (sim_cons sim_c (sim_cons sim_c (sim_cons sim_c (sim_cons sim_c (sim_cons sim_c (sim_cons sim_c sim_nil)))))))))) (sim_gname (vs := [0, 1, 2, 3]))) (sim_ret (sim_op sim_var (sim_if (sim_and (sim_test (sim_op (sim_countL sim_var sim_c) sim_c ops_eq)) (sim_B (sim_isD sim_var sim_c))) (sim_indexD sim_var sim_c) (sim_un sim_c uns_negK)) ops_ixL))))), ?_⟩
  intro j w0 D0 KI hw
  dsimp! only [aIsD, aIndexD, aCountL, aExtL, fNegK]
  obtain ⟨_, _, his, hve, hlt⟩ := KI
  have hj : j = 0 ∨ j = 1 ∨ j = 2 ∨ j = 3 ∨ j = 4 ∨ j = 5 ∨ j = 6 := by omega
  have hI : w0 ∈ kdWords ∧ kdWords[j]? = some w0 := ⟨List.mem_of_getElem? hw, hw⟩
  refine ⟨decide (0 = j), .ref (He.ga K "Fail"), fun _ e => e, his 0 "Fail" rfl, decide (1 = j), .ref (He.ga K "Skip"), fun _ e => e, his 1 "Skip" rfl, decide (2 = j), .ref (He.ga K "BadBook"), fun _ e => e, his 2 "BadBook" rfl, decide (3 = j), .ref (He.ga K "BadText"), fun _ e => e, his 3 "BadText" rfl,
    decide (4 = j), .ref (He.ga K "BadMany"), fun _ e => e, his 4 "BadMany" rfl, decide (5 = j), .ref (He.ga K "NoWork"), fun _ e => e, his 5 "NoWork" rfl, decide (6 = j), .ref (He.ga K "Busy"), fun _ e => e, his 6 "Busy" rfl, ⟨_, rfl⟩, _, rfl, ?_⟩
  rcases hj with rfl | rfl | rfl | rfl | rfl | rfl | rfl
  all_goals (cases hw; refine ⟨by decide, by decide, ?_⟩; rw [if_pos (by decide)])
  all_goals (refine ⟨true, .type "ValueError", fun _ e => e, hve, ?_⟩; rw [if_pos rfl]; refine ⟨⟨_, rfl⟩, _, rfl, by decide, by decide, ?_⟩)
  · refine ⟨0, .bool true, rfl, by decide, fun m z hm h => ?_, _, rfl, rfl⟩
    rcases m with _ | _ | _ | _ | _ | _ | m <;> first | omega | (cases h; decide)
  · refine ⟨1, .bool true, rfl, by decide, fun m z hm h => ?_, _, rfl, rfl⟩
    rcases m with _ | _ | _ | _ | _ | _ | m <;> first | omega | (cases h; decide)
  · refine ⟨2, .bool true, rfl, by decide, fun m z hm h => ?_, _, rfl, rfl⟩
    rcases m with _ | _ | _ | _ | _ | _ | m <;> first | omega | (cases h; decide)
  · refine ⟨3, .bool true, rfl, by decide, fun m z hm h => ?_, _, rfl, rfl⟩
    rcases m with _ | _ | _ | _ | _ | _ | m <;> first | omega | (cases h; decide)
  · refine ⟨4, .bool true, rfl, by decide, fun m z hm h => ?_, _, rfl, rfl⟩
    rcases m with _ | _ | _ | _ | _ | _ | m <;> first | omega | (cases h; decide)
  · refine ⟨5, .bool true, rfl, by decide, fun m z hm h => ?_, _, rfl, rfl⟩
    rcases m with _ | _ | _ | _ | _ | _ | m <;> first | omega | (cases h; decide)
  · refine ⟨6, .bool true, rfl, by decide, fun m z hm h => ?_, _, rfl, rfl⟩
    rcases m with _ | _ | _ | _ | _ | _ | m <;> first | omega | (cases h; decide)
open LamX in
/-- what _law_kind makes of a lambda's call -/
theorem kind_givesH {X : Cx} {k : Nat} {g : Addr} {a q : Str} (T : Top X.K X.mg) (N : TopKd X.K X.mg) (ha : a = "_law_call") : GivesKH X k (["_law_call", "e", "_law_kinds", "_law_words"] : List Str) "_law_kind" (defScope s__law_kind) g (defBody s__law_kind) a q (TKnd (KWk X.K) "") := by
  subst ha
  intro cdg p f d s H Q tl hot hr hc hco hTT
  have kh := fun (D a : Addr) (d : Option Addr) => kind_handH (TC := TC00) (P := X.prog) (w := X.w) (base := X.base) (outer := X.stack) (s := s) (H := H) (p := p) T N D a d hr
  let ts : Addr → Value → Option Addr → TS := fun a cls d DD σ HH => ∃ D : Addr, (cls = .ref D ∧ ExcC X.K D) ∧ Classical.choose (kh D a d) DD σ HH
  refine ⟨_, psst_cons (pst_try_asH (X := cxH C8.CX0 X.prog X.w X.K X.mg X.base (["_law_call", "e", "_law_kinds", "_law_words"] : List Str) "_law_kind" (defScope s__law_kind) g cdg X.A X.stack s H C8.E0 p) (i := 1) (c := .ref (He.ga X.K "TryError")) (ts := ts) (Wout := fun _ _ _ _ => False)
    (tb := fun W D σ HH => ∃ E : XK, (∀ cls d σ' H', σ'.length = 4 → E cls d H' → W cls d σ' H') ∧ σ[0]? = some (some (.ref f)) ∧ HH d = some (CodeO d q) ∧ tl E HH (fun _ H' => D.nx σ H')) rfl rfl sc__law_kind.nd rfl rfl ⟨rfl, by decide, .inl N.te⟩ takes0 (fun W pn xe hpn tk _ => ?_) (fun a oe cls d pn hz hf => ?_)) (psst_one (pst_ret (PET.of pe_str))), ?_⟩
  · intro pins s1 σ1 H1 D1 h0 I h
    obtain ⟨E, h1, h2, h3, h4⟩ := h
    refine psst_one (pst_expr (hc W pn xe E _ _ (hpn p (List.mem_singleton.mpr rfl)) tk h1)) pins s1 σ1 H1 D1 h0 I ?_
    exact ⟨h2, h3, h4⟩
  · refine pss_if (p := fun D : Addr => cls = .ref D ∧ ExcC X.K D) (t := fun D => Classical.choose (kh D a d)) fun D hD => ?_
    obtain ⟨rfl, hD⟩ := hD
    exact (Classical.choose_spec (kh D a d)).choose_spec.1 oe pn hD hz hf
  · refine ⟨fun cls dd H' => ∃ w, KWk X.K cls dd H' w ∧ ∀ H'', (∀ b o, H' b = some o → H'' b = some o) → Q (.str w) H'', fun cls dd σ' H' hl hE => ?_, rfl, hco, ?_⟩
    · obtain ⟨w0, ⟨D, j, rfl, KI, hd, hw⟩, hq⟩ := hE
      refine ⟨true, KI.te, fun _ a ha => ?_, fun z => nomatch z⟩
      refine ⟨D, ⟨rfl, KI.ex⟩, ?_⟩
      obtain ⟨aK, _, hs, hk⟩ := Classical.choose_spec (kh D a dd)
      refine tell_by (TC := TC00) rfl (sa := [none, some (.pv (.rel (rRf a dd))), none, none]) hs (hk j w0 AE0 KI hw) ?_ hq
      refine SgR.mk (TC := TC00) ?_ fun i av e => ?_
      · show 4 = (σ'.set 1 (some (.ref a))).length
        rw [List.length_set, hl]
      have h4 : σ'.length = 4 := hl
      match i, e with
      | 0, e => cases e
      | 1, e =>
        cases e
        refine ⟨.ref a, ?_, rfl, hd⟩
        rw [List.getElem?_set_self (by omega)]
      | 2, e => cases e
      | 3, e => cases e
      | _ + 4, e => cases e
    · exact hTT
end
/-! ### _law_refused -/
section
open LamX HotX L2H
def retV : Stmt → Expr
  | .Return (some e) _ => e
  | _ => .Constant .none 0 ⟨0, 0, 0, 0⟩
def arg0 : Expr → Expr
  | .Call _ (a :: _) _ _ => a
  | e => e
def ifC : Expr → Expr
  | .IfExp c _ _ _ => c
  | e => e
def cmpL1 : Expr → Expr
  | .Compare l _ _ _ => l
  | e => e
def tryS : List Stmt → List Stmt
  | .Try _ (.ExceptHandler _ _ b _ :: _) _ _ _ :: _ => b
  | _ => []
abbrev rfL : Expr := arg0 (cmpL1 (ifC (retV ((tryS (defBody s__law_refused)).getD 0 (.Pass ⟨0, 0, 0, 0⟩)))))
abbrev rfQ : Str := (("_law_refused" : Str) ++ ".<locals>.") ++ "<lambda>"
theorem rf_bind : BindN (lamArgs rfL) (lamBody rfL) (lamScope rfL) [] := ⟨fun _ q cl pm d ctv => rfl, fun h => absurd rfl h⟩
theorem rf_lamn : LamN (["_law_text", "e"] : List Str) (defScope s__law_refused) (lamScope rfL) := lamN_by (by decide +kernel)
/-- where a text is refused, else -1 -/
def rfM (z : Str) : Int := match xAll (wordsM z) with
  | .ok _ => -1
  | .no j => j
def ac_rf : AC := fun avs A k => ∃ z, avs = [.pv (.str z)] ∧ A = [] ∧ z.length ≤ 3000 ∧ WdsOk (wordsM z) ∧ (∀ x ∈ wordsM z, PyData.strOk x = true) ∧ k (.pv (.int (rfM z))) []
theorem roomH_mark {k : Nat} {A : Around} {v : Option Value} (r : Room k A) : RoomH k (A.mark v) := by
  refine ⟨?_, ?_⟩
  · have := r.dp; show A.depth + 3 * k + 5 < _; omega
  · have := r.un; show A.units + 16 * k + 200 < _; omega
section
variable {P : Program} {w : World} {K : PySem.W.Frag} {mg : Str → Option Value} {base : Heap} {f gK : Addr} {fd fdK : FuncData} {CT CB c PT : Addr}
theorem sc__law_refused : FnScope ["_law_text", "e"] ["_law_text"] (defScope s__law_refused) := ⟨rfl, rfl, rfl, by decide +kernel, rfl, by decide +kernel, by decide +kernel⟩
theorem fn_refused {k kc : Nat} (F : FnP K "_law_refused" "_law_refused" s__law_refused f fd) (hc : CodeT base mg fd c PT) (hnm : TC.nm (lamPos rfL).line (lamPos rfL).col = rfQ) (T : Top K mg) (N : TopKd K mg) (KT : KindIs K CT 3) (XT : XfC K CT) (hno : PySem.W.findIn K (.ref CT) "place" = some none) (hCT : mg "BadText" = some (.ref CT)) (hexm : PySem.W.exmOne K (.ref CT) (.ref CT) = some true)
    (FK : FnP K "_law_kind" "_law_kind" s__law_kind gK fdK) (mK : mg "_law_kind" = some (.ref gK)) (bK : Binds K fdK ["_law_call"] [])
    (c_chosen : CalC P w K mg base (L2N.CX P w) kc "chosen" (spX K (ac_ch0 CT)) []) (h_chosen : CalH P w K mg base (L2.CX P w) kc "chosen" (spX K (ac_ch0 CT)) []) (h1 : kc + 2 ≤ k) (h2 : 4 ≤ k) :
    FnT P w K mg base CX0 (k + 1) f fd ["_law_text"] (spA K ac_rf) := by
  refine fnT_byC F sc__law_refused (fun vs H Q E h => ?_) fun cdv A outer s H vs Q E he hr h => ?_
  · obtain ⟨s, avs, Kc, _, _, h3, ⟨z, h4, _⟩, _⟩ := h
    subst h4
    exact h3.length.symm
  obtain rfl : cdv = .ref c := by rw [← he]; exact hc.cd
  suffices hs : ∃ t at', PSsT (cxOf CX0 P w K mg base (["_law_text", "e"] : List Str) "_law_refused" (defScope s__law_refused) f (.ref c) A outer s H E).nox (defBody s__law_refused) t ∧ SimS K 0 at' t ∧ ∀ avs A Kc, ac_rf avs A Kc → at' (aEnd 0 Kc) (startA (["_law_text", "e"] : List Str) avs) A by
    obtain ⟨t, at', ht, hs, hrun⟩ := hs
    exact ⟨t, TH.PSsT.nox ht, fnA_core (ps := ["_law_text"]) (fun avs A Kc ⟨z, e, eA, _⟩ => ⟨by rw [e]; rfl, by rw [eA]; rfl⟩) hs hrun h⟩
  refine ⟨_, _, psst_cons (pst_try_asN (X := (cxOf CX0 P w K mg base (["_law_text", "e"] : List Str) "_law_refused" (defScope s__law_refused) f (.ref c) A outer s H E).nox) (Wout := fun _ _ _ _ => False) (i := 1) (c := .ref CT) rfl rfl sc__law_refused.nd rfl rfl ⟨rfl, by decide, .inl hCT⟩ (fun u s' ⟨_, _, _, _, _, _, _, _, _, _, _, _, _, _, _, _, w⟩ => w.elim)
      (fun W pn xe tk _ => psst1 (pst_expr (pet_cCS c_chosen tk hr (by omega) rfl (@PAT.of _ _ _ (pa_cons (pe_tup (pa_cons (pe_tup pa_nil) (pa_cons (pe_tup pa_nil) pa_nil))) (pa_cons (pv 0) pa_nil))))))
      (fun a oe cls d pn hz hv => psst1 (pst_ret (pet_ifM (ptt_cmpR op_eq (pet_kindH (X := ((cxOf CX0 P w K mg base (["_law_text", "e"] : List Str) "_law_refused" (defScope s__law_refused) f (.ref c) A outer s H E).nox).suite a ((a, oe) :: pn)) (k := kc) (kg := kc + 1) (ns := []) FK sc__law_kind rfl mK bK rfl (Or.inl rfl) (kind_givesH T N rfl) (Nat.le_refl _) hc.tb rfl ((roomH_mark hr).mono h1) ⟨(a, oe), ⟨rfl, hv.imp fun vs e => ⟨e, hz.2.2 vs e⟩⟩, List.mem_cons_self⟩ rf_lamn (defN0 rfl) rf_bind
          (fun A outer s H E f d p hr2 hc2 => pet_cH h_chosen passes_lamH hr2 hc2 (Nat.le_refl _) rfl (@PAT.of _ _ _ (pa_cons (pe_tup (pa_cons (pe_tup pa_nil) (pa_cons (pe_tup pa_nil) pa_nil))) (pa_cons (pe_var (i := 0) rfl (Or.inr (Or.inr rfl))) pa_nil))))) (PET.of pe_str) (nomark _)) (PET.of (pe_xf XT hno hz.zc hv (pv 1))) (PET.of (pe_un un_neg pe_int))))))
      (PSsT.of (pss_one (ps_ret (pe_un un_neg pe_int)))),
    sim_seq (sim_tryF hexm (by decide) (fun W => simx_drop (simx_call0 (sim_cons (sim_tup (sim_cons (sim_tup sim_nil) (sim_cons (sim_tup sim_nil) sim_nil))) (sim_cons sim_var sim_nil))))
      (sim_test (sim_op (sim_kind (KW := KWk K) (KWa := KWa K) hc.at_ hnm (fun s cls dd e w hx hk => kw_of s cls dd e w hx hk) (fun E => simx_callD DsOk.nil (sim_cons (sim_tup (sim_cons (sim_tup sim_nil) (sim_cons (sim_tup sim_nil) sim_nil))) (sim_cons sim_var sim_nil)))) sim_c ops_eq)) (sim_un sim_c uns_negK)) (sim_ret (sim_un sim_c uns_negK)), ?_⟩
  rintro avs A Kc ⟨z, rfl, rfl, hz, hw, hok, hK⟩
  dsimp! only [aTryF, aDropX, aCall0X, aKnd, aCallDX, fNegK]
  refine ⟨z, rfl, rfl, hz, hw, hok, ?_⟩
  cases e : xAll (wordsM z) with
  | ok o =>
    have er : rfM z = -1 := by unfold rfM; rw [e]
    rw [er] at hK
    unfold xK0
    rw [e]
    exact hK
  | no j =>
    have er : rfM z = (j : Int) := by unfold rfM; rw [e]
    rw [er] at hK
    unfold xK0
    rw [e]
    refine ⟨rfl, .int j, rfl, z, rfl, rfl, hz, hw, hok, ?_⟩
    unfold xK0
    rw [e]
    refine ⟨"text", ⟨CT, 3, rfl, KT, (by intro z; cases z), rfl⟩, ?_⟩
    rw [if_pos rfl]
    exact hK
end
end
/-! ### the law's own reading of a text, word by word -/
def k05W : List Str := ["a", "b", "and", "or", "not", "(", ")", "A", "a1", "abcdefghi", "nota"]
/-- the last is the head -/
def strip : List Str → List Str
  | [] => []
  | w :: r => if w = "not" then strip r else w :: r
theorem strip_idem : ∀ st, strip (strip st) = strip st
  | [] => rfl
  | w :: r => by
    by_cases c : w = "not"
    · rw [strip, if_pos c]; exact strip_idem r
    · rw [strip, if_neg c, strip, if_neg c]
theorem strip_len : ∀ st, (strip st).length ≤ st.length
  | [] => Nat.le_refl _
  | w :: r => by
    by_cases c : w = "not"
    · rw [strip, if_pos c]; exact Nat.le_succ_of_le (strip_len r)
    · rw [strip, if_neg c]; exact Nat.le_refl _
def noName (w : Str) : Bool := decide (w = "and" ∨ w = "or" ∨ w = ")") || (!Txt.isalpha w || (!decide (w = Txt.lower w) || decide (8 < w.length)))
theorem noName_is : ∀ w ∈ k05W, w ≠ "not" → w ≠ "(" → isName w = !noName w := by decide +kernel
def scan : List Str → Nat → Bool → List Str → Int
  | [], k, due, st => if due = true ∨ st ≠ [] then (k : Int) else -1
  | w :: r, k, true, st => if w = "not" ∨ w = "(" then (if st.length = 20 then (k : Int) else scan r (k + 1) true (w :: st)) else if noName w = true then (k : Int) else scan r (k + 1) false (strip st)
  | w :: r, k, false, st => if w = ")" ∧ ("(" : Str) ∈ st then scan r (k + 1) false (strip st.tail) else if w = "and" ∨ w = "or" then scan r (k + 1) true st else (k : Int)
def scanAt (ws : List Str) (i : Nat) (due : Bool) (st : List Str) : Int := scan (ws.drop i) i due st
def badM (ws : List Str) : Int := if ws = [] then -1 else scan ws 0 true []
section
variable {ws : List Str}
theorem wAt_some {i : Nat} {w : Str} (h : wAt ws i = w) (hw : w ≠ "") : i < ws.length ∧ ws.drop i = w :: ws.drop (i + 1) := by
  have hi : i < ws.length := Nat.lt_of_not_le fun z => by
    have e : wAt ws i = "" := by unfold wAt; rw [List.getD_eq_getElem?_getD, List.getElem?_eq_none z]; rfl
    exact hw (h.symm.trans e)
  refine ⟨hi, ?_⟩
  have e : ws[i] = w := by
    rw [← h]
    unfold wAt
    rw [List.getD_eq_getElem?_getD, List.getElem?_eq_getElem hi]
    rfl
  rw [List.drop_eq_getElem_cons hi, e]
theorem wAt_lt {i : Nat} (hi : i < ws.length) : wAt ws i ∈ ws ∧ ws.drop i = wAt ws i :: ws.drop (i + 1) := by
  have e : wAt ws i = ws[i] := by
    unfold wAt
    rw [List.getD_eq_getElem?_getD, List.getElem?_eq_getElem hi]
    rfl
  rw [e]
  exact ⟨List.getElem_mem hi, List.drop_eq_getElem_cons hi⟩
theorem wAt_ge {i : Nat} (hi : ws.length ≤ i) : wAt ws i = "" := by
  unfold wAt
  rw [List.getD_eq_getElem?_getD, List.getElem?_eq_none hi]
  rfl
def Reads (ws : List Str) (n : Nat) (p : Nat → XR) (post : Nat → Prop) : Prop := ∀ i st, st.length + n = 20 → strip st = st → i ≤ ws.length → match p i with
  | .ok _ j => scanAt ws i true st = scanAt ws j false st ∧ j ≤ ws.length ∧ post j
  | .no j => scanAt ws i true st = (j : Int)
def ReadsN (ws : List Str) (n : Nat) (p : Nat → XR) : Prop := ∀ i st, st.length + n = 20 → i ≤ ws.length → match p i with
  | .ok _ j => scanAt ws i true st = scanAt ws j false (strip st) ∧ j ≤ ws.length
  | .no j => scanAt ws i true st = (j : Int)
theorem reads_of {n : Nat} {p : Nat → XR} (h : ReadsN ws n p) : Reads ws n p (fun _ => True) := fun i st h1 h2 h3 => by
  have := h i st h1 h3
  cases e : p i with
  | ok t j => rw [e] at this; rw [h2] at this; exact ⟨this.1, this.2, trivial⟩
  | no j => rw [e] at this; exact this
theorem reads_loop {n : Nat} {p : Nat → XR} {post : Nat → Prop} {word : Str} (hw : word = "and" ∨ word = "or") (hp : Reads ws n p post) (on : On p) : ∀ f j acc st, st.length + n = 20 → strip st = st → j ≤ ws.length → post j → ws.length < f + j → match xLoop ws word p f j acc with
    | .ok _ j' => scanAt ws j false st = scanAt ws j' false st ∧ j' ≤ ws.length ∧ (post j' ∧ wAt ws j' ≠ word)
    | .no j' => scanAt ws j false st = (j' : Int)
  | 0, j, acc, st, h1, h2, h3, h4, h5 => by omega
  | f + 1, j, acc, st, h1, h2, h3, h4, h5 => by
    have hne : word ≠ "" := by rcases hw with rfl | rfl <;> decide
    have hnp : ¬ (word = ")" ∧ ("(" : Str) ∈ st) := by rcases hw with rfl | rfl <;> (rintro ⟨z, _⟩; revert z; decide)
    by_cases c : wAt ws j = word
    · obtain ⟨hj, ed⟩ := wAt_some c hne
      have e1 : scanAt ws j false st = scanAt ws (j + 1) true st := by
        unfold scanAt
        rw [ed]
        show (if word = ")" ∧ ("(" : Str) ∈ st then _ else if word = "and" ∨ word = "or" then scan _ (j + 1) true st else _) = _
        rw [if_neg hnp, if_pos hw]
      have hq := hp (j + 1) st h1 h2 hj
      have ex : xLoop ws word p (f + 1) j acc = (p (j + 1)).bd fun t j => xLoop ws word p f j (acc ++ [t]) := by
        show (if wAt ws j = word then _ else _) = _
        rw [if_pos c]
      rw [ex, e1]
      cases e : p (j + 1) with
      | no j' => rw [e] at hq; exact hq
      | ok t j' =>
        rw [e] at hq
        obtain ⟨q1, q2, q3⟩ := hq
        have o := on _ _ _ e
        rw [q1]
        exact reads_loop hw hp on f j' (acc ++ [t]) st h1 h2 q2 q3 (by omega)
    · have ex : xLoop ws word p (f + 1) j acc = .ok (.node word acc) j := by
        show (if wAt ws j = word then _ else _) = _
        rw [if_neg c]
      rw [ex]
      exact ⟨rfl, h3, h4, c⟩
theorem reads_join {n : Nat} {p : Nat → XR} {post : Nat → Prop} {word : Str} (hw : word = "and" ∨ word = "or") (hp : Reads ws n p post) (on : On p) : Reads ws n (xJoin ws word p) (fun j => post j ∧ wAt ws j ≠ word) := fun i st h1 h2 h3 => by
  have hq := hp i st h1 h2 h3
  show match (p i).bd fun t j => xLoop ws word p (ws.length + 1) j [t] with | .ok _ j => _ | .no j => _
  cases e : p i with
  | no j => rw [e] at hq; exact hq
  | ok t j =>
    rw [e] at hq
    obtain ⟨q1, q2, q3⟩ := hq
    rw [q1]
    have o := on _ _ _ e
    exact reads_loop hw hp on (ws.length + 1) j [t] st h1 h2 q2 q3 (by omega)
theorem scan_end {i : Nat} {st : List Str} (hi : i = ws.length) : scanAt ws i true st = (i : Int) := by
  unfold scanAt
  rw [hi, List.drop_length]
  show (if true = true ∨ st ≠ [] then _ else _) = _
  rw [if_pos (.inl rfl)]
theorem reads_name {i : Nat} {st : List Str} (hW : ∀ w ∈ ws, w ∈ k05W) (hi : i ≤ ws.length) (c1 : wAt ws i ≠ "not") (c2 : wAt ws i ≠ "(") : match xName ws i with
    | .ok _ j => scanAt ws i true st = scanAt ws j false (strip st) ∧ j ≤ ws.length
    | .no j => scanAt ws i true st = (j : Int) := by
  unfold xName
  by_cases hl : i < ws.length
  · obtain ⟨hm, ed⟩ := wAt_lt hl
    have hn := noName_is _ (hW _ hm) c1 c2
    have e1 : scanAt ws i true st = if noName (wAt ws i) = true then (i : Int) else scanAt ws (i + 1) false (strip st) := by
      unfold scanAt
      rw [ed]
      show (if wAt ws i = "not" ∨ wAt ws i = "(" then _ else if noName (wAt ws i) = true then _ else _) = _
      rw [if_neg (by rintro (z | z) <;> contradiction)]
    rw [e1, hn]
    cases noName (wAt ws i) with
    | true => rfl
    | false => exact ⟨rfl, hl⟩
  · have e : wAt ws i = "" := wAt_ge (by omega)
    rw [e, show isName ("" : Str) = false from by decide +kernel]
    exact scan_end (by omega)
theorem reads_not (hW : ∀ w ∈ ws, w ∈ k05W) : ∀ n, ReadsN ws n (xNot ws n)
  | 0, i, st, h1, h3 => by
    show match (if wAt ws i = "not" ∨ wAt ws i = "(" then XR.no i else xName ws i) with | .ok _ j => _ | .no j => _
    by_cases c : wAt ws i = "not" ∨ wAt ws i = "("
    · rw [if_pos c]
      obtain ⟨hl, ed⟩ := wAt_some (w := wAt ws i) rfl (by rcases c with c | c <;> rw [c] <;> decide)
      unfold scanAt
      rw [ed]
      show (if wAt ws i = "not" ∨ wAt ws i = "(" then (if st.length = 20 then (i : Int) else _) else _) = _
      rw [if_pos c, if_pos (by omega)]
    · rw [if_neg c]
      exact reads_name hW h3 (fun z => c (.inl z)) fun z => c (.inr z)
  | n + 1, i, st, h1, h3 => by
    have push : ∀ w, wAt ws i = w → (w = "not" ∨ w = "(") → i < ws.length ∧ scanAt ws i true st = scanAt ws (i + 1) true (w :: st) := fun w hw c => by
      obtain ⟨hl, ed⟩ := wAt_some hw (by rcases c with rfl | rfl <;> decide)
      refine ⟨hl, ?_⟩
      unfold scanAt
      rw [ed]
      show (if w = "not" ∨ w = "(" then (if st.length = 20 then (i : Int) else scan _ (i + 1) true (w :: st)) else _) = _
      rw [if_pos c, if_neg (by omega)]
    show match (if wAt ws i = "not" then (xNot ws n (i + 1)).bd fun t j => .ok (.node "not" [t]) j
      else if wAt ws i = "(" then (xJoin ws "or" (xJoin ws "and" (xNot ws n)) (i + 1)).bd fun t j => if wAt ws j = ")" then .ok t (j + 1) else .no j
      else xName ws i) with | .ok _ j => _ | .no j => _
    by_cases c1 : wAt ws i = "not"
    · rw [if_pos c1]
      obtain ⟨hl, e1⟩ := push _ c1 (.inl rfl)
      have hq := reads_not hW n (i + 1) (("not" : Str) :: st) (by rw [List.length_cons]; omega) hl
      rw [e1]
      cases e : xNot ws n (i + 1) with
      | no j => rw [e] at hq; exact hq
      | ok t j =>
        rw [e] at hq
        have es : strip (("not" : Str) :: st) = strip st := by rw [strip, if_pos rfl]
        rw [es] at hq
        exact hq
    rw [if_neg c1]
    by_cases c2 : wAt ws i = "("
    · rw [if_pos c2]
      obtain ⟨hl, e1⟩ := push _ c2 (.inr rfl)
      have hs : strip (("(" : Str) :: st) = ("(" : Str) :: st := by rw [strip, if_neg (by decide)]
      have hr := reads_join (.inr rfl) (reads_join (.inl rfl) (reads_of (reads_not hW n)) (on_not n)) (on_join (on_not n)) (i + 1) (("(" : Str) :: st) (by rw [List.length_cons]; omega) hs hl
      rw [e1]
      cases e : xJoin ws "or" (xJoin ws "and" (xNot ws n)) (i + 1) with
      | no j => rw [e] at hr; exact hr
      | ok t j =>
        rw [e] at hr
        obtain ⟨q1, q2, ⟨_, q3⟩, q4⟩ := hr
        show match (if wAt ws j = ")" then XR.ok t (j + 1) else .no j) with | .ok _ j => _ | .no j => _
        rw [q1]
        by_cases c3 : wAt ws j = ")"
        · rw [if_pos c3]
          obtain ⟨hj, ed⟩ := wAt_some c3 (by decide)
          refine ⟨?_, hj⟩
          unfold scanAt
          rw [ed]
          show (if (")" : Str) = ")" ∧ ("(" : Str) ∈ (("(" : Str) :: st) then scan _ (j + 1) false (strip ((("(" : Str) :: st).tail)) else _) = _
          rw [if_pos ⟨rfl, List.mem_cons_self⟩]
          rfl
        · rw [if_neg c3]
          by_cases hj : j < ws.length
          · obtain ⟨_, ed⟩ := wAt_lt hj
            unfold scanAt
            rw [ed]
            show (if wAt ws j = ")" ∧ ("(" : Str) ∈ (("(" : Str) :: st) then _ else if wAt ws j = "and" ∨ wAt ws j = "or" then _ else (j : Int)) = _
            rw [if_neg (fun z => c3 z.1), if_neg (by rintro (z | z) <;> contradiction)]
          · have ej : j = ws.length := by omega
            unfold scanAt
            rw [ej, List.drop_length]
            show (if false = true ∨ (("(" : Str) :: st) ≠ [] then _ else _) = _
            rw [if_pos (.inr (by simp))]
    · rw [if_neg c2]
      exact reads_name hW h3 c1 c2
/-- where the Chooser refuses, and where the law says so -/
theorem xAll_scan (hW : ∀ w ∈ ws, w ∈ k05W) : (match xAll ws with
    | .ok _ => (-1 : Int)
    | .no j => j) = badM ws := by
  unfold xAll badM
  by_cases c : ws = []
  · rw [if_pos c, if_pos c]
  rw [if_neg c, if_neg c]
  have hr := reads_join (.inr rfl) (reads_join (.inl rfl) (reads_of (reads_not hW 20)) (on_not 20)) (on_join (on_not 20)) 0 [] rfl rfl (Nat.zero_le _)
  have e0 : scan ws 0 true [] = scanAt ws 0 true [] := by unfold scanAt; rw [List.drop_zero]
  rw [e0]
  have e' : xOr ws 20 0 = xJoin ws "or" (xJoin ws "and" (xNot ws 20)) 0 := rfl
  rw [e']
  cases e : xJoin ws "or" (xJoin ws "and" (xNot ws 20)) 0 with
  | no j => rw [e] at hr; exact hr.symm
  | ok t j =>
    rw [e] at hr
    obtain ⟨q1, q2, ⟨_, q3⟩, q4⟩ := hr
    rw [q1]
    dsimp only
    by_cases hj : j < ws.length
    · rw [if_pos hj]
      obtain ⟨_, ed⟩ := wAt_lt hj
      unfold scanAt
      rw [ed]
      show (j : Int) = (if wAt ws j = ")" ∧ ("(" : Str) ∈ ([] : List Str) then _ else if wAt ws j = "and" ∨ wAt ws j = "or" then _ else (j : Int))
      rw [if_neg (fun z => nomatch z.2), if_neg (by rintro (z | z) <;> contradiction)]
    · rw [if_neg hj]
      have ej : j = ws.length := by omega
      unfold scanAt
      rw [ej, List.drop_length]
      rfl
end
/-! ### words joined and read again; brackets and nots alone -/
theorem jn_2 (x y : Str) (t : List Str) : Txt.join " " (x :: y :: t) = x ++ (" " : Str) ++ Txt.join " " (y :: t) := by
  rw [TL.join_eq, TL.join_eq]
  rfl
theorem jn_1 (x : Str) : Txt.join " " [x] = x := by
  rw [TL.join_eq]
  rfl
theorem k05_one : ∀ x ∈ k05W, (tokL (TL.tl x) == [x].map TL.tl) = true := by decide +kernel
theorem k05_blank : ∀ x ∈ k05W, (tokL (TL.tl (x ++ (" " : Str))) == [x].map TL.tl) = true := by decide +kernel
theorem k05_sep : ∀ x ∈ k05W, sepR (x ++ (" " : Str)) = true := by decide +kernel
theorem k05_len : ∀ x ∈ k05W, x.length ≤ 9 := by decide +kernel
theorem k05_ok : ∀ x ∈ k05W, PyData.strOk x = true := by decide +kernel
theorem words_k05 : ∀ ws : List Str, (∀ x ∈ ws, x ∈ k05W) → wordsM (Txt.join " " ws) = ws
  | [], _ => by decide +kernel
  | [x], h => by
    rw [jn_1]
    exact wordsR_lit (k05_one x (h x List.mem_cons_self))
  | x :: y :: t, h => by
    rw [jn_2]
    show wordsR _ = _
    rw [wordsR_appR (k05_sep x (h x List.mem_cons_self)), wordsR_lit (k05_blank x (h x List.mem_cons_self))]
    have := words_k05 (y :: t) fun z hz => h z (List.mem_cons_of_mem _ hz)
    show [x] ++ wordsR _ = _
    rw [show wordsR (Txt.join " " (y :: t)) = y :: t from this]
    rfl
theorem jn_len : ∀ ws : List Str, (∀ x ∈ ws, x ∈ k05W) → (Txt.join " " ws).length ≤ 10 * ws.length
  | [], _ => by decide +kernel
  | [x], h => by
    rw [jn_1]
    have := k05_len x (h x List.mem_cons_self)
    rw [List.length_singleton]
    omega
  | x :: y :: t, h => by
    rw [jn_2, Str.length_append, Str.length_append]
    have h1 := k05_len x (h x List.mem_cons_self)
    have h2 := jn_len (y :: t) fun z hz => h z (List.mem_cons_of_mem _ hz)
    have h3 : ((" " : Str)).length = 1 := by decide
    rw [List.length_cons]
    omega
/-- what the law asks of a text of joined words -/
theorem rf_k05 {ws : List Str} (h : ∀ x ∈ ws, x ∈ k05W) (hl : ws.length ≤ 100) : (Txt.join " " ws).length ≤ 3000 ∧ WdsOk (wordsM (Txt.join " " ws)) ∧ (∀ x ∈ wordsM (Txt.join " " ws), PyData.strOk x = true) ∧ rfM (Txt.join " " ws) = badM ws := by
  have e := words_k05 ws h
  have l := jn_len ws h
  rw [e]
  refine ⟨by omega, ⟨by omega, fun x hx => Nat.le_trans (k05_len x (h x hx)) (by decide)⟩, fun x hx => k05_ok x (h x hx), ?_⟩
  unfold rfM
  rw [e]
  exact xAll_scan h
/-! ### so many brackets and nots, then a, then the closing ones -/
theorem scan_push : ∀ (bs : List Str) (r : List Str) (k : Nat) (st : List Str), (∀ b ∈ bs, b = "(" ∨ b = "not") → st.length + bs.length ≤ 20 → scan (bs ++ r) k true st = scan r (k + bs.length) true (bs.reverse ++ st)
  | [], r, k, st, _, _ => rfl
  | b :: bs, r, k, st, h, hl => by
    rw [List.length_cons] at hl
    have hb : b = "not" ∨ b = "(" := (h b List.mem_cons_self).symm
    show (if b = "not" ∨ b = "(" then (if st.length = 20 then (k : Int) else scan (bs ++ r) (k + 1) true (b :: st)) else _) = _
    rw [if_pos hb, if_neg (by omega), scan_push bs r (k + 1) (b :: st) (fun c hc => h c (List.mem_cons_of_mem _ hc)) (by rw [List.length_cons]; omega), List.length_cons, List.reverse_cons, List.append_assoc]
    rw [show k + 1 + bs.length = k + (bs.length + 1) from by omega]
    rfl
theorem scan_full (bs : List Str) (r : List Str) (h : ∀ b ∈ bs, b = "(" ∨ b = "not") (hl : 20 < bs.length) : scan (bs ++ r) 0 true [] = 20 := by
  have e : bs = bs.take 20 ++ bs.drop 20 := (List.take_append_drop 20 bs).symm
  have ht : (bs.take 20).length = 20 := by rw [List.length_take]; omega
  obtain ⟨b, t, ed⟩ : ∃ b t, bs.drop 20 = b :: t := by
    cases ed : bs.drop 20 with
    | nil =>
      have := congrArg List.length ed
      rw [List.length_drop, List.length_nil] at this
      omega
    | cons b t => exact ⟨b, t, rfl⟩
  have hb : b = "not" ∨ b = "(" := (h b (List.mem_of_mem_drop (by rw [ed]; exact List.mem_cons_self))).symm
  rw [e, List.append_assoc, scan_push (bs.take 20) _ 0 [] (fun c hc => h c (List.mem_of_mem_take hc)) (by rw [ht]; decide), ht, ed]
  show (if b = "not" ∨ b = "(" then (if ((bs.take 20).reverse ++ []).length = 20 then ((0 + 20 : Nat) : Int) else _) else _) = 20
  rw [if_pos hb, if_pos (by rw [List.append_nil, List.length_reverse, ht])]
  rfl
theorem cnt_strip : ∀ st : List Str, (strip st).count ("(" : Str) = st.count ("(" : Str)
  | [] => rfl
  | w :: r => by
    by_cases c : w = "not"
    · rw [strip, if_pos c, cnt_strip r, List.count_cons_of_ne (by rw [c]; decide)]
    · rw [strip, if_neg c]
theorem scan_close : ∀ (n k : Nat) (st : List Str), (∀ b ∈ st, b = "(" ∨ b = "not") → strip st = st → st.count ("(" : Str) = n → scan (List.replicate n (")" : Str)) k false st = -1
  | 0, k, st, h, hs, hc => by
    have e : st = [] := by
      cases st with
      | nil => rfl
      | cons b t =>
        rcases h b List.mem_cons_self with rfl | rfl
        · rw [List.count_cons_self] at hc; omega
        · have := strip_len t
          rw [strip, if_pos rfl] at hs
          have := congrArg List.length hs
          rw [List.length_cons] at this
          omega
    subst e
    rfl
  | n + 1, k, st, h, hs, hc => by
    cases st with
    | nil => rw [List.count_nil] at hc; omega
    | cons b t =>
      have hb : b = "(" := by
        rcases h b List.mem_cons_self with rfl | rfl
        · rfl
        · have := strip_len t
          rw [strip, if_pos rfl] at hs
          have := congrArg List.length hs
          rw [List.length_cons] at this
          omega
      subst hb
      rw [List.replicate_succ]
      show (if (")" : Str) = ")" ∧ ("(" : Str) ∈ (("(" : Str) :: t) then scan (List.replicate n (")" : Str)) (k + 1) false (strip t) else _) = _
      rw [if_pos ⟨rfl, List.mem_cons_self⟩]
      rw [List.count_cons_self] at hc
      refine scan_close n (k + 1) (strip t) (fun c hc2 => ?_) (strip_idem t) (by rw [cnt_strip]; omega)
      have sub : ∀ l : List Str, ∀ x ∈ strip l, x ∈ l := fun l => by
        induction l with
        | nil => exact fun x hx => hx
        | cons w r ih =>
          intro x hx
          by_cases cw : w = "not"
          · rw [strip, if_pos cw] at hx
            exact List.mem_cons_of_mem _ (ih x hx)
          · rw [strip, if_neg cw] at hx
            exact hx
      exact h c (List.mem_cons_of_mem _ (sub t c hc2))
theorem bad_many {bs : List Str} (h : ∀ b ∈ bs, b = "(" ∨ b = "not") (hl : 0 < bs.length) : badM ((bs ++ [("a" : Str)]) ++ List.replicate ((bs ++ [("a" : Str)]).count ("(" : Str)) (")" : Str)) = if 20 < bs.length then 20 else -1 := by
  have hc : (bs ++ [("a" : Str)]).count ("(" : Str) = bs.count ("(" : Str) := by rw [List.count_append]; rfl
  rw [hc]
  unfold badM
  rw [if_neg (by cases bs <;> simp), List.append_assoc]
  by_cases c : 20 < bs.length
  · rw [if_pos c]
    exact scan_full bs _ h c
  · rw [if_neg c, scan_push bs _ 0 [] h (by rw [List.length_nil]; omega), List.append_nil]
    show (if ("a" : Str) = "not" ∨ ("a" : Str) = "(" then _ else if noName "a" = true then _ else scan (List.replicate (bs.count ("(" : Str)) (")" : Str)) (0 + bs.length + 1) false (strip bs.reverse)) = _
    rw [if_neg (by decide), if_neg (by decide +kernel)]
    refine scan_close _ _ _ (fun b hb => ?_) (strip_idem _) (by rw [cnt_strip, List.count_reverse])
    have sub : ∀ l : List Str, ∀ x ∈ strip l, x ∈ l := fun l => by
      induction l with
      | nil => exact fun x hx => hx
      | cons w r ih =>
        intro x hx
        by_cases cw : w = "not"
        · rw [strip, if_pos cw] at hx
          exact List.mem_cons_of_mem _ (ih x hx)
        · rw [strip, if_neg cw] at hx
          exact hx
    exact h b (List.mem_reverse.mp (sub _ b hb))
/-! ### a, b, .. = new things and values, by a tuple -/
abbrev aTAs := Sg → Sto → (List AV → Sto → Prop) → Prop
def SimAS (K : PySem.W.Frag) (a : aTAs) (t : TA) : Prop := ∀ ⦃B : Bs⦄ ⦃s : Cs⦄ ⦃sa : Sg⦄ ⦃σ : L2.St⦄, Rep K B s → SgR K s sa σ → ∀ ⦃Kc : List AV → Sto → Prop⦄ ⦃Q : List V → Hp → Prop⦄, (∀ avs vs s', Rep K B s' → Grw s s' → Paired (avS K s') avs vs → Kc avs s'.A → Q vs s'.H) → a sa s.A Kc → t σ s.H Q
def aNilS : aTAs := fun _ A k => k [] A
def aConsN (e : aTN) (r : aTAs) : aTAs := fun sa A k => e sa A fun o A1 => r sa (A1 ++ [o]) fun avs A2 => k (.loc A1.length [] :: avs) A2
def aConsV (e : aTE) (r : aTAs) : aTAs := fun sa A k => e sa A fun x A1 => ∃ p, x = .pv p ∧ r sa A1 fun avs A2 => k (.pv p :: avs) A2
section
variable {K : PySem.W.Frag} {te : TE} {t : TA}
theorem sas_nil : SimAS K aNilS tNil := fun {B s sa σ} rp gg {Kc Q} q h => q [] [] s rp (.refl s) .nil h
theorem sas_new {e : aTN} {r : aTAs} (he : SimN K false e te) (hr : SimAS K r t) : SimAS K (aConsN e r) (tCons te t) := fun {B s sa σ} rp gg {Kc Q} q h =>
  he rp gg (fun o1 v1 f1 s1 e1 n1 k => by
    let s1' : Cs := { s1 with ι := s1.ι ++ [v1], φ := fun i => if i = s1.A.length then f1 else s1.φ i, A := s1.A ++ [o1] }
    have r1 : Rep K B s1' := e1.rep.push n1.is n1.nd n1.off n1.out fun b hb => rp.back (n1.nw b hb)
    have g1 : Grw s1 s1' := ⟨Le.refl _, List.prefix_append _ _⟩
    have gg1 : SgR K s1' sa σ := (gg.stp e1).grw g1
    have at1 : s1'.ι[s1.A.length]? = some v1 := by
      show (s1.ι ++ [v1])[s1.A.length]? = some v1
      rw [← e1.rep.len, List.getElem?_append_right (Nat.le_refl _), Nat.sub_self]
      rfl
    refine hr r1 gg1 (fun avs vs s2 r2 g2 pr k => ?_) k
    exact q _ (v1 :: vs) s2 r2 (e1.grw.trans (g1.trans g2)) (.cons (show avS K s2 (.loc s1.A.length []) v1 from pre_get g2.pre at1) pr) k) h
theorem sas_val {e : aTE} {r : aTAs} (he : SimE K false e te) (hr : SimAS K r t) : SimAS K (aConsV e r) (tCons te t) := fun {B s sa σ} rp gg {Kc Q} q h =>
  he rp gg (fun x v1 s1 e1 px k => by
    obtain ⟨p, rfl, k⟩ := k
    have px : (rPV K p).P s1.G v1 := px
    refine hr e1.rep (gg.stp e1) (fun avs vs s2 r2 g2 pr k => ?_) k
    exact q _ (v1 :: vs) s2 r2 (e1.grw.trans g2) (.cons (show avS K s2 (.pv p) v1 from (rPV K p).mono g2.le px) pr) k) h
def setAll : List Nat → List AV → Sg → Sg
  | i :: r, a :: t, sa => setAll r t (sa.set i (some a))
  | _, _, sa => sa
/-- a, b, .. = .. -/
def aParT (is : List Nat) (r : aTAs) : aTS := fun D sa A => r sa A fun avs A1 => avs.length = is.length ∧ avs.length ≤ 1000 ∧ D.nx (setAll is avs sa) A1
end
/-! ### three at once -/
section
variable {K : PySem.W.Frag} {n0 : Nat} {t : TA}
theorem sim_parT3 {i j l : Nat} {r : aTAs} (hr : SimAS K r t) : SimS K n0 (aParT [i, j, l] r) (tPar3 i j l t) := fun {B s Da D} h0 ed {sa σ} rp gg h =>
  hr rp gg (fun avs vs s1 r1 g1 pr k => by
    obtain ⟨k1, k2, k3⟩ := k
    match avs, vs, k1, pr with
    | [_, _, _], _, _, .cons ha (.cons hb (.cons hc .nil)) => exact ⟨_, _, _, rfl, ed.nx _ _ _ r1 g1 ((((gg.grw g1).set i ha).set j hb).set l hc) k3⟩) h
end
/-! ### _law_bad -/
section
variable {K : PySem.W.Frag} {m : Bool} {a : aTE} {ta : TE}
def aIsal (a : aTE) : aTE := fun sa A k => a sa A fun x A1 => match x with
  | .pv (.v (.str z)) => k (.pv (.v (.bl (Txt.isalpha z)))) A1
  | _ => False
theorem sim_isal (ha : SimE K m a ta) : SimE K m (aIsal a) (tBM0 K "str" (fun x xs H Q => ∃ a, x = .str a ∧ xs = [] ∧ True ∧ Q (.bl (Txt.isalpha a)) H) ta) := fun {B s sa σ} rp g {Kc Q} q h =>
  ha rp g (fun x vx s1 e1 px k => by
    split at k
    · rename_i z
      obtain rfl : vx = .str z := px
      exact ⟨rfl, z, rfl, rfl, trivial, q (.pv (.v (.bl _))) _ s1 e1 rfl k⟩
    · exact k.elim) h
def aLow (a : aTE) : aTE := fun sa A k => a sa A fun x A1 => match x with
  | .pv (.v (.str z)) => z.length ≤ 5592405 ∧ k (.pv (.v (.str (Txt.lower z)))) A1
  | _ => False
theorem sim_low (ha : SimE K m a ta) : SimE K m (aLow a) (tBM0 K "str" (fun x xs H Q => ∃ a, x = .str a ∧ xs = [] ∧ a.length ≤ 5592405 ∧ Q (.str (Txt.lower a)) H) ta) := fun {B s sa σ} rp g {Kc Q} q h =>
  ha rp g (fun x vx s1 e1 px k => by
    split at k
    · rename_i z
      obtain rfl : vx = .str z := px
      exact ⟨rfl, z, rfl, rfl, k.1, q (.pv (.v (.str _))) _ s1 e1 rfl k.2⟩
    · exact k.elim) h
end
/-! ### the inner loop -/
abbrev badC : aTT := aAnd (aNot (aTest (aVar 2))) (aAnd (aTest (aOp fNeD (aVar 3) (aFz (aLst aNil)))) (aTest (aOp fEq (aOp fIxL (aVar 3) (aUn fNegK (aC (V.int 1)))) (aC (V.str "not")))))
abbrev badB : aTS := aDrop (aPop (aVar 3))
theorem atI_end {α : Type} (xs : List α) (x : α) : atI (xs ++ [x]) (-1) = some x := by
  unfold atI
  rw [List.length_append, List.length_singleton]
  have e : ixN (xs.length + 1) (-1) = some xs.length := by
    unfold ixN
    rw [if_neg (by decide), if_pos (by omega)]
    congr 1
    omega
  rw [e]
  simp
theorem bad_while {D : AEnds} {ws st : List Str} {due : Bool} {x4 x5 : Option AV} (hst : ∀ b ∈ st, b ∈ k05W) (hl : st.length ≤ 20)
    (h : D.nx [some (.loc 0 []), some (.pv (.int 0)), some (.pv (.bl due)), some (.loc 1 []), x4, x5] [.lst (ws.map PV.str), .lst ((if due = true then st else strip st).reverse.map PV.str)]) :
    aWhile badC badB D [some (.loc 0 []), some (.pv (.int 0)), some (.pv (.bl due)), some (.loc 1 []), x4, x5] [.lst (ws.map PV.str), .lst (st.reverse.map PV.str)] := by
  refine ⟨fun m sa A => ∃ st', m = st'.length ∧ sa = [some (.loc 0 []), some (.pv (.int 0)), some (.pv (.bl due)), some (.loc 1 []), x4, x5] ∧ A = [.lst (ws.map PV.str), .lst (st'.reverse.map PV.str)] ∧ (∀ b ∈ st', b ∈ k05W) ∧ (due = true → st' = st) ∧ (due = false → strip st' = strip st), ⟨_, st, rfl, rfl, rfl, hst, fun _ => rfl, fun _ => rfl⟩, ?_⟩
  rintro m sa A ⟨st', rfl, rfl, rfl, hs, h1, h2⟩
  cases due with
  | true =>
    obtain rfl := h1 rfl
    dsimp! only []
    exact h
  | false =>
    cases st' with
    | nil =>
      have e : strip st = [] := (h2 rfl).symm
      rw [if_neg (by decide), e] at h
      dsimp! only [fNegK, aPop, dats_strs, eqv_list_strs]
      refine ⟨shaped_strs (fun x hx => nomatch hx), by decide +kernel, ?_⟩
      exact h
    | cons b t =>
      dsimp! only [fNegK, aPop, dats_strs, eqv_list_strs]
      have er : (b :: t).reverse = t.reverse ++ [b] := List.reverse_cons
      refine ⟨shaped_strs (fun x hx => k05_ok x (hs x (List.mem_reverse.mp hx))), by decide +kernel, ?_⟩
      rw [if_pos (by rw [er]; simp)]
      refine ⟨.str b, by rw [er, List.map_append]; exact atI_end _ _, rfl, ?_⟩
      by_cases c : b = "not"
      · rw [if_pos (by rw [c])]
        refine ⟨t.reverse.map PV.str, .str b, by rw [er, List.map_append]; rfl, t.length, Nat.lt_succ_self _, t, rfl, rfl, fun x hx => hs x (List.mem_cons_of_mem _ hx), fun z => z.elim, fun _ => ?_⟩
        rw [← h2 rfl, strip, if_pos c]
      · rw [if_neg (fun z => c (by injection z))]
        have e : strip st = b :: t := by rw [← h2 rfl, strip, if_neg c]
        rw [if_neg (by decide), e] at h
        exact h
theorem strip_sub : ∀ (l : List Str), ∀ x ∈ strip l, x ∈ l
  | [], x, hx => hx
  | w :: r, x, hx => by
    by_cases cw : w = "not"
    · rw [strip, if_pos cw] at hx
      exact List.mem_cons_of_mem _ (strip_sub r x hx)
    · rw [strip, if_neg cw] at hx
      exact hx
def ac_bad : AC := fun avs A k => ∃ ws : List Str, avs = [.loc 0 []] ∧ A = [.lst (ws.map PV.str)] ∧ (∀ x ∈ ws, x ∈ k05W) ∧ ws.length ≤ 100 ∧ k (.pv (.int (badM ws))) [.lst (ws.map PV.str)]
section
variable {P : Program} {w : World} {K : PySem.W.Frag} {mg : Str → Option Value} {base : Heap} {f : Addr} {fd : FuncData}
theorem sc__law_bad : FnScope ["_law_words", "_law_opened", "_law_is_due", "_law_deep", "_law_k", "_law_word"] ["_law_words"] (defScope s__law_bad) := ⟨rfl, rfl, rfl, by decide +kernel, rfl, by decide +kernel, by decide +kernel⟩
theorem fn_bad (F : FnP K "_law_bad" "_law_bad" s__law_bad f fd) (T : Top K mg) : FnOk P w K mg base CX0 1 f fd ["_law_words"] (spA K ac_bad) := by
  refine fnA (n0 := 1) F sc__law_bad (fun avs A Kc ⟨ws, e, eA, _⟩ => ⟨by rw [e]; rfl, by rw [eA]; rfl⟩) (fun cdv A outer s H E hr => ⟨_, (pss_cons (ps_par3 (i := 1) (j := 2) (l := 3) (by rfl) sc__law_bad.nd rfl rfl rfl (by decide) (by decide) (by decide) rfl rfl rfl (pa_cons pe_int (pa_cons pe_bl (pa_cons (pe_lst pa_nil) pa_nil (star_List _ _)) (star_Constant _ _ _)) (star_Constant _ _ _)) (by rfl)) (pss_cons (ps_for PassesOwn.never rfl (pi_range1 rfl T.z_range (pa_cons (pe_callB (call_len_seq) (by rfl) T.z_len PySem.boot_len (pa_cons (pv 0) pa_nil (star_Name _ _))) pa_nil (star_Call _ _ _ _))) (pg_name (i := 4) sc__law_bad.nd rfl (Or.inl rfl)) (pss_cons (ps_set (i := 5) sc__law_bad.nd rfl (Or.inl rfl) (pe_ix ix_list (pv 0) (pv 4) (fun _ _ => rfl))) (pss_cons (ps_if (PW.pt (pw_and (pt_val (pv 2)) (pw_and1 (pt_cmpR (op_inK (K := K) rfl) (pv 5) (pe_tup (pa_cons pe_str (pa_cons pe_str pa_nil (star_Constant _ _ _)) (star_Constant _ _ _))) rfl)))) (pss_cons (ps_if (pt_cmpR op_eq (pe_callB (call_len_seq) (by rfl) T.z_len PySem.boot_len (pa_cons (pv 3) pa_nil (star_Name _ _))) pe_int (nomark _)) (pss_one (ps_ret (pv 4))) pss_nil) (pss_one (ps_expr (pe_bm PySem.F.plainAttrs_list PySem.F.slot_list_append PySem.F.type_list_append (mt_append) (pv 3) (pa_cons (pv 5) pa_nil (star_Name _ _)))))) (pss_one (ps_if (pt_val (pv 2)) (pss_cons (ps_if (PW.pt (pw_or (pt_cmpR (op_inK (K := K) rfl) (pv 5) (pe_tup (pa_cons pe_str (pa_cons pe_str (pa_cons pe_str pa_nil (star_Constant _ _ _)) (star_Constant _ _ _)) (star_Constant _ _ _))) rfl) (pw_or (pt_not (pt_val (pe_bm0 PySem.F.plainAttrs_str PySem.F.slot_str_isalpha PySem.F.type_str_isalpha (mt_isalpha) (pv 5)))) (pw_or (pt_cmpR op_ne (pv 5) (pe_bm0 PySem.F.plainAttrs_str PySem.F.slot_str_lower PySem.F.type_str_lower (mt_lower) (pv 5)) (nomark _)) (pw_or1 (pt_cmpR op_gt (pe_callB (call_len_str) (by rfl) T.z_len PySem.boot_len (pa_cons (pv 5) pa_nil (star_Name _ _))) pe_int (nomark _))))))) (pss_one (ps_ret (pv 4))) pss_nil) (pss_one (ps_set (i := 2) sc__law_bad.nd rfl (Or.inl rfl) pe_bl))) (pss_one (ps_if (PW.pt (pw_and (pt_cmpR op_eq (pv 5) pe_str (nomark _)) (pw_and1 (pt_cmpR (op_inK (K := K) rfl) pe_str (pv 3) rfl)))) (pss_one (ps_expr (pe_bm0 PySem.F.plainAttrs_list PySem.F.slot_list_pop PySem.F.type_list_pop (mt_pop) (pv 3)))) (pss_one (ps_if (pt_cmpR (op_inK (K := K) rfl) (pv 5) (pe_tup (pa_cons pe_str (pa_cons pe_str pa_nil (star_Constant _ _ _)) (star_Constant _ _ _))) rfl) (pss_one (ps_set (i := 2) sc__law_bad.nd rfl (Or.inl rfl) pe_bl)) (pss_one (ps_ret (pv 4)))))))))) (pss_one (ps_while PassesOwn.never (PW.pt (pw_and (pt_not (pt_val (pv 2))) (pw_and (pt_cmpR (op_neD hr.units) (pv 3) (pe_lst pa_nil) (nomark _)) (pw_and1 (pt_cmpR op_eq (pe_ix ix_list (pv 3) (pe_un un_neg pe_int) (fun _ _ => rfl)) pe_str (nomark _)))))) (pss_one (ps_expr (pe_bm0 PySem.F.plainAttrs_list PySem.F.slot_list_pop PySem.F.type_list_pop (mt_pop) (pv 3))))))))) (pss_one (ps_ret (pe_ifExp (PW.pt (pw_and (pt_cmpR (op_neD hr.units) (pv 0) (pe_lst pa_nil) (nomark _)) (pw_and1 (PW.pt (pw_or (pt_val (pv 2)) (pw_or1 (pt_cmpR (op_neD hr.units) (pv 3) (pe_lst pa_nil) (nomark _)))))))) (pe_callB (call_len_seq) (by rfl) T.z_len PySem.boot_len (pa_cons (pv 0) pa_nil (star_Name _ _))) (pe_un un_neg pe_int)))))),
  (sim_seq (sim_parT3 (sas_val sim_c (sas_val sim_c (sas_new (sim_lst sim_nil) sas_nil)))) (sim_seq (sim_for (sim_irng (sim_call1 sim_var uns_len)) (sim_gname (vs := [0, 1, 2, 3, 4, 5])) (sim_seq (sim_asg (sim_op sim_var sim_var ops_ixL) (sim_gname (vs := [0, 1, 2, 3, 4, 5]))) (sim_seq (sim_ifS (sim_and (sim_B sim_var) (sim_test (sim_op sim_var (sim_tup (sim_cons sim_c (sim_cons sim_c sim_nil))) ops_in))) (sim_seq (sim_ifS (sim_test (sim_op (sim_call1 sim_var uns_len) sim_c ops_eq)) (sim_ret sim_var) sim_next) (sim_drop (sim_app sim_var sim_var))) (sim_ifS (sim_B sim_var) (sim_seq (sim_ifS (sim_or (sim_test (sim_op sim_var (sim_tup (sim_cons sim_c (sim_cons sim_c (sim_cons sim_c sim_nil)))) ops_in)) (sim_or (sim_not (sim_B (sim_isal sim_var))) (sim_or (sim_test (sim_op sim_var (sim_low sim_var) ops_ne)) (sim_test (sim_op (sim_call1 sim_var uns_lenS) sim_c ops_I0))))) (sim_ret sim_var) sim_next) (sim_asg sim_c (sim_gname (vs := [0, 1, 2, 3, 4, 5])))) (sim_ifS (sim_and (sim_test (sim_op sim_var sim_c ops_eq)) (sim_test (sim_op sim_c sim_var ops_in))) (sim_drop (sim_pop sim_var)) (sim_ifS (sim_test (sim_op sim_var (sim_tup (sim_cons sim_c (sim_cons sim_c sim_nil))) ops_in)) (sim_asg sim_c (sim_gname (vs := [0, 1, 2, 3, 4, 5]))) (sim_ret sim_var))))) (sim_while (sim_and (sim_not (sim_B sim_var)) (sim_and (sim_test (sim_op sim_var (sim_fz (sim_lst sim_nil)) ops_neD)) (sim_test (sim_op (sim_op sim_var (sim_un sim_c uns_negK) ops_ixL) sim_c ops_eq)))) (sim_drop (sim_pop sim_var)))))) (sim_ret (sim_if (sim_and (sim_test (sim_op sim_var (sim_fz (sim_lst sim_nil)) ops_neD)) (sim_or (sim_B sim_var) (sim_test (sim_op sim_var (sim_fz (sim_lst sim_nil)) ops_neD)))) (sim_call1 sim_var uns_len) (sim_un sim_c uns_negK)))))⟩) ?_
  rintro avs A Kc ⟨ws, rfl, rfl, hW, hl, hK⟩
  simp only [aDisp, aPairs, fMulS, fSub, aIsi, aIsiT, tyOf, vty, PV.ty, aCall0D, aJoin, aSeq, aTest, aOp, aVar, aC, aCp, aRet, aRetN, aRetZ, aDrop, aNext, aBreak, aCont, aAsg, aAsgN, aGTup, aGCons, aGNil, aName, aUn, aUnN, aOpN, aFz, aTup, aLst, aIList, aIListP, aITup, aIEnum, aIEnumT, aIRng, aIStr, aYes, aCall0, aCall0N, aCall1, aMeth0, aMeth1, aMake, aCons, aNil, aWipe, aNotV, aAndV, aOrV, aAnd, aOr, aNot, aChain, aDGet, aDIn, aDPut, aApp, aAug, aPar, aSFld, aSFldN, aFld, aFldF, aSlT, aSlL, aRevL, aPO, aPO0, aBook, fIsN, fNotN, fEq, fNe, fI0, fI, fAddS, fAny, fAll, fIxL, fIxT, fIxS, fIn, fSign, fLen, fLenS, fList, fTuple, fInt, fMax2, fCat, fRep, fCatT, fEqD, fNeD, startA, aEnd, viewT, viewL, viewS, viewF, viewD, pvs, aoAt, aoSub, aoSet, aoPut, foPut, putFo, AO.fz, AO.fz.fzs, PV.isNon, AV.clsAt, keyOf, vdat, PV.dat, PV.dat.dats, viewDat, numP, List.getElem?_cons_zero, List.getElem?_cons_succ, List.getElem?_nil, List.set_cons_zero, List.set_cons_succ, List.map_cons, List.map_nil, List.cons_append, List.nil_append, List.append_nil, List.replicate_succ, List.replicate_zero, List.length_cons, List.length_nil, List.take_zero, List.take_succ_cons, List.take_nil, Nat.reduceAdd, Nat.reduceSub, Nat.reduceLT, Nat.reduceLeDiff, if_true, if_false, reduceIte, Option.map_some, Option.map_none, Option.bind_some, Option.bind_none, Bool.false_eq_true, Bool.not_true, Bool.not_false, List.lookup_cons, List.lookup_nil, Option.some.injEq, exists_eq_left', exists_eq_left, exists_and_left, AO.ins.injEq, AO.lst.injEq, AO.dK.injEq, Nat.zero_add, ite_true, ite_false, List.cons.injEq, AV.pv.injEq, PV.v.injEq, AV.loc.injEq, and_self, bools_map, decide_true, decide_false, true_and, and_true, decide_eq_true_eq, V.str.injEq, V.int.injEq, V.bl.injEq, scalS, scalI, scalB, inV_s, vals_s, vals_s', flat_s, flat_1, inV_b, vals_b, flat_b, pstrs_s, reduceCtorEq, ofS_beq, ofS_eq, String.reduceBEq, String.reduceEq, aParT, aConsV, aConsN, aNilS, setAll, aFor]
  have hl2 : (ws.map PV.str).length = ws.length := List.length_map ..
  refine ⟨⟨by rw [hl2]; omega, by rw [hl2]; omega⟩, fun i sa A => ∃ x4 x5 due st, sa = [some (.loc 0 []), some (.pv (.int 0)), some (.pv (.bl due)), some (.loc 1 []), x4, x5] ∧ A = [.lst (ws.map PV.str), .lst ((st : List Str).reverse.map PV.str)] ∧ (due = false → strip st = st) ∧ (ws ≠ [] → scanAt ws i due st = badM ws) ∧ st.length ≤ 20 ∧ ∀ b ∈ st, b ∈ k05W, ⟨_, _, true, [], rfl, rfl, (fun z => by cases z), fun h => ?_, (by decide), (fun b hb => by cases hb)⟩, fun _ _ _ _ => trivial, fun i x sa A hx hI => ?_, fun sa A hI => ?_⟩
  · unfold scanAt badM
    rw [if_neg h, List.drop_zero]
  · obtain ⟨x4, x5, due, st, rfl, rfl, hs, hsc, hsl, hsW⟩ := hI
    rw [hl2, Int.toNat_natCast, List.getElem?_map] at hx
    obtain ⟨i', hi', rfl⟩ := Option.map_eq_some_iff.mp hx
    obtain ⟨hi, rfl⟩ : i < ws.length ∧ i' = i := by
      have h1 := (List.getElem?_eq_some_iff.mp hi')
      obtain ⟨h2, h3⟩ := h1
      rw [List.length_range] at h2
      rw [List.getElem_range] at h3
      exact ⟨h2, h3.symm⟩
    obtain ⟨hm, ed⟩ := wAt_lt hi
    have hw := hW _ hm
    have hsc := hsc (fun z => by rw [z] at hi; exact absurd hi (Nat.not_lt_zero _))
    have ei : atI (ws.map PV.str) ((i' : Nat) : Int) = some (.str (wAt ws i')) := atI_nat (by rw [List.getElem?_map]; unfold wAt; rw [List.getD_eq_getElem?_getD, List.getElem?_eq_getElem hi]; rfl)
    unfold scanAt at hsc
    rw [ed] at hsc
    generalize wAt ws i' = w0 at hw ei hsc ed
    simp only [aDisp, aPairs, fMulS, fSub, aIsi, aIsiT, tyOf, vty, PV.ty, aCall0D, aJoin, aSeq, aTest, aOp, aVar, aC, aCp, aRet, aRetN, aRetZ, aDrop, aNext, aBreak, aCont, aAsg, aAsgN, aGTup, aGCons, aGNil, aName, aUn, aUnN, aOpN, aFz, aTup, aLst, aIList, aIListP, aITup, aIEnum, aIEnumT, aIRng, aIStr, aYes, aCall0, aCall0N, aCall1, aMeth0, aMeth1, aMake, aCons, aNil, aWipe, aNotV, aAndV, aOrV, aAnd, aOr, aNot, aChain, aDGet, aDIn, aDPut, aApp, aAug, aPar, aSFld, aSFldN, aFld, aFldF, aSlT, aSlL, aRevL, aPO, aPO0, aBook, fIsN, fNotN, fEq, fNe, fI0, fI, fAddS, fAny, fAll, fIxL, fIxT, fIxS, fIn, fSign, fLen, fLenS, fList, fTuple, fInt, fMax2, fCat, fRep, fCatT, fEqD, fNeD, startA, aEnd, viewT, viewL, viewS, viewF, viewD, pvs, aoAt, aoSub, aoSet, aoPut, foPut, putFo, AO.fz, AO.fz.fzs, PV.isNon, AV.clsAt, keyOf, vdat, PV.dat, PV.dat.dats, viewDat, numP, List.getElem?_cons_zero, List.getElem?_cons_succ, List.getElem?_nil, List.set_cons_zero, List.set_cons_succ, List.map_cons, List.map_nil, List.cons_append, List.nil_append, List.append_nil, List.replicate_succ, List.replicate_zero, List.length_cons, List.length_nil, List.take_zero, List.take_succ_cons, List.take_nil, Nat.reduceAdd, Nat.reduceSub, Nat.reduceLT, Nat.reduceLeDiff, if_true, if_false, reduceIte, Option.map_some, Option.map_none, Option.bind_some, Option.bind_none, Bool.false_eq_true, Bool.not_true, Bool.not_false, List.lookup_cons, List.lookup_nil, Option.some.injEq, exists_eq_left', exists_eq_left, exists_and_left, AO.ins.injEq, AO.lst.injEq, AO.dK.injEq, Nat.zero_add, ite_true, ite_false, List.cons.injEq, AV.pv.injEq, PV.v.injEq, AV.loc.injEq, and_self, bools_map, decide_true, decide_false, true_and, and_true, decide_eq_true_eq, V.str.injEq, V.int.injEq, V.bl.injEq, scalS, scalI, scalB, inV_s, vals_s, vals_s', flat_s, flat_1, inV_b, vals_b, flat_b, pstrs_s, reduceCtorEq, ofS_beq, ofS_eq, String.reduceBEq, String.reduceEq]
    refine ⟨.str w0, ei, ?_⟩
    have in2 : ∀ a b : Str, inV (.str w0) [.str a, .str b] = decide (w0 = a ∨ w0 = b) := fun a b => by
      rw [show ([.str a, .str b] : List V) = [a, b].map V.str from rfl, inV_s]
      simp
    have in3 : ∀ a b c : Str, inV (.str w0) [.str a, .str b, .str c] = decide (w0 = a ∨ w0 = b ∨ w0 = c) := fun a b c => by
      rw [show ([.str a, .str b, .str c] : List V) = [a, b, c].map V.str from rfl, inV_s]
      simp
    have hlr : (List.map PV.str st.reverse).length = st.length := by rw [List.length_map, List.length_reverse]
    have w9 := k05_len w0 hw
    cases due with
    | true =>
      have hsc : (if w0 = "not" ∨ w0 = "(" then (if st.length = 20 then (i' : Int) else scan (ws.drop (i' + 1)) (i' + 1) true (w0 :: st)) else if noName w0 = true then (i' : Int) else scan (ws.drop (i' + 1)) (i' + 1) false (strip st)) = badM ws := hsc
      dsimp! only [aIfS]
      refine ⟨_, rfl, rfl, ?_⟩
      rw [in2]
      by_cases c : w0 = "not" ∨ w0 = "("
      · rw [if_pos c] at hsc
        rw [if_pos (decide_eq_true c), hlr]
        by_cases c20 : st.length = 20
        · rw [if_pos c20] at hsc
          rw [if_pos (by omega), hsc]
          exact hK
        · rw [if_neg c20] at hsc
          rw [if_neg (by omega)]
          refine ⟨by omega, ?_⟩
          rw [show List.map PV.str st.reverse ++ [PV.str w0] = List.map PV.str (w0 :: st).reverse from by rw [List.reverse_cons, List.map_append]; rfl]
          exact bad_while (st := w0 :: st) (fun b hb => (List.mem_cons.mp hb).elim (fun z => z ▸ hw) (hsW b)) (by rw [List.length_cons]; omega) ⟨_, _, true, rfl, w0 :: st, rfl, (fun z => by cases z), fun _ => hsc, by rw [List.length_cons]; omega, fun b hb => (List.mem_cons.mp hb).elim (fun z => z ▸ hw) (hsW b)⟩
      · rw [if_neg c] at hsc
        rw [if_neg (by rw [decide_eq_false c]; decide)]
        refine ⟨_, rfl, rfl, ?_⟩
        rw [in3]
        dsimp! only [aIsal, aLow]
        have yes : noName w0 = true → Kc (.pv (.int (i' : Nat))) [.lst (ws.map PV.str)] := fun h => by
          rw [if_pos h] at hsc
          rw [hsc]
          exact hK
        have hn : noName w0 = (decide (w0 = "and" ∨ w0 = "or" ∨ w0 = ")") || (!Txt.isalpha w0 || (!decide (w0 = Txt.lower w0) || decide (8 < w0.length)))) := rfl
        by_cases c1 : w0 = "and" ∨ w0 = "or" ∨ w0 = ")"
        · rw [if_pos c1]
          exact yes (by rw [hn, decide_eq_true c1]; rfl)
        rw [if_neg c1]
        cases c2 : Txt.isalpha w0 with
        | false => exact yes (by rw [hn, c2]; simp)
        | true =>
          rw [if_neg (by decide)]
          refine ⟨by omega, ?_⟩
          by_cases c3 : w0 = Txt.lower w0
          · rw [if_neg (by rw [decide_eq_true c3]; decide)]
            refine ⟨Nat.le_trans w9 (by decide), ?_⟩
            by_cases c4 : 8 < w0.length
            · rw [if_pos (by omega)]
              exact yes (by rw [hn, decide_eq_true c4]; simp)
            · rw [if_neg (by omega)]
              rw [if_neg (by rw [hn, decide_eq_false c1, c2, decide_eq_true c3, decide_eq_false c4]; decide)] at hsc
              exact bad_while (due := false) hsW hsl ⟨_, _, false, rfl, strip st, rfl, fun _ => strip_idem st, fun _ => hsc, Nat.le_trans (strip_len st) hsl, fun b hb => hsW b (strip_sub st b hb)⟩
          · rw [if_pos (by rw [decide_eq_false c3]; decide)]
            exact yes (by rw [hn, decide_eq_false c3]; simp)
    | false =>
      have hsc : (if w0 = ")" ∧ ("(" : Str) ∈ st then scan (ws.drop (i' + 1)) (i' + 1) false (strip st.tail) else if w0 = "and" ∨ w0 = "or" then scan (ws.drop (i' + 1)) (i' + 1) true st else (i' : Int)) = badM ws := hsc
      dsimp! only [aIfS, aPop]
      have stay : ¬ (w0 = "and" ∨ w0 = "or") → ¬ (w0 = ")" ∧ ("(" : Str) ∈ st) → Kc (.pv (.int (i' : Nat))) [.lst (ws.map PV.str)] := fun h1 h2 => by
        rw [if_neg h2, if_neg h1] at hsc
        rw [hsc]
        exact hK
      by_cases c1 : w0 = ")"
      · rw [if_pos c1]
        have n1 : ¬ (w0 = "and" ∨ w0 = "or") := by rw [c1]; decide
        by_cases c2 : ("(" : Str) ∈ st
        · rw [if_pos (List.mem_reverse.mpr c2)]
          rw [if_pos ⟨c1, c2⟩] at hsc
          cases st with
          | nil => cases c2
          | cons b t =>
            refine ⟨t.reverse.map PV.str, .str b, by rw [List.reverse_cons, List.map_append]; rfl, ?_⟩
            rw [List.length_cons] at hsl
            exact bad_while (due := false) (fun b hb => hsW b (List.mem_cons_of_mem _ hb)) (by omega) ⟨_, _, false, rfl, strip t, rfl, fun _ => strip_idem t, fun _ => hsc, by have := strip_len t; omega, fun b hb => hsW b (List.mem_cons_of_mem _ (strip_sub t b hb))⟩
        · rw [if_neg (fun z => c2 (List.mem_reverse.mp z))]
          refine ⟨_, rfl, rfl, ?_⟩
          rw [in2, if_neg (by rw [decide_eq_false n1]; decide)]
          exact stay n1 fun z => c2 z.2
      · rw [if_neg c1]
        refine ⟨_, rfl, rfl, ?_⟩
        rw [in2]
        by_cases c3 : w0 = "and" ∨ w0 = "or"
        · rw [if_pos (decide_eq_true c3)]
          rw [if_neg (fun z => c1 z.1), if_pos c3] at hsc
          exact bad_while (due := true) hsW hsl ⟨_, _, true, rfl, st, rfl, (fun z => by cases z), fun _ => hsc, hsl, hsW⟩
        · rw [if_neg (by rw [decide_eq_false c3]; decide)]
          exact stay c3 fun z => c1 z.1
  · obtain ⟨x4, x5, due, st, rfl, rfl, hs, hsc, hsl, hsW⟩ := hI
    dsimp! only [dats_strs, eqv_list_strs, fNegK]
    refine ⟨shaped_strs fun x hx => k05_ok x (hW x hx), by decide +kernel, ?_⟩
    cases ws with
    | nil => exact hK
    | cons x0 t0 =>
      have hsc := hsc (fun z => by cases z)
      unfold scanAt at hsc
      rw [List.length_map, List.length_range, Int.toNat_natCast, List.length_map, List.drop_length] at hsc
      have hsc : (if due = true ∨ st ≠ [] then ((x0 :: t0).length : Int) else -1) = badM (x0 :: t0) := hsc
      rw [if_pos (by rfl), hl2]
      cases due with
      | true =>
        rw [if_pos (.inl rfl)] at hsc
        rw [hsc]
        exact hK
      | false =>
        cases st with
        | nil =>
          rw [if_neg (by simp)] at hsc
          refine ⟨shaped_strs fun x hx => (nomatch hx), by decide +kernel, ?_⟩
          rw [← hsc] at hK
          exact hK
        | cons b t =>
          rw [if_pos (.inr (by simp))] at hsc
          refine ⟨shaped_strs fun x hx => k05_ok x (hsW x (List.mem_reverse.mp hx)), by decide +kernel, ?_⟩
          rw [if_pos (by rw [List.reverse_cons]; simp), hsc]
          exact hK
end
/-! ### a value that is no part of a thing (not with pushm) -/
section
variable {K : PySem.W.Frag} {m : Bool} {a : aTE} {t : TE}
def aStb (a : aTE) : aTE := fun sa A k => a sa A fun x A1 => x.stable = true ∧ k x A1
theorem sim_stb (ha : SimE K m a t) : SimE K m (aStb a) t := fun {B s sa σ} rp g {Kc Q} q h => ha rp g (fun x v s1 e1 px k => q x v s1 e1 px k.2) h
theorem stb_aStb : Stb (aStb a) := fun sa A k h => by
  have e : (fun (x : AV) (A1 : Sto) => x.stable = true ∧ x.stable = true ∧ k x A1) = fun x A1 => x.stable = true ∧ k x A1 := by
    funext x A1
    exact propext ⟨fun z => z.2, fun z => ⟨z.1, z⟩⟩
  show a sa A fun x A1 => x.stable = true ∧ x.stable = true ∧ k x A1
  rw [e]
  exact h
end
/-! ### the law, walked -/
section
variable {K : PySem.W.Frag} {n0 : Nat} {e a b : aTE} {te ta tb : TE}
def aLPutI (e a b : aTE) : aTS := fun D sa A => e sa A fun z A1 => a sa A1 fun x A2 => b sa A2 fun y A3 => ∃ n p xs i j q, z = .pv q ∧ x = .loc n p ∧ y = .pv (.v (.int i)) ∧ aoAt A3 n p = some (.lst xs) ∧ ixN xs.length i = some j ∧ j < xs.length ∧ D.nx sa (aoSet A3 n p (.lst (xs.set j q)))
theorem sim_lputI (he : SimE K false e te) (ha : SimE K true a ta) (hb : SimE K true b tb) : SimS K n0 (aLPutI e a b) (tAsg te (gSub ta tb rSetL)) := fun {B s Da D} h0 ed {sa σ} rp gg h =>
  he rp gg (fun z vz s1 e1 pz k => ha e1.rep (gg.stp e1) (fun x vx s2 e2 px k => hb e2.rep ((gg.stp e1).stp e2) (fun y vy s3 e3 py k => by
    obtain ⟨n, p, xs, i, j, q, rfl, rfl, rfl, k1, k2, kj, k3⟩ := k
    obtain rfl : vy = .int i := py
    have px3 := px.stp e3
    have pz3 : (rPV K q).P s3.G vz := (rPV K q).mono (e2.le.trans e3.le) pz
    obtain ⟨fp, ⟨d', us, g1, g2, g3, g4⟩, _⟩ := e3.rep.sub px3 k1
    have hl : us.length = xs.length := by rw [← g4.length, rPs_len]
    obtain ⟨φ', r', st⟩ := put1 (u' := .lst (xs.set j q)) (ho := .lst (us.set j vz)) e3.rep px3 k1 g1 (fun fp h => lst_own g1 h) ⟨d', _, g1, rfl, upd_same, al_set pz3 j g4⟩
    exact ⟨d', us, _, j, g1, rfl, g3, by rw [hl]; exact k2, ed.nx _ sa σ r' (e1.grw.trans (e2.grw.trans (e3.grw.trans st.grw))) ((((gg.stp e1).stp e2).stp e3).stp st) k3⟩) k) k) h
end
section
variable {P : Program} {w : World} {K : PySem.W.Frag} {mg : Str → Option Value} {base : Heap} {f : Addr} {fd : FuncData}
theorem moc_next : MoC ac_next := fun avs A k k' w ⟨n, h1, h2, h3, h4, h⟩ => ⟨n, h1, h2, h3, h4, fun r r0 r1 => w _ _ (h r r0 r1)⟩
theorem get_w {α : Type} {R : List α} {o : α} : (R ++ [o])[R.length]? = some o := by rw [List.getElem?_append_right (Nat.le_refl _), Nat.sub_self]; rfl
theorem set_w {α : Type} {R : List α} {o o' : α} : (R ++ [o]).set R.length o' = R ++ [o'] := by rw [List.set_append_right _ _ (Nat.le_refl _), Nat.sub_self]; rfl
theorem ixN_end (n : Nat) : ixN (n + 1) (-1) = some n := by
  unfold ixN
  rw [if_neg (by decide), if_pos (by omega)]
  congr 1
  omega
theorem strs_of {Q : Str → Prop} : ∀ {ys : List PV}, (∀ y ∈ ys, ∃ z, y = .str z ∧ Q z) → ∃ bs : List Str, ys = bs.map PV.str ∧ ∀ b ∈ bs, Q b
  | [], _ => ⟨[], rfl, fun _ h => nomatch h⟩
  | y :: r, h => by
    obtain ⟨z, rfl, hz⟩ := h y List.mem_cons_self
    obtain ⟨bs, rfl, hb⟩ := strs_of fun u hu => h u (List.mem_cons_of_mem _ hu)
    exact ⟨z :: bs, rfl, fun u hu => by
      rcases List.mem_cons.mp hu with rfl | hu
      · exact hz
      · exact hb u hu⟩
theorem sum_k05 : ∀ ws : List Str, (∀ w ∈ ws, w ∈ k05W) → (ws.map fun x => x.length).sum ≤ 9 * ws.length
  | [], _ => Nat.le_refl _
  | y :: t, h => by
    have := sum_k05 t fun z hz => h z (List.mem_cons_of_mem _ hz)
    have := k05_len y (h y List.mem_cons_self)
    rw [List.map_cons, List.sum_cons, List.length_cons]
    omega
theorem un65K {k : Nat} {A : Around} (r : Room k A) : A.units + 65 < cLine := by have := r.un; omega
theorem sc_law : FnScope ["_law_script", "_law_h", "_law_turn", "_law_words", "_law_k", "_law_many"] ["_law_script"] (defScope s_law) := ⟨rfl, rfl, rfl, by decide +kernel, rfl, by decide +kernel, by decide +kernel⟩
theorem fn_law {k km kn ka kr kb : Nat} (h1 : km ≤ k) (h2 : kn ≤ k) (h3 : ka ≤ k) (h4 : kr ≤ k) (h5 : kb ≤ k) (F : FnP K "law" "law" s_law f fd) (T : Top K mg) (c_mix : C8.Cal P w K mg base km "_law_mix" (sp_mix K) []) (c_next : C8.Cal P w K mg base kn "_law_next" sp_next []) (c_alike : C8.Cal P w K mg base ka "_law_alike" (sp_alike K 4) [])
    (c_refused : CalT P w K mg base kr "_law_refused" (spA K ac_rf) []) (c_bad : C8.Cal P w K mg base kb "_law_bad" (spA K ac_bad) []) : FnOk P w K mg base CX0 (k + 1) f fd ["_law_script"] (sp_law K) := by
  refine FnOk.imp (sp := spA K (ac_law K)) (fnA (n0 := 0) F sc_law (fun avs A Kc ⟨ns, e, eA, _⟩ => ⟨by rw [e]; rfl, by rw [eA]; rfl⟩) (fun cdv A outer s H E hr => ⟨_, (pss_consb (psb_set (i := 1) sc_law.nd rfl (Or.inr rfl) (peb_c c_mix hr (by first | decide | omega) rfl (pab_cons (pv 0) (pab_one peb_int)))) (psst_cons (pst_forT PassesOwn.never rfl (PIT.of (pi_range1 rfl T.z_range (pa_cons pe_int pa_nil (star_Constant _ _ _)))) (pg_name (i := 2) sc_law.nd rfl (Or.inl rfl)) (psst_cons (PST.of (ps_set (i := 3) sc_law.nd rfl (Or.inl rfl) (pe_lst pa_nil))) (psst_cons (PST.of (ps_for PassesOwn.never rfl (pi_range1 rfl T.z_range (pa_cons (C8.pe_c c_next hr (by first | decide | omega) rfl (pa_cons (pv 1) (pa_cons pe_int pa_nil (star_Constant _ _ _)) (star_Name _ _)) (he := (star_Name _ _))) pa_nil (star_Call _ _ _ _))) (pg_name (i := 4) sc_law.nd rfl (Or.inl rfl)) (pss_cons (ps_expr (pe_bm PySem.F.plainAttrs_list PySem.F.slot_list_append PySem.F.type_list_append (mt_append) (pv 3) (pa_cons (pe_ix ix_list (pe_lst (pa_cons pe_str (pa_cons pe_str (pa_cons pe_str (pa_cons pe_str (pa_cons pe_str (pa_cons pe_str (pa_cons pe_str (pa_cons pe_str (pa_cons pe_str (pa_cons pe_str (pa_cons pe_str (pa_cons pe_str pa_nil (star_Constant _ _ _)) (star_Constant _ _ _)) (star_Constant _ _ _)) (star_Constant _ _ _)) (star_Constant _ _ _)) (star_Constant _ _ _)) (star_Constant _ _ _)) (star_Constant _ _ _)) (star_Constant _ _ _)) (star_Constant _ _ _)) (star_Constant _ _ _)) (star_Constant _ _ _))) (C8.pe_c c_next hr (by first | decide | omega) rfl (pa_cons (pv 1) (pa_cons pe_int pa_nil (star_Constant _ _ _)) (star_Name _ _)) (he := (star_Name _ _))) (fun _ _ => rfl)) pa_nil (star_Subscript _ _ _)))) (pss_one (ps_if (pt_cmpR op_gt (C8.pe_c c_next hr (by first | decide | omega) rfl (pa_cons (pv 1) (pa_cons pe_int pa_nil (star_Constant _ _ _)) (star_Name _ _)) (he := (star_Name _ _))) pe_int (nomark _)) (pss_one (ps_asg (pe_ix ix_list (pe_lst (pa_cons (pe_ix ix_list (pe_lst (pa_cons pe_str (pa_cons pe_str (pa_cons pe_str pa_nil (star_Constant _ _ _)) (star_Constant _ _ _)) (star_Constant _ _ _))) (C8.pe_c c_next hr (by first | decide | omega) rfl (pa_cons (pv 1) (pa_cons pe_int pa_nil (star_Constant _ _ _)) (star_Name _ _)) (he := (star_Name _ _))) (fun _ _ => rfl)) (pa_cons (pe_ix ix_list (pe_lst (pa_cons pe_str (pa_cons pe_str (pa_cons pe_str pa_nil (star_Constant _ _ _)) (star_Constant _ _ _)) (star_Constant _ _ _))) (C8.pe_c c_next hr (by first | decide | omega) rfl (pa_cons (pv 1) (pa_cons pe_int pa_nil (star_Constant _ _ _)) (star_Name _ _)) (he := (star_Name _ _))) (fun _ _ => rfl)) pa_nil (star_Subscript _ _ _)) (star_Subscript _ _ _))) (pe_op op_mod (pv 4) pe_int) (fun _ _ => rfl)) (pg_sub (pv 3) (pe_un un_neg pe_int) set_list))) pss_nil))))) (psst_cons (pst_if (ptt_not (ptt_val (pet_c (CalT.of c_alike) hr (by first | decide | omega) rfl (pat_cons (pet_c c_refused hr (by first | decide | omega) rfl (@PAT.of _ _ _ (pa_cons (pe_join pe_str (pv 3)) pa_nil (star_Call _ _ _ _))) (he := (star_Call _ _ _ _))) (pat_cons (PET.of (C8.pe_c c_bad hr (by first | decide | omega) rfl (pa_cons (pv 3) pa_nil (star_Name _ _)) (he := (star_Name _ _)))) pat_nil (star_Call _ _ _ _)) (star_Call _ _ _ _)) (he := (star_Call _ _ _ _))))) (PSsT.of (pss_one (ps_ret pe_bl))) (PSsT.of pss_nil)) (psst_cons (PST.of (ps_set (i := 5) sc_law.nd rfl (Or.inl rfl) (pe_op op_add pe_int (C8.pe_c c_next hr (by first | decide | omega) rfl (pa_cons (pv 1) (pa_cons pe_int pa_nil (star_Constant _ _ _)) (star_Name _ _)) (he := (star_Name _ _)))))) (psst_cons (PST.of (ps_set (i := 3) sc_law.nd rfl (Or.inl rfl) (pe_op op_cat (pe_lc (own := [("_law_k", 4)]) rfl sc_law.nd (pi_range1 rfl T.z_range (pa_cons (pv 5) pa_nil (star_Name _ _))) (blkOk_by (own := [("_law_k", 4)]) (N := ["_law_script", "_law_h", "_law_turn", "_law_words", "_law_k", "_law_many"]) (sc := defScope s_law) (by decide +kernel)) (fun _ _ _ _ _ => (pg_name (i := 4) sc_law.nd rfl (Or.inl rfl))) (fun _ _ _ _ _ => pts_nil) (fun _ _ _ _ _ => peT (pe_ix ix_list (pe_lst (pa_cons pe_str (pa_cons pe_str pa_nil (star_Constant _ _ _)) (star_Constant _ _ _))) (C8.pe_c c_next hr (by first | decide | omega) rfl (pa_cons (pv 1) (pa_cons pe_int pa_nil (star_Constant _ _ _)) (star_Name _ _)) (he := (star_Name _ _))) (fun _ _ => rfl)) (by (try dsimp only [Cx.blk, Cx.nox, cxOf]) <;> rfl))) (pe_lst (pa_cons pe_str pa_nil (star_Constant _ _ _)))))) (psst_cons (PST.of (ps_set (i := 3) sc_law.nd rfl (Or.inl rfl) (pe_op op_cat (pv 3) (pe_op op_rep (pe_lst (pa_cons pe_str pa_nil (star_Constant _ _ _))) (pe_bm PySem.F.plainAttrs_list PySem.F.slot_list_count PySem.F.type_list_count ((mt_countD (un65K hr))) (pv 3) (pa_cons pe_str pa_nil (star_Constant _ _ _))))))) (psst1 (pst_if (ptt_not (ptt_val (pet_c (CalT.of c_alike) hr (by first | decide | omega) rfl (pat_cons (pet_c c_refused hr (by first | decide | omega) rfl (@PAT.of _ _ _ (pa_cons (pe_join pe_str (pv 3)) pa_nil (star_Call _ _ _ _))) (he := (star_Call _ _ _ _))) (pat_cons (PET.of (pe_ifExp (pt_cmpR op_gt (pv 5) pe_int (nomark _)) pe_int (pe_un un_neg pe_int))) pat_nil (star_IfExp _ _ _ _)) (star_Call _ _ _ _)) (he := (star_Call _ _ _ _))))) (PSsT.of (pss_one (ps_ret pe_bl))) (PSsT.of pss_nil)))))))))) (PSsT.of (pss_one (ps_ret pe_bl))))),
  (sim_seq (sim_asgN (sim_call0N le_mix (sim_cons sim_var (sim_cons sim_c sim_nil)))) (sim_seq (sim_for (sim_irng sim_c) (sim_gname (vs := [0, 1, 2, 3, 4, 5])) (sim_seq (sim_asgN (sim_lst sim_nil)) (sim_seq (sim_for (sim_irng (sim_callH le_next (sim_cons sim_var (sim_cons sim_c sim_nil)))) (sim_gname (vs := [0, 1, 2, 3, 4, 5])) (sim_seq (sim_drop (sim_appE stb_var sim_var (sim_opE (stb_lst (moa_cons mo_c (moa_cons mo_c (moa_cons mo_c (moa_cons mo_c (moa_cons mo_c (moa_cons mo_c (moa_cons mo_c (moa_cons mo_c (moa_cons mo_c (moa_cons mo_c (moa_cons mo_c (moa_cons mo_c moa_nil))))))))))))) (sim_fz (sim_lst (sim_cons sim_c (sim_cons sim_c (sim_cons sim_c (sim_cons sim_c (sim_cons sim_c (sim_cons sim_c (sim_cons sim_c (sim_cons sim_c (sim_cons sim_c (sim_cons sim_c (sim_cons sim_c (sim_cons sim_c sim_nil)))))))))))))) (sim_callH le_next (sim_cons sim_var (sim_cons sim_c sim_nil))) ops_ixL))) (sim_ifS (sim_test (sim_op (sim_callH le_next (sim_cons sim_var (sim_cons sim_c sim_nil))) sim_c ops_I0)) (sim_lputI (sim_op (sim_fz (sim_lst (sim_consE (stb_op (mo_fzl (moa_cons mo_c (moa_cons mo_c (moa_cons mo_c moa_nil)))) (mo_callH moc_next (moa_cons mo_var (moa_cons mo_c moa_nil))) pvo_ixL) (sim_opE (stb_lst (moa_cons mo_c (moa_cons mo_c (moa_cons mo_c moa_nil)))) (sim_fz (sim_lst (sim_cons sim_c (sim_cons sim_c (sim_cons sim_c sim_nil))))) (sim_callH le_next (sim_cons sim_var (sim_cons sim_c sim_nil))) ops_ixL) (sim_cons (sim_opE (stb_lst (moa_cons mo_c (moa_cons mo_c (moa_cons mo_c moa_nil)))) (sim_fz (sim_lst (sim_cons sim_c (sim_cons sim_c (sim_cons sim_c sim_nil))))) (sim_callH le_next (sim_cons sim_var (sim_cons sim_c sim_nil))) ops_ixL) sim_nil)))) (sim_op sim_var sim_c ops_I) ops_ixL) sim_var (sim_un sim_c uns_negK)) sim_next))) (sim_seq (sim_ifS (sim_not (sim_B (sim_call0 le_alike (sim_consE stb_aStb (sim_stb (sim_call0 (SpLe.refl _) (sim_cons (sim_join sim_c sim_var) sim_nil))) (sim_cons (sim_callH (SpLe.refl _) (sim_cons sim_var sim_nil)) sim_nil))))) (sim_ret sim_c) sim_next) (sim_seq (sim_asg (sim_opE stb_c sim_c (sim_callH le_next (sim_cons sim_var (sim_cons sim_c sim_nil))) ops_I0) (sim_gname (vs := [0, 1, 2, 3, 4, 5]))) (sim_seq (sim_asgN (sim_opN (sim_fz (sim_lc (sim_irng sim_var) ng_name sim_yes (sim_opE (stb_lst (moa_cons mo_c (moa_cons mo_c moa_nil))) (sim_fz (sim_lst (sim_cons sim_c (sim_cons sim_c sim_nil)))) (sim_callH le_next (sim_cons sim_var (sim_cons sim_c sim_nil))) ops_ixL))) (sim_fz (sim_lst (sim_cons sim_c sim_nil))) opn_cat)) (sim_seq (sim_asgN (sim_opN sim_var (sim_fz (sim_opN (sim_fz (sim_lst (sim_cons sim_c sim_nil))) (sim_countL sim_var sim_c) opn_rep)) opn_cat)) (sim_ifS (sim_not (sim_B (sim_call0 le_alike (sim_cons (sim_stb (sim_call0 (SpLe.refl _) (sim_cons (sim_join sim_c sim_var) sim_nil))) (sim_cons (sim_if (sim_test (sim_op sim_var sim_c ops_I0)) sim_c (sim_un sim_c uns_negK)) sim_nil))))) (sim_ret sim_c) sim_next)))))))) (sim_ret sim_c)))⟩) ?_) law_le
  rintro avs A Kc ⟨cells, rfl, rfl, hl, hK⟩
  dsimp! only [ac_mix, aFor]
  refine ⟨cells, 17, ⟨rfl, rfl⟩, by omega, ⟨by decide, by decide⟩, fun _ sa A => ∃ x2 x3 x4 x5 R, sa = [some (.pv (.rel (rLst K (cells.map rInt)))), some (.loc 0 []), x2, x3, x4, x5] ∧ A = oDS :: R, ⟨_, _, _, _, [], rfl, rfl⟩, fun _ _ _ _ => trivial, fun i x sa A hx hI => ?_, fun sa A hI => hK⟩
  obtain ⟨x2, x3, x4, x5, R, rfl, rfl⟩ := hI
  dsimp! only [ac_next, get_w, set_w]
  refine ⟨by decide, by decide, fun r r0 r1 => ⟨⟨by omega, by omega⟩, ?_⟩⟩
  refine ⟨fun j sa A => ∃ x4 ws, sa = [some (.pv (.rel (rLst K (cells.map rInt)))), some (.loc 0 []), some (.pv x), some (.loc (R.length + 1) []), x4, x5] ∧ A = oDS :: (R ++ [.lst ((ws : List Str).map PV.str)]) ∧ ws.length = j ∧ ∀ w ∈ ws, w ∈ k05W, ⟨_, [], rfl, rfl, rfl, fun w hw => (by cases hw)⟩, fun _ _ _ _ => trivial, fun j y sa A hy hI => ?_, fun sa A hI => ?_⟩
  · obtain ⟨x4, ws, rfl, rfl, hj, hW⟩ := hI
    have hj0 : j < r.toNat := by
      have := (List.getElem?_eq_some_iff.mp hy).1
      rw [List.length_map, List.length_range] at this
      exact this
    rw [List.getElem?_map, List.getElem?_range hj0] at hy
    cases hy
    dsimp! only [ac_next, get_w, set_w]
    refine ⟨by decide, by decide, fun q q0 q1 => ?_⟩
    obtain ⟨w1, hw1, e1⟩ := word_at (xs := ["a", "b", "and", "or", "not", "(", ")", "A", "a1", "abcdefghi", "nota", "a"]) q0 q1
    have hw1' : w1 ∈ k05W := by
      revert w1
      intro w1 hw1 _
      revert hw1
      exact (show ∀ w ∈ (["a", "b", "and", "or", "not", "(", ")", "A", "a1", "abcdefghi", "nota", "a"] : List Str), w ∈ k05W by decide) w1
    refine ⟨.str w1, e1, by rw [List.length_map]; omega, by decide, by decide, fun q2 q20 q21 => ?_⟩
    have more : ∀ w2 ∈ k05W, ∀ w ∈ ws ++ [w2], w ∈ k05W := fun w2 h2 w hw => (List.mem_append.mp hw).elim (hW w) fun z => by rw [List.mem_singleton.mp z]; exact h2
    by_cases cq : 0 < q2
    · rw [if_pos cq]
      unfold aLPutI
      dsimp! only [ac_next, get_w, set_w, fNegK]
      refine ⟨by decide, by decide, fun a1 a10 a11 => ?_⟩
      obtain ⟨u1, hu1, e2⟩ := word_at (xs := ["a", "not", "("]) a10 a11
      refine ⟨.str u1, e2, by decide, by decide, fun a2 a20 a21 => ?_⟩
      obtain ⟨u2, hu2, e3⟩ := word_at (xs := ["and", "or", ")"]) a20 a21
      have v1 : u1 ∈ k05W := (show ∀ w ∈ (["a", "not", "("] : List Str), w ∈ k05W by decide) u1 hu1
      have v2 : u2 ∈ k05W := (show ∀ w ∈ (["and", "or", ")"] : List Str), w ∈ k05W by decide) u2 hu2
      obtain ⟨w2, hw2, e4⟩ : ∃ w2 ∈ k05W, atI [PV.str u1, PV.str u2] (((j : Nat) : Int) % 2) = some (PV.str w2) := by
        rcases Nat.mod_two_eq_zero_or_one j with z | z
        · have ez : ((j : Nat) : Int) % 2 = 0 := by omega
          rw [ez]
          exact ⟨u1, v1, atI_zero⟩
        · have ez : ((j : Nat) : Int) % 2 = 1 := by omega
          rw [ez]
          exact ⟨u2, v2, atI_1⟩
      refine ⟨.str u2, e3, by decide, .str w2, e4, _, _, ⟨rfl, rfl⟩, ws.map PV.str ++ [PV.str w1], by rw [List.getElem?_cons_succ, get_w]; rfl, ws.length, by rw [List.length_append, List.length_map]; exact ixN_end _, by rw [List.length_append, List.length_map]; exact Nat.lt_succ_self _, ws ++ [w2], ?_, by rw [List.length_append, hj]; rfl, more w2 hw2⟩
      rw [List.getElem?_cons_succ, get_w]
      show (oDS :: (R ++ [AO.lst (ws.map PV.str ++ [PV.str w1])])).set (R.length + 1) (AO.lst ((ws.map PV.str ++ [PV.str w1]).set ws.length (PV.str w2))) = _
      have es : (ws.map PV.str ++ [PV.str w1]).set ws.length (PV.str w2) = (ws ++ [w2]).map PV.str := by
        have := set_w (R := ws.map PV.str) (o := PV.str w1) (o' := PV.str w2)
        rw [List.length_map] at this
        rw [this, List.map_append]
        rfl
      rw [List.set_cons_succ, set_w, es]
    · rw [if_neg cq]
      exact ⟨ws ++ [w1], by rw [List.map_append]; rfl, by rw [List.length_append, hj]; rfl, more w1 hw1'⟩
  · obtain ⟨x4, ws, rfl, rfl, hj, hW⟩ := hI
    have hn : ws.length ≤ 11 := by
      rw [hj, List.length_map, List.length_range]
      omega
    obtain ⟨f1, f2, f3, f4⟩ := rf_k05 hW (by omega)
    have f5 := sum_k05 ws hW
    have l1 : (" " : Str).length = 1 := by decide
    dsimp! only [aStb, get_w, set_w]
    refine ⟨by rw [l1]; omega, _, rfl, rfl, f1, f2, f3, rfl, ws, rfl, rfl, hW, by omega, ?_⟩
    rw [f4]
    refine ⟨.int (badM ws), rfl, rfl, trivial, ?_⟩
    dsimp! only []
    refine ⟨by decide, by decide, fun r5 r50 r51 => ?_⟩
    refine alc_someQ (fun xs => xs.length = (18 + r5).toNat) (fun p => ∃ z, p = .str z ∧ (z = "(" ∨ z = "not")) (fun kk h => ?_) (fun xs hxs y hy N hN => ?_) (fun xs h => by omega) (fun xs hxs ys ly hy => ?_)
    · dsimp! only []
      exact ⟨⟨by omega, by omega⟩, h _ (by rw [List.length_map, List.length_range])⟩
    · dsimp! only [ac_next, get_w, set_w]
      refine ⟨by decide, by decide, fun q q0 q1 => ?_⟩
      obtain ⟨u, hu, e⟩ := word_at (xs := ["(", "not"]) q0 q1
      exact ⟨.str u, e, hN _ ⟨u, rfl, by simpa using hu⟩⟩
    · obtain ⟨bs, rfl, hb⟩ := strs_of hy
      rw [List.length_map, hxs] at ly
      dsimp! only [aCountL, get_w, set_w, dats_strs, fNegK]
      have hbW : ∀ x ∈ bs, x ∈ k05W := fun x hx => by
        rcases hb x hx with rfl | rfl <;> decide
      have hW2 : ∀ x ∈ bs ++ [("a" : Str)], x ∈ k05W := fun x hx => (List.mem_append.mp hx).elim (hbW x) fun z => by rw [List.mem_singleton.mp z]; decide
      have ea : bs.map PV.str ++ [PV.str "a"] = (bs ++ [("a" : Str)]).map PV.str := by rw [List.map_append]; rfl
      generalize ecn : (bs ++ [("a" : Str)]).count ("(" : Str) = cn
      have ecp : ((bs ++ [("a" : Str)]).map PyData.str).countP (fun z => z.eqv (PyData.str ("(" : Str))) = cn := by
        rw [List.countP_map, ← ecn]
        rfl
      have cnl : cn ≤ bs.length + 1 := by
        rw [← ecn]
        refine Nat.le_trans List.count_le_length ?_
        rw [List.length_append]
        exact Nat.le_refl _
      have eW : bs.map PV.str ++ [PV.str "a"] ++ (List.replicate cn [PV.str (")" : Str)]).flatten = ((bs ++ [("a" : Str)]) ++ List.replicate cn (")" : Str)).map PV.str := by
        rw [ea, List.flatten_replicate_singleton, List.map_append (l₁ := bs ++ [("a" : Str)]), List.map_replicate]
      have hW3 : ∀ x ∈ (bs ++ [("a" : Str)]) ++ List.replicate cn (")" : Str), x ∈ k05W := fun x hx => (List.mem_append.mp hx).elim (hW2 x) fun z => by rw [(List.mem_replicate.mp z).2]; decide
      have lW : ((bs ++ [("a" : Str)]) ++ List.replicate cn (")" : Str)).length = bs.length + 1 + cn := by
        rw [List.length_append, List.length_append, List.length_replicate]
        rfl
      have hbl : bs.length ≤ 22 := by omega
      obtain ⟨g1, g2, g3, g4⟩ := rf_k05 hW3 (by rw [lW]; omega)
      have g5 := sum_k05 _ hW3
      rw [lW] at g5
      have g6 : badM ((bs ++ [("a" : Str)]) ++ List.replicate cn (")" : Str)) = if 20 < bs.length then 20 else -1 := by
        rw [← ecn]
        exact bad_many hb (by omega)
      refine ⟨by rw [List.length_map]; omega, ⟨_, rfl⟩, (bs ++ [("a" : Str)]).map PyData.str, by rw [ea, dats_strs]; rfl, shaped_strs fun x hx => k05_ok x (hW2 x hx), by decide +kernel, ?_⟩
      rw [ecp, Int.toNat_natCast, eW]
      refine ⟨by omega, by omega, by omega, ?_, (bs ++ [("a" : Str)]) ++ List.replicate cn (")" : Str), pstrs_s _, by rw [lW, l1]; omega, _, rfl, rfl, g1, g2, g3, rfl, ?_⟩
      · rw [List.flatten_replicate_singleton, List.length_append, List.length_map, List.length_replicate]
        show bs.length + 1 + cn ≤ _
        omega
      rw [g4, g6]
      by_cases c : (20 : Int) < 18 + r5
      · rw [if_pos c, if_pos (by omega)]
        refine ⟨.int 20, rfl, rfl, trivial, ?_⟩
        dsimp! only []
        exact ⟨_, _, _, _, ⟨rfl, rfl, rfl, rfl⟩, _, rfl⟩
      · rw [if_neg c, if_neg (by omega)]
        refine ⟨.int (-1), rfl, rfl, trivial, ?_⟩
        dsimp! only []
        exact ⟨_, _, _, _, ⟨rfl, rfl, rfl, rfl⟩, _, rfl⟩
end
/-! ### the recursive defs, level by level -/
section
variable {P : Program} {w : World} {K : PySem.W.Frag} {mg : Str → Option Value} {base : Heap} {f : Addr} {fd : FuncData} {C : Addr}
theorem chosen_binds (F : FunD K "chosen" "chosen" (defArgs s_chosen) (defBody s_chosen) (defScope s_chosen) [.str ""] [] f fd) : Binds K fd ["rows", "only"] [] := by
  obtain ⟨ds, hd, b⟩ := F.binds1 (ps := ["rows", "only"]) 2 1 (List.cons_ne_nil _ _) rfl fun T kV doc pm an cdv ct us its hu hi => match us, its, hu, hi with
    | [_, _], [_], _, _ => ⟨_, rfl, rfl⟩
  cases hd
  exact b

end
/-! ### the defs of the law, level by level -/
section
open HotX L2H
variable {P : Program} {w : World} {K : PySem.W.Frag} {mg : Str → Option Value} {base : Heap} {f fa fo : Addr} {fd fda fdo : FuncData} {CT C : Addr}
def axNo : ACX := fun _ _ _ _ => False
theorem fnT_noX {CX : CXT} {k : Nat} {ps : List Str} : FnT P w K mg base CX k f fd ps (spX K axNo) := ⟨fun vs H Q E ⟨_, _, _, _, _, _, _, h, _⟩ => h.elim, fun A outer s H args us vs Q E _ _ _ _ _ ⟨_, _, _, _, _, _, _, h, _⟩ => h.elim⟩
theorem fnH_noX {CX : CXT} {k : Nat} {ps : List Str} : FnHT P w K mg base CX k f fd ps (spX K axNo) := ⟨fun vs H Q E ⟨_, _, _, _, _, _, _, h, _⟩ => h.elim, fun A outer s H args us vs Q E p _ _ _ _ _ _ _ ⟨_, _, _, _, _, _, _, h, _⟩ => h.elim⟩
theorem fn_readN (F : FnP K "read_not" "Chooser.read_not" s_Chooser_read_not f fd) (Fa : FnP K "read_and" "Chooser.read_and" s_Chooser_read_and fa fda) (Fo : FnP K "read_or" "Chooser.read_or" s_Chooser_read_or fo fdo) (B : TopChs K mg C)
    (c_is_name : C8.Cal P w K mg base 1 "is_name" (spA K ac_is_name) []) (h_is_name : CalH P w K mg base CX0 1 "is_name" (spA K ac_is_name) []) (c_here : C8.Met P w K mg base 1 C "here" (spA K (ac_hereN C)) []) (h_here : MetH P w K mg base CX0 1 C "here" (spA K (ac_hereN C)) [])
    (c_refuse : MetC P w K mg base (L2N.CX P w) 3 C "refuse" (spX K (ac_refN CT C)) []) (h_refuse : MetH P w K mg base (L2.CX P w) 3 C "refuse" (spX K (ac_refN CT C)) [])
    (Wn : ∀ k sp, FnT P w K mg base (L2N.CX P w) k f fd ["self"] sp → MetC P w K mg base (L2N.CX P w) k C "read_not" sp []) (Hn : ∀ k sp, FnHT P w K mg base (L2.CX P w) k f fd ["self"] sp → MetH P w K mg base (L2.CX P w) k C "read_not" sp [])
    (Wa : ∀ k sp, FnT P w K mg base (L2N.CX P w) k fa fda ["self"] sp → MetC P w K mg base (L2N.CX P w) k C "read_and" sp []) (Ha : ∀ k sp, FnHT P w K mg base (L2.CX P w) k fa fda ["self"] sp → MetH P w K mg base (L2.CX P w) k C "read_and" sp [])
    (Wo : ∀ k sp, FnT P w K mg base (L2N.CX P w) k fo fdo ["self"] sp → MetC P w K mg base (L2N.CX P w) k C "read_or" sp []) (Ho : ∀ k sp, FnHT P w K mg base (L2.CX P w) k fo fdo ["self"] sp → MetH P w K mg base (L2.CX P w) k C "read_or" sp []) :
    ∀ n, (FnT P w K mg base (L2N.CX P w) (3 * n + 4) f fd ["self"] (spX K (ac_xr CT C (fun ws => xNot ws n) n)) ∧ FnHT P w K mg base (L2.CX P w) (3 * n + 4) f fd ["self"] (spX K (ac_xr CT C (fun ws => xNot ws n) n))) ∧
      (FnT P w K mg base (L2N.CX P w) (3 * n + 6) fo fdo ["self"] (spX K (ac_xr CT C (fun ws => xOr ws n) n)) ∧ FnHT P w K mg base (L2.CX P w) (3 * n + 6) fo fdo ["self"] (spX K (ac_xr CT C (fun ws => xOr ws n) n))) := by
  have step : ∀ n, (FnT P w K mg base (L2N.CX P w) (3 * n + 4) f fd ["self"] (spX K (ac_xr CT C (fun ws => xNot ws n) n)) ∧ FnHT P w K mg base (L2.CX P w) (3 * n + 4) f fd ["self"] (spX K (ac_xr CT C (fun ws => xNot ws n) n))) →
      (FnT P w K mg base (L2N.CX P w) (3 * n + 6) fo fdo ["self"] (spX K (ac_xr CT C (fun ws => xOr ws n) n)) ∧ FnHT P w K mg base (L2.CX P w) (3 * n + 6) fo fdo ["self"] (spX K (ac_xr CT C (fun ws => xOr ws n) n))) := fun n h => by
    have ha := fn_andN (k := 3 * n + 4) (k1 := 3 * n + 4) (fn := fun ws => xNot ws n) (by omega) (Nat.le_refl _) (fun ws => on_not n) Fa B c_here h_here (Wn _ _ h.1) (Hn _ _ h.2)
    exact fn_orN (k := 3 * n + 5) (k1 := 3 * n + 5) (fn := fun ws => xAnd ws n) (by omega) (Nat.le_refl _) (fun ws => on_join (on_not n)) Fo B c_here h_here (Wa _ _ ha.1) (Ha _ _ ha.2)
  intro n
  induction n with
  | zero =>
    have h := fn_notN (n := 0) (k := 3) (kO := 0) (kN := 0) (CT := CT) (acO := axNo) (acN := axNo) (Nat.le_refl 3) (Nat.zero_le _) (Nat.zero_le _) F B c_is_name h_is_name c_here h_here c_refuse h_refuse (Wo 0 _ fnT_noX) (Ho 0 _ fnH_noX) (Wn 0 _ fnT_noX) (Hn 0 _ fnH_noX) fun n' e => absurd e (by omega)
    exact ⟨h, step 0 h⟩
  | succ n ih =>
    have h := fn_notN (n := n + 1) (k := 3 * n + 6) (kO := 3 * n + 6) (kN := 3 * n + 4) (by omega) (Nat.le_refl _) (by omega) F B c_is_name h_is_name c_here h_here c_refuse h_refuse (Wo _ _ ih.2.1) (Ho _ _ ih.2.2) (Wn _ _ ih.1.1) (Hn _ _ ih.1.2) fun n' e => by
      obtain rfl : n = n' := by omega
      exact ⟨rfl, rfl⟩
    exact ⟨h, step (n + 1) h⟩
end
section
variable {K : PySem.W.Frag} {f : Addr} {fd : FuncData}
theorem bt_kb (F : FunD K "__init__" "BadText.__init__" (defArgs s_BadText___init__) (defBody s_BadText___init__) (defScope s_BadText___init__) [] [] f fd) : ∃ g, KBn K fd ["self", "place"] 1 ["place"] g gOne := by
  obtain ⟨oc, od, dV, kV, doc, pm, an, cdv, ct, osl, rfl, lk, hcd, hD, hK⟩ := F.ex
  rcases hD with ⟨_, rfl⟩ | ⟨e, _⟩
  · refine ⟨fun us ws => us ++ ([] ++ ws), ⟨fun s us ws _ hu hw => ?_, fun r1 r2 => r1.append (Vals.append .nil r2)⟩⟩
    match us, ws, hu, hw with
    | [_], [_], _, _ => exact .of_eq rfl
  · exact absurd rfl e
end
theorem kd_ok {K : PySem.W.Frag} {D : Addr} {j : Nat} (h : kdB K D j = true) : KindIs K D j := by
  unfold kdB at h
  simp only [Bool.and_eq_true, decide_eq_true_eq] at h
  obtain ⟨a1, a2, a3, a4, a5, a6, a7, a8, b1, b2, b3, b4⟩ := h
  refine ⟨⟨a1, a2, a3, a4, a5, a6, a7, a8⟩, b1, fun i x e => ?_, b3, b4⟩
  have hi : i < 7 := (List.getElem?_eq_some_iff.mp e).1
  have := of_decide_eq_true (List.all_eq_true.mp b2 i (List.mem_range.mpr hi))
  rw [List.getD_eq_getElem?_getD, e] at this
  exact this
theorem code_of {K : PySem.W.Frag} {x q : Str} {ar : Arguments} {bd : List Stmt} {sc : Scope} {dvs : List V} {kws : List (Str × V)} {p : Str × Option Str} {fd : FuncData} (F : FunD K x q ar bd sc dvs kws (He.fAd K p) fd) : fd.code = .ref (He.codeOf K p) := by
  obtain ⟨_, _, _, _, _, _, _, cdv, _, _, rfl, lk, hcd, _, _⟩ := F.ex
  obtain ⟨c, rfl⟩ := He.codeIn_ref hcd
  rw [He.codeOf_eq lk rfl]
open LamX in
def nmL : Nat → Nat → Str := fun l c => if l = (lamPos rfL).line ∧ c = (lamPos rfL).col then rfQ else ""
open LamX in
theorem nm_rf : nmL (lamPos rfL).line (lamPos rfL).col = rfQ := by decide +kernel
end TH
namespace TH
open PySem PySem.Spec PyProof.Rows L2
/-! ### the head -/
theorem bareT_ok {K : PySem.W.Frag} {x : Str} (h : bareT K x = true) : ∃ o, K.lookup (He.ga K x) = some o ∧ o.cls = .type "tuple" ∧ o.dict = none := by
  unfold bareT at h
  cases e : K.lookup (He.ga K x) with
  | none => rw [e] at h; cases h
  | some o =>
    obtain ⟨oc, od, dt, sl⟩ := o
    rw [e] at h
    cases oc with
    | type c =>
      cases od with
      | none =>
        have h : c = "tuple" := of_decide_eq_true h
        exact ⟨_, rfl, by rw [h], rfl⟩
      | some d => cases h
    | _ => cases h
def csK (K : PySem.W.Frag) : List (Addr × Addr) := tfL.map (He.cT K)
abbrev TCK (K : PySem.W.Frag) : TabC := ⟨(csK K).map (·.2), nmL⟩
theorem facts {P : Program} {w : World} {K : PySem.W.Frag} {h : Heap} {mg : Str → Option Value} {f : Addr} (X : K.In h) (G : h.Ns mainGlobals mg) (hfa : mg ("law" : Str) = some (.ref f)) (c : He.SaysD faL fnL K) (hx : exB K = true) :
    ∃ fd : FuncData, (∀ (s : Shared) (v : Value), BindsTo s fd ⟨[v], []⟩ [("_law_script", v)]) ∧ ∀ base : Heap, K.In base → base.Ns mainGlobals mg → (∀ p ∈ csK K, LamX.TabB base mg p.1 p.2) → FnOk P w K mg base CX0 73 f fd ["_law_script"] (@sp_law (TCK K) K) := by
  letI TC : TabC := TCK K
  have hx := hx
  simp only [exB, Bool.and_eq_true] at hx
  obtain ⟨⟨⟨⟨⟨⟨⟨x0, x1⟩, x2⟩, x3⟩, x4⟩, x5⟩, x6⟩, x7⟩ := hx
  have T : Top K mg := {
    z_len := He.free_ok X G (c.fact 0 (f := .free "len") rfl)
    z_all := He.free_ok X G (c.fact 1 (f := .free "all") rfl)
    z_any := He.free_ok X G (c.fact 2 (f := .free "any") rfl)
    z_set := He.free_ok X G (c.fact 3 (f := .free "set") rfl)
    z_list := He.free_ok X G (c.fact 4 (f := .free "list") rfl)
    z_tuple := He.free_ok X G (c.fact 5 (f := .free "tuple") rfl)
    z_dict := He.free_ok X G (c.fact 6 (f := .free "dict") rfl)
    z_int := He.free_ok X G (c.fact 7 (f := .free "int") rfl)
    z_str := He.free_ok X G (c.fact 8 (f := .free "str") rfl)
    z_max := He.free_ok X G (c.fact 9 (f := .free "max") rfl)
    z_min := He.free_ok X G (c.fact 10 (f := .free "min") rfl)
    z_range := He.free_ok X G (c.fact 11 (f := .free "range") rfl)
    z_enumerate := He.free_ok X G (c.fact 12 (f := .free "enumerate") rfl)
    z_isinstance := He.free_ok X G (c.fact 13 (f := .free "isinstance") rfl)
    z_sorted := He.free_ok X G (c.fact 14 (f := .free "sorted") rfl)
    z_bool := He.free_ok X G (c.fact 15 (f := .free "bool") rfl)
    c_MOST_SIGNS := by obtain ⟨t, e⟩ := He.int_ok X G (c.fact 16 (f := .int "MOST_SIGNS" 8) rfl); exact ⟨_, e, t, rfl⟩
    c_MOST_NEEDS := by obtain ⟨t, e⟩ := He.int_ok X G (c.fact 17 (f := .int "MOST_NEEDS" 12) rfl); exact ⟨_, e, t, rfl⟩
    c_MOST_TRIES := by obtain ⟨t, e⟩ := He.int_ok X G (c.fact 18 (f := .int "MOST_TRIES" 30) rfl); exact ⟨_, e, t, rfl⟩
    c_MOST_WAYS := by obtain ⟨t, e⟩ := He.int_ok X G (c.fact 19 (f := .int "MOST_WAYS" 4) rfl); exact ⟨_, e, t, rfl⟩
    c_MOST_TIMES := by obtain ⟨t, e⟩ := He.int_ok X G (c.fact 20 (f := .int "MOST_TIMES" 4) rfl); exact ⟨_, e, t, rfl⟩
    c_MOST_CASES := by obtain ⟨t, e⟩ := He.int_ok X G (c.fact 21 (f := .int "MOST_CASES" 64) rfl); exact ⟨_, e, t, rfl⟩
    c_LETTERS := by obtain ⟨t, e⟩ := He.str_ok X G (c.fact 22 (f := .str "LETTERS" "abcdefghijklmnopqrstuvwxyz") rfl); exact ⟨_, e, t, rfl⟩
    c_WORDS := ⟨_, He.glo_ok X G (c.fact 23 (f := .glo "WORDS") rfl), rfl⟩
    t_WORDS := He.tupB_ok x0
    c_SCOPES := ⟨_, He.glo_ok X G (c.fact 24 (f := .glo "SCOPES") rfl), rfl⟩
    t_SCOPES := He.tupB_ok x1
    y_SCOPES := fun _ => .inr (.inl ⟨rfl, bareT_ok x3⟩) }
  obtain ⟨fd0, F0⟩ := c.def_ 0 (d := _) rfl
  obtain ⟨fd1, F1⟩ := c.def_ 1 (d := _) rfl
  obtain ⟨fd2, F2⟩ := c.def_ 2 (d := _) rfl
  obtain ⟨fd3, F3⟩ := c.def_ 3 (d := _) rfl
  obtain ⟨fd4, F4⟩ := c.def_ 4 (d := _) rfl
  obtain ⟨fd5, F5⟩ := c.def_ 5 (d := _) rfl
  obtain ⟨fd6, F6⟩ := c.def_ 6 (d := _) rfl
  obtain ⟨fd7, F7⟩ := c.def_ 7 (d := _) rfl
  obtain ⟨fd8, F8⟩ := c.def_ 8 (d := _) rfl
  obtain ⟨fd9, F9⟩ := c.def_ 9 (d := _) rfl
  obtain ⟨fd10, F10⟩ := c.def_ 10 (d := _) rfl
  obtain ⟨fd11, F11⟩ := c.def_ 11 (d := _) rfl
  obtain ⟨fd12, F12⟩ := c.def_ 12 (d := _) rfl
  obtain ⟨fd13, F13⟩ := c.def_ 13 (d := _) rfl
  obtain ⟨fd14, F14⟩ := c.def_ 14 (d := _) rfl
  obtain ⟨fd15, F15⟩ := c.def_ 15 (d := _) rfl
  obtain ⟨fd16, F16⟩ := c.def_ 16 (d := _) rfl
  obtain ⟨fd17, F17⟩ := c.def_ 17 (d := _) rfl
  obtain ⟨fd18, F18⟩ := c.def_ 18 (d := _) rfl
  obtain ⟨fd19, F19⟩ := c.def_ 19 (d := _) rfl
  have B : TopBook K mg (He.ga K "Book") := ⟨He.cls_ok (c.fact 42 (f := .cls "Book") rfl), He.noat_ok (c.fact 43 (f := .noat "Book" "needs") rfl), He.noat_ok (c.fact 44 (f := .noat "Book" "tries") rfl)⟩
  have BC : TopChs K mg (He.ga K "Chooser") := ⟨He.cls_ok (c.fact 51 (f := .cls "Chooser") rfl), He.noat_ok (c.fact 52 (f := .noat "Chooser" "words") rfl), He.noat_ok (c.fact 53 (f := .noat "Chooser" "at") rfl), He.noat_ok (c.fact 54 (f := .noat "Chooser" "deep") rfl), (by obtain ⟨t, e⟩ := He.str_ok X G (c.fact 37 (f := .str "OR" "or") rfl); exact ⟨_, e, t, rfl⟩), (by obtain ⟨t, e⟩ := He.str_ok X G (c.fact 38 (f := .str "AND" "and") rfl); exact ⟨_, e, t, rfl⟩), (by obtain ⟨t, e⟩ := He.str_ok X G (c.fact 39 (f := .str "NOT" "not") rfl); exact ⟨_, e, t, rfl⟩), (by obtain ⟨t, e⟩ := He.int_ok X G (c.fact 25 (f := .int "MOST_WITHIN" 20) rfl); exact ⟨_, e, t, rfl⟩)⟩
  have hTE := He.glo_ok X G (c.fact 26 (f := .glo "TryError") rfl)
  have KT := kd_ok x6
  have XT := L2.xfB_ok x7
  have N : TopKd K mg := ⟨He.glo_ok X G (c.fact 26 (f := .glo "TryError") rfl), He.glo_ok X G (c.fact 27 (f := .glo "Fail") rfl), He.glo_ok X G (c.fact 28 (f := .glo "Skip") rfl), He.glo_ok X G (c.fact 29 (f := .glo "BadBook") rfl), He.glo_ok X G (c.fact 30 (f := .glo "BadText") rfl), He.glo_ok X G (c.fact 31 (f := .glo "BadMany") rfl), He.glo_ok X G (c.fact 32 (f := .glo "NoWork") rfl), He.glo_ok X G (c.fact 33 (f := .glo "Busy") rfl), He.free_ok X G (c.fact 35 (f := .free "ValueError") rfl)⟩
  have e := hfa.symm.trans (He.glo_ok X G (c.fact 68 (f := .glo "law") rfl))
  cases e
  have b := FunD.bindsA (ps := ["_law_script"]) F19 fun _ _ _ _ _ _ us hl => match us, hl with | [_], _ => rfl
  refine ⟨fd19, fun s v => b s [v] rfl, fun base _ _ hTab => ?_⟩
  have c_isN : C8.Cal P w K mg base 1 "is_name" (spA K ac_is_name) [] := ⟨_, fd0, ["word"], [], FnOk.imp (fn_is_name F0 T) le_is_name, (He.glo_ok X G (c.fact 40 (f := .glo "is_name") rfl)), F0.kp, (F0.bindsN fun _ _ _ _ _ _ us hl => match us, hl with | [_], _ => rfl), .nil⟩
  have h_isN : CalH P w K mg base CX0 1 "is_name" (spA K ac_is_name) [] := ⟨_, fd0, ["word"], [], fn_is_nameH F0 T, (He.glo_ok X G (c.fact 40 (f := .glo "is_name") rfl)), F0.kp, (F0.bindsN fun _ _ _ _ _ _ us hl => match us, hl with | [_], _ => rfl), .nil⟩
  have bk := fn_bk0 (P := P) (w := w) (base := base) F1 T B
  have c_Book : C8.Mak P w K mg base 4 "Book" (He.ga K "Book") (spA K (ac_bk0 (He.ga K "Book"))) [] := ⟨_, fd1, ["self", "rows"], [], (He.mkr_ok (c.fact 45 (f := .mkr "Book") rfl)), bk.1, (He.glo_ok X G (c.fact 41 (f := .glo "Book") rfl)), (F1.bindsN fun _ _ _ _ _ _ us hl => match us, hl with | [_, _], _ => rfl), .nil⟩
  have h_Book : MakH P w K mg base CX0 4 "Book" (He.ga K "Book") (spA K (ac_bk0 (He.ga K "Book"))) [] := ⟨_, fd1, ["self", "rows"], [], (He.mkr_ok (c.fact 45 (f := .mkr "Book") rfl)), bk.2, (He.glo_ok X G (c.fact 41 (f := .glo "Book") rfl)), (F1.bindsN fun _ _ _ _ _ _ us hl => match us, hl with | [_, _], _ => rfl), .nil⟩
  have c_next : C8.Cal P w K mg base 1 "_law_next" sp_next [] := ⟨_, fd2, _, [], fn_law_next F2 T, He.glo_ok X G (c.fact 46 (f := .glo "_law_next") rfl), F2.kp, (F2.bindsN fun _ _ _ _ _ _ us hl => match us, hl with | [_, _], _ => rfl), .nil⟩
  have c_mix : C8.Cal P w K mg base 1 "_law_mix" (sp_mix K) [] := ⟨_, fd3, _, [], fn_law_mix F3 T, He.glo_ok X G (c.fact 47 (f := .glo "_law_mix") rfl), F3.kp, (F3.bindsN fun _ _ _ _ _ _ us hl => match us, hl with | [_, _], _ => rfl), .nil⟩
  have c_alike := fun k => (show ∀ k, C8.Cal P w K mg base k "_law_alike" (sp_alike K k) [] from fun k => ⟨_, fd4, ["_law_found", "_law_due"], [], fn_law_alike rfl F4 T (fun k sp o => ⟨_, fd4, ["_law_found", "_law_due"], [], o, He.glo_ok X G (c.fact 48 (f := .glo "_law_alike") rfl), F4.kp, (F4.bindsN fun _ _ _ _ _ _ us hl => match us, hl with | [_, _], _ => rfl), .nil⟩) k, He.glo_ok X G (c.fact 48 (f := .glo "_law_alike") rfl), F4.kp, (F4.bindsN fun _ _ _ _ _ _ us hl => match us, hl with | [_, _], _ => rfl), .nil⟩) k
  have c_words : CalT P w K mg base 1 "words_of" sp_words [] := ⟨_, fd5, _, [], fnT_words_of F5, (He.glo_ok X G (c.fact 49 (f := .glo "words_of") rfl)), F5.kp, (F5.bindsN fun _ _ _ _ _ _ us hl => match us, hl with | [_], _ => rfl), .nil⟩
  have h_words : CalH P w K mg base CX0 1 "words_of" sp_words [] := ⟨_, fd5, ["text"], [], fn_words_ofH F5, (He.glo_ok X G (c.fact 49 (f := .glo "words_of") rfl)), F5.kp, (F5.bindsN fun _ _ _ _ _ _ us hl => match us, hl with | [_], _ => rfl), .nil⟩
  have c_Chooser : MakT P w K mg base 2 "Chooser" (He.ga K "Chooser") (spA K (ac_chinit (He.ga K "Chooser"))) [] := ⟨_, fd6, _, [], (He.mkr_ok (c.fact 55 (f := .mkr "Chooser") rfl)), fn_chinit F6 T BC c_words, (He.glo_ok X G (c.fact 50 (f := .glo "Chooser") rfl)), (F6.bindsN fun _ _ _ _ _ _ us hl => match us, hl with | [_, _], _ => rfl), .nil⟩
  have h_Chooser : MakH P w K mg base CX0 2 "Chooser" (He.ga K "Chooser") (spA K (ac_chinit (He.ga K "Chooser"))) [] := ⟨_, fd6, ["self", "text"], [], (He.mkr_ok (c.fact 55 (f := .mkr "Chooser") rfl)), fn_chinitH F6 T BC h_words, (He.glo_ok X G (c.fact 50 (f := .glo "Chooser") rfl)), (F6.bindsN fun _ _ _ _ _ _ us hl => match us, hl with | [_, _], _ => rfl), .nil⟩
  have hn := fn_hereN (P := P) (w := w) (base := base) F7 T BC
  have c_here : C8.Met P w K mg base 1 (He.ga K "Chooser") "here" (spA K (ac_hereN (He.ga K "Chooser"))) [] := ⟨_, fd7, ["self"], [], (He.cls_ok (c.fact 51 (f := .cls "Chooser") rfl)), (He.meth_ok (c.fact 56 (f := .meth "Chooser" "here") rfl)), hn.1, (F7.bindsN fun _ _ _ _ _ _ us hl => match us, hl with | [_], _ => rfl), .nil⟩
  have h_here : MetH P w K mg base CX0 1 (He.ga K "Chooser") "here" (spA K (ac_hereN (He.ga K "Chooser"))) [] := ⟨_, fd7, ["self"], [], (He.cls_ok (c.fact 51 (f := .cls "Chooser") rfl)), (He.meth_ok (c.fact 56 (f := .meth "Chooser" "here") rfl)), hn.2, (F7.bindsN fun _ _ _ _ _ _ us hl => match us, hl with | [_], _ => rfl), .nil⟩
  obtain ⟨gBT, kbBT⟩ := bt_kb F8
  have bt := fn_badtextN (P := P) (w := w) (base := base) F8 hTE (above_ok x4)
  have EText : ExcN1 P w K mg base "BadText" (He.ga K "BadText") "place" := ⟨(He.glo_ok X G (c.fact 30 (f := .glo "BadText") rfl)), oex_ok x5, He.noat_ok (c.fact 34 (f := .noat "BadText" "place") rfl), _, fd8, gBT, (He.meth_ok (c.fact 57 (f := .meth "BadText" "__init__") rfl)).at_, beq_iff_eq.mp (He.meth_ok (c.fact 57 (f := .meth "BadText" "__init__") rfl)).fn, bt.1, bt.2, kbBT⟩
  have rf := fn_refN F9 BC EText
  have c_refuse : MetC P w K mg base (L2N.CX P w) 3 (He.ga K "Chooser") "refuse" (spX K (ac_refN (He.ga K "BadText") (He.ga K "Chooser"))) [] := ⟨_, fd9, ["self"], [], (He.cls_ok (c.fact 51 (f := .cls "Chooser") rfl)), (He.meth_ok (c.fact 58 (f := .meth "Chooser" "refuse") rfl)), rf.1, (F9.bindsN fun _ _ _ _ _ _ us hl => match us, hl with | [_], _ => rfl), .nil⟩
  have h_refuse : MetH P w K mg base (L2.CX P w) 3 (He.ga K "Chooser") "refuse" (spX K (ac_refN (He.ga K "BadText") (He.ga K "Chooser"))) [] := ⟨_, fd9, ["self"], [], (He.cls_ok (c.fact 51 (f := .cls "Chooser") rfl)), (He.meth_ok (c.fact 58 (f := .meth "Chooser" "refuse") rfl)), rf.2, (F9.bindsN fun _ _ _ _ _ _ us hl => match us, hl with | [_], _ => rfl), .nil⟩
  have Wn : ∀ k sp, FnT P w K mg base (L2N.CX P w) k _ fd10 ["self"] sp → MetC P w K mg base (L2N.CX P w) k (He.ga K "Chooser") "read_not" sp [] := fun k sp o => ⟨_, fd10, ["self"], [], (He.cls_ok (c.fact 51 (f := .cls "Chooser") rfl)), (He.meth_ok (c.fact 59 (f := .meth "Chooser" "read_not") rfl)), o, (F10.bindsN fun _ _ _ _ _ _ us hl => match us, hl with | [_], _ => rfl), .nil⟩
  have Hn : ∀ k sp, FnHT P w K mg base (L2.CX P w) k _ fd10 ["self"] sp → MetH P w K mg base (L2.CX P w) k (He.ga K "Chooser") "read_not" sp [] := fun k sp o => ⟨_, fd10, ["self"], [], (He.cls_ok (c.fact 51 (f := .cls "Chooser") rfl)), (He.meth_ok (c.fact 59 (f := .meth "Chooser" "read_not") rfl)), o, (F10.bindsN fun _ _ _ _ _ _ us hl => match us, hl with | [_], _ => rfl), .nil⟩
  have Fn := F10
  have Wa : ∀ k sp, FnT P w K mg base (L2N.CX P w) k _ fd11 ["self"] sp → MetC P w K mg base (L2N.CX P w) k (He.ga K "Chooser") "read_and" sp [] := fun k sp o => ⟨_, fd11, ["self"], [], (He.cls_ok (c.fact 51 (f := .cls "Chooser") rfl)), (He.meth_ok (c.fact 60 (f := .meth "Chooser" "read_and") rfl)), o, (F11.bindsN fun _ _ _ _ _ _ us hl => match us, hl with | [_], _ => rfl), .nil⟩
  have Ha : ∀ k sp, FnHT P w K mg base (L2.CX P w) k _ fd11 ["self"] sp → MetH P w K mg base (L2.CX P w) k (He.ga K "Chooser") "read_and" sp [] := fun k sp o => ⟨_, fd11, ["self"], [], (He.cls_ok (c.fact 51 (f := .cls "Chooser") rfl)), (He.meth_ok (c.fact 60 (f := .meth "Chooser" "read_and") rfl)), o, (F11.bindsN fun _ _ _ _ _ _ us hl => match us, hl with | [_], _ => rfl), .nil⟩
  have Fa := F11
  have Wo : ∀ k sp, FnT P w K mg base (L2N.CX P w) k _ fd12 ["self"] sp → MetC P w K mg base (L2N.CX P w) k (He.ga K "Chooser") "read_or" sp [] := fun k sp o => ⟨_, fd12, ["self"], [], (He.cls_ok (c.fact 51 (f := .cls "Chooser") rfl)), (He.meth_ok (c.fact 61 (f := .meth "Chooser" "read_or") rfl)), o, (F12.bindsN fun _ _ _ _ _ _ us hl => match us, hl with | [_], _ => rfl), .nil⟩
  have Ho : ∀ k sp, FnHT P w K mg base (L2.CX P w) k _ fd12 ["self"] sp → MetH P w K mg base (L2.CX P w) k (He.ga K "Chooser") "read_or" sp [] := fun k sp o => ⟨_, fd12, ["self"], [], (He.cls_ok (c.fact 51 (f := .cls "Chooser") rfl)), (He.meth_ok (c.fact 61 (f := .meth "Chooser" "read_or") rfl)), o, (F12.bindsN fun _ _ _ _ _ _ us hl => match us, hl with | [_], _ => rfl), .nil⟩
  have rd := fn_readN (CT := (He.ga K "BadText")) Fn Fa F12 BC c_isN h_isN c_here h_here c_refuse h_refuse Wn Hn Wa Ha Wo Ho 20
  have c_or := Wo _ _ rd.2.1
  have h_or := Ho _ _ rd.2.2
  have ra := fn_allN (k := 66) (by decide) F13 BC c_refuse h_refuse T c_or h_or
  have c_all : MetC P w K mg base (L2N.CX P w) 67 (He.ga K "Chooser") "read_all" (spX K (ac_xall (He.ga K "BadText") (He.ga K "Chooser"))) [] := ⟨_, fd13, ["self"], [], (He.cls_ok (c.fact 51 (f := .cls "Chooser") rfl)), (He.meth_ok (c.fact 62 (f := .meth "Chooser" "read_all") rfl)), ra.1, (F13.bindsN fun _ _ _ _ _ _ us hl => match us, hl with | [_], _ => rfl), .nil⟩
  have h_all : MetH P w K mg base (L2.CX P w) 67 (He.ga K "Chooser") "read_all" (spX K (ac_xall (He.ga K "BadText") (He.ga K "Chooser"))) [] := ⟨_, fd13, ["self"], [], (He.cls_ok (c.fact 51 (f := .cls "Chooser") rfl)), (He.meth_ok (c.fact 62 (f := .meth "Chooser" "read_all") rfl)), ra.2, (F13.bindsN fun _ _ _ _ _ _ us hl => match us, hl with | [_], _ => rfl), .nil⟩
  have cn := fn_cn0 (k := 67) (by decide) (Nat.le_refl 67) F14 T B c_Chooser h_Chooser c_all h_all
  have c_cn : CalC P w K mg base (L2N.CX P w) 68 "chosen_numbers" (spX K (ac_cn0 (He.ga K "BadText") (He.ga K "Book"))) [] := ⟨_, fd14, ["book", "only"], [], cn.1, (He.glo_ok X G (c.fact 63 (f := .glo "chosen_numbers") rfl)), F14.kp, (F14.bindsN fun _ _ _ _ _ _ us hl => match us, hl with | [_, _], _ => rfl), .nil⟩
  have h_cn : CalH P w K mg base (L2.CX P w) 68 "chosen_numbers" (spX K (ac_cn0 (He.ga K "BadText") (He.ga K "Book"))) [] := ⟨_, fd14, ["book", "only"], [], cn.2, (He.glo_ok X G (c.fact 63 (f := .glo "chosen_numbers") rfl)), F14.kp, (F14.bindsN fun _ _ _ _ _ _ us hl => match us, hl with | [_, _], _ => rfl), .nil⟩
  have ch := fn_ch0 (k := 68) (by decide) (Nat.le_refl 68) F15 T B c_Book h_Book c_cn h_cn
  have c_chosen : CalC P w K mg base (L2N.CX P w) 69 "chosen" (spX K (ac_ch0 (He.ga K "BadText"))) [] := ⟨_, fd15, ["rows", "only"], [], ch.1, (He.glo_ok X G (c.fact 64 (f := .glo "chosen") rfl)), F15.kp, chosen_binds F15, .nil⟩
  have h_chosen : CalH P w K mg base (L2.CX P w) 69 "chosen" (spX K (ac_ch0 (He.ga K "BadText"))) [] := ⟨_, fd15, ["rows", "only"], [], ch.2, (He.glo_ok X G (c.fact 64 (f := .glo "chosen") rfl)), F15.kp, chosen_binds F15, .nil⟩
  have FK := F16
  have mK := (He.glo_ok X G (c.fact 65 (f := .glo "_law_kind") rfl))
  have bK : Binds K fd16 ["_law_call"] [] := (F16.bindsN fun _ _ _ _ _ _ us hl => match us, hl with | [_], _ => rfl)
  have c_refused : CalT P w K mg base 72 "_law_refused" (spA K ac_rf) [] := ⟨_, fd17, ["_law_text"], [], fn_refused (k := 71) F17 (⟨code_of F17, hTab _ List.mem_cons_self, List.mem_cons_self⟩ : CodeT base mg _ (He.cT K ("_law_refused", none)).1 (He.cT K ("_law_refused", none)).2) nm_rf T N KT XT (He.noat_ok (c.fact 34 (f := .noat "BadText" "place") rfl)) (He.glo_ok X G (c.fact 30 (f := .glo "BadText") rfl)) (He.exm_ok (c.fact 36 (f := .exm "BadText" "BadText" true) rfl)) FK mK bK c_chosen h_chosen (by decide) (by decide), (He.glo_ok X G (c.fact 66 (f := .glo "_law_refused") rfl)), F17.kp, (F17.bindsN fun _ _ _ _ _ _ us hl => match us, hl with | [_], _ => rfl), .nil⟩
  have c_bad : C8.Cal P w K mg base 1 "_law_bad" (spA K ac_bad) [] := ⟨_, fd18, ["_law_words"], [], fn_bad F18 T, (He.glo_ok X G (c.fact 67 (f := .glo "_law_bad") rfl)), F18.kp, (F18.bindsN fun _ _ _ _ _ _ us hl => match us, hl with | [_], _ => rfl), .nil⟩
  exact fn_law (k := 72) (by decide) (by decide) (ka := 4) (by decide) (by decide) (by decide) F19 T c_mix c_next (c_alike 4) c_refused c_bad
end TH
open PySem PySem.W PySem.Calls PyProof.Rows
theorem PySem.Challenge.cw_tryhouse_k05_texts_that_choose_nothing_holds : PySem.Challenge.rw_tryhouse_k05_texts_that_choose_nothing.Holds := by
  w_on; o_law
  refine HandSHeadRun.head_any (r := OpenLaw.row PySem.Challenge.rw_tryhouse_k05_texts_that_choose_nothing) (q := view (OpenLaw.row PySem.Challenge.rw_tryhouse_k05_texts_that_choose_nothing).prog [44]) (H := TH.hk) (ob := TH.ob) (M := 9000) (loose := TH.looseL) (d := HandSHeadRun.topDef (OpenLaw.row PySem.Challenge.rw_tryhouse_k05_texts_that_choose_nothing).prog 44) (kwd := []) TH.ob_eq
    (by kernel_rfl) (fun s => by kernel_rfl) TH.run (by kernel_rfl) (by kernel_rfl) (by kernel_rfl) (by rfl) (by first | assumption | decide +kernel) (by decide +kernel) ⟨rfl, rfl, rfl, rfl, rfl, by decide +kernel⟩ ?hw ?hc
  case hw => w_witness2
  case hc =>
    refine LamX.walk_ofTsE (l := PySem.Challenge.rw_tryhouse_k05_texts_that_choose_nothing) (n := 63) (k := 73) (x := "_law_script") (CX := fun _ => L2.CX0) rfl (by decide) (by kernel_rfl) ⟨rfl, by decide, by decide⟩ ?F (fun _ _ _ _ _ z => z)
    intro w mg fa h Y G hmg0
    obtain ⟨K, KX, c⟩ := Y
    have hmg : mg ("law" : PySem.Str) = some (.ref fa) := by
      have e : (HandSHeadRun.topDef (OpenLaw.row PySem.Challenge.rw_tryhouse_k05_texts_that_choose_nothing).prog 44).name = ("law" : PySem.Str) := by kernel_rfl
      rw [← e]
      exact hmg0
    obtain ⟨fd, hb, hF⟩ := TH.facts (P := (PySem.Challenge.rw_tryhouse_k05_texts_that_choose_nothing).prog) (w := w) KX G hmg c.t.d c.more
    refine ⟨K, KX, fd, TH.csK K, @TH.sp_law (TH.TCK K) K, fun p hp => ?_, fun p hp => ?_, fun p hp => ?_, hb, fun H a ns hl _ hT hS => ⟨a, ns, rfl, hS, hl, fun P hP => ?_, fun _ => rfl⟩, hF⟩
    · obtain ⟨d, hd, rfl⟩ := List.mem_map.mp hp
      exact c.empty d hd
    · obtain ⟨d, hd, rfl⟩ := List.mem_map.mp hp
      exact c.out d hd
    · obtain ⟨d, hd, rfl⟩ := List.mem_map.mp hp
      exact PySem.W.codeHd_of_K KX (c.hd d hd)
    · obtain ⟨p, hp, rfl⟩ := List.mem_map.mp hP
      exact hT p hp
