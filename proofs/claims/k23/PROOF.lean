import PyProof.Rows.All
import Wide.All
import OpenK.AllK
import Wide.FinOn
import HandS.ForMost
import HandS.Walk
import HandS.Nested
import HandS.Strs
import KE.GoesMore
import HandS.Defaults
import HandS.Codes
import HandS.HeadHook2
import HandS.DictComp
import HandS.Style
import HandS.TupAny
import KE.KRevSl
import HandS.IsInst
import HandS.Replace
import HandS.CallRecv
import HandS.ReplaceList
import HandS.Text
import HandS.Dict
import HandS.SortKw
import HandS.ExcValue
import KE.SortKeyHeap
import HandS.SetKeys
import HandS.WordsDict
import HandS.TupLen
import PyProof.DictMoreH
import HandS.Deep
import HandS.StrMore
import KE.KUnpackStar
import PyProof.P3In
import HandS.NoneIn
import KE.KStateDown
import HandS.Ends
import HandS.Head0
import HandS.Head1
import HandS.Head2
import HandS.HeadEnd
import HandS.HeadHook1
import HandS.HeadHook3
import HandS.HeadHook4
import HandS.HeadWalk
import HandS.EndTab
import PySem.Challenge.RW_tryhouse_k23_books_written_and_read
set_option Elab.async false
set_option linter.all false
set_option maxRecDepth 100000
set_option maxHeartbeats 0
/-! Values told by what is frozen: a heap in two parts, G (what will never change again) within H (all). -/
namespace TH
open PySem L2

/-! ### an argument that is no starred one, by its kind -/
section
variable {es : List Expr} {env : PySem.Env}
theorem star_Tuple (elts : List Expr) (k : Nat) (pos : Pos) : starEach (.Tuple elts k pos :: es) env = (false, eval (.Tuple elts k pos) env) :: starEach es env := by rfl
theorem star_List (elts : List Expr) (pos : Pos) : starEach (.List elts pos :: es) env = (false, eval (.List elts pos) env) :: starEach es env := by rfl
theorem star_Constant (c : Const) (k : Nat) (pos : Pos) : starEach (.Constant c k pos :: es) env = (false, eval (.Constant c k pos) env) :: starEach es env := by rfl
theorem star_Name (x : Str) (pos : Pos) : starEach (.Name x pos :: es) env = (false, eval (.Name x pos) env) :: starEach es env := by rfl
theorem star_Subscript (a b : Expr) (pos : Pos) : starEach (.Subscript a b pos :: es) env = (false, eval (.Subscript a b pos) env) :: starEach es env := by rfl
theorem star_Attribute (a : Expr) (x : Str) (pos : Pos) : starEach (.Attribute a x pos :: es) env = (false, eval (.Attribute a x pos) env) :: starEach es env := by rfl
theorem star_Call (f : Expr) (a : List Expr) (k : List Keyword) (pos : Pos) : starEach (.Call f a k pos :: es) env = (false, eval (.Call f a k pos) env) :: starEach es env := by rfl
theorem star_Compare (a : Expr) (o : List CmpOp) (c : List Expr) (pos : Pos) : starEach (.Compare a o c pos :: es) env = (false, eval (.Compare a o c pos) env) :: starEach es env := by rfl
theorem star_BinOp (a : Expr) (o : Operator) (b : Expr) (pos : Pos) : starEach (.BinOp a o b pos :: es) env = (false, eval (.BinOp a o b pos) env) :: starEach es env := by rfl
theorem star_UnaryOp (o : UnaryOp) (a : Expr) (pos : Pos) : starEach (.UnaryOp o a pos :: es) env = (false, eval (.UnaryOp o a pos) env) :: starEach es env := by rfl
theorem star_BoolOp (o : BoolOp) (l : List Expr) (pos : Pos) : starEach (.BoolOp o l pos :: es) env = (false, eval (.BoolOp o l pos) env) :: starEach es env := by rfl
theorem star_IfExp (a b c : Expr) (pos : Pos) : starEach (.IfExp a b c pos :: es) env = (false, eval (.IfExp a b c pos) env) :: starEach es env := by rfl
theorem star_Dict (a : List (Option Expr)) (b : List Expr) (pos : Pos) : starEach (.Dict a b pos :: es) env = (false, eval (.Dict a b pos) env) :: starEach es env := by rfl
theorem star_ListComp (a : Expr) (b : List Comprehension) (c : Scope) (pos : Pos) : starEach (.ListComp a b c pos :: es) env = (false, eval (.ListComp a b c pos) env) :: starEach es env := by rfl
theorem star_DictComp (a b : Expr) (c : List Comprehension) (d : Scope) (pos : Pos) : starEach (.DictComp a b c d pos :: es) env = (false, eval (.DictComp a b c d pos) env) :: starEach es env := by rfl
theorem star_Lambda (a : Arguments) (b : Expr) (c : Scope) (pos : Pos) : starEach (.Lambda a b c pos :: es) env = (false, eval (.Lambda a b c pos) env) :: starEach es env := by rfl
end
/-! ### heaps -/
def IsDct : HO → Prop
  | .dK _ => True
  | .dT _ => True
  | _ => False
/-- the same object, a dict perhaps locked or no longer locked -/
def Lk (o o' : HO) : Prop := o = o' ∨ ∃ u, IsDct u ∧ (o = u ∨ ∃ ob, o = .frz ob u) ∧ (o' = u ∨ ∃ ob, o' = .frz ob u)
theorem Lk.refl (o : HO) : Lk o o := .inl rfl
theorem dct_nofrz {u w : HO} {ob : Obj} (h : IsDct u) (e : u = .frz ob w) : False := by
  subst e
  exact h
theorem lk_core {o u w : HO} (hu : IsDct u) (hw : IsDct w) (a : o = u ∨ ∃ ob, o = .frz ob u) (b : o = w ∨ ∃ ob, o = .frz ob w) : u = w := by
  rcases a with rfl | ⟨o1, rfl⟩
  · rcases b with e | ⟨o2, e⟩
    · exact e
    · exact (dct_nofrz hu e).elim
  · rcases b with e | ⟨o2, e⟩
    · exact (dct_nofrz hw e.symm).elim
    · injection e
theorem Lk.trans {a b c : HO} (h : Lk a b) (k : Lk b c) : Lk a c := by
  rcases h with rfl | ⟨u, hu, h1, h2⟩
  · exact k
  · rcases k with rfl | ⟨w, hw, k1, k2⟩
    · exact .inr ⟨u, hu, h1, h2⟩
    · have e := lk_core hu hw h2 k1
      subst e
      exact .inr ⟨u, hu, h1, k2⟩
theorem Lk.symm {a b : HO} (h : Lk a b) : Lk b a := by
  rcases h with rfl | ⟨u, hu, h1, h2⟩
  · exact .inl rfl
  · exact .inr ⟨u, hu, h2, h1⟩
/-- all of G stands in G', dicts perhaps locked -/
def Le (G G' : Hp) : Prop := ∀ b o, G b = some o → ∃ o', G' b = some o' ∧ Lk o o'
theorem Le.refl (G : Hp) : Le G G := fun b o h => ⟨o, h, .refl o⟩
theorem Le.trans {G1 G2 G3 : Hp} (a : Le G1 G2) (b : Le G2 G3) : Le G1 G3 := fun c o h => by
  obtain ⟨o1, h1, k1⟩ := a c o h
  obtain ⟨o2, h2, k2⟩ := b c o1 h1
  exact ⟨o2, h2, k1.trans k2⟩
theorem Le.of_same {G G' : Hp} (s : Same G G') : Le G G' := fun b o h => ⟨o, s b o h, .refl o⟩
theorem Le.free {G G' : Hp} (s : Le G G') {b : Addr} (h : G' b = none) : G b = none := by
  cases e : G b with
  | none => rfl
  | some o =>
    obtain ⟨o', h', _⟩ := s b o e
    rw [h] at h'
    cases h'
theorem Le.new {G : Hp} {p : Addr} {o : HO} (h : G p = none) : Le G (upd G p o) := fun b u e => ⟨u, by rw [upd_ne (ne_of_none e h)]; exact e, .refl u⟩
theorem Le.upd {G H : Hp} {p : Addr} {o : HO} (s : Le G H) : Le (upd G p o) (upd H p o) := fun b u e => by
  by_cases hb : b = p
  · subst hb
    rw [upd_same] at e ⊢
    exact ⟨u, e, .refl u⟩
  · rw [upd_ne hb] at e ⊢
    exact s b u e
/-- a thing outside of G changes -/
theorem Le.mut {G H : Hp} {p : Addr} {o : HO} (s : Le G H) (h : G p = none) : Le G (L2.upd H p o) := fun b u e => by
  rw [upd_ne (ne_of_none e h)]
  exact s b u e
def NF (u : HO) : Prop := ∀ ob w, u ≠ .frz ob w
theorem nf_lst {xs : List V} : NF (.lst xs) := fun _ _ e => nomatch e
theorem nf_tup {xs : List V} : NF (.tup xs) := fun _ _ e => nomatch e
theorem nf_dK {xs : List (Key × V)} : NF (.dK xs) := fun _ _ e => nomatch e
theorem nf_dT {xs : List (List Key × V)} : NF (.dT xs) := fun _ _ e => nomatch e
theorem nf_ins {C dx : Addr} {fs : List (Str × V)} : NF (.ins C dx fs) := fun _ _ e => nomatch e
theorem Le.rd {G G' : Hp} {a : Addr} {u : HO} (s : Le G G') (n : NF u) (r : Rd G a u) : Rd G' a u := by
  rcases r with h | ⟨ob, h⟩
  · obtain ⟨o', h', k⟩ := s a _ h
    rcases k with rfl | ⟨w, hw, k1, k2⟩
    · exact .inl h'
    · rcases k1 with rfl | ⟨o1, e⟩
      · rcases k2 with rfl | ⟨o2, rfl⟩
        · exact .inl h'
        · exact .inr ⟨o2, h'⟩
      · exact (n _ _ e).elim
  · obtain ⟨o', h', k⟩ := s a _ h
    rcases k with rfl | ⟨w, hw, k1, k2⟩
    · exact .inr ⟨ob, h'⟩
    · rcases k1 with e | ⟨o1, e⟩
      · exact (dct_nofrz hw e.symm).elim
      · injection e with e1 e2
        subst e2
        rcases k2 with rfl | ⟨o2, rfl⟩
        · exact .inl h'
        · exact .inr ⟨o2, h'⟩
/-- what is no dict and no lock stands as it is -/
theorem Le.at {G G' : Hp} {a : Addr} {u : HO} (s : Le G G') (h : G a = some u) (n : NF u) (d : ¬ IsDct u) : G' a = some u := by
  obtain ⟨o', h', k⟩ := s a _ h
  rcases k with rfl | ⟨w, hw, k1, k2⟩
  · exact h'
  · rcases k1 with rfl | ⟨o1, e⟩
    · exact (d hw).elim
    · exact (n _ _ e).elim
theorem Le.ins {G G' : Hp} {a C dx : Addr} {fs : List (Str × V)} (s : Le G G') (h : G a = some (.ins C dx fs)) : G' a = some (.ins C dx fs) := s.at h nf_ins fun z => z
theorem Le.seqL {K : PySem.W.Frag} {G G' : Hp} {a : Addr} {xs : List V} (s : Le G G') (h : SqL K G a xs) : SqL K G' a xs := by
  rcases h with h | h
  · exact .inl (s.rd nf_lst h)
  · exact .inr h
theorem Le.seqT {K : PySem.W.Frag} {G G' : Hp} {a : Addr} {xs : List V} (s : Le G G') (h : SqT K G a xs) : SqT K G' a xs := by
  rcases h with h | h
  · exact .inl (s.rd nf_tup h)
  · exact .inr h

/-! ### tables of code objects: they grow when a def, a lambda within another is first made -/
/-- where the tables stand, and the name that a place's code object has -/
class TabC where
  T : List Addr
  nm : Nat → Nat → Str
/-- what is no table -/
def NT (o : HO) : Prop := ∀ ps, o ≠ .tbl ps
/-- the table at P: its code objects are frozen, each has its place's name -/
def TabG [TC : TabC] (G H : Hp) (P : Addr) : Prop := G P = none ∧ ∃ ps : Array Value, H P = some (.tbl ps) ∧ TriplesOk ps.toList ∧ ∀ (pos : Pos) (cv : Value), codeAmong pos ps.toList = some cv → ∃ c, cv = .ref c ∧ G c = some (LamX.CodeO c (TC.nm pos.line pos.col))
theorem code_nf {c : Addr} {q : Str} : NF (LamX.CodeO c q) := fun _ _ z => by
  unfold LamX.CodeO at z
  cases z
theorem code_nd {c : Addr} {q : Str} : ¬ IsDct (LamX.CodeO c q) := fun z => z
theorem TabG.go [TC : TabC] {G H G' H' : Hp} {P : Addr} (t : TabG G H P) (l : Le G G') (h : H' P = H P) (g : G' P = none) : TabG G' H' P := by
  obtain ⟨_, ps, h1, h2, h3⟩ := t
  refine ⟨g, ps, h.trans h1, h2, fun pos cv hc => ?_⟩
  obtain ⟨c, e1, e2⟩ := h3 pos cv hc
  exact ⟨c, e1, l.at e2 code_nf code_nd⟩
theorem TabG.ne [TC : TabC] {G H : Hp} {P p : Addr} (t : TabG G H P) (h : H p = none) : P ≠ p := by
  obtain ⟨_, ps, h1, _⟩ := t
  exact ne_of_none h1 h
theorem TabG.off [TC : TabC] {G H : Hp} {P p : Addr} {o : HO} (t : TabG G H P) (h : H p = some o) (n : NT o := by exact fun _ z => (nomatch z)) : P ≠ p := fun z => by
  obtain ⟨_, ps, h1, _⟩ := t
  rw [z, h] at h1
  exact n ps (Option.some.inj h1)
variable [TC : TabC]
/-- (G, H) grows to (G', H'): what is frozen stays, of the rest all but W and the tables; what is newly frozen is new -/
structure Gr (W : List Addr) (G H G' H' : Hp) : Prop where
  gg : Le G G'
  gh : Le G' H'
  hhN : ∀ b o, H b = some o → b ∉ W → NT o → H' b = some o
  dm : ∀ b, H b ≠ none → H' b ≠ none
  nw : ∀ b, G b = none → G' b ≠ none → H b = none
  tb : ∀ P ∈ TC.T, P ∉ W → TabG G H P → TabG G' H' P
theorem Gr.hh {W : List Addr} {G H G1 H1 : Hp} (a : Gr W G H G1 H1) (b : Addr) (o : HO) (e : H b = some o) (n : b ∉ W) (t : NT o := by exact fun _ z => (nomatch z)) : H1 b = some o := a.hhN b o e n t
section
variable {W W' : List Addr} {G H G1 H1 G2 H2 : Hp}
theorem Gr.refl (h : Le G H) : Gr W G H G H := ⟨Le.refl G, h, fun _ _ e _ _ => e, fun _ e => e, fun b h1 h2 => (h2 h1).elim, fun _ _ _ t => t⟩
theorem Gr.trans (a : Gr W G H G1 H1) (b : Gr W G1 H1 G2 H2) : Gr W G H G2 H2 where
  gg := a.gg.trans b.gg
  gh := b.gh
  hhN := fun c o e n t => b.hhN c o (a.hhN c o e n t) n t
  tb := fun P hP n t => b.tb P hP n (a.tb P hP n t)
  dm := fun c e => b.dm c (a.dm c e)
  nw := fun c h1 h2 => by
    cases e : G1 c with
    | some o => exact a.nw c h1 (by rw [e]; exact fun z => nomatch z)
    | none =>
      have q := b.nw c e h2
      cases e2 : H c with
      | none => rfl
      | some o => exact absurd q (a.dm c (by rw [e2]; exact fun z => nomatch z))
theorem Gr.mono (a : Gr W G H G1 H1) (s : ∀ b ∈ W, b ∈ W') : Gr W' G H G1 H1 := ⟨a.gg, a.gh, fun b o e n t => a.hhN b o e (fun z => n (s b z)) t, a.dm, a.nw, fun P hP n t => a.tb P hP (fun z => n (s P z)) t⟩
theorem Gr.nil (a : Gr [] G H G1 H1) : Gr W G H G1 H1 := a.mono fun _ z => nomatch z
/-- a new thing, frozen at once -/
theorem Gr.new (h : Le G H) {p : Addr} {o : HO} (hp : H p = none) : Gr W G H (upd G p o) (upd H p o) where
  gg := Le.new (h.free hp)
  gh := h.upd
  hhN := fun b u e _ _ => by rw [upd_ne (ne_of_none e hp)]; exact e
  tb := fun P _ _ t => t.go (Le.new (h.free hp)) (upd_ne (t.ne hp)) ((upd_ne (t.ne hp)).trans t.1)
  dm := fun b e => by
    by_cases hb : b = p
    · subst hb; exact (e hp).elim
    · rw [upd_ne hb]; exact e
  nw := fun b h1 h2 => by
    by_cases hb : b = p
    · subst hb; exact hp
    · rw [upd_ne hb] at h2; exact (h2 h1).elim
/-- a new thing that may be changed -/
theorem Gr.own (h : Le G H) {p : Addr} {o : HO} (hp : H p = none) : Gr W G H G (upd H p o) where
  gg := Le.refl G
  gh := h.mut (h.free hp)
  hhN := fun b u e _ _ => by rw [upd_ne (ne_of_none e hp)]; exact e
  tb := fun P _ _ t => t.go (Le.refl G) (upd_ne (t.ne hp)) t.1
  dm := fun b e => by
    by_cases hb : b = p
    · subst hb; exact (e hp).elim
    · rw [upd_ne hb]; exact e
  nw := fun b h1 h2 => (h2 h1).elim
/-- what came later is changed -/
theorem Gr.put (a : Gr W G H G1 H1) {p : Addr} {o : HO} (hp : H p = none) (hg : G1 p = none) : Gr W G H G1 (upd H1 p o) where
  gg := a.gg
  gh := a.gh.mut hg
  hhN := fun b u e n t => by rw [upd_ne (ne_of_none e hp)]; exact a.hhN b u e n t
  tb := fun P hP n t => (a.tb P hP n t).go (Le.refl G1) (upd_ne (t.ne hp)) (a.tb P hP n t).1
  dm := fun b e => by
    by_cases hb : b = p
    · subst hb; rw [upd_same]; exact fun z => nomatch z
    · rw [upd_ne hb]; exact a.dm b e
  nw := a.nw
/-- what is of W is changed -/
theorem Gr.putW (a : Gr W G H G1 H1) {p : Addr} {o : HO} (hp : p ∈ W) (hg : G1 p = none) : Gr W G H G1 (upd H1 p o) where
  gg := a.gg
  gh := a.gh.mut hg
  hhN := fun b u e n t => by rw [upd_ne (show b ≠ p from fun z => n (by rw [z]; exact hp))]; exact a.hhN b u e n t
  tb := fun P hP n t => (a.tb P hP n t).go (Le.refl G1) (upd_ne (show P ≠ p from fun z => n (by rw [z]; exact hp))) (a.tb P hP n t).1
  dm := fun b e => by
    by_cases hb : b = p
    · subst hb; rw [upd_same]; exact fun z => nomatch z
    · rw [upd_ne hb]; exact a.dm b e
  nw := a.nw
/-- in two steps, the second one over what came later, too -/
theorem Gr.over {W' : List Addr} (a : Gr W G H G1 H1) (b : Gr W' G1 H1 G2 H2) (h : ∀ p ∈ W', p ∈ W ∨ H p = none) : Gr W G H G2 H2 where
  gg := a.gg.trans b.gg
  gh := b.gh
  hhN := fun c o e n t => b.hhN c o (a.hhN c o e n t) (fun z => by
    rcases h c z with q | q
    · exact n q
    · rw [q] at e; cases e) t
  tb := fun P hP n t => b.tb P hP (fun z => by
    rcases h P z with q | q
    · exact n q
    · exact t.ne q rfl) (a.tb P hP n t)
  dm := fun c e => b.dm c (a.dm c e)
  nw := fun c h1 h2 => by
    cases e : G1 c with
    | some o => exact a.nw c h1 (by rw [e]; exact fun z => nomatch z)
    | none =>
      have q := b.nw c e h2
      cases e2 : H c with
      | none => rfl
      | some o => exact absurd q (a.dm c (by rw [e2]; exact fun z => nomatch z))
/-- what came later is frozen as it stands -/
theorem Gr.fix (a : Gr W G H G1 H1) {p : Addr} {o : HO} (hp : H p = none) (hg : G1 p = none) (h1 : H1 p = some o) : Gr W G H (upd G1 p o) H1 where
  gg := a.gg.trans (Le.new hg)
  gh := fun b u e => by
    by_cases hb : b = p
    · subst hb; rw [upd_same] at e; cases e; exact ⟨_, h1, .refl _⟩
    · rw [upd_ne hb] at e; exact a.gh b u e
  hhN := a.hhN
  tb := fun P hP n t => (a.tb P hP n t).go (Le.new hg) rfl ((upd_ne (t.ne hp)).trans (a.tb P hP n t).1)
  dm := a.dm
  nw := fun b n1 n2 => by
    by_cases hb : b = p
    · subst hb; exact hp
    · rw [upd_ne hb] at n2; exact a.nw b n1 n2
/-- a thing that may be changed and is not of W -/
theorem Gr.loc (a : Gr W G H G1 H1) {p : Addr} {o : HO} (hp : H p = some o) (hg : G p = none) (n : p ∉ W) (t : NT o := by exact fun _ z => (nomatch z)) : H1 p = some o ∧ G1 p = none := by
  refine ⟨a.hhN p o hp n t, ?_⟩
  cases e : G1 p with
  | none => rfl
  | some u =>
    have q := a.nw p hg (by rw [e]; exact fun z => nomatch z)
    rw [hp] at q
    cases q
theorem Gr.gnone (a : Gr W G H G1 H1) {p : Addr} (hp : H p ≠ none) (hg : G p = none) : G1 p = none := by
  cases e : G1 p with
  | none => rfl
  | some u => exact absurd (a.nw p hg (by rw [e]; exact fun z => nomatch z)) hp
end

/-! ### what is known of a value -/
structure Rl where
  P : Hp → V → Prop
  mono : ∀ {G G' : Hp} {v : V}, Le G G' → P G v → P G' v
def rV (v0 : V) : Rl := ⟨fun _ v => v = v0, fun _ h => h⟩
abbrev rInt (i : Int) : Rl := rV (.int i)
abbrev rStr (x : Str) : Rl := rV (.str x)
abbrev rBl (b : Bool) : Rl := rV (.bl b)
abbrev rNon : Rl := rV .non
abbrev rRef (a : Addr) : Rl := rV (.ref a)
/-- one of a family -/
def rEx {ι : Type} (f : ι → Rl) : Rl := ⟨fun G v => ∃ i, (f i).P G v, fun e ⟨i, h⟩ => ⟨i, (f i).mono e h⟩⟩
def rAnd (p : Prop) (r : Rl) : Rl := ⟨fun G v => p ∧ r.P G v, fun e h => ⟨h.1, r.mono e h.2⟩⟩
/-- pointwise -/
abbrev Al (G : Hp) (rs : List Rl) (vs : List V) : Prop := Paired (fun (r : Rl) v => r.P G v) rs vs
theorem Al.mono {G G' : Hp} (e : Le G G') : ∀ {rs : List Rl} {vs : List V}, Al G rs vs → Al G' rs vs
  | _, _, .nil => .nil
  | _, _, .cons h t => .cons (Rl.mono _ e h) (Al.mono e t)
theorem Al.length {G : Hp} {rs : List Rl} {vs : List V} (h : Al G rs vs) : rs.length = vs.length := Paired.length h
theorem Al.get {G : Hp} : ∀ {rs : List Rl} {vs : List V} {i : Nat} {r : Rl}, Al G rs vs → rs[i]? = some r → ∃ v, vs[i]? = some v ∧ r.P G v
  | _, _, _, _, .nil, e => by simp at e
  | _, _, 0, _, .cons h _, e => by simp at e; subst e; exact ⟨_, rfl, h⟩
  | _, _, i + 1, r, .cons _ t, e => by
    obtain ⟨v, h1, h2⟩ := Al.get (i := i) (r := r) t (by simpa using e)
    exact ⟨v, by simpa using h1, h2⟩
theorem Al.at {G : Hp} : ∀ {rs : List Rl} {vs : List V} {i : Nat} {v : V}, Al G rs vs → vs[i]? = some v → ∃ r, rs[i]? = some r ∧ r.P G v
  | _, _, _, _, .nil, e => by simp at e
  | _, _, 0, _, .cons h _, e => by simp at e; subst e; exact ⟨_, rfl, h⟩
  | _, _, i + 1, v, .cons _ t, e => by
    obtain ⟨r, h1, h2⟩ := Al.at (i := i) (v := v) t (by simpa using e)
    exact ⟨r, by simpa using h1, h2⟩
theorem Al.append {G : Hp} : ∀ {rs ss : List Rl} {vs ws : List V}, Al G rs vs → Al G ss ws → Al G (rs ++ ss) (vs ++ ws)
  | _, _, _, _, .nil, s => s
  | _, _, _, _, .cons r t, s => .cons r (Al.append t s)
theorem Al.take {G : Hp} : ∀ {rs : List Rl} {vs : List V} (n : Nat), Al G rs vs → Al G (rs.take n) (vs.take n)
  | _, _, 0, _ => .nil
  | _, _, _ + 1, .nil => .nil
  | _, _, n + 1, .cons r t => .cons r (Al.take n t)
theorem Al.drop {G : Hp} : ∀ {rs : List Rl} {vs : List V} (n : Nat), Al G rs vs → Al G (rs.drop n) (vs.drop n)
  | _, _, 0, r => r
  | _, _, _ + 1, .nil => .nil
  | _, _, n + 1, .cons _ t => Al.drop n t
theorem Al.reverse {G : Hp} : ∀ {rs : List Rl} {vs : List V}, Al G rs vs → Al G rs.reverse vs.reverse
  | _, _, .nil => .nil
  | _, _, .cons r t => by
    rw [List.reverse_cons, List.reverse_cons]
    exact (Al.reverse t).append (.cons r .nil)
/-- values that are told outright -/
theorem Al.vals {G : Hp} {α : Type} {f : α → V} : ∀ {xs : List α} {vs : List V}, Al G (xs.map fun x => rV (f x)) vs → vs = xs.map f
  | [], _, .nil => rfl
  | x :: xs, _, .cons h t => by
    have h : _ = f x := h
    rw [List.map_cons, ← h, ← Al.vals t]
theorem Al.of_vals {G : Hp} {α : Type} {f : α → V} : ∀ {xs : List α}, Al G (xs.map fun x => rV (f x)) (xs.map f)
  | [] => .nil
  | x :: xs => .cons rfl Al.of_vals
section
variable (K : PySem.W.Frag)
def rTup (rs : List Rl) : Rl := ⟨fun G v => ∃ a vs, v = .ref a ∧ SqT K G a vs ∧ Al G rs vs, fun e ⟨a, vs, h1, h2, h3⟩ => ⟨a, vs, h1, e.seqT h2, h3.mono e⟩⟩
def rLst (rs : List Rl) : Rl := ⟨fun G v => ∃ a vs, v = .ref a ∧ SqL K G a vs ∧ Al G rs vs, fun e ⟨a, vs, h1, h2, h3⟩ => ⟨a, vs, h1, e.seqL h2, h3.mono e⟩⟩
end
/-- a dict's pairs -/
def DAl (G : Hp) (ks : List (Key × Rl)) (vs : List (Key × V)) : Prop := Paired (fun (r : Key × Rl) (v : Key × V) => r.1 = v.1 ∧ r.2.P G v.2) ks vs
theorem DAl.mono {G G' : Hp} (e : Le G G') {ks : List (Key × Rl)} {vs : List (Key × V)} (h : DAl G ks vs) : DAl G' ks vs := L2.Paired.mapP h fun a _ q => ⟨q.1, a.2.mono e q.2⟩
def rDct (ks : List (Key × Rl)) : Rl := ⟨fun G v => ∃ a vs, v = .ref a ∧ Rd G a (.dK vs) ∧ DAl G ks vs, fun e ⟨a, vs, h1, h2, h3⟩ => ⟨a, vs, h1, e.rd nf_dK h2, h3.mono e⟩⟩

/-! ### modes: what may change beside, and what holds of it -/
structure Md where
  W : List Addr
  J : Hp → Prop
  st : ∀ {H H' : Hp}, (∀ b ∈ W, ∀ o, H b = some o → NT o → H' b = some o) → J H → J H'
  dom : ∀ {H : Hp}, J H → ∀ b ∈ W, H b ≠ none
def md0 : Md := ⟨[], fun _ => True, fun _ h => h, fun _ _ z => nomatch z⟩
/-- where one stands -/
structure At (M : Md) (G H : Hp) : Prop where
  le : Le G H
  j : M.J H
theorem Gr.at0 {W : List Addr} {G H G1 H1 : Hp} (a : Gr W G H G1 H1) : At md0 G1 H1 := ⟨a.gh, trivial⟩
/-- (G, H) grows, in a mode -/
structure Go (M : Md) (G H G' H' : Hp) : Prop where
  gr : Gr M.W G H G' H'
  j : M.J H'
section
variable {M : Md} {G H G1 H1 G2 H2 : Hp}
theorem Go.at (a : Go M G H G1 H1) : At M G1 H1 := ⟨a.gr.gh, a.j⟩
theorem At.go (a : At M G H) : Go M G H G H := ⟨.refl a.le, a.j⟩
theorem Go.trans (a : Go M G H G1 H1) (b : Go M G1 H1 G2 H2) : Go M G H G2 H2 := ⟨a.gr.trans b.gr, b.j⟩
theorem Go.gg (a : Go M G H G1 H1) : Le G G1 := a.gr.gg
theorem Gr.go {W' : List Addr} (a : Gr [] G H G1 H1) (j : M.J H) : Go M G H G1 H1 := ⟨a.nil, M.st (fun b _ o e t => a.hhN b o e (fun z => nomatch z) t) j⟩
theorem Go.pure (a : Gr [] G H G1 H1) (j : M.J H) : Go M G H G1 H1 := Gr.go (W' := []) a j
theorem At.new (a : At M G H) {p : Addr} {o : HO} (hp : H p = none) : Go M G H (upd G p o) (upd H p o) := Go.pure (Gr.new a.le hp) a.j
theorem At.own (a : At M G H) {p : Addr} {o : HO} (hp : H p = none) : Go M G H G (upd H p o) := Go.pure (Gr.own a.le hp) a.j
/-- a change outside of W -/
theorem At.put (a : At M G H) {p : Addr} {o : HO} (hg : G p = none) (n : p ∉ M.W) : At M G (upd H p o) :=
  ⟨a.le.mut hg, M.st (fun b hb u e _ => by rw [upd_ne (show b ≠ p from fun z => n (by rw [← z]; exact hb))]; exact e) a.j⟩
end

/-! ### what an expression gives -/
def Ev (M : Md) (te : TE) (σ : L2.St) (G H : Hp) (r : Rl) : Prop := ∀ G1 H1, Go M G H G1 H1 → ∀ Q : VK, (∀ v G2 H2, Go M G1 H1 G2 H2 → r.P G2 v → Q v H2) → te σ H1 Q
def EvT (M : Md) (tt : TT) (σ : L2.St) (G H : Hp) (B : Bool → Prop) : Prop := ∀ G1 H1, Go M G H G1 H1 → ∀ Q : Bool → Hp → Prop, (∀ b G2 H2, Go M G1 H1 G2 H2 → B b → Q b H2) → tt σ H1 Q
def EvA (M : Md) (ta : TA) (σ : L2.St) (G H : Hp) (rs : List Rl) : Prop := ∀ G1 H1, Go M G H G1 H1 → ∀ Q : List V → Hp → Prop, (∀ vs G2 H2, Go M G1 H1 G2 H2 → Al G2 rs vs → Q vs H2) → ta σ H1 Q
section
variable {K : PySem.W.Frag} {M : Md} {σ : L2.St} {G H G' H' : Hp} {ta tb te tc : TE} {t u : TT} {r s : Rl} {v v0 : V} {i j : Int} {n m : Nat} {rs ss : List Rl}
theorem Ev.mono (h : Ev M te σ G H r) (e : Go M G H G' H') : Ev M te σ G' H' r := fun G1 H1 a Q q => h G1 H1 (e.trans a) Q q
theorem EvT.mono {B : Bool → Prop} (h : EvT M t σ G H B) (e : Go M G H G' H') : EvT M t σ G' H' B := fun G1 H1 a Q q => h G1 H1 (e.trans a) Q q
theorem EvA.mono {ta : TA} (h : EvA M ta σ G H rs) (e : Go M G H G' H') : EvA M ta σ G' H' rs := fun G1 H1 a Q q => h G1 H1 (e.trans a) Q q
theorem Ev.imp (h : Ev M te σ G H r) (k : ∀ G v, r.P G v → s.P G v) : Ev M te σ G H s := fun G1 H1 a Q q => h G1 H1 a Q fun v G2 H2 b p => q v G2 H2 b (k G2 v p)
theorem Ev.of (h : Ev M te σ G H r) (e : r = s) : Ev M te σ G H s := e ▸ h
theorem EvT.of {B B' : Bool → Prop} (h : EvT M t σ G H B) (k : ∀ b, B b → B' b) : EvT M t σ G H B' := fun G1 H1 a Q q => h G1 H1 a Q fun v G2 H2 b p => q v G2 H2 b (k v p)
theorem ev_var {i : Nat} (h : σ[i]? = some (some v)) (p : r.P G v) : Ev M (tVar i) σ G H r := fun G1 H1 a Q q => ⟨v, h, q v G1 H1 a.at.go (r.mono a.gg p)⟩
theorem ev_val {i : Nat} (h : σ[i]? = some (some v)) : Ev M (tVar i) σ G H (rV v) := ev_var h rfl
theorem ev_c : Ev M (tC v) σ G H (rV v) := fun G1 H1 a Q q => q v G1 H1 a.at.go rfl
theorem ea_nil : EvA M tNil σ G H [] := fun G1 H1 a Q q => q [] G1 H1 a.at.go .nil
theorem ea_cons {tr : TA} (h : Ev M te σ G H r) (k : EvA M tr σ G H rs) : EvA M (tCons te tr) σ G H (r :: rs) := fun G1 H1 a Q q =>
  h G1 H1 a _ fun v G2 H2 b p => k G2 H2 (a.trans b) _ fun vs G3 H3 c ps => q (v :: vs) G3 H3 (b.trans c) (.cons (r.mono c.gg p) ps)
/-- a two-place operation on values -/
def RV (M : Md) (op : R2) (r s : Rl) (G H : Hp) (z : Rl) : Prop := ∀ G1 H1 x y, Go M G H G1 H1 → r.P G1 x → s.P G1 y → ∀ Q : VK, (∀ v G2 H2, Go M G1 H1 G2 H2 → z.P G2 v → Q v H2) → op x y H1 Q
theorem ev_op {op : R2} {z : Rl} (ha : Ev M ta σ G H r) (hb : Ev M tb σ G H s) (hr : RV M op r s G H z) : Ev M (tOp op ta tb) σ G H z := fun G1 H1 a Q q =>
  ha G1 H1 a _ fun x G2 H2 b p => hb G2 H2 (a.trans b) _ fun y G3 H3 c p' => hr G3 H3 x y ((a.trans b).trans c) (r.mono c.gg p) p' Q fun v G4 H4 d p'' => q v G4 H4 ((b.trans c).trans d) p''
theorem ev_un {op : V → Hp → VK → Prop} {z : Rl} (ha : Ev M ta σ G H r) (hr : ∀ G1 H1 x, Go M G H G1 H1 → r.P G1 x → ∀ Q : VK, (∀ v G2 H2, Go M G1 H1 G2 H2 → z.P G2 v → Q v H2) → op x H1 Q) : Ev M (tUn op ta) σ G H z := fun G1 H1 a Q q =>
  ha G1 H1 a _ fun x G2 H2 b p => hr G2 H2 x (a.trans b) p Q fun v G4 H4 d p'' => q v G4 H4 (b.trans d) p''
theorem rv_I0 {g : Int → Int → V} : RV M (rI0 g) (rInt i) (rInt j) G H (rV (g i j)) := fun G1 H1 x y a p q Q k => ⟨i, j, p, q, k _ G1 H1 a.at.go rfl⟩
theorem rv_I {C : Int → Int → Prop} {g : Int → Int → V} (hc : C i j) : RV M (rI C g) (rInt i) (rInt j) G H (rV (g i j)) := fun G1 H1 x y a p q Q k => ⟨i, j, p, q, hc, k _ G1 H1 a.at.go rfl⟩
theorem ev_I0 {g : Int → Int → V} (ha : Ev M ta σ G H (rInt i)) (hb : Ev M tb σ G H (rInt j)) : Ev M (tOp (rI0 g) ta tb) σ G H (rV (g i j)) := ev_op ha hb rv_I0
theorem ev_I {C : Int → Int → Prop} {g : Int → Int → V} (ha : Ev M ta σ G H (rInt i)) (hb : Ev M tb σ G H (rInt j)) (hc : C i j) : Ev M (tOp (rI C g) ta tb) σ G H (rV (g i j)) := ev_op ha hb (rv_I hc)
theorem ev_eq {x y : V} (ha : Ev M ta σ G H (rV x)) (hb : Ev M tb σ G H (rV y)) (h : scal x y = true) : Ev M (tOp rEq ta tb) σ G H (rBl (decide (x = y))) :=
  ev_op ha hb fun G1 H1 x' y' a p q Q k => by
    have p : x' = x := p
    have q : y' = y := q
    subst p q
    exact ⟨h, k _ G1 H1 a.at.go rfl⟩
theorem ev_ne {x y : V} (ha : Ev M ta σ G H (rV x)) (hb : Ev M tb σ G H (rV y)) (h : scal x y = true) : Ev M (tOp rNe ta tb) σ G H (rBl (!decide (x = y))) :=
  ev_op ha hb fun G1 H1 x' y' a p q Q k => by
    have p : x' = x := p
    have q : y' = y := q
    subst p q
    exact ⟨h, k _ G1 H1 a.at.go rfl⟩
/-- x[i] of a tuple, of a frozen list -/
theorem ev_ixT (ha : Ev M ta σ G H (rTup K rs)) (hb : Ev M tb σ G H (rInt i)) (h : atI rs i = some r) : Ev M (tOp (rIxT K) ta tb) σ G H r :=
  ev_op ha hb fun G1 H1 x y a p q Q k => by
    obtain ⟨b, vs, rfl, h2, h3⟩ := p
    have q : y = .int i := q
    unfold atI at h
    cases e : ixN rs.length i with
    | none => rw [e] at h; cases h
    | some j =>
      rw [e] at h
      obtain ⟨v, hv, hp⟩ := h3.get (show rs[j]? = some r from h)
      refine ⟨b, vs, i, v, rfl, q, a.at.le.seqT h2, ?_, k v G1 H1 a.at.go hp⟩
      unfold atI
      rw [← h3.length, e]
      exact hv
theorem ev_ixL (ha : Ev M ta σ G H (rLst K rs)) (hb : Ev M tb σ G H (rInt i)) (h : atI rs i = some r) : Ev M (tOp (rIxL K) ta tb) σ G H r :=
  ev_op ha hb fun G1 H1 x y a p q Q k => by
    obtain ⟨b, vs, rfl, h2, h3⟩ := p
    have q : y = .int i := q
    unfold atI at h
    cases e : ixN rs.length i with
    | none => rw [e] at h; cases h
    | some j =>
      rw [e] at h
      obtain ⟨v, hv, hp⟩ := h3.get (show rs[j]? = some r from h)
      refine ⟨b, vs, i, v, rfl, q, a.at.le.seqL h2, ?_, k v G1 H1 a.at.go hp⟩
      unfold atI
      rw [← h3.length, e]
      exact hv
theorem ev_ixS {z : Str} {c : Nat} (ha : Ev M ta σ G H (rStr z)) (hb : Ev M tb σ G H (rInt i)) (hz : z.length ≤ sizeLine) (h : atI z.cps.toList i = some c) : Ev M (tOp rIxS ta tb) σ G H (rStr ⟨#[c]⟩) :=
  ev_op ha hb fun G1 H1 x y a p q Q k => ⟨z, i, c, p, q, hz, h, k _ G1 H1 a.at.go rfl⟩
theorem ev_addS {x y : Str} {op : R2} (ha : Ev M ta σ G H (rStr x)) (hb : Ev M tb σ G H (rStr y)) (hz : x.length + y.length ≤ sizeLine) :
    Ev M (tOp (fun x y H Q => ∃ i j, x = .str i ∧ y = .str j ∧ i.length + j.length ≤ sizeLine ∧ Q (.str (i ++ j)) H) ta tb) σ G H (rStr (x ++ y)) :=
  ev_op ha hb fun G1 H1 x' y' a p q Q k => ⟨x, y, p, q, hz, k _ G1 H1 a.at.go rfl⟩
/-- new tuples, new lists -/
theorem Al.bound {G : Hp} {rs : List Rl} {vs : List V} (h : Al G rs vs) (hl : rs.length ≤ 100000) : vs.length ≤ sizeLine := by
  rw [← h.length]
  exact Nat.le_trans hl (by decide)
theorem ev_tup {ta : TA} (h : EvA M ta σ G H rs) (hl : rs.length ≤ 100000 := by decide) : Ev M (tTup ta) σ G H (rTup K rs) := fun G1 H1 a Q q =>
  h G1 H1 a _ fun vs G2 H2 b ps => ⟨ps.bound hl, fun p hp => by
    have c := b.at.new (o := .tup vs) hp
    exact q _ _ _ (b.trans c) ⟨p, vs, rfl, .of upd_same, ps.mono c.gg⟩⟩
theorem ev_lst {ta : TA} (h : EvA M ta σ G H rs) (hl : rs.length ≤ 100000 := by decide) : Ev M (tLst ta) σ G H (rLst K rs) := fun G1 H1 a Q q =>
  h G1 H1 a _ fun vs G2 H2 b ps => ⟨ps.bound hl, fun p hp => by
    have c := b.at.new (o := .lst vs) hp
    exact q _ _ _ (b.trans c) ⟨p, vs, rfl, .of upd_same, ps.mono c.gg⟩⟩
/-- tests -/
theorem et_test {b : Bool} (h : Ev M te σ G H (rBl b)) : EvT M (tTest te) σ G H (· = b) := fun G1 H1 a Q q => h G1 H1 a _ fun v G2 H2 c p => by
  have p : v = .bl b := p
  exact ⟨b, p, q b G2 H2 c rfl⟩
theorem et_B {b : Bool} (h : Ev M te σ G H (rBl b)) : EvT M (tB te) σ G H (· = b) := fun G1 H1 a Q q => h G1 H1 a _ fun v G2 H2 c p => by
  have p : v = .bl b := p
  exact ⟨b, p, q b G2 H2 c rfl⟩
theorem et_and {a b : Bool} (h1 : EvT M t σ G H (· = a)) (h2 : a = true → EvT M u σ G H (· = b)) : EvT M (tAnd t u) σ G H (· = (a && b)) := fun G1 H1 e Q q => h1 G1 H1 e _ fun c G2 H2 e2 p => by
  subst p
  cases c with
  | true =>
    show u σ H2 Q
    exact h2 rfl G2 H2 (e.trans e2) Q fun d G3 H3 e3 p => q d G3 H3 (e2.trans e3) p
  | false =>
    show Q false H2
    exact q _ G2 H2 e2 rfl
theorem et_or {a b : Bool} (h1 : EvT M t σ G H (· = a)) (h2 : a = false → EvT M u σ G H (· = b)) : EvT M (tOr t u) σ G H (· = (a || b)) := fun G1 H1 e Q q => h1 G1 H1 e _ fun c G2 H2 e2 p => by
  subst p
  cases c with
  | false =>
    show u σ H2 Q
    exact h2 rfl G2 H2 (e.trans e2) Q fun d G3 H3 e3 p => q d G3 H3 (e2.trans e3) p
  | true =>
    show Q true H2
    exact q _ G2 H2 e2 rfl
theorem et_not {a : Bool} (h1 : EvT M t σ G H (· = a)) : EvT M (tNot t) σ G H (· = !a) := fun G1 H1 e Q q => h1 G1 H1 e _ fun c G2 H2 e2 p => q (!c) G2 H2 e2 (by subst p; rfl)
theorem EvT.to {a b : Bool} (h1 : EvT M t σ G H (· = a)) (e : a = b) : EvT M t σ G H (· = b) := e ▸ h1
theorem ev_andV {a b : Bool} (h1 : Ev M ta σ G H (rBl a)) (h2 : a = true → Ev M tb σ G H (rBl b)) : Ev M (tAndV ta tb) σ G H (rBl (a && b)) := fun G1 H1 e Q q => h1 G1 H1 e _ fun c G2 H2 e2 p => by
  have p : c = .bl a := p
  refine ⟨a, p, ?_⟩
  cases a with
  | true =>
    show tb σ H2 Q
    exact h2 rfl G2 H2 (e.trans e2) Q fun d G3 H3 e3 p => q d G3 H3 (e2.trans e3) p
  | false =>
    show Q (.bl false) H2
    exact q _ G2 H2 e2 rfl
theorem ev_orV {a b : Bool} (h1 : Ev M ta σ G H (rBl a)) (h2 : a = false → Ev M tb σ G H (rBl b)) : Ev M (tOrV ta tb) σ G H (rBl (a || b)) := fun G1 H1 e Q q => h1 G1 H1 e _ fun c G2 H2 e2 p => by
  have p : c = .bl a := p
  refine ⟨a, p, ?_⟩
  cases a with
  | false =>
    show tb σ H2 Q
    exact h2 rfl G2 H2 (e.trans e2) Q fun d G3 H3 e3 p => q d G3 H3 (e2.trans e3) p
  | true =>
    show Q (.bl true) H2
    exact q _ G2 H2 e2 rfl
theorem ev_notV {a : Bool} (h1 : Ev M ta σ G H (rBl a)) : Ev M (tNotV ta) σ G H (rBl (!a)) := fun G1 H1 e Q q => h1 G1 H1 e _ fun c G2 H2 e2 p => by
  have p : c = .bl a := p
  exact ⟨a, p, q _ G2 H2 e2 rfl⟩
theorem ev_if {B : Bool → Prop} (h : EvT M t σ G H B) (h1 : B true → Ev M ta σ G H r) (h2 : B false → Ev M tb σ G H r) : Ev M (tIf t ta tb) σ G H r := fun G1 H1 e Q q => h G1 H1 e _ fun c G2 H2 e2 p => by
  cases c with
  | true =>
    show ta σ H2 Q
    exact h1 p G2 H2 (e.trans e2) Q fun d G3 H3 e3 p => q d G3 H3 (e2.trans e3) p
  | false =>
    show tb σ H2 Q
    exact h2 p G2 H2 (e.trans e2) Q fun d G3 H3 e3 p => q d G3 H3 (e2.trans e3) p
end
end TH
/-! len(set(xs)) of texts, any number of them. -/
namespace TH
open PySem PySem.Spec PyProof.Rows L2
/-! ### one of each -/
def ddS (acc : List Str) : List Str → List Str
  | [] => acc
  | x :: r => ddS (if x ∈ acc then acc else acc ++ [x]) r
theorem ddS_snoc : ∀ (l acc : List Str) (x : Str), ddS acc (l ++ [x]) = if x ∈ ddS acc l then ddS acc l else ddS acc l ++ [x]
  | [], acc, x => rfl
  | y :: l, acc, x => ddS_snoc l _ x
theorem ddS_mem : ∀ (l acc : List Str) (x : Str), x ∈ ddS acc l ↔ x ∈ acc ∨ x ∈ l
  | [], acc, x => by simp [ddS]
  | y :: l, acc, x => by
    show x ∈ ddS (if y ∈ acc then acc else acc ++ [y]) l ↔ _
    rw [ddS_mem l]
    by_cases h : y ∈ acc
    · rw [if_pos h]
      constructor
      · rintro (a | a)
        · exact .inl a
        · exact .inr (List.mem_cons_of_mem _ a)
      · rintro (a | a)
        · exact .inl a
        · rcases List.mem_cons.mp a with rfl | a
          · exact .inl h
          · exact .inr a
    · rw [if_neg h]
      simp only [List.mem_append, List.mem_cons]
      constructor
      · rintro ((a | a | a) | a)
        · exact .inl a
        · exact .inr (.inl a)
        · cases a
        · exact .inr (.inr a)
      · rintro (a | a | a)
        · exact .inl (.inl a)
        · exact .inl (.inr (.inl a))
        · exact .inr a
theorem ddS_le : ∀ (l acc : List Str), (ddS acc l).length ≤ acc.length + l.length
  | [], acc => Nat.le_refl _
  | y :: l, acc => by
    have h := ddS_le l (if y ∈ acc then acc else acc ++ [y])
    show (ddS (if y ∈ acc then acc else acc ++ [y]) l).length ≤ _
    by_cases c : y ∈ acc
    · rw [if_pos c] at h ⊢
      rw [List.length_cons]
      omega
    · rw [if_neg c] at h ⊢
      rw [List.length_append, List.length_singleton] at h
      rw [List.length_cons]
      omega
/-- as many as there are: none twice -/
theorem ddS_eq : ∀ (l acc : List Str), (ddS acc l).length = acc.length + l.length ↔ l.Nodup ∧ ∀ x ∈ l, x ∉ acc
  | [], acc => by simp [ddS]
  | y :: l, acc => by
    show (ddS (if y ∈ acc then acc else acc ++ [y]) l).length = _ ↔ _
    by_cases c : y ∈ acc
    · rw [if_pos c]
      have h := ddS_le l acc
      rw [List.length_cons]
      constructor
      · intro e; omega
      · intro ⟨_, e⟩; exact absurd c (e y List.mem_cons_self)
    · rw [if_neg c]
      have ih := ddS_eq l (acc ++ [y])
      rw [List.length_append, List.length_singleton] at ih
      rw [List.length_cons, show acc.length + (l.length + 1) = acc.length + 1 + l.length by omega, ih, List.nodup_cons]
      constructor
      · rintro ⟨h1, h2⟩
        refine ⟨⟨fun m => h2 y m (by simp), h1⟩, fun x hx => ?_⟩
        rcases List.mem_cons.mp hx with rfl | hx
        · exact c
        · exact fun m => h2 x hx (by simp [m])
      · rintro ⟨⟨h1, h2⟩, h3⟩
        refine ⟨h2, fun x hx m => ?_⟩
        rcases List.mem_append.mp m with m | m
        · exact h3 x (List.mem_cons_of_mem _ hx) m
        · rw [List.mem_singleton] at m
          subst m
          exact h1 hx
theorem ddS_nodup (l : List Str) : (ddS [] l).length = l.length ↔ l.Nodup := by
  have h := ddS_eq l []
  simpa using h
/-! ### the set that a list is made into -/
/-- the set at S holds what stands among the first i -/
def HoldsF (P : Program) (w : World) (h : Heap) (S : Addr) (xs : List Str) (i : Nat) : Prop := h.SetOf (PySem.strKind P w) S (fun k => decide (k ∈ xs.take i)) (ddS [] (xs.take i)).length
theorem HoldsF.at {P : Program} {w : World} {h h' : Heap} {S : Addr} {xs : List Str} {i : Nat} (x : HoldsF P w h S xs i) (k : ∀ o, h.get? S = some o → h'.get? S = some o) : HoldsF P w h' S xs i := by
  obtain ⟨o, es, ep, t, ho, rest⟩ := x
  exact ⟨o, es, ep, t, k o ho, rest⟩
section
variable {P : Program} {w : World} {A : Around} {E : Value → Shared → Prop} {s : Shared} {S : Addr} {xs : List Str}
/-- one more is put in -/
theorem put_one {i : Nat} {x : Str} {t : Tok} {Q : Bool → Shared → Prop} (hx : xs[i]? = some x) (hs : HoldsF P w s.heap S xs i) (hb : xs.length < 4000)
    (h : ∀ (b : Bool) (h' : Heap), Heap.SameBut S s.heap h' → HoldsF P w h' S xs (i + 1) → Q b { s with heap := h', toks := s.toks + 1 }) : wpAny (model P w) A (setAdd S (.str x t)) Q E s := by
  have hi : i < xs.length := (List.getElem?_eq_some_iff.mp hx).1
  have e1 : xs.take (i + 1) = xs.take i ++ [x] := by rw [List.take_succ, hx]; rfl
  have hl := ddS_le (xs.take i) []
  have hl2 := List.length_take_le i xs
  unfold setAdd
  refine wpAny_holding (wpAny_bind ((PySem.strKind P w).pyHash (strKind_is _ _ x t) ?_))
  refine wpAny_setAddHashed_of (knd := PySem.strKind P w) (s := { s with toks := s.toks + 1 }) (strKind_is _ _ x t) rfl hs (by
    have : scanBound = 4096 := rfl
    simp only [List.length_nil] at hl
    omega) fun h' sb new => ?_
  refine h _ h' sb ?_
  refine SetOf_congr new (fun k => ?_) ?_
  · rw [e1]
    by_cases c : k ∈ xs.take i
    · simp [c]
    · by_cases d : k = x
      · subst d; simp
      · simp [c, d]
  · rw [e1, ddS_snoc]
    by_cases c : x ∈ xs.take i
    · have c' : x ∈ ddS [] (xs.take i) := (ddS_mem _ _ _).mpr (.inr c)
      rw [if_pos c']
      simp [c]
    · have c' : x ∉ ddS [] (xs.take i) := fun m => by
        rcases (ddS_mem _ _ _).mp m with m | m
        · cases m
        · exact c m
      rw [if_neg c']
      simp [c]
end
section
variable {P : Program} {w : World} {A : Around} {R : Result → Shared → Prop} {I S : Addr} {fp wr : List Addr} {Gg : Array GenState → Array GenState → Prop} {n : Nat} {Pv : Nat → Value → Prop} {St : Nat → Shared → Prop} {xs : List Str}
theorem put_all (Wk : WalksS P w A.in1 I fp wr Gg n Pv St) (nf : S ∉ fp) (en : xs.length = n) (hb : xs.length < 4000) (hv : ∀ i v, Pv i v → ∃ (x : Str) (t : Tok), xs[i]? = some x ∧ v = Value.str x t) :
    ∀ (k i : Nat) (s : Shared), i + k = n → St i s → HoldsF P w s.heap S xs i → (∀ s', Moved (S :: wr) Gg s s' → HoldsF P w s'.heap S xs n → R (.ok (.ret .none)) s') →
      codeAny (model P w) A (.builtin "set.update.loop" ⟨[.ref S, .ref I], []⟩) R s := by
  have nw : S ∉ wr := fun z => nf (Wk.sub _ z)
  intro k
  induction k with
  | zero =>
    intro i s e st hs hR
    obtain rfl : i = n := e
    refine codeAny_builtin PyProof.Rows.F.entry_set_update_loop ?_
    rw [Around.under_plainId PyProof.Rows.F.plain_set_update_loop _]
    refine wpAny_bind (Wk.done s _ _ st fun s1 m1 => ?_)
    exact wpAny_pure (hR s1 (m1.mono fun _ z => List.mem_cons_of_mem _ z) (hs.at fun o q => m1.heap S o nw q))
  | succ k ih =>
    intro i s e st hs hR
    have hlt : i < n := by omega
    refine codeAny_builtin PyProof.Rows.F.entry_set_update_loop ?_
    rw [Around.under_plainId PyProof.Rows.F.plain_set_update_loop _]
    refine wpAny_bind (Wk.item i s _ _ hlt st fun v s1 pv st1 m1 => ?_)
    obtain ⟨x, t, hx, rfl⟩ := hv i v pv
    have hs1 : HoldsF P w s1.heap S xs i := hs.at fun o q => m1.heap S o nw q
    refine wpAny_bind (wpAny_holding (put_one hx hs1 hb fun b h' sb new => ?_))
    have old : ∀ b, b ≠ S → ∀ o, s1.heap.get? b = some o → h'.get? b = some o := fun b hn o q => (sb.2 b hn).trans q
    refine wpAny_pure ⟨plainId_quiet PyProof.Rows.F.plain_set_update_loop _, ih (i + 1) _ (by omega) (Wk.frame _ s1 _ _ st1 (Nat.le_succ _) fun b hb => old b fun z => nf (z ▸ hb)) new fun s2 m2 hs2 => ?_⟩
    exact hR s2 (Moved.trans Wk.gtrans ((m1.mono fun _ z => List.mem_cons_of_mem _ z).then_heap (Nat.le_succ _) fun b o hb q => old b (fun z => hb (z ▸ List.mem_cons_self)) o q) m2) hs2
end
section
variable {P : Program} {w : World} {A : Around} {E : Value → Shared → Prop} {s : Shared}
/-- set(xs) of a list, of a tuple of texts -/
theorem set_of_seq {T : String} {l : Addr} {items : Array Value} {xs : List Str} {Q : Value → Shared → Prop} (hT : T = "list" ∨ T = "tuple") (hh : A.handled = none) (hl : ∃ o, s.heap.get? l = some o ∧ o.cls = .type T ∧ ∃ n, o.data = .seq items n)
    (hv : ∀ (i : Nat) (v : Value), items[i]? = some v → ∃ (x : Str) (t : Tok), xs[i]? = some x ∧ v = Value.str x t) (en : xs.length = items.size) (hb : xs.length < 4000)
    (h : ∀ (h' : Heap) (tk : Nat), HoldsF P w h' s.heap.objs.size xs xs.length → (∀ b o, s.heap.get? b = some o → h'.get? b = some o) → Q (.ref s.heap.objs.size) { s with heap := h', toks := tk }) :
    wpAny (model P w) A (call (.type "set") [.ref l]) Q E s := by
  obtain ⟨c, tl, m1⟩ := PySem.F.called_set.mro
  have m2 := PySem.F.called_set.made
  have m3 := PySem.F.called_set.sub
  have m4 := PySem.F.called_set.notType
  have m5 := PySem.F.called_set.canCreate
  have m6 := PySem.F.typeCall_set_1 (.ref l)
  refine wpAny_call (codeAny_of_tree ?_)
  show wpAny _ _ (callAny (.type "set") _) _ _ _
  refine wpAny_pure ⟨Code.quiet_builtin _ (by decide +kernel), codeAny_builtin PySem.F.entry_type_call ?_⟩
  rw [Around.under_plain (weight_type_call_type "set" [.ref l] []) rfl]
  repeat (any_goals (first | assumption | wp_step))
  refine codeAny_mono (code_set_new_1 (.ref l) (E := E) (Q₁ := fun u s1 => ∃ led : Bool, u = .ref s.heap.objs.size ∧ s1 = { s with heap := s.heap.push { cls := .type "set", dict := none, data := .set #[] 0 (.fresh 0 0 led) } }) fun led => ⟨led, rfl, rfl⟩) fun r s1 hr => ?_
  have hr : ∃ led : Bool, r = .ok (.ret (.ref s.heap.objs.size)) ∧ s1 = { s with heap := s.heap.push { cls := .type "set", dict := none, data := .set #[] 0 (.fresh 0 0 led) } } ∨ ∃ e, r = .error e ∧ E e s1 := by
    cases r with
    | error e => exact ⟨true, .inr ⟨e, rfl, hr⟩⟩
    | ok fl =>
      cases fl with
      | ret u =>
        obtain ⟨led, a, b⟩ := hr
        exact ⟨led, .inl ⟨by rw [a], b⟩⟩
      | _ => exact hr.elim
  obtain ⟨led, ⟨rfl, rfl⟩ | ⟨e, rfl, he⟩⟩ := hr
  rotate_left
  · exact he
  have g0 : (s.heap.push { cls := .type "set", dict := none, data := .set #[] 0 (.fresh 0 0 led) }).get? s.heap.objs.size = some { cls := .type "set", dict := none, data := .set #[] 0 (.fresh 0 0 led) } := Heap.get?_push_size _ rfl
  have tT : Shared.TypeIs { s with heap := s.heap.push { cls := .type "set", dict := none, data := .set #[] 0 (.fresh 0 0 led) } } (.ref s.heap.objs.size) "set" := ⟨_, g0, rfl⟩
  have n1 := PySem.F.called_set.init.lookup
  have n2 := PySem.F.called_set.init.bind (.ref s.heap.objs.size)
  repeat (any_goals (first | assumption | wp_step))
  refine codeAny_mono (codeAny_call_builtin (R := wants (fun r s2 => r = .none ∧ ∃ h' tk, s2 = { s with heap := h', toks := tk } ∧ HoldsF P w h' s.heap.objs.size xs xs.length ∧ ∀ b o, s.heap.get? b = some o → h'.get? b = some o) E)
    PySem.F.called_set.init.plain PySem.F.entry_set_init (check_set_init_1 tT ?_)) fun r2 s2 hr2 => ?_
  · obtain ⟨ol, hol, hcl, nl, hdl⟩ := hl
    obtain ⟨ocls, odict, odata, oslots⟩ := ol
    simp only at hcl hdl
    subst hcl
    subst hdl
    have gl : (s.heap.push { cls := .type "set", dict := none, data := .set #[] 0 (.fresh 0 0 led) }).get? l = some { cls := .type T, dict := odict, data := .seq items nl, slots := oslots } := Heap.get?_push_of_some _ hol
    have s1 : isSubtype (.type T) (.type "set") = pure false := by
      rcases hT with rfl | rfl
      · exact PySem.F.sub_list_set
      · exact PySem.F.sub_tuple_set
    have s2 : isSubtype (.type T) (.type "frozenset") = pure false := by
      rcases hT with rfl | rfl
      · exact PySem.F.sub_list_frozenset
      · exact PySem.F.sub_tuple_frozenset
    have s3 : (Value.type T == Value.type "dict") = false := by
      rcases hT with rfl | rfl
      · decide
      · decide
    unfold Builtin.«set.__init__» noKeywords Builtin.Frozenset.updateFrom
    generalize hPI : pyIter = PI
    wp_walk
    subst hPI
    have l1 : l < s.heap.objs.size := Heap.lt_size hol
    have ln : l ≠ (s.heap.push { cls := .type "set", dict := none, data := .set #[] 0 (.fresh 0 0 led) }).objs.size := by
      rw [Heap.size_push]
      exact Nat.ne_of_lt (Nat.lt_succ_of_lt l1)
    have nf : s.heap.objs.size ∉ [(s.heap.push { cls := .type "set", dict := none, data := .set #[] 0 (.fresh 0 0 led) }).objs.size, l] := fun z => by
      rcases List.mem_cons.mp z with z | z
      · rw [Heap.size_push] at z
        exact absurd z (Nat.ne_of_lt (Nat.lt_succ_self _))
      · exact absurd (List.mem_singleton.mp z) (Nat.ne_of_gt l1)
    have fin : ∀ (it : Obj) (s' : Shared), Moved (s.heap.objs.size :: [(s.heap.push { cls := .type "set", dict := none, data := .set #[] 0 (.fresh 0 0 led) }).objs.size]) (fun a b => b = a) { s with heap := (s.heap.push { cls := .type "set", dict := none, data := .set #[] 0 (.fresh 0 0 led) }).push it } s' → HoldsF P w s'.heap s.heap.objs.size xs items.size →
        ∃ h' tk, s' = { s with heap := h', toks := tk } ∧ HoldsF P w h' s.heap.objs.size xs xs.length ∧ ∀ b o, s.heap.get? b = some o → h'.get? b = some o := fun it s' mv hs => by
      obtain ⟨h', g', d', tk', os'⟩ := s'
      have e1 : g' = s.gens := mv.gens
      have e2 : d' = s.drawn := mv.drawn
      have e3 : os' = s.os := mv.os
      subst e1 e2 e3
      refine ⟨h', tk', rfl, by rw [en]; exact hs, fun b o e => ?_⟩
      have b1 := Heap.lt_size e
      refine mv.heap b o (fun z => ?_) (Heap.get?_push_of_some _ (Heap.get?_push_of_some _ e))
      rcases List.mem_cons.mp z with z | z
      · exact absurd z (Nat.ne_of_lt b1)
      · rw [List.mem_singleton, Heap.size_push] at z
        exact absurd z (Nat.ne_of_lt (Nat.lt_succ_of_lt b1))
    rcases hT with rfl | rfl
    · have gi : (s.heap.push { cls := .type "set", dict := none, data := .set #[] 0 (.fresh 0 0 led) }).IsList l items := ⟨_, gl, rfl, nl, rfl⟩
      refine wpAny_pyIter_list gi (wpAny_bind (wpAny_runValue ?_))
      refine put_all ((Walks.list (by simp [hh]) _ l ln items).toS) nf en hb hv items.size 0 _ (Nat.zero_add _) ⟨⟨_, Heap.get?_push_size _ rfl, rfl, rfl⟩, gi.push _⟩ ?_ fun s' mv hs => ?_
      · exact SetOf_congr ((setObjOf_fresh (knd := PySem.strKind P w) led).setOf (Heap.get?_push_of_some _ g0) (by unfold scanBound; omega)) (fun k => by simp) rfl
      · exact wpAny_pure (wpAny_pure ⟨rfl, fin _ s' mv hs⟩)
    · have gi : (s.heap.push { cls := .type "set", dict := none, data := .set #[] 0 (.fresh 0 0 led) }).IsTuple l items := ⟨_, gl, rfl, nl, rfl⟩
      refine wpAny_pyIter_tuple gi (wpAny_bind (wpAny_runValue ?_))
      refine put_all ((Walks.tuple (by simp [hh]) _ l ln items).toS) nf en hb hv items.size 0 _ (Nat.zero_add _) ⟨⟨_, Heap.get?_push_size _ rfl, rfl, rfl⟩, gi.push _⟩ ?_ fun s' mv hs => ?_
      · exact SetOf_congr ((setObjOf_fresh (knd := PySem.strKind P w) led).setOf (Heap.get?_push_of_some _ g0) (by unfold scanBound; omega)) (fun k => by simp) rfl
      · exact wpAny_pure (wpAny_pure ⟨rfl, fin _ s' mv hs⟩)
  · cases r2 with
    | error e => exact hr2
    | ok fl =>
      cases fl with
      | ret u =>
        obtain ⟨rfl, h', tk, rfl, hs, hk⟩ := hr2
        repeat (any_goals (first | assumption | wp_step))
        exact h h' tk hs hk
      | _ => exact hr2.elim
end
/-- set(xs) of texts: the new set has so many -/
def SetF (P : Program) (w : World) (a : Addr) (xs : List Str) : HO := .ext fun h => HoldsF P w h a xs xs.length
def rSetS (K : PySem.W.Frag) (P : Program) (w : World) : List V → Hp → VK → Prop := fun vs H Q => ∃ (l : Addr) (xs : List Str), vs = [.ref l] ∧ (SqL K H l (xs.map V.str) ∨ SqT K H l (xs.map V.str)) ∧ xs.length < 4000 ∧ ∀ p, H p = none → Q (.ref p) (upd H p (SetF P w p xs))
def rLenSetS (P : Program) (w : World) : List V → Hp → VK → Prop := fun vs H Q => ∃ (a : Addr) (xs : List Str), vs = [.ref a] ∧ H a = some (SetF P w a xs) ∧ xs.length < 4000 ∧ Q (.int ((ddS [] xs).length : Nat)) H
section
variable {X : Cx}
theorem texts_at {xs : List Str} {its : List Value} (r : Vals (xs.map V.str) its) : (∀ (i : Nat) (v : Value), its.toArray[i]? = some v → ∃ (x : Str) (t : Tok), xs[i]? = some x ∧ v = Value.str x t) ∧ xs.length = its.toArray.size := by
  refine ⟨fun i v e => ?_, by rw [List.size_toArray, ← r.length, List.length_map]⟩
  have e' : its[i]? = some v := by rw [← e]; simp
  cases q : (xs.map V.str)[i]? with
  | none => rw [r.none_of q] at e'; cases e'
  | some y =>
    obtain ⟨u, hu, ru⟩ := r.get q
    rw [hu] at e'
    cases e'
    rw [List.getElem?_map] at q
    cases q2 : xs[i]? with
    | none => rw [q2] at q; cases q
    | some x =>
      rw [q2] at q
      cases q
      obtain ⟨t, rfl⟩ := ru
      exact ⟨x, t, rfl, rfl⟩
theorem cr_setS (hc : X.calm = true) : CallR X (.type "set") (rSetS X.K X.prog X.w) := by
  intro pins s σ H vs us Q I r h
  obtain ⟨l, xs, rfl, hq, hb, q⟩ := h
  rw [Vals.ref1 r]
  have fin : ∀ (h' : Heap) (tk : Nat), HoldsF X.prog X.w h' s.heap.objs.size xs xs.length → (∀ b o, s.heap.get? b = some o → h'.get? b = some o) → EP X pins σ Q (.ref s.heap.objs.size) { s with heap := h', toks := tk } := fun h' tk hs hk => by
    obtain ⟨o, es, ep, t, ho, rest⟩ := id hs
    refine ⟨.ref s.heap.objs.size, upd H s.heap.objs.size (SetF X.prog X.w s.heap.objs.size xs), I.laid (t' := tk) hk (Nat.le_refl _) ⟨hs, ⟨o, ho⟩, fun h1 h2 p k => HoldsF.at p k⟩, rfl, q _ (I.hok.fresh (Nat.le_refl _))⟩
  rcases hq with hq | hq
  · obtain ⟨its, rv, pl, hz⟩ := I.list hq
    obtain ⟨t1, t2⟩ := texts_at rv
    exact set_of_seq (.inl rfl) (I.ok.hd hc) pl.isList t1 t2 hb fin
  · obtain ⟨its, rv, pl, hz⟩ := I.tuple hq
    obtain ⟨t1, t2⟩ := texts_at rv
    exact set_of_seq (.inr rfl) (I.ok.hd hc) pl t1 t2 hb fin
theorem cr_lenSetS : CallR X (.builtin "len") (rLenSetS X.prog X.w) := by
  intro pins s σ H vs us Q I r h
  obtain ⟨a, xs, rfl, ha, hb, q⟩ := h
  rw [Vals.ref1 r]
  obtain ⟨o, es, ep, t, ho, hex, hd, _, _, _, hf, hn⟩ := (I.hok a _ ha).1
  have hn : es.size = (ddS [] (xs.take xs.length)).length := hn
  have hl := ddS_le xs []
  rw [List.take_length] at hn
  refine call_len_set ho hex hd hf (by rw [hn]; simp only [List.length_nil] at hl; omega) ⟨.int ((ddS [] xs).length : Nat), H, I.tok _, ⟨_, by rw [hn]⟩, q⟩
end
end TH
/-! A list grown by a tuple; a tuple's items numbered. -/
namespace TH
open PySem PySem.Spec PyProof.Rows L2
/-! ### xs.extend(t), t a tuple -/
theorem extend_tup (l : Addr) (items : Array Value) (n : Nat) (b : Addr) (ts : Array Value) (m : Nat) (dct : Option Addr) (sl : Array (Option Value))
    (ok : ¬ (!items.isEmpty && Builtin.List.listTooLong (items.size + ts.size)) = true) (h1 : items.size ≤ sizeLine) (h2 : items.size + ts.size ≤ sizeLine + 1) :
    Meets (Builtin.«list.extend» ⟨[.ref l, .ref b], []⟩) (fun _ R s => s.heap.get? l = some { cls := .type "list", dict := none, data := .seq items n, slots := #[] } ∧
      s.heap.get? b = some { cls := .type "tuple", dict := dct, data := .seq ts m, slots := sl } ∧
      R (.ok (.ret Value.none)) { s with heap := s.heap.update l (Obj.mapSeq (· ++ ts)) }) :=
  .of_wp fun prog w A R s h => by
    obtain ⟨hp, g, d, tk, os⟩ := s
    obtain ⟨g1, g2, h⟩ := h
    have f1 := PySem.AutoSeq1.sub_list_list
    have z : (items ++ ts).size ≤ sizeLine + 1 := by rw [Array.size_append]; exact h2
    wp_walk using (wpAny_updateSeq g1 rfl (hz := h1) (_hz' := z)), AutoSeq1.wpAny_loadPart' g1, AutoSeq1.wpAny_loadPart' g2
    exact ⟨_, rfl, h⟩
section
variable {X : Cx}
def rExtT (K : PySem.W.Frag) : V → List V → Hp → VK → Prop := fun x vs H Q => ∃ l b xs zs, x = .ref l ∧ vs = [.ref b] ∧ H l = some (.lst xs) ∧ SqT K H b zs ∧ xs.length + zs.length ≤ sizeLine ∧ Q .non (upd H l (.lst (xs ++ zs)))
theorem mt_extT : MtM X "list.extend" (rExtT X.K) := by
  intro pins s σ H x vs v us Q I rx rv h
  obtain ⟨l, b, xs, zs, rfl, rfl, hH, hB, hz, q⟩ := h
  cases rx
  obtain ⟨u, rfl, ru⟩ := rv.one
  cases ru
  obtain ⟨z, its, n, r, hl, e⟩ := I.lstM hH
  obtain ⟨its2, r2, ⟨ob, e2, hc2, m, hd2⟩, hl2⟩ := I.tuple hB
  obtain ⟨oc, od, dt, sl⟩ := ob
  simp only at hc2 hd2
  subst hc2 hd2
  have q2 := r2.length
  have big : its.toArray.size + its2.toArray.size ≤ sizeLine := by rw [List.size_toArray, List.size_toArray]; omega
  have ok : ¬ (!its.toArray.isEmpty && Builtin.List.listTooLong (its.toArray.size + its2.toArray.size)) = true := by
    rw [notLongL big, Bool.and_false]
    exact Bool.false_ne_true
  refine call_meets F.slot_list_extend ⟨_, e, rfl⟩ F.entry_list_extend (F.args_list_extend_2 _ _) (extend_tup l its.toArray n b its2.toArray m od sl ok (by rw [List.size_toArray]; omega) (by omega)) ⟨e, e2, ?_⟩
  refine ⟨.non, _, I.lset (its' := its ++ its2) hH e (by simp) (r.append r2) ?_, rfl, q⟩
  rw [List.length_append]
  omega
end
/-! ### enumerate(t), t a tuple -/
theorem enum_newT (l : Addr) (items : Array Value) (n : Nat) (dct : Option Addr) (sl : Array (Option Value)) :
    Meets (Builtin.«enumerate.__new__» ⟨[.type "enumerate", .ref l], []⟩) (fun _ R s => s.heap.get? l = some { cls := .type "tuple", dict := dct, data := .seq items n, slots := sl } ∧
      R (.ok (.ret (.ref (s.heap.push { cls := .type "tuple_iterator", data := .fields #[.ref l, .int 0 0] }).objs.size)))
        { s with heap := (s.heap.push { cls := .type "tuple_iterator", data := .fields #[.ref l, .int 0 0] }).push { cls := .type "enumerate", data := .fields #[.none, .bool false, .ref s.heap.objs.size, rawInt 0, .none, .none] } }) :=
  .of_wp fun prog w A R s h => by
    obtain ⟨hp, g, d, tk, os⟩ := s
    obtain ⟨g1, h⟩ := h
    have f1 := sub_enumerate
    have gT : Heap.IsTuple (Shared.heap ⟨hp, g, d, tk, os⟩) l items := ⟨_, g1, rfl, n, rfl⟩
    wp_walk using AutoSeq1.wpAny_loadPart' g1
    refine wpAny_stack_any fun st => wpAny_pure ?_
    split
    · rename_i c _ _ _ _ _
      cases (c == Value.type "enumerate")
      · wp_walk using AutoSeq1.wpAny_loadPart' g1, wpAny_pyIter_tuple gT
        exact ⟨_, rfl, h⟩
      · wp_walk using AutoSeq1.wpAny_loadPart' g1, wpAny_pyIter_tuple gT
        exact ⟨_, rfl, h⟩
    · wp_walk using AutoSeq1.wpAny_loadPart' g1, wpAny_pyIter_tuple gT
      exact ⟨_, rfl, h⟩
theorem call_enumT {prog : Program} {w : World} {A : Around} {E : Value → Shared → Prop} {s : Shared} {l : Addr} {items : Array Value} {Q : Value → Shared → Prop} (hT : s.heap.IsTuple l items)
    (h : ∀ h', IsEnum h' (s.heap.objs.size + 1) s.heap.objs.size 0 .none → h'.IsTupleIter s.heap.objs.size l 0 → (∀ b o, s.heap.get? b = some o → h'.get? b = some o) → Q (.ref (s.heap.objs.size + 1)) { s with heap := h' }) :
    wpAny (model prog w) A (call (.type "enumerate") [.ref l]) Q E s := by
  obtain ⟨⟨c, dct, dt, sl⟩, hl, hc, n, hd⟩ := hT
  simp only at hc hd
  subst hc hd
  refine callType_new F.called_enumerate (by decide) (F.typeCall_enumerate_1 _) (F.newCall_enumerate_1 _) (fun obj => F.args_object_init_2 obj _) F.entry_enumerate_new (enum_newT l items n dct sl) ⟨hl, ?_⟩
  have z : (s.heap.push { cls := .type "tuple_iterator", data := .fields #[.ref l, .int 0 0] }).objs.size = s.heap.objs.size + 1 := Heap.size_push ..
  have he : IsEnum ((s.heap.push { cls := .type "tuple_iterator", data := .fields #[.ref l, .int 0 0] }).push { cls := .type "enumerate", data := .fields #[.none, .bool false, .ref s.heap.objs.size, rawInt 0, .none, .none] }) (s.heap.objs.size + 1) s.heap.objs.size 0 .none := by
    have q := Heap.get?_push_size (s.heap.push { cls := .type "tuple_iterator", data := .fields #[.ref l, .int 0 0] }) (o := { cls := .type "enumerate", data := .fields #[.none, .bool false, .ref s.heap.objs.size, rawInt 0, .none, .none] }) rfl
    rw [z] at q
    exact q
  show _ ∧ _
  rw [z]
  exact ⟨⟨_, he, rfl⟩, h _ he ⟨_, Heap.get?_push_of_some _ (Heap.get?_push_size _ rfl), rfl, rfl⟩ fun b o x => Heap.get?_push_of_some _ (Heap.get?_push_of_some _ x)⟩
/-- the tuple at a, each item in a new pair -/
def IteT (K : PySem.W.Frag) (a : Addr) : It :=
  ⟨fun i H => ∃ (xs : List V) (x : V), SqT K H a xs ∧ xs[i]? = some x, fun i H v H' => ∃ T x, v = .ref T ∧ H T = none ∧ H' = upd H T (.tup [.int (i : Nat), x]) ∧ ∀ xs, SqT K H a xs → xs[i]? = some x, fun i H => ∃ xs : List V, SqT K H a xs ∧ xs.length = i⟩
theorem turn_enumT {P : Program} {w : World} {K : PySem.W.Frag} {elts : List Expr} {kk : Nat} {tpos : Pos} (a e it : Addr) :
    Turn P w K (.Tuple elts kk tpos) (IteT K a) [e, it] e (fun i h => (∃ old, IsEnum h e it ((i : Nat) : Int) old) ∧ h.IsTupleIter it a i ∧ e ≠ it ∧ a ≠ it ∧ a ≠ e) where
  mem := by simp
  obj := fun i h st b hb => by
    obtain ⟨⟨old, he⟩, ⟨o, ho, hc, hd⟩, _⟩ := st
    rcases List.mem_cons.mp hb with z | z
    · rw [z]; exact ⟨_, he, fun v q => nomatch q⟩
    · rw [List.mem_singleton.mp z]; exact ⟨o, ho, fun v q => by rw [hd] at q; cases q⟩
  keep := fun i h h' st k => let ⟨⟨old, he⟩, hi, hne⟩ := st; ⟨⟨old, k e (by simp) _ he⟩, hi.at fun o q => k it (by simp) o q, hne⟩
  item := by
    intro X hP hw hK hc i pins s σ H E I hf st hg
    subst hP hw hK
    obtain ⟨⟨old, he⟩, hit, hne, ha1, ha2⟩ := st
    obtain ⟨xs, x, hq, hx⟩ := hg
    obtain ⟨its, rv, p, hz⟩ := I.tuple hq
    obtain ⟨u, hu, ru⟩ := rv.get hx
    have hel : e < s.heap.objs.size := Heap.lt_size he
    have hil : it < s.heap.objs.size := by obtain ⟨_, q, _⟩ := hit; exact Heap.lt_size q
    have hlt : i < its.toArray.size := by simpa using (List.getElem?_eq_some_iff.mp hu).1
    refine wpAny_pyNext_enum_itemD (Draws.tuple (by simp [I.ok.hd hc]) it a ha1 its.toArray) he ⟨hit, p⟩ hlt hne (by simp [hne, Ne.symm ha2]) fun y h' tk hy ho st' hT hsz hk => ?_
    have ey : y = u := by
      have hy : its.toArray[i]? = some y := hy
      rw [List.getElem?_toArray, hu] at hy
      exact (Option.some.inj hy).symm
    subst ey
    refine ⟨_, rfl, wpAny_letOwnedTupleGo_enum (s := { s with heap := h', toks := tk + 1 }) ho fun h'' he' sb => ?_⟩
    have hT2 : h''.get? s.heap.objs.size = some { cls := .type "tuple", data := .seq #[.int i tk, y] } := (sb.2 _ (Nat.ne_of_gt hel)).trans hT
    have new : ObjOk X.prog X.w (upd H s.heap.objs.size (.tup [.int (i : Nat), x])) h'' s.heap.objs.size (.tup [.int (i : Nat), x]) :=
      ⟨by show 2 ≤ sizeLine; decide, [.int i tk, y], .cons ⟨_, rfl⟩ (.cons ru .nil), ⟨_, hT2, rfl, _, rfl⟩⟩
    have I1 : Inv X pins σ (upd H s.heap.objs.size (.tup [.int (i : Nat), x])) { s with heap := h'', toks := tk + 1 } :=
      I.turnedNew (ch := [e, it]) (fun b ob hb q => (sb.2 b (fun z => hb (by simp [z]))).trans (hk b ob (fun z => hb (by simp [z])) (fun z => hb (by simp [z])) q)) hf (Nat.le_refl _) new
    refine ⟨.ref s.heap.objs.size, _, I1, rfl, ⟨_, x, rfl, I.hok.fresh (Nat.le_refl _), rfl, fun ys hy => by rw [I.tuple_inj hy hq]; exact hx⟩, ⟨⟨y, ?_⟩, st'.1.at fun o q => (sb.2 it (Ne.symm hne)).trans q, hne, ha1, ha2⟩, fun b hb => ?_⟩
    · have e1 : ((i + 1 : Nat) : Int) = (i : Int) + 1 := by omega
      rw [e1]; exact he'
    · have hb' : b < s.heap.objs.size := by
        rcases List.mem_cons.mp hb with z | z
        · rw [z]; exact hel
        · rw [List.mem_singleton.mp z]; exact hil
      rw [upd_ne (Nat.ne_of_lt hb')]
      exact (hf b hb).1
  done := by
    intro X hP hw hK hc i pins s σ H E I hf st hg
    subst hP hw hK
    obtain ⟨⟨old, he⟩, hit, hne, ha1, ha2⟩ := st
    obtain ⟨xs, hq, hx⟩ := hg
    obtain ⟨its, rv, p, hz⟩ := I.tuple hq
    obtain ⟨f0, f1, f2, f3, f4, f5⟩ := hf it (by simp)
    have hl := rv.length
    have ei : i = its.toArray.size := by rw [List.size_toArray, ← hl, hx]
    subst ei
    exact wpAny_pyNext_enum_endD (Draws.tuple (by simp [I.ok.hd hc]) it a ha1 its.toArray) he ⟨hit, p⟩ fun h' eb => ⟨rfl, I.turned (t' := s.toks) (fun b o hb q => eb b o hb q) f0 f1 f3 f4 f5⟩
  self := fun A i s Q E st h => let ⟨⟨_, he⟩, _⟩ := st; wpAny_pyIter_enum he h
def iEnumT (K : PySem.W.Frag) (ta : TA) : TI := fun σ H R => ta σ H fun vs H1 => ∃ a xs, vs = [.ref a] ∧ SqT K H1 a xs ∧ R (IteT K a) H1
theorem pi_enumT {X : Cx} {e : Expr} {ta : TA} {p pos tpos : Pos} {elts : List Expr} {kk : Nat} (hg : Gl X "enumerate") (hm : X.mg "enumerate" = none) (ha : PA X [e] ta) (hs : starEach [e] X.env = [(false, eval e X.env)] := by rfl) :
    PI X (.Tuple elts kk tpos) (.Call (.Name "enumerate" p) [e] [] pos) (iEnumT X.K ta) := by
  refine ⟨fun pins s σ H R I h => ?_⟩
  refine Call_ (ld_blt I hg hm boot_enumerate (PyProof.Rows.callWith_type1 (thn (ha.run pos pins s σ H _ I h) fun us s1 ⟨vs, H1, I1, r1, a, xs, ex, hq, q⟩ => ?_) hs rfl))
  subst ex
  rw [Vals.ref1 r1]
  obtain ⟨its, rv, p', hz⟩ := I1.tuple hq
  have al : a < s1.heap.objs.size := p'.lt
  refine call_enumT p' fun h' he hit hk => wpAny_pyIter_enum he ?_
  refine ⟨s1.heap.objs.size + 1, [s1.heap.objs.size + 1, s1.heap.objs.size], _, _, H1, rfl, I1.kept (t' := s1.toks) hk, turn_enumT a (s1.heap.objs.size + 1) s1.heap.objs.size, ⟨⟨.none, he⟩, hit, Nat.succ_ne_self _, Nat.ne_of_lt al, Nat.ne_of_lt (Nat.lt_succ_of_lt al)⟩, fun b hb => ?_, q⟩
  have hle : s1.heap.objs.size ≤ b := by
    rcases List.mem_cons.mp hb with z | z
    · rw [z]; exact Nat.le_succ _
    · rw [List.mem_singleton.mp z]; exact Nat.le_refl _
  exact I1.fpOk hle (I1.hok.fresh hle)
end TH
/-! Readings over (G, H): calls, fields, new things, comprehensions, statements, loops. -/
namespace TH
open PySem L2
variable [TC : TabC]

/-! ### new things, not yet frozen -/
def EvN (M : Md) (te : TE) (σ : L2.St) (G H : Hp) (φ : Hp → HO → Prop) : Prop := ∀ G1 H1, Go M G H G1 H1 → ∀ Q : VK, (∀ p o G2 H2, Go M G1 H1 G2 H2 → H1 p = none → G2 p = none → H2 p = some o → φ G2 o → Q (.ref p) H2) → te σ H1 Q
/-- a list of these -/
def FL (rs : List Rl) : Hp → HO → Prop := fun G o => ∃ vs, o = .lst vs ∧ Al G rs vs
section
variable {K : PySem.W.Frag} {M : Md} {σ : L2.St} {G H G' H' : Hp} {ta tb te tc : TE} {t u : TT} {r s : Rl} {v v0 : V} {i j : Int} {n m : Nat} {rs ss : List Rl} {φ : Hp → HO → Prop}
theorem EvN.mono (h : EvN M te σ G H φ) (e : Go M G H G' H') : EvN M te σ G' H' φ := fun G1 H1 a Q q => h G1 H1 (e.trans a) Q q
theorem EvN.imp {ψ : Hp → HO → Prop} (h : EvN M te σ G H φ) (k : ∀ G o, φ G o → ψ G o) : EvN M te σ G H ψ := fun G1 H1 a Q q => h G1 H1 a Q fun p o G2 H2 b n1 n2 n3 f => q p o G2 H2 b n1 n2 n3 (k G2 o f)
/-- it is frozen as it stands -/
theorem EvN.fix (h : EvN M te σ G H φ) (k : ∀ G1 G2 p o, φ G1 o → Le G1 G2 → G2 p = some o → r.P G2 (.ref p)) : Ev M te σ G H r := fun G1 H1 a Q q =>
  h G1 H1 a Q fun p o G2 H2 b n1 n2 n3 f => q (.ref p) (upd G2 p o) H2 ⟨b.gr.fix n1 n2 n3, b.j⟩ (k G2 (upd G2 p o) p o f (Le.new n2) upd_same)
theorem EvN.lst (h : EvN M te σ G H (FL rs)) : Ev M te σ G H (rLst K rs) := h.fix fun G1 G2 p o f e g => by
  obtain ⟨vs, rfl, ps⟩ := f
  exact ⟨p, vs, rfl, .of g, ps.mono e⟩
theorem en_lst {ta : TA} (h : EvA M ta σ G H rs) (hl : rs.length ≤ 100000 := by decide) : EvN M (tLst ta) σ G H (FL rs) := fun G1 H1 a Q q =>
  h G1 H1 a _ fun vs G2 H2 b ps => ⟨ps.bound hl, fun p hp => by
    have c := b.at.own (o := .lst vs) hp
    refine q p (.lst vs) G2 _ (b.trans c) ?_ (b.at.le.free hp) upd_same ⟨vs, rfl, ps⟩
    cases e : H1 p with
    | none => rfl
    | some o => exact absurd hp (b.gr.dm p (by rw [e]; exact fun z => nomatch z))⟩
theorem new_back {a : Go M G H G' H'} {p : Addr} (hp : H' p = none) : H p = none := by
  cases e : H p with
  | none => rfl
  | some o => exact absurd hp (a.gr.dm p (by rw [e]; exact fun z => nomatch z))
theorem Go.back (a : Go M G H G' H') {p : Addr} (hp : H' p = none) : H p = none := new_back (a := a) hp
theorem en_dict : EvN M tDNewK σ G H (fun _ o => o = .dK []) := fun G1 H1 a Q q p hp =>
  q p (.dK []) G1 _ (a.at.own hp) hp (a.at.le.free hp) upd_same rfl
/-- list(x) of a frozen list, of a frozen tuple -/
def rSeq (K : PySem.W.Frag) (rs : List Rl) : Rl := ⟨fun G v => ∃ a vs, v = .ref a ∧ (SqL K G a vs ∨ SqT K G a vs) ∧ Al G rs vs, fun e ⟨a, vs, h1, h2, h3⟩ => ⟨a, vs, h1, h2.elim (fun z => .inl (e.seqL z)) (fun z => .inr (e.seqT z)), h3.mono e⟩⟩
theorem rSeq_l {G : Hp} {v : V} (h : (rLst K rs).P G v) : (rSeq K rs).P G v := let ⟨a, vs, h1, h2, h3⟩ := h; ⟨a, vs, h1, .inl h2, h3⟩
theorem rSeq_t {G : Hp} {v : V} (h : (rTup K rs).P G v) : (rSeq K rs).P G v := let ⟨a, vs, h1, h2, h3⟩ := h; ⟨a, vs, h1, .inr h2, h3⟩
theorem Ev.sl (h : Ev M te σ G H (rLst K rs)) : Ev M te σ G H (rSeq K rs) := h.imp fun _ _ => rSeq_l
theorem Ev.st (h : Ev M te σ G H (rTup K rs)) : Ev M te σ G H (rSeq K rs) := h.imp fun _ _ => rSeq_t
theorem ev_one {z : Rl} {rr : List V → Hp → VK → Prop} (h : Ev M ta σ G H r) (hr : ∀ G1 H1 x, Go M G H G1 H1 → r.P G1 x → ∀ Q : VK, (∀ v G2 H2, Go M G1 H1 G2 H2 → z.P G2 v → Q v H2) → rr [x] H1 Q) : Ev M (tCB rr (tCons ta tNil)) σ G H z := fun G1 H1 a Q q =>
  h G1 H1 a _ fun x G2 H2 b p => hr G2 H2 x (a.trans b) p Q fun v G3 H3 c p' => q v G3 H3 (b.trans c) p'
theorem en_one {rr : List V → Hp → VK → Prop} (h : Ev M ta σ G H r) (hr : ∀ G1 H1 x, Go M G H G1 H1 → r.P G1 x → ∀ Q : VK, (∀ p o G2 H2, Go M G1 H1 G2 H2 → H1 p = none → G2 p = none → H2 p = some o → φ G2 o → Q (.ref p) H2) → rr [x] H1 Q) : EvN M (tCB rr (tCons ta tNil)) σ G H φ := fun G1 H1 a Q q =>
  h G1 H1 a _ fun x G2 H2 b p => hr G2 H2 x (a.trans b) p Q fun v o G3 H3 c n1 n2 n3 f => q v o G3 H3 (b.trans c) (b.back n1) n2 n3 f
theorem en_list (h : Ev M ta σ G H (rSeq K rs)) : EvN M (tCB (fun xs H Q => ∃ p ys, xs = [.ref p] ∧ (SqL K H p ys ∨ SqT K H p ys) ∧ ∀ l, H l = none → Q (.ref l) (upd H l (.lst ys))) (tCons ta tNil)) σ G H (FL rs) :=
  en_one h fun G1 H1 x a p Q q => by
    obtain ⟨b, vs, rfl, h2, h3⟩ := p
    exact ⟨b, vs, rfl, h2.elim (fun z => .inl (a.at.le.seqL z)) (fun z => .inr (a.at.le.seqT z)), fun l hl => q l _ G1 _ (a.at.own hl) hl (a.at.le.free hl) upd_same ⟨vs, rfl, h3⟩⟩
/-- tuple(x) -/
theorem ev_tuple (h : Ev M ta σ G H (rSeq K rs)) : Ev M (tCB (fun xs H Q => ∃ p ys, xs = [.ref p] ∧ ((SqL K H p ys ∧ ∀ l, H l = none → Q (.ref l) (upd H l (.tup ys))) ∨ (SqT K H p ys ∧ Q (.ref p) H))) (tCons ta tNil)) σ G H (rTup K rs) :=
  ev_one h fun G1 H1 x a p Q q => by
    obtain ⟨b, vs, rfl, h2, h3⟩ := p
    rcases h2 with h2 | h2
    · refine ⟨b, vs, rfl, .inl ⟨a.at.le.seqL h2, fun l hl => ?_⟩⟩
      have c := a.at.new (o := .tup vs) hl
      exact q _ _ _ c ⟨l, vs, rfl, .of upd_same, h3.mono c.gg⟩
    · exact ⟨b, vs, rfl, .inr ⟨a.at.le.seqT h2, q _ G1 H1 a.at.go ⟨b, vs, rfl, h2, h3⟩⟩⟩
theorem ev_len (h : Ev M ta σ G H (rSeq K rs)) : Ev M (tCB (fun xs H Q => ∃ p ys, xs = [.ref p] ∧ (SqL K H p ys ∨ SqT K H p ys) ∧ Q (.int ys.length) H) (tCons ta tNil)) σ G H (rInt rs.length) :=
  ev_one h fun G1 H1 x a p Q q => by
    obtain ⟨b, vs, rfl, h2, h3⟩ := p
    refine ⟨b, vs, rfl, h2.elim (fun z => .inl (a.at.le.seqL z)) (fun z => .inr (a.at.le.seqT z)), ?_⟩
    rw [← h3.length]
    exact q _ G1 H1 a.at.go rfl
theorem ev_lenS {z : Str} (h : Ev M ta σ G H (rStr z)) (hz : z.length ≤ sizeLine) : Ev M (tCB (fun xs H Q => ∃ z, xs = [.str z] ∧ z.length ≤ sizeLine ∧ Q (.int z.length) H) (tCons ta tNil)) σ G H (rInt z.length) :=
  ev_one h fun G1 H1 x a p Q q => ⟨z, by rw [show x = .str z from p], hz, q _ G1 H1 a.at.go rfl⟩
/-- x in t, of scalars -/
theorem Al.strs {G : Hp} {xs : List Str} {vs : List V} (h : Al G (xs.map rStr) vs) : vs = xs.map V.str := Al.vals h
theorem inV_strs (x : Str) (xs : List Str) : inV (.str x) (xs.map V.str) = decide (x ∈ xs) := by
  unfold inV
  rw [List.any_map, Bool.eq_iff_iff, List.any_eq_true, decide_eq_true_iff]
  constructor
  · rintro ⟨y, hy, e⟩
    have e : (y == x) = true := by simpa [eqV, Function.comp] using e
    rw [← eq_of_beq e]
    exact hy
  · intro hx
    refine ⟨x, hx, ?_⟩
    simp [eqV, Function.comp]
theorem ev_in {neg : Bool} {x : Str} {xs : List Str} (ha : Ev M ta σ G H (rStr x)) (hb : Ev M tb σ G H (rSeq K (xs.map rStr))) : Ev M (tOp (rIn K neg) ta tb) σ G H (rBl (if neg then !decide (x ∈ xs) else decide (x ∈ xs))) :=
  ev_op ha hb fun G1 H1 a b e p q Q k => by
    have p : a = .str x := p
    obtain ⟨l, vs, rfl, h2, h3⟩ := q
    have h4 := h3.strs
    subst h4
    refine ⟨l, _, rfl, h2.elim (fun z => .inl (e.at.le.seqL z)) (fun z => .inr (e.at.le.seqT z)), by rw [p]; rfl, flat_strs xs, ?_⟩
    rw [p, inV_strs]
    exact k _ G1 H1 e.at.go rfl
/-! ### all, any -/
theorem Al.bls {G : Hp} {bs : List Bool} {vs : List V} (h : Al G (bs.map rBl) vs) : vs = bs.map V.bl := Al.vals h
theorem Al.blsX {α : Type} {f : α → Bool} {G : Hp} {xs : List α} {vs : List V} (h : Al G (xs.map fun x => rBl (f x)) vs) : vs = (xs.map f).map V.bl := by
  rw [List.map_map]
  exact Al.vals (f := fun x => V.bl (f x)) h
theorem ev_all {α : Type} {f : α → Bool} {xs : List α} (h : Ev M ta σ G H (rLst K (xs.map fun x => rBl (f x)))) : Ev M (tCB (rAll K) (tCons ta tNil)) σ G H (rBl (xs.all f)) :=
  ev_one h fun G1 H1 x a p Q q => by
    obtain ⟨b, vs, rfl, h2, h3⟩ := p
    have h4 := h3.blsX
    subst h4
    refine ⟨b, xs.map f, rfl, a.at.le.seqL h2, ?_⟩
    rw [List.all_map]
    exact q _ G1 H1 a.at.go rfl
theorem ev_any {α : Type} {f : α → Bool} {xs : List α} (h : Ev M ta σ G H (rLst K (xs.map fun x => rBl (f x)))) : Ev M (tCB (rAny K) (tCons ta tNil)) σ G H (rBl (xs.any f)) :=
  ev_one h fun G1 H1 x a p Q q => by
    obtain ⟨b, vs, rfl, h2, h3⟩ := p
    have h4 := h3.blsX
    subst h4
    refine ⟨b, xs.map f, rfl, a.at.le.seqL h2, ?_⟩
    rw [List.any_map]
    exact q _ G1 H1 a.at.go rfl
/-- len(set(xs)) of texts -/
theorem ev_lenSet {P : Program} {w : World} {xs : List Str} (h : Ev M ta σ G H (rSeq K (xs.map rStr))) (hb : xs.length < 4000) : Ev M (tCB (rLenSetS P w) (tCons (tCB (rSetS K P w) (tCons ta tNil)) tNil)) σ G H (rInt ((ddS [] xs).length : Nat)) := fun G1 H1 a Q q =>
  h G1 H1 a _ fun x G2 H2 b p => by
    obtain ⟨l, vs, rfl, h2, h3⟩ := p
    have h4 := h3.strs
    subst h4
    refine ⟨l, xs, rfl, h2.elim (fun z => .inl (b.at.le.seqL z)) (fun z => .inr (b.at.le.seqT z)), hb, fun p hp => ⟨p, xs, rfl, upd_same, hb, ?_⟩⟩
    exact q _ _ _ (b.trans (b.at.own hp)) rfl
/-! ### calls -/
/-- a def that changes nothing: what it asks, of what it is handed, what it tells -/
def spP {ι : Type} (pre : ι → Hp → Hp → Prop) (args : ι → List Rl) (res : ι → Rl) : Sp := fun vs H Q _ => ∃ (i : ι) (G : Hp), Le G H ∧ pre i G H ∧ Al G (args i) vs ∧ ∀ v G' H', Gr [] G H G' H' → (res i).P G' v → Q v H'
theorem ev_call {ι : Type} {pre : ι → Hp → Hp → Prop} {args : ι → List Rl} {res : ι → Rl} {E : XK} {t : TA} (i : ι) (h : EvA M t σ G H (args i)) (hp : ∀ G1 H1, Go M G H G1 H1 → pre i G1 H1) : Ev M (tCall (spP pre args res) [] E t) σ G H (res i) := fun G1 H1 a Q q =>
  h G1 H1 a _ fun vs G2 H2 b ps => ⟨i, G2, b.at.le, hp G2 H2 (a.trans b), by rw [List.append_nil]; exact ps, fun v G3 H3 c p => q v G3 H3 (b.trans (Go.pure c b.j)) p⟩
/-- an instance of C without an attribute m of its own -/
def InsOf (C : Addr) (m : Str) (r : Rl) : Prop := ∀ G v, r.P G v → ∃ a dx fs, v = .ref a ∧ G a = some (.ins C dx fs) ∧ fs.lookup m = none
theorem ev_meth {ι : Type} {pre : ι → Hp → Hp → Prop} {args : ι → List Rl} {res : ι → Rl} {E : XK} {C : Addr} {m : Str} {t : TA} {rs : List Rl} (i : ι) (h0 : Ev M ta σ G H r) (hi : InsOf C m r) (h : EvA M t σ G H rs) (ea : args i = r :: rs) (hp : ∀ G1 H1, Go M G H G1 H1 → pre i G1 H1) :
    Ev M (tMeth C m (spP pre args res) [] E ta t) σ G H (res i) := fun G1 H1 a Q q =>
  h0 G1 H1 a _ fun x G2 H2 b p => by
    obtain ⟨c, dx, fs, e1, e2, e3⟩ := hi G2 x p
    refine ⟨c, dx, fs, e1, b.at.le.ins e2, e3, ?_⟩
    refine h G2 H2 (a.trans b) _ fun vs G3 H3 d ps => ⟨i, G3, d.at.le, hp G3 H3 ((a.trans b).trans d), ?_, fun v G4 H4 c p => q v G4 H4 ((b.trans d).trans (Go.pure c d.j)) p⟩
    rw [ea, List.append_nil]
    exact .cons (r.mono d.gg p) ps
/-! ### fields -/
def FAl (G : Hp) (fs : List (Str × Rl)) (vs : List (Str × V)) : Prop := Paired (fun (r : Str × Rl) (v : Str × V) => r.1 = v.1 ∧ r.2.P G v.2) fs vs
theorem FAl.mono {G G' : Hp} (e : Le G G') {fs : List (Str × Rl)} {vs : List (Str × V)} (h : FAl G fs vs) : FAl G' fs vs := L2.Paired.mapP h fun a _ q => ⟨q.1, a.2.mono e q.2⟩
theorem FAl.get {G : Hp} {f : Str} : ∀ {fs : List (Str × Rl)} {vs : List (Str × V)} {r : Rl}, FAl G fs vs → fs.lookup f = some r → ∃ v, vs.lookup f = some v ∧ r.P G v
  | _, _, _, .nil, e => by cases e
  | (x, r') :: fs, (y, v') :: vs, r, .cons h t, e => by
    have hxy : x = y := h.1
    have hp : r'.P G v' := h.2
    subst hxy
    rw [List.lookup_cons] at e ⊢
    cases c : f == x with
    | true => rw [c] at e; cases e; exact ⟨v', rfl, hp⟩
    | false => rw [c] at e; exact FAl.get t e
theorem FAl.none {G : Hp} {f : Str} : ∀ {fs : List (Str × Rl)} {vs : List (Str × V)}, FAl G fs vs → fs.lookup f = none → vs.lookup f = none
  | _, _, .nil, e => rfl
  | (x, r') :: fs, (y, v') :: vs, .cons h t, e => by
    have hxy : x = y := h.1
    subst hxy
    rw [List.lookup_cons] at e ⊢
    cases c : f == x with
    | true => rw [c] at e; cases e
    | false => rw [c] at e; exact FAl.none t e
def rIns (C : Addr) (fs : List (Str × Rl)) : Rl := ⟨fun G v => ∃ a dx vs, v = .ref a ∧ G a = some (.ins C dx vs) ∧ FAl G fs vs, fun e ⟨a, dx, vs, h1, h2, h3⟩ => ⟨a, dx, vs, h1, e.ins h2, h3.mono e⟩⟩
theorem insOf {C : Addr} {fs : List (Str × Rl)} {m : Str} (h : fs.lookup m = none) : InsOf C m (rIns C fs) := fun G v ⟨a, dx, vs, h1, h2, h3⟩ => ⟨a, dx, vs, h1, h2, h3.none h⟩
theorem ev_fld {C : Addr} {fs : List (Str × Rl)} {f : Str} (h : Ev M ta σ G H (rIns C fs)) (hf : fs.lookup f = some r) (c : Cls K C) (n : NoAttr K C f) : Ev M (tFld K ta f) σ G H r := fun G1 H1 a Q q =>
  h G1 H1 a _ fun x G2 H2 b p => by
    obtain ⟨d, dx, vs, e1, e2, e3⟩ := p
    obtain ⟨v, e4, e5⟩ := e3.get hf
    exact ⟨d, C, dx, vs, v, e1, b.at.le.ins e2, c, n, e4, q v G2 H2 b e5⟩
/-- a field of a thing that may change -/
theorem ev_fldM {C dx p : Addr} {fs : List (Str × V)} {f : Str} (h : Ev M ta σ G H (rRef p)) (hp : H p = some (.ins C dx fs)) (hW : p ∉ M.W) (hf : fs.lookup f = some v) (hv : r.P G v) (c : Cls K C) (n : NoAttr K C f) : Ev M (tFld K ta f) σ G H r := fun G1 H1 a Q q =>
  h G1 H1 a _ fun x G2 H2 b e => ⟨p, C, dx, fs, v, e, (a.trans b).gr.hh p _ hp hW, c, n, hf, q v G2 H2 b (r.mono (a.trans b).gg hv)⟩
/-! ### dicts, keys texts -/
theorem DAl.get {G : Hp} {k : Key} : ∀ {ks : List (Key × Rl)} {vs : List (Key × V)}, DAl G ks vs → (∀ r, ((ks.find? fun kv => decide (kv.1 = k)).map (·.2)) = some r → ∃ v, valV vs k = some v ∧ r.P G v) ∧ (((ks.find? fun kv => decide (kv.1 = k)).map (·.2)) = none → valV vs k = none)
  | _, _, .nil => ⟨fun r e => (by cases e), fun _ => rfl⟩
  | (x, r') :: ks, (y, v') :: vs, .cons h t => by
    have hxy : x = y := h.1
    have hp : r'.P G v' := h.2
    subst hxy
    unfold valV
    by_cases c : x = k
    · simp only [List.find?_cons, c, decide_true, Option.map_some]
      exact ⟨fun r e => ⟨v', rfl, (by cases e; exact hp)⟩, fun e => (by cases e)⟩
    · simp only [List.find?_cons, c, decide_false]
      have ih := DAl.get (k := k) t
      unfold valV at ih
      exact ih
/-- what is known of a dict by a text -/
def lkD (ks : List (Key × Rl)) (x : Str) : Option Rl := (ks.find? fun kv => decide (kv.1 = Sum.inr x)).map (·.2)
theorem dget_rd {H : Hp} {a : Addr} {vs : List (Key × V)} {k : Key} (e : Rd H a (.dK vs)) : DGet H a (kV k) (valV vs k) := .inl ⟨vs, k, e, rfl, rfl⟩
theorem ev_dget {ks : List (Key × Rl)} {x : Str} (hd : Ev M ta σ G H (rDct ks)) (hk : Ev M tb σ G H (rStr x)) (h : lkD ks x = some r) : Ev M (tDGet ta tb) σ G H r := fun G1 H1 a Q q =>
  hd G1 H1 a _ fun y G2 H2 b p => hk G2 H2 (a.trans b) _ fun z G3 H3 c pz => by
    obtain ⟨d, vs, rfl, e2, e3⟩ := p
    have pz : z = .str x := pz
    subst pz
    obtain ⟨v, e4, e5⟩ := e3.get.1 r h
    refine ⟨d, v, rfl, ?_, q v G3 H3 (b.trans c) (r.mono c.gg e5)⟩
    have := dget_rd (k := .inr x) ((c.gg.trans c.at.le).rd nf_dK e2)
    rw [e4] at this
    exact this
theorem ev_din {ks : List (Key × Rl)} {x : Str} (hk : Ev M tb σ G H (rStr x)) (hd : Ev M ta σ G H (rDct ks)) : Ev M (tDIn tb ta) σ G H (rBl (lkD ks x).isSome) := fun G1 H1 a Q q =>
  hk G1 H1 a _ fun z G2 H2 b pz => hd G2 H2 (a.trans b) _ fun y G3 H3 c p => by
    obtain ⟨d, vs, rfl, e2, e3⟩ := p
    have pz : z = .str x := pz
    subst pz
    refine ⟨d, valV vs (.inr x), rfl, dget_rd (k := .inr x) (c.at.le.rd nf_dK e2), ?_⟩
    have e4 := e3.get (k := .inr x)
    have e5 : (valV vs (.inr x)).isSome = (lkD ks x).isSome := by
      unfold lkD
      cases e : (ks.find? fun kv => decide (kv.1 = Sum.inr x)).map (·.2) with
      | none => rw [e4.2 e]; rfl
      | some r =>
        obtain ⟨v, e6, _⟩ := e4.1 r e
        rw [e6]; rfl
    rw [e5]
    exact q _ G3 H3 (b.trans c) rfl
theorem ev_dnotin {ks : List (Key × Rl)} {x : Str} (hk : Ev M tb σ G H (rStr x)) (hd : Ev M ta σ G H (rDct ks)) : Ev M (tDNotIn tb ta) σ G H (rBl (!(lkD ks x).isSome)) := fun G1 H1 a Q q =>
  hk G1 H1 a _ fun z G2 H2 b pz => hd G2 H2 (a.trans b) _ fun y G3 H3 c p => by
    obtain ⟨d, vs, rfl, e2, e3⟩ := p
    have pz : z = .str x := pz
    subst pz
    refine ⟨d, valV vs (.inr x), rfl, dget_rd (k := .inr x) (c.at.le.rd nf_dK e2), ?_⟩
    have e4 := e3.get (k := .inr x)
    have e5 : (valV vs (.inr x)).isSome = (lkD ks x).isSome := by
      unfold lkD
      cases e : (ks.find? fun kv => decide (kv.1 = Sum.inr x)).map (·.2) with
      | none => rw [e4.2 e]; rfl
      | some r =>
        obtain ⟨v, e6, _⟩ := e4.1 r e
        rw [e6]; rfl
    rw [e5]
    exact q _ G3 H3 (b.trans c) rfl
/-- the same of a dict that may change -/
theorem ev_dinM {d : Addr} {kvs : List (Key × V)} {x : Str} (hk : Ev M tb σ G H (rStr x)) (hd : Ev M ta σ G H (rRef d)) (h : H d = some (.dK kvs)) (hW : d ∉ M.W) : Ev M (tDIn tb ta) σ G H (rBl (valV kvs (.inr x)).isSome) := fun G1 H1 a Q q =>
  hk G1 H1 a _ fun z G2 H2 b pz => hd G2 H2 (a.trans b) _ fun y G3 H3 c p => by
    have pz : z = .str x := pz
    subst pz
    exact ⟨d, valV kvs (.inr x), p, DGet.k (k := .inr x) (((a.trans b).trans c).gr.hh d _ h hW), q _ G3 H3 (b.trans c) rfl⟩
theorem ev_dnotinM {d : Addr} {kvs : List (Key × V)} {x : Str} (hk : Ev M tb σ G H (rStr x)) (hd : Ev M ta σ G H (rRef d)) (h : H d = some (.dK kvs)) (hW : d ∉ M.W) : Ev M (tDNotIn tb ta) σ G H (rBl (!(valV kvs (.inr x)).isSome)) := fun G1 H1 a Q q =>
  hk G1 H1 a _ fun z G2 H2 b pz => hd G2 H2 (a.trans b) _ fun y G3 H3 c p => by
    have pz : z = .str x := pz
    subst pz
    exact ⟨d, valV kvs (.inr x), p, DGet.k (k := .inr x) (((a.trans b).trans c).gr.hh d _ h hW), q _ G3 H3 (b.trans c) rfl⟩
/-- while a frozen dict is locked -/
theorem rd_core {d : Addr} {vs kvs : List (Key × V)} (h : Rd G d (.dK vs)) (le : Le G H) (hH : H d = some (.dK kvs)) : vs = kvs := by
  rcases le.rd nf_dK h with e | ⟨ob, e⟩
  · rw [hH] at e; cases e; rfl
  · rw [hH] at e; cases e
theorem rd_lk {d : Addr} {kvs : List (Key × V)} (h : Rd G d (.dK kvs)) : ∃ o, G d = some o ∧ Lk o (.dK kvs) := by
  rcases h with e | ⟨ob, e⟩
  · exact ⟨_, e, .refl _⟩
  · exact ⟨_, e, .inr ⟨.dK kvs, trivial, .inr ⟨ob, rfl⟩, .inl rfl⟩⟩
theorem ev_lock {d : Addr} {kvs : List (Key × V)} {t : TE} (hG : Rd G d (.dK kvs)) (hH : H d = some (.dK kvs)) (hW : d ∉ M.W)
    (h : ∀ od G1 H1, Go M G H G1 H1 → Le G (upd G1 d (.frz od (.dK kvs))) → (∀ b o, b ≠ d → H b = some o → b ∉ M.W → NT o → upd H1 d (.frz od (.dK kvs)) b = some o) → At M (upd G1 d (.frz od (.dK kvs))) (upd H1 d (.frz od (.dK kvs))) →
      Ev M t σ (upd G1 d (.frz od (.dK kvs))) (upd H1 d (.frz od (.dK kvs))) r) : Ev M (tLockE t) σ G H r := fun G1 H1 a Q q => by
  have h1 : H1 d = some (.dK kvs) := a.gr.hh d _ hH hW
  have r1 : Rd G1 d (.dK kvs) := a.gg.rd nf_dK hG
  obtain ⟨o1, g1, k1⟩ := rd_lk r1
  refine ⟨d, .dK kvs, h1, trivial, fun od => ?_⟩
  have lk : Lk (.frz od (.dK kvs)) (.dK kvs) := .inr ⟨.dK kvs, trivial, .inr ⟨od, rfl⟩, .inl rfl⟩
  have hle1 : Le G1 (upd G1 d (.frz od (.dK kvs))) := fun c o e => by
    by_cases hc : c = d
    · subst hc
      rw [g1] at e
      cases e
      exact ⟨_, upd_same, k1.trans lk.symm⟩
    · exact ⟨o, by rw [upd_ne hc]; exact e, .refl o⟩
  have hat : At M (upd G1 d (.frz od (.dK kvs))) (upd H1 d (.frz od (.dK kvs))) := ⟨a.at.le.upd, M.st (fun b hb u e _ => by rw [upd_ne (show b ≠ d from fun z => hW (z ▸ hb))]; exact e) a.j⟩
  refine h od G1 H1 a (a.gg.trans hle1) (fun b o hb e n t => by rw [upd_ne hb]; exact a.gr.hhN b o e n t) hat _ _ hat.go _ fun v G2 H2 b p => ?_
  have h2 : H2 d = some (.frz od (.dK kvs)) := b.gr.hh d _ upd_same hW
  obtain ⟨o2, g2, k2⟩ := b.gg d _ upd_same
  have up : Le G2 (upd G2 d (.dK kvs)) := fun c o e => by
    by_cases hc : c = d
    · subst hc
      rw [g2] at e
      cases e
      exact ⟨_, upd_same, k2.symm.trans lk⟩
    · exact ⟨o, by rw [upd_ne hc]; exact e, .refl o⟩
  refine ⟨h2, q v (upd G2 d (.dK kvs)) (upd H2 d (.dK kvs)) ⟨⟨fun c o e => ?_, b.at.le.upd, fun c o e n t => ?_, fun c e => ?_, fun c n1 n2 => ?_, fun P hP n t => ?_⟩, M.st (fun b' hb u e _ => by rw [upd_ne (show b' ≠ d from fun z => hW (z ▸ hb))]; exact e) b.j⟩ (r.mono up p)⟩
  · by_cases hc : c = d
    · subst hc
      rw [g1] at e
      cases e
      exact ⟨_, upd_same, k1⟩
    · obtain ⟨o', e1, e2⟩ := b.gg c o (by rw [upd_ne hc]; exact e)
      exact ⟨o', by rw [upd_ne hc]; exact e1, e2⟩
  · by_cases hc : c = d
    · subst hc
      rw [h1] at e
      cases e
      exact upd_same
    · rw [upd_ne hc]
      exact b.gr.hhN c o (by rw [upd_ne hc]; exact e) n t
  · by_cases hc : c = d
    · subst hc; rw [upd_same]; exact fun z => nomatch z
    · rw [upd_ne hc]
      exact b.gr.dm c (by rw [upd_ne hc]; exact e)
  · by_cases hc : c = d
    · subst hc; rw [g1] at n1; cases n1
    · rw [upd_ne hc] at n2
      have := b.gr.nw c (by rw [upd_ne hc]; exact n1) n2
      rw [upd_ne hc] at this
      exact this
  · have nd : P ≠ d := t.off h1
    have t2 : TabG G2 H2 P := b.gr.tb P hP n (t.go ?_ (upd_ne nd) ((upd_ne nd).trans t.1))
    exact t2.go up (upd_ne nd) ((upd_ne nd).trans t2.1)
    intro c o e
    by_cases hc : c = d
    · subst hc
      rw [g1] at e
      cases e
      exact ⟨_, upd_same, k1.trans lk.symm⟩
    · exact ⟨o, by rw [upd_ne hc]; exact e, .refl o⟩
end
end TH
/-! Readings over (G, H): what a loop walks, comprehensions, statements, loops, defs. -/
namespace TH
open PySem PySem.Spec PyProof.Rows L2
variable [TC : TabC]

/-! ### what is walked -/
structure WalkR (W : List Addr) (J : It) (G0 H0 : Hp) (rs : List Rl) : Prop where
  goes : ∀ i G H, i < rs.length → Gr W G0 H0 G H → J.go i H
  stops : ∀ G H, Gr W G0 H0 G H → J.stop rs.length H
  yields : ∀ i r G H x H', rs[i]? = some r → Gr W G0 H0 G H → J.yld i H x H' → ∃ G', Gr [] G H G' H' ∧ r.P G' x
def Src (M : Md) (W : List Addr) (wi : TI) (σ : L2.St) (G H : Hp) (rs : List Rl) : Prop := ∀ G1 H1, Go M G H G1 H1 → ∀ R : It → Hp → Prop, (∀ J G2 H2, Go M G1 H1 G2 H2 → WalkR W J G2 H2 rs → R J H2) → wi σ H1 R
def numR (K : PySem.W.Frag) : Nat → List Rl → List Rl
  | _, [] => []
  | i, r :: t => rTup K [rInt (i : Nat), r] :: numR K (i + 1) t
theorem numR_len (K : PySem.W.Frag) : ∀ (i : Nat) (rs : List Rl), (numR K i rs).length = rs.length
  | _, [] => rfl
  | i, r :: t => congrArg Nat.succ (numR_len K (i + 1) t)
theorem numR_get (K : PySem.W.Frag) : ∀ (n : Nat) (rs : List Rl) (i : Nat), (numR K n rs)[i]? = (rs[i]?).map fun r => rTup K [rInt ((n + i : Nat) : Int), r]
  | _, [], _ => rfl
  | n, r :: t, 0 => rfl
  | n, r :: t, i + 1 => by
    show (numR K (n + 1) t)[i]? = (t[i]?).map _
    rw [numR_get K (n + 1) t i, show n + 1 + i = n + (i + 1) by omega]
section
variable {K : PySem.W.Frag} {M : Md} {W : List Addr} {σ : L2.St} {G H G' H' : Hp} {ta tb te tc : TE} {t u : TT} {r s : Rl} {v v0 : V} {i j : Int} {n m : Nat} {rs ss : List Rl}
theorem src_tup (h : Ev M te σ G H (rTup K rs)) : Src M W (iTup K te) σ G H rs := fun G1 H1 a R q => h G1 H1 a _ fun x G2 H2 b p => by
  obtain ⟨d, vs, rfl, e2, e3⟩ := p
  have at' : ∀ {G H : Hp}, Gr W G2 H2 G H → SqT K H d vs := fun g => (g.gg.trans g.gh).seqT e2
  refine ⟨d, rfl, ⟨vs, b.at.le.seqT e2⟩, q _ G2 H2 b ⟨fun i G H hi g => ?_, fun G H g => ⟨vs, at' g, by rw [← e3.length]; exact Nat.le_refl _⟩, fun i r G H x H' hr g y => ?_⟩⟩
  · have hi : i < vs.length := by rw [← e3.length]; exact hi
    exact ⟨vs, vs[i], at' g, by simp [hi]⟩
  · obtain ⟨rfl, y⟩ := y
    have hx := y vs (at' g)
    obtain ⟨v, e4, e5⟩ := e3.get hr
    rw [hx] at e4
    cases e4
    exact ⟨G, .refl g.gh, r.mono g.gg e5⟩
theorem src_lst (h : Ev M te σ G H (rLst K rs)) : Src M W (iList K te) σ G H rs := fun G1 H1 a R q => h G1 H1 a _ fun x G2 H2 b p => by
  obtain ⟨d, vs, rfl, e2, e3⟩ := p
  have at' : ∀ {G H : Hp}, Gr W G2 H2 G H → SqL K H d vs := fun g => (g.gg.trans g.gh).seqL e2
  refine ⟨d, rfl, ⟨vs, b.at.le.seqL e2⟩, q _ G2 H2 b ⟨fun i G H hi g => ?_, fun G H g => ⟨vs, at' g, by rw [← e3.length]; exact Nat.le_refl _⟩, fun i r G H x H' hr g y => ?_⟩⟩
  · have hi : i < vs.length := by rw [← e3.length]; exact hi
    exact ⟨vs, vs[i], at' g, by simp [hi]⟩
  · obtain ⟨rfl, y⟩ := y
    have hx := y vs (at' g)
    obtain ⟨v, e4, e5⟩ := e3.get hr
    rw [hx] at e4
    cases e4
    exact ⟨G, .refl g.gh, r.mono g.gg e5⟩
/-- a list that may change, but not while it is walked -/
theorem src_lstM {l : Addr} {xs : List V} (h : Ev M te σ G H (rRef l)) (hl : H l = some (.lst xs)) (h1 : l ∉ M.W) (h2 : l ∉ W) (hx : Al G rs xs) : Src M W (iList K te) σ G H rs := fun G1 H1 a R q => h G1 H1 a _ fun x G2 H2 b p => by
  have p : x = .ref l := p
  subst p
  have g2 : H2 l = some (.lst xs) := (a.trans b).gr.hh l _ hl h1
  have at' : ∀ {G H : Hp}, Gr W G2 H2 G H → SqL K H l xs := fun g => .of (g.hh l _ g2 h2)
  have e3 := hx.mono (a.trans b).gg
  refine ⟨l, rfl, ⟨xs, .of g2⟩, q _ G2 H2 b ⟨fun i G H hi g => ?_, fun G H g => ⟨xs, at' g, by rw [← e3.length]; exact Nat.le_refl _⟩, fun i r G H x H' hr g y => ?_⟩⟩
  · have hi : i < xs.length := by rw [← e3.length]; exact hi
    exact ⟨xs, xs[i], at' g, by simp [hi]⟩
  · obtain ⟨rfl, y⟩ := y
    have hx := y xs (at' g)
    obtain ⟨v, e4, e5⟩ := e3.get hr
    rw [hx] at e4
    cases e4
    exact ⟨G, .refl g.gh, r.mono g.gg e5⟩
theorem src_enumT (h : Ev M te σ G H (rTup K rs)) : Src M W (iEnumT K (tCons te tNil)) σ G H (numR K 0 rs) := fun G1 H1 a R q => h G1 H1 a _ fun x G2 H2 b p => by
  obtain ⟨d, vs, rfl, e2, e3⟩ := p
  have at' : ∀ {G H : Hp}, Gr W G2 H2 G H → SqT K H d vs := fun g => (g.gg.trans g.gh).seqT e2
  refine ⟨d, vs, rfl, b.at.le.seqT e2, q _ G2 H2 b ⟨fun i G H hi g => ?_, fun G H g => ⟨vs, at' g, by rw [← e3.length, numR_len]⟩, fun i r G H x H' hr g y => ?_⟩⟩
  · have hi : i < vs.length := by rw [← e3.length]; rw [numR_len] at hi; exact hi
    exact ⟨vs, vs[i], at' g, by simp [hi]⟩
  · obtain ⟨T, x', rfl, hT, rfl, y⟩ := y
    have hx := y vs (at' g)
    rw [numR_get] at hr
    cases e6 : rs[i]? with
    | none => rw [e6] at hr; cases hr
    | some r0 =>
      rw [e6] at hr
      cases hr
      obtain ⟨v, e4, e5⟩ := e3.get e6
      rw [hx] at e4
      cases e4
      have c := Gr.new (W := []) g.gh (o := .tup [.int (i : Nat), x']) hT
      refine ⟨_, c, T, _, rfl, .of upd_same, .cons ?_ (.cons (r0.mono (g.gg.trans c.gg) e5) .nil)⟩
      show V.int (i : Nat) = V.int ((0 + i : Nat) : Int)
      rw [Nat.zero_add]
theorem src_enum (h : Ev M te σ G H (rLst K rs)) : Src M W (iEnum K (tCons te tNil)) σ G H (numR K 0 rs) := fun G1 H1 a R q => h G1 H1 a _ fun x G2 H2 b p => by
  obtain ⟨d, vs, rfl, e2, e3⟩ := p
  have at' : ∀ {G H : Hp}, Gr W G2 H2 G H → SqL K H d vs := fun g => (g.gg.trans g.gh).seqL e2
  refine ⟨d, vs, rfl, b.at.le.seqL e2, q _ G2 H2 b ⟨fun i G H hi g => ?_, fun G H g => ⟨vs, at' g, by rw [← e3.length, numR_len]; exact Nat.le_refl _⟩, fun i r G H x H' hr g y => ?_⟩⟩
  · have hi : i < vs.length := by rw [← e3.length]; rw [numR_len] at hi; exact hi
    exact ⟨vs, vs[i], at' g, by simp [hi]⟩
  · obtain ⟨T, x', rfl, hT, rfl, y⟩ := y
    have hx := y vs (at' g)
    rw [numR_get] at hr
    cases e6 : rs[i]? with
    | none => rw [e6] at hr; cases hr
    | some r0 =>
      rw [e6] at hr
      cases hr
      obtain ⟨v, e4, e5⟩ := e3.get e6
      rw [hx] at e4
      cases e4
      have c := Gr.new (W := []) g.gh (o := .tup [.int (i : Nat), x']) hT
      refine ⟨_, c, T, _, rfl, .of upd_same, .cons ?_ (.cons (r0.mono (g.gg.trans c.gg) e5) .nil)⟩
      show V.int (i : Nat) = V.int ((0 + i : Nat) : Int)
      rw [Nat.zero_add]
theorem src_rng1 (h : Ev M te σ G H (rInt j)) (hj : -(2 ^ 62) ≤ j ∧ j < 2 ^ 62) : Src M W (iRng1 (tCons te tNil)) σ G H ((List.range j.toNat).map fun i => rInt (i : Nat)) := fun G1 H1 a R q => h G1 H1 a _ fun x G2 H2 b p => by
  have p : x = .int j := p
  subst p
  refine ⟨j, rfl, hj.1, hj.2, q _ G2 H2 b ⟨fun i G H hi g => ?_, fun G H g => ?_, fun i r G H x H' hr g y => ?_⟩⟩
  · show i < j.toNat
    rw [List.length_map, List.length_range] at hi
    exact hi
  · show j.toNat ≤ _
    simp
  · obtain ⟨rfl, y⟩ := y
    rw [List.getElem?_map] at hr
    cases e : (List.range j.toNat)[i]? with
    | none => rw [e] at hr; cases hr
    | some k =>
      rw [e] at hr
      cases hr
      have hk : k = i := by
        have := (List.getElem?_eq_some_iff.mp e).2
        simpa using this.symm
      subst hk
      refine ⟨G, .refl g.gh, ?_⟩
      show x = .int _
      rw [y]
      simp
/-- the keys of a locked dict -/
theorem src_keys {d : Addr} {od : Obj} {kvs : List (Key × V)} (h : Ev M te σ G H (rRef d)) (hl : H d = some (.frz od (.dK kvs))) (h1 : d ∉ M.W) (h2 : d ∉ W) : Src M W (iKeys te) σ G H (kvs.map fun kv => rV (kV kv.1)) := fun G1 H1 a R q => h G1 H1 a _ fun x G2 H2 b p => by
  have p : x = .ref d := p
  subst p
  have g2 : H2 d = some (.frz od (.dK kvs)) := (a.trans b).gr.hh d _ hl h1
  have wk := walk_keys (d := d) (o := od) (kvs := kvs)
  refine ⟨d, od, rfl, .inl ⟨kvs, g2, q _ G2 H2 b ⟨fun i G H hi g => wk.goes i H (by simpa using hi) (g.hh d _ g2 h2), fun G H g => by rw [List.length_map]; exact wk.stops H (g.hh d _ g2 h2), fun i r G H x H' hr g y => ?_⟩⟩⟩
  have hi : i < kvs.length := by
    have := (List.getElem?_eq_some_iff.mp hr).1
    simpa using this
  obtain ⟨rfl, k, v, e1, e2⟩ := wk.yields i H x H' hi (g.hh d _ g2 h2) y
  rw [List.getElem?_map, e1] at hr
  cases hr
  exact ⟨G, .refl g.gh, e2⟩
/-- the signs of a text -/
theorem src_str {z : Str} (h : Ev M te σ G H (rStr z)) : Src M W (iStr te) σ G H (z.cps.toList.map fun c => rStr ⟨#[c]⟩) := fun G1 H1 a R q => h G1 H1 a _ fun x G2 H2 b p => by
  have p : x = .str z := p
  subst p
  have wk := walk_str (z := z)
  refine ⟨z, rfl, q _ G2 H2 b ⟨fun i G H hi g => wk.goes i H (by simpa using hi) trivial, fun G H g => by rw [List.length_map, Array.length_toList]; exact wk.stops H trivial, fun i r G H x H' hr g y => ?_⟩⟩
  have hi : i < z.cps.size := by
    have := (List.getElem?_eq_some_iff.mp hr).1
    simpa using this
  obtain ⟨rfl, c, e1, e2⟩ := wk.yields i H x H' hi trivial y
  rw [List.getElem?_map, Array.getElem?_toList, e1] at hr
  cases hr
  exact ⟨G, .refl g.gh, e2⟩

/-! ### comprehensions -/
theorem notW (j : M.J H) {p : Addr} (hp : H p = none) : p ∉ M.W := fun z => M.dom j p z hp
theorem en_lc {wi : TI} {g : TG} {tt : TT} {vs : List Nat} (hs : Src M M.W wi σ G H rs) (O : Nat → List Rl → Prop) (h0 : O 0 [])
    (body : ∀ i r v G' H', rs[i]? = some r → Go M G H G' H' → r.P G' v → ∃ σ2, (∀ Q : L2.St → Hp → Prop, Q σ2 H' → g v (wipe σ vs) H' Q) ∧ wipe σ2 vs = wipe σ vs ∧ ∃ B : Bool → Prop, EvT M tt σ2 G' H' B ∧
      (B true → ∃ q, Ev M te σ2 G' H' q ∧ ∀ out, O i out → O (i + 1) (out ++ [q])) ∧ (B false → ∀ out, O i out → O (i + 1) out)) (hl : rs.length ≤ 100000 := by decide) :
    EvN M (tLc wi g tt te vs) σ G H (fun G o => ∃ out, O rs.length out ∧ FL out G o) := fun G1 H1 a Q q => hs G1 H1 a _ fun J G2 H2 b wk D hD => by
  have hDW : D ∉ M.W := notW b.j hD
  have hDG : G2 D = none := b.at.le.free hD
  refine ⟨fun i m H' => m = rs.length - i ∧ i ≤ rs.length ∧ ∃ G' out acc, Go M G2 H2 G' H' ∧ G' D = none ∧ H' D = some (.lst acc) ∧ Al G' out acc ∧ O i out ∧ acc.length ≤ i, ⟨rs.length, by simp, Nat.zero_le _, G2, [], [], b.at.own hD, hDG, upd_same, .nil, h0, Nat.le_refl _⟩, ?_⟩
  rintro i m H' ⟨rfl, hi, G', out, acc, g1, g2, g3, g4, g5, g6⟩
  by_cases hlt : i < rs.length
  · refine .inr ⟨wk.goes i G' H' hlt g1.gr, fun H'' => i + 1 ≤ rs.length ∧ ∃ G' out acc, Go M G2 H2 G' H'' ∧ G' D = none ∧ H'' D = some (.lst acc) ∧ Al G' out acc ∧ O (i + 1) out ∧ acc.length ≤ i + 1, fun H'' z => ⟨rs.length - (i + 1), by omega, rfl, z.1, z.2⟩, fun x H'' y => ?_⟩
    obtain ⟨G'', k1, k2⟩ := wk.yields i rs[i] G' H' x H'' (by simp [hlt]) g1.gr y
    have k3 := Go.pure k1 g1.j
    obtain ⟨m1, m2⟩ := k3.gr.loc g3 g2 hDW
    have gA : Go M G H G'' H'' := (a.trans b).trans (g1.trans k3)
    obtain ⟨σ2, b1, b2, B, b3, b4, b5⟩ := body i rs[i] x G'' H'' (by simp [hlt]) gA k2
    refine b1 _ ⟨b2, b3 G'' H'' k3.at.go _ fun c G3 H3 e hB => ?_⟩
    obtain ⟨n1, n2⟩ := e.gr.loc m1 m2 hDW
    cases c with
    | true =>
      show te σ2 H3 _
      obtain ⟨q', b6, b7⟩ := b4 hB
      refine b6 G3 H3 e _ fun y G4 H4 e2 py => ?_
      obtain ⟨n3, n4⟩ := e2.gr.loc n1 n2 hDW
      refine ⟨acc, n3, Nat.lt_of_lt_of_le (show acc.length < 100001 by omega) (by decide), hlt, G4, out ++ [q'], acc ++ [y], ⟨((g1.trans k3).trans (e.trans e2)).gr.put hD n4, (e2.at.put n4 hDW).j⟩, n4, upd_same, ?_, b7 out g5, ?_⟩
      · exact (g4.mono ((k3.trans e).trans e2).gg).append (.cons py .nil)
      · rw [List.length_append, List.length_singleton]
        omega
    | false =>
      show _ ∧ _
      exact ⟨hlt, G3, out, acc, (g1.trans k3).trans e, n2, n1, g4.mono (k3.trans e).gg, b5 hB out g5, by omega⟩
  · have e : i = rs.length := by omega
    subst e
    refine .inl ⟨wk.stops G' H' g1.gr, q D (.lst acc) G' H' (b.trans g1) ?_ g2 g3 ⟨out, g5, acc, rfl, g4⟩⟩
    exact b.back hD
/-- .. the list told outright: q i for those i of which f i is true -/
theorem en_lcF {wi : TI} {g : TG} {tt : TT} {vs : List Nat} (hs : Src M M.W wi σ G H rs) (f : Nat → Bool) (q : Nat → Rl)
    (body : ∀ i r v G' H', rs[i]? = some r → Go M G H G' H' → r.P G' v → ∃ σ2, (∀ Q : L2.St → Hp → Prop, Q σ2 H' → g v (wipe σ vs) H' Q) ∧ wipe σ2 vs = wipe σ vs ∧ EvT M tt σ2 G' H' (· = f i) ∧
      (f i = true → Ev M te σ2 G' H' (q i))) (hl : rs.length ≤ 100000 := by decide) : EvN M (tLc wi g tt te vs) σ G H (FL (((List.range rs.length).filter f).map q)) :=
  (en_lc hs (fun i out => out = ((List.range i).filter f).map q) rfl (fun i r v G' H' h1 h2 h3 => by
    obtain ⟨σ2, b1, b2, b3, b4⟩ := body i r v G' H' h1 h2 h3
    refine ⟨σ2, b1, b2, _, b3, fun e => ⟨q i, b4 e.symm, fun out ho => ?_⟩, fun e out ho => ?_⟩
    · rw [ho, List.range_succ, List.filter_append, List.map_append, List.filter_cons, if_pos e.symm]
      rfl
    · rw [ho, List.range_succ, List.filter_append, List.map_append, List.filter_cons, if_neg (by rw [← e]; decide)]
      exact (List.append_nil _).symm) hl).imp fun G o ⟨out, e, h⟩ => e ▸ h
theorem range_filter_map {α β : Type} (d : α) (xs : List α) (f : α → Bool) (q : α → β) : ((List.range xs.length).filter fun i => f (xs.getD i d)).map (fun i => q (xs.getD i d)) = (xs.filter f).map q := by
  have h : ∀ (n : Nat) (xs : List α), xs.length = n → ((List.range n).filter fun i => f (xs.getD i d)).map (fun i => q (xs.getD i d)) = (xs.filter f).map q := by
    intro n
    induction n with
    | zero => intro xs h; rw [List.length_eq_zero_iff.mp h]; rfl
    | succ n ih =>
      intro xs h
      cases xs with
      | nil => cases h
      | cons x t =>
        have ih := ih t (by simpa using h)
        rw [List.range_succ_eq_map, List.filter_cons]
        have e1 : (fun i => f ((x :: t).getD i d)) ∘ Nat.succ = fun i => f (t.getD i d) := by funext i; simp
        have e2 : (fun i => q ((x :: t).getD i d)) ∘ Nat.succ = fun i => q (t.getD i d) := by funext i; simp
        rw [List.filter_map, e1]
        show List.map _ (if f x = true then _ else _) = _
        by_cases c : f x = true
        · rw [if_pos c, List.map_cons, List.map_map, e2, ih, List.filter_cons, if_pos c]
          simp
        · rw [if_neg c, List.map_map, e2, ih, List.filter_cons, if_neg c]
  exact h _ xs rfl
/-- [e for x in xs if t], over the items of a list of Lean; x at slot j -/
theorem en_lcX {α : Type} {wi : TI} {tt : TT} {vs : List Nat} {j : Nat} {xs : List α} {enc : α → Rl} (hs : Src M M.W wi σ G H (xs.map enc)) (f : α → Bool) (q : α → Rl) (hw : ∀ v, wipe ((wipe σ vs).set j (some v)) vs = wipe σ vs)
    (body : ∀ x v G' H', x ∈ xs → Go M G H G' H' → (enc x).P G' v → EvT M tt ((wipe σ vs).set j (some v)) G' H' (· = f x) ∧ (f x = true → Ev M te ((wipe σ vs).set j (some v)) G' H' (q x))) (hl : xs.length ≤ 100000 := by decide) :
    EvN M (tLc wi (gName j) tt te vs) σ G H (FL ((xs.filter f).map q)) := by
  cases hx : xs with
  | nil =>
    subst hx
    exact en_lcF hs (fun _ => false) (fun _ => rNon) (fun i r v G' H' h => (by simp at h)) (by simp)
  | cons d t =>
    rw [← hx, ← range_filter_map d xs f q]
    have := en_lcF (te := te) (tt := tt) (g := gName j) (vs := vs) hs (fun i => f (xs.getD i d)) (fun i => q (xs.getD i d)) (fun i r v G' H' h1 h2 h3 => by
      rw [List.getElem?_map] at h1
      cases e : xs[i]? with
      | none => rw [e] at h1; cases h1
      | some x =>
        rw [e] at h1
        cases h1
        have ex : xs.getD i d = x := by rw [List.getD_eq_getElem?_getD, e]; rfl
        rw [ex]
        obtain ⟨b1, b2⟩ := body x v G' H' (List.mem_of_getElem? e) h2 h3
        exact ⟨_, fun Q hQ => hQ, hw v, b1, b2⟩) (by simpa using hl)
    rw [List.length_map] at this
    exact this
theorem et_yes : EvT M tYes σ G H (· = true) := fun G1 H1 a Q q => q true G1 H1 a.at.go rfl
/-- [e for x in xs] -/
theorem en_map {α : Type} {wi : TI} {vs : List Nat} {j : Nat} {xs : List α} {enc : α → Rl} (hs : Src M M.W wi σ G H (xs.map enc)) (q : α → Rl) (hw : ∀ v, wipe ((wipe σ vs).set j (some v)) vs = wipe σ vs)
    (body : ∀ x v G' H', x ∈ xs → Go M G H G' H' → (enc x).P G' v → Ev M te ((wipe σ vs).set j (some v)) G' H' (q x)) (hl : xs.length ≤ 100000 := by decide) : EvN M (tLc wi (gName j) tYes te vs) σ G H (FL (xs.map q)) := by
  have := en_lcX (te := te) (tt := tYes) (vs := vs) (j := j) hs (fun _ => true) q hw (fun x v G' H' h1 h2 h3 => ⟨et_yes, fun _ => body x v G' H' h1 h2 h3⟩) hl
  rw [List.filter_eq_self.mpr (fun _ _ => rfl)] at this
  exact this

/-! ### statements -/
variable {D : Ends} {tu tw tz : TS} {g : TG} {φ : Hp → HO → Prop}
theorem s_asg {i : Nat} (h : Ev M te σ G H r) (a : At M G H) (k : ∀ v G' H', Go M G H G' H' → r.P G' v → D.nx (σ.set i (some v)) H') : tAsg te (gName i) D σ H := h G H a.go _ k
theorem q_asg {i : Nat} (h : Ev M te σ G H r) (a : At M G H) (k : ∀ v G' H', Go M G H G' H' → r.P G' v → tz D (σ.set i (some v)) H') : tSeq (tAsg te (gName i)) tz D σ H := h G H a.go _ k
theorem q_asgV {i : Nat} (h : Ev M te σ G H (rV v)) (a : At M G H) (k : ∀ G' H', Go M G H G' H' → tz D (σ.set i (some v)) H') : tSeq (tAsg te (gName i)) tz D σ H := h G H a.go _ fun x G' H' e p => by
  have p : x = v := p
  subst p
  exact k G' H' e
theorem q_asgN {i : Nat} (h : EvN M te σ G H φ) (a : At M G H) (k : ∀ p o G' H', Go M G H G' H' → H p = none → G' p = none → H' p = some o → φ G' o → tz D (σ.set i (some (.ref p))) H') : tSeq (tAsg te (gName i)) tz D σ H := h G H a.go _ k
theorem s_asgN {i : Nat} (h : EvN M te σ G H φ) (a : At M G H) (k : ∀ p o G' H', Go M G H G' H' → H p = none → G' p = none → H' p = some o → φ G' o → D.nx (σ.set i (some (.ref p))) H') : tAsg te (gName i) D σ H := h G H a.go _ k
theorem s_ret (h : Ev M te σ G H r) (a : At M G H) (k : ∀ v G' H', Go M G H G' H' → r.P G' v → D.rt v H') : tRet te D σ H := h G H a.go _ k
theorem s_if {c : TT} {B : Bool → Prop} (h : EvT M c σ G H B) (a : At M G H) (h1 : B true → ∀ G' H', Go M G H G' H' → tu D σ H') (h2 : B false → ∀ G' H', Go M G H G' H' → tw D σ H') : tIfS c tu tw D σ H := h G H a.go _ fun b G' H' e p => by
  cases b with
  | true => exact h1 p G' H' e
  | false => exact h2 p G' H' e
theorem q_if {c : TT} {B : Bool → Prop} (h : EvT M c σ G H B) (a : At M G H) (h1 : B true → ∀ G' H', Go M G H G' H' → tu { D with nx := tz D } σ H') (h2 : B false → ∀ G' H', Go M G H G' H' → tw { D with nx := tz D } σ H') : tSeq (tIfS c tu tw) tz D σ H := s_if (D := { D with nx := tz D }) h a h1 h2
theorem q_when {c : TT} {B : Bool → Prop} (h : EvT M c σ G H B) (a : At M G H) (h1 : B true → ∀ G' H', Go M G H G' H' → tu { D with nx := tz D } σ H') (h2 : B false → ∀ G' H', Go M G H G' H' → tz D σ H') : tSeq (tIfS c tu tNext) tz D σ H := s_if (D := { D with nx := tz D }) h a h1 h2
theorem s_when {c : TT} {B : Bool → Prop} (h : EvT M c σ G H B) (a : At M G H) (h1 : B true → ∀ G' H', Go M G H G' H' → tu D σ H') (h2 : B false → ∀ G' H', Go M G H G' H' → D.nx σ H') : tIfS c tu tNext D σ H := s_if h a h1 h2
/-- a, b, .. = t -/
theorem gc_cons {i : Nat} {v : V} {r : List V} {u : TGs} {Q : L2.St → Hp → Prop} (h : u r (σ.set i (some v)) H Q) : gCons (gName i) u (v :: r) σ H Q := ⟨v, r, rfl, h⟩
theorem gc_nil {Q : L2.St → Hp → Prop} (h : Q σ H) : gNil [] σ H Q := ⟨rfl, h⟩
theorem g_tup {k : Nat} {t : TGs} {v : V} {Q : L2.St → Hp → Prop} (p : (rTup K rs).P G v) (le : Le G H) (hn : rs.length = k) (h : ∀ vs, Al G rs vs → t vs σ H Q) : gTup K k t v σ H Q := by
  obtain ⟨a, vs, rfl, e2, e3⟩ := p
  exact ⟨a, vs, rfl, le.seqT e2, by rw [← e3.length]; exact hn, h vs e3⟩
theorem q_unp {k : Nat} {t : TGs} (h : Ev M te σ G H (rTup K rs)) (a : At M G H) (hn : rs.length = k) (kk : ∀ vs G' H', Go M G H G' H' → Al G' rs vs → t vs σ H' (tz D)) : tSeq (tAsg te (gTup K k t)) tz D σ H :=
  h G H a.go _ fun x G' H' e p => g_tup (Q := tz D) p e.at.le hn fun vs q => kk vs G' H' e q
/-- xs.append(e), of a list that may change -/
theorem s_app {l : Addr} {xs : List V} (ha : Ev M ta σ G H (rRef l)) (h : Ev M te σ G H r) (a : At M G H) (hl : H l = some (.lst xs)) (hg : G l = none) (hW : l ∉ M.W) (hz : xs.length < 100000)
    (k : ∀ v G' H', Go M G H G' H' → r.P G' v → H' l = some (.lst xs) → G' l = none → D.nx σ (upd H' l (.lst (xs ++ [v])))) : tDrop (tBM K "list" rAppend ta (tCons te tNil)) D σ H :=
  ha G H a.go _ fun x G1 H1 e1 p => by
    have p : x = .ref l := p
    subst p
    obtain ⟨n1, n2⟩ := e1.gr.loc hl hg hW
    refine ⟨.inl ⟨rfl, xs, .of n1⟩, h G1 H1 e1 _ fun v G2 H2 e2 pv => ?_⟩
    obtain ⟨n3, n4⟩ := e2.gr.loc n1 n2 hW
    exact ⟨l, xs, v, rfl, rfl, n3, Nat.lt_of_lt_of_le hz (by decide), k v G2 H2 (e1.trans e2) pv n3 n4⟩
theorem q_app {l : Addr} {xs : List V} (ha : Ev M ta σ G H (rRef l)) (h : Ev M te σ G H r) (a : At M G H) (hl : H l = some (.lst xs)) (hg : G l = none) (hW : l ∉ M.W) (hz : xs.length < 100000)
    (k : ∀ v G' H', Go M G H G' H' → r.P G' v → H' l = some (.lst xs) → G' l = none → tz D σ (upd H' l (.lst (xs ++ [v])))) : tSeq (tDrop (tBM K "list" rAppend ta (tCons te tNil))) tz D σ H := s_app (D := { D with nx := tz D }) ha h a hl hg hW hz k
/-- xs.extend(t) -/
theorem s_extT {l : Addr} {xs : List V} (ha : Ev M ta σ G H (rRef l)) (h : Ev M te σ G H (rTup K rs)) (a : At M G H) (hl : H l = some (.lst xs)) (hg : G l = none) (hW : l ∉ M.W) (hz : xs.length + rs.length ≤ 100000)
    (k : ∀ vs G' H', Go M G H G' H' → Al G' rs vs → H' l = some (.lst xs) → G' l = none → D.nx σ (upd H' l (.lst (xs ++ vs)))) : tDrop (tBM K "list" (rExtT K) ta (tCons te tNil)) D σ H :=
  ha G H a.go _ fun x G1 H1 e1 p => by
    have p : x = .ref l := p
    subst p
    obtain ⟨n1, n2⟩ := e1.gr.loc hl hg hW
    refine ⟨.inl ⟨rfl, xs, .of n1⟩, h G1 H1 e1 _ fun v G2 H2 e2 pv => ?_⟩
    obtain ⟨n3, n4⟩ := e2.gr.loc n1 n2 hW
    obtain ⟨b, vs, rfl, q1, q2⟩ := pv
    exact ⟨l, b, xs, vs, rfl, rfl, n3, e2.at.le.seqT q1, by rw [← q2.length]; exact Nat.le_trans hz (by decide), k vs G2 H2 (e1.trans e2) q2 n3 n4⟩
/-- x = xs.pop() -/
theorem q_pop {l : Addr} {xs : List V} {i : Nat} {v : V} (ha : Ev M ta σ G H (rRef l)) (a : At M G H) (hl : H l = some (.lst xs)) (hg : G l = none) (hW : l ∉ M.W) (hv : xs.getLast? = some v)
    (k : ∀ G' H', Go M G H G' H' → H' l = some (.lst xs) → G' l = none → tz D (σ.set i (some v)) (upd H' l (.lst xs.dropLast))) : tSeq (tAsg (tBM0 K "list" rPop ta) (gName i)) tz D σ H :=
  ha G H a.go _ fun x G1 H1 e1 p => by
    have p : x = .ref l := p
    subst p
    obtain ⟨n1, n2⟩ := e1.gr.loc hl hg hW
    exact ⟨.inl ⟨rfl, xs, .of n1⟩, l, xs, v, rfl, rfl, n1, by rw [← List.getLast?_eq_getElem?]; exact hv, k G1 H1 e1 n1 n2⟩
/-- d[k] = e, of a dict that may change -/
theorem q_dput {d : Addr} {kvs : List (Key × V)} {k : Key} (hv : Ev M te σ G H r) (hd : Ev M ta σ G H (rRef d)) (hk : Ev M tb σ G H (rV (kV k))) (a : At M G H) (hl : H d = some (.dK kvs)) (hg : G d = none) (hW : d ∉ M.W) (hz : kvs.length < 100000)
    (kk : ∀ v G' H', Go M G H G' H' → r.P G' v → H' d = some (.dK kvs) → G' d = none → tz D σ (upd H' d (.dK (putK kvs k v)))) : tSeq (sDPut ta tb te) tz D σ H :=
  hv G H a.go _ fun v G1 H1 e1 p => hd G1 H1 e1 _ fun x G2 H2 e2 px => hk G2 H2 (e1.trans e2) _ fun y G3 H3 e3 py => by
    have px : x = .ref d := px
    have py : y = kV k := py
    subst px py
    have e := (e1.trans e2).trans e3
    obtain ⟨n1, n2⟩ := e.gr.loc hl hg hW
    exact ⟨d, _, rfl, DPut.k n1 (Nat.lt_of_lt_of_le hz (by decide)), kk v G3 H3 e (r.mono (e2.trans e3).gg p) n1 n2⟩
theorem s_dput {d : Addr} {kvs : List (Key × V)} {k : Key} (hv : Ev M te σ G H r) (hd : Ev M ta σ G H (rRef d)) (hk : Ev M tb σ G H (rV (kV k))) (a : At M G H) (hl : H d = some (.dK kvs)) (hg : G d = none) (hW : d ∉ M.W) (hz : kvs.length < 100000)
    (kk : ∀ v G' H', Go M G H G' H' → r.P G' v → H' d = some (.dK kvs) → G' d = none → D.nx σ (upd H' d (.dK (putK kvs k v)))) : sDPut ta tb te D σ H :=
  q_dput (D := { D with nx := D.nx }) (tz := fun D => D.nx) hv hd hk a hl hg hW hz kk
/-! ### loops -/
theorem s_for {wi : TI} {tb : TS} (hs : Src M W wi σ G H rs) (a : At M G H) (hW : ∀ b ∈ M.W, b ∈ W) (I : Nat → L2.St → Hp → Hp → Prop) (h0 : ∀ G' H', Go M G H G' H' → I 0 σ G' H')
    (step : ∀ i r v σ' G' H', rs[i]? = some r → r.P G' v → Gr W G H G' H' → M.J H' → I i σ' G' H' → ∀ N : L2.St → Hp → Prop, (∀ σ2 G2 H2, Gr W G' H' G2 H2 → M.J H2 → I (i + 1) σ2 G2 H2 → N σ2 H2) → g v σ' H' fun σ2 H2 => tb { D with nx := N, ct := N, bk := D.nx } σ2 H2)
    (hI : ∀ i r σ' G' H' G'' H'', rs[i]? = some r → Gr [] G' H' G'' H'' → I i σ' G' H' → I i σ' G'' H'')
    (hd : ∀ σ' G' H', Gr W G H G' H' → M.J H' → I rs.length σ' G' H' → D.nx σ' H') : tFor wi g tb D σ H := hs G H a.go _ fun J G2 H2 b wk => by
  have b' : Gr W G H G2 H2 := b.gr.mono hW
  refine ⟨fun i m σ' H' => m = rs.length - i ∧ i ≤ rs.length ∧ ∃ G', Gr W G2 H2 G' H' ∧ M.J H' ∧ I i σ' G' H', ⟨rs.length, by simp, Nat.zero_le _, G2, .refl b.at.le, b.j, h0 G2 H2 b⟩, ?_⟩
  rintro i m σ' H' ⟨rfl, hi, G', g1, g2, g3⟩
  by_cases hlt : i < rs.length
  · refine .inr ⟨wk.goes i G' H' hlt g1, fun σ2 H3 => i + 1 ≤ rs.length ∧ ∃ G', Gr W G2 H2 G' H3 ∧ M.J H3 ∧ I (i + 1) σ2 G' H3, fun σ2 H3 z => ⟨rs.length - (i + 1), by omega, rfl, z.1, z.2⟩, fun x H'' y => ?_⟩
    obtain ⟨G'', k1, k2⟩ := wk.yields i rs[i] G' H' x H'' (by simp [hlt]) g1 y
    have hx : rs[i]? = some rs[i] := by simp [hlt]
    have j2 : M.J H'' := (Go.pure k1 g2).j
    exact step i rs[i] x σ' G'' H'' hx k2 (b'.trans (g1.trans k1.nil)) j2 (hI i rs[i] σ' G' H' G'' H'' hx k1 g3) _ fun σ2 G3 H3 e1 e2 e3 => ⟨hlt, G3, (g1.trans k1.nil).trans e1, e2, e3⟩
  · have e : i = rs.length := by omega
    subst e
    exact .inl ⟨wk.stops G' H' g1, hd σ' G' H' (b'.trans g1) g2 g3⟩
theorem q_for {wi : TI} {tb : TS} (hs : Src M W wi σ G H rs) (a : At M G H) (hW : ∀ b ∈ M.W, b ∈ W) (I : Nat → L2.St → Hp → Hp → Prop) (h0 : ∀ G' H', Go M G H G' H' → I 0 σ G' H')
    (step : ∀ i r v σ' G' H', rs[i]? = some r → r.P G' v → Gr W G H G' H' → M.J H' → I i σ' G' H' → ∀ N : L2.St → Hp → Prop, (∀ σ2 G2 H2, Gr W G' H' G2 H2 → M.J H2 → I (i + 1) σ2 G2 H2 → N σ2 H2) → g v σ' H' fun σ2 H2 => tb { D with nx := N, ct := N, bk := tz D } σ2 H2)
    (hI : ∀ i r σ' G' H' G'' H'', rs[i]? = some r → Gr [] G' H' G'' H'' → I i σ' G' H' → I i σ' G'' H'')
    (hd : ∀ σ' G' H', Gr W G H G' H' → M.J H' → I rs.length σ' G' H' → tz D σ' H') : tSeq (tFor wi g tb) tz D σ H := s_for (D := { D with nx := tz D }) hs a hW I h0 step hI hd
theorem q_while {tc : TT} {tb : TS} (W : List Addr) (hW : ∀ b ∈ M.W, b ∈ W) (I : Nat → L2.St → Hp → Hp → Prop) (m0 : Nat) (a : At M G H) (h0 : I m0 σ G H)
    (step : ∀ m σ' G' H', Gr W G H G' H' → M.J H' → I m σ' G' H' → ∃ B, EvT M tc σ' G' H' B ∧
      (B true → ∀ G1 H1, Go M G' H' G1 H1 → ∀ N : L2.St → Hp → Prop, (∀ m' σ2 G2 H2, m' < m → Gr W G H G2 H2 → M.J H2 → I m' σ2 G2 H2 → N σ2 H2) → tb { D with nx := N, ct := N, bk := tz D } σ' H1) ∧
      (B false → ∀ G1 H1, Go M G' H' G1 H1 → tz D σ' H1)) : tSeq (tWhile tc tb) tz D σ H := by
  refine ⟨fun m σ' H' => ∃ G', Gr W G H G' H' ∧ M.J H' ∧ I m σ' G' H', ⟨m0, G, .refl a.le, a.j, h0⟩, fun m σ' H' ⟨G', g1, g2, g3⟩ => ?_⟩
  obtain ⟨B, h1, h2, h3⟩ := step m σ' G' H' g1 g2 g3
  refine h1 G' H' (At.go ⟨g1.gh, g2⟩) _ fun b G1 H1 e hB => ?_
  cases b with
  | true => exact ⟨_, fun σ2 H2 z => z, h2 hB G1 H1 e _ fun m' σ2 G2 H2 e1 e2 e3 e4 => ⟨m', e1, G2, e2, e3, e4⟩⟩
  | false => exact h3 hB G1 H1 e
end
/-! ### values of a written length -/
section
variable {G : Hp} {vs : List V} {r1 r2 r3 r4 r5 r6 r7 : Rl}
theorem al0 (h : Al G [] vs) : vs = [] := by cases h; rfl
theorem al1 (h : Al G [r1] vs) : ∃ a, vs = [a] ∧ r1.P G a := by
  cases h with | cons h t => cases t; exact ⟨_, rfl, h⟩
theorem al2 (h : Al G [r1, r2] vs) : ∃ a b, vs = [a, b] ∧ r1.P G a ∧ r2.P G b := by
  cases h with | cons h t => obtain ⟨b, rfl, hb⟩ := al1 t; exact ⟨_, b, rfl, h, hb⟩
theorem al3 (h : Al G [r1, r2, r3] vs) : ∃ a b c, vs = [a, b, c] ∧ r1.P G a ∧ r2.P G b ∧ r3.P G c := by
  cases h with | cons h t => obtain ⟨b, c, rfl, hb⟩ := al2 t; exact ⟨_, b, c, rfl, h, hb⟩
theorem al4 (h : Al G [r1, r2, r3, r4] vs) : ∃ a b c d, vs = [a, b, c, d] ∧ r1.P G a ∧ r2.P G b ∧ r3.P G c ∧ r4.P G d := by
  cases h with | cons h t => obtain ⟨b, c, d, rfl, hb⟩ := al3 t; exact ⟨_, b, c, d, rfl, h, hb⟩
theorem al5 (h : Al G [r1, r2, r3, r4, r5] vs) : ∃ a b c d e, vs = [a, b, c, d, e] ∧ r1.P G a ∧ r2.P G b ∧ r3.P G c ∧ r4.P G d ∧ r5.P G e := by
  cases h with | cons h t => obtain ⟨b, c, d, e, rfl, hb⟩ := al4 t; exact ⟨_, b, c, d, e, rfl, h, hb⟩
theorem al6 (h : Al G [r1, r2, r3, r4, r5, r6] vs) : ∃ a b c d e f, vs = [a, b, c, d, e, f] ∧ r1.P G a ∧ r2.P G b ∧ r3.P G c ∧ r4.P G d ∧ r5.P G e ∧ r6.P G f := by
  cases h with | cons h t => obtain ⟨b, c, d, e, f, rfl, hb⟩ := al5 t; exact ⟨_, b, c, d, e, f, rfl, h, hb⟩
theorem al7 (h : Al G [r1, r2, r3, r4, r5, r6, r7] vs) : ∃ a b c d e f g, vs = [a, b, c, d, e, f, g] ∧ r1.P G a ∧ r2.P G b ∧ r3.P G c ∧ r4.P G d ∧ r5.P G e ∧ r6.P G f ∧ r7.P G g := by
  cases h with | cons h t => obtain ⟨b, c, d, e, f, g, rfl, hb⟩ := al6 t; exact ⟨_, b, c, d, e, f, g, rfl, h, hb⟩
end
/-! ### a def that changes nothing -/
section
variable {P : Program} {w : World} {K : PySem.W.Frag} {mg : Str → Option Value} {base : Heap} {x qual : Str} {params : Arguments} {body : List Stmt} {scope : Scope} {dvs : List V} {kws : List (Str × V)} {f : Addr} {fd : FuncData}
theorem fn_pure {ι : Type} {pre : ι → Hp → Hp → Prop} {args : ι → List Rl} {res : ι → Rl} {N ps : List Str} {k : Nat} (F : FunD K x qual params body scope dvs kws f fd) (S : FnScope N ps scope) (hlen : ∀ i, (args i).length = ps.length)
    (hb : ∀ (cdv : Value) (A : Around) (outer : List Env) (s : Shared) (H : Hp) (E : XK), Room k (A.deeper (envOfC qual scope s.heap.objs.size f cdv)) →
      ∃ t, PSs (cxOf CX0 P w K mg base N qual scope f cdv A outer s H E).nox body t ∧ ∀ (i : ι) (G : Hp) (vs : List V) (D : Ends), At md0 G H → pre i G H → Al G (args i) vs →
        (∀ v G' H', Gr [] G H G' H' → (res i).P G' v → D.rt v H') → (∀ σ G' H', Gr [] G H G' H' → (res i).P G' .non → D.nx σ H') → t D (start N vs) H) :
    FnOk P w K mg base CX0 (k + 1) f fd ps (spP pre args res) := by
  refine F.ok S (fun vs H Q E h => ?_) (fun cdv A outer s H vs Q E hr h => ?_)
  · obtain ⟨i, G, h1, h2, h3, h4⟩ := h
    rw [← hlen i]
    exact h3.length.symm
  · obtain ⟨t, ht, hrun⟩ := hb cdv A outer s H E hr
    obtain ⟨i, G, h1, h2, h3, h4⟩ := h
    exact ⟨t, ht.nox, hrun i G vs _ ⟨h1, trivial⟩ h2 h3 (fun v G' H' g p => h4 v G' H' g p) fun σ G' H' g p => h4 .non G' H' g p⟩
end
end TH
/-! More readings: chains, signs, texts' places, what the top holds. -/
namespace TH
open PySem PySem.Spec PyProof.Rows L2
variable [TC : TabC]
section
variable {K : PySem.W.Frag} {M : Md} {σ : L2.St} {G H G' H' : Hp} {ta tb te tc : TE} {t u : TT} {r s : Rl} {v v0 : V} {i j k : Int} {n m : Nat} {rs ss : List Rl} {a b : Bool}
theorem ev_chain {g g' : Int → Int → Bool} (ha : Ev M ta σ G H (rInt i)) (hb : Ev M tb σ G H (rInt j)) (hc : Ev M tc σ G H (rInt k)) :
    Ev M (tChain (rI0 fun i j => .bl (g i j)) (rI0 fun i j => .bl (g' i j)) ta tb tc) σ G H (rBl (g i j && g' j k)) := fun G1 H1 e Q q =>
  ha G1 H1 e _ fun x G2 H2 e2 px => hb G2 H2 (e.trans e2) _ fun y G3 H3 e3 py => by
    refine ⟨i, j, px, py, g i j, rfl, ?_⟩
    cases c : g i j with
    | true =>
      show tc σ H3 _
      exact hc G3 H3 ((e.trans e2).trans e3) _ fun z G4 H4 e4 pz => ⟨j, k, py, pz, q _ G4 H4 ((e2.trans e3).trans e4) (by rw [c]; rfl)⟩
    | false => exact q _ G3 H3 (e2.trans e3) (by rw [c]; rfl)
theorem ev_eqI (ha : Ev M ta σ G H (rInt i)) (hb : Ev M tb σ G H (rInt j)) : Ev M (tOp rEq ta tb) σ G H (rBl (decide (i = j))) := by
  have := ev_eq ha hb (by rfl)
  rwa [show decide (V.int i = V.int j) = decide (i = j) from decide_eq_decide.mpr ⟨fun e => V.int.inj e, fun e => congrArg _ e⟩] at this
theorem ev_neI (ha : Ev M ta σ G H (rInt i)) (hb : Ev M tb σ G H (rInt j)) : Ev M (tOp rNe ta tb) σ G H (rBl (!decide (i = j))) := by
  have := ev_ne ha hb (by rfl)
  rwa [show decide (V.int i = V.int j) = decide (i = j) from decide_eq_decide.mpr ⟨fun e => V.int.inj e, fun e => congrArg _ e⟩] at this
theorem ev_eqS {x y : Str} (ha : Ev M ta σ G H (rStr x)) (hb : Ev M tb σ G H (rStr y)) : Ev M (tOp rEq ta tb) σ G H (rBl (decide (x = y))) := by
  have := ev_eq ha hb (by rfl)
  rwa [show decide (V.str x = V.str y) = decide (x = y) from decide_eq_decide.mpr ⟨fun e => V.str.inj e, fun e => congrArg _ e⟩] at this
theorem ev_neS {x y : Str} (ha : Ev M ta σ G H (rStr x)) (hb : Ev M tb σ G H (rStr y)) : Ev M (tOp rNe ta tb) σ G H (rBl (!decide (x = y))) := by
  have := ev_ne ha hb (by rfl)
  rwa [show decide (V.str x = V.str y) = decide (x = y) from decide_eq_decide.mpr ⟨fun e => V.str.inj e, fun e => congrArg _ e⟩] at this
/-- one sign in a text -/
theorem ev_sign {c : Nat} {z : Str} (ha : Ev M ta σ G H (rStr ⟨#[c]⟩)) (hb : Ev M tb σ G H (rStr z)) :
    Ev M (tOp (fun x y H Q => ∃ (c : Nat) (z : Str), x = .str ⟨#[c]⟩ ∧ y = .str z ∧ Q (.bl (decide (c ∈ z.cps.toList))) H) ta tb) σ G H (rBl (decide (c ∈ z.cps.toList))) :=
  ev_op ha hb fun G1 H1 x y e p q Q k => ⟨c, z, p, q, k _ G1 H1 e.at.go rfl⟩
/-- a table of the top -/
theorem ev_top {a : Addr} {vs : List V} (h : ∀ H, SqT K H a vs) : Ev M (tC (.ref a)) σ G H (rTup K (vs.map rV)) := fun G1 H1 e Q q => q _ G1 H1 e.at.go ⟨a, vs, rfl, h G1, by
  have : ∀ vs : List V, Al G1 (vs.map rV) vs := fun vs => by
    induction vs with
    | nil => exact .nil
    | cons v t ih => exact .cons rfl ih
  exact this vs⟩
/-- a table of texts -/
theorem ev_topS {a : Addr} (xs : List Str) (h : ∀ H, SqT K H a (xs.map V.str)) : Ev M (tC (.ref a)) σ G H (rTup K (xs.map rStr)) := by
  have := ev_top (M := M) (σ := σ) (G := G) (H := H) h
  rw [List.map_map] at this
  exact this
end
/-! ### lists of texts against the empty one -/
section
variable {K : PySem.W.Frag} {M : Md} {σ : L2.St} {G H G' H' : Hp} {ta tb te tc : TE}
theorem dpAll_strs {H : Hp} : ∀ xs : List Str, DpAll K H (xs.map V.str) (xs.map PyData.str)
  | [] => .nil
  | x :: t => .cons (.str x) (dpAll_strs t)
theorem canAll_strs : ∀ {xs : List Str}, (∀ x ∈ xs, PyData.strOk x = true) → PyData.canLayAll0 (xs.map PyData.str) = true
  | [], _ => rfl
  | x :: t, h => by
    show (PyData.strOk x && PyData.canLayAll0 (t.map PyData.str)) = true
    rw [h x List.mem_cons_self, canAll_strs fun y hy => h y (List.mem_cons_of_mem _ hy)]
    rfl
theorem depthAll_strs : ∀ xs : List Str, PyData.depthAll (xs.map PyData.str) = 0
  | [] => rfl
  | x :: t => by
    show max 0 (PyData.depthAll (t.map PyData.str)) = 0
    rw [depthAll_strs t]
    rfl
theorem shaped_strs {xs : List Str} (h : ∀ x ∈ xs, PyData.strOk x = true) : SeqAt.shaped (.list (xs.map PyData.str)) = true := by
  unfold SeqAt.shaped
  rw [Bool.and_eq_true, decide_eq_true_iff]
  refine ⟨canAll_strs h, ?_⟩
  show PyData.depthAll (xs.map PyData.str) + 1 ≤ 64
  rw [depthAll_strs]
  decide
/-- xs != [] -/
theorem ev_neNil {l : Addr} {xs : List Str} (ha : Ev M ta σ G H (rRef l)) (hl : H l = some (.lst (xs.map V.str))) (hW : l ∉ M.W) (hok : ∀ x ∈ xs, PyData.strOk x = true) : Ev M (tOp (rNeD K) ta (tLst tNil)) σ G H (rBl (!xs.isEmpty)) := fun G1 H1 a Q q =>
  ha G1 H1 a _ fun v G2 H2 b p => by
    have p : v = .ref l := p
    subst p
    refine ⟨(by decide : 0 ≤ sizeLine), fun d hd => ?_⟩
    have c := b.at.new (o := .lst []) hd
    have h3 := ((a.trans b).trans c).gr.hh l _ hl hW
    refine ⟨.list (xs.map PyData.str), .list [], .lst (.of h3) (dpAll_strs xs), .lst (.of upd_same) .nil, shaped_strs hok, by decide +kernel, ?_⟩
    have e : PyData.eqv (.list (xs.map PyData.str)) (.list []) = xs.isEmpty := by cases xs <;> rfl
    rw [e]
    exact q _ _ _ (b.trans c) rfl
end
/-! ### things that may change, frozen while a scalar is reckoned -/
def frzH (ps : List Addr) (G H : Hp) : Hp := fun b => if b ∈ ps then H b else G b
section
variable {K : PySem.W.Frag} {M : Md} {σ : L2.St} {G H G' H' : Hp} {ta tb te tc : TE} {tt : TT}
theorem frzH_in {ps : List Addr} {b : Addr} (h : b ∈ ps) : frzH ps G H b = H b := if_pos h
theorem frzH_out {ps : List Addr} {b : Addr} (h : b ∉ ps) : frzH ps G H b = G b := if_neg h
theorem frzH_le {ps : List Addr} (le : Le G H) : Le (frzH ps G H) H := fun b o e => by
  by_cases h : b ∈ ps
  · rw [frzH_in h] at e; exact ⟨o, e, .refl o⟩
  · rw [frzH_out h] at e; exact le b o e
theorem le_frzH {ps : List Addr} (le : Le G H) : Le G (frzH ps G H) := fun b o e => by
  by_cases h : b ∈ ps
  · rw [frzH_in h]; exact le b o e
  · rw [frzH_out h]; exact ⟨o, e, .refl o⟩
/-- neither a table nor a thing that the kit tells by a word of its own -/
def NX (o : HO) : Prop := NT o ∧ ∀ f, o ≠ .ext f
theorem tmp_go {ps : List Addr} (hp : ∀ p ∈ ps, (∃ o, H p = some o ∧ NX o) ∧ p ∉ M.W) (a : Go M G H G' H') : Go M (frzH ps G H) H (frzH ps G' H') H' := by
  have same : ∀ b ∈ ps, H' b = H b := fun b hb => by
    obtain ⟨⟨o, e, n⟩, h2⟩ := hp b hb
    rw [e]
    exact a.gr.hhN b o e h2 n.1
  refine ⟨⟨fun b o e => ?_, frzH_le a.at.le, a.gr.hhN, a.gr.dm, fun b n1 n2 => ?_, fun P hP n t => ?_⟩, a.j⟩
  · by_cases h : b ∈ ps
    · rw [frzH_in h] at e ⊢
      exact ⟨o, by rw [same b h]; exact e, .refl o⟩
    · rw [frzH_out h] at e ⊢
      exact a.gg b o e
  · by_cases h : b ∈ ps
    · rw [frzH_in h] at n1; exact n1
    · rw [frzH_out h] at n1 n2; exact a.gr.nw b n1 n2
  · obtain ⟨h0, qs, h1, h2, h3⟩ := t
    have np : P ∉ ps := fun z => by
      obtain ⟨⟨o, e, n⟩, _⟩ := hp P z
      rw [h1] at e
      exact n.1 _ (Option.some.inj e).symm
    rw [frzH_out np] at h0
    have t0 : TabG G H P := ⟨h0, qs, h1, h2, fun pos cv hc => by
      obtain ⟨c, e1, e2⟩ := h3 pos cv hc
      refine ⟨c, e1, ?_⟩
      by_cases h : c ∈ ps
      · obtain ⟨⟨o, e, n⟩, _⟩ := hp c h
        rw [frzH_in h, e] at e2
        exact (n.2 _ (Option.some.inj e2)).elim
      · rw [frzH_out h] at e2
        exact e2⟩
    have t1 := a.gr.tb P hP n t0
    exact t1.go (le_frzH a.at.le) rfl ((frzH_out np).trans t1.1)
/-- what was frozen meanwhile stays so, but for these -/
def offG (ps : List Addr) (G G2 : Hp) : Hp := fun b => if b ∈ ps then G b else G2 b
theorem tmp_back {ps : List Addr} {G2 H2 : Hp} (hp : ∀ p ∈ ps, (∃ o, H p = some o ∧ NX o) ∧ p ∉ M.W) (le : Le G H) (b : Go M (frzH ps G H) H G2 H2) : Go M G H (offG ps G G2) H2 := by
  refine ⟨⟨fun c o e => ?_, fun c o e => ?_, b.gr.hhN, b.gr.dm, fun c h1 h2 => ?_, fun P hP n t => ?_⟩, b.j⟩
  · unfold offG
    by_cases h : c ∈ ps
    · rw [if_pos h]; exact ⟨o, e, .refl o⟩
    · rw [if_neg h]; exact b.gg c o (by rw [frzH_out h]; exact e)
  · unfold offG at e
    by_cases h : c ∈ ps
    · rw [if_pos h] at e; exact ((le_frzH le).trans (b.gg.trans b.at.le)) c o e
    · rw [if_neg h] at e; exact b.at.le c o e
  · unfold offG at h2
    by_cases h : c ∈ ps
    · rw [if_pos h] at h2; exact (h2 h1).elim
    · rw [if_neg h] at h2; exact b.gr.nw c (by rw [frzH_out h]; exact h1) h2
  · have np : P ∉ ps := fun z => by
      obtain ⟨⟨o, e, n⟩, _⟩ := hp P z
      exact t.off e n.1 rfl
    obtain ⟨k0, qs, k1, k2, k3⟩ := b.gr.tb P hP n (t.go (le_frzH le) rfl ((frzH_out np).trans t.1))
    refine ⟨(if_neg np).trans k0, qs, k1, k2, fun pos cv hc => ?_⟩
    obtain ⟨c, e1, e2⟩ := k3 pos cv hc
    refine ⟨c, e1, ?_⟩
    unfold offG
    by_cases h : c ∈ ps
    · obtain ⟨⟨o, e, n⟩, _⟩ := hp c h
      obtain ⟨o', e3, e4⟩ := b.gg c o (by rw [frzH_in h]; exact e)
      rw [e2] at e3
      cases e3
      rcases e4 with z | ⟨u, hu, z1, z2⟩
      · exact (n.2 _ z).elim
      · rcases z2 with z | ⟨ob, z⟩
        · rw [← z] at hu
          exact (code_nd hu).elim
        · exact (code_nf _ _ z).elim
    · rw [if_neg h]; exact e2
theorem ev_tmp {ps : List Addr} {v : V} (hp : ∀ p ∈ ps, (∃ o, H p = some o ∧ NX o) ∧ p ∉ M.W) (h : Ev M te σ (frzH ps G H) H (rV v)) : Ev M te σ G H (rV v) := fun G1 H1 a Q q =>
  h _ _ (tmp_go hp a) Q fun x G2 H2 b p => q x _ H2 (tmp_back (fun p hp' => by
    obtain ⟨⟨o, e, n⟩, h2⟩ := hp p hp'
    exact ⟨⟨o, a.gr.hhN p o e h2 n.1, n⟩, h2⟩) a.at.le b) p
theorem et_tmp {ps : List Addr} {B : Bool → Prop} (hp : ∀ p ∈ ps, (∃ o, H p = some o ∧ NX o) ∧ p ∉ M.W) (h : EvT M tt σ (frzH ps G H) H B) : EvT M tt σ G H B := fun G1 H1 a Q q =>
  h _ _ (tmp_go hp a) Q fun x G2 H2 b p => q x _ H2 (tmp_back (fun p hp' => by
    obtain ⟨⟨o, e, n⟩, h2⟩ := hp p hp'
    exact ⟨⟨o, a.gr.hhN p o e h2 n.1, n⟩, h2⟩) a.at.le b) p
end
/-! ### more statements -/
section
variable {K : PySem.W.Frag} {M : Md} {σ : L2.St} {G H G' H' : Hp} {ta tb te tc : TE} {r : Rl} {D : Ends} {tz : TS}
theorem q_aug {i : Nat} {x y z : V} {op : TIp} (hx : σ[i]? = some (some x)) (h : Ev M te σ G H (rV y)) (a : At M G H) (hop : ∀ H (Q : VK), Q z H → op x y H Q) (k : ∀ G' H', Go M G H G' H' → tz D (σ.set i (some z)) H') : tSeq (tAug i te op) tz D σ H :=
  ⟨x, hx, h G H a.go _ fun v G1 H1 b p => by
    have p : v = y := p
    subst p
    exact hop _ _ (k G1 H1 b)⟩
theorem s_aug {i : Nat} {x y z : V} {op : TIp} (hx : σ[i]? = some (some x)) (h : Ev M te σ G H (rV y)) (a : At M G H) (hop : ∀ H (Q : VK), Q z H → op x y H Q) (k : ∀ G' H', Go M G H G' H' → D.nx (σ.set i (some z)) H') : tAug i te op D σ H :=
  q_aug (D := D) (tz := fun D => D.nx) hx h a hop k
end
/-! ### rules whose reading names the fragment plainly (so that it may stand inside a block) -/
section
variable {X : Cx} {K : PySem.W.Frag}
theorem pe_fldK {e : Expr} {ta : TE} {f : Str} {pos : Pos} (hK : X.K = K) (he : PE X e ta) (hb : attributeBase e f X.env (eval e X.env) = eval e X.env) : PE X (.Attribute e f pos) (tFld K ta f) := hK ▸ pe_fld he hb
theorem peT {e : Expr} {t t' : TE} (h : PE X e t) (q : t = t') : PE X e t' := q ▸ h
theorem ptsT {l : List Expr} {t t' : TT} (h : PTs X l t) (q : t = t') : PTs X l t' := q ▸ h
theorem piT {tg e : Expr} {t t' : TI} (h : PI X tg e t) (q : t = t') : PI X tg e t' := q ▸ h
theorem op_inK (hK : X.K = K) : OpR X (compareOp .In) (rIn K false) := hK ▸ op_in_seq
theorem op_notInK (hK : X.K = K) : OpR X (compareOp .NotIn) (rIn K true) := hK ▸ op_notIn_seq
end
/-! ### what the top of every law holds: built-in names are free, the constants of books -/
structure Top (K : PySem.W.Frag) (mg : Str → Option Value) : Prop where
  z_len : mg "len" = none
  z_all : mg "all" = none
  z_any : mg "any" = none
  z_set : mg "set" = none
  z_list : mg "list" = none
  z_tuple : mg "tuple" = none
  z_dict : mg "dict" = none
  z_int : mg "int" = none
  z_str : mg "str" = none
  z_max : mg "max" = none
  z_min : mg "min" = none
  z_range : mg "range" = none
  z_enumerate : mg "enumerate" = none
  z_isinstance : mg "isinstance" = none
  z_sorted : mg "sorted" = none
  z_bool : mg "bool" = none
  c_LETTERS : ∃ u, mg "LETTERS" = some u ∧ RelV (.str "abcdefghijklmnopqrstuvwxyz") u
  c_MOST_SIGNS : ∃ u, mg "MOST_SIGNS" = some u ∧ RelV (.int 8) u
  c_MOST_NEEDS : ∃ u, mg "MOST_NEEDS" = some u ∧ RelV (.int 12) u
  c_MOST_TRIES : ∃ u, mg "MOST_TRIES" = some u ∧ RelV (.int 30) u
  c_MOST_WAYS : ∃ u, mg "MOST_WAYS" = some u ∧ RelV (.int 4) u
  c_MOST_TIMES : ∃ u, mg "MOST_TIMES" = some u ∧ RelV (.int 4) u
  c_MOST_CASES : ∃ u, mg "MOST_CASES" = some u ∧ RelV (.int 64) u
  c_WORDS : ∃ u, mg "WORDS" = some u ∧ RelV (.ref (He.ga K "WORDS")) u
  t_WORDS : ∀ H, SqT K H (He.ga K "WORDS") [.str "and", .str "or", .str "not"]
  c_SCOPES : ∃ u, mg "SCOPES" = some u ∧ RelV (.ref (He.ga K "SCOPES")) u
  t_SCOPES : ∀ H, SqT K H (He.ga K "SCOPES") [.str "run", .str "house", .str "group", .str "try"]
  y_SCOPES : ∀ H, tyV K "tuple" (.ref (He.ga K "SCOPES")) H
abbrev FnP (K : PySem.W.Frag) (x qual : Str) (st : Stmt) (f : Addr) (fd : FuncData) : Prop := FunD K x qual (defArgs st) (defBody st) (defScope st) [] [] f fd
end TH
/-! A dict comprehension with two fors. -/
namespace TH
open PySem PySem.Spec PyProof.Rows L2
/-- {kx: vx for ta in ia if ca.. for tb in ib if cb..} -/
abbrev DC2 (kx vx ta ia tb ib : Expr) (ca cb : List Expr) (sc : Scope) (pos : Pos) : Expr := .DictComp kx vx [⟨ta, ia, ca, 0⟩, ⟨tb, ib, cb, 0⟩] sc pos
section
variable {prog : Program} {w : World} {A : Around} {R : Result → Shared → Prop} {s : Shared} {kx vx ta ia tb ib : Expr} {ca cb : List Expr} {sc : Scope} {pos : Pos} {it : Value} {D : Addr} {env : Env}
/-- all of these tests hold -/
abbrev tests (env : Env) (cs : List Expr) : Sem Bool := forIn cs true fun c r => if r = true then do { let ok ← isTrue c env (eval c env); pure (ForInStep.yield ok) } else pure (ForInStep.yield r)
abbrev Bad (prog : Program) (w : World) (A : Around) (env : Env) (R : Result → Shared → Prop) : Value → Shared → Prop := notedBy (model prog w) A env fun x u => R (.error x) u
theorem turn_outer : compTurn (DC2 kx vx ta ia tb ib ca cb sc pos) 0 it (.ref D) env = (do
    standAt ia.pos
    match ← pyNext it with
    | none => pure (.done .next)
    | some v =>
      letOwnedTupleGo ta it v
      assign ta env v
      let mut good := true
      for c in ca do
        if good then good ← isTrue c env (eval c env)
      if good then
        let y ← eval ib env
        standAt ib.pos
        let y ← foldedSetIterable ib env y
        let _ ← runOwn (.compStart (DC2 kx vx ta ia tb ib ca cb sc pos) 1 (← holding [y] (pyIter y)) (.ref D) env) env
      again (.compLoop (DC2 kx vx ta ia tb ib ca cb sc pos) 0 it (.ref D) env)) := by rfl
theorem turn_inner : compTurn (DC2 kx vx ta ia tb ib ca cb sc pos) 1 it (.ref D) env = (do
    standAt ib.pos
    match ← pyNext it with
    | none => pure (.done .next)
    | some v =>
      letOwnedTupleGo tb it v
      assign tb env v
      let mut good := true
      for c in cb do
        if good then good ← isTrue c env (eval c env)
      if good then
        (do
          let a ← eval kx env
          let b ← holding [a] (eval vx env)
          standAt { kx.pos with endLine := vx.pos.endLine, endCol := vx.pos.endCol }
          holding [a, b] (dictSet D a b))
      again (.compLoop (DC2 kx vx ta ia tb ib ca cb sc pos) 1 it (.ref D) env)) := by rfl
/-- less by some measure -/
abbrev Less (Iv : Nat → Shared → Prop) (n : Nat) (u : Shared) : Prop := ∃ m, m < n ∧ Iv m u
theorem loop_outer (fold : ∀ x, foldedSetIterable ib env x = pure x) (Iv : Nat → Shared → Prop)
    (turn : ∀ n u, Iv n u → wpAny (model prog w) A (pyNext it) (fun r u1 => match r with
      | none => R (.ok .next) u1
      | some v => wpAny (model prog w) A (letOwnedTupleGo ta it v) (fun _ u2 => wpAny (model prog w) A (assign ta env v) (fun _ u3 => wpAny (model prog w) A (tests env ca) (fun ok u4 =>
          if ok = true then wpAny (model prog w) A (eval ib env) (fun y u5 => wpAny (model prog w) A (pyIter y) (fun j u6 =>
            codeAny (model prog w) A (.compStart (DC2 kx vx ta ia tb ib ca cb sc pos) 1 j (.ref D) env) (fun z u7 => match z with
              | .ok _ => Less Iv n u7
              | .error _ => False) u6) (Bad prog w A env R) u5) (Bad prog w A env R) u4
          else Less Iv n u4) (Bad prog w A env R) u3) (Bad prog w A env R) u2) (Bad prog w A env R) u1) (Bad prog w A env R) u)
    (n : Nat) (h : Iv n s) : codeAny (model prog w) A (.compLoop (DC2 kx vx ta ia tb ib ca cb sc pos) 0 it (.ref D) env) R s := by
  refine codeAny_loop rfl Iv (fun n u hu => ?_) n h
  show wpAny _ A ((compTurn (DC2 kx vx ta ia tb ib ca cb sc pos) 0 it (.ref D) env).onRaise (fun x => do noteFrame x env; theTreesLotGoes x)) _ _ u
  refine wpAny_noted ?_
  rw [turn_outer]
  refine wpAny_bind (wpAny_standAt (wpAny_bind (wpAny_mono (turn n u hu) (fun r u1 k1 => ?_) fun _ _ z => z)))
  cases r with
  | none => exact wpAny_pure k1
  | some v =>
    refine wpAny_bind (wpAny_mono k1 (fun _ u2 k2 => wpAny_bind (wpAny_mono k2 (fun _ u3 k3 => wpAny_bind (wpAny_mono k3 (fun ok u4 k4 => ?_) fun _ _ z => z)) fun _ _ z => z)) fun _ _ z => z)
    cases ok with
    | false => exact wpAny_pure ⟨rfl, k4⟩
    | true =>
      refine wpAny_bind (wpAny_mono k4 (fun y u5 k5 => wpAny_bind (wpAny_standAt (wpAny_bind (wpAny_of_eq (fold y) (wpAny_bind (wpAny_holding (wpAny_mono k5 (fun j u6 k6 => ?_) fun _ _ z => z))))))) fun _ _ z => z)
      refine wpAny_bind (wpAny_runOwn ?_)
      rw [Around.mark_none]
      refine codeAny_mono k6 fun z u7 k7 => ?_
      cases z with
      | error e => exact k7.elim
      | ok f =>
        first
          | exact wpAny_pure ⟨rfl, k7⟩
          | exact wpAny_bind (wpAny_pure (wpAny_pure ⟨rfl, k7⟩))
theorem loop_inner (Iv : Nat → Shared → Prop)
    (turn : ∀ n u, Iv n u → wpAny (model prog w) A (pyNext it) (fun r u1 => match r with
      | none => R (.ok .next) u1
      | some v => wpAny (model prog w) A (letOwnedTupleGo tb it v) (fun _ u2 => wpAny (model prog w) A (assign tb env v) (fun _ u3 => wpAny (model prog w) A (tests env cb) (fun ok u4 =>
          if ok = true then wpAny (model prog w) A (eval kx env) (fun a u5 => wpAny (model prog w) A (eval vx env) (fun b u6 =>
            wpAny (model prog w) A (dictSet D a b) (fun _ u7 => Less Iv n u7) (Bad prog w A env R) u6) (Bad prog w A env R) u5) (Bad prog w A env R) u4
          else Less Iv n u4) (Bad prog w A env R) u3) (Bad prog w A env R) u2) (Bad prog w A env R) u1) (Bad prog w A env R) u)
    (n : Nat) (h : Iv n s) : codeAny (model prog w) A (.compLoop (DC2 kx vx ta ia tb ib ca cb sc pos) 1 it (.ref D) env) R s := by
  refine codeAny_loop rfl Iv (fun n u hu => ?_) n h
  show wpAny _ A ((compTurn (DC2 kx vx ta ia tb ib ca cb sc pos) 1 it (.ref D) env).onRaise (fun x => do noteFrame x env; theTreesLotGoes x)) _ _ u
  refine wpAny_noted ?_
  rw [turn_inner]
  refine wpAny_bind (wpAny_standAt (wpAny_bind (wpAny_mono (turn n u hu) (fun r u1 k1 => ?_) fun _ _ z => z)))
  cases r with
  | none => exact wpAny_pure k1
  | some v =>
    refine wpAny_bind (wpAny_mono k1 (fun _ u2 k2 => wpAny_bind (wpAny_mono k2 (fun _ u3 k3 => wpAny_bind (wpAny_mono k3 (fun ok u4 k4 => ?_) fun _ _ z => z)) fun _ _ z => z)) fun _ _ z => z)
    cases ok with
    | false => exact wpAny_pure ⟨rfl, k4⟩
    | true => exact wpAny_bind (wpAny_bind (wpAny_mono k4 (fun a u5 k5 => wpAny_bind (wpAny_holding (wpAny_mono k5 (fun b u6 k6 => wpAny_bind (wpAny_standAt (wpAny_holding (wpAny_mono k6 (fun _ u7 k7 => wpAny_pure ⟨rfl, k7⟩) fun _ _ z => z)))) fun _ _ z => z))) fun _ _ z => z))
theorem start_inner (h0 : codeAny (model prog w) A (.compLoop (DC2 kx vx ta ia tb ib ca cb sc pos) 1 it (.ref D) env) R s)
    (h : wpAny (model prog w) A (pyIter it) (fun j u => codeAny (model prog w) A (.compLoop (DC2 kx vx ta ia tb ib ca cb sc pos) 1 j (.ref D) env) R u) (Bad prog w A env R) s) :
    codeAny (model prog w) A (.compStart (DC2 kx vx ta ia tb ib ca cb sc pos) 1 it (.ref D) env) R s := by
  refine codeAny_of_tree ?_
  show wpAny _ _ ((compStart (DC2 kx vx ta ia tb ib ca cb sc pos) 1 it (.ref D) env).onRaise (fun x => do noteFrame x env; standAt theWindowsPlace)) _ _ s
  refine wpAny_notedAt ?_
  unfold compStart
  show wpAny _ _ (ask >>= _) _ _ s
  refine wpAny_bind (wpAny_askSetting (wpAny_ite ?_))
  split
  · first
      | exact wpAny_bind (wpAny_pure (wpAny_pure ⟨rfl, h0⟩))
      | exact wpAny_pure ⟨rfl, h0⟩
  · first
      | exact wpAny_bind (wpAny_rule (wpAny_bind (wpAny_standAt (wpAny_bind (wpAny_mono h (fun j u k => wpAny_pure ⟨rfl, k⟩) fun _ _ z => z)))))
      | (refine wpAny_bind (wpAny_rule ?_); show wpAny _ _ (standAt ib.pos >>= _) _ _ s; exact wpAny_bind (wpAny_standAt (wpAny_bind (wpAny_mono h (fun j u k => wpAny_pure ⟨rfl, k⟩) fun _ _ z => z))))
end
section
variable {X : Cx}
/-- its reading: vs the block's names, vb those of the second target -/
def tDc2 (wa : TI) (ga : TG) (qa : TT) (wb : TI) (gb : TG) (qb : TT) (tk tv : TE) (vs vb : List Nat) : TE := fun σ H Q => wa σ H fun J H1 => ∀ D, H1 D = none → ∃ W : Nat → Nat → Hp → Prop, (∃ m, W 0 m (upd H1 D (.dK []))) ∧ ∀ i m H, W i m H →
  (J.stop i H ∧ Q (.ref D) H) ∨ (J.go i H ∧ ∃ Nx : Hp → Prop, (∀ H', Nx H' → ∃ m', m' < m ∧ W (i + 1) m' H') ∧ ∀ x H', J.yld i H x H' → ga x (wipe σ vs) H' fun σ2 H2 => wipe σ2 vs = wipe σ vs ∧ qa σ2 H2 fun b H3 =>
    if b = true then wb σ2 H3 fun J' H4 => ∃ W' : Nat → Nat → Hp → Prop, (∃ m, W' 0 m H4) ∧ ∀ j k H, W' j k H →
      (J'.stop j H ∧ Nx H) ∨ (J'.go j H ∧ ∃ Ny : Hp → Prop, (∀ H', Ny H' → ∃ k', k' < k ∧ W' (j + 1) k' H') ∧ ∀ x H', J'.yld j H x H' → gb x (wipe σ2 vb) H' fun σ3 H5 => wipe σ3 vb = wipe σ2 vb ∧ qb σ3 H5 fun b H6 =>
        if b = true then tk σ3 H6 fun y H7 => tv σ3 H7 fun z H8 => ∃ kvs k, y = kV k ∧ H8 D = some (.dK kvs) ∧ kvs.length < sizeLine ∧ Ny (upd H8 D (.dK (putK kvs k z))) else Ny H6)
    else Nx H3)
/-- a part of the block, whatever the block's heap -/
abbrev AllB (X : Cx) (sc : Scope) (Z : Cx → Prop) : Prop := ∀ (s : Shared) (H : Hp) (C : Addr) (cl : List (Str × Addr)) (fp : List Addr), Z (X.blk s H sc (compEnvC sc cl C X.env) fp)
theorem pe_dc2 {kx vx ta ia tb ib : Expr} {ca cb : List Expr} {sc : Scope} {own : List (Str × Nat)} {vb : List Nat} {pos : Pos} {wa wb : TI} {ga gb : TG} {qa qb : TT} {tk tv : TE} (calm : X.calm = true) (nd : X.N.Nodup) (pia : PI X ta ia wa) (ok : BlkOk X.N X.env.scope sc own) (sub : ∀ i ∈ vb, i ∈ own.map (·.2))
    (pga : AllB X sc fun Y => PG Y ta ga) (pca : AllB X sc fun Y => PTs Y ca qa) (pib : AllB X sc fun Y => PI Y tb ib wb) (pgb : AllB X sc fun Y => PG Y tb gb) (pcb : AllB X sc fun Y => PTs Y cb qb) (pk : AllB X sc fun Y => PE Y kx tk) (pv : AllB X sc fun Y => PE Y vx tv)
    (fa : ∀ x, foldedSetIterable ia X.env x = pure x := by intro _; rfl) (fb : ∀ env x, foldedSetIterable ib env x = pure x := by intro _ _; rfl) : PE X (DC2 kx vx ta ia tb ib ca cb sc pos) (tDc2 wa ga qa wb gb qb tk tv (own.map (·.2)) vb) := by
  refine ⟨fun pins s σ H Q I hyp => ?_⟩
  rw [arm_eval_DictComp]
  have cells : ∀ y ∈ sc.names, y.2 = .free → ∃ c, X.env.cells.lookup y.1 = some c := fun y hy e => (ok.free y hy e).elim (fun k => I.ok.has _ (.inl k)) fun k => I.ok.has _ (.inr k)
  show wpAny (model X.prog X.w) X.A (comprehension (DC2 kx vx ta ia tb ib ca cb sc pos) sc X.env _ newDict false (eval ia X.env) none) _ _ s
  refine wpAny_comprehension_free rfl fa (closure_ok cells) ok.kind (fun y hy e => by rw [ok.uniq y hy, e]) (thn (pia.run pins s σ H _ I hyp) fun xv s1 hx => thn hx fun itv s2 h2 => ?_)
  obtain ⟨it, fp, tn, J, H2, e, I2, T, st2, f2, q⟩ := h2
  subst e
  refine wpAny_newObj_type (newEnv_comp ?_)
  generalize hD : s2.heap.objs.size = D
  obtain ⟨W, ⟨m0, w0⟩, turn⟩ := q D (I2.hok.fresh (Nat.le_of_eq hD))
  generalize hs3 : ({ s2 with heap := s2.heap.push { cls := .type "dict", data := .dict #[] } } : Shared) = s3
  have hp3 : s3.heap = s2.heap.push { cls := .type "dict", data := .dict #[] } := by rw [← hs3]
  have I3 : Inv X pins σ (upd H2 D (.dK [])) s3 := by
    rw [← hs3]
    exact I2.laid (t' := s2.toks) (fun b o e => Heap.get?_push_of_some _ e) (Nat.le_of_eq hD) (by rw [← hD]; exact dk_empty s2.heap I2.big)
  have f3 : ∀ b ∈ fp, FpOk X pins (upd H2 D (.dK [])) b ∧ b < s3.heap.objs.size := fun b hb => by
    obtain ⟨o, e, _⟩ := T.obj _ _ st2 b hb
    have lt := Heap.lt_size e
    exact ⟨⟨by rw [upd_ne (by rw [← hD]; exact Nat.ne_of_lt lt)]; exact (f2 b hb).1, (f2 b hb).2⟩, by rw [hp3, Heap.size_push]; exact Nat.lt_succ_of_lt lt⟩
  have st3 : tn 0 s3.heap := T.keep _ _ _ st2 fun b _ o e => by rw [hp3]; exact Heap.get?_push_of_some _ e
  have I4 := block_start I3 ok nd f3
  show codeAny _ _ (.compStart (DC2 kx vx ta ia tb ib ca cb sc pos) 0 (.ref it) (.ref D) (compEnvC sc (cellsFrom (s3.heap.objs.size + 1) sc.names (cloFrom X.env.cells sc.names [])) s3.heap.objs.size X.env)) (compPost (model X.prog X.w) X.A X.xe none _ (.ref D) s3.heap.objs.size) { s3 with heap := pushCells (s3.heap.push { cls := .type "dict", data := .dict #[] }) sc.names }
  have none3 : ∀ b ∈ fp, (upd H2 D (.dK [])) b = none := fun b hb => (f3 b hb).1.1
  have rga := pga s3 (upd H2 D (.dK [])) s3.heap.objs.size (cellsFrom (s3.heap.objs.size + 1) sc.names (cloFrom X.env.cells sc.names [])) fp
  have rca := pca s3 (upd H2 D (.dK [])) s3.heap.objs.size (cellsFrom (s3.heap.objs.size + 1) sc.names (cloFrom X.env.cells sc.names [])) fp
  have rib := pib s3 (upd H2 D (.dK [])) s3.heap.objs.size (cellsFrom (s3.heap.objs.size + 1) sc.names (cloFrom X.env.cells sc.names [])) fp
  have rgb := pgb s3 (upd H2 D (.dK [])) s3.heap.objs.size (cellsFrom (s3.heap.objs.size + 1) sc.names (cloFrom X.env.cells sc.names [])) fp
  have rcb := pcb s3 (upd H2 D (.dK [])) s3.heap.objs.size (cellsFrom (s3.heap.objs.size + 1) sc.names (cloFrom X.env.cells sc.names [])) fp
  have rk := pk s3 (upd H2 D (.dK [])) s3.heap.objs.size (cellsFrom (s3.heap.objs.size + 1) sc.names (cloFrom X.env.cells sc.names [])) fp
  have rv := pv s3 (upd H2 D (.dK [])) s3.heap.objs.size (cellsFrom (s3.heap.objs.size + 1) sc.names (cloFrom X.env.cells sc.names [])) fp
  generalize hen : compEnvC sc (cellsFrom (s3.heap.objs.size + 1) sc.names (cloFrom X.env.cells sc.names [])) s3.heap.objs.size X.env = en at I4 rga rca rib rgb rcb rk rv ⊢
  have hloc : en.locals = s3.heap.objs.size := by subst hen; rfl
  generalize hH3 : upd H2 D (.dK []) = H3 at I3 I4 rga rca rib rgb rcb rk rv w0 none3 f3
  generalize hs4 : ({ s3 with heap := pushCells (s3.heap.push { cls := .type "dict", data := .dict #[] }) sc.names } : Shared) = s4 at I4 ⊢
  have st4 : tn 0 s4.heap := T.keep _ _ _ st3 fun b _ o e => by rw [← hs4]; exact pushCells_keeps _ _ _ _ (Heap.get?_push_of_some _ e)
  let Y := X.blk s3 H3 sc en fp
  let us := own.map (·.2)
  have okY : ∀ {σ' : L2.St} {H' : Hp} {u : Shared}, Inv Y [] σ' H' u → (∀ b ∈ fp, H' b = none) → ∀ b ∈ fp, FpOk Y [] H' b := fun {σ' H' u} I' hn b hb =>
    ⟨hn b hb, (I'.ok.exf b hb).1, I'.ok.exfs b hb, .inl hb, fun x c e => (I'.ok.exf b hb).2 x c e, fun p hp => absurd (show p ∈ ([] : List (Addr × Obj)) ++ [] from hp) (by simp)⟩
  let Iv : Nat → Shared → Prop := fun n u => ∃ i H', Inv Y [] (wipe σ us) H' u ∧ tn i u.heap ∧ (∀ b ∈ fp, H' b = none) ∧ W i n H'
  have loop : codeAny (model X.prog X.w) X.A (.compLoop (DC2 kx vx ta ia tb ib ca cb sc pos) 0 (.ref it) (.ref D) en) (compPost (model X.prog X.w) X.A X.xe none (EP X pins σ Q) (.ref D) s3.heap.objs.size) s4 := by
    refine loop_outer (fb en) Iv ?_ m0 ⟨0, H3, I4, st4, none3, w0⟩
    rintro n s5 ⟨i, H5, I5, st5, n5, w5⟩
    rcases turn i n H5 w5 with ⟨stop, qq⟩ | ⟨go, Nx, hNx, step⟩
    · refine thnF (T.done Y rfl rfl rfl calm i [] s5 _ H5 (fun _ _ => False) I5 (okY I5 n5) st5 stop) fun r s6 ⟨hr, I6⟩ => ?_
      subst hr
      have I7 : Inv X pins σ H5 s6 := I3.call' (ch := fp) I6.os I6.base I6.hok I6.bare fun b hb => ⟨(f3 b hb).1.2.2.2.1, (f3 b hb).1.2.1, (f3 b hb).1.2.2.2.2.1, (f3 b hb).1.2.2.2.2.2⟩
      have nC : H5 s3.heap.objs.size = none := hloc ▸ (show H5 en.locals = none from I6.free)
      obtain ⟨m, hn, _⟩ := I6.loc
      have hn : s6.heap.Ns s3.heap.objs.size m := hloc ▸ (show s6.heap.Ns en.locals m from hn)
      obtain ⟨g0, g1, g2, g3, g4, g5⟩ := I3.fpOk (Nat.le_refl _) nC
      exact ⟨m, hn, fun h'' sb => ⟨.ref D, H5, I7.turned (t' := s6.toks) (fun b o hb e => (sb.2 b hb).trans e) g0 g1 g3 g4 g5, rfl, qq⟩⟩
    · refine thnF (T.item Y rfl rfl rfl calm i [] s5 _ H5 (fun _ _ => False) I5 (okY I5 n5) st5 go) fun r s6 ⟨u, hr, h6⟩ => ?_
      subst hr
      refine thnF h6 fun _ s7 ⟨x, H7, I7, r7, y7, st7, n7⟩ => ?_
      refine thnF (rga.run _ s7 _ H7 x u _ (I7.pinned (okY I7 n7) (T.obj _ _ st7)) r7 (step x H7 y7)) fun _ s8 ⟨σ8, H8, I8, hw8, q8⟩ => ?_
      refine thnF (rca.run _ s8 σ8 H8 _ I8 q8) fun b s9 ⟨H9, I9, q9⟩ => ?_
      have fin : ∀ {σ9 : L2.St} {u : Shared} {H' : Hp}, Inv Y ([] ++ pinsAt fp s7.heap) σ9 H' u → (wipe σ us).length = σ9.length → (∀ (j : Nat) v, (wipe σ us)[j]? = some (some v) → σ9[j]? = some (some v)) → Nx H' → Less Iv n u := fun {σ9 u H'} I' hl hk nx => by
        obtain ⟨m', hm, w'⟩ := hNx H' nx
        have stay : ∀ b ∈ fp, ∀ o, s7.heap.get? b = some o → u.heap.get? b = some o ∧ H' b = none := fun b hb o e =>
          let z := I'.pin (b, o) (List.mem_append_right _ (List.mem_append_right _ (mem_pinsAt hb e)))
          ⟨z.1, z.2.1⟩
        exact ⟨m', hm, i + 1, H', (I'.unpinned (pins := [])).weak hl hk, T.keep _ _ _ st7 fun b hb o e => (stay b hb o e).1, fun b hb => let ⟨o, e, _⟩ := T.obj _ _ st7 b hb; (stay b hb o e).2, w'⟩
      have len8 : (wipe σ us).length = σ8.length := by rw [← hw8, wipe_length]
      have knows8 : ∀ (j : Nat) v, (wipe σ us)[j]? = some (some v) → σ8[j]? = some (some v) := fun j v e => (wipe_some (hw8 ▸ e)).1
      have knows9 : ∀ (j : Nat) v, (wipe σ us)[j]? = some (some v) → (wipe σ8 vb)[j]? = some (some v) := fun j v e => by
        obtain ⟨e1, e2⟩ := wipe_some (show (wipe σ8 us)[j]? = some (some v) by rw [hw8]; exact e)
        rw [wipe_out fun z => e2 (sub j z)]
        exact e1
      cases b with
      | false => exact fin I9 len8 knows8 (show Nx H9 by simpa using q9)
      | true =>
        rw [if_pos rfl] at q9
        show wpAny _ _ (eval ib en) _ _ s9
        refine thnF (rib.run _ s9 σ8 H9 _ I9 q9) fun xv s10 hx => thnF hx fun itv s11 h11 => ?_
        obtain ⟨jt, fq, tn', J', H11, e1, I11, T', st11, f11, W', ⟨m1, w1⟩, turn'⟩ := h11
        subst e1
        have okZ : ∀ {H' : Hp}, (∀ b ∈ fq, H' b = none) → ∀ b ∈ fq, FpOk Y ([] ++ pinsAt fp s7.heap) H' b := fun hn b hb => ⟨hn b hb, (f11 b hb).2⟩
        let Iw : Nat → Shared → Prop := fun k u => ∃ j H', Inv Y ([] ++ pinsAt fp s7.heap) (wipe σ8 vb) H' u ∧ tn' j u.heap ∧ (∀ b ∈ fq, H' b = none) ∧ W' j k H'
        have inner : codeAny (model X.prog X.w) X.A (.compLoop (DC2 kx vx ta ia tb ib ca cb sc pos) 1 (.ref jt) (.ref D) en) (fun z u => match z with | .ok _ => Less Iv n u | .error _ => False) s11 := by
          refine loop_inner Iw ?_ m1 ⟨0, H11, I11.weak (wipe_length _ _) (fun j v e => (wipe_some e).1), st11, fun b hb => (f11 b hb).1, w1⟩
          rintro k s12 ⟨j, H12, I12, st12, n12, w12⟩
          rcases turn' j k H12 w12 with ⟨stop', nx'⟩ | ⟨go', Ny, hNy, step'⟩
          · refine thnF (T'.done Y rfl rfl rfl calm j _ s12 (wipe σ8 vb) H12 (fun _ _ => False) I12 (okZ n12) st12 stop') fun r s13 ⟨hr, I13⟩ => ?_
            subst hr
            exact fin I13 (len8.trans (wipe_length σ8 vb).symm) knows9 nx'
          · refine thnF (T'.item Y rfl rfl rfl calm j _ s12 (wipe σ8 vb) H12 (fun _ _ => False) I12 (okZ n12) st12 go') fun r s13 ⟨u1, hr, h13⟩ => ?_
            subst hr
            refine thnF h13 fun _ s14 ⟨x1, H14, I14, r14, y14, st14, n14⟩ => ?_
            refine thnF (rgb.run _ s14 (wipe σ8 vb) H14 x1 u1 _ (I14.pinned (okZ n14) (T'.obj _ _ st14)) r14 (step' x1 H14 y14)) fun _ s15 ⟨σ15, H15, I15, hw15, q15⟩ => ?_
            refine thnF (rcb.run _ s15 σ15 H15 _ I15 q15) fun b1 s16 ⟨H16, I16, q16⟩ => ?_
            have fin' : ∀ {u : Shared} {H' : Hp}, Inv Y (([] ++ pinsAt fp s7.heap) ++ pinsAt fq s14.heap) σ15 H' u → Ny H' → Less Iw k u := fun {u H'} I' nx => by
              obtain ⟨m', hm, w'⟩ := hNy H' nx
              have stay : ∀ b ∈ fq, ∀ o, s14.heap.get? b = some o → u.heap.get? b = some o ∧ H' b = none := fun b hb o e =>
                let z := I'.pin (b, o) (List.mem_append_right _ (List.mem_append_right _ (mem_pinsAt hb e)))
                ⟨z.1, z.2.1⟩
              exact ⟨m', hm, j + 1, H', I'.unpinned.weak (by rw [← hw15, wipe_length]) (fun j v e => (wipe_some (hw15 ▸ e)).1), T'.keep _ _ _ st14 fun b hb o e => (stay b hb o e).1, fun b hb => let ⟨o, e, _⟩ := T'.obj _ _ st14 b hb; (stay b hb o e).2, w'⟩
            cases b1 with
            | false => exact fin' I16 (show Ny H16 by simpa using q16)
            | true =>
              rw [if_pos rfl] at q16
              show wpAny _ _ (eval kx en) _ _ s16
              refine thnF (rk.run _ s16 σ15 H16 _ I16 q16) fun z1 s17 ⟨yk, H17, I17, r17, q17⟩ => ?_
              refine thnF (rv.run _ s17 σ15 H17 _ I17 q17) fun z2 s18 ⟨yv, H18, I18, r18, kvs, kk, ek, hD18, hz18, nx⟩ => ?_
              subst ek
              exact d_dictSet (X := Y) I18 hD18 hz18 r17 r18 fun s19 I19 => fin' I19 nx
        exact start_inner inner (T'.self X.A 0 _ _ _ st11 inner)
  exact codeAny_compStart_dict loop (T.self X.A 0 _ _ _ st4 loop)
end
end TH
/-! t[::-1] of a tuple; readings by cases. -/
namespace TH
open PySem PySem.Spec PyProof.Rows L2 HT
theorem adjust_rev (n : Nat) : Builtin.Slice.sliceAdjust none none (-1) (n : Int) = ((n : Int) - 1, -1) := by
  unfold Builtin.Slice.sliceAdjust
  simp
theorem places_rev (n : Nat) : Builtin.Slice.slicePlaces ((n : Int) - 1) (-1) (-1) = n := by
  unfold Builtin.Slice.slicePlaces
  simp
  omega
section
variable {prog : Program} {w : World} {A : Around} {E : Value → Shared → Prop} {s : Shared}
theorem applied_rev {sl : Addr} {vl vu vs : Value} {n : Nat} {Q : Int × Int × Nat → Shared → Prop} (hs : s.heap.IsSliceOf sl vl vu vs) (pl : IsPart vl none) (pu : IsPart vu none) (ps : IsPart vs (some (-1)))
    (h : Q ((n : Int) - 1, -1, n) s) : wpAny (model prog w) A (Builtin.Slice.sliceApplied (.ref sl) (pure (n : Int))) Q E s := by
  obtain ⟨os, hos, hcs, hds⟩ := id hs
  unfold Builtin.Slice.sliceApplied Builtin.Slice.sliceFields
  refine wpAny_bind (wpAny_bind (wpAny_field hos hds (x := vl) rfl (wpAny_bind (wpAny_field hos hds (x := vu) rfl (wpAny_bind (wpAny_field hos hds (x := vs) rfl (wpAny_pure ?_)))))))
  refine wpAny_bind (slicePart_ ps ?_)
  show wpAny _ _ (if ((-1 : Int) == 0) = true then _ else _) _ _ s
  rw [if_neg (by decide)]
  refine wpAny_bind (slicePart_ pl (wpAny_bind (slicePart_ pu (wpAny_bind (wpAny_pure ?_)))))
  show wpAny _ _ (match Builtin.Slice.sliceAdjust none none (-1) (n : Int) with | (lo, hi) => pure (lo, (-1 : Int), Builtin.Slice.slicePlaces lo hi (-1))) _ _ s
  rw [adjust_rev]
  show wpAny _ _ (pure ((n : Int) - 1, (-1 : Int), Builtin.Slice.slicePlaces ((n : Int) - 1) (-1) (-1))) _ _ s
  rw [places_rev]
  exact wpAny_pure h
theorem fm_some {α β : Type} (f : α → Option β) (g : α → β) : ∀ l : List α, (∀ x ∈ l, f x = some (g x)) → l.filterMap f = l.map g
  | [], _ => rfl
  | x :: t, h => by
    rw [List.filterMap_cons, h x List.mem_cons_self, fm_some f g t fun y hy => h y (List.mem_cons_of_mem _ hy)]
    rfl
theorem pick_rev (xs : Array Value) : ((List.range xs.size).filterMap fun (k : Nat) => xs[((xs.size : Int) - 1 + (k : Int) * -1).toNat]?).toArray = xs.toList.reverse.toArray := by
  congr 1
  rw [fm_some _ (fun k => (xs[xs.size - 1 - k]?).getD Value.none) _ fun k hk => by
    have hk := List.mem_range.mp hk
    rw [show ((xs.size : Int) - 1 + (k : Int) * -1).toNat = xs.size - 1 - k by omega, Array.getElem?_eq_getElem (show xs.size - 1 - k < xs.size by omega)]
    rfl]
  refine List.ext_getElem? fun i => ?_
  rw [List.getElem?_map]
  by_cases h : i < xs.size
  · rw [List.getElem?_range h, List.getElem?_reverse (by simpa using h)]
    simp only [Option.map_some, Array.length_toList, Array.getElem?_toList]
    rw [Array.getElem?_eq_getElem (show xs.size - 1 - i < xs.size by omega)]
    rfl
  · rw [List.getElem?_eq_none (by simpa using h), List.getElem?_eq_none (by simpa using h)]
    rfl
theorem getItem_tuple_rev {t sl : Addr} {items : Array Value} {vl vu vs : Value} {Q : Value → Shared → Prop} (ht : IsTup s.heap t items) (hs : s.heap.IsSliceOf sl vl vu vs) (pl : IsPart vl none) (pu : IsPart vu none) (ps : IsPart vs (some (-1)))
    (h : Q (.ref s.heap.objs.size) { s with heap := s.heap.push { cls := .type "tuple", data := .seq items.toList.reverse.toArray } }) (hsz : items.size ≤ sizeLine) : wpAny (model prog w) A (getItem (.ref t) (.ref sl)) Q E s := by
  have fits : sizeOk (.seq items.toList.reverse.toArray) := by
    show items.toList.reverse.toArray.size ≤ sizeLine
    rw [List.size_toArray, List.length_reverse, Array.length_toList]
    exact hsz
  obtain ⟨os, hos, hcs, hds⟩ := id hs
  have kind : s.TypeIs (.ref sl) "slice" := ⟨os, hos, hcs⟩
  unfold getItem
  try with_reducible refine wpAny_holding ?_
  first | refine wpAny_bind (wpAny_pure ?_) | skip
  refine wpAny_bind (wpAny_sequenceKey ht.typeIs (by decide) (wpAny_bind (wpAny_callSpecial?_slot (name := Str.ofString "__getitem__") ht.typeIs PyProof.Rows.slot_tuple_getitem (wpAny_call_entry PyProof.Rows.slot_tuple_getitem ht.typeIs entry_tuple_getitem ?_ (args_tuple_getitem _ _)))))
  show wpAny _ _ (Builtin.Tuple.tupleItemsOf (.ref t) >>= _) _ _ s
  refine wpAny_bind (tupleItemsOf_ ht (wpAny_bind (wpAny_typeOf kind ?_)))
  rw [if_pos (by decide)]
  refine wpAny_bind (applied_rev hs pl pu ps ?_)
  have no : ¬ ((((items.size : Int) - 1) == 0 && (-1 : Int) == 1 && items.size == items.size) = true) := by simp
  show wpAny _ _ (if (((items.size : Int) - 1) == 0 && (-1 : Int) == 1 && items.size == items.size) = true then _ else _) _ _ s
  rw [if_neg no, pick_rev]
  first
    | exact wpAny_bind (m := Builtin.Tuple.tupleExact _) (wpAny_newObj_type (wpAny_pure ⟨_, rfl, wpAny_pure h⟩) fits)
    | exact wpAny_bind (m := Builtin.Tuple.tupleExact _) (wpAny_newObj_type (wpAny_bind (wpAny_pure (wpAny_pure ⟨_, rfl, wpAny_pure h⟩))) fits)
    | exact wpAny_bind (wpAny_bind (m := Builtin.Tuple.tupleExact _) (wpAny_newObj_type (wpAny_pure (wpAny_pure ⟨_, rfl, wpAny_pure h⟩)) fits))
    | exact wpAny_bind (wpAny_bind (m := Builtin.Tuple.tupleExact _) (wpAny_newObj_type (wpAny_pure ⟨_, rfl, wpAny_pure h⟩) fits))
end
section
variable {X : Cx}
def tRevT (K : PySem.W.Frag) (te : TE) : TE := fun σ H Q => te σ H fun x H1 => ∃ a xs, x = .ref a ∧ SqT K H1 a xs ∧ ∀ p, H1 p = none → Q (.ref p) (upd H1 p (.tup xs.reverse))
theorem pe_revT {e : Expr} {te : TE} {k : Nat} {p1 p2 p3 pos : Pos} (he : PE X e te) : PE X (.Subscript e (.Slice none none (some (.UnaryOp .USub (.Constant (.int 1) k p1) p2)) p3) pos) (tRevT X.K te) := by
  refine ⟨fun pins s σ H Q I h => Subscript_ (thn (he.run pins s σ H _ I h) fun v s1 ⟨x, H1, I1, r1, a, xs, ex, hx, q⟩ => ?_)⟩
  subst ex
  cases r1
  have back : PO X (some (.UnaryOp .USub (.Constant (.int 1) k p1) p2)) (tPart (tUn (rU fun i => .int (-i)) (tC (.int 1)))) := po_some (pe_un un_neg pe_int)
  refine wpAny_Slice (thn (po_none.run pins s1 σ H1 (fun o H2 => o = none ∧ H2 = H1) I1 ⟨rfl, rfl⟩) fun vl s2 ⟨l, H2, I2, pl, el, e2⟩ => ?_)
  subst el e2
  refine thn (po_none.run pins s2 σ H2 (fun o H3 => o = none ∧ H3 = H2) I2 ⟨rfl, rfl⟩) fun vu s3 ⟨u, H3, I3, pu, eu, e3⟩ => ?_
  subst eu e3
  refine thn (back.run pins s3 σ H3 (fun o H4 => o = some (-1) ∧ H4 = H3) I3 ⟨1, rfl, -1, rfl, rfl, rfl⟩) fun vs s4 ⟨o, H4, I4, ps, eo, e4⟩ => ?_
  subst eo e4
  have I5 : Inv X pins σ H4 { s4 with heap := s4.heap.push { cls := .type "slice", data := .fields #[vl, vu, vs] } } := I4.kept (t' := s4.toks) fun b ob q => Heap.get?_push_of_some _ q
  obtain ⟨its, r, ht, hz⟩ := I5.tuple hx
  have hlen := r.length
  show wpAny (model X.prog X.w) X.A (subscriptTail e (.Slice none none (some (.UnaryOp .USub (.Constant (.int 1) k p1) p2)) p3) (.ref a) (.ref s4.heap.objs.size)) (EP X pins σ Q) X.xe { s4 with heap := s4.heap.push { cls := .type "slice", data := .fields #[vl, vu, vs] } }
  refine tail_any (ops := [.ref a, .ref s4.heap.objs.size]) ht.typeIs PyProof.Rows.slot_tuple_getitem.lookup ?_ (by with_unfolding_all rfl)
  refine getItem_tuple_rev ht (Heap.IsSliceOf.new _ vl vu vs) pl pu ps ?_ (by rw [List.size_toArray]; omega)
  refine ⟨.ref _, _, I5.laid (t' := s4.toks) (o := .tup xs.reverse) (fun b ob q => Heap.get?_push_of_some _ q) (Nat.le_refl _) ?_, rfl, q _ (I5.hok.fresh (Nat.le_refl _))⟩
  exact ⟨by rw [List.length_reverse]; exact hz, _, r.reverse, IsTup.new _ _⟩
/-- readings by cases -/
def tOr2 (t u : TE) : TE := fun σ H Q => t σ H Q ∨ u σ H Q
theorem pe_or2 {e : Expr} {t u : TE} (h : PE X e t) (k : PE X e u) : PE X e (tOr2 t u) := ⟨fun pins s σ H Q I z => z.elim (h.run pins s σ H Q I) (k.run pins s σ H Q I)⟩
def iOr2 (t u : TI) : TI := fun σ H R => t σ H R ∨ u σ H R
theorem pi_or2 {tg e : Expr} {t u : TI} (h : PI X tg e t) (k : PI X tg e u) : PI X tg e (iOr2 t u) := ⟨fun pins s σ H R I z => z.elim (h.run pins s σ H R I) (k.run pins s σ H R I)⟩
def rOr2 (t u : R2) : R2 := fun x y H Q => t x y H Q ∨ u x y H Q
theorem op_or2 {o : Value → Value → Sem Value} {t u : R2} (h : OpR X o t) (k : OpR X o u) : OpR X o (rOr2 t u) := fun pins s σ H x y v w Q I rx ry z => z.elim (h pins s σ H x y v w Q I rx ry) (k pins s σ H x y v w Q I rx ry)
end
end TH
/-! More readings: a dict of names made by two fors. -/
namespace TH
open PySem PySem.Spec PyProof.Rows L2
variable [TC : TabC]
/-- a dict whose keys are these names -/
def DK (kvs : List (Key × V)) (L : List Str) : Prop := kvs.length ≤ L.length ∧ ∀ k, (valV kvs (.inr k)).isSome = decide (k ∈ L)
theorem DK.put {kvs : List (Key × V)} {L : List Str} (h : DK kvs L) (y : Str) (v : V) : DK (putK kvs (.inr y) v) (L ++ [y]) := by
  refine ⟨?_, fun k => ?_⟩
  · have := length_putK kvs (.inr y) v
    rw [List.length_append, List.length_singleton]
    have := h.1
    omega
  · by_cases e : k = y
    · subst e
      rw [valV_put, if_pos rfl, decide_eq_true (by simp)]
      rfl
    · rw [valV_put, if_neg (fun z => e (Sum.inr.inj z)), h.2 k]
      exact decide_eq_decide.mpr ⟨fun z => List.mem_append_left _ z, fun z => (List.mem_append.mp z).resolve_right fun z => e (List.mem_singleton.mp z)⟩
section
variable {K : PySem.W.Frag} {M : Md} {σ : L2.St} {G H G' H' : Hp}
theorem en_dc2 {α : Type} {wa wb : TI} {vs vb : List Nat} {i j : Nat} {c : V} {xs : List α} {enc : α → Rl} (ys : α → List Str) (hs : Src M M.W wa σ G H (xs.map enc)) (hwa : ∀ v, wipe ((wipe σ vs).set i (some v)) vs = wipe σ vs) (hwb : ∀ v u, wipe ((wipe ((wipe σ vs).set i (some v)) vb).set j (some u)) vb = wipe ((wipe σ vs).set i (some v)) vb)
    (hj : ∀ v u : V, ((wipe ((wipe σ vs).set i (some v)) vb).set j (some u))[j]? = some (some u))
    (src : ∀ x v D G' H', x ∈ xs → Go M G H G' H' → (enc x).P G' v → Src M (D :: M.W) wb ((wipe σ vs).set i (some v)) G' H' ((ys x).map rStr)) (hl : (xs.flatMap ys).length ≤ 100000) :
    EvN M (tDc2 wa (gName i) tYes wb (gName j) tYes (tVar j) (tC c) vs vb) σ G H (fun _ o => ∃ kvs, o = .dK kvs ∧ DK kvs (xs.flatMap ys)) := fun G1 H1 a Q q => hs G1 H1 a _ fun J G2 H2 b wk D hD => by
  have hDW : D ∉ M.W := notW b.j hD
  have hDG : G2 D = none := b.at.le.free hD
  have hlen : ∀ n, ((xs.take n).flatMap ys).length ≤ 100000 := fun n => by
    have : xs.flatMap ys = (xs.take n).flatMap ys ++ (xs.drop n).flatMap ys := by rw [← List.flatMap_append, List.take_append_drop]
    rw [this, List.length_append] at hl
    omega
  let St : Nat → Hp → Prop := fun n H' => ∃ G' kvs, Go M G2 H2 G' H' ∧ G' D = none ∧ H' D = some (.dK kvs) ∧ DK kvs ((xs.take n).flatMap ys)
  refine ⟨fun n m H' => m = xs.length - n ∧ n ≤ xs.length ∧ St n H', ⟨xs.length, by simp, Nat.zero_le _, G2, [], b.at.own hD, hDG, upd_same, Nat.le_refl _, fun k => by simp [valV]⟩, ?_⟩
  rintro n m H' ⟨rfl, hn, G', kvs, g1, g2, g3, g4⟩
  by_cases hlt : n < xs.length
  · refine .inr ⟨wk.goes n G' H' (by rw [List.length_map]; exact hlt) g1.gr, fun H'' => n + 1 ≤ xs.length ∧ St (n + 1) H'', fun H'' z => ⟨xs.length - (n + 1), by omega, rfl, z.1, z.2⟩, fun x H'' y => ?_⟩
    have hx : (xs.map enc)[n]? = some (enc xs[n]) := by simp [hlt]
    obtain ⟨G'', k1, k2⟩ := wk.yields n (enc xs[n]) G' H' x H'' hx g1.gr y
    have k3 := Go.pure k1 g1.j
    obtain ⟨m1, m2⟩ := k3.gr.loc g3 g2 hDW
    have gA : Go M G H G'' H'' := (a.trans b).trans (g1.trans k3)
    refine ⟨hwa x, ?_⟩
    show wb _ H'' _
    refine src xs[n] x D G'' H'' (by simp) gA k2 G'' H'' k3.at.go _ fun J' G4 H4 b' wk' => ?_
    obtain ⟨m3, m4⟩ := b'.gr.loc m1 m2 hDW
    have gB : Go M G2 H2 G4 H4 := (g1.trans k3).trans b'
    refine ⟨fun t k H5 => k = (ys xs[n]).length - t ∧ t ≤ (ys xs[n]).length ∧ ∃ G5 kvs, Gr (D :: M.W) G4 H4 G5 H5 ∧ M.J H5 ∧ G5 D = none ∧ H5 D = some (.dK kvs) ∧ DK kvs ((xs.take n).flatMap ys ++ (ys xs[n]).take t), ⟨(ys xs[n]).length, by simp, Nat.zero_le _, G4, kvs, .refl b'.at.le, b'.j, m4, m3, by simpa using g4⟩, ?_⟩
    rintro t k H5 ⟨rfl, ht, G5, kvs', p1, p2, p3, p4, p5⟩
    by_cases htl : t < (ys xs[n]).length
    · refine .inr ⟨wk'.goes t G5 H5 (by rw [List.length_map]; exact htl) p1, fun H6 => t + 1 ≤ (ys xs[n]).length ∧ ∃ G6 kvs, Gr (D :: M.W) G4 H4 G6 H6 ∧ M.J H6 ∧ G6 D = none ∧ H6 D = some (.dK kvs) ∧ DK kvs ((xs.take n).flatMap ys ++ (ys xs[n]).take (t + 1)), fun H6 z => ⟨(ys xs[n]).length - (t + 1), by omega, rfl, z.1, z.2⟩, fun x' H6 y' => ?_⟩
      have hy : ((ys xs[n]).map rStr)[t]? = some (rStr (ys xs[n])[t]) := by simp [htl]
      obtain ⟨G6, r1, r2⟩ := wk'.yields t (rStr (ys xs[n])[t]) G5 H5 x' H6 hy p1 y'
      have r2 : x' = .str (ys xs[n])[t] := r2
      subst r2
      obtain ⟨r3, r4⟩ := r1.loc p4 p3 (fun z => nomatch z)
      refine ⟨hwb x _, ?_⟩
      unfold tYes
      simp only [if_true]
      refine ⟨_, hj x _, kvs', .inr (ys xs[n])[t], rfl, r3, ?_, htl, G6, _, (p1.trans r1.nil).putW List.mem_cons_self r4, ?_, r4, upd_same, ?_⟩
      · have h1 := p5.1
        have h2 := hlen (n + 1)
        rw [List.take_add_one, show xs[n]? = some xs[n] by simp [hlt], List.flatMap_append, List.length_append] at h2
        have h3 : ((some xs[n]).toList.flatMap ys).length = (ys xs[n]).length := by simp
        rw [h3] at h2
        rw [List.length_append, List.length_take] at h1
        exact Nat.lt_of_lt_of_le (show kvs'.length < 100001 by omega) (by decide)
      · exact (At.put ⟨r1.gh, (Go.pure r1 p2).j⟩ r4 hDW).j
      · rw [List.take_add_one, show (ys xs[n])[t]? = some (ys xs[n])[t] by simp [htl], ← List.append_assoc]
        exact p5.put _ _
    · have e : t = (ys xs[n]).length := by omega
      subst e
      refine .inl ⟨by have := wk'.stops G5 H5 p1; rwa [List.length_map] at this, hlt, G5, kvs', ⟨gB.gr.over p1 (fun p hp => ?_), p2⟩, p3, p4, ?_⟩
      · rcases List.mem_cons.mp hp with z | z
        · exact .inr (by rw [z]; exact hD)
        · exact .inl z
      · rw [List.take_add_one, show xs[n]? = some xs[n] by simp [hlt], List.flatMap_append, show (some xs[n]).toList.flatMap ys = ys xs[n] by simp]
        rwa [List.take_length] at p5
  · have e : n = xs.length := by omega
    subst e
    refine .inl ⟨by have := wk.stops G' H' g1.gr; rwa [List.length_map] at this, q D (.dK kvs) G' H' (b.trans g1) (b.back hD) g2 g3 ⟨kvs, rfl, ?_⟩⟩
    rwa [List.take_length] at g4
end
end TH
/-! Lists that may change, looked at and written; draws. -/
namespace TH
open PySem PySem.Spec PyProof.Rows L2
variable [TC : TabC]
section
variable {K : PySem.W.Frag} {M : Md} {σ : L2.St} {G H G' H' : Hp} {ta tb te tc : TE} {t u : TT} {r s : Rl} {v v0 : V} {i j k : Int} {n m : Nat} {rs ss : List Rl} {xs ys : List V} {D : Ends} {tz : TS} {φ ψ : Hp → HO → Prop} {l : Addr}
/-- xs[i] of a list that may change -/
theorem ev_ixM (ha : Ev M ta σ G H (rRef l)) (hl : H l = some (.lst xs)) (hW : l ∉ M.W) (hb : Ev M tb σ G H (rInt i)) (hx : atI xs i = some v) : Ev M (tOp (rIxL K) ta tb) σ G H (rV v) :=
  ev_op ha hb fun G1 H1 x y a p q Q kk => ⟨l, xs, i, v, p, q, .of (a.gr.hh l _ hl hW), hx, kk v G1 H1 a.at.go rfl⟩
theorem ev_lenM (ha : Ev M ta σ G H (rRef l)) (hl : H l = some (.lst xs)) (hW : l ∉ M.W) : Ev M (tCB (fun xs H Q => ∃ p ys, xs = [.ref p] ∧ (SqL K H p ys ∨ SqT K H p ys) ∧ Q (.int ys.length) H) (tCons ta tNil)) σ G H (rInt xs.length) :=
  ev_one ha fun G1 H1 x a p Q q => ⟨l, xs, by rw [show x = .ref l from p], .inl (.of (a.gr.hh l _ hl hW)), q _ G1 H1 a.at.go rfl⟩
/-- xs + ys, a new list; ys is new, too -/
theorem en_catM (ha : Ev M ta σ G H (rRef l)) (hl : H l = some (.lst xs)) (hW : l ∉ M.W) (hb : EvN M tb σ G H (FL (ys.map rV))) (hz : xs.length + ys.length ≤ 100000) : EvN M (tOp rCat ta tb) σ G H (fun _ o => o = .lst (xs ++ ys)) := fun G1 H1 a Q q =>
  ha G1 H1 a _ fun x G2 H2 b px => hb G2 H2 (a.trans b) _ fun d o G3 H3 c n1 n2 n3 fo => by
    have px : x = .ref l := px
    subst px
    obtain ⟨vs, rfl, hv⟩ := fo
    have ev : vs = ys := by
      have : ∀ {ys vs : List V}, Al G3 (ys.map rV) vs → vs = ys := by
        intro ys
        induction ys with
        | nil => intro vs h; cases h; rfl
        | cons y t ih =>
          intro vs h
          cases h with
          | cons p q =>
            have p := (show _ = y from p)
            rw [p, ih q]
      exact this hv
    subst ev
    have h1 := ((a.trans b).trans c).gr.hh l _ hl hW
    refine ⟨l, d, xs, vs, rfl, rfl, h1, n3, Nat.le_trans hz (by decide), fun p hp => ?_⟩
    exact q p (.lst (xs ++ vs)) G3 _ ((b.trans c).trans (c.at.own hp)) ((b.trans c).back hp) (c.at.le.free hp) upd_same rfl
theorem EvN.vals (h : EvN M te σ G H (fun _ o => o = .lst xs)) : Ev M te σ G H (rLst K (xs.map rV)) := EvN.lst (h.imp fun G o e => ⟨xs, e, by
  have : ∀ vs : List V, Al G (vs.map rV) vs := fun vs => by
    induction vs with
    | nil => exact .nil
    | cons v t ih => exact .cons rfl ih
  exact this xs⟩)
theorem ev_max2 (ha : Ev M ta σ G H (rInt i)) (hb : Ev M tb σ G H (rInt j)) : Ev M (tCB (fun xs H Q => ∃ i j, xs = [.int i, .int j] ∧ Q (.int (if j > i then j else i)) H) (tCons ta (tCons tb tNil))) σ G H (rInt (if j > i then j else i)) := fun G1 H1 a Q q =>
  ha G1 H1 a _ fun x G2 H2 b px => hb G2 H2 (a.trans b) _ fun y G3 H3 c py => ⟨i, j, by rw [show x = .int i from px, show y = .int j from py], q _ G3 H3 (b.trans c) rfl⟩
/-- int(i), int(b) -/
theorem ev_int1 (ha : Ev M ta σ G H (rInt i)) : Ev M (tCB (fun xs H Q => (∃ i, xs = [.int i] ∧ Q (.int i) H) ∨ ∃ k, xs = [.bl k] ∧ Q (.int (if k then 1 else 0)) H) (tCons ta tNil)) σ G H (rInt i) :=
  ev_one ha fun G1 H1 x a p Q q => .inl ⟨i, by rw [show x = .int i from p], q _ G1 H1 a.at.go rfl⟩
theorem ev_intB {b : Bool} (ha : Ev M ta σ G H (rBl b)) : Ev M (tCB (fun xs H Q => (∃ i, xs = [.int i] ∧ Q (.int i) H) ∨ ∃ k, xs = [.bl k] ∧ Q (.int (if k then 1 else 0)) H) (tCons ta tNil)) σ G H (rInt (if b then 1 else 0)) :=
  ev_one ha fun G1 H1 x a p Q q => .inr ⟨b, by rw [show x = .bl b from p], q _ G1 H1 a.at.go rfl⟩
/-- xs[i] = e -/
theorem q_setL {j : Nat} (h : Ev M te σ G H r) (ha : Ev M ta σ G H (rRef l)) (hb : Ev M tb σ G H (rInt i)) (a : At M G H) (hl : H l = some (.lst xs)) (hg : G l = none) (hW : l ∉ M.W) (hj : ixN xs.length i = some j)
    (kk : ∀ v G' H', Go M G H G' H' → r.P G' v → H' l = some (.lst xs) → G' l = none → tz D σ (upd H' l (.lst (xs.set j v)))) : tSeq (tAsg te (gSub ta tb rSetL)) tz D σ H :=
  h G H a.go _ fun v G1 H1 e1 pv => ha G1 H1 e1 _ fun x G2 H2 e2 px => hb G2 H2 (e1.trans e2) _ fun y G3 H3 e3 py => by
    have e := (e1.trans e2).trans e3
    obtain ⟨n1, n2⟩ := e.gr.loc hl hg hW
    exact ⟨l, xs, i, j, px, py, n1, hj, kk v G3 H3 e (r.mono (e2.trans e3).gg pv) n1 n2⟩
/-- by a value of which some things are known -/
theorem ev_opX {ι : Type} {op : R2} {f : ι → Rl} {z : Rl} (ha : Ev M ta σ G H r) (hb : Ev M tb σ G H (rEx f)) (hr : ∀ x, RV M op r (f x) G H z) : Ev M (tOp op ta tb) σ G H z :=
  ev_op ha hb fun G1 H1 x y a p ⟨w, q⟩ Q k => hr w G1 H1 x y a p q Q k
end
/-! ### the law's state: a number, the cells, a place -/
def JS (h l : Addr) (H : Hp) : Prop := ∃ (m i : Int) (cells : List Int), H h = some (.lst [.int m, .ref l, .int i]) ∧ H l = some (.lst (cells.map V.int)) ∧ cells.length ≤ 1000
def mdS (h l : Addr) : Md where
  W := [h, l]
  J := JS h l
  st := fun hs ⟨m, i, cells, h1, h2, h3⟩ => ⟨m, i, cells, hs _ (by simp) _ h1 (by exact fun _ z => (nomatch z)), hs _ (by simp) _ h2 (by exact fun _ z => (nomatch z)), h3⟩
  dom := fun ⟨m, i, cells, h1, h2, h3⟩ b hb => by
    rcases List.mem_cons.mp hb with z | z
    · rw [z, h1]; exact fun z => nomatch z
    · rw [List.mem_singleton.mp z, h2]; exact fun z => nomatch z
/-- a draw below n -/
def rDraw (n : Int) : Rl := rEx fun i : { i : Int // 0 ≤ i ∧ i < n } => rInt i.1
def sp_next : Sp := fun vs H Q _ => ∃ (h l : Addr) (n : Int) (G : Hp), vs = [.ref h, .int n] ∧ 1 ≤ n ∧ n < 1073741824 ∧ Le G H ∧ G h = none ∧ G l = none ∧ h ≠ l ∧ JS h l H ∧
  ∀ r G' H', 0 ≤ r → r < n → Gr [h, l] G H G' H' → JS h l H' → Q (.int r) H'
section
variable {M : Md} {σ : L2.St} {G H : Hp} {h l : Addr} {n : Int} {t : TA} {E : XK}
theorem Gr.goS {G' H' : Hp} (a : Gr [h, l] G H G' H') (j : JS h l H') : Go (mdS h l) G H G' H' := ⟨a, j⟩
/-- _law_next(h, n) -/
theorem ev_next (ha : EvA (mdS h l) t σ G H [rRef h, rInt n]) (h0 : G h = none) (l0 : G l = none) (hl : h ≠ l) (hs : JS h l H) (n1 : 1 ≤ n) (n2 : n < 1073741824) : Ev (mdS h l) (tCall sp_next [] E t) σ G H (rDraw n) := fun G1 H1 a Q q =>
  ha G1 H1 a _ fun vs G2 H2 b ps => by
    have e := a.trans b
    cases ps with
    | cons p ps =>
      cases ps with
      | cons p2 ps =>
        cases ps
        have p : _ = V.ref h := p
        have p2 : _ = V.int n := p2
        subst p p2
        have hh : H h ≠ none := (mdS h l).dom hs h (by simp [mdS])
        have hL : H l ≠ none := (mdS h l).dom hs l (by simp [mdS])
        exact ⟨h, l, n, G2, rfl, n1, n2, e.at.le, e.gr.gnone hh h0, e.gr.gnone hL l0, hl, e.j, fun r G3 H3 r0 r1 g j => q _ G3 H3 (b.trans (g.goS j)) ⟨⟨r, r0, r1⟩, rfl⟩⟩
end
/-- the state stands apart from what is frozen -/
structure SS (h l : Addr) (G H : Hp) : Prop where
  h0 : G h = none
  l0 : G l = none
  ne : h ≠ l
  js : JS h l H
section
variable {σ : L2.St} {G H G' H' : Hp} {h l : Addr} {n : Int} {t : TA} {E : XK} {ta te : TE} {u : TT} {W : List Addr}
theorem SS.gr (s : SS h l G H) (g : Gr W G H G' H') (j : JS h l H') : SS h l G' H' :=
  ⟨g.gnone ((mdS h l).dom s.js h (by simp [mdS])) s.h0, g.gnone ((mdS h l).dom s.js l (by simp [mdS])) s.l0, s.ne, j⟩
theorem SS.go (s : SS h l G H) (g : Go (mdS h l) G H G' H') : SS h l G' H' := s.gr g.gr g.j
theorem SS.pure (s : SS h l G H) (g : Gr [] G H G' H') : SS h l G' H' := s.go (Go.pure g s.js)
theorem SS.at (s : SS h l G H) (le : Le G H) : At (mdS h l) G H := ⟨le, s.js⟩
theorem ev_draw (s : SS h l G H) (ha : EvA (mdS h l) t σ G H [rRef h, rInt n]) (n1 : 1 ≤ n) (n2 : n < 1073741824) : Ev (mdS h l) (tCall sp_next [] E t) σ G H (rDraw n) := ev_next ha s.h0 s.l0 s.ne s.js n1 n2
/-- some truth -/
def rAny : Rl := rEx fun b : Bool => rBl b
theorem et_any {M : Md} (h : Ev M te σ G H rAny) : EvT M (tTest te) σ G H (fun _ => True) := fun G1 H1 a Q q => h G1 H1 a _ fun v G2 H2 b ⟨k, e⟩ => ⟨k, e, q k G2 H2 b trivial⟩
theorem ev_drawEq {M : Md} {k : Int} (h : Ev M te σ G H (rDraw n)) (hb : Ev M ta σ G H (rInt k)) : Ev M (tOp rEq te ta) σ G H rAny :=
  ev_op h hb fun G1 H1 x y a ⟨i, p⟩ q Q kk => by
    have p : x = .int i.1 := p
    have q : y = .int k := q
    subst p q
    exact ⟨rfl, kk _ G1 H1 a.at.go ⟨_, rfl⟩⟩
end
end TH
/-! isinstance; plain data. -/
namespace TH
open PySem PySem.Spec PyProof.Rows L2
variable [TC : TabC]
theorem Al.rev {G : Hp} {rs : List Rl} {vs : List V} (h : Al G rs vs) : Al G rs.reverse vs.reverse := by
  induction h with
  | nil => exact .nil
  | cons p q ih =>
    rw [List.reverse_cons, List.reverse_cons]
    exact ih.append (.cons p .nil)
section
variable {K : PySem.W.Frag} {M : Md} {σ : L2.St} {G H G' H' : Hp} {ta tb te tc : TE} {r s : Rl} {v v0 : V} {i j k : Int} {rs ss : List Rl}
/-- these values are of a built-in type -/
def TyR (K : PySem.W.Frag) (t : String) (r : Rl) : Prop := ∀ G v, r.P G v → TyX K G v (.type t)
theorem ty_str {x : Str} : TyR K "str" (rStr x) := fun G v p => by cases (show v = .str x from p); exact .base (.str x)
theorem ty_int {x : Int} : TyR K "int" (rInt x) := fun G v p => by cases (show v = .int x from p); exact .base (.int x)
theorem ty_bl {x : Bool} : TyR K "bool" (rBl x) := fun G v p => by cases (show v = .bl x from p); exact .base (.bl x)
theorem ty_non : TyR K "NoneType" rNon := fun G v p => by cases (show v = .non from p); exact .base .non
theorem ty_lst : TyR K "list" (rLst K rs) := fun G v ⟨a, vs, e, h, _⟩ => by
  subst e
  rcases h with h | ⟨o, its, n, h1, h2, h3⟩
  · rcases h with h | ⟨ob, h⟩
    · exact .base (.lst h)
    · exact .base (.frz h)
  · exact .kList h1 h2
theorem ty_tup : TyR K "tuple" (rTup K rs) := fun G v ⟨a, vs, e, h, _⟩ => by
  subst e
  rcases h with h | ⟨o, its, n, h1, h2, h3⟩
  · rcases h with h | ⟨ob, h⟩
    · exact .base (.tup h)
    · exact .fTuple h
  · exact .kTuple h1 h2
theorem tyx_le {t : String} (ht : TyR K t r) (le : Le G H) (p : r.P G v) : TyX K H v (.type t) := ht H v (r.mono le p)
/-- isinstance(x, T) -/
theorem ev_isi {t c : String} {b : Bool} (ha : Ev M ta σ G H r) (ht : TyR K t r) (hb : kitB t c = some b) : Ev M (tCB (rIsi K) (tCons ta (tCons (tC (.ty c)) tNil))) σ G H (rBl b) := fun G1 H1 a Q q =>
  ha G1 H1 a _ fun x G2 H2 e p => ⟨x, .ty c, .type t, .type c, b, rfl, .ty c, tyx_le ht e.at.le p, kit_ty hb, q _ G2 H2 e rfl⟩
/-- isinstance(x, (T1, T2)) -/
theorem ev_isiT {t c d : String} {b1 b2 : Bool} (ha : Ev M ta σ G H r) (ht : TyR K t r) (h1 : kitB t c = some b1) (h2 : kitB t d = some b2) : Ev M (tCB (rIsiT K) (tCons ta (tCons (tTup (tCons (tC (.ty c)) (tCons (tC (.ty d)) tNil))) tNil))) σ G H (rBl (b1 || b2)) := fun G1 H1 a Q q =>
  ha G1 H1 a _ fun x G2 H2 e p => ⟨show 2 ≤ sizeLine by decide, fun T hT => by
    have own := e.at.own (o := .tup [.ty c, .ty d]) hT
    refine ⟨x, T, [.ty c, .ty d], .type t, [.type c, .type d], b1 || b2, rfl, upd_same, .cons (.ty c) (.cons (.ty d) .nil), tyx_le ht own.at.le p, ?_, q _ _ _ (e.trans own) rfl⟩
    refine kitAny_cons (kit_ty h1) (fun z => kitAny_cons (kit_ty h2) (fun z2 => ?_) fun z2 => by simp [z2]) fun z => by simp [z]
    rw [z, z2]
    exact kitAny_nil⟩
/-- x is None -/
theorem ev_isN (ha : Ev M ta σ G H r) {b : Bool} (hb : ∀ G v, r.P G v → decide (v = V.non) = b) : Ev M (tOp (fun x y H Q => y = .non ∧ Q (.bl (decide (x = .non))) H) ta (tC .non)) σ G H (rBl b) :=
  ev_op ha (ev_c (v := .non)) fun G1 H1 x y a p q Q k => ⟨q, by rw [hb G1 x p]; exact k _ G1 H1 a.at.go rfl⟩
theorem ev_notN (ha : Ev M ta σ G H r) {b : Bool} (hb : ∀ G v, r.P G v → decide (v = V.non) = b) : Ev M (tOp (fun x y H Q => y = .non ∧ Q (.bl (!decide (x = .non))) H) ta (tC .non)) σ G H (rBl (!b)) :=
  ev_op ha (ev_c (v := .non)) fun G1 H1 x y a p q Q k => ⟨q, by rw [hb G1 x p]; exact k _ G1 H1 a.at.go rfl⟩
theorem nn_ref {t : String} (hn : t ≠ "NoneType") (ht : TyR K t r) : ∀ G v, r.P G v → decide (v = V.non) = false := fun G v p => decide_eq_false fun z => by
  subst z
  have q := ht G _ p
  cases q with
  | base b => cases b; exact hn rfl
/-- t[i] of a list or a tuple -/
theorem ev_ix2 (ha : Ev M ta σ G H (rSeq K rs)) (hb : Ev M tb σ G H (rInt i)) (h : atI rs i = some r) : Ev M (tOp (rIx K) ta tb) σ G H r :=
  ev_op ha hb fun G1 H1 x y a p q Q k => by
    obtain ⟨b, vs, rfl, h2, h3⟩ := p
    have q : y = .int i := q
    subst q
    unfold atI at h
    rw [h3.length] at h
    cases e : ixN vs.length i with
    | none => rw [e] at h; cases h
    | some j =>
      rw [e] at h
      have h : rs[j]? = some r := h
      obtain ⟨v, e1, e2⟩ := h3.get h
      have e3 : atI vs i = some v := by unfold atI; rw [e]; exact e1
      rcases h2 with h2 | h2
      · exact .inl ⟨b, vs, i, v, rfl, rfl, a.at.le.seqL h2, e3, k v G1 H1 a.at.go e2⟩
      · exact .inr (.inl ⟨b, vs, i, v, rfl, rfl, a.at.le.seqT h2, e3, k v G1 H1 a.at.go e2⟩)
/-- a new list, empty, == [] -/
theorem ev_eqNil (ha : EvN M ta σ G H (FL [])) : Ev M (tOp (rEqD K) ta (tLst tNil)) σ G H (rBl true) := fun G1 H1 a Q q =>
  ha G1 H1 a _ fun p o G2 H2 b n1 n2 n3 ⟨vs, e1, e2⟩ => by
    cases e2
    subst e1
    refine ⟨(by decide : 0 ≤ sizeLine), fun d hd => ?_⟩
    have c := b.at.new (o := .lst []) hd
    have h3 : (upd H2 d (.lst [])) p = some (.lst []) := by
      by_cases z : p = d
      · subst z; exact upd_same
      · rw [upd_ne z]; exact n3
    exact ⟨.list [], .list [], .lst (.of h3) .nil, .lst (.of upd_same) .nil, by decide +kernel, by decide +kernel, q _ _ _ (b.trans c) rfl⟩
end
/-! ### more of lists that may change -/
section
variable {K : PySem.W.Frag} {M : Md} {W : List Addr} {σ : L2.St} {G H G' H' : Hp} {ta tb te tc : TE} {r s : Rl} {v v0 : V} {i j k : Int} {rs ss : List Rl} {xs ys : List V} {l : Addr}
theorem EvN.strs {zs : List Str} (h : EvN M te σ G H (FL (zs.map rStr))) : EvN M te σ G H (fun _ o => o = .lst (zs.map V.str)) := h.imp fun G o ⟨vs, e1, e2⟩ => by rw [e1, e2.strs]
/-- a new thing, beside what came later -/
theorem Go.stays (a : Go M G H G' H') (j : M.J H) {p : Addr} {o : HO} (h0 : ∀ b ∈ M.W, b ≠ p) (h1 : H p = some o) (h2 : G p = none) (t : NT o := by exact fun _ z => (nomatch z)) : H' p = some o ∧ G' p = none := a.gr.loc h1 h2 (fun z => h0 p z rfl) t
theorem en_catN (ha : Ev M ta σ G H (rRef l)) (hl : H l = some (.lst xs)) (hW : l ∉ M.W) (hb : EvN M tb σ G H (fun _ o => o = .lst ys)) (hz : xs.length + ys.length ≤ 100000) : EvN M (tOp rCat ta tb) σ G H (fun _ o => o = .lst (xs ++ ys)) := fun G1 H1 a Q q =>
  ha G1 H1 a _ fun x G2 H2 b px => hb G2 H2 (a.trans b) _ fun d o G3 H3 c n1 n2 n3 fo => by
    have px : x = .ref l := px
    subst px fo
    have h1 := ((a.trans b).trans c).gr.hh l _ hl hW
    exact ⟨l, d, xs, ys, rfl, rfl, h1, n3, Nat.le_trans hz (by decide), fun p hp => q p (.lst (xs ++ ys)) G3 _ ((b.trans c).trans (c.at.own hp)) ((b.trans c).back hp) (c.at.le.free hp) upd_same rfl⟩
/-- a new list, some times -/
theorem en_rep (ha : EvN M ta σ G H (fun _ o => o = .lst xs)) (hb : Ev M tb σ G H (rInt k)) (h0 : 0 ≤ k) (hk : k ≤ 1000) (hz : xs.length * k.toNat ≤ 100000) : EvN M (tOp rRep ta tb) σ G H (fun _ o => o = .lst (List.replicate k.toNat xs).flatten) := fun G1 H1 a Q q =>
  ha G1 H1 a _ fun d o G2 H2 b n1 n2 n3 fo => hb G2 H2 (a.trans b) _ fun x G3 H3 c px => by
    have px : x = .int k := px
    subst px fo
    obtain ⟨m1, m2⟩ := c.gr.loc n3 n2 fun z => M.dom a.j d z n1
    exact ⟨d, k, xs, rfl, rfl, m1, by omega, by omega, Nat.le_trans hz (by decide), fun p hp => q p _ G3 _ ((b.trans c).trans (c.at.own hp)) ((b.trans c).back hp) (c.at.le.free hp) upd_same rfl⟩
/-- x in xs, texts, xs may change -/
theorem ev_inM {neg : Bool} {x : Str} {zs : List Str} (ha : Ev M ta σ G H (rStr x)) (hb : Ev M tb σ G H (rRef l)) (hl : H l = some (.lst (zs.map V.str))) (hW : l ∉ M.W) : Ev M (tOp (rIn K neg) ta tb) σ G H (rBl (if neg then !decide (x ∈ zs) else decide (x ∈ zs))) :=
  ev_op ha hb fun G1 H1 a b e p q Q k => by
    have p : a = .str x := p
    have q : b = .ref l := q
    subst p q
    refine ⟨l, _, rfl, .inl (.of (e.gr.hh l _ hl hW)), rfl, flat_strs zs, ?_⟩
    rw [inV_strs]
    exact k _ G1 H1 e.at.go rfl
/-- xs[::-1] -/
theorem ev_revL (h : Ev M te σ G H (rLst K rs)) : Ev M (tRevL K te) σ G H (rLst K rs.reverse) := fun G1 H1 a Q q => h G1 H1 a _ fun x G2 H2 b ⟨d, vs, e, h2, h3⟩ => ⟨d, vs, e, b.at.le.seqL h2, fun p hp => by
  have c := b.at.new (o := .lst vs.reverse) hp
  exact q _ _ _ (b.trans c) ⟨p, _, rfl, .of upd_same, (h3.mono c.gg).rev⟩⟩
theorem ev_revT (h : Ev M te σ G H (rTup K rs)) : Ev M (tRevT K te) σ G H (rTup K rs.reverse) := fun G1 H1 a Q q => h G1 H1 a _ fun x G2 H2 b ⟨d, vs, e, h2, h3⟩ => ⟨d, vs, e, b.at.le.seqT h2, fun p hp => by
  have c := b.at.new (o := .tup vs.reverse) hp
  exact q _ _ _ (b.trans c) ⟨p, _, rfl, .of upd_same, (h3.mono c.gg).rev⟩⟩
theorem seq_cases (h : (rSeq K rs).P G v) : (rLst K rs).P G v ∨ (rTup K rs).P G v := by
  obtain ⟨a, vs, e, h2, h3⟩ := h
  rcases h2 with h2 | h2
  · exact .inl ⟨a, vs, e, h2, h3⟩
  · exact .inr ⟨a, vs, e, h2, h3⟩
/-- what a name holds, a list or a tuple, walked; from its end -/
theorem src_seq {n : Nat} (hn : σ[n]? = some (some v)) (h : (rSeq K rs).P G v) : Src M W (iOr2 (iList K (tVar n)) (iTup K (tVar n))) σ G H rs := by
  rcases seq_cases h with h | h
  · exact fun G1 H1 a R q => .inl (src_lst (ev_var hn h) G1 H1 a R q)
  · exact fun G1 H1 a R q => .inr (src_tup (ev_var hn h) G1 H1 a R q)
theorem src_seqR {n : Nat} (hn : σ[n]? = some (some v)) (h : (rSeq K rs).P G v) : Src M W (iOr2 (iList K (tRevL K (tVar n))) (iTup K (tRevT K (tVar n)))) σ G H rs.reverse := by
  rcases seq_cases h with h | h
  · exact fun G1 H1 a R q => .inl (src_lst (ev_revL (ev_var hn h)) G1 H1 a R q)
  · exact fun G1 H1 a R q => .inr (src_tup (ev_revT (ev_var hn h)) G1 H1 a R q)
end
section
variable {K : PySem.W.Frag} {M : Md} {σ : L2.St} {G H : Hp} {ta : TE}
theorem ev_tupleX {ι : Type} {f : ι → List Rl} (h : Ev M ta σ G H (rEx fun i => rLst K (f i))) : Ev M (tCB (fun xs H Q => ∃ p ys, xs = [.ref p] ∧ ((SqL K H p ys ∧ ∀ l, H l = none → Q (.ref l) (upd H l (.tup ys))) ∨ (SqT K H p ys ∧ Q (.ref p) H))) (tCons ta tNil)) σ G H (rEx fun i => rTup K (f i)) :=
  ev_one h fun G1 H1 x a ⟨i, p⟩ Q q => by
    obtain ⟨b, vs, rfl, h2, h3⟩ := p
    refine ⟨b, vs, rfl, .inl ⟨a.at.le.seqL h2, fun l hl => ?_⟩⟩
    have c := a.at.new (o := .tup vs) hl
    exact q _ _ _ c ⟨i, l, vs, rfl, .of upd_same, h3.mono c.gg⟩
end
/-! ### plain data, by its depth -/
inductive AD (K : PySem.W.Frag) : Nat → Rl → Prop
  | str {n : Nat} (x : Str) : AD K n (rStr x)
  | int {n : Nat} (x : Int) : AD K n (rInt x)
  | bl {n : Nat} (x : Bool) : AD K n (rBl x)
  | non {n : Nat} : AD K n rNon
  | lst {n : Nat} {rs : List Rl} (h : ∀ r ∈ rs, AD K n r) (hl : rs.length ≤ 100000) : AD K (n + 1) (rLst K rs)
  | tup {n : Nat} {rs : List Rl} (h : ∀ r ∈ rs, AD K n r) (hl : rs.length ≤ 100000) : AD K (n + 1) (rTup K rs)
theorem ad_strs {K : PySem.W.Frag} {xs : List Str} (h : xs.length ≤ 100000) : AD K 1 (rLst K (xs.map rStr)) := .lst (fun r hr => by obtain ⟨x, _, e⟩ := List.mem_map.mp hr; rw [← e]; exact .str x) (by rw [List.length_map]; exact h)
theorem ad_strsT {K : PySem.W.Frag} {xs : List Str} (h : xs.length ≤ 100000) : AD K 1 (rTup K (xs.map rStr)) := .tup (fun r hr => by obtain ⟨x, _, e⟩ := List.mem_map.mp hr; rw [← e]; exact .str x) (by rw [List.length_map]; exact h)
/-- _law_alike: two of the same data -/
def sp_alike (K : PySem.W.Frag) : Nat → Sp
  | 0 => fun _ _ _ _ => False
  | n + 1 => spP (ι := { r : Rl // AD K n r }) (fun _ _ _ => True) (fun r => [r.1, r.1]) (fun _ => rBl true)
end TH
/-! Values of which some things are known; places in lists; slices of tuples; pairs stored at once. -/
namespace TH
open PySem PySem.Spec PyProof.Rows L2
variable [TC : TabC]
section
variable {K : PySem.W.Frag} {M : Md} {W : List Addr} {σ : L2.St} {G H G' H' : Hp} {ta tb te tc : TE} {r s : Rl} {v v0 : V} {i j k n : Int} {rs ss : List Rl} {xs ys : List V} {l : Addr} {D : Ends} {tz : TS} {t : TA}
theorem ev_opR {ι : Type} {op : R2} {f z : ι → Rl} (ha : Ev M ta σ G H r) (hb : Ev M tb σ G H (rEx f)) (hr : ∀ x, RV M op r (f x) G H (z x)) : Ev M (tOp op ta tb) σ G H (rEx z) :=
  ev_op ha hb fun G1 H1 x y a p ⟨w, q⟩ Q k => hr w G1 H1 x y a p q Q fun v G2 H2 b pv => k v G2 H2 b ⟨w, pv⟩
/-- xs[a draw] -/
theorem ev_ixD {m : Nat} (ha : Ev M ta σ G H (rLst K rs)) (hb : Ev M tb σ G H (rDraw (m : Nat))) (hn : rs.length = m) : Ev M (tOp (rIxL K) ta tb) σ G H (rEx fun i : Fin m => rs[i.1]'(by rw [hn]; exact i.2)) :=
  ev_op ha hb fun G1 H1 x y a ⟨d, vs, e, h2, h3⟩ ⟨i, q⟩ Q k => by
    have q : y = .int i.1 := q
    subst e q
    have hi := i.2
    have lt : i.1.toNat < m := by omega
    have hr : rs[i.1.toNat]? = some (rs[i.1.toNat]'(by omega)) := by simp [hn, lt]
    obtain ⟨v, e1, e2⟩ := h3.get hr
    refine ⟨d, vs, i.1, v, rfl, rfl, a.at.le.seqL h2, ?_, k v G1 H1 a.at.go ⟨⟨i.1.toNat, lt⟩, e2⟩⟩
    unfold atI ixN
    rw [if_pos hi.1, if_pos (by rw [← h3.length, hn]; exact hi.2)]
    exact e1
/-- a text's sign by a draw -/
theorem ev_ixSD {m : Nat} {z : Str} (ha : Ev M ta σ G H (rStr z)) (hb : Ev M tb σ G H (rDraw (m : Nat))) (hn : z.cps.toList.length = m) (hm : m ≤ 1000) : Ev M (tOp rIxS ta tb) σ G H (rEx fun i : Fin m => rStr ⟨#[z.cps.toList[i.1]'(by rw [hn]; exact i.2)]⟩) :=
  ev_op ha hb fun G1 H1 x y a p ⟨i, q⟩ Q k => by
    have p : x = .str z := p
    have q : y = .int i.1 := q
    subst p q
    have hi := i.2
    have lt : i.1.toNat < m := by omega
    refine ⟨z, i.1, z.cps.toList[i.1.toNat]'(by omega), rfl, rfl, ?_, ?_, k _ G1 H1 a.at.go ⟨⟨i.1.toNat, lt⟩, rfl⟩⟩
    · have : z.length = m := by rw [← hn]; rfl
      rw [this]
      exact Nat.le_trans hm (by decide)
    · unfold atI ixN
      rw [if_pos hi.1, if_pos (by rw [hn]; exact hi.2)]
      simp [hn, lt]
/-- x + y of texts, y one of some -/
theorem ev_addSX {ι : Type} {x : Str} {f : ι → Str} (ha : Ev M ta σ G H (rStr x)) (hb : Ev M tb σ G H (rEx fun i => rStr (f i))) (hz : ∀ i, x.length + (f i).length ≤ 100000) :
    Ev M (tOp (fun x y H Q => ∃ i j, x = .str i ∧ y = .str j ∧ i.length + j.length ≤ sizeLine ∧ Q (.str (i ++ j)) H) ta tb) σ G H (rEx fun i => rStr (x ++ f i)) :=
  ev_opR ha hb fun i G1 H1 x' y' a p q Q k => ⟨x, f i, p, q, Nat.le_trans (hz i) (by decide), k _ G1 H1 a.at.go rfl⟩
/-- range(e), by e's value -/
theorem q_forV {g : TG} {tb' : TS} (h : Ev M te σ G H r) (a : At M G H) (k : ∀ v G' H', Go M G H G' H' → r.P G' v → tSeq (tFor (iRng1 (tCons (tC v) tNil)) g tb') tz D σ H') : tSeq (tFor (iRng1 (tCons te tNil)) g tb') tz D σ H :=
  h G H a.go _ k
/-- a, b = e1, e2 -/
theorem q_par {i j : Nat} (h : EvA M t σ G H [r, s]) (a : At M G H) (k : ∀ v w G' H', Go M G H G' H' → r.P G' v → s.P G' w → tz D ((σ.set i (some v)).set j (some w)) H') : tSeq (tPar i j t) tz D σ H :=
  h G H a.go _ fun vs G1 H1 e ps => by
    cases ps with
    | cons p ps =>
      cases ps with
      | cons p2 ps =>
        cases ps
        exact ⟨_, _, rfl, k _ _ G1 H1 e p p2⟩
/-- a, b = two new things -/
theorem q_parN {i j : Nat} {φ ψ : Hp → HO → Prop} (h1 : EvN M ta σ G H φ) (h2 : EvN M tb σ G H ψ) (a : At M G H)
    (k : ∀ p q o u G' H', Go M G H G' H' → H p = none → H q = none → p ≠ q → G' p = none → G' q = none → H' p = some o → H' q = some u → (∃ G1, Le G1 G' ∧ φ G1 o) → ψ G' u → tz D ((σ.set i (some (.ref p))).set j (some (.ref q))) H')
    (nφ : ∀ G o, φ G o → NT o := by first | exact (fun _ _ h => by subst h; exact fun _ z => (nomatch z)) | exact (fun _ _ ⟨_, h, _⟩ => by subst h; exact fun _ z => (nomatch z))) : tSeq (tPar i j (tCons ta (tCons tb tNil))) tz D σ H :=
  h1 G H a.go _ fun p o G1 H1 e1 n1 n2 n3 f1 => h2 G1 H1 e1 _ fun q u G2 H2 e2 m1 m2 m3 f2 => by
    obtain ⟨n4, n5⟩ := e2.gr.loc n3 n2 (fun z => M.dom a.j p z n1) (nφ _ _ f1)
    have ne : p ≠ q := fun z => by subst z; rw [n3] at m1; cases m1
    exact ⟨_, _, rfl, k p q o u G2 H2 (e1.trans e2) n1 (e1.back m1) ne n5 m2 n4 m3 ⟨G1, e2.gg, f1⟩ f2⟩
/-- xs.index(x) of texts -/
theorem ev_index {zs : List Str} {x : Str} {m : Nat} (ha : Ev M ta σ G H (rLst K (zs.map rStr))) (hb : Ev M tb σ G H (rStr x)) (h1 : zs[m]? = some x) (h2 : ∀ k, k < m → zs[k]? ≠ some x) :
    Ev M (tBM K "list" (rIndex K) ta (tCons tb tNil)) σ G H (rInt (m : Nat)) := fun G1 H1 a Q q =>
  ha G1 H1 a _ fun v G2 H2 b ⟨d, vs, e, e2, e3⟩ => by
    subst e
    refine ⟨.inl ⟨rfl, vs, b.at.le.seqL e2⟩, hb G2 H2 (a.trans b) _ fun y G3 H3 c py => ?_⟩
    have py : y = .str x := py
    have e4 := e3.strs
    subst py e4
    refine ⟨d, zs.map V.str, .str x, m, .str x, rfl, rfl, (c.gg.trans c.at.le).seqL e2, rfl, flat_strs zs, by rw [List.getElem?_map, h1]; rfl, by simp [eqV], fun k z' hk hz => ?_, q _ G3 H3 (b.trans c) rfl⟩
    rw [List.getElem?_map] at hz
    cases e : zs[k]? with
    | none => rw [e] at hz; cases hz
    | some y =>
      rw [e] at hz
      cases hz
      have ne : y ≠ x := fun z => h2 k hk (by rw [e, z])
      simp [eqV, ne]
/-- t[lo:hi] of a tuple -/
theorem ev_slT {tl th : TO} {lo hi : Option Int} (ha : Ev M ta σ G H (rTup K rs)) (hl : ∀ H (Q : Option Int → Hp → Prop), Q lo H → tl σ H Q) (hh : ∀ H (Q : Option Int → Hp → Prop), Q hi H → th σ H Q) :
    Ev M (tSl (rSlA K) ta tl th) σ G H (rTup K ((rs.drop (HT.sIx rs.length 0 lo)).take (HT.sIx rs.length rs.length hi - HT.sIx rs.length 0 lo))) := fun G1 H1 a Q q =>
  ha G1 H1 a _ fun v G2 H2 b ⟨d, vs, e, e2, e3⟩ => by
    subst e
    refine hl _ _ (hh _ _ ⟨d, vs, rfl, b.at.le.seqT e2, fun z => ?_, fun z p hp => ?_⟩)
    · refine q _ G2 H2 b ⟨d, vs, rfl, e2, ?_⟩
      rw [← e3.length] at z
      rw [z.1, z.2, List.drop_zero, Nat.sub_zero, List.take_length]
      exact e3
    · have c := b.at.new (o := .tup (cutV vs lo hi)) hp
      have key : ∀ G', Le G2 G' → Al G' ((rs.drop (HT.sIx rs.length 0 lo)).take (HT.sIx rs.length rs.length hi - HT.sIx rs.length 0 lo)) (cutV vs lo hi) := fun G' le => by
        unfold cutV
        rw [← e3.length]
        exact ((e3.mono le).drop _).take _
      exact q _ _ _ (b.trans c) ⟨p, _, rfl, .of upd_same, key _ c.gg⟩
/-- t + u of tuples -/
theorem ev_catT (ha : Ev M ta σ G H (rTup K rs)) (hb : Ev M tb σ G H (rTup K ss)) (hz : rs.length + ss.length ≤ 100000) : Ev M (tOp (rCatA K) ta tb) σ G H (rTup K (rs ++ ss)) :=
  ev_op ha hb fun G1 H1 x y a ⟨d, vs, e, e2, e3⟩ ⟨d', ws, e', e2', e3'⟩ Q k => by
    subst e e'
    refine ⟨d, d', vs, ws, rfl, rfl, a.at.le.seqT e2, a.at.le.seqT e2', by rw [← e3.length, ← e3'.length]; exact Nat.le_trans hz (by decide), fun z => ?_, fun z z2 => ?_, fun z z2 p hp => ?_⟩
    · subst z
      cases e3
      exact k _ G1 H1 a.at.go ⟨d', ws, rfl, e2', e3'⟩
    · subst z2
      cases e3'
      exact k _ G1 H1 a.at.go ⟨d, vs, rfl, e2, by rw [List.append_nil]; exact e3⟩
    · have c := a.at.new (o := .tup (vs ++ ws)) hp
      exact k _ _ _ c ⟨p, _, rfl, .of upd_same, (e3.mono c.gg).append (e3'.mono c.gg)⟩
/-- something known of one part of a tuple -/
theorem tup_ex {ι : Type} {f : ι → Rl} {pre post : List Rl} (h : (rTup K (pre ++ rEx f :: post)).P G v) : ∃ x, (rTup K (pre ++ f x :: post)).P G v := by
  obtain ⟨a, vs, e, h2, h3⟩ := h
  have : ∀ {pre : List Rl} {vs : List V}, Al G (pre ++ rEx f :: post) vs → ∃ x, Al G (pre ++ f x :: post) vs := by
    intro pre
    induction pre with
    | nil =>
      intro vs h
      cases h with
      | cons p q =>
        obtain ⟨x, p⟩ := p
        exact ⟨x, .cons p q⟩
    | cons r t ih =>
      intro vs h
      cases h with
      | cons p q =>
        obtain ⟨x, q⟩ := ih q
        exact ⟨x, .cons p q⟩
  obtain ⟨x, q⟩ := this h3
  exact ⟨x, a, vs, e, h2, q⟩
end
end TH
/-! Lists that were just made, kept as they are; lists of texts compared. -/
namespace TH
open PySem PySem.Spec PyProof.Rows L2
variable [TC : TabC]
/-- a list that stands in the heap as itself -/
def rLsH (rs : List Rl) : Rl := ⟨fun G v => ∃ a vs, v = .ref a ∧ G a = some (.lst vs) ∧ Al G rs vs, fun e ⟨a, vs, h1, h2, h3⟩ => ⟨a, vs, h1, e.at h2 nf_lst (fun z => z), h3.mono e⟩⟩
section
variable {K : PySem.W.Frag} {M : Md} {W : List Addr} {σ : L2.St} {G H G' H' : Hp} {ta tb te tc : TE} {r s : Rl} {v v0 : V} {i j k n : Int} {rs ss : List Rl} {xs ys : List V} {l : Addr} {D : Ends} {tz : TS} {t : TA}
theorem raw_lst (h : (rLsH rs).P G v) : (rLst K rs).P G v := let ⟨a, vs, h1, h2, h3⟩ := h; ⟨a, vs, h1, .of h2, h3⟩
theorem Ev.raw (h : Ev M te σ G H (rLsH rs)) : Ev M te σ G H (rLst K rs) := h.imp fun _ _ => raw_lst
theorem EvN.lstH (h : EvN M te σ G H (FL rs)) : Ev M te σ G H (rLsH rs) := h.fix fun G1 G2 p o f e g => by
  obtain ⟨vs, rfl, ps⟩ := f
  exact ⟨p, vs, rfl, g, ps.mono e⟩
/-- xs + ys -/
theorem en_catH (ha : Ev M ta σ G H (rLsH rs)) (hb : Ev M tb σ G H (rLsH ss)) (hz : rs.length + ss.length ≤ 100000) : EvN M (tOp rCat ta tb) σ G H (FL (rs ++ ss)) := fun G1 H1 a Q q =>
  ha G1 H1 a _ fun x G2 H2 b ⟨d, vs, e1, e2, e3⟩ => hb G2 H2 (a.trans b) _ fun y G3 H3 c ⟨d', ws, f1, f2, f3⟩ => by
    subst e1 f1
    have h1 := (c.gg.trans c.at.le).at e2 nf_lst (fun z => z)
    have h2 := c.at.le.at f2 nf_lst (fun z => z)
    refine ⟨d, d', vs, ws, rfl, rfl, h1, h2, by rw [← e3.length, ← f3.length]; exact Nat.le_trans hz (by decide), fun p hp => ?_⟩
    exact q p (.lst (vs ++ ws)) G3 _ ((b.trans c).trans (c.at.own hp)) ((b.trans c).back hp) (c.at.le.free hp) upd_same ⟨_, rfl, (e3.mono c.gg).append f3⟩
theorem eqv_strs : ∀ xs ys : List Str, PyData.eqv (.list (xs.map PyData.str)) (.list (ys.map PyData.str)) = decide (xs = ys)
  | [], [] => rfl
  | [], _ :: _ => rfl
  | _ :: _, [] => rfl
  | x :: xs, y :: ys => by
    have ih := eqv_strs xs ys
    have e : PyData.eqv (.list ((x :: xs).map PyData.str)) (.list ((y :: ys).map PyData.str)) = (x == y && PyData.eqv (.list (xs.map PyData.str)) (.list (ys.map PyData.str))) := by rfl
    rw [e, ih]
    by_cases c : x = y
    · subst c
      simp
    · simp [c]
/-- xs != ys, xs == ys of texts -/
theorem ev_neStrs {xs ys : List Str} (ha : Ev M ta σ G H (rLst K (xs.map rStr))) (hb : Ev M tb σ G H (rLst K (ys.map rStr))) (h1 : ∀ x ∈ xs, PyData.strOk x = true) (h2 : ∀ x ∈ ys, PyData.strOk x = true) : Ev M (tOp (rNeD K) ta tb) σ G H (rBl (!decide (xs = ys))) :=
  ev_op ha hb fun G1 H1 x y a ⟨d, vs, e1, e2, e3⟩ ⟨d', ws, f1, f2, f3⟩ Q q => by
    have e4 := e3.strs
    have f4 := f3.strs
    subst e1 f1 e4 f4
    refine ⟨_, _, .lst (a.at.le.seqL e2) (dpAll_strs xs), .lst (a.at.le.seqL f2) (dpAll_strs ys), shaped_strs h1, shaped_strs h2, ?_⟩
    rw [eqv_strs]
    exact q _ G1 H1 a.at.go rfl
theorem ev_eqStrs {xs ys : List Str} (ha : Ev M ta σ G H (rLst K (xs.map rStr))) (hb : Ev M tb σ G H (rLst K (ys.map rStr))) (h1 : ∀ x ∈ xs, PyData.strOk x = true) (h2 : ∀ x ∈ ys, PyData.strOk x = true) : Ev M (tOp (rEqD K) ta tb) σ G H (rBl (decide (xs = ys))) :=
  ev_op ha hb fun G1 H1 x y a ⟨d, vs, e1, e2, e3⟩ ⟨d', ws, f1, f2, f3⟩ Q q => by
    have e4 := e3.strs
    have f4 := f3.strs
    subst e1 f1 e4 f4
    refine ⟨_, _, .lst (a.at.le.seqL e2) (dpAll_strs xs), .lst (a.at.le.seqL f2) (dpAll_strs ys), shaped_strs h1, shaped_strs h2, ?_⟩
    rw [eqv_strs]
    exact q _ G1 H1 a.at.go rfl
end
end TH
/-! States in which a token is out: what a def promises there, calls. -/
namespace TH
open PySem PySem.Spec PyProof.Rows L2
variable [TC : TabC]
/-- what a def promises where a token is out -/
structure FnT (P : Program) (w : World) (K : PySem.W.Frag) (mg : Str → Option Value) (base : Heap) (CX : CXT) (k : Nat) (f : Addr) (fd : FuncData) (ps : List Str) (sp : Sp) : Prop where
  len : ∀ vs H Q E, sp vs H Q E → vs.length = ps.length
  run : ∀ (A : Around) (outer : List Env) (s : Shared) (H : Hp) (args : Args) (us : List Value) (vs : List V) (Q : VK) (E : XK), 1 ≤ s.toks → Room k A → Env0 P w K mg base A outer s H → BindsTo s fd args (ps.zip us) → Vals vs us → sp vs H Q E →
    codeAny (model P w) A (.call (.ref f) args) (CR CX outer P w H s Q E) s
section
variable {P : Program} {w : World} {K : PySem.W.Frag} {mg : Str → Option Value} {base : Heap} {CX : CXT} {k : Nat} {f : Addr} {fd : FuncData} {ps N : List Str} {sp : Sp} {x qual : Str} {params : Arguments} {body : List Stmt} {scope : Scope} {dvs : List V} {kws : List (Str × V)}
theorem fnT_of (F : FnOk P w K mg base CX k f fd ps sp) : FnT P w K mg base CX k f fd ps sp := ⟨F.len, fun A outer s H args us vs Q E _ hr e b r h => F.run A outer s H args us vs Q E hr e b r h⟩
theorem fnT_byC (F : FunD K x qual params body scope dvs kws f fd) (S : FnScope N ps scope) (len : ∀ vs H Q E, sp vs H Q E → vs.length = ps.length)
    (hbody : ∀ (cdv : Value) (A : Around) (outer : List Env) (s : Shared) (H : Hp) (vs : List V) (Q : VK) (E : XK), fd.code = cdv → Room k (A.deeper (envOfC qual scope s.heap.objs.size f cdv)) → sp vs H Q E →
      ∃ t, PSsT (cxOf CX P w K mg base N qual scope f cdv A outer s H E) body t ∧ t { nx := fun _ H' => Q .non H', rt := Q } (L2.start N vs) H) : FnT P w K mg base CX (k + 1) f fd ps sp := by
  obtain ⟨oc, od, dV, kV, doc, pm, an, cdv, ct, osl, rfl, lk, hcd, _, _⟩ := F.ex
  refine ⟨len, fun A outer s H args us vs Q E h0 hr e0 hb r hsp => ?_⟩
  have hl := len _ _ _ _ hsp
  have KX : K.In s.heap := e0.mod.kin.keeps fun b o e => (e0.bs b o e).1
  have lim : s.heap.NoLimit := e0.mod.nolimit.keeps fun b o e => (e0.bs b o e).1
  have kinds : ∀ y ∈ ps.zip us, scope.names.lookup y.1 = some .local ∨ (scope.names.lookup y.1 = some .cell ∧ ((cellsFrom (s.heap.objs.size + 1) scope.names []).lookup y.1).isSome = true) := fun ⟨n, v⟩ hy => by
    rcases S.par n (List.of_mem_zip hy).1 with q | q
    · exact .inl q
    · exact .inr ⟨q, PySem.W.cellsFrom_some _ _ _ (.inl q)⟩
  refine codeAny_call_function hr.depth (KX _ _ lk) rfl S.co S.gen rfl (PySem.W.codeRec_of KX hcd) (hb _ _ _ _ (wpAny_with_toks (n := 1) h0 ?_))
  refine wpAny_newFunctionEnv_cells S.kind kinds fun env he s1 y hk => ?_
  subst he
  refine ⟨lim.keeps y.toInCall.keep, codeAny_func ?_⟩
  obtain ⟨t, ht, hq⟩ := hbody cdv A outer s H vs Q E rfl (hr.deeper _) hsp
  have I : Inv (cxOf CX P w K mg base N qual scope f cdv A outer s H E) [] (L2.start N vs) H s1 := inv_start S hr.hd e0 hl r y
  refine wpAny_mono (ht [] s1 (L2.start N vs) H _ hk I hq) (fun fl s' hs => ?_) fun e s' hs => hs
  have fin : ∀ {σ' : L2.St} {H' : Hp} {v : V} {u : Value}, Inv (cxOf CX P w K mg base N qual scope f cdv A outer s H E) [] σ' H' s' → RelV v u → Q v H' → CE outer P w H s Q u s' := fun {σ' H' v u} J rv q => ⟨v, H', J.os, J.bare, J.base, J.hok, rv, q⟩
  cases fl with
  | ret u =>
    obtain ⟨v, σ', H', J, rv, q⟩ := hs
    exact fin J rv q
  | next =>
    obtain ⟨σ', H', J, q⟩ := hs
    exact fin (v := V.non) (u := Value.none) J rfl q
  | brk =>
    obtain ⟨_, _, _, q⟩ := hs
    exact q.elim
  | cont =>
    obtain ⟨_, _, _, q⟩ := hs
    exact q.elim
theorem fnT_by (F : FunD K x qual params body scope dvs kws f fd) (S : FnScope N ps scope) (len : ∀ vs H Q E, sp vs H Q E → vs.length = ps.length)
    (hbody : ∀ (cdv : Value) (A : Around) (outer : List Env) (s : Shared) (H : Hp) (vs : List V) (Q : VK) (E : XK), Room k (A.deeper (envOfC qual scope s.heap.objs.size f cdv)) → sp vs H Q E →
      ∃ t, PSsT (cxOf CX P w K mg base N qual scope f cdv A outer s H E) body t ∧ t { nx := fun _ H' => Q .non H', rt := Q } (L2.start N vs) H) : FnT P w K mg base CX (k + 1) f fd ps sp :=
  fnT_byC F S len fun cdv A outer s H vs Q E _ => hbody cdv A outer s H vs Q E
end
section
variable {X : Cx} {CX : CXT} {k : Nat} {f C : Addr} {fd : FuncData} {ps : List Str} {sp : Sp} {dvs : List V} {ds : List Value} {E : XK} {x m : Str} {p pos apos : Pos} {e o : Expr} {es : List Expr} {ta : TE} {t : TA}
theorem PET.of {te : TE} (h : PE X e te) : PET X e te := fun pins s σ H Q _ I q => h.run pins s σ H Q I q
omit TC in
theorem PAT.of (h : PA X es t) : PAT X es t := fun pos pins s σ H Q _ I q => h.run pos pins s σ H Q I q
/-- .. and a token is out behind it, too -/
theorem PET.out {te : TE} (h : PET X e te) (pins : List (Addr × Obj)) (s : Shared) (σ : L2.St) (H : Hp) (Q : VK) (h0 : 1 ≤ s.toks) (I : Inv X pins σ H s) (q : te σ H Q) : wpAny (model X.prog X.w) X.A (eval e X.env) (fun v s' => 1 ≤ s'.toks ∧ EP X pins σ Q v s') X.xe s :=
  wpAny_mono (PySem.wpAny_toks_of h0 (h pins s σ H Q h0 I q)) (fun _ _ z => z) fun _ _ z => z.2
theorem run_fnT {pins : List (Addr × Obj)} {σ : L2.St} {H : Hp} {s : Shared} {Q : VK} {us : List Value} {vs : List V} (F : FnT X.prog X.w X.K X.mg X.base CX k f fd ps sp) (hr : Room k X.A) (hb : Binds X.K fd ps ds) (hd : Vals dvs ds) (hx : Passes CX X E)
    (h0 : 1 ≤ s.toks) (I : Inv X pins σ H s) (r : Vals vs us) (h : sp (vs ++ dvs) H Q E) : wpAny (model X.prog X.w) X.A (call (.ref f) us) (EP X pins σ Q) X.xe s := by
  have r2 : Vals (vs ++ dvs) (us ++ ds) := r.append hd
  have hl : (us ++ ds).length = ps.length := by rw [← r2.length]; exact F.len _ _ _ _ h
  refine wpAny_call (codeAny_mono (F.run X.A X.stack s H ⟨us, []⟩ (us ++ ds) (vs ++ dvs) Q E h0 hr I.env0 (hb s us I.kIn hl) r2 h) fun z s' hq => ?_)
  cases z with
  | error e => exact hx pins σ H s e s' I hq
  | ok fl =>
    cases fl with
    | ret u => exact I.after hq
    | next => exact False.elim hq
    | brk => exact False.elim hq
    | cont => exact False.elim hq
theorem pet_call (F : FnT X.prog X.w X.K X.mg X.base CX k f fd ps sp) (hr : Room k X.A) (hg : Gl X x) (hm : X.mg x = some (.ref f)) (hk : PySem.W.keepIn X.K (.ref f) = true) (hb : Binds X.K fd ps ds) (hd : Vals dvs ds) (hx : Passes CX X E)
    (ha : PAT X (e :: es) t) (hdb : (x == ("__debug__" : Str)) = false := by decide) (he : starEach (e :: es) X.env = (false, eval e X.env) :: starEach es X.env := by rfl) (hpl : (backTo pos (starEach es X.env)).any (·.1) = false := by rfl) :
    PET X (.Call (.Name x p) (e :: es) [] pos) (tCall sp dvs E t) := by
  intro pins s σ H Q h0 I h
  refine wpAny_with_toks (n := 1) h0 (wpAny_Call_Name_kw (ld_glob I hg hm ?_ hdb))
  refine PySem.W.callWith_K (h₀ := X.base) I.ok.mod.kin hk (wpAny_mono (PySem.wpAny_toks_of h0 (ha pos pins s σ H _ h0 I h)) (fun us s1 ⟨hk1, vs, H1, I1, r, q⟩ => ⟨I1.kIn, ?_⟩) fun e s' z => ?_) he hpl
  · exact wpAny_mono (run_fnT F hr hb hd hx hk1 I1 r q) (fun _ _ z _ => z) fun _ _ z _ => z
  · exact fun _ => z.2
end
section
variable {X : Cx} {o : Expr} {to : TE} {apos cpos c0 c1 : Pos} {j0 j1 : Nat} {y z : Str}
/-- x.replace(y, z), both written -/
def tReplace (to : TE) (y z : Str) : TE := fun σ H Q => to σ H fun v H1 => ∃ x, v = .str x ∧ x.length + (x.length + 1) * z.length ≤ 16777216 ∧ Q (.str (Txt.replace x y z)) H1
theorem pet_replace (ho : PET X o to) (hyz : (y == z) = false := by decide) (hst : starEach [.Constant (.str y) j0 c0, .Constant (.str z) j1 c1] X.env = [(false, eval (.Constant (.str y) j0 c0) X.env), (false, eval (.Constant (.str z) j1 c1) X.env)] := by rfl)
    (hbase : attributeBase o "replace" X.env (eval o X.env) = eval o X.env := by rfl) (hline : (apos.endLine == cpos.line) = true := by rfl) : PET X (.Call (.Attribute o "replace" apos) [.Constant (.str y) j0 c0, .Constant (.str z) j1 c1] [] cpos) (tReplace to y z) := by
  intro pins s σ H Q h0 I h
  refine PySem.Call_method2 hbase hst hline (wpAny_mono (PET.out ho pins s σ H _ h0 I h) (fun v s1 ⟨hk1, x', H1, I1, r1, x, e, hb, q⟩ => ?_) fun _ _ z => z)
  subst e
  obtain ⟨tx, rfl⟩ := r1
  refine ⟨"str", _, F.plainAttrs_str, F.slot_str_replace, F.type_str_replace, typeIs_str _ _ _, (fun _ e => nomatch e), Calls.callWith_builtin rfl (Calls.evalArgs_plain (Calls.spliced_cons (Calls.Constant_str (Calls.spliced_cons (Calls.Constant_str (Calls.spliced_nil ?_))))))⟩
  exact PySem.SC.replace (show s1.toks ≠ 0 by omega) (show s1.toks + 1 ≠ 0 by omega) (show s1.toks ≠ s1.toks + 1 by omega) hyz hb fun t' k => ⟨.str (Txt.replace x y z), H1, I1.tok k, ⟨t', rfl⟩, q⟩
theorem pet_bm0 {T name id : String} {r : V → List V → Hp → VK → Prop} (pa : PlainAttrs T) (slot : Slot T name id) (hty : typeOf (.builtin id) = pure (.type "method_descriptor")) (hm : MtR X id r) (ho : PET X o to)
    (hbase : attributeBase o name X.env (eval o X.env) = eval o X.env := by rfl) (hline : (apos.endLine == cpos.line) = true := by rfl) : PET X (.Call (.Attribute o name apos) [] [] cpos) (tBM0 X.K T r to) := by
  intro pins s σ H Q h0 I h
  refine wpAny_Call_method0_late hbase hline (thn (ho pins s σ H _ h0 I h) fun v s1 ⟨x, H1, I1, r1, ty, q1⟩ => ?_)
  obtain ⟨h1, h2⟩ := tyV_is I1 r1 ty
  exact ⟨T, id, pa, slot, hty, h1, h2, Calls.callWith_builtin rfl (PySem.evalArgs_none (hm pins s1 σ H1 x [] v [] Q I1 r1 .nil q1))⟩
end
/-! ### statements -/
section
variable {X : Cx} {e : Expr} {te : TE} {pos : Pos} {st : Stmt} {ts : TS}
theorem psst_one (h : PST X st ts) : PSsT X [st] (tSeq ts tNext) := psst_cons h (PSsT.of pss_nil)
theorem pst_ret (he : PET X e te) : PST X (.Return (some e) pos) (tRet te) := by
  intro pins s σ H D h0 I h
  exact wpAny_Return_some (thn (he pins s σ H _ h0 I h) fun v s1 ⟨x, H1, I1, r1, q1⟩ => ⟨x, σ, H1, I1, r1, q1⟩)
end
section
variable {X : Cx} {CX : CXT} {k : Nat} {f C : Addr} {fd : FuncData} {ps : List Str} {sp : Sp} {dvs : List V} {ds : List Value} {E : XK} {x m : Str} {p pos pos' apos : Pos} {e o c : Expr} {es : List Expr} {ta te : TE} {t : TA} {i : Nat} {tt : TT} {ts tu : TS} {a b : List Stmt} {fl : Str}
theorem psst1 {st : Stmt} (h : PST X st ts) : PSsT X [st] ts := by
  intro pins s σ H D h0 I q
  refine wpAny_execs_cons (thn (h pins s σ H D h0 I q) fun f s1 q => ?_)
  cases f with
  | next => exact wpAny_execs_nil q
  | ret v => exact q
  | brk => exact q
  | cont => exact q
theorem pst_set (hN : X.N.Nodup) (hi : X.N[i]? = some x) (hx : Loc X.env.scope x) (he : PET X e te) (hs : swapsWith e (some (.Name x pos')) pos.line X.env = pure false := by rfl)
    (hf : X.fn x = true ∨ X.env.scope.names.lookup x = some .local := by first | exact .inl rfl | exact .inr rfl | assumption) : PST X (.Assign [.Name x pos'] e pos) (tAsg te (gName i)) := by
  intro pins s σ H D h0 I h
  refine wpAny_Assign_Name (thn (he pins s σ H _ h0 I h) fun v s1 ⟨y, H1, I1, r1, q1⟩ => ?_) hs
  exact store_ok I1 hN hi hx r1 (fun s2 I2 => ⟨_, H1, I2, q1⟩) hf
theorem pst_fld (ha : PE X o ta) (hv : PET X e te) (hs : swapsWith e (some (.Attribute o fl pos')) pos.line X.env = pure false) : PST X (.Assign [.Attribute o fl pos'] e pos) (sFld X.K ta te fl) := by
  intro pins s σ H D h0 I h
  refine plainObj_wpAny_Assign_Attribute (thn (hv pins s σ H _ h0 I h) fun u s1 ⟨y, H1, I1, ry, q⟩ => thn (ha.run pins s1 σ H1 _ I1 q) fun ov s2 ⟨x, H2, I2, rx, a, C, dx, fs, ex, ea, c, n, l, q2⟩ => ?_) hs
  subst ex
  obtain rfl : ov = Value.ref a := rx
  exact setattr_ok I2 ea c n l ry fun s3 I3 => ⟨σ, _, I3, q2⟩
theorem pst_expr (he : PET X e te) (hs : swapsWith e none pos.line X.env = pure false := by rfl) : PST X (.Expr e pos) (tDrop te) := by
  intro pins s σ H D h0 I h
  exact wpAny_Expr_any (thn (he pins s σ H _ h0 I h) fun v s1 ⟨x, H1, I1, r1, q1⟩ => ⟨σ, H1, I1, q1⟩) I.quiet hs
/-- tests -/
def PTT (X : Cx) (c : Expr) (t : TT) : Prop := ∀ (pins : List (Addr × Obj)) (s : Shared) (σ : L2.St) (H : Hp) (Q : Bool → Hp → Prop), 1 ≤ s.toks → Inv X pins σ H s → t σ H Q → wpAny (model X.prog X.w) X.A (isTrue c X.env (eval c X.env)) (TP X pins σ Q) X.xe s
theorem PTT.of (h : PT X c tt) : PTT X c tt := fun pins s σ H Q _ I q => h.run pins s σ H Q I q
theorem pst_if (hc : PTT X c tt) (ha : PSsT X a ts) (hb : PSsT X b tu) : PST X (.If c a b pos) (tIfS tt ts tu) := by
  intro pins s σ H D h0 I h
  refine wpAny_If (wpAny_mono (PySem.wpAny_toks_of h0 (hc pins s σ H _ h0 I h)) (fun d s1 ⟨hk, H1, I1, q1⟩ => ?_) fun _ _ z => z.2)
  cases d with
  | true => exact ha pins s1 σ H1 D hk I1 q1
  | false => exact hb pins s1 σ H1 D hk I1 q1
theorem run_makeT {pins : List (Addr × Obj)} {σ : L2.St} {H : Hp} {s : Shared} {Q : VK} {us : List Value} {vs : List V} (M : Mk X.K C f) (F : FnT X.prog X.w X.K X.mg X.base CX k f fd ps sp) (hr : Room (k + 1) X.A) (hb : Binds X.K fd ps ds) (hd : Vals dvs ds)
    (hx : Passes CX X E) (h0 : 1 ≤ s.toks) (I : Inv X pins σ H s) (r : Vals vs us)
    (h : ∀ x dx, H x = none → H dx = none → dx ≠ x → sp (.ref x :: (vs ++ dvs)) (upd (upd H dx (.own x)) x (.ins C dx [])) (fun v H2 => v = .non ∧ Q (.ref x) H2) E) : wpAny (model X.prog X.w) X.A (call (.ref C) us) (EP X pins σ Q) X.xe s := by
  have hq := h (s.heap.objs.size + 1) s.heap.objs.size (I.hok.fresh (Nat.le_succ _)) (I.hok.fresh (Nat.le_refl _)) (Nat.ne_of_lt (Nat.lt_succ_self _))
  have J := Inv.made (C := C) I
  have r2 : Vals (V.ref (s.heap.objs.size + 1) :: (vs ++ dvs)) (Value.ref (s.heap.objs.size + 1) :: (us ++ ds)) := .cons rfl (r.append hd)
  have hl : (Value.ref (s.heap.objs.size + 1) :: us ++ ds).length = ps.length := by
    have e := r2.length
    rw [F.len _ _ _ _ hq] at e
    exact e.symm
  refine wpAny_call (make_map (f := f) I.kIn M.makes M.init (beq_iff_eq.mp M.fn) (codeAny_mono (F.run _ X.stack _ _ ⟨Value.ref (s.heap.objs.size + 1) :: us, []⟩ (Value.ref (s.heap.objs.size + 1) :: (us ++ ds)) _ _ E h0 (hr.make C us [])
    (J.env0.make C us []) (hb _ (Value.ref (s.heap.objs.size + 1) :: us) J.kIn hl) r2 hq) fun z s' hq' => ?_))
  cases z with
  | error e => exact hx pins σ _ _ e s' J hq'
  | ok g =>
    cases g with
    | ret u =>
      obtain ⟨v, H', I3, rv, ev, q3⟩ := J.after hq'
      subst ev
      exact ⟨rv, ⟨V.ref (s.heap.objs.size + 1), H', I3, rfl, q3⟩⟩
    | next => exact False.elim hq'
    | brk => exact False.elim hq'
    | cont => exact False.elim hq'
theorem pet_make (M : Mk X.K C f) (F : FnT X.prog X.w X.K X.mg X.base CX k f fd ps sp) (hr : Room (k + 1) X.A) (hg : Gl X x) (hm : X.mg x = some (.ref C)) (hb : Binds X.K fd ps ds) (hd : Vals dvs ds) (hx : Passes CX X E)
    (ha : PAT X (e :: es) t) (hdb : (x == ("__debug__" : Str)) = false := by decide) (he : starEach (e :: es) X.env = (false, eval e X.env) :: starEach es X.env := by rfl) (hpl : (backTo pos (starEach es X.env)).any (·.1) = false := by rfl) :
    PET X (.Call (.Name x p) (e :: es) [] pos) (tMake C sp dvs E t) := by
  intro pins s σ H Q h0 I h
  refine wpAny_with_toks (n := 1) h0 (wpAny_Call_Name_kw (ld_glob I hg hm ?_ hdb))
  refine PySem.W.callWith_K (h₀ := X.base) I.ok.mod.kin M.kp (wpAny_mono (PySem.wpAny_toks_of h0 (ha pos pins s σ H _ h0 I h)) (fun us s1 ⟨hk1, vs, H1, I1, r, q⟩ => ⟨I1.kIn, ?_⟩) fun e s' z => ?_) he hpl
  · exact wpAny_mono (run_makeT M F hr hb hd hx hk1 I1 r q) (fun _ _ z _ => z) fun _ _ z _ => z
  · exact fun _ => z.2
theorem pet_meth0 {pl : Sem Bool} (he : PET X o ta) (c : Cls X.K C) (hm : Meth X.K C m f) (F : FnT X.prog X.w X.K X.mg X.base CX k f fd ps sp) (hr : Room k X.A) (hb : Binds X.K fd ps ds) (hd : Vals dvs ds) (hx : Passes CX X E)
    (ht : eval (.Call (.Attribute o m apos) [] [] pos) X.env = (do
      let ov ← eval o X.env
      standAt apos.atName
      let (f, first) ← holding [ov] (getMethod ov m pl)
      callWith pos f first (backTo pos (starEach [] X.env)) (backToKw pos (keywordEach [] X.env))) := by rfl) : PET X (.Call (.Attribute o m apos) [] [] pos) (tMeth C m sp dvs E ta tNil) := by
  intro pins s σ H Q h0 I h
  refine wpAny_with_toks (n := 1) h0 (PySem.W.methodCall_KW (pl := pl) (wpAny_mono (PySem.wpAny_toks_of h0 (he pins s σ H _ h0 I h)) (fun u s1 ⟨hk1, x, H1, I1, rx, a, dx, fs, ex, ea, l, q⟩ => ?_) fun e s' z => fun _ => z.2) ht)
  subst ex
  obtain rfl : u = Value.ref a := rx
  refine getmeth_ok I1 ea c hm l ?_
  exact wpAny_mono (PySem.W.callWith_K0 (first := [.ref a]) I1.kIn hm.kp (run_fnT (us := [.ref a]) (vs := [.ref a]) F hr hb hd hx hk1 I1 (.cons rfl .nil) q)) (fun _ _ z _ => z) fun _ _ z _ => z
end
end TH
/-! Plain values, things that change (a tree each), and how a heap holds them. -/
namespace TH
open PySem PySem.Spec PyProof.Rows L2
variable [TC : TabC]

/-- a value that never changes -/
inductive PV where
  | v (x : V)
  | tup (xs : List PV)
  | lst (xs : List PV)
  | dct (kvs : List (Key × PV))
  | ins (C : Addr) (fs : List (Str × PV))
  | rel (r : Rl)
abbrev PV.int (i : Int) : PV := .v (.int i)
abbrev PV.str (x : Str) : PV := .v (.str x)
abbrev PV.bl (b : Bool) : PV := .v (.bl b)
abbrev PV.non : PV := .v .non
def rPV (K : PySem.W.Frag) : PV → Rl
  | .v x => rV x
  | .tup xs => rTup K (rPVs xs)
  | .lst xs => rLsH (rPVs xs)
  | .dct kvs => rDct (rKvs kvs)
  | .ins C fs => rIns C (rFs fs)
  | .rel r => r
where
  rPVs : List PV → List Rl
    | [] => []
    | p :: t => rPV K p :: rPVs t
  rKvs : List (Key × PV) → List (Key × Rl)
    | [] => []
    | (k, p) :: t => (k, rPV K p) :: rKvs t
  rFs : List (Str × PV) → List (Str × Rl)
    | [] => []
    | (k, p) :: t => (k, rPV K p) :: rFs t
abbrev rPs (K : PySem.W.Frag) (xs : List PV) : List Rl := rPV.rPVs K xs
theorem rPs_map (K : PySem.W.Frag) : ∀ xs : List PV, rPs K xs = xs.map (rPV K)
  | [] => rfl
  | p :: t => congrArg (rPV K p :: ·) (rPs_map K t)
theorem rKvs_map (K : PySem.W.Frag) : ∀ xs : List (Key × PV), rPV.rKvs K xs = xs.map fun kv => (kv.1, rPV K kv.2)
  | [] => rfl
  | (k, p) :: t => congrArg ((k, rPV K p) :: ·) (rKvs_map K t)
theorem rFs_map (K : PySem.W.Frag) : ∀ xs : List (Str × PV), rPV.rFs K xs = xs.map fun kv => (kv.1, rPV K kv.2)
  | [] => rfl
  | (k, p) :: t => congrArg ((k, rPV K p) :: ·) (rFs_map K t)
theorem rPs_len (K : PySem.W.Frag) (xs : List PV) : (rPs K xs).length = xs.length := by rw [rPs_map, List.length_map]
theorem rPs_app (K : PySem.W.Frag) (xs ys : List PV) : rPs K (xs ++ ys) = rPs K xs ++ rPs K ys := by rw [rPs_map, rPs_map, rPs_map, List.map_append]

/-- some thing that changes, known by a relation of its own -/
structure Res where
  P : PySem.W.Frag → Hp → Hp → V → List Addr → Prop
  frame : ∀ {K : PySem.W.Frag} {G H G' H' : Hp} {v : V} {fp : List Addr}, P K G H v fp → Le G G' → (∀ b ∈ fp, H' b = H b) → P K G' H' v fp
  there : ∀ {K : PySem.W.Frag} {G H : Hp} {v : V} {fp : List Addr}, P K G H v fp → ∀ b ∈ fp, ∃ o, H b = some o ∧ NX o
  /-- frozen: what is known of it then -/
  fz : Option Rl := none
  fzOk : ∀ {K : PySem.W.Frag} {G H : Hp} {v : V} {fp : List Addr} {r : Rl}, fz = some r → P K G H v fp → ∀ ps : List Addr, (∀ b ∈ fp, b ∈ ps) → Le G H → r.P (frzH ps G H) v := by
    intro K G H v fp r e
    cases e
/-- a thing that changes -/
inductive AO where
  | pv (p : PV)
  | lst (xs : List PV)
  | dK (kvs : List (Key × PV))
  | ins (C : Addr) (fs : List (Str × AO))
  | res (r : Res)
def aoR (K : PySem.W.Frag) (G H : Hp) : AO → V → List Addr → Prop
  | .pv p, v, fp => fp = [] ∧ (rPV K p).P G v
  | .lst xs, v, fp => ∃ a vs, v = .ref a ∧ fp = [a] ∧ H a = some (.lst vs) ∧ Al G (rPs K xs) vs
  | .dK kvs, v, fp => ∃ a vs, v = .ref a ∧ fp = [a] ∧ H a = some (.dK vs) ∧ DAl G (rPV.rKvs K kvs) vs
  | .ins C fs, v, fp => ∃ a dx vs fq, v = .ref a ∧ fp = a :: fq ∧ H a = some (.ins C dx vs) ∧ foR fs vs fq
  | .res r, v, fp => r.P K G H v fp
where
  foR : List (Str × AO) → List (Str × V) → List Addr → Prop
    | [], vs, fq => vs = [] ∧ fq = []
    | (f, o) :: t, vs, fq => ∃ v r f1 f2, vs = (f, v) :: r ∧ fq = f1 ++ f2 ∧ aoR K G H o v f1 ∧ foR t r f2
abbrev foR (K : PySem.W.Frag) (G H : Hp) : List (Str × AO) → List (Str × V) → List Addr → Prop := aoR.foR K G H
section
variable {K : PySem.W.Frag} {G H G' H' : Hp}
mutual
theorem aoR_frame : ∀ {o : AO} {v : V} {fp : List Addr}, aoR K G H o v fp → Le G G' → (∀ b ∈ fp, H' b = H b) → aoR K G' H' o v fp
  | .pv p, v, fp, ⟨h1, h2⟩, le, _ => ⟨h1, (rPV K p).mono le h2⟩
  | .lst xs, v, fp, ⟨a, vs, h1, h2, h3, h4⟩, le, e => ⟨a, vs, h1, h2, by rw [e a (by rw [h2]; exact List.mem_cons_self)]; exact h3, h4.mono le⟩
  | .dK kvs, v, fp, ⟨a, vs, h1, h2, h3, h4⟩, le, e => ⟨a, vs, h1, h2, by rw [e a (by rw [h2]; exact List.mem_cons_self)]; exact h3, h4.mono le⟩
  | .ins C fs, v, fp, ⟨a, dx, vs, fq, h1, h2, h3, h4⟩, le, e => ⟨a, dx, vs, fq, h1, h2, by rw [e a (by rw [h2]; exact List.mem_cons_self)]; exact h3, foR_frame h4 le fun b hb => e b (by rw [h2]; exact List.mem_cons_of_mem _ hb)⟩
  | .res r, v, fp, h, le, e => r.frame h le e
theorem foR_frame : ∀ {fs : List (Str × AO)} {vs : List (Str × V)} {fq : List Addr}, foR K G H fs vs fq → Le G G' → (∀ b ∈ fq, H' b = H b) → foR K G' H' fs vs fq
  | [], vs, fq, h, _, _ => h
  | (f, o) :: t, vs, fq, ⟨v, r, f1, f2, h1, h2, h3, h4⟩, le, e => ⟨v, r, f1, f2, h1, h2, aoR_frame h3 le fun b hb => e b (by rw [h2]; exact List.mem_append_left _ hb), foR_frame h4 le fun b hb => e b (by rw [h2]; exact List.mem_append_right _ hb)⟩
end
mutual
theorem aoR_nx : ∀ {o : AO} {v : V} {fp : List Addr}, aoR K G H o v fp → ∀ b ∈ fp, ∃ o, H b = some o ∧ NX o
  | .pv p, v, fp, ⟨h1, h2⟩, b, hb => by rw [h1] at hb; cases hb
  | .lst xs, v, fp, ⟨a, vs, h1, h2, h3, h4⟩, b, hb => by rw [h2] at hb; rw [List.mem_singleton.mp hb]; exact ⟨_, h3, by exact ⟨fun _ z => (nomatch z), fun _ z => (nomatch z)⟩⟩
  | .dK kvs, v, fp, ⟨a, vs, h1, h2, h3, h4⟩, b, hb => by rw [h2] at hb; rw [List.mem_singleton.mp hb]; exact ⟨_, h3, by exact ⟨fun _ z => (nomatch z), fun _ z => (nomatch z)⟩⟩
  | .ins C fs, v, fp, ⟨a, dx, vs, fq, h1, h2, h3, h4⟩, b, hb => by
    rw [h2] at hb
    rcases List.mem_cons.mp hb with z | z
    · rw [z]; exact ⟨_, h3, by exact ⟨fun _ z => (nomatch z), fun _ z => (nomatch z)⟩⟩
    · exact foR_nx h4 b z
  | .res r, v, fp, h, b, hb => r.there h b hb
theorem foR_nx : ∀ {fs : List (Str × AO)} {vs : List (Str × V)} {fq : List Addr}, foR K G H fs vs fq → ∀ b ∈ fq, ∃ o, H b = some o ∧ NX o
  | [], vs, fq, h, b, hb => by rw [h.2] at hb; cases hb
  | (f, o) :: t, vs, fq, ⟨v, r, f1, f2, h1, h2, h3, h4⟩, b, hb => by
    rw [h2] at hb
    rcases List.mem_append.mp hb with z | z
    · exact aoR_nx h3 b z
    · exact foR_nx h4 b z
end
theorem aoR_there {o : AO} {v : V} {fp : List Addr} (h : aoR K G H o v fp) (b : Addr) (hb : b ∈ fp) : H b ≠ none := by
  obtain ⟨o, e, _⟩ := aoR_nx h b hb
  rw [e]
  exact fun z => nomatch z
theorem foR_there {fs : List (Str × AO)} {vs : List (Str × V)} {fq : List Addr} (h : foR K G H fs vs fq) (b : Addr) (hb : b ∈ fq) : H b ≠ none := by
  obtain ⟨o, e, _⟩ := foR_nx h b hb
  rw [e]
  exact fun z => nomatch z
end
end TH
/-! Places within things that change; states. -/
namespace TH
open PySem PySem.Spec PyProof.Rows L2
variable [TC : TabC]

abbrev Sto := List AO
/-- a value, or a place: the thing n, and within it by fields -/
inductive AV where
  | pv (p : PV)
  | loc (n : Nat) (p : List Str)
abbrev Sg := List (Option AV)
/-- a part by its fields -/
def aoSub : List Str → AO → Option AO
  | [], o => some o
  | f :: p, .ins _ fs => (fs.lookup f).bind (aoSub p)
  | _ :: _, _ => none
def foPut (f : Str) (g : AO → AO) : List (Str × AO) → List (Str × AO)
  | [] => []
  | (x, o) :: t => if f == x then (x, g o) :: t else (x, o) :: foPut f g t
/-- another part there -/
def aoPut (u : AO) : List Str → AO → AO
  | [], _ => u
  | f :: p, .ins C fs => .ins C (foPut f (aoPut u p) fs)
  | _ :: _, o => o
def aoAt (A : Sto) (n : Nat) (p : List Str) : Option AO := (A[n]?).bind (aoSub p)
def aoSet (A : Sto) (n : Nat) (p : List Str) (u : AO) : Sto := match A[n]? with
  | some o => A.set n (aoPut u p o)
  | none => A
/-- where a part lies -/
def adr (H : Hp) : V → List Str → V → Prop
  | r, [], v => v = r
  | r, f :: p, v => ∃ a C dx fs w, r = .ref a ∧ H a = some (.ins C dx fs) ∧ fs.lookup f = some w ∧ adr H w p v
section
variable {K : PySem.W.Frag} {G H G' H' : Hp}
theorem foR_get {f : Str} : ∀ {fs : List (Str × AO)} {vs : List (Str × V)} {fq : List Addr} {o : AO}, foR K G H fs vs fq → fs.lookup f = some o →
    ∃ v pre fp post, vs.lookup f = some v ∧ fq = pre ++ (fp ++ post) ∧ aoR K G H o v fp ∧
      ∀ {G' H' : Hp} {g : AO → AO} {fp' : List Addr}, Le G G' → (∀ b ∈ pre ++ post, H' b = H b) → aoR K G' H' (g o) v fp' → foR K G' H' (foPut f g fs) vs (pre ++ (fp' ++ post))
  | [], vs, fq, o, h, e => by cases e
  | (x, u) :: t, vs, fq, o, ⟨v, r, f1, f2, h1, h2, h3, h4⟩, e => by
    subst h1 h2
    rw [List.lookup_cons] at e
    cases c : f == x with
    | true =>
      rw [c] at e
      cases e
      refine ⟨v, [], f1, f2, by rw [List.lookup_cons, c], rfl, h3, fun {G' H' g fp'} le k q => ?_⟩
      unfold foPut
      rw [c]
      exact ⟨v, r, fp', f2, rfl, rfl, q, foR_frame h4 le fun b hb => k b (by simpa using hb)⟩
    | false =>
      rw [c] at e
      obtain ⟨w, pre, fp, post, q1, q2, q3, q4⟩ := foR_get h4 e
      subst q2
      refine ⟨w, f1 ++ pre, fp, post, by rw [List.lookup_cons, c]; exact q1, by rw [List.append_assoc], q3, fun {G' H' g fp'} le k q => ?_⟩
      unfold foPut
      rw [c]
      refine ⟨v, r, f1, pre ++ (fp' ++ post), rfl, by rw [List.append_assoc], aoR_frame h3 le fun b hb => k b (by simp [hb]), q4 le (fun b hb => k b ?_) q⟩
      rcases List.mem_append.mp hb with z | z
      · simp [z]
      · simp [z]
/-- a part, and what holds when it alone changes -/
theorem aoR_sub : ∀ {p : List Str} {r v : V} {o u : AO} {fr : List Addr}, aoR K G H o r fr → adr H r p v → aoSub p o = some u →
    ∃ pre fp post, fr = pre ++ (fp ++ post) ∧ aoR K G H u v fp ∧ ∀ {G' H' : Hp} {u' : AO} {fp' : List Addr}, Le G G' → (∀ b ∈ pre ++ post, H' b = H b) → aoR K G' H' u' v fp' → aoR K G' H' (aoPut u' p o) r (pre ++ (fp' ++ post))
  | [], r, v, o, u, fr, h, e, s => by
    cases s
    have e : v = r := e
    subst e
    exact ⟨[], fr, [], by simp, h, fun {G' H' u' fp'} le k q => by simpa [aoPut] using q⟩
  | f :: p, r, v, .ins C fs, u, fr, ⟨a, dx, vs, fq, h1, h2, h3, h4⟩, ⟨a', C', dx', fs', w, e1, e2, e3, e4⟩, s => by
    subst h1 h2
    cases e1
    rw [h3] at e2
    cases e2
    have s : (fs.lookup f).bind (aoSub p) = some u := s
    obtain ⟨o1, s1, s2⟩ := Option.bind_eq_some_iff.mp s
    obtain ⟨w', pre, fp, post, q1, q2, q3, q4⟩ := foR_get h4 s1
    rw [q1] at e3
    cases e3
    obtain ⟨pre', fp', post', z1, z2, z3⟩ := aoR_sub q3 e4 s2
    subst q2 z1
    refine ⟨a :: (pre ++ pre'), fp', post' ++ post, by simp, z2, fun {G' H' u' fu} le k q => ?_⟩
    have y := q4 (g := aoPut u' p) le (fun b hb => k b (by rcases List.mem_append.mp hb with z | z <;> simp [z])) (z3 le (fun b hb => k b (by rcases List.mem_append.mp hb with z | z <;> simp [z])) q)
    refine ⟨a, dx, vs, pre ++ ((pre' ++ (fu ++ post')) ++ post), rfl, by simp, by rw [k a (by simp)]; exact h3, y⟩
  | f :: p, r, v, .pv _, u, fr, h, e, s => by cases s
  | f :: p, r, v, .lst _, u, fr, h, e, s => by cases s
  | f :: p, r, v, .dK _, u, fr, h, e, s => by cases s
  | f :: p, r, v, .res _, u, fr, h, e, s => by cases s
theorem adr_mono : ∀ {p : List Str} {r v : V}, adr H r p v → (∀ b o, H b = some o → NT o → H' b = some o) → adr H' r p v
  | [], r, v, h, _ => h
  | f :: p, r, v, ⟨a, C, dx, fs, w, e1, e2, e3, e4⟩, k => ⟨a, C, dx, fs, w, e1, k _ _ e2 (by exact fun _ z => (nomatch z)), e3, adr_mono e4 k⟩
theorem adr_in : ∀ {p : List Str} {r v : V} {o u : AO} {fr : List Addr}, aoR K G H o r fr → aoSub p o = some u → ∃ v, adr H r p v
  | [], r, v, o, u, fr, h, s => ⟨r, rfl⟩
  | f :: p, r, v, .ins C fs, u, fr, ⟨a, dx, vs, fq, h1, h2, h3, h4⟩, s => by
    have s : (fs.lookup f).bind (aoSub p) = some u := s
    obtain ⟨o1, s1, s2⟩ := Option.bind_eq_some_iff.mp s
    obtain ⟨w', pre, fp, post, q1, q2, q3, q4⟩ := foR_get h4 s1
    obtain ⟨x, hx⟩ := adr_in (v := v) q3 s2
    exact ⟨x, a, C, dx, vs, w', h1, h3, q1, hx⟩
  | f :: p, r, v, .pv _, u, fr, h, s => by cases s
  | f :: p, r, v, .lst _, u, fr, h, s => by cases s
  | f :: p, r, v, .dK _, u, fr, h, s => by cases s
  | f :: p, r, v, .res _, u, fr, h, s => by cases s
end

/-! ### states -/
/-- where a def began: the heaps, what may change, its things -/
structure Bs where
  G : Hp
  H : Hp
  ι : List V
  φ : Nat → List Addr
def Bs.W (B : Bs) : List Addr := (List.range B.ι.length).flatMap B.φ
theorem Bs.inW {B : Bs} {n : Nat} {b : Addr} (h : n < B.ι.length) (hb : b ∈ B.φ n) : b ∈ B.W := List.mem_flatMap.mpr ⟨n, List.mem_range.mpr h, hb⟩
structure Cs where
  ι : List V
  φ : Nat → List Addr
  A : Sto
  G : Hp
  H : Hp
structure Rep (K : PySem.W.Frag) (B : Bs) (s : Cs) : Prop where
  len : s.ι.length = s.A.length
  at' : ∀ n o, s.A[n]? = some o → ∃ v, s.ι[n]? = some v ∧ aoR K s.G s.H o v (s.φ n)
  nd : ∀ n, n < s.A.length → (s.φ n).Nodup
  dj : ∀ m n, m < s.A.length → n < s.A.length → m ≠ n → ∀ b ∈ s.φ m, b ∉ s.φ n
  out : ∀ n, n < s.A.length → ∀ b ∈ s.φ n, s.G b = none
  fr : ∀ n, n < s.A.length → ∀ b ∈ s.φ n, (n < B.ι.length ∧ b ∈ B.φ n) ∨ B.H b = none
  gr : Gr B.W B.G B.H s.G s.H
  pre : B.ι <+: s.ι
  tabs : ∀ P ∈ TC.T, TabG s.G s.H P
def avR (K : PySem.W.Frag) (s : Cs) : AV → V → Prop
  | .pv p, v => (rPV K p).P s.G v
  | .loc n p, v => ∃ r, s.ι[n]? = some r ∧ adr s.H r p v
/-- what a name may hold -/
def avS (K : PySem.W.Frag) (s : Cs) : AV → V → Prop
  | .pv p, v => (rPV K p).P s.G v
  | .loc n [], v => s.ι[n]? = some v
  | .loc _ (_ :: _), _ => False
structure SgR (K : PySem.W.Frag) (s : Cs) (sa : Sg) (σ : L2.St) : Prop where
  len : sa.length = σ.length
  at' : ∀ (i : Nat) (a : AV), sa[i]? = some (some a) → ∃ v : V, σ[i]? = some (some v) ∧ avS K s a v
/-- from state to state; pure: nothing that changes has changed -/
structure Stp (K : PySem.W.Frag) (B : Bs) (m : Bool) (s s' : Cs) : Prop where
  le : Le s.G s'.G
  pre : s.ι <+: s'.ι
  dm : ∀ b, s.H b ≠ none → s'.H b ≠ none
  pure : m = true → s'.ι = s.ι ∧ s'.A = s.A ∧ s'.φ = s.φ ∧ Gr [] s.G s.H s'.G s'.H
  rep : Rep K B s'
section
variable {K : PySem.W.Frag} {B : Bs} {m : Bool} {s s' s'' : Cs} {sa : Sg} {σ : L2.St}
theorem Rep.le (r : Rep K B s) : Le s.G s.H := r.gr.gh
theorem Stp.refl (r : Rep K B s) : Stp K B m s s := ⟨Le.refl _, List.prefix_refl _, fun _ z => z, fun _ => ⟨rfl, rfl, rfl, .refl r.le⟩, r⟩
theorem Stp.trans (a : Stp K B m s s') (b : Stp K B m s' s'') : Stp K B m s s'' where
  le := a.le.trans b.le
  pre := a.pre.trans b.pre
  dm := fun c e => b.dm c (a.dm c e)
  pure := fun e => by
    obtain ⟨a1, a2, a3, a4⟩ := a.pure e
    obtain ⟨b1, b2, b3, b4⟩ := b.pure e
    exact ⟨b1.trans a1, b2.trans a2, b3.trans a3, a4.trans b4⟩
  rep := b.rep
theorem Stp.weak (a : Stp K B true s s') : Stp K B m s s' := ⟨a.le, a.pre, a.dm, fun _ => a.pure rfl, a.rep⟩
theorem Stp.off (a : Stp K B m s s') : Stp K B false s s' := ⟨a.le, a.pre, a.dm, fun z => (nomatch z), a.rep⟩
theorem Rep.nx (r : Rep K B s) {n : Nat} (hn : n < s.A.length) : ∀ b ∈ s.φ n, ∃ o, s.H b = some o ∧ NX o := fun b hb => by
  obtain ⟨v, _, h⟩ := r.at' n s.A[n] (by simp [hn])
  exact aoR_nx h b hb
theorem Rep.there (r : Rep K B s) {n : Nat} (hn : n < s.A.length) : ∀ b ∈ s.φ n, s.H b ≠ none := fun b hb => by
  obtain ⟨v, _, h⟩ := r.at' n s.A[n] (by simp [hn])
  exact aoR_there h b hb
/-- the frozen grows, new things come -/
theorem Rep.pure {G' H' : Hp} (r : Rep K B s) (g : Gr [] s.G s.H G' H') : Rep K B { s with G := G', H := H' } where
  len := r.len
  at' := fun n o e => by
    obtain ⟨v, h1, h2⟩ := r.at' n o e
    have hn : n < s.A.length := (List.getElem?_eq_some_iff.mp e).1
    refine ⟨v, h1, aoR_frame h2 g.gg fun b hb => ?_⟩
    obtain ⟨o, c, n⟩ := r.nx hn b hb
    rw [c]
    exact g.hhN b o c (fun z => nomatch z) n.1
  nd := r.nd
  dj := r.dj
  out := fun n hn b hb => g.gnone (r.there hn b hb) (r.out n hn b hb)
  fr := r.fr
  gr := r.gr.trans g.nil
  pre := r.pre
  tabs := fun P hP => g.tb P hP (fun z => nomatch z) (r.tabs P hP)
theorem Stp.of {G' H' : Hp} (r : Rep K B s) (g : Gr [] s.G s.H G' H') : Stp K B m s { s with G := G', H := H' } := ⟨g.gg, List.prefix_refl _, g.dm, fun _ => ⟨rfl, rfl, rfl, g⟩, r.pure g⟩
theorem pre_get {α : Type} {l l' : List α} (h : l <+: l') {n : Nat} {x : α} (e : l[n]? = some x) : l'[n]? = some x := by
  obtain ⟨t, rfl⟩ := h
  rw [List.getElem?_append_left (List.getElem?_eq_some_iff.mp e).1]
  exact e
theorem avS.r {a : AV} {v : V} (h : avS K s a v) : avR K s a v := by
  match a, h with
  | .pv p, h => exact h
  | .loc n [], h => exact ⟨v, h, rfl⟩
theorem avS.stp {a : AV} {v : V} (h : avS K s a v) (e : Stp K B m s s') : avS K s' a v := by
  match a, h with
  | .pv p, h => exact (rPV K p).mono e.le h
  | .loc n [], h => exact pre_get e.pre h
theorem avS.stp' {a : AV} {v : V} (h : avS K s a v) (le : Le s.G s'.G) (pre : s.ι <+: s'.ι) : avS K s' a v := by
  match a, h with
  | .pv p, h => exact (rPV K p).mono le h
  | .loc n [], h => exact pre_get pre h
theorem avR.stp {a : AV} {v : V} (h : avR K s a v) (e : Stp K B true s s') : avR K s' a v := by
  match a, h with
  | .pv p, h => exact (rPV K p).mono e.le h
  | .loc n p, ⟨r, h1, h2⟩ =>
    obtain ⟨e1, _, _, g⟩ := e.pure rfl
    exact ⟨r, pre_get e.pre h1, adr_mono h2 fun b o q t => g.hhN b o q (fun z => nomatch z) t⟩
def AV.stable : AV → Bool
  | .loc _ (_ :: _) => false
  | _ => true
theorem avR.toS {a : AV} {v : V} (h : avR K s a v) (e : a.stable = true) : avS K s a v := by
  match a, h with
  | .pv p, h => exact h
  | .loc n [], ⟨r, h1, h2⟩ =>
    have h2 : v = r := h2
    rw [h2]; exact h1
theorem SgR.stp (h : SgR K s sa σ) (e : Stp K B m s s') : SgR K s' sa σ := ⟨h.len, fun i a q => let ⟨v, h1, h2⟩ := h.at' i a q; ⟨v, h1, h2.stp e⟩⟩
theorem SgR.set {a : AV} {v : V} (h : SgR K s sa σ) (i : Nat) (ha : avS K s a v) : SgR K s (sa.set i (some a)) (σ.set i (some v)) := by
  refine ⟨by simp [h.len], fun j b q => ?_⟩
  rw [List.getElem?_set] at q ⊢
  by_cases c : i = j
  · rw [if_pos c] at q ⊢
    subst c
    by_cases d : i < sa.length
    · rw [if_pos d] at q
      rw [if_pos (by rw [← h.len]; exact d)]
      cases q
      exact ⟨v, rfl, ha⟩
    · rw [if_neg d] at q; cases q
  · rw [if_neg c] at q ⊢
    exact h.at' j b q
theorem SgR.wipe1 (h : SgR K s sa σ) (i : Nat) : SgR K s (sa.set i none) (σ.set i none) := by
  refine ⟨by simp [h.len], fun j b q => ?_⟩
  rw [List.getElem?_set] at q ⊢
  by_cases c : i = j
  · rw [if_pos c] at q
    subst c
    by_cases d : i < sa.length
    · rw [if_pos d] at q; cases q
    · rw [if_neg d] at q; cases q
  · rw [if_neg c] at q ⊢
    exact h.at' j b q
/-- what is at a place -/
theorem Rep.sub (r : Rep K B s) {n : Nat} {p : List Str} {v : V} {u : AO} (h : avR K s (.loc n p) v) (e : aoAt s.A n p = some u) : ∃ fp, aoR K s.G s.H u v fp ∧ (∀ b ∈ fp, b ∈ s.φ n) ∧ n < s.A.length := by
  obtain ⟨o, e1, e2⟩ := Option.bind_eq_some_iff.mp e
  obtain ⟨w, h1, h2⟩ := r.at' n o e1
  obtain ⟨r', q1, q2⟩ := h
  rw [h1] at q1
  cases q1
  obtain ⟨pre, fp, post, z1, z2, _⟩ := aoR_sub h2 q2 e2
  exact ⟨fp, z2, fun b hb => by rw [z1]; simp [hb], (List.getElem?_eq_some_iff.mp e1).1⟩
/-- the thing at a place, opened: it may change -/
theorem Rep.opn (r : Rep K B s) {n : Nat} {p : List Str} {v : V} {u : AO} (h : avR K s (.loc n p) v) (e : aoAt s.A n p = some u) :
    ∃ fp, aoR K s.G s.H u v fp ∧ fp.Nodup ∧ (∀ b ∈ fp, b ∈ s.φ n) ∧ (∀ b ∈ fp, s.G b = none) ∧ n < s.A.length ∧
      ∀ {u' : AO} {G' H' : Hp} {fp' : List Addr}, aoR K G' H' u' v fp' → fp'.Nodup → (∀ b ∈ fp', b ∈ fp ∨ s.H b = none) → (∀ b ∈ fp', G' b = none) → Gr fp s.G s.H G' H' →
        ∃ φ', Rep K B { s with φ := φ', A := aoSet s.A n p u', G := G', H := H' } ∧ Le s.G G' := by
  obtain ⟨o, e1, e2⟩ := Option.bind_eq_some_iff.mp e
  obtain ⟨w, h1, h2⟩ := r.at' n o e1
  obtain ⟨r', q1, q2⟩ := h
  rw [h1] at q1
  cases q1
  obtain ⟨pre, fp, post, z1, z2, z3⟩ := aoR_sub h2 q2 e2
  have hn : n < s.A.length := (List.getElem?_eq_some_iff.mp e1).1
  have nd := r.nd n hn
  rw [z1] at nd
  refine ⟨fp, z2, (List.nodup_append.mp (List.nodup_append.mp nd).2.1).1, fun b hb => by rw [z1]; simp [hb], fun b hb => r.out n hn b (by rw [z1]; simp [hb]), hn, fun {u' G' H' fp'} k1 k2 k3 k4 k5 => ?_⟩
  have hs : aoSet s.A n p u' = s.A.set n (aoPut u' p o) := by unfold aoSet; rw [e1]
  have away : ∀ b, b ∉ fp → (∃ o, s.H b = some o ∧ NX o) → H' b = s.H b := fun b hb ⟨o, c, q⟩ => by
    rw [c]
    exact k5.hhN b o c hb q.1
  have gn : ∀ b, s.H b ≠ none → s.G b = none → G' b = none := fun b h1 h2 => k5.gnone h1 h2
  have pp : ∀ b ∈ pre ++ post, b ∉ fp := fun b hb hf => by
    rw [List.nodup_append] at nd
    obtain ⟨n1, n2, n3⟩ := nd
    rw [List.nodup_append] at n2
    rcases List.mem_append.mp hb with z | z
    · exact n3 b z b (List.mem_append_left _ hf) rfl
    · exact n2.2.2 b hf b z rfl
  have thx : ∀ b ∈ pre ++ post, ∃ o, s.H b = some o ∧ NX o := fun b hb => r.nx hn b (by rw [z1]; rcases List.mem_append.mp hb with z | z <;> simp [z])
  have thr : ∀ b ∈ pre ++ post, s.H b ≠ none := fun b hb => r.there hn b (by rw [z1]; rcases List.mem_append.mp hb with z | z <;> simp [z])
  have mem' : ∀ b, b ∈ pre ++ (fp' ++ post) → b ∈ s.φ n ∨ s.H b = none := fun b hb => by
    rcases List.mem_append.mp hb with z | z
    · exact .inl (by rw [z1]; simp [z])
    · rcases List.mem_append.mp z with z | z
      · rcases k3 b z with q | q
        · exact .inl (by rw [z1]; simp [q])
        · exact .inr q
      · exact .inl (by rw [z1]; simp [z])
  refine ⟨fun i => if i = n then pre ++ (fp' ++ post) else s.φ i, ⟨?_, fun i u e => ?_, fun i hi => ?_, fun i j hi hj ne b hb hb' => ?_, fun i hi b hb => ?_, fun i hi b hb => ?_, r.gr.over k5 fun b hb => (r.fr n hn b (by rw [z1]; simp [hb])).imp (fun z => Bs.inW z.1 z.2) id, r.pre, fun P hP => k5.tb P hP (fun z => ?_) (r.tabs P hP)⟩, k5.gg⟩
  · show s.ι.length = (aoSet s.A n p u').length
    rw [hs, List.length_set]; exact r.len
  · have e : (aoSet s.A n p u')[i]? = some u := e
    rw [hs, List.getElem?_set] at e
    by_cases c : i = n
    · subst c
      rw [if_pos rfl, if_pos hn] at e
      cases e
      refine ⟨w, h1, ?_⟩
      show aoR K G' H' _ w (if i = i then _ else _)
      rw [if_pos rfl]
      exact z3 k5.gg (fun b hb => away b (pp b hb) (thx b hb)) k1
    · rw [if_neg (Ne.symm c)] at e
      obtain ⟨x, y1, y2⟩ := r.at' i u e
      refine ⟨x, y1, ?_⟩
      show aoR K G' H' u x (if i = n then _ else _)
      rw [if_neg c]
      have hi : i < s.A.length := (List.getElem?_eq_some_iff.mp e).1
      exact aoR_frame y2 k5.gg fun b hb => away b (fun z => r.dj i n hi hn c b hb (by rw [z1]; simp [z])) (r.nx hi b hb)
  · have hi : i < (aoSet s.A n p u').length := hi
    rw [hs, List.length_set] at hi
    show (if i = n then _ else _ : List Addr).Nodup
    by_cases c : i = n
    · rw [if_pos c]
      rw [List.nodup_append] at nd ⊢
      obtain ⟨n1, n2, n3⟩ := nd
      rw [List.nodup_append] at n2 ⊢
      have d : ∀ x ∈ fp', ∀ y, y ∈ pre ∨ y ∈ post → x ≠ y := fun x hx y hy z => by
        subst z
        have hin : x ∈ pre ++ post := by rcases hy with q | q <;> simp [q]
        rcases k3 x hx with q | q
        · exact pp x hin q
        · exact thr x hin q
      refine ⟨n1, ⟨k2, n2.2.1, fun x hx y hy => d x hx y (.inr hy)⟩, fun x hx y hy => ?_⟩
      rcases List.mem_append.mp hy with z | z
      · exact (d y z x (.inl hx)).symm
      · exact n3 x hx y (List.mem_append_right _ z)
    · rw [if_neg c]; exact r.nd i hi
  · have hi : i < (aoSet s.A n p u').length := hi
    have hj : j < (aoSet s.A n p u').length := hj
    rw [hs, List.length_set] at hi hj
    have hb : b ∈ (if i = n then pre ++ (fp' ++ post) else s.φ i) := hb
    have hb' : b ∈ (if j = n then pre ++ (fp' ++ post) else s.φ j) := hb'
    by_cases c : i = n
    · rw [if_pos c] at hb
      rw [if_neg (fun z => ne (c.trans z.symm))] at hb'
      rcases mem' b hb with q | q
      · exact r.dj n j hn hj (fun z => ne (c.trans z)) b q hb'
      · exact r.there hj b hb' q
    · rw [if_neg c] at hb
      by_cases d : j = n
      · rw [if_pos d] at hb'
        rcases mem' b hb' with q | q
        · exact r.dj i n hi hn c b hb q
        · exact r.there hi b hb q
      · rw [if_neg d] at hb'
        exact r.dj i j hi hj ne b hb hb'
  · have hi : i < (aoSet s.A n p u').length := hi
    rw [hs, List.length_set] at hi
    have hb : b ∈ (if i = n then pre ++ (fp' ++ post) else s.φ i) := hb
    show G' b = none
    by_cases c : i = n
    · rw [if_pos c] at hb
      rcases List.mem_append.mp hb with z | z
      · exact gn b (thr b (List.mem_append_left _ z)) (r.out n hn b (by rw [z1]; simp [z]))
      · rcases List.mem_append.mp z with z | z
        · exact k4 b z
        · exact gn b (thr b (List.mem_append_right _ z)) (r.out n hn b (by rw [z1]; simp [z]))
    · rw [if_neg c] at hb
      exact gn b (r.there hi b hb) (r.out i hi b hb)
  · have hi : i < (aoSet s.A n p u').length := hi
    rw [hs, List.length_set] at hi
    have hb : b ∈ (if i = n then pre ++ (fp' ++ post) else s.φ i) := hb
    have back : ∀ b, s.H b = none → B.H b = none := fun b hb => by
      cases c : B.H b with
      | none => rfl
      | some o => exact absurd hb (r.gr.dm b (by rw [c]; exact fun z => nomatch z))
    by_cases c : i = n
    · rw [if_pos c] at hb
      rcases mem' b hb with q | q
      · rw [c]; exact r.fr n hn b q
      · exact .inr (back b q)
    · rw [if_neg c] at hb
      exact r.fr i hi b hb
  · obtain ⟨o, e, q⟩ := r.nx hn P (by rw [z1]; simp [z])
    exact (r.tabs P hP).off e q.1 rfl
theorem Rep.put (r : Rep K B s) {n : Nat} {p : List Str} {v : V} {u u' : AO} {G' H' : Hp} (h : avR K s (.loc n p) v) (e : aoAt s.A n p = some u)
    (k : ∀ fp, aoR K s.G s.H u v fp → (∀ b ∈ fp, s.G b = none) → ∃ fp', aoR K G' H' u' v fp' ∧ fp'.Nodup ∧ (∀ b ∈ fp', b ∈ fp ∨ s.H b = none) ∧ (∀ b ∈ fp', G' b = none) ∧ Gr fp s.G s.H G' H') :
    ∃ φ', Rep K B { s with φ := φ', A := aoSet s.A n p u', G := G', H := H' } ∧ Le s.G G' := by
  obtain ⟨fp, h1, _, _, h4, _, h6⟩ := r.opn h e
  obtain ⟨fp', k1, k2, k3, k4, k5⟩ := k fp h1 h4
  exact h6 k1 k2 k3 k4 k5
/-- a new thing -/
theorem Rep.push (r : Rep K B s) {v : V} {u : AO} {fp : List Addr} (h : aoR K s.G s.H u v fp) (nd : fp.Nodup) (off : ∀ b ∈ fp, ∀ n, n < s.A.length → b ∉ s.φ n) (out : ∀ b ∈ fp, s.G b = none) (nb : ∀ b ∈ fp, B.H b = none) :
    Rep K B { s with ι := s.ι ++ [v], φ := fun i => if i = s.A.length then fp else s.φ i, A := s.A ++ [u] } := by
  have old : ∀ {i}, i < (s.A ++ [u]).length → i ≠ s.A.length → i < s.A.length := fun {i} h n => by
    rw [List.length_append, List.length_singleton] at h
    omega
  refine ⟨by simp [r.len], fun i o e => ?_, fun i hi => ?_, fun i j hi hj ne b hb hb' => ?_, fun i hi b hb => ?_, fun i hi b hb => ?_, r.gr, r.pre.trans (List.prefix_append _ _), r.tabs⟩
  · by_cases c : i = s.A.length
    · subst c
      have e : (s.A ++ [u])[s.A.length]? = some o := e
      rw [List.getElem?_append_right (Nat.le_refl _), Nat.sub_self] at e
      cases e
      refine ⟨v, ?_, ?_⟩
      · show (s.ι ++ [v])[s.A.length]? = some v
        rw [← r.len, List.getElem?_append_right (Nat.le_refl _), Nat.sub_self]
        rfl
      · show aoR K s.G s.H u v (if s.A.length = s.A.length then fp else _)
        rw [if_pos rfl]; exact h
    · have hi := old (List.getElem?_eq_some_iff.mp e).1 c
      have e : (s.A ++ [u])[i]? = some o := e
      rw [List.getElem?_append_left hi] at e
      obtain ⟨x, y1, y2⟩ := r.at' i o e
      refine ⟨x, pre_get (List.prefix_append _ _) y1, ?_⟩
      show aoR K s.G s.H o x (if i = s.A.length then fp else _)
      rw [if_neg c]; exact y2
  · show (if i = s.A.length then fp else s.φ i).Nodup
    by_cases c : i = s.A.length
    · rw [if_pos c]; exact nd
    · rw [if_neg c]; exact r.nd i (old hi c)
  · have hb : b ∈ (if i = s.A.length then fp else s.φ i) := hb
    have hb' : b ∈ (if j = s.A.length then fp else s.φ j) := hb'
    by_cases c : i = s.A.length
    · rw [if_pos c] at hb
      have d : j ≠ s.A.length := fun z => ne (c.trans z.symm)
      rw [if_neg d] at hb'
      exact off b hb j (old hj d) hb'
    · rw [if_neg c] at hb
      by_cases d : j = s.A.length
      · rw [if_pos d] at hb'
        exact off b hb' i (old hi c) hb
      · rw [if_neg d] at hb'
        exact r.dj i j (old hi c) (old hj d) ne b hb hb'
  · have hb : b ∈ (if i = s.A.length then fp else s.φ i) := hb
    by_cases c : i = s.A.length
    · rw [if_pos c] at hb; exact out b hb
    · rw [if_neg c] at hb; exact r.out i (old hi c) b hb
  · have hb : b ∈ (if i = s.A.length then fp else s.φ i) := hb
    by_cases c : i = s.A.length
    · rw [if_pos c] at hb; exact .inr (nb b hb)
    · rw [if_neg c] at hb; exact r.fr i (old hi c) b hb
theorem Rep.back (r : Rep K B s) {b : Addr} (h : s.H b = none) : B.H b = none := by
  cases c : B.H b with
  | none => rfl
  | some o => exact absurd h (r.gr.dm b (by rw [c]; exact fun z => nomatch z))
theorem Stp.back (e : Stp K B m s s') {b : Addr} (h : s'.H b = none) : s.H b = none := by
  cases c : s.H b with
  | none => rfl
  | some o => exact absurd h (e.dm b (by rw [c]; exact fun z => nomatch z))
/-- some things are frozen as they stand -/
theorem Rep.frz (r : Rep K B s) {fp : List Addr} (off : ∀ b ∈ fp, ∀ n, n < s.A.length → b ∉ s.φ n) (nb : ∀ b ∈ fp, B.H b = none) (hx : ∀ b ∈ fp, ∃ o, s.H b = some o ∧ NX o) : Rep K B { s with G := frzH fp s.G s.H } := by
  have tg : ∀ P, TabG s.G s.H P → TabG (frzH fp s.G s.H) s.H P := fun P t => t.go (le_frzH r.le) rfl ((frzH_out fun z => by
    obtain ⟨o, e, n⟩ := hx P z
    exact t.off e n.1 rfl).trans t.1)
  refine ⟨r.len, fun n o e => ?_, r.nd, r.dj, fun n hn b hb => ?_, r.fr, ⟨r.gr.gg.trans (le_frzH r.le), frzH_le r.le, r.gr.hhN, r.gr.dm, fun b n1 n2 => ?_, fun P hP n t => tg P (r.gr.tb P hP n t)⟩, r.pre, fun P hP => tg P (r.tabs P hP)⟩
  · obtain ⟨v, h1, h2⟩ := r.at' n o e
    exact ⟨v, h1, aoR_frame h2 (le_frzH r.le) fun _ _ => rfl⟩
  · show frzH fp s.G s.H b = none
    rw [frzH_out fun z => off b z n hn hb]
    exact r.out n hn b hb
  · by_cases c : b ∈ fp
    · exact nb b c
    · have n2 : frzH fp s.G s.H b ≠ none := n2
      rw [frzH_out c] at n2
      exact r.gr.nw b n1 n2
/-- the state as a beginning -/
def Bs.of (s : Cs) : Bs := ⟨s.G, s.H, s.ι, s.φ⟩
theorem Rep.start (r : Rep K B s) : Rep K (Bs.of s) s := ⟨r.len, r.at', r.nd, r.dj, r.out, fun n hn b hb => .inl ⟨by rw [← r.len] at hn; exact hn, hb⟩, .refl r.le, List.prefix_refl _, r.tabs⟩
theorem Rep.rebase (r : Rep K B s) (r' : Rep K (Bs.of s) s') : Rep K B s' where
  len := r'.len
  at' := r'.at'
  nd := r'.nd
  dj := r'.dj
  out := r'.out
  fr := fun n hn b hb => by
    rcases r'.fr n hn b hb with ⟨h1, h2⟩ | h
    · have h1 : n < s.ι.length := h1
      rw [r.len] at h1
      exact r.fr n h1 b h2
    · exact .inr (r.back h)
  gr := r.gr.over r'.gr fun b hb => by
    obtain ⟨n, h1, h2⟩ := List.mem_flatMap.mp hb
    have h1 := List.mem_range.mp h1
    have h1 : n < s.ι.length := h1
    rw [r.len] at h1
    exact (r.fr n h1 b h2).imp (fun z => Bs.inW z.1 z.2) id
  pre := r.pre.trans r'.pre
  tabs := r'.tabs
theorem Stp.rebase (r : Rep K B s) (e : Stp K (Bs.of s) m s s') : Stp K B m s s' := ⟨e.le, e.pre, e.dm, e.pure, r.rebase e.rep⟩
theorem Stp.root (e : Stp K B m s s') (r' : Rep K (Bs.of s) s') : Stp K (Bs.of s) m s s' := ⟨e.le, e.pre, e.dm, e.pure, r'⟩
/-- what is no thing's stays -/
theorem Rep.stays (r : Rep K B s) (r' : Rep K (Bs.of s) s') {b : Addr} {o : HO} (h : s.H b = some o) (hg : s.G b = none) (off : ∀ n, n < s.A.length → b ∉ s.φ n) (nt : NT o := by exact fun _ z => (nomatch z)) : s'.H b = some o ∧ s'.G b = none := by
  refine r'.gr.loc h hg (fun z => ?_) nt
  obtain ⟨n, h1, h2⟩ := List.mem_flatMap.mp z
  have h1 := List.mem_range.mp h1
  have h1 : n < s.ι.length := h1
  rw [r.len] at h1
  exact off n h1 h2
/-- and is no thing's then -/
theorem Rep.offs (r : Rep K B s) (r' : Rep K (Bs.of s) s') {b : Addr} {o : HO} (h : s.H b = some o) (off : ∀ n, n < s.A.length → b ∉ s.φ n) : ∀ n, n < s'.A.length → b ∉ s'.φ n := fun n hn z => by
  rcases r'.fr n hn b z with ⟨h1, h2⟩ | h1
  · have h1 : n < s.ι.length := h1
    rw [r.len] at h1
    exact off n h1 h2
  · have h1 : s.H b = none := h1
    rw [h] at h1
    cases h1
/-- one grows from another -/
structure Grw (s s' : Cs) : Prop where
  le : Le s.G s'.G
  pre : s.ι <+: s'.ι
theorem Grw.refl (s : Cs) : Grw s s := ⟨Le.refl _, List.prefix_refl _⟩
theorem Grw.trans (a : Grw s s') (b : Grw s' s'') : Grw s s'' := ⟨a.le.trans b.le, a.pre.trans b.pre⟩
theorem Stp.grw (a : Stp K B m s s') : Grw s s' := ⟨a.le, a.pre⟩
theorem SgR.grw (h : SgR K s sa σ) (e : Grw s s') : SgR K s' sa σ := ⟨h.len, fun i a q => let ⟨v, h1, h2⟩ := h.at' i a q; ⟨v, h1, h2.stp' e.le e.pre⟩⟩
end
end TH
/-! Readings over plain values: what an expression, a statement asks of values alone, and that the heap follows. -/
namespace TH
open PySem PySem.Spec PyProof.Rows L2
variable [TC : TabC]

abbrev aTE := Sg → Sto → (AV → Sto → Prop) → Prop
abbrev aTT := Sg → Sto → (Bool → Sto → Prop) → Prop
abbrev aTA := Sg → Sto → (List AV → Sto → Prop) → Prop
abbrev aTN := Sg → Sto → (AO → Sto → Prop) → Prop
abbrev aTI := Sg → Sto → (List PV → (Sto → Prop) → Sto → Prop) → Prop
abbrev aTG := AV → Sg → Sto → (Sg → Sto → Prop) → Prop
abbrev aTGs := List PV → Sg → Sto → (Sg → Sto → Prop) → Prop
structure AEnds where
  nx : Sg → Sto → Prop
  rt : AV → Sto → Prop
  bk : Sg → Sto → Prop := fun _ _ => False
  ct : Sg → Sto → Prop := fun _ _ => False
abbrev aTS := AEnds → Sg → Sto → Prop
section
variable (K : PySem.W.Frag)
def SimE (m : Bool) (a : aTE) (t : TE) : Prop := ∀ ⦃B : Bs⦄ ⦃s : Cs⦄ ⦃sa : Sg⦄ ⦃σ : L2.St⦄, Rep K B s → SgR K s sa σ → ∀ ⦃Kc : AV → Sto → Prop⦄ ⦃Q : VK⦄, (∀ av v s', Stp K B m s s' → avR K s' av v → Kc av s'.A → Q v s'.H) → a sa s.A Kc → t σ s.H Q
def SimT (m : Bool) (a : aTT) (t : TT) : Prop := ∀ ⦃B : Bs⦄ ⦃s : Cs⦄ ⦃sa : Sg⦄ ⦃σ : L2.St⦄, Rep K B s → SgR K s sa σ → ∀ ⦃Kc : Bool → Sto → Prop⦄ ⦃Q : Bool → Hp → Prop⦄, (∀ b s', Stp K B m s s' → Kc b s'.A → Q b s'.H) → a sa s.A Kc → t σ s.H Q
def SimA (m : Bool) (a : aTA) (t : TA) : Prop := ∀ ⦃B : Bs⦄ ⦃s : Cs⦄ ⦃sa : Sg⦄ ⦃σ : L2.St⦄, Rep K B s → SgR K s sa σ → ∀ ⦃Kc : List AV → Sto → Prop⦄ ⦃Q : List V → Hp → Prop⦄, (∀ avs vs s', Stp K B m s s' → Paired (avR K s') avs vs → Kc avs s'.A → Q vs s'.H) → a sa s.A Kc → t σ s.H Q
/-- a new thing, not yet known elsewhere -/
structure NewAt (s s' : Cs) (o : AO) (v : V) (fp : List Addr) : Prop where
  is : aoR K s'.G s'.H o v fp
  nd : fp.Nodup
  nw : ∀ b ∈ fp, s.H b = none
  out : ∀ b ∈ fp, s'.G b = none
  off : ∀ b ∈ fp, ∀ n, n < s'.A.length → b ∉ s'.φ n
def SimN (m : Bool) (a : aTN) (t : TE) : Prop := ∀ ⦃B : Bs⦄ ⦃s : Cs⦄ ⦃sa : Sg⦄ ⦃σ : L2.St⦄, Rep K B s → SgR K s sa σ → ∀ ⦃Kc : AO → Sto → Prop⦄ ⦃Q : VK⦄, (∀ o v fp s', Stp K B m s s' → NewAt K s s' o v fp → Kc o s'.A → Q v s'.H) → a sa s.A Kc → t σ s.H Q
structure EndR (B : Bs) (s0 : Cs) (Da : AEnds) (D : Ends) : Prop where
  nx : ∀ s sa σ, Rep K B s → Grw s0 s → SgR K s sa σ → Da.nx sa s.A → D.nx σ s.H
  rt : ∀ s av v, Rep K B s → Grw s0 s → avR K s av v → Da.rt av s.A → D.rt v s.H
  bk : ∀ s sa σ, Rep K B s → Grw s0 s → SgR K s sa σ → Da.bk sa s.A → D.bk σ s.H
  ct : ∀ s sa σ, Rep K B s → Grw s0 s → SgR K s sa σ → Da.ct sa s.A → D.ct σ s.H
/-- n0: how many things there were when the def began -/
def SimS (n0 : Nat) (a : aTS) (t : TS) : Prop := ∀ ⦃B : Bs⦄ ⦃s : Cs⦄ ⦃Da : AEnds⦄ ⦃D : Ends⦄, B.ι.length = n0 → EndR K B s Da D → ∀ ⦃sa : Sg⦄ ⦃σ : L2.St⦄, Rep K B s → SgR K s sa σ → a Da sa s.A → t D σ s.H
def SimG (vs : List Nat) (a : aTG) (t : TG) : Prop := ∀ ⦃B : Bs⦄ ⦃s : Cs⦄ ⦃sa : Sg⦄ ⦃σ : L2.St⦄ ⦃av : AV⦄ ⦃v : V⦄, Rep K B s → SgR K s sa σ → avR K s av v → ∀ ⦃Ka : Sg → Sto → Prop⦄ ⦃Q : L2.St → Hp → Prop⦄, (∀ s' sa' σ', Rep K B s' → Grw s s' → SgR K s' sa' σ' → wipe σ' vs = wipe σ vs → Ka sa' s'.A → Q σ' s'.H) → a av sa s.A Ka → t v σ s.H Q
def SimGs (vs : List Nat) (a : aTGs) (t : TGs) : Prop := ∀ ⦃B : Bs⦄ ⦃s : Cs⦄ ⦃sa : Sg⦄ ⦃σ : L2.St⦄ ⦃ps : List PV⦄ ⦃xs : List V⦄, Rep K B s → SgR K s sa σ → Al s.G (rPs K ps) xs → ∀ ⦃Ka : Sg → Sto → Prop⦄ ⦃Q : L2.St → Hp → Prop⦄, (∀ s' sa' σ', Rep K B s' → Grw s s' → SgR K s' sa' σ' → wipe σ' vs = wipe σ vs → Ka sa' s'.A → Q σ' s'.H) → a ps sa s.A Ka → t xs σ s.H Q
/-- later states of a walk; ml: a walk during which nothing that changes has changed -/
structure Lat (ml : Bool) (s0 s : Cs) : Prop where
  grw : Grw s0 s
  pure : ml = true → s.ι = s0.ι ∧ s.A = s0.A ∧ s.φ = s0.φ ∧ (∀ b o, s0.H b = some o → NT o → s.H b = some o)
structure WalkA (B : Bs) (ml : Bool) (J : It) (s0 : Cs) (xs : List PV) (C : Sto → Prop) : Prop where
  goes : ∀ i s, i < xs.length → Rep K B s → Lat ml s0 s → C s.A → J.go i s.H
  stops : ∀ s, Rep K B s → Lat ml s0 s → C s.A → J.stop xs.length s.H
  yields : ∀ i x s v H', xs[i]? = some x → Rep K B s → Lat ml s0 s → C s.A → J.yld i s.H v H' → ∃ G', Gr [] s.G s.H G' H' ∧ (rPV K x).P G' v
def SimI (m ml : Bool) (a : aTI) (t : TI) : Prop := ∀ ⦃B : Bs⦄ ⦃s : Cs⦄ ⦃sa : Sg⦄ ⦃σ : L2.St⦄, Rep K B s → SgR K s sa σ → ∀ ⦃Kc : List PV → (Sto → Prop) → Sto → Prop⦄ ⦃R : It → Hp → Prop⦄, (∀ xs C J s', Stp K B m s s' → WalkA K B ml J s' xs C → C s'.A → Kc xs C s'.A → R J s'.H) → a sa s.A Kc → t σ s.H R
end

/-! ### expressions -/
def aVar (i : Nat) : aTE := fun sa A k => match sa[i]? with
  | some (some (.pv p)) => k (.pv p) A
  | some (some (.loc n [])) => (match A[n]? with
    | some (.pv p) => k (.pv p) A
    | some _ => k (.loc n []) A
    | none => False)
  | _ => False
def aC (v : V) : aTE := fun _ A k => k (.pv (.v v)) A
def aCp (p : PV) : aTE := fun _ A k => k (.pv p) A
def aNil : aTA := fun _ A k => k [] A
def aCons (a : aTE) (r : aTA) : aTA := fun sa A k => a sa A fun x A1 => r sa A1 fun xs A2 => k (x :: xs) A2
/-- values all, none a place -/
def pvs : List AV → Option (List PV)
  | [] => some []
  | .pv p :: t => (pvs t).map (p :: ·)
  | _ :: _ => none
def aTup (t : aTA) : aTE := fun sa A k => t sa A fun xs A1 => match pvs xs with
  | some ps => ps.length ≤ 100000 ∧ k (.pv (.tup ps)) A1
  | none => False
def aLst (t : aTA) : aTN := fun sa A k => t sa A fun xs A1 => match pvs xs with
  | some ps => ps.length ≤ 100000 ∧ k (.lst ps) A1
  | none => False
/-- frozen -/
def AO.fz : AO → Option PV
  | .pv p => some p
  | .lst xs => some (.lst xs)
  | .dK kvs => some (.dct kvs)
  | .ins C fs => (fzs fs).map (.ins C)
  | .res r => r.fz.map .rel
where
  fzs : List (Str × AO) → Option (List (Str × PV))
    | [] => some []
    | (f, o) :: t => match AO.fz o, fzs t with
      | some p, some r => some ((f, p) :: r)
      | _, _ => none
def aFz (a : aTN) : aTE := fun sa A k => a sa A fun o A1 => match o.fz with
  | some p => k (.pv p) A1
  | none => False
/-- a value of an operation: what it may be -/
abbrev aR2 := Sto → AV → AV → (AV → Prop) → Prop
abbrev aR1 := Sto → AV → (AV → Prop) → Prop
def aOp (f : aR2) (a b : aTE) : aTE := fun sa A k => a sa A fun x A1 => b sa A1 fun y A2 => f A2 x y fun z => k z A2
def aUn (f : aR1) (a : aTE) : aTE := fun sa A k => a sa A fun x A1 => f A1 x fun z => k z A1
def aTest (a : aTE) : aTT := fun sa A k => a sa A fun x A1 => match x with
  | .pv (.v (.bl b)) => k b A1
  | _ => False
def aAnd (a b : aTT) : aTT := fun sa A k => a sa A fun c A1 => if c = true then b sa A1 k else k false A1
def aOr (a b : aTT) : aTT := fun sa A k => a sa A fun c A1 => if c = true then k true A1 else b sa A1 k
def aNot (a : aTT) : aTT := fun sa A k => a sa A fun c A1 => k (!c) A1
def aYes : aTT := fun _ A k => k true A
def aAndV (a b : aTE) : aTE := fun sa A k => a sa A fun x A1 => match x with
  | .pv (.v (.bl c)) => if c = true then b sa A1 fun y A2 => k y A2 else k (.pv (.v (.bl false))) A1
  | _ => False
def aOrV (a b : aTE) : aTE := fun sa A k => a sa A fun x A1 => match x with
  | .pv (.v (.bl c)) => if c = true then k (.pv (.v (.bl true))) A1 else b sa A1 fun y A2 => k y A2
  | _ => False
def aNotV (a : aTE) : aTE := fun sa A k => a sa A fun x A1 => match x with
  | .pv (.v (.bl c)) => k (.pv (.v (.bl (!c)))) A1
  | _ => False
def aIf (c : aTT) (a b : aTE) : aTE := fun sa A k => c sa A fun d A1 => if d = true then a sa A1 k else b sa A1 k
section
variable {K : PySem.W.Frag} {B : Bs} {m : Bool} {a b c : aTE} {ta tb te tc : TE} {at' bt : aTT} {tt tu : TT}
theorem SimE.weak (h : SimE K true a ta) : SimE K m a ta := fun {B s sa σ} r g Kc Q q => h r g fun av v s' e => q av v s' e.weak
theorem SimE.off (h : SimE K m a ta) : SimE K false a ta := fun {B s sa σ} r g Kc Q q => h r g fun av v s' e => q av v s' e.off
theorem SimT.weak (h : SimT K true at' tt) : SimT K m at' tt := fun {B s sa σ} r g Kc Q q => h r g fun av s' e => q av s' e.weak
theorem SimN.weak {a : aTN} (h : SimN K true a ta) : SimN K m a ta := fun {B s sa σ} r g Kc Q q => h r g fun o v fp s' e => q o v fp s' e.weak
theorem SimA.weak {a : aTA} {ta : TA} (h : SimA K true a ta) : SimA K m a ta := fun {B s sa σ} r g Kc Q q => h r g fun o v s' e => q o v s' e.weak
theorem sim_var {i : Nat} : SimE K m (aVar i) (tVar i) := fun {B s sa σ} r g {Kc Q} q h => by
  unfold aVar at h
  cases e : sa[i]? with
  | none => rw [e] at h; exact h.elim
  | some o =>
    rw [e] at h
    cases o with
    | none => exact h.elim
    | some av =>
      obtain ⟨v, e1, e2⟩ := g.at' i av e
      refine ⟨v, e1, ?_⟩
      match av, h, e2 with
      | .pv p, h, e2 => exact q (.pv p) v s (.refl r) e2 h
      | .loc n [], h, e2 =>
        have e2 : s.ι[n]? = some v := e2
        cases ea : s.A[n]? with
        | none => simp only [ea] at h
        | some o =>
          simp only [ea] at h
          match o, ea, h with
          | .pv p, ea, h =>
            obtain ⟨w, h1, h2, h3⟩ := r.at' n _ ea
            rw [e2] at h1
            cases h1
            exact q (.pv p) v s (.refl r) h3 h
          | .lst _, ea, h => exact q (.loc n []) v s (.refl r) ⟨v, e2, rfl⟩ h
          | .dK _, ea, h => exact q (.loc n []) v s (.refl r) ⟨v, e2, rfl⟩ h
          | .ins _ _, ea, h => exact q (.loc n []) v s (.refl r) ⟨v, e2, rfl⟩ h
          | .res _, ea, h => exact q (.loc n []) v s (.refl r) ⟨v, e2, rfl⟩ h
theorem sim_c {v : V} : SimE K m (aC v) (tC v) := fun {B s _ _} r _ {_ _} q h => q (.pv (.v v)) v s (.refl r) rfl h
theorem sim_cp {v : V} {p : PV} (h : ∀ G, (rPV K p).P G v) : SimE K m (aCp p) (tC v) := fun {B s _ _} r _ {_ _} q k => q (.pv p) v s (.refl r) (h s.G) k
theorem sim_nil : SimA K m aNil tNil := fun {B s _ _} r _ {_ _} q h => q [] [] s (.refl r) .nil h
theorem pairedR {s s' : Cs} {avs : List AV} {vs : List V} (p : Paired (avR K s) avs vs) (e : Stp K B true s s') : Paired (avR K s') avs vs := by
  induction p with
  | nil => exact .nil
  | cons h _ ih => exact .cons (h.stp e) ih
theorem sim_cons {r : aTA} {tr : TA} (ha : SimE K m a ta) (hr : SimA K true r tr) : SimA K m (aCons a r) (tCons ta tr) := fun {B s sa σ} rp g {Kc Q} q h =>
  ha rp g (fun x v s1 e1 p k => hr e1.rep (g.stp e1) (fun xs vs s2 e2 ps k => q (x :: xs) (v :: vs) s2 (e1.trans e2.weak) (.cons (p.stp e2) ps) k) k) h
/-- an expression whose value is no place within a thing -/
def Stb (a : aTE) : Prop := ∀ sa A k, a sa A k → a sa A fun x A1 => x.stable = true ∧ k x A1
theorem avR.stpS {s s' : Cs} {x : AV} {v : V} (p : avR K s x v) (h : x.stable = true) (e : Stp K B m s s') : avR K s' x v := ((p.toS h).stp e).r
theorem sim_consE {r : aTA} {tr : TA} (hs : Stb a) (ha : SimE K m a ta) (hr : SimA K m r tr) : SimA K m (aCons a r) (tCons ta tr) := fun {B s sa σ} rp g {Kc Q} q h =>
  ha rp g (fun x v s1 e1 p k => hr e1.rep (g.stp e1) (fun xs vs s2 e2 ps k' => q (x :: xs) (v :: vs) s2 (e1.trans e2) (.cons (p.stpS k.1 e2) ps) k') k.2) (hs sa s.A _ h)
theorem pvs_al {s : Cs} {avs : List AV} {vs : List V} (p : Paired (avR K s) avs vs) : ∀ {ps : List PV}, pvs avs = some ps → Al s.G (rPs K ps) vs := by
  induction p with
  | nil => intro ps e; cases e; exact .nil
  | cons h t ih =>
    rename_i x v xs vs
    intro ps e
    match x, h, e with
    | .pv q, h, e =>
      obtain ⟨ps', e1, e2⟩ := Option.map_eq_some_iff.mp (show (pvs xs).map (q :: ·) = some ps from e)
      subst e2
      exact .cons h (ih e1)
theorem Rep.le' {s : Cs} (r : Rep K B s) : At md0 s.G s.H := ⟨r.le, trivial⟩
theorem sim_tup {r : aTA} {tr : TA} (ha : SimA K m r tr) : SimE K m (aTup r) (tTup tr) := fun {B s sa σ} rp g {Kc Q} q h =>
  ha rp g (fun xs vs s1 e1 ps k => by
    cases e : pvs xs with
    | none => simp only [e] at k
    | some qs =>
      simp only [e] at k
      have al := pvs_al ps e
      refine ⟨by rw [← al.length, rPs_len]; exact Nat.le_trans k.1 (by decide), fun p hp => ?_⟩
      have c := Gr.new (W := []) e1.rep.le (o := .tup vs) hp
      exact q (.pv (.tup qs)) _ _ (e1.trans (.of e1.rep c)) ⟨p, vs, rfl, .of upd_same, al.mono c.gg⟩ k.2) h
end
end TH
/-! Operations on values. -/
namespace TH
open PySem PySem.Spec PyProof.Rows L2
variable [TC : TabC]
section
variable {K : PySem.W.Frag} {B : Bs} {m : Bool} {a b c : aTE} {ta tb te tc : TE}
theorem NewAt.stp {s s' : Cs} {o : AO} {v : V} {fp : List Addr} (h : NewAt K s s' o v fp) (e : Stp K B m s s') : ∀ b ∈ fp, s.H b = none := h.nw
theorem sim_lst {r : aTA} {tr : TA} (ha : SimA K m r tr) : SimN K m (aLst r) (tLst tr) := fun {B s sa σ} rp g {Kc Q} q h =>
  ha rp g (fun xs vs s1 e1 ps k => by
    cases e : pvs xs with
    | none => simp only [e] at k
    | some qs =>
      simp only [e] at k
      have al := pvs_al ps e
      refine ⟨by rw [← al.length, rPs_len]; exact Nat.le_trans k.1 (by decide), fun p hp => ?_⟩
      have c := Gr.own (W := []) e1.rep.le (o := .lst vs) hp
      refine q (.lst qs) (.ref p) [p] _ (e1.trans (.of e1.rep c)) ⟨⟨p, vs, rfl, rfl, upd_same, al⟩, by simp, fun b hb => ?_, fun b hb => ?_, fun b hb n hn z => ?_⟩ k.2
      · rw [List.mem_singleton.mp hb]; exact e1.back hp
      · rw [List.mem_singleton.mp hb]; exact e1.rep.le.free hp
      · rw [List.mem_singleton.mp hb] at z
        exact e1.rep.there hn p z hp) h
mutual
theorem fz_ok {G H : Hp} : ∀ {o : AO} {p : PV} {v : V} {fp : List Addr}, aoR K G H o v fp → o.fz = some p → ∀ ps : List Addr, (∀ b ∈ fp, b ∈ ps) → Le G H → (rPV K p).P (frzH ps G H) v
  | .pv p, q, v, fp, ⟨h1, h2⟩, e, ps, _, le => by cases e; exact (rPV K p).mono (le_frzH le) h2
  | .lst xs, q, v, fp, ⟨a, vs, h1, h2, h3, h4⟩, e, ps, k, le => by
    cases e
    exact ⟨a, vs, h1, by rw [frzH_in (k a (by rw [h2]; exact List.mem_cons_self))]; exact h3, h4.mono (le_frzH le)⟩
  | .dK kvs, q, v, fp, ⟨a, vs, h1, h2, h3, h4⟩, e, ps, k, le => by
    cases e
    exact ⟨a, vs, h1, .inl (by rw [frzH_in (k a (by rw [h2]; exact List.mem_cons_self))]; exact h3), h4.mono (le_frzH le)⟩
  | .ins C fs, q, v, fp, ⟨a, dx, vs, fq, h1, h2, h3, h4⟩, e, ps, k, le => by
    obtain ⟨qs, e1, e2⟩ := Option.map_eq_some_iff.mp (show (AO.fz.fzs fs).map (PV.ins C) = some q from e)
    subst e2
    exact ⟨a, dx, vs, h1, by rw [frzH_in (k a (by rw [h2]; exact List.mem_cons_self))]; exact h3, fzs_ok h4 e1 ps (fun b hb => k b (by rw [h2]; exact List.mem_cons_of_mem _ hb)) le⟩
  | .res r, q, v, fp, h, e, ps, k, le => by
    obtain ⟨rl, e1, e2⟩ := Option.map_eq_some_iff.mp (show r.fz.map PV.rel = some q from e)
    subst e2
    exact r.fzOk e1 h ps k le
theorem fzs_ok {G H : Hp} : ∀ {fs : List (Str × AO)} {qs : List (Str × PV)} {vs : List (Str × V)} {fq : List Addr}, foR K G H fs vs fq → AO.fz.fzs fs = some qs → ∀ ps : List Addr, (∀ b ∈ fq, b ∈ ps) → Le G H → FAl (frzH ps G H) (rPV.rFs K qs) vs
  | [], qs, vs, fq, h, e, ps, k, le => by cases e; rw [h.1]; exact .nil
  | (f, o) :: t, qs, vs, fq, ⟨v, r, f1, f2, h1, h2, h3, h4⟩, e, ps, k, le => by
    subst h1 h2
    cases e1 : o.fz with
    | none => simp only [AO.fz.fzs, e1] at e; cases e
    | some p =>
      cases e2 : AO.fz.fzs t with
      | none => simp only [AO.fz.fzs, e1, e2] at e; cases e
      | some rr =>
        simp only [AO.fz.fzs, e1, e2] at e
        cases e
        exact .cons ⟨rfl, fz_ok h3 e1 ps (fun b hb => k b (List.mem_append_left _ hb)) le⟩ (fzs_ok h4 e2 ps (fun b hb => k b (List.mem_append_right _ hb)) le)
end
/-- a new thing, frozen at once -/
theorem sim_fz {a : aTN} (h : SimN K m a ta) : SimE K m (aFz a) ta := fun {B s sa σ} rp g {Kc Q} q hh =>
  h rp g (fun o v fp s1 e1 n k => by
    cases e : o.fz with
    | none => simp only [e] at k
    | some p =>
      simp only [e] at k
      have nx := aoR_nx n.is
      have tg : ∀ P, TabG s1.G s1.H P → TabG (frzH fp s1.G s1.H) s1.H P := fun P t => t.go (le_frzH e1.rep.le) rfl ((frzH_out fun z => by
        obtain ⟨o, e, n⟩ := nx P z
        exact t.off e n.1 rfl).trans t.1)
      have r2 := e1.rep.frz n.off (fun b hb => rp.back (n.nw b hb)) nx
      refine q (.pv p) v { s1 with G := frzH fp s1.G s1.H } ⟨e1.le.trans (le_frzH e1.rep.le), e1.pre, e1.dm, fun z => ?_, r2⟩ (fz_ok n.is e fp (fun _ z => z) e1.rep.le) k
      obtain ⟨z1, z2, z3, z4⟩ := e1.pure z
      refine ⟨z1, z2, z3, ⟨z4.gg.trans (le_frzH e1.rep.le), frzH_le e1.rep.le, z4.hhN, z4.dm, fun b n1 n2 => ?_, fun P hP n t => tg P (z4.tb P hP n t)⟩⟩
      by_cases c : b ∈ fp
      · exact n.nw b c
      · have n2 : frzH fp s1.G s1.H b ≠ none := n2
        rw [frzH_out c] at n2
        exact z4.nw b n1 n2) hh

/-! ### operations -/
def OpS (K : PySem.W.Frag) (f : aR2) (r : R2) : Prop := ∀ ⦃B : Bs⦄ ⦃s : Cs⦄ ⦃x y : AV⦄ ⦃vx vy : V⦄, Rep K B s → avR K s x vx → avR K s y vy → ∀ ⦃k : AV → Prop⦄ ⦃Q : VK⦄, (∀ av v G' H', Gr [] s.G s.H G' H' → avR K { s with G := G', H := H' } av v → k av → Q v H') → f s.A x y k → r vx vy s.H Q
def UnS (K : PySem.W.Frag) (f : aR1) (r : V → Hp → VK → Prop) : Prop := ∀ ⦃B : Bs⦄ ⦃s : Cs⦄ ⦃x : AV⦄ ⦃vx : V⦄, Rep K B s → avR K s x vx → ∀ ⦃k : AV → Prop⦄ ⦃Q : VK⦄, (∀ av v G' H', Gr [] s.G s.H G' H' → avR K { s with G := G', H := H' } av v → k av → Q v H') → f s.A x k → r vx s.H Q
abbrev aR1N := Sto → AV → (AO → Prop) → Prop
abbrev aR2N := Sto → AV → AV → (AO → Prop) → Prop
/-- a new thing made of others -/
structure NewH (K : PySem.W.Frag) (s : Cs) (G' H' : Hp) (o : AO) (v : V) (fp : List Addr) : Prop where
  gr : Gr [] s.G s.H G' H'
  is : aoR K G' H' o v fp
  nd : fp.Nodup
  nw : ∀ b ∈ fp, s.H b = none
  out : ∀ b ∈ fp, G' b = none
def OpN (K : PySem.W.Frag) (f : aR2N) (r : R2) : Prop := ∀ ⦃B : Bs⦄ ⦃s : Cs⦄ ⦃x y : AV⦄ ⦃vx vy : V⦄, Rep K B s → avR K s x vx → avR K s y vy → ∀ ⦃k : AO → Prop⦄ ⦃Q : VK⦄, (∀ o v fp G' H', NewH K s G' H' o v fp → k o → Q v H') → f s.A x y k → r vx vy s.H Q
def UnN (K : PySem.W.Frag) (f : aR1N) (r : V → Hp → VK → Prop) : Prop := ∀ ⦃B : Bs⦄ ⦃s : Cs⦄ ⦃x : AV⦄ ⦃vx : V⦄, Rep K B s → avR K s x vx → ∀ ⦃k : AO → Prop⦄ ⦃Q : VK⦄, (∀ o v fp G' H', NewH K s G' H' o v fp → k o → Q v H') → f s.A x k → r vx s.H Q
def aOpN (f : aR2N) (a b : aTE) : aTN := fun sa A k => a sa A fun x A1 => b sa A1 fun y A2 => f A2 x y fun z => k z A2
def aUnN (f : aR1N) (a : aTE) : aTN := fun sa A k => a sa A fun x A1 => f A1 x fun z => k z A1
theorem NewH.at {s0 s : Cs} {G' H' : Hp} {o : AO} {v : V} {fp : List Addr} (n : NewH K s G' H' o v fp) (r : Rep K B s) (e : Stp K B m s0 s) : Stp K B m s0 { s with G := G', H := H' } ∧ NewAt K s0 { s with G := G', H := H' } o v fp :=
  ⟨e.trans (.of r n.gr), n.is, n.nd, fun b hb => e.back (n.nw b hb), n.out, fun b hb i hi z => r.there hi b z (n.nw b hb)⟩
theorem sim_op {f : aR2} {r : R2} (ha : SimE K m a ta) (hb : SimE K true b tb) (h : OpS K f r) : SimE K m (aOp f a b) (tOp r ta tb) := fun {B s sa σ} rp g {Kc Q} q hh =>
  ha rp g (fun x vx s1 e1 px k => hb e1.rep (g.stp e1) (fun y vy s2 e2 py k => h e2.rep (px.stp e2) py (fun av v G' H' gr pv k => q av v _ (e1.trans (e2.weak.trans (.of e2.rep gr))) pv k) k) k) hh
theorem sim_opE {f : aR2} {r : R2} (hs : Stb a) (ha : SimE K m a ta) (hb : SimE K m b tb) (h : OpS K f r) : SimE K m (aOp f a b) (tOp r ta tb) := fun {B s sa σ} rp g {Kc Q} q hh =>
  ha rp g (fun x vx s1 e1 px k => hb e1.rep (g.stp e1) (fun y vy s2 e2 py k' => h e2.rep (px.stpS k.1 e2) py (fun av v G' H' gr pv k => q av v _ (e1.trans (e2.trans (.of e2.rep gr))) pv k) k') k.2) (hs sa s.A _ hh)
theorem sim_un {f : aR1} {r : V → Hp → VK → Prop} (ha : SimE K m a ta) (h : UnS K f r) : SimE K m (aUn f a) (tUn r ta) := fun {B s sa σ} rp g {Kc Q} q hh =>
  ha rp g (fun x vx s1 e1 px k => h e1.rep px (fun av v G' H' gr pv k => q av v _ (e1.trans (.of e1.rep gr)) pv k) k) hh
theorem sim_opN {f : aR2N} {r : R2} (ha : SimE K m a ta) (hb : SimE K true b tb) (h : OpN K f r) : SimN K m (aOpN f a b) (tOp r ta tb) := fun {B s sa σ} rp g {Kc Q} q hh =>
  ha rp g (fun x vx s1 e1 px k => hb e1.rep (g.stp e1) (fun y vy s2 e2 py k => h e2.rep (px.stp e2) py (fun o v fp G' H' n k => q o v fp _ (n.at e2.rep (e1.trans e2.weak)).1 (n.at e2.rep (e1.trans e2.weak)).2 k) k) k) hh
theorem sim_opNE {f : aR2N} {r : R2} (hs : Stb a) (ha : SimE K m a ta) (hb : SimE K m b tb) (h : OpN K f r) : SimN K m (aOpN f a b) (tOp r ta tb) := fun {B s sa σ} rp g {Kc Q} q hh =>
  ha rp g (fun x vx s1 e1 px k => hb e1.rep (g.stp e1) (fun y vy s2 e2 py k' => h e2.rep (px.stpS k.1 e2) py (fun o v fp G' H' n k => q o v fp _ (n.at e2.rep (e1.trans e2)).1 (n.at e2.rep (e1.trans e2)).2 k) k') k.2) (hs sa s.A _ hh)
/-! ### built-in functions of values: one argument, two -/
def UnC (K : PySem.W.Frag) (f : aR1) (r : List V → Hp → VK → Prop) : Prop := UnS K f fun x H Q => r [x] H Q
def UnCN (K : PySem.W.Frag) (f : aR1N) (r : List V → Hp → VK → Prop) : Prop := UnN K f fun x H Q => r [x] H Q
theorem sim_call1 {f : aR1} {r : List V → Hp → VK → Prop} (ha : SimE K m a ta) (h : UnC K f r) : SimE K m (aUn f a) (tCB r (tCons ta tNil)) := fun {B s sa σ} rp g {Kc Q} q hh =>
  ha rp g (fun x vx s1 e1 px k => h e1.rep px (fun av v G' H' gr pv k => q av v _ (e1.trans (.of e1.rep gr)) pv k) k) hh
theorem sim_call1N {f : aR1N} {r : List V → Hp → VK → Prop} (ha : SimE K m a ta) (h : UnCN K f r) : SimN K m (aUnN f a) (tCB r (tCons ta tNil)) := fun {B s sa σ} rp g {Kc Q} q hh =>
  ha rp g (fun x vx s1 e1 px k => h e1.rep px (fun o v fp G' H' n k => q o v fp _ (n.at e1.rep e1).1 (n.at e1.rep e1).2 k) k) hh
theorem sim_call2 {f : aR2} {r : List V → Hp → VK → Prop} (ha : SimE K m a ta) (hb : SimE K true b tb) (h : OpS K f fun x y H Q => r [x, y] H Q) : SimE K m (aOp f a b) (tCB r (tCons ta (tCons tb tNil))) := fun {B s sa σ} rp g {Kc Q} q hh =>
  ha rp g (fun x vx s1 e1 px k => hb e1.rep (g.stp e1) (fun y vy s2 e2 py k => h e2.rep (px.stp e2) py (fun av v G' H' gr pv k => q av v _ (e1.trans (e2.weak.trans (.of e2.rep gr))) pv k) k) k) hh

/-! ### numbers, truth, texts -/
def fI0 (g : Int → Int → V) : aR2 := fun _ x y k => match x, y with
  | .pv (.v (.int i)), .pv (.v (.int j)) => k (.pv (.v (g i j)))
  | _, _ => False
def fI (C : Int → Int → Prop) (g : Int → Int → V) : aR2 := fun _ x y k => match x, y with
  | .pv (.v (.int i)), .pv (.v (.int j)) => C i j ∧ k (.pv (.v (g i j)))
  | _, _ => False
def fEq : aR2 := fun _ x y k => match x, y with
  | .pv (.v i), .pv (.v j) => scal i j = true ∧ k (.pv (.v (.bl (decide (i = j)))))
  | _, _ => False
def fNe : aR2 := fun _ x y k => match x, y with
  | .pv (.v i), .pv (.v j) => scal i j = true ∧ k (.pv (.v (.bl (!decide (i = j)))))
  | _, _ => False
def fAddS : aR2 := fun _ x y k => match x, y with
  | .pv (.v (.str i)), .pv (.v (.str j)) => i.length + j.length ≤ sizeLine ∧ k (.pv (.v (.str (i ++ j))))
  | _, _ => False
theorem Rep.g0 {s : Cs} (r : Rep K B s) : Gr [] s.G s.H s.G s.H := .refl r.le
theorem ops_I0 {g : Int → Int → V} : OpS K (fI0 g) (rI0 g) := fun {B s x y vx vy} r px py {k Q} q h => by
  unfold fI0 at h
  split at h
  · rename_i i j
    exact ⟨i, j, px, py, q (.pv (.v (g i j))) _ _ _ r.g0 rfl h⟩
  · exact h.elim
theorem ops_I {C : Int → Int → Prop} {g : Int → Int → V} : OpS K (fI C g) (rI C g) := fun {B s x y vx vy} r px py {k Q} q h => by
  unfold fI at h
  split at h
  · rename_i i j
    exact ⟨i, j, px, py, h.1, q (.pv (.v (g i j))) _ _ _ r.g0 rfl h.2⟩
  · exact h.elim
theorem ops_eq : OpS K fEq rEq := fun {B s x y vx vy} r px py {k Q} q h => by
  unfold fEq at h
  split at h
  · rename_i i j
    obtain rfl : vx = i := px
    obtain rfl : vy = j := py
    exact ⟨h.1, q (.pv (.v (.bl _))) _ _ _ r.g0 rfl h.2⟩
  · exact h.elim
theorem ops_ne : OpS K fNe rNe := fun {B s x y vx vy} r px py {k Q} q h => by
  unfold fNe at h
  split at h
  · rename_i i j
    obtain rfl : vx = i := px
    obtain rfl : vy = j := py
    exact ⟨h.1, q (.pv (.v (.bl _))) _ _ _ r.g0 rfl h.2⟩
  · exact h.elim
theorem ops_addS : OpS K fAddS (fun x y H Q => ∃ i j, x = .str i ∧ y = .str j ∧ i.length + j.length ≤ sizeLine ∧ Q (.str (i ++ j)) H) := fun {B s x y vx vy} r px py {k Q} q h => by
  unfold fAddS at h
  split at h
  · rename_i i j
    exact ⟨i, j, px, py, h.1, q (.pv (.v (.str (i ++ j)))) _ _ _ r.g0 rfl h.2⟩
  · exact h.elim
/-- x is None -/
def PV.isNon : PV → Option Bool
  | .v x => some (decide (x = .non))
  | .rel _ => none
  | _ => some false
def fIsN : aR2 := fun _ x y k => match x, y with
  | .pv p, .pv (.v .non) => ∃ b, p.isNon = some b ∧ k (.pv (.v (.bl b)))
  | _, _ => False
def fNotN : aR2 := fun _ x y k => match x, y with
  | .pv p, .pv (.v .non) => ∃ b, p.isNon = some b ∧ k (.pv (.v (.bl (!b))))
  | _, _ => False
theorem isNon_ok {G : Hp} {p : PV} {vx : V} {b : Bool} (px : (rPV K p).P G vx) (e : p.isNon = some b) : decide (vx = V.non) = b := by
  cases p with
  | v y =>
    obtain rfl : vx = y := px
    exact Option.some.inj e
  | tup _ => obtain ⟨a, vs, h, _⟩ := px; rw [h, ← Option.some.inj e]; rfl
  | lst _ => obtain ⟨a, vs, h, _⟩ := px; rw [h, ← Option.some.inj e]; rfl
  | dct _ => obtain ⟨a, vs, h, _⟩ := px; rw [h, ← Option.some.inj e]; rfl
  | ins _ _ => obtain ⟨a, dx, vs, h, _⟩ := px; rw [h, ← Option.some.inj e]; rfl
  | rel _ => cases e
theorem ops_isN : OpS K fIsN (fun x y H Q => y = .non ∧ Q (.bl (decide (x = .non))) H) := fun {B s x y vx vy} r px py {k Q} q h => by
  unfold fIsN at h
  split at h
  · obtain ⟨b, h1, h2⟩ := h
    exact ⟨py, by rw [isNon_ok px h1]; exact q (.pv (.v (.bl b))) _ _ _ r.g0 rfl h2⟩
  · exact h.elim
theorem ops_notN : OpS K fNotN (fun x y H Q => y = .non ∧ Q (.bl (!decide (x = .non))) H) := fun {B s x y vx vy} r px py {k Q} q h => by
  unfold fNotN at h
  split at h
  · obtain ⟨b, h1, h2⟩ := h
    exact ⟨py, by rw [isNon_ok px h1]; exact q (.pv (.v (.bl (!b)))) _ _ _ r.g0 rfl h2⟩
  · exact h.elim
end
end TH
/-! Operations on lists, tuples, dicts, fields. -/
namespace TH
open PySem PySem.Spec PyProof.Rows L2
variable [TC : TabC]
section
variable {K : PySem.W.Frag} {B : Bs} {m : Bool} {a b c : aTE} {ta tb te tc : TE}
/-- a list; a tuple; either -/
def viewL (A : Sto) : AV → Option (List PV)
  | .pv (.lst xs) => some xs
  | .loc n p => match aoAt A n p with
    | some (.lst xs) => some xs
    | some (.pv (.lst xs)) => some xs
    | _ => none
  | _ => none
def viewT (A : Sto) : AV → Option (List PV)
  | .pv (.tup xs) => some xs
  | .loc n p => match aoAt A n p with
    | some (.pv (.tup xs)) => some xs
    | _ => none
  | _ => none
def viewS (A : Sto) : AV → Option (List PV)
  | .pv (.lst xs) => some xs
  | .pv (.tup xs) => some xs
  | .loc n p => match aoAt A n p with
    | some (.lst xs) => some xs
    | some (.pv (.lst xs)) => some xs
    | some (.pv (.tup xs)) => some xs
    | _ => none
  | _ => none
theorem lst_at {G H : Hp} {xs : List PV} {v : V} (le : Le G H) (h : (rPV K (.lst xs)).P G v) : ∃ a vs, v = .ref a ∧ H a = some (.lst vs) ∧ Al G (rPs K xs) vs := by
  obtain ⟨a, vs, h1, h2, h3⟩ := h
  exact ⟨a, vs, h1, le.at h2 nf_lst (fun z => z), h3⟩
theorem tup_at {G H : Hp} {xs : List PV} {v : V} (le : Le G H) (h : (rPV K (.tup xs)).P G v) : ∃ a vs, v = .ref a ∧ SqT K H a vs ∧ Al G (rPs K xs) vs := by
  obtain ⟨a, vs, h1, h2, h3⟩ := h
  exact ⟨a, vs, h1, le.seqT h2, h3⟩
theorem viewL_ok {s : Cs} {x : AV} {v : V} {xs : List PV} (r : Rep K B s) (px : avR K s x v) (e : viewL s.A x = some xs) : ∃ a vs, v = .ref a ∧ s.H a = some (.lst vs) ∧ Al s.G (rPs K xs) vs := by
  unfold viewL at e
  split at e
  · cases e
    exact lst_at r.le px
  · rename_i n p
    split at e
    · rename_i ea
      cases e
      obtain ⟨fp, ⟨a, vs, h1, h2, h3, h4⟩, _⟩ := r.sub px ea
      exact ⟨a, vs, h1, h3, h4⟩
    · rename_i ea
      cases e
      obtain ⟨fp, ⟨h1, h2⟩, _⟩ := r.sub px ea
      exact lst_at r.le h2
    · cases e
  · cases e
theorem viewT_ok {s : Cs} {x : AV} {v : V} {xs : List PV} (r : Rep K B s) (px : avR K s x v) (e : viewT s.A x = some xs) : ∃ a vs, v = .ref a ∧ SqT K s.H a vs ∧ Al s.G (rPs K xs) vs := by
  unfold viewT at e
  split at e
  · cases e
    exact tup_at r.le px
  · rename_i n p
    split at e
    · rename_i ea
      cases e
      obtain ⟨fp, ⟨h1, h2⟩, _⟩ := r.sub px ea
      exact tup_at r.le h2
    · cases e
  · cases e
theorem viewS_ok {s : Cs} {x : AV} {v : V} {xs : List PV} (r : Rep K B s) (px : avR K s x v) (e : viewS s.A x = some xs) : ∃ a vs, v = .ref a ∧ (SqL K s.H a vs ∨ SqT K s.H a vs) ∧ Al s.G (rPs K xs) vs := by
  have fl : viewL s.A x = some xs → ∃ a vs, v = .ref a ∧ (SqL K s.H a vs ∨ SqT K s.H a vs) ∧ Al s.G (rPs K xs) vs := fun e => by
    obtain ⟨a, vs, h1, h2, h3⟩ := viewL_ok r px e
    exact ⟨a, vs, h1, .inl (.of h2), h3⟩
  have ft : viewT s.A x = some xs → ∃ a vs, v = .ref a ∧ (SqL K s.H a vs ∨ SqT K s.H a vs) ∧ Al s.G (rPs K xs) vs := fun e => by
    obtain ⟨a, vs, h1, h2, h3⟩ := viewT_ok r px e
    exact ⟨a, vs, h1, .inr h2, h3⟩
  unfold viewS at e
  split at e
  · cases e; exact fl rfl
  · cases e; exact ft rfl
  · rename_i n p
    split at e
    · rename_i ea; cases e; exact fl (by simp only [viewL, ea])
    · rename_i ea; cases e; exact fl (by simp only [viewL, ea])
    · rename_i ea; cases e; exact ft (by simp only [viewT, ea])
    · cases e
  · cases e
theorem al_at {G : Hp} {xs : List PV} {vs : List V} {i : Int} {p : PV} (al : Al G (rPs K xs) vs) (e : atI xs i = some p) : ∃ v, atI vs i = some v ∧ (rPV K p).P G v := by
  have hl : vs.length = xs.length := by rw [← al.length, rPs_len]
  unfold atI at e ⊢
  rw [hl]
  cases c : ixN xs.length i with
  | none => rw [c] at e; cases e
  | some j =>
    rw [c] at e
    have e : xs[j]? = some p := e
    exact al.get (by rw [rPs_map, List.getElem?_map, e]; rfl)
/-- xs[i] -/
def fIxL : aR2 := fun A x y k => match y with
  | .pv (.v (.int i)) => ∃ xs p, viewL A x = some xs ∧ atI xs i = some p ∧ k (.pv p)
  | _ => False
def fIxT : aR2 := fun A x y k => match y with
  | .pv (.v (.int i)) => ∃ xs p, viewT A x = some xs ∧ atI xs i = some p ∧ k (.pv p)
  | _ => False
def fIxS : aR2 := fun _ x y k => match x, y with
  | .pv (.v (.str z)), .pv (.v (.int i)) => z.length ≤ sizeLine ∧ ∃ c, atI z.cps.toList i = some c ∧ k (.pv (.v (.str ⟨#[c]⟩)))
  | _, _ => False
theorem ops_ixL : OpS K fIxL (rIxL K) := fun {B s x y vx vy} r px py {k Q} q h => by
  unfold fIxL at h
  split at h
  · rename_i i
    obtain ⟨xs, p, h1, h2, h3⟩ := h
    obtain ⟨a, vs, e1, e2, e3⟩ := viewL_ok r px h1
    obtain ⟨v, e4, e5⟩ := al_at e3 h2
    exact ⟨a, vs, i, v, e1, py, .of e2, e4, q (.pv p) _ _ _ r.g0 e5 h3⟩
  · exact h.elim
theorem ops_ixT : OpS K fIxT (rIxT K) := fun {B s x y vx vy} r px py {k Q} q h => by
  unfold fIxT at h
  split at h
  · rename_i i
    obtain ⟨xs, p, h1, h2, h3⟩ := h
    obtain ⟨a, vs, e1, e2, e3⟩ := viewT_ok r px h1
    obtain ⟨v, e4, e5⟩ := al_at e3 h2
    exact ⟨a, vs, i, v, e1, py, e2, e4, q (.pv p) _ _ _ r.g0 e5 h3⟩
  · exact h.elim
theorem ops_ixS : OpS K fIxS rIxS := fun {B s x y vx vy} r px py {k Q} q h => by
  unfold fIxS at h
  split at h
  · rename_i z i
    obtain ⟨h1, c, h2, h3⟩ := h
    exact ⟨z, i, c, px, py, h1, h2, q (.pv (.v (.str ⟨#[c]⟩))) _ _ _ r.g0 rfl h3⟩
  · exact h.elim
/-- x in xs, of plain values -/
def PV.val : PV → Option V
  | .v x => some x
  | _ => none
def vals : List PV → Option (List V)
  | [] => some []
  | .v x :: t => (vals t).map (x :: ·)
  | _ :: _ => none
theorem vals_map {α : Type} (f : α → V) : ∀ xs : List α, vals (xs.map fun x => .v (f x)) = some (xs.map f)
  | [] => rfl
  | x :: t => by
    show (vals (t.map fun x => .v (f x))).map (f x :: ·) = _
    rw [vals_map f t]
    rfl
theorem vals_al {G : Hp} : ∀ {xs : List PV} {vs ws : List V}, Al G (rPs K xs) vs → vals xs = some ws → vs = ws
  | [], _, _, .nil, e => by cases e; rfl
  | .v x :: t, _, ws, .cons h al, e => by
    obtain ⟨us, e1, e2⟩ := Option.map_eq_some_iff.mp (show (vals t).map (x :: ·) = some ws from e)
    subst e2
    have h : _ = x := h
    rw [h, vals_al al e1]
def fIn (neg : Bool) : aR2 := fun A x y k => match x with
  | .pv (.v v) => ∃ xs vs, viewS A y = some xs ∧ vals xs = some vs ∧ flatV v = true ∧ vs.all flatV = true ∧ k (.pv (.v (.bl (if neg then !inV v vs else inV v vs))))
  | _ => False
theorem ops_in {neg : Bool} : OpS K (fIn neg) (rIn K neg) := fun {B s x y vx vy} r px py {k Q} q h => by
  unfold fIn at h
  split at h
  · rename_i v
    obtain ⟨xs, vs, h1, h2, h3, h4, h5⟩ := h
    obtain ⟨a, ws, e1, e2, e3⟩ := viewS_ok r py h1
    obtain rfl : ws = vs := vals_al e3 h2
    obtain rfl : vx = v := px
    exact ⟨a, ws, e1, e2, h3, h4, q (.pv (.v (.bl _))) _ _ _ r.g0 rfl h5⟩
  · exact h.elim
def fSign (neg : Bool) : aR2 := fun _ x y k => match y with
  | .pv (.v (.str z)) => ∃ c : Nat, x = .pv (.v (.str ⟨#[c]⟩)) ∧ k (.pv (.v (.bl (if neg then !decide (c ∈ z.cps.toList) else decide (c ∈ z.cps.toList)))))
  | _ => False
theorem ops_sign : OpS K (fSign false) (fun x y H Q => ∃ (c : Nat) (z : Str), x = .str ⟨#[c]⟩ ∧ y = .str z ∧ Q (.bl (decide (c ∈ z.cps.toList))) H) := fun {B s x y vx vy} r px py {k Q} q h => by
  unfold fSign at h
  split at h
  · rename_i z
    obtain ⟨c, rfl, h2⟩ := h
    exact ⟨c, z, px, py, q (.pv (.v (.bl _))) _ _ _ r.g0 rfl h2⟩
  · exact h.elim
/-! ### len, list, tuple, all, any -/
def fLen : aR1 := fun A x k => ∃ xs, viewS A x = some xs ∧ k (.pv (.v (.int xs.length)))
theorem uns_len : UnC K fLen (fun xs H Q => ∃ p ys, xs = [.ref p] ∧ (SqL K H p ys ∨ SqT K H p ys) ∧ Q (.int ys.length) H) := fun {B s x vx} r px {k Q} q h => by
  obtain ⟨xs, h1, h2⟩ := h
  obtain ⟨a, ws, e1, e2, e3⟩ := viewS_ok r px h1
  have hl : ws.length = xs.length := by rw [← e3.length, rPs_len]
  exact ⟨a, ws, by rw [e1], e2, by rw [hl]; exact q (.pv (.v (.int xs.length))) _ _ _ r.g0 rfl h2⟩
def fLenS : aR1 := fun _ x k => match x with
  | .pv (.v (.str z)) => z.length ≤ sizeLine ∧ k (.pv (.v (.int z.length)))
  | _ => False
theorem uns_lenS : UnC K fLenS (fun xs H Q => ∃ z, xs = [.str z] ∧ z.length ≤ sizeLine ∧ Q (.int z.length) H) := fun {B s x vx} r px {k Q} q h => by
  unfold fLenS at h
  split at h
  · rename_i z
    obtain rfl : vx = .str z := px
    exact ⟨z, rfl, h.1, q (.pv (.v (.int z.length))) _ _ _ r.g0 rfl h.2⟩
  · exact h.elim
def fList : aR1N := fun A x k => ∃ xs, viewS A x = some xs ∧ k (.lst xs)
theorem newH_lst {s : Cs} (r : Rep K B s) {p : Addr} {vs : List V} {xs : List PV} (hp : s.H p = none) (al : Al s.G (rPs K xs) vs) : NewH K s s.G (upd s.H p (.lst vs)) (.lst xs) (.ref p) [p] :=
  ⟨Gr.own r.le hp, ⟨p, vs, rfl, rfl, upd_same, al⟩, by simp, fun b hb => by rw [List.mem_singleton.mp hb]; exact hp, fun b hb => by rw [List.mem_singleton.mp hb]; exact r.le.free hp⟩
theorem uns_list : UnCN K fList (fun xs H Q => ∃ p ys, xs = [.ref p] ∧ (SqL K H p ys ∨ SqT K H p ys) ∧ ∀ l, H l = none → Q (.ref l) (upd H l (.lst ys))) := fun {B s x vx} r px {k Q} q h => by
  obtain ⟨xs, h1, h2⟩ := h
  obtain ⟨a, ws, e1, e2, e3⟩ := viewS_ok r px h1
  exact ⟨a, ws, by rw [e1], e2, fun l hl => q _ _ _ _ _ (newH_lst r hl e3) h2⟩
def fTuple : aR1 := fun A x k => ∃ xs, viewS A x = some xs ∧ k (.pv (.tup xs))
theorem uns_tuple : UnC K fTuple (fun xs H Q => ∃ p ys, xs = [.ref p] ∧ ((SqL K H p ys ∧ ∀ l, H l = none → Q (.ref l) (upd H l (.tup ys))) ∨ (SqT K H p ys ∧ Q (.ref p) H))) := fun {B s x vx} r px {k Q} q h => by
  obtain ⟨xs, h1, h2⟩ := h
  have fl : viewL s.A x = some xs → ∃ p ys, [vx] = [.ref p] ∧ ((SqL K s.H p ys ∧ ∀ l, s.H l = none → Q (.ref l) (upd s.H l (.tup ys))) ∨ (SqT K s.H p ys ∧ Q (.ref p) s.H)) := fun e => by
    obtain ⟨a, ws, e1, e2, e3⟩ := viewL_ok r px e
    refine ⟨a, ws, by rw [e1], .inl ⟨.of e2, fun l hl => ?_⟩⟩
    have c := Gr.new (W := []) r.le (o := .tup ws) hl
    exact q (.pv (.tup xs)) _ _ _ c ⟨l, ws, rfl, .of upd_same, e3.mono c.gg⟩ h2
  have tt : ∀ {v : V}, (rPV K (.tup xs)).P s.G v → vx = v → ∃ p ys, [vx] = [.ref p] ∧ ((SqL K s.H p ys ∧ ∀ l, s.H l = none → Q (.ref l) (upd s.H l (.tup ys))) ∨ (SqT K s.H p ys ∧ Q (.ref p) s.H)) := fun {v} hv e => by
    obtain ⟨a, vs, z1, z2, z3⟩ := hv
    refine ⟨a, vs, by rw [e, z1], .inr ⟨r.le.seqT z2, ?_⟩⟩
    exact q (.pv (.tup xs)) _ _ _ r.g0 ⟨a, vs, rfl, z2, z3⟩ h2
  unfold viewS at h1
  split at h1
  · cases h1; exact fl rfl
  · cases h1; exact tt px rfl
  · rename_i n p
    split at h1
    · rename_i ea; cases h1; exact fl (by simp only [viewL, ea])
    · rename_i ea; cases h1; exact fl (by simp only [viewL, ea])
    · rename_i ea
      cases h1
      obtain ⟨fp, ⟨_, h3⟩, _⟩ := r.sub px ea
      exact tt h3 rfl
    · cases h1
  · cases h1
def bools : List PV → Option (List Bool)
  | [] => some []
  | .v (.bl b) :: t => (bools t).map (b :: ·)
  | _ :: _ => none
theorem bools_map {α : Type} (f : α → Bool) : ∀ xs : List α, bools (xs.map fun x => .v (.bl (f x))) = some (xs.map f)
  | [] => rfl
  | x :: t => by
    show (bools (t.map fun x => .v (.bl (f x)))).map (f x :: ·) = _
    rw [bools_map f t]
    rfl
theorem bools_al {G : Hp} : ∀ {xs : List PV} {vs : List V} {bs : List Bool}, Al G (rPs K xs) vs → bools xs = some bs → vs = bs.map V.bl
  | [], _, _, .nil, e => by cases e; rfl
  | .v (.bl b) :: t, _, ws, .cons h al, e => by
    obtain ⟨us, e1, e2⟩ := Option.map_eq_some_iff.mp (show (bools t).map (b :: ·) = some ws from e)
    subst e2
    have h : _ = V.bl b := h
    rw [h, bools_al al e1]
    rfl
def fAll : aR1 := fun A x k => ∃ xs bs, viewL A x = some xs ∧ bools xs = some bs ∧ k (.pv (.v (.bl (bs.all id))))
def fAny : aR1 := fun A x k => ∃ xs bs, viewL A x = some xs ∧ bools xs = some bs ∧ k (.pv (.v (.bl (bs.any id))))
theorem uns_all : UnC K fAll (rAll K) := fun {B s x vx} r px {k Q} q h => by
  obtain ⟨xs, bs, h1, h2, h3⟩ := h
  obtain ⟨a, ws, e1, e2, e3⟩ := viewL_ok r px h1
  rw [bools_al e3 h2] at e2
  exact ⟨a, bs, by rw [e1], .of e2, q (.pv (.v (.bl _))) _ _ _ r.g0 rfl h3⟩
theorem uns_any : UnC K fAny (L2.rAny K) := fun {B s x vx} r px {k Q} q h => by
  obtain ⟨xs, bs, h1, h2, h3⟩ := h
  obtain ⟨a, ws, e1, e2, e3⟩ := viewL_ok r px h1
  rw [bools_al e3 h2] at e2
  exact ⟨a, bs, by rw [e1], .of e2, q (.pv (.v (.bl _))) _ _ _ r.g0 rfl h3⟩
def fInt : aR1 := fun _ x k => match x with
  | .pv (.v (.int i)) => k (.pv (.v (.int i)))
  | .pv (.v (.bl b)) => k (.pv (.v (.int (if b then 1 else 0))))
  | _ => False
theorem uns_int : UnC K fInt (fun xs H Q => (∃ i, xs = [.int i] ∧ Q (.int i) H) ∨ ∃ k, xs = [.bl k] ∧ Q (.int (if k then 1 else 0)) H) := fun {B s x vx} r px {k Q} q h => by
  unfold fInt at h
  split at h
  · rename_i i
    obtain rfl : vx = .int i := px
    exact .inl ⟨i, rfl, q (.pv (.v (.int i))) _ _ _ r.g0 rfl h⟩
  · rename_i b
    obtain rfl : vx = .bl b := px
    exact .inr ⟨b, rfl, q (.pv (.v (.int (if b then 1 else 0)))) _ _ _ r.g0 rfl h⟩
  · exact h.elim
def fMax2 : aR2 := fun _ x y k => match x, y with
  | .pv (.v (.int i)), .pv (.v (.int j)) => k (.pv (.v (.int (if j > i then j else i))))
  | _, _ => False
/-! ### + and * of lists, + of tuples -/
def fCat : aR2N := fun A x y k => ∃ xs ys, viewL A x = some xs ∧ viewL A y = some ys ∧ xs.length + ys.length ≤ 100000 ∧ k (.lst (xs ++ ys))
theorem opn_cat : OpN K fCat rCat := fun {B s x y vx vy} r px py {k Q} q h => by
  obtain ⟨xs, ys, h1, h2, h3, h4⟩ := h
  obtain ⟨a, vs, e1, e2, e3⟩ := viewL_ok r px h1
  obtain ⟨b, ws, f1, f2, f3⟩ := viewL_ok r py h2
  refine ⟨a, b, vs, ws, e1, f1, e2, f2, by rw [← e3.length, ← f3.length, rPs_len, rPs_len]; exact Nat.le_trans h3 (by decide), fun p hp => q _ _ _ _ _ (newH_lst r hp ?_) h4⟩
  rw [rPs_app]
  exact e3.append f3
def fRep : aR2N := fun A x y k => match y with
  | .pv (.v (.int i)) => ∃ xs, viewL A x = some xs ∧ 0 ≤ i ∧ i ≤ 1000 ∧ xs.length * i.toNat ≤ 100000 ∧ k (.lst (List.replicate i.toNat xs).flatten)
  | _ => False
theorem rep_al {G : Hp} {rs : List Rl} {vs : List V} (al : Al G rs vs) : ∀ n : Nat, Al G (List.replicate n rs).flatten (List.replicate n vs).flatten
  | 0 => .nil
  | n + 1 => by
    rw [List.replicate_succ, List.replicate_succ, List.flatten_cons, List.flatten_cons]
    exact al.append (rep_al al n)
theorem rPs_rep (K : PySem.W.Frag) (xs : List PV) : ∀ n : Nat, rPs K (List.replicate n xs).flatten = (List.replicate n (rPs K xs)).flatten
  | 0 => rfl
  | n + 1 => by
    rw [List.replicate_succ, List.replicate_succ, List.flatten_cons, List.flatten_cons, rPs_app, rPs_rep K xs n]
theorem opn_rep : OpN K fRep rRep := fun {B s x y vx vy} r px py {k Q} q h => by
  unfold fRep at h
  split at h
  · rename_i i
    obtain ⟨xs, h1, h2, h3, h4, h5⟩ := h
    obtain ⟨a, vs, e1, e2, e3⟩ := viewL_ok r px h1
    refine ⟨a, i, vs, e1, py, e2, by omega, by omega, by rw [← e3.length, rPs_len]; exact Nat.le_trans h4 (by decide), fun p hp => q _ _ _ _ _ (newH_lst r hp ?_) h5⟩
    rw [rPs_rep]
    exact rep_al e3 _
  · exact h.elim
def fCatT : aR2 := fun A x y k => ∃ xs ys, viewT A x = some xs ∧ viewT A y = some ys ∧ xs.length + ys.length ≤ 100000 ∧ k (.pv (.tup (xs ++ ys)))
theorem ops_catT : OpS K fCatT (rCatA K) := fun {B s x y vx vy} r px py {k Q} q h => by
  obtain ⟨xs, ys, h1, h2, h3, h4⟩ := h
  have get : ∀ {x : AV} {vx : V} {xs : List PV}, avR K s x vx → viewT s.A x = some xs → ∃ a vs, vx = .ref a ∧ SqT K s.G a vs ∧ Al s.G (rPs K xs) vs := fun {x vx xs} px e => by
    unfold viewT at e
    split at e
    · cases e; exact px
    · split at e
      · rename_i ea
        cases e
        obtain ⟨fp, ⟨_, h⟩, _⟩ := r.sub px ea
        exact h
      · cases e
    · cases e
  obtain ⟨a, vs, e1, e2, e3⟩ := get px h1
  obtain ⟨b, ws, f1, f2, f3⟩ := get py h2
  have al : Al s.G (rPs K (xs ++ ys)) (vs ++ ws) := by rw [rPs_app]; exact e3.append f3
  refine ⟨a, b, vs, ws, e1, f1, r.le.seqT e2, r.le.seqT f2, by rw [← e3.length, ← f3.length, rPs_len, rPs_len]; exact Nat.le_trans h3 (by decide), fun z => ?_, fun z z2 => ?_, fun z z2 p hp => ?_⟩
  · subst z
    exact q (.pv (.tup (xs ++ ys))) _ _ _ r.g0 ⟨b, ws, rfl, f2, al⟩ h4
  · subst z2
    rw [List.append_nil] at al
    exact q (.pv (.tup (xs ++ ys))) _ _ _ r.g0 ⟨a, vs, rfl, e2, al⟩ h4
  · have c := Gr.new (W := []) r.le (o := .tup (vs ++ ws)) hp
    exact q (.pv (.tup (xs ++ ys))) _ _ _ c ⟨p, _, rfl, .of upd_same, al.mono c.gg⟩ h4
/-! ### fields -/
def aFldF (f : Str) : aR1 := fun A x k => match x with
  | .pv (.ins _ fs) => ∃ p, fs.lookup f = some p ∧ k (.pv p)
  | .loc n p => ∃ o, aoAt A n (p ++ [f]) = some o ∧ match o with
    | .pv q => k (.pv q)
    | _ => k (.loc n (p ++ [f]))
  | _ => False
theorem adr_snoc {H : Hp} {f : Str} : ∀ {p : List Str} {r v w : V} {a C dx : Addr} {fs : List (Str × V)}, adr H r p v → v = .ref a → H a = some (.ins C dx fs) → fs.lookup f = some w → adr H r (p ++ [f]) w
  | [], r, v, w, a, C, dx, fs, h, e, e2, e3 => by
    have h : v = r := h
    exact ⟨a, C, dx, fs, w, by rw [← h, e], e2, e3, rfl⟩
  | g :: p, r, v, w, a, C, dx, fs, ⟨b, D, dy, gs, u, h1, h2, h3, h4⟩, e, e2, e3 => ⟨b, D, dy, gs, u, h1, h2, h3, adr_snoc h4 e e2 e3⟩
theorem sub_snoc {f : Str} : ∀ {p : List Str} {o u : AO}, aoSub (p ++ [f]) o = some u → ∃ C fs, aoSub p o = some (.ins C fs) ∧ fs.lookup f = some u
  | [], .ins C fs, u, h => by
    obtain ⟨o1, h1, h2⟩ := Option.bind_eq_some_iff.mp (show (fs.lookup f).bind (aoSub []) = some u from h)
    cases h2
    exact ⟨C, fs, rfl, h1⟩
  | g :: p, .ins C fs, u, h => by
    obtain ⟨o1, h1, h2⟩ := Option.bind_eq_some_iff.mp (show (fs.lookup g).bind (aoSub (p ++ [f])) = some u from h)
    obtain ⟨D, gs, e1, e2⟩ := sub_snoc h2
    exact ⟨D, gs, by show (fs.lookup g).bind (aoSub p) = _; rw [h1]; exact e1, e2⟩
  | [], .pv _, u, h => by cases h
  | [], .lst _, u, h => by cases h
  | [], .dK _, u, h => by cases h
  | [], .res _, u, h => by cases h
  | _ :: _, .pv _, u, h => by cases h
  | _ :: _, .lst _, u, h => by cases h
  | _ :: _, .dK _, u, h => by cases h
  | _ :: _, .res _, u, h => by cases h
theorem at_snoc {A : Sto} {n : Nat} {p : List Str} {f : Str} {u : AO} (h : aoAt A n (p ++ [f]) = some u) : ∃ C fs, aoAt A n p = some (.ins C fs) ∧ fs.lookup f = some u := by
  obtain ⟨o, h1, h2⟩ := Option.bind_eq_some_iff.mp h
  obtain ⟨C, fs, e1, e2⟩ := sub_snoc h2
  exact ⟨C, fs, by unfold aoAt; rw [h1]; exact e1, e2⟩
/-- the class of a thing -/
theorem fal_get {G : Hp} {f : Str} {fs : List (Str × PV)} {vs : List (Str × V)} {p : PV} (h : FAl G (rPV.rFs K fs) vs) (e : fs.lookup f = some p) : ∃ v, vs.lookup f = some v ∧ (rPV K p).P G v := by
  refine h.get ?_
  clear h
  rw [rFs_map]
  induction fs with
  | nil => cases e
  | cons x t ih =>
    rw [List.lookup_cons] at e
    rw [List.map_cons, List.lookup_cons]
    cases c : f == x.1 with
    | true => rw [c] at e; cases e; rfl
    | false =>
      rw [c] at e
      exact ih e
/-- the attributes are none of the class's: hC of each class that is met -/
structure ClsF (K : PySem.W.Frag) (f : Str) (C : Addr) : Prop where
  c : Cls K C
  n : NoAttr K C f
/-- the class of what is read -/
def AV.clsAt (A : Sto) : AV → Option Addr
  | .pv (.ins C _) => some C
  | .loc n p => match aoAt A n p with
    | some (.ins C _) => some C
    | _ => none
  | _ => none
def aFld (C : Addr) (a : aTE) (f : Str) : aTE := fun sa A k => a sa A fun x A1 => x.clsAt A1 = some C ∧ aFldF f A1 x fun z => k z A1
theorem sim_fld {f : Str} {C : Addr} (hc : Cls K C) (hn : NoAttr K C f) (ha : SimE K m a ta) : SimE K m (aFld C a f) (tFld K ta f) := fun {B s sa σ} rp g {Kc Q} q hh =>
  ha rp g (fun x vx s1 e1 px k => by
    obtain ⟨hcl, k⟩ := k
    unfold aFldF at k
    split at k
    · rename_i D fs
      cases hcl
      obtain ⟨p, k1, k2⟩ := k
      obtain ⟨d, dx, vs, h1, h2, h3⟩ := px
      obtain ⟨v, h4, h5⟩ := fal_get h3 k1
      exact ⟨d, C, dx, vs, v, h1, e1.rep.le.ins h2, hc, hn, h4, q (.pv p) v s1 e1 h5 k2⟩
    · rename_i n p
      obtain ⟨o, k1, k2⟩ := k
      obtain ⟨D, fs, z1, z2⟩ := at_snoc k1
      simp only [AV.clsAt, z1] at hcl
      cases hcl
      obtain ⟨fp, ⟨d, dx, vs, fq, h1, h2, h3, h4⟩, _⟩ := e1.rep.sub px z1
      obtain ⟨w, pre, fp', post, y1, y2, y3, _⟩ := foR_get h4 z2
      obtain ⟨r, p1, p2⟩ := px
      have pw : avR K s1 (.loc n (p ++ [f])) w := ⟨r, p1, adr_snoc p2 h1 h3 y1⟩
      refine ⟨d, C, dx, vs, w, h1, h3, hc, hn, y1, ?_⟩
      match o, k2, y3 with
      | .pv p, k2, y3 => exact q (.pv p) w s1 e1 y3.2 k2
      | .lst _, k2, y3 => exact q (.loc n (p ++ [f])) w s1 e1 pw k2
      | .dK _, k2, y3 => exact q (.loc n (p ++ [f])) w s1 e1 pw k2
      | .ins _ _, k2, y3 => exact q (.loc n (p ++ [f])) w s1 e1 pw k2
      | .res _, k2, y3 => exact q (.loc n (p ++ [f])) w s1 e1 pw k2
    · exact k.elim) hh
end
end TH
/-! Tests, statements, loops, comprehensions. -/
namespace TH
open PySem PySem.Spec PyProof.Rows L2
variable [TC : TabC]
section
variable {K : PySem.W.Frag} {m : Bool} {a b c : aTE} {ta tb te tc : TE} {ca cb : aTT} {tt tu : TT} {n0 : Nat}
/-! ### tests -/
theorem sim_test (ha : SimE K m a ta) : SimT K m (aTest a) (tTest ta) := fun {B s sa σ} rp g {Kc Q} q hh =>
  ha rp g (fun x vx s1 e1 px k => by
    split at k
    · rename_i b
      exact ⟨b, px, q b s1 e1 k⟩
    · exact k.elim) hh
theorem sim_B (ha : SimE K m a ta) : SimT K m (aTest a) (tB ta) := fun {B s sa σ} rp g {Kc Q} q hh =>
  ha rp g (fun x vx s1 e1 px k => by
    split at k
    · rename_i b
      exact ⟨b, px, q b s1 e1 k⟩
    · exact k.elim) hh
theorem sim_and (ha : SimT K m ca tt) (hb : SimT K m cb tu) : SimT K m (aAnd ca cb) (tAnd tt tu) := fun {B s sa σ} rp g {Kc Q} q hh =>
  ha rp g (fun x s1 e1 k => by
    cases x with
    | true => exact hb e1.rep (g.stp e1) (fun y s2 e2 k => q y s2 (e1.trans e2) k) k
    | false => exact q false s1 e1 k) hh
theorem sim_or (ha : SimT K m ca tt) (hb : SimT K m cb tu) : SimT K m (aOr ca cb) (tOr tt tu) := fun {B s sa σ} rp g {Kc Q} q hh =>
  ha rp g (fun x s1 e1 k => by
    cases x with
    | false => exact hb e1.rep (g.stp e1) (fun y s2 e2 k => q y s2 (e1.trans e2) k) k
    | true => exact q true s1 e1 k) hh
theorem sim_not (ha : SimT K m ca tt) : SimT K m (aNot ca) (tNot tt) := fun {B s sa σ} rp g {Kc Q} q hh =>
  ha rp g (fun x s1 e1 k => q (!x) s1 e1 k) hh
theorem sim_yes : SimT K m aYes tYes := fun {B s sa σ} rp g {Kc Q} q hh => q true s (.refl rp) hh
theorem sim_andV (ha : SimE K m a ta) (hb : SimE K m b tb) : SimE K m (aAndV a b) (tAndV ta tb) := fun {B s sa σ} rp g {Kc Q} q hh =>
  ha rp g (fun x vx s1 e1 px k => by
    split at k
    · rename_i c
      refine ⟨c, px, ?_⟩
      cases c with
      | true => exact hb e1.rep (g.stp e1) (fun y vy s2 e2 py k => q y vy s2 (e1.trans e2) py k) k
      | false => exact q (.pv (.v (.bl false))) _ s1 e1 rfl k
    · exact k.elim) hh
theorem sim_orV (ha : SimE K m a ta) (hb : SimE K m b tb) : SimE K m (aOrV a b) (tOrV ta tb) := fun {B s sa σ} rp g {Kc Q} q hh =>
  ha rp g (fun x vx s1 e1 px k => by
    split at k
    · rename_i c
      refine ⟨c, px, ?_⟩
      cases c with
      | false => exact hb e1.rep (g.stp e1) (fun y vy s2 e2 py k => q y vy s2 (e1.trans e2) py k) k
      | true => exact q (.pv (.v (.bl true))) _ s1 e1 rfl k
    · exact k.elim) hh
theorem sim_notV (ha : SimE K m a ta) : SimE K m (aNotV a) (tNotV ta) := fun {B s sa σ} rp g {Kc Q} q hh =>
  ha rp g (fun x vx s1 e1 px k => by
    split at k
    · rename_i c
      exact ⟨c, px, q (.pv (.v (.bl (!c)))) _ s1 e1 rfl k⟩
    · exact k.elim) hh
theorem sim_if (hc : SimT K m ca tt) (ha : SimE K m a ta) (hb : SimE K m b tb) : SimE K m (aIf ca a b) (tIf tt ta tb) := fun {B s sa σ} rp g {Kc Q} q hh =>
  hc rp g (fun x s1 e1 k => by
    cases x with
    | true => exact ha e1.rep (g.stp e1) (fun y vy s2 e2 py k => q y vy s2 (e1.trans e2) py k) k
    | false => exact hb e1.rep (g.stp e1) (fun y vy s2 e2 py k => q y vy s2 (e1.trans e2) py k) k) hh
/-! ### statements -/
theorem EndR.grw {B : Bs} {s s' : Cs} {Da : AEnds} {D : Ends} (e : EndR K B s Da D) (g : Grw s s') : EndR K B s' Da D :=
  ⟨fun s1 sa σ r g1 => e.nx s1 sa σ r (g.trans g1), fun s1 av v r g1 => e.rt s1 av v r (g.trans g1), fun s1 sa σ r g1 => e.bk s1 sa σ r (g.trans g1), fun s1 sa σ r g1 => e.ct s1 sa σ r (g.trans g1)⟩
def aNext : aTS := fun D sa A => D.nx sa A
def aSeq (a b : aTS) : aTS := fun D sa A => a { D with nx := b D } sa A
def aAsg (e : aTE) (g : aTG) : aTS := fun D sa A => e sa A fun x A1 => g x sa A1 D.nx
def aAsgN (i : Nat) (e : aTN) : aTS := fun D sa A => e sa A fun o A1 => D.nx (sa.set i (some (.loc A1.length []))) (A1 ++ [o])
def aRet (e : aTE) : aTS := fun D sa A => e sa A D.rt
def aRetN : aTS := fun D _ A => D.rt (.pv (.v .non)) A
def aDrop (e : aTE) : aTS := fun D sa A => e sa A fun _ A1 => D.nx sa A1
def aIfS (c : aTT) (t u : aTS) : aTS := fun D sa A => c sa A fun b A1 => if b = true then t D sa A1 else u D sa A1
def aBreak : aTS := fun D sa A => D.bk sa A
def aCont : aTS := fun D sa A => D.ct sa A
def aNever : aTS := fun _ _ _ => False
/-- a thing that the def made is frozen -/
def aFrz (n0 i : Nat) (u : aTS) : aTS := fun D sa A => ∃ n o p, sa[i]? = some (some (.loc n [])) ∧ n0 ≤ n ∧ A[n]? = some o ∧ o.fz = some p ∧ u D sa (A.set n (.pv p))
variable {s1 s2 : aTS} {t1 t2 : TS}
theorem sim_next : SimS K n0 aNext tNext := fun {B s Da D} h0 e {sa σ} r g h => e.nx s sa σ r (.refl s) g h
theorem sim_brk : SimS K n0 aBreak tBreak := fun {B s Da D} h0 e {sa σ} r g h => e.bk s sa σ r (.refl s) g h
theorem sim_cont : SimS K n0 aCont tCont := fun {B s Da D} h0 e {sa σ} r g h => e.ct s sa σ r (.refl s) g h
theorem sim_never {t : TS} : SimS K n0 aNever t := fun {B s Da D} h0 e {sa σ} r g h => h.elim
theorem sim_seq (h1 : SimS K n0 s1 t1) (h2 : SimS K n0 s2 t2) : SimS K n0 (aSeq s1 s2) (tSeq t1 t2) := fun {B s Da D} h0 e {sa σ} r g h =>
  h1 (Da := { Da with nx := s2 Da }) (D := { D with nx := t2 D }) h0 ⟨fun s1 sa σ r1 g1 q k => h2 h0 (e.grw g1) r1 q k, e.rt, e.bk, e.ct⟩ r g h
theorem sim_asg {g : aTG} {tg : TG} {vs : List Nat} (ha : SimE K false a ta) (hg : SimG K vs g tg) : SimS K n0 (aAsg a g) (tAsg ta tg) := fun {B s Da D} h0 e {sa σ} r gg h =>
  ha r gg (fun x v s1 e1 px k => hg e1.rep (gg.stp e1) px (fun s2 sa' σ' r2 g2 q2 _ k => e.nx s2 sa' σ' r2 (e1.grw.trans g2) q2 k) k) h
theorem sim_asgN {i : Nat} {e' : aTN} (ha : SimN K false e' ta) : SimS K n0 (aAsgN i e') (tAsg ta (gName i)) := fun {B s Da D} h0 e {sa σ} r gg h =>
  ha r gg (fun o v fp s1 e1 n k => by
    have r2 := e1.rep.push n.is n.nd n.off n.out fun b hb => r.back (n.nw b hb)
    have g2 : Grw s1 { s1 with ι := s1.ι ++ [v], φ := fun i => if i = s1.A.length then fp else s1.φ i, A := s1.A ++ [o] } := ⟨Le.refl _, List.prefix_append _ _⟩
    refine e.nx { s1 with ι := s1.ι ++ [v], φ := fun i => if i = s1.A.length then fp else s1.φ i, A := s1.A ++ [o] } _ _ r2 (e1.grw.trans g2) (((gg.stp e1).grw g2).set i (a := .loc s1.A.length []) ?_) k
    show (s1.ι ++ [v])[s1.A.length]? = some v
    rw [← e1.rep.len, List.getElem?_append_right (Nat.le_refl _), Nat.sub_self]
    rfl) h
theorem sim_ret (ha : SimE K false a ta) : SimS K n0 (aRet a) (tRet ta) := fun {B s Da D} h0 e {sa σ} r gg h =>
  ha r gg (fun x v s1 e1 px k => e.rt s1 x v e1.rep e1.grw px k) h
theorem sim_retN : SimS K n0 aRetN tRetN := fun {B s Da D} h0 e {sa σ} r gg h => e.rt s (.pv (.v .non)) _ r (.refl s) rfl h
theorem sim_drop (ha : SimE K false a ta) : SimS K n0 (aDrop a) (tDrop ta) := fun {B s Da D} h0 e {sa σ} r gg h =>
  ha r gg (fun x v s1 e1 px k => e.nx s1 sa σ e1.rep e1.grw (gg.stp e1) k) h
theorem sim_ifS (hc : SimT K false ca tt) (h1 : SimS K n0 s1 t1) (h2 : SimS K n0 s2 t2) : SimS K n0 (aIfS ca s1 s2) (tIfS tt t1 t2) := fun {B s Da D} h0 e {sa σ} r gg h =>
  hc r gg (fun x s' e1 k => by
    cases x with
    | true => exact h1 h0 (e.grw e1.grw) e1.rep (gg.stp e1) k
    | false => exact h2 h0 (e.grw e1.grw) e1.rep (gg.stp e1) k) h
/-- a thing of the def's own is frozen as it stands -/
theorem Rep.fix {B : Bs} {s : Cs} (r : Rep K B s) {n : Nat} {o : AO} {p : PV} (hn : B.ι.length ≤ n) (e : s.A[n]? = some o) (ef : o.fz = some p) : ∃ s' : Cs, Rep K B s' ∧ Grw s s' ∧ s'.A = s.A.set n (.pv p) ∧ s'.H = s.H ∧ s'.ι = s.ι := by
  have hl : n < s.A.length := (List.getElem?_eq_some_iff.mp e).1
  obtain ⟨v, h1, h2⟩ := r.at' n o e
  have nb : ∀ b ∈ s.φ n, B.H b = none := fun b hb => (r.fr n hl b hb).resolve_left fun z => by have := z.1; omega
  have up := le_frzH (ps := s.φ n) r.le
  have tg : ∀ P, TabG s.G s.H P → TabG (frzH (s.φ n) s.G s.H) s.H P := fun P t => t.go up rfl ((frzH_out fun z => by
    obtain ⟨o, e, q⟩ := r.nx hl P z
    exact t.off e q.1 rfl).trans t.1)
  refine ⟨{ s with φ := fun i => if i = n then [] else s.φ i, A := s.A.set n (.pv p), G := frzH (s.φ n) s.G s.H }, ⟨by simp [r.len], fun i u ei => ?_, fun i hi => ?_, fun i j hi hj ne b hb hb' => ?_, fun i hi b hb => ?_, fun i hi b hb => ?_, ⟨r.gr.gg.trans up, frzH_le r.le, r.gr.hhN, r.gr.dm, fun b n1 n2 => ?_, fun P hP n t => tg P (r.gr.tb P hP n t)⟩, r.pre, fun P hP => tg P (r.tabs P hP)⟩, ⟨up, List.prefix_refl _⟩, rfl, rfl, rfl⟩
  · have ei : (s.A.set n (.pv p))[i]? = some u := ei
    rw [List.getElem?_set] at ei
    by_cases c : n = i
    · subst c
      rw [if_pos rfl, if_pos hl] at ei
      cases ei
      refine ⟨v, h1, ?_⟩
      show aoR K _ _ _ _ (if n = n then [] else s.φ n)
      rw [if_pos rfl]
      exact ⟨rfl, fz_ok h2 ef _ (fun _ z => z) r.le⟩
    · rw [if_neg c] at ei
      obtain ⟨w, y1, y2⟩ := r.at' i u ei
      refine ⟨w, y1, ?_⟩
      show aoR K _ _ _ _ (if i = n then [] else s.φ i)
      rw [if_neg (Ne.symm c)]
      exact aoR_frame y2 up fun _ _ => rfl
  · have hi : i < (s.A.set n (.pv p)).length := hi
    rw [List.length_set] at hi
    show (if i = n then [] else s.φ i).Nodup
    by_cases c : i = n
    · rw [if_pos c]; exact List.nodup_nil
    · rw [if_neg c]; exact r.nd i hi
  · have hi : i < (s.A.set n (.pv p)).length := hi
    have hj : j < (s.A.set n (.pv p)).length := hj
    rw [List.length_set] at hi hj
    have hb : b ∈ (if i = n then [] else s.φ i) := hb
    have hb' : b ∈ (if j = n then [] else s.φ j) := hb'
    by_cases c : i = n
    · rw [if_pos c] at hb; cases hb
    · by_cases d : j = n
      · rw [if_pos d] at hb'; cases hb'
      · rw [if_neg c] at hb
        rw [if_neg d] at hb'
        exact r.dj i j hi hj ne b hb hb'
  · have hi : i < (s.A.set n (.pv p)).length := hi
    rw [List.length_set] at hi
    have hb : b ∈ (if i = n then [] else s.φ i) := hb
    show frzH (s.φ n) s.G s.H b = none
    by_cases c : i = n
    · rw [if_pos c] at hb; cases hb
    · rw [if_neg c] at hb
      rw [frzH_out fun z => r.dj i n hi hl c b hb z]
      exact r.out i hi b hb
  · have hi : i < (s.A.set n (.pv p)).length := hi
    rw [List.length_set] at hi
    have hb : b ∈ (if i = n then [] else s.φ i) := hb
    by_cases c : i = n
    · rw [if_pos c] at hb; cases hb
    · rw [if_neg c] at hb; exact r.fr i hi b hb
  · have n2 : frzH (s.φ n) s.G s.H b ≠ none := n2
    by_cases c : b ∈ s.φ n
    · exact nb b c
    · rw [frzH_out c] at n2
      exact r.gr.nw b n1 n2
theorem sim_frz {i : Nat} (h1 : SimS K n0 s1 t1) : SimS K n0 (aFrz n0 i s1) t1 := fun {B s Da D} h0 e {sa σ} r gg h => by
  obtain ⟨n, o, p, e1, e2, e3, e4, k⟩ := h
  obtain ⟨s', r', g', hA, hH, hι⟩ := r.fix (by rw [h0]; exact e2) e3 e4
  rw [← hA] at k
  have := h1 h0 (e.grw g') r' (gg.grw g') k
  rwa [hH] at this
/-! ### targets -/
def aName (i : Nat) : aTG := fun x sa A k => match x with
  | .loc _ (_ :: _) => False
  | _ => k (sa.set i (some x)) A
def aGNil : aTGs := fun xs sa A k => match xs with
  | [] => k sa A
  | _ => False
def aGCons (g : aTG) (u : aTGs) : aTGs := fun xs sa A k => match xs with
  | x :: r => g (.pv x) sa A fun sa' A' => u r sa' A' k
  | [] => False
def aGTup (n : Nat) (u : aTGs) : aTG := fun x sa A k => ∃ xs, viewT A x = some xs ∧ xs.length = n ∧ u xs sa A k
theorem wipe_len : ∀ (vs : List Nat) (σ : L2.St), (wipe σ vs).length = σ.length
  | [], σ => rfl
  | v :: vs, σ => by
    show ((wipe σ vs).set v none).length = _
    rw [List.length_set, wipe_len vs σ]
theorem wipe_set {i : Nat} {x : Option V} : ∀ {vs : List Nat} {σ : L2.St}, i ∈ vs → wipe (σ.set i x) vs = wipe σ vs
  | v :: vs, σ, h => by
    show (wipe (σ.set i x) vs).set v none = (wipe σ vs).set v none
    by_cases c : i ∈ vs
    · rw [wipe_set c]
    · have e : i = v := (List.mem_cons.mp h).resolve_right c
      subst e
      have key : ∀ (vs : List Nat) (σ : L2.St), (wipe (σ.set i x) vs).set i none = (wipe σ vs).set i none := by
        intro vs
        induction vs with
        | nil => intro σ; show (σ.set i x).set i none = σ.set i none; rw [List.set_set]
        | cons u vs ih =>
          intro σ
          show ((wipe (σ.set i x) vs).set u none).set i none = ((wipe σ vs).set u none).set i none
          by_cases d : u = i
          · subst d
            rw [List.set_set, List.set_set, ih]
          · rw [List.set_comm _ _ d, List.set_comm _ _ d, ih]
      exact key vs σ
theorem sim_gname {i : Nat} {vs : List Nat} (hi : i ∈ vs := by decide) : SimG K vs (aName i) (gName i) := fun {B s sa σ av v} r g px {Ka Q} q h => by
  unfold aName at h
  split at h
  · exact h.elim
  · rename_i hx
    refine q s _ _ r (.refl s) (g.set i (px.toS ?_)) (wipe_set hi) h
    unfold AV.stable
    split
    · rename_i n f p
      exact absurd rfl (hx n f p)
    · rfl
theorem sim_gnil {vs : List Nat} : SimGs K vs aGNil gNil := fun {B s sa σ ps xs} r g al {Ka Q} q h => by
  unfold aGNil at h
  split at h
  · cases al
    exact ⟨rfl, q s sa σ r (.refl s) g rfl h⟩
  · exact h.elim
theorem sim_gcons {vs : List Nat} {g : aTG} {tg : TG} {u : aTGs} {tu : TGs} (h1 : SimG K vs g tg) (h2 : SimGs K vs u tu) : SimGs K vs (aGCons g u) (gCons tg tu) := fun {B s sa σ ps xs} r gg al {Ka Q} q h => by
  unfold aGCons at h
  split at h
  · rename_i p ps
    cases al with
    | cons hp ht =>
      refine ⟨_, _, rfl, h1 r gg (av := .pv p) hp (fun s1 sa1 σ1 r1 g1 q1 w1 k => h2 r1 q1 (Al.mono g1.le ht) (fun s2 sa2 σ2 r2 g2 q2 w2 k => q s2 sa2 σ2 r2 (g1.trans g2) q2 (w2.trans w1) k) k) h⟩
  · exact h.elim
theorem sim_gtup {vs : List Nat} {n : Nat} {u : aTGs} {tu : TGs} (h2 : SimGs K vs u tu) : SimG K vs (aGTup n u) (gTup K n tu) := fun {B s sa σ av v} r gg px {Ka Q} q h => by
  obtain ⟨xs, h1, h3, h4⟩ := h
  obtain ⟨a, ws, e1, e2, e3⟩ := viewT_ok r px h1
  exact ⟨a, ws, e1, e2, by rw [← e3.length, rPs_len]; exact h3, h2 r gg e3 q h4⟩
/-! ### loops -/
def aFor (wi : aTI) (g : aTG) (b : aTS) : aTS := fun D sa A => wi sa A fun xs C A1 => ∃ I : Nat → Sg → Sto → Prop, I 0 sa A1 ∧ (∀ i sa A, I i sa A → C A) ∧
  (∀ i x sa A, xs[i]? = some x → I i sa A → g (.pv x) sa A fun sa' A' => b { D with nx := I (i + 1), ct := I (i + 1), bk := D.nx } sa' A') ∧ ∀ sa A, I xs.length sa A → D.nx sa A
theorem sim_for {wi : aTI} {ti : TI} {g : aTG} {tg : TG} {vs : List Nat} (hi : SimI K false false wi ti) (hg : SimG K vs g tg) (hb : SimS K n0 s1 t1) : SimS K n0 (aFor wi g s1) (tFor ti tg t1) := fun {B s Da D} h0 e {sa σ} r gg h =>
  hi r gg (fun xs C J s' e1 wk hC0 k => by
    obtain ⟨I, i0, hC, step, done⟩ := k
    let St : Nat → L2.St → Hp → Prop := fun i σ' H' => ∃ s2 sa2, s2.H = H' ∧ Rep K B s2 ∧ Grw s' s2 ∧ SgR K s2 sa2 σ' ∧ I i sa2 s2.A
    refine ⟨fun i k σ' H' => k = xs.length - i ∧ i ≤ xs.length ∧ St i σ' H', ⟨xs.length, by simp, Nat.zero_le _, s', sa, rfl, e1.rep, .refl _, gg.stp e1, i0⟩, ?_⟩
    rintro i k σ' H' ⟨rfl, hi, s2, sa2, rfl, r2, g2, q2, k2⟩
    have lat : Lat false s' s2 := ⟨g2, fun z => nomatch z⟩
    by_cases hlt : i < xs.length
    · refine .inr ⟨wk.goes i s2 hlt r2 lat (hC _ _ _ k2), fun σ3 H3 => i + 1 ≤ xs.length ∧ St (i + 1) σ3 H3, fun σ3 H3 z => ⟨xs.length - (i + 1), by omega, rfl, z.1, z.2⟩, fun x H'' y => ?_⟩
      have hx : xs[i]? = some xs[i] := by simp [hlt]
      obtain ⟨G', k3, k4⟩ := wk.yields i xs[i] s2 x H'' hx r2 lat (hC _ _ _ k2) y
      have e3 : Stp K B false s2 { s2 with G := G', H := H'' } := .of r2 k3
      have st : ∀ (s4 : Cs) (sa4 : Sg) (σ4 : L2.St), Rep K B s4 → Grw { s2 with G := G', H := H'' } s4 → SgR K s4 sa4 σ4 → I (i + 1) sa4 s4.A → i + 1 ≤ xs.length ∧ St (i + 1) σ4 s4.H := fun s4 sa4 σ4 r4 g4 q4 k4 => ⟨hlt, s4, sa4, rfl, r4, g2.trans (e3.grw.trans g4), q4, k4⟩
      refine hg (av := .pv xs[i]) e3.rep (q2.stp e3) k4 (fun s4 sa4 σ4 r4 g4 q4 _ k5 => ?_) (step i xs[i] sa2 s2.A hx k2)
      refine hb (Da := { Da with nx := I (i + 1), ct := I (i + 1), bk := Da.nx }) (D := { D with nx := fun σ3 H3 => i + 1 ≤ xs.length ∧ St (i + 1) σ3 H3, ct := fun σ3 H3 => i + 1 ≤ xs.length ∧ St (i + 1) σ3 H3, bk := D.nx }) h0 ⟨fun s5 sa5 σ5 r5 g5 q5 k => st s5 sa5 σ5 r5 (g4.trans g5) q5 k, fun s5 av v r5 g5 pv k => e.rt s5 av v r5 (e1.grw.trans (g2.trans (e3.grw.trans (g4.trans g5)))) pv k, fun s5 sa5 σ5 r5 g5 q5 k => e.nx s5 sa5 σ5 r5 (e1.grw.trans (g2.trans (e3.grw.trans (g4.trans g5)))) q5 k, fun s5 sa5 σ5 r5 g5 q5 k => st s5 sa5 σ5 r5 (g4.trans g5) q5 k⟩ r4 q4 k5
    · have e2 : i = xs.length := by omega
      subst e2
      exact .inl ⟨wk.stops s2 r2 lat (hC _ _ _ k2), e.nx s2 sa2 σ' r2 (e1.grw.trans g2) q2 (done _ _ k2)⟩) h
def aWhile (c : aTT) (b : aTS) : aTS := fun D sa A => ∃ I : Nat → Sg → Sto → Prop, (∃ m, I m sa A) ∧ ∀ m sa A, I m sa A → c sa A fun t A1 =>
  if t = true then b { D with nx := fun sa A => ∃ m', m' < m ∧ I m' sa A, ct := fun sa A => ∃ m', m' < m ∧ I m' sa A, bk := D.nx } sa A1 else D.nx sa A1
theorem sim_while (hc : SimT K false ca tt) (hb : SimS K n0 s1 t1) : SimS K n0 (aWhile ca s1) (tWhile tt t1) := fun {B s Da D} h0 e {sa σ} r gg h => by
  obtain ⟨I, ⟨m0, i0⟩, step⟩ := h
  refine ⟨fun k σ' H' => ∃ s2 sa2, s2.H = H' ∧ Rep K B s2 ∧ Grw s s2 ∧ SgR K s2 sa2 σ' ∧ I k sa2 s2.A, ⟨m0, s, sa, rfl, r, .refl _, gg, i0⟩, ?_⟩
  rintro k σ' H' ⟨s2, sa2, rfl, r2, g2, q2, k2⟩
  refine hc r2 q2 (fun t s3 e3 k3 => ?_) (step k sa2 s2.A k2)
  cases t with
  | true =>
    refine ⟨fun σ3 H3 => ∃ k', k' < k ∧ ∃ s4 sa4, s4.H = H3 ∧ Rep K B s4 ∧ Grw s s4 ∧ SgR K s4 sa4 σ3 ∧ I k' sa4 s4.A, fun σ3 H3 z => z, ?_⟩
    have st : ∀ (s4 : Cs) (sa4 : Sg) (σ4 : L2.St), Rep K B s4 → Grw s3 s4 → SgR K s4 sa4 σ4 → (∃ m', m' < k ∧ I m' sa4 s4.A) → ∃ k', k' < k ∧ ∃ s5 sa5, s5.H = s4.H ∧ Rep K B s5 ∧ Grw s s5 ∧ SgR K s5 sa5 σ4 ∧ I k' sa5 s5.A := fun s4 sa4 σ4 r4 g4 q4 ⟨m', h1, h2⟩ => ⟨m', h1, s4, sa4, rfl, r4, g2.trans (e3.grw.trans g4), q4, h2⟩
    exact hb (Da := { Da with nx := fun sa A => ∃ m', m' < k ∧ I m' sa A, ct := fun sa A => ∃ m', m' < k ∧ I m' sa A, bk := Da.nx }) (D := { D with nx := fun σ3 H3 => ∃ k', k' < k ∧ ∃ s4 sa4, s4.H = H3 ∧ Rep K B s4 ∧ Grw s s4 ∧ SgR K s4 sa4 σ3 ∧ I k' sa4 s4.A, ct := fun σ3 H3 => ∃ k', k' < k ∧ ∃ s4 sa4, s4.H = H3 ∧ Rep K B s4 ∧ Grw s s4 ∧ SgR K s4 sa4 σ3 ∧ I k' sa4 s4.A, bk := D.nx }) h0 ⟨st, fun s5 av v r5 g5 pv k => e.rt s5 av v r5 (g2.trans (e3.grw.trans g5)) pv k, fun s5 sa5 σ5 r5 g5 q5 k => e.nx s5 sa5 σ5 r5 (g2.trans (e3.grw.trans g5)) q5 k, st⟩ e3.rep (q2.stp e3) k3
  | false => exact e.nx s3 sa2 σ' e3.rep (g2.trans e3.grw) (q2.stp e3) k3
end
end TH
/-! What is walked; comprehensions; calls; defs. -/
namespace TH
open PySem PySem.Spec PyProof.Rows L2
variable [TC : TabC]
section
variable {K : PySem.W.Frag} {m ml : Bool} {a b c : aTE} {ta tb te tc : TE} {ca cb : aTT} {tt tu : TT} {n0 : Nat}
/-! ### what is walked -/
theorem Lat.refl (s : Cs) : Lat ml s s := ⟨.refl s, fun _ => ⟨rfl, rfl, rfl, fun _ _ z _ => z⟩⟩
theorem walk_lst {B : Bs} {s0 : Cs} {d : Addr} {xs : List PV} {C : Sto → Prop} (at' : ∀ s, Rep K B s → Lat ml s0 s → C s.A → ∃ vs, SqL K s.H d vs ∧ Al s.G (rPs K xs) vs) : WalkA K B ml (Itl K d) s0 xs C where
  goes := fun i s hi r l c => by
    obtain ⟨vs, h1, h2⟩ := at' s r l c
    have hi : i < vs.length := by rw [← h2.length, rPs_len]; exact hi
    exact ⟨vs, vs[i], h1, by simp [hi]⟩
  stops := fun s r l c => by
    obtain ⟨vs, h1, h2⟩ := at' s r l c
    exact ⟨vs, h1, by rw [← h2.length, rPs_len]; exact Nat.le_refl _⟩
  yields := fun i x s v H' hx r l c y => by
    obtain ⟨vs, h1, h2⟩ := at' s r l c
    obtain ⟨rfl, y⟩ := y
    obtain ⟨w, h3, h4⟩ := h2.get (r := rPV K x) (by rw [rPs_map, List.getElem?_map, hx]; rfl)
    have y := y vs h1
    rw [h3] at y
    cases y
    exact ⟨s.G, r.g0, h4⟩
theorem walk_tup {B : Bs} {s0 : Cs} {d : Addr} {xs : List PV} {C : Sto → Prop} (at' : ∀ s, Rep K B s → Lat ml s0 s → C s.A → ∃ vs, SqT K s.H d vs ∧ Al s.G (rPs K xs) vs) : WalkA K B ml (Itt K d) s0 xs C where
  goes := fun i s hi r l c => by
    obtain ⟨vs, h1, h2⟩ := at' s r l c
    have hi : i < vs.length := by rw [← h2.length, rPs_len]; exact hi
    exact ⟨vs, vs[i], h1, by simp [hi]⟩
  stops := fun s r l c => by
    obtain ⟨vs, h1, h2⟩ := at' s r l c
    exact ⟨vs, h1, by rw [← h2.length, rPs_len]; exact Nat.le_refl _⟩
  yields := fun i x s v H' hx r l c y => by
    obtain ⟨vs, h1, h2⟩ := at' s r l c
    obtain ⟨rfl, y⟩ := y
    obtain ⟨w, h3, h4⟩ := h2.get (r := rPV K x) (by rw [rPs_map, List.getElem?_map, hx]; rfl)
    have y := y vs h1
    rw [h3] at y
    cases y
    exact ⟨s.G, r.g0, h4⟩
/-- what is frozen, by a value or a place -/
def viewF (A : Sto) : AV → Option PV
  | .pv p => some p
  | .loc n p => match aoAt A n p with
    | some (.pv q) => some q
    | _ => none
theorem viewF_ok {B : Bs} {s : Cs} {x : AV} {v : V} {p : PV} (r : Rep K B s) (px : avR K s x v) (e : viewF s.A x = some p) : (rPV K p).P s.G v := by
  unfold viewF at e
  split at e
  · cases e; exact px
  · split at e
    · rename_i ea
      cases e
      obtain ⟨fp, h, _⟩ := r.sub px ea
      exact h.2
    · cases e
def aITup (a : aTE) : aTI := fun sa A k => a sa A fun x A1 => ∃ xs, viewF A1 x = some (.tup xs) ∧ k xs (fun _ => True) A1
theorem sim_itup (ha : SimE K m a ta) : SimI K m ml (aITup a) (iTup K ta) := fun {B s sa σ} rp g {Kc R} q hh =>
  ha rp g (fun x v s1 e1 px k => by
    obtain ⟨xs, h1, h2⟩ := k
    obtain ⟨d, vs, rfl, h3, h4⟩ := viewF_ok e1.rep px h1
    exact ⟨d, rfl, ⟨vs, e1.rep.le.seqT h3⟩, q xs _ _ s1 e1 (walk_tup fun s r l _ => ⟨vs, r.le.seqT (l.grw.le.seqT h3), h4.mono l.grw.le⟩) trivial h2⟩) hh
/-- a list that is frozen, or is a thing of its own -/
def aIList (a : aTE) : aTI := fun sa A k => a sa A fun x A1 => match x with
  | .pv (.lst xs) => k xs (fun _ => True) A1
  | .loc n [] => ∃ xs, A1[n]? = some (.lst xs) ∧ k xs (fun A => A[n]? = some (.lst xs)) A1
  | _ => False
theorem sim_ilist (ha : SimE K m a ta) : SimI K m ml (aIList a) (iList K ta) := fun {B s sa σ} rp g {Kc R} q hh =>
  ha rp g (fun x v s1 e1 px k => by
    split at k
    · rename_i xs
      obtain ⟨d, vs, rfl, h3, h4⟩ := px
      have at' : ∀ s, Rep K B s → Lat ml s1 s → True → ∃ vs, SqL K s.H d vs ∧ Al s.G (rPs K xs) vs := fun s r l _ => ⟨vs, .of (r.le.at (l.grw.le.at h3 nf_lst fun z => z) nf_lst fun z => z), h4.mono l.grw.le⟩
      obtain ⟨vs', z1, _⟩ := at' s1 e1.rep (.refl s1) trivial
      exact ⟨d, rfl, ⟨vs', z1⟩, q xs _ _ s1 e1 (walk_lst at') trivial k⟩
    · rename_i n
      obtain ⟨xs, h1, h2⟩ := k
      obtain ⟨r0, z1, z2⟩ := px
      have z2 : v = r0 := z2
      subst z2
      have at' : ∀ s, Rep K B s → Lat ml s1 s → s.A[n]? = some (.lst xs) → ∃ d vs, v = .ref d ∧ SqL K s.H d vs ∧ Al s.G (rPs K xs) vs := fun s r l hc => by
        obtain ⟨w, y1, d, vs, y2, y3, y4, y5⟩ := r.at' n _ hc
        rw [pre_get l.grw.pre z1] at y1
        cases y1
        exact ⟨d, vs, y2, .of y4, y5⟩
      obtain ⟨d, vs', z3, z4, _⟩ := at' s1 e1.rep (.refl s1) h1
      refine ⟨d, z3, ⟨vs', z4⟩, q xs _ _ s1 e1 (walk_lst fun s r l hc => ?_) h1 h2⟩
      obtain ⟨d', vs, y1, y2, y3⟩ := at' s r l hc
      rw [z3] at y1
      cases y1
      exact ⟨vs, y2, y3⟩
    · exact k.elim) hh
/-- .. a list anywhere, while nothing changes -/
def aIListP (a : aTE) : aTI := fun sa A k => a sa A fun x A1 => ∃ xs, viewL A1 x = some xs ∧ k xs (fun _ => True) A1
theorem sim_ilistP (ha : SimE K m a ta) : SimI K m true (aIListP a) (iList K ta) := fun {B s sa σ} rp g {Kc R} q hh =>
  ha rp g (fun x v s1 e1 px k => by
    obtain ⟨xs, h1, h2⟩ := k
    obtain ⟨d, vs, rfl, h3, h4⟩ := viewL_ok e1.rep px h1
    refine ⟨d, rfl, ⟨vs, .of h3⟩, q xs _ _ s1 e1 (walk_lst fun s r l _ => ⟨vs, .of ((l.pure rfl).2.2.2 _ _ h3 (by exact fun _ z => (nomatch z))), h4.mono l.grw.le⟩) trivial h2⟩) hh
def numP : Nat → List PV → List PV
  | _, [] => []
  | i, x :: t => .tup [.v (.int (i : Nat)), x] :: numP (i + 1) t
theorem numP_len : ∀ (i : Nat) (xs : List PV), (numP i xs).length = xs.length
  | _, [] => rfl
  | i, x :: t => congrArg Nat.succ (numP_len (i + 1) t)
theorem numP_get : ∀ (n : Nat) (xs : List PV) (i : Nat), (numP n xs)[i]? = (xs[i]?).map fun x => .tup [.v (.int ((n + i : Nat) : Int)), x]
  | _, [], _ => rfl
  | n, x :: t, 0 => rfl
  | n, x :: t, i + 1 => by
    show (numP (n + 1) t)[i]? = (t[i]?).map _
    rw [numP_get (n + 1) t i, show n + 1 + i = n + (i + 1) by omega]
theorem num_yield {B : Bs} {s : Cs} {xs : List PV} {x : PV} {vs : List V} {i : Nat} {T : Addr} {v' : V} (r : Rep K B s) (al : Al s.G (rPs K xs) vs) (hx : (numP 0 xs)[i]? = some x) (hT : s.H T = none) (e : vs[i]? = some v') :
    ∃ G', Gr [] s.G s.H G' (upd s.H T (.tup [.int (i : Nat), v'])) ∧ (rPV K x).P G' (.ref T) := by
  rw [numP_get] at hx
  obtain ⟨y, h1, rfl⟩ := Option.map_eq_some_iff.mp hx
  obtain ⟨w, h3, h4⟩ := al.get (r := rPV K y) (by rw [rPs_map, List.getElem?_map, h1]; rfl)
  rw [e] at h3
  cases h3
  have c := Gr.new (W := []) r.le (o := .tup [.int (i : Nat), v']) hT
  refine ⟨_, c, T, _, rfl, .of upd_same, .cons ?_ (.cons ((rPV K y).mono c.gg h4) .nil)⟩
  show V.int (i : Nat) = V.int ((0 + i : Nat) : Int)
  rw [Nat.zero_add]
def aIEnum (a : aTE) : aTI := fun sa A k => a sa A fun x A1 => ∃ xs, viewF A1 x = some (.lst xs) ∧ k (numP 0 xs) (fun _ => True) A1
theorem sim_ienum (ha : SimE K m a ta) : SimI K m ml (aIEnum a) (iEnum K (tCons ta tNil)) := fun {B s sa σ} rp g {Kc R} q hh =>
  ha rp g (fun x v s1 e1 px k => by
    obtain ⟨xs, h1, h2⟩ := k
    obtain ⟨d, vs, rfl, h3, h4⟩ := viewF_ok e1.rep px h1
    have at' : ∀ s, Rep K B s → Lat ml s1 s → SqL K s.H d vs := fun s r l => .of (r.le.at (l.grw.le.at h3 nf_lst fun z => z) nf_lst fun z => z)
    have hl : vs.length = xs.length := by rw [← h4.length, rPs_len]
    refine ⟨d, vs, rfl, at' s1 e1.rep (.refl s1), q _ _ _ s1 e1 ⟨fun i s hi r l _ => ?_, fun s r l _ => ⟨vs, at' s r l, by rw [numP_len, hl]; exact Nat.le_refl _⟩, fun i x s v H' hx r l _ y => ?_⟩ trivial h2⟩
    · have hi : i < vs.length := by rw [numP_len] at hi; rw [hl]; exact hi
      exact ⟨vs, vs[i], at' s r l, by simp [hi]⟩
    · obtain ⟨T, x', rfl, hT, rfl, y⟩ := y
      exact num_yield r (h4.mono l.grw.le) hx hT (y vs (at' s r l))) hh
def aIEnumT (a : aTE) : aTI := fun sa A k => a sa A fun x A1 => ∃ xs, viewF A1 x = some (.tup xs) ∧ k (numP 0 xs) (fun _ => True) A1
theorem sim_ienumT (ha : SimE K m a ta) : SimI K m ml (aIEnumT a) (iEnumT K (tCons ta tNil)) := fun {B s sa σ} rp g {Kc R} q hh =>
  ha rp g (fun x v s1 e1 px k => by
    obtain ⟨xs, h1, h2⟩ := k
    obtain ⟨d, vs, rfl, h3, h4⟩ := viewF_ok e1.rep px h1
    have at' : ∀ s, Rep K B s → Lat ml s1 s → SqT K s.H d vs := fun s r l => r.le.seqT (l.grw.le.seqT h3)
    have hl : vs.length = xs.length := by rw [← h4.length, rPs_len]
    refine ⟨d, vs, rfl, at' s1 e1.rep (.refl s1), q _ _ _ s1 e1 ⟨fun i s hi r l _ => ?_, fun s r l _ => ⟨vs, at' s r l, by rw [numP_len, hl]⟩, fun i x s v H' hx r l _ y => ?_⟩ trivial h2⟩
    · have hi : i < vs.length := by rw [numP_len] at hi; rw [hl]; exact hi
      exact ⟨vs, vs[i], at' s r l, by simp [hi]⟩
    · obtain ⟨T, x', rfl, hT, rfl, y⟩ := y
      exact num_yield r (h4.mono l.grw.le) hx hT (y vs (at' s r l))) hh
def aIRng (a : aTE) : aTI := fun sa A k => a sa A fun x A1 => match x with
  | .pv (.v (.int j)) => (-(2 ^ 62) ≤ j ∧ j < 2 ^ 62) ∧ k ((List.range j.toNat).map fun i => .v (.int (i : Nat))) (fun _ => True) A1
  | _ => False
theorem sim_irng (ha : SimE K m a ta) : SimI K m ml (aIRng a) (iRng1 (tCons ta tNil)) := fun {B s sa σ} rp g {Kc R} q hh =>
  ha rp g (fun x v s1 e1 px k => by
    split at k
    · rename_i j
      obtain rfl : v = .int j := px
      refine ⟨j, rfl, k.1.1, k.1.2, q _ _ _ s1 e1 ⟨fun i s hi r l _ => ?_, fun s r l _ => ?_, fun i x s v H' hx r l _ y => ?_⟩ trivial k.2⟩
      · show i < j.toNat
        simpa using hi
      · show j.toNat ≤ _
        simp
      · obtain ⟨rfl, y⟩ := y
        rw [List.getElem?_map] at hx
        obtain ⟨n, h1, rfl⟩ := Option.map_eq_some_iff.mp hx
        have hn : n = i := by
          have := (List.getElem?_eq_some_iff.mp h1).2
          simpa using this.symm
        subst hn
        refine ⟨s.G, r.g0, ?_⟩
        show v = .int _
        rw [y]
        simp
    · exact k.elim) hh
/-- the signs of a text -/
def aIStr (a : aTE) : aTI := fun sa A k => a sa A fun x A1 => match x with
  | .pv (.v (.str z)) => k (z.cps.toList.map fun c => .v (.str ⟨#[c]⟩)) (fun _ => True) A1
  | _ => False
theorem sim_istr (ha : SimE K m a ta) : SimI K m ml (aIStr a) (iStr ta) := fun {B s sa σ} rp g {Kc R} q hh =>
  ha rp g (fun x v s1 e1 px k => by
    split at k
    · rename_i z
      obtain rfl : v = .str z := px
      have wk := walk_str (z := z)
      refine ⟨z, rfl, q _ _ _ s1 e1 ⟨fun i s hi r l _ => wk.goes i s.H (by simpa using hi) trivial, fun s r l _ => by rw [List.length_map, Array.length_toList]; exact wk.stops s.H trivial, fun i x s v H' hx r l _ y => ?_⟩ trivial k⟩
      have hi : i < z.cps.size := by
        have := (List.getElem?_eq_some_iff.mp hx).1
        simpa using this
      obtain ⟨rfl, c, e1, e2⟩ := wk.yields i s.H v H' hi trivial y
      rw [List.getElem?_map, Array.getElem?_toList, e1] at hx
      cases hx
      exact ⟨s.G, r.g0, e2⟩
    · exact k.elim) hh

/-! ### comprehensions -/
def aWipe (sa : Sg) : List Nat → Sg
  | [] => sa
  | v :: vs => (aWipe sa vs).set v none
theorem SgR.wipe {s : Cs} {sa : Sg} {σ : L2.St} (h : SgR K s sa σ) : ∀ vs, SgR K s (aWipe sa vs) (wipe σ vs)
  | [] => h
  | v :: vs => (SgR.wipe h vs).wipe1 v
/-- [e for x in xs if t] -/
def aLc (wi : aTI) (g : aTG) (ct : aTT) (e : aTE) (vs : List Nat) : aTN := fun sa A k => wi sa A fun xs C A1 => xs.length ≤ 100000 ∧ ∃ I : Nat → List PV → Sto → Prop, I 0 [] A1 ∧ (∀ i acc A, I i acc A → C A ∧ acc.length ≤ i) ∧
  (∀ i x acc A, xs[i]? = some x → I i acc A → g (.pv x) (aWipe sa vs) A fun sa2 A2 => ct sa2 A2 fun b A3 => if b = true then e sa2 A3 fun y A4 => ∃ p, y = .pv p ∧ I (i + 1) (acc ++ [p]) A4 else I (i + 1) acc A3) ∧
  ∀ acc A, I xs.length acc A → k (.lst acc) A
/-- target of a comprehension: names alone -/
def NamesG (K : PySem.W.Frag) (vs : List Nat) (a : aTG) (t : TG) : Prop := ∀ ⦃B : Bs⦄ ⦃s : Cs⦄ ⦃sa : Sg⦄ ⦃σ : L2.St⦄ ⦃av : AV⦄ ⦃v : V⦄, Rep K B s → SgR K s sa σ → avR K s av v → ∀ ⦃Ka : Sg → Sto → Prop⦄ ⦃Q : L2.St → Hp → Prop⦄, (∀ sa' σ', SgR K s sa' σ' → L2.wipe σ' vs = L2.wipe σ vs → Ka sa' s.A → Q σ' s.H) → a av sa s.A Ka → t v σ s.H Q
def NamesGs (K : PySem.W.Frag) (vs : List Nat) (a : aTGs) (t : TGs) : Prop := ∀ ⦃B : Bs⦄ ⦃s : Cs⦄ ⦃sa : Sg⦄ ⦃σ : L2.St⦄ ⦃ps : List PV⦄ ⦃xs : List V⦄, Rep K B s → SgR K s sa σ → Al s.G (rPs K ps) xs → ∀ ⦃Ka : Sg → Sto → Prop⦄ ⦃Q : L2.St → Hp → Prop⦄, (∀ sa' σ', SgR K s sa' σ' → L2.wipe σ' vs = L2.wipe σ vs → Ka sa' s.A → Q σ' s.H) → a ps sa s.A Ka → t xs σ s.H Q
theorem ng_name {i : Nat} {vs : List Nat} (hi : i ∈ vs := by decide) : NamesG K vs (aName i) (gName i) := fun {B s sa σ av v} r g px {Ka Q} q h => by
  unfold aName at h
  split at h
  · exact h.elim
  · rename_i hx
    refine q _ _ (g.set i (px.toS ?_)) (wipe_set hi) h
    unfold AV.stable
    split
    · rename_i n f p
      exact absurd rfl (hx n f p)
    · rfl
theorem ng_nil {vs : List Nat} : NamesGs K vs aGNil gNil := fun {B s sa σ ps xs} r g al {Ka Q} q h => by
  unfold aGNil at h
  split at h
  · cases al
    exact ⟨rfl, q sa σ g rfl h⟩
  · exact h.elim
theorem ng_cons {vs : List Nat} {g : aTG} {tg : TG} {u : aTGs} {tu : TGs} (h1 : NamesG K vs g tg) (h2 : NamesGs K vs u tu) : NamesGs K vs (aGCons g u) (gCons tg tu) := fun {B s sa σ ps xs} r gg al {Ka Q} q h => by
  unfold aGCons at h
  split at h
  · rename_i p ps
    cases al with
    | cons hp ht =>
      exact ⟨_, _, rfl, h1 r gg (av := .pv p) hp (fun sa1 σ1 q1 w1 k => h2 r q1 ht (fun sa2 σ2 q2 w2 k => q sa2 σ2 q2 (w2.trans w1) k) k) h⟩
  · exact h.elim
theorem ng_tup {vs : List Nat} {n : Nat} {u : aTGs} {tu : TGs} (h2 : NamesGs K vs u tu) : NamesG K vs (aGTup n u) (gTup K n tu) := fun {B s sa σ av v} r gg px {Ka Q} q h => by
  obtain ⟨xs, h1, h3, h4⟩ := h
  obtain ⟨a, ws, e1, e2, e3⟩ := viewT_ok r px h1
  exact ⟨a, ws, e1, e2, by rw [← e3.length, rPs_len]; exact h3, h2 r gg e3 q h4⟩
theorem wipe_wipe : ∀ {vs us : List Nat} {σ : L2.St}, (∀ v ∈ vs, v ∈ us) → L2.wipe (L2.wipe σ vs) us = L2.wipe σ us
  | [], us, σ, _ => rfl
  | v :: vs, us, σ, h => by
    show L2.wipe ((L2.wipe σ vs).set v none) us = _
    rw [wipe_set (h v List.mem_cons_self), wipe_wipe fun w hw => h w (List.mem_cons_of_mem _ hw)]
theorem lc_at {wi : aTI} {ti : TI} {g : aTG} {tg : TG} {vs : List Nat} {B : Bs} {s : Cs} {sa : Sg} {σ : L2.St} (rp : Rep K B s) (gg : SgR K s sa σ)
    (hi : ∀ ⦃Kc : List PV → (Sto → Prop) → Sto → Prop⦄ ⦃R : It → Hp → Prop⦄, (∀ xs C J s', Stp K B m s s' → WalkA K B m J s' xs C → C s'.A → Kc xs C s'.A → R J s'.H) → wi sa s.A Kc → ti σ s.H R)
    (hg : NamesG K vs g tg) (hc : SimT K m ca tt) (he : SimE K m a ta) ⦃Kc : AO → Sto → Prop⦄ ⦃Q : VK⦄ (q : ∀ o v fp s', Stp K B m s s' → NewAt K s s' o v fp → Kc o s'.A → Q v s'.H) (hh : aLc wi g ca a vs sa s.A Kc) : tLc ti tg tt ta vs σ s.H Q :=
  hi (fun xs C J s1 e1 wk hC0 k D hD => by
    obtain ⟨hxs, I, i0, hI, step, done⟩ := k
    have off0 : ∀ n, n < s1.A.length → D ∉ s1.φ n := fun n hn z => e1.rep.there hn D z hD
    let St : Nat → Hp → Prop := fun i H' => ∃ (s2 : Cs) (acc : List PV) (vs' : List V), s2.H = H' ∧ Rep K B s2 ∧ Grw s1 s2 ∧ (∀ b, s1.H b ≠ none → s2.H b ≠ none) ∧ (m = true → s2.ι = s1.ι ∧ s2.A = s1.A ∧ s2.φ = s1.φ ∧ Gr [] s1.G s1.H s2.G s2.H) ∧ s2.H D = some (.lst vs') ∧ s2.G D = none ∧ (∀ n, n < s2.A.length → D ∉ s2.φ n) ∧ Al s2.G (rPs K acc) vs' ∧ I i acc s2.A
    have latof : ∀ {s2 : Cs}, Grw s1 s2 → (m = true → s2.ι = s1.ι ∧ s2.A = s1.A ∧ s2.φ = s1.φ ∧ Gr [] s1.G s1.H s2.G s2.H) → Lat m s1 s2 := fun g p => ⟨g, fun z => let ⟨p1, p2, p3, p4⟩ := p z; ⟨p1, p2, p3, fun b o hb t => p4.hhN b o hb (fun z => nomatch z) t⟩⟩
    have c0 := Gr.own (W := []) e1.rep.le (o := .lst []) hD
    refine ⟨fun i k H' => k = xs.length - i ∧ i ≤ xs.length ∧ St i H', ⟨xs.length, by simp, Nat.zero_le _, { s1 with G := s1.G, H := upd s1.H D (.lst []) }, [], [], rfl, e1.rep.pure c0, ⟨Le.refl _, List.prefix_refl _⟩, fun b h => c0.dm b h, fun _ => ⟨rfl, rfl, rfl, c0⟩, upd_same, e1.rep.le.free hD, off0, .nil, i0⟩, ?_⟩
    rintro i k H' ⟨rfl, hi, s2, acc, vs', rfl, r2, g2, dm2, p2, hD2, hG2, off2, al2, k2⟩
    obtain ⟨hC, hacc⟩ := hI _ _ _ k2
    by_cases hlt : i < xs.length
    · refine .inr ⟨wk.goes i s2 hlt r2 (latof g2 p2) hC, fun H3 => i + 1 ≤ xs.length ∧ St (i + 1) H3, fun H3 z => ⟨xs.length - (i + 1), by omega, rfl, z.1, z.2⟩, fun x H'' y => ?_⟩
      have hx : xs[i]? = some xs[i] := by simp [hlt]
      obtain ⟨G', k3, k4⟩ := wk.yields i xs[i] s2 x H'' hx r2 (latof g2 p2) hC y
      -- the state at the turn's begin
      have r3 := r2.pure k3
      obtain ⟨d1, d2⟩ := k3.loc hD2 hG2 fun z => nomatch z
      have g3 : Grw s2 { s2 with G := G', H := H'' } := ⟨k3.gg, List.prefix_refl _⟩
      refine hg (s := { s2 with G := G', H := H'' }) (av := .pv xs[i]) r3 (((gg.stp e1).grw (g2.trans g3)).wipe vs) k4 (fun sa4 σ4 q4 w4 k5 => ⟨by rw [w4]; exact wipe_wipe (fun _ z => z), ?_⟩) (step i xs[i] acc s2.A hx k2)
      refine hc (s := { s2 with G := G', H := H'' }) r3.start q4 (fun t s5 e5 k6 => ?_) k5
      have r5 := r3.rebase e5.rep
      obtain ⟨d3, d4⟩ := r3.stays e5.rep d1 d2 off2
      have off5 := r3.offs e5.rep d1 off2
      have dm5 : ∀ b, s1.H b ≠ none → s5.H b ≠ none := fun b hb => e5.dm b (k3.dm b (dm2 b hb))
      have p5 : m = true → s5.ι = s1.ι ∧ s5.A = s1.A ∧ s5.φ = s1.φ ∧ Gr [] s1.G s1.H s5.G s5.H := fun z => by
        obtain ⟨y1, y2, y3, y4⟩ := p2 z
        obtain ⟨z1, z2, z3, z4⟩ := e5.pure z
        exact ⟨z1.trans y1, z2.trans y2, z3.trans y3, y4.trans (k3.trans z4)⟩
      cases t with
      | true =>
        refine he (s := s5) r5.start (q4.stp e5) (fun y v s6 e6 py k7 => ?_) k6
        obtain ⟨p, rfl, k8⟩ := k7
        have r6 := r5.rebase e6.rep
        obtain ⟨d5, d6⟩ := r5.stays e6.rep d3 d4 off5
        have off6 := r5.offs e6.rep d3 off5
        have c6 := At.put (M := md0) r6.le' (o := .lst (vs' ++ [v])) d6 (by simp [md0])
        have fr6 : ∀ n, n < s6.A.length → ∀ b ∈ s6.φ n, b ≠ D := fun n hn b hb z => off6 n hn (z ▸ hb)
        have al6 := (al2.mono (k3.gg.trans (e5.le.trans e6.le)))
        have hlen : vs'.length = acc.length := by rw [← al2.length, rPs_len]
        refine ⟨vs', d5, Nat.lt_of_lt_of_le (show vs'.length < 100001 by omega) (by decide), hlt, { s6 with H := upd s6.H D (.lst (vs' ++ [v])) }, acc ++ [p], vs' ++ [v], rfl, ⟨r6.len, fun n o eo => ?_, r6.nd, r6.dj, r6.out, r6.fr, ?_, r6.pre, fun P hP => (r6.tabs P hP).go (Le.refl _) (upd_ne ((r6.tabs P hP).off d5)) (r6.tabs P hP).1⟩, ⟨g2.le.trans (k3.gg.trans (e5.le.trans e6.le)), g2.pre.trans (e5.pre.trans e6.pre)⟩, fun b hb => ?_, fun z => ?_, upd_same, d6, off6, ?_, k8⟩
        · obtain ⟨w, y1, y2⟩ := r6.at' n o eo
          have hn : n < s6.A.length := (List.getElem?_eq_some_iff.mp eo).1
          exact ⟨w, y1, aoR_frame y2 (Le.refl _) fun b hb => by show upd s6.H D _ b = _; rw [upd_ne (fr6 n hn b hb)]⟩
        · exact r6.gr.put (rp.back (e1.back hD)) d6
        · show upd s6.H D _ b ≠ none
          by_cases c : b = D
          · rw [c, upd_same]; exact fun z => nomatch z
          · rw [upd_ne c]; exact e6.dm b (dm5 b hb)
        · obtain ⟨y1, y2, y3, y4⟩ := p5 z
          obtain ⟨z1, z2, z3, z4⟩ := e6.pure z
          exact ⟨z1.trans y1, z2.trans y2, z3.trans y3, (y4.trans z4).put hD d6⟩
        · rw [rPs_app]
          exact al6.append (.cons py .nil)
      | false =>
        exact ⟨hlt, s5, acc, vs', rfl, r5, g2.trans (g3.trans e5.grw), dm5, p5, d3, d4, off5, al2.mono (k3.gg.trans e5.le), k6⟩
    · have e2 : i = xs.length := by omega
      subst e2
      refine .inl ⟨wk.stops s2 r2 (latof g2 p2) hC, q (.lst acc) (.ref D) [D] s2 ⟨e1.le.trans g2.le, e1.pre.trans g2.pre, fun b hb => dm2 b (e1.dm b hb), fun z => ?_, r2⟩ ⟨⟨D, vs', rfl, rfl, hD2, al2⟩, by simp, fun b hb => ?_, fun b hb => ?_, fun b hb => ?_⟩ (done acc s2.A k2)⟩
      · obtain ⟨y1, y2, y3, y4⟩ := p2 z
        obtain ⟨z1, z2, z3, z4⟩ := e1.pure z
        exact ⟨y1.trans z1, y2.trans z2, y3.trans z3, z4.trans y4⟩
      · rw [List.mem_singleton.mp hb]; exact e1.back hD
      · rw [List.mem_singleton.mp hb]; exact hG2
      · rw [List.mem_singleton.mp hb]; exact off2) hh
theorem sim_lc {wi : aTI} {ti : TI} {g : aTG} {tg : TG} {vs : List Nat} (hi : SimI K m m wi ti) (hg : NamesG K vs g tg) (hc : SimT K m ca tt) (he : SimE K m a ta) : SimN K m (aLc wi g ca a vs) (tLc ti tg tt ta vs) := fun {B s sa σ} rp gg {Kc Q} q hh =>
  lc_at rp gg (fun _ _ z => hi rp gg z) hg hc he q hh
end
end TH
/-! Calls; defs. -/
namespace TH
open PySem PySem.Spec PyProof.Rows L2
variable [TC : TabC]
/-- what a def tells: a value, one of the things that it was handed, a new thing -/
inductive Rt where
  | pv (p : PV)
  | loc (i : Nat)
  | new (o : AO)
/-- what a def asks and tells: the arguments (things by their numbers), the things handed in -/
abbrev AC := List AV → Sto → (Rt → Sto → Prop) → Prop
def retR (K : PySem.W.Frag) (s s' : Cs) : Rt → V → Prop
  | .pv p, v => (rPV K p).P s'.G v
  | .loc i, v => s.ι[i]? = some v
  | .new o, v => ∃ fp, NewAt K s s' o v fp
def spA (K : PySem.W.Frag) (ac : AC) : Sp := fun vs H Q _ => ∃ (s : Cs) (avs : List AV) (Kc : Rt → Sto → Prop), s.H = H ∧ Rep K (Bs.of s) s ∧ Paired (avS K s) avs vs ∧ ac avs s.A Kc ∧
  ∀ r v s', Rep K (Bs.of s) s' → s'.A.length = s.A.length → retR K s s' r v → Kc r s'.A → Q v s'.H
abbrev SpLe (a b : Sp) : Prop := ∀ vs H Q E, a vs H Q E → b vs H Q E
theorem SpLe.refl (a : Sp) : SpLe a a := fun _ _ _ _ h => h
section
variable {K : PySem.W.Frag} {m ml : Bool} {a b c : aTE} {ta tb te tc : TE} {n0 : Nat} {ac : AC} {sp : Sp} {t : TA} {r : aTA} {E : XK}
/-- no things handed in -/
def aCall0 (ac : AC) (r : aTA) : aTE := fun sa A k => r sa A fun avs A1 => ∃ ps, pvs avs = some ps ∧ ac (ps.map .pv) [] fun r _ => match r with
  | .pv p => k (.pv p) A1
  | _ => False
def aCall0N (ac : AC) (r : aTA) : aTN := fun sa A k => r sa A fun avs A1 => ∃ ps, pvs avs = some ps ∧ ac (ps.map .pv) [] fun r _ => match r with
  | .new o => k o A1
  | _ => False
theorem al_avS {s : Cs} : ∀ {ps : List PV} {vs : List V}, Al s.G (rPs K ps) vs → Paired (avS K s) (ps.map AV.pv) vs
  | [], _, .nil => .nil
  | p :: t, _, .cons h al => .cons h (al_avS al)
/-- the state that a def with no things sees -/
def Cs.none (s : Cs) : Cs := { s with ι := [], A := [], φ := fun _ => [] }
theorem Rep.none {B : Bs} {s : Cs} (r : Rep K B s) : Rep K (Bs.of s.none) s.none :=
  ⟨rfl, fun n o e => (by cases e), fun n h => (by cases h), fun m n h => (by cases h), fun n h => (by cases h), fun n h => (by cases h), .refl r.le, List.prefix_refl _, r.tabs⟩
theorem Rep.gr0 {s s' : Cs} (r' : Rep K (Bs.of s.none) s') : Gr [] s.G s.H s'.G s'.H := r'.gr
theorem call0_ok {B : Bs} {s : Cs} {vs : List V} {ps : List PV} (hsp : SpLe (spA K ac) sp) (r : Rep K B s) (al : Al s.G (rPs K ps) vs) {Kc : Rt → Sto → Prop} {Q : VK} (h : ac (ps.map .pv) [] Kc)
    (q : ∀ rv v s', Rep K (Bs.of s.none) s' → s'.A = [] → retR K s.none s' rv v → Kc rv [] → Q v s'.H) : sp vs s.H Q E :=
  hsp _ _ _ _ ⟨s.none, ps.map .pv, Kc, rfl, r.none, al_avS al, h, fun rv v s' r' hl hr k => by
    have e : s'.A = [] := List.length_eq_zero_iff.mp hl
    rw [e] at k
    exact q rv v s' r' e hr k⟩
theorem sim_call0 (hsp : SpLe (spA K ac) sp) (ha : SimA K m r t) : SimE K m (aCall0 ac r) (tCall sp [] E t) := fun {B s sa σ} rp g {Kc Q} q h =>
  ha rp g (fun avs vs s1 e1 ps k => by
    obtain ⟨qs, k1, k2⟩ := k
    show sp (vs ++ []) s1.H Q E
    rw [List.append_nil]
    refine call0_ok hsp e1.rep (pvs_al ps k1) k2 fun rv v s2 r2 hA hr k => ?_
    match rv, hr, k with
    | .pv p, hr, k => exact q (.pv p) v { s1 with G := s2.G, H := s2.H } (e1.trans (.of e1.rep r2.gr0)) hr k) h
theorem sim_call0N (hsp : SpLe (spA K ac) sp) (ha : SimA K m r t) : SimN K m (aCall0N ac r) (tCall sp [] E t) := fun {B s sa σ} rp g {Kc Q} q h =>
  ha rp g (fun avs vs s1 e1 ps k => by
    obtain ⟨qs, k1, k2⟩ := k
    show sp (vs ++ []) s1.H Q E
    rw [List.append_nil]
    refine call0_ok hsp e1.rep (pvs_al ps k1) k2 fun rv v s2 r2 hA hr k => ?_
    match rv, hr, k with
    | .new o, ⟨fp, n⟩, k =>
      have e2 := e1.trans (Stp.of (m := m) e1.rep r2.gr0)
      exact q o v fp { s1 with G := s2.G, H := s2.H } e2 ⟨n.is, n.nd, fun b hb => e1.back (n.nw b hb), n.out, fun b hb i hi z => e1.rep.there hi b z (n.nw b hb)⟩ k) h
/-! ### one thing handed in, as the first -/
/-- the state that a def sees that is handed the thing at a place -/
theorem one_start {G H : Hp} {v : V} {fp : List Addr} {o : AO} (h : aoR K G H o v fp) (nd : fp.Nodup) (out : ∀ b ∈ fp, G b = none) (le : Le G H) (tb : ∀ P ∈ TC.T, TabG G H P) : Rep K (Bs.of ⟨[v], fun _ => fp, [o], G, H⟩) ⟨[v], fun _ => fp, [o], G, H⟩ := by
  refine ⟨rfl, fun i u ei => ?_, fun _ _ => nd, fun i j hi hj ne => ?_, fun i hi b hb => out b hb, fun i hi b hb => .inl ⟨hi, hb⟩, .refl le, List.prefix_refl _, tb⟩
  · match i, ei with
    | 0, ei => cases ei; exact ⟨v, rfl, h⟩
    | i + 1, ei => simp at ei
  · have hi : i < 1 := hi
    have hj : j < 1 := hj
    omega
def aCall1 (ac : AC) (r : aTA) : aTE := fun sa A k => r sa A fun avs A1 => match avs with
  | .loc n p :: t => ∃ ps o, pvs t = some ps ∧ aoAt A1 n p = some o ∧ ac (.loc 0 [] :: ps.map .pv) [o] fun rv os => match rv, os with
    | .pv q, [o'] => k (.pv q) (aoSet A1 n p o')
    | _, _ => False
  | _ => False
theorem call1_ok {B : Bs} {s : Cs} {vs : List V} {ps : List PV} {n : Nat} {p : List Str} {v : V} {o : AO} (hsp : SpLe (spA K ac) sp) (r : Rep K B s) (hv : avR K s (.loc n p) v) (e : aoAt s.A n p = some o) (al : Al s.G (rPs K ps) vs) {Kc : Rt → Sto → Prop} {Q : VK} (h : ac (.loc 0 [] :: ps.map .pv) [o] Kc)
    (q : ∀ rv w o' s', Rep K B s' → Stp K B false s s' → s'.A = aoSet s.A n p o' → Kc rv [o'] → (match rv with | .pv x => (rPV K x).P s'.G w | .loc i => i = 0 → w = v | .new _ => True) → Q w s'.H) : sp (v :: vs) s.H Q E := by
  obtain ⟨fp, h1, hnd, _, hout, _, put⟩ := r.opn hv e
  have h2 := one_start h1 hnd hout r.le r.tabs
  refine hsp _ _ _ _ ⟨(⟨[v], fun _ => fp, [o], s.G, s.H⟩ : Cs), .loc 0 [] :: ps.map .pv, Kc, rfl, h2, .cons rfl (al_avS (s := ⟨[v], fun _ => fp, [o], s.G, s.H⟩) al), h, fun rv w s' r' hl hr k => ?_⟩
  obtain ⟨o', eo⟩ : ∃ o', s'.A = [o'] := by
    have hl : s'.A.length = 1 := hl
    match s'.A, hl with
    | [o'], _ => exact ⟨o', rfl⟩
  rw [eo] at k
  obtain ⟨v', y1, y2⟩ := r'.at' 0 o' (by rw [eo]; rfl)
  have y3 : s'.ι[0]? = some v := pre_get r'.pre (show [v][0]? = some v from rfl)
  rw [y3] at y1
  cases y1
  have hl0 : 0 < s'.A.length := by rw [eo]; exact Nat.zero_lt_one
  have gr : Gr fp s.G s.H s'.G s'.H := r'.gr.mono fun b hb => by
    obtain ⟨i, _, z⟩ := List.mem_flatMap.mp hb
    exact z
  obtain ⟨φ', z1, z2⟩ := put y2 (r'.nd 0 hl0) (fun b hb => (r'.fr 0 hl0 b hb).imp And.right id) (fun b hb => r'.out 0 hl0 b hb) gr
  refine q rv w o' { s with φ := φ', A := aoSet s.A n p o', G := s'.G, H := s'.H } z1 ⟨z2, List.prefix_refl _, gr.dm, fun z => (nomatch z), z1⟩ rfl k ?_
  match rv, hr with
  | .pv x, hr => exact hr
  | .loc i, hr =>
    intro hi
    subst hi
    have hr : [v][0]? = some w := hr
    exact (Option.some.inj hr).symm
  | .new _, _ => trivial
theorem sim_callH (hsp : SpLe (spA K ac) sp) (ha : SimA K false r t) : SimE K false (aCall1 ac r) (tCall sp [] E t) := fun {B s sa σ} rp g {Kc Q} q h =>
  ha rp g (fun avs vs s1 e1 ps k => by
    show sp (vs ++ []) s1.H Q E
    rw [List.append_nil]
    split at k
    · rename_i n p t
      obtain ⟨qs, o, k1, k2, k3⟩ := k
      cases ps with
      | cons hv pt =>
        refine call1_ok hsp e1.rep hv k2 (pvs_al pt k1) k3 fun rv w o' s2 r2 e2 hA k hr => ?_
        match rv, hr, k with
        | .pv x, hr, k => exact q (.pv x) w s2 (e1.off.trans e2) hr (by rw [hA]; exact k)
    · exact k.elim) h
/-! ### methods -/
/-- of a thing that never changes -/
def aMeth0 (C : Addr) (mt : Str) (ac : AC) (a : aTE) (r : aTA) : aTE := fun sa A k => a sa A fun x A1 => match x with
  | .pv (.ins D fs) => D = C ∧ fs.lookup mt = none ∧ r sa A1 fun avs A2 => ∃ ps, pvs avs = some ps ∧ ac (.pv (.ins C fs) :: ps.map .pv) [] fun rv _ => match rv with
    | .pv p => k (.pv p) A2
    | _ => False
  | _ => False
theorem fal_none {G : Hp} {f : Str} : ∀ {fs : List (Str × PV)} {vs : List (Str × V)}, FAl G (rPV.rFs K fs) vs → fs.lookup f = none → vs.lookup f = none
  | [], _, .nil, e => rfl
  | (x, p) :: fs, (y, v) :: vs, .cons h t, e => by
    have hxy : x = y := h.1
    subst hxy
    rw [List.lookup_cons] at e ⊢
    cases c : f == x with
    | true => rw [c] at e; cases e
    | false => rw [c] at e; exact fal_none t e
theorem sim_meth0 {C : Addr} {mt : Str} (hsp : SpLe (spA K ac) sp) (ha : SimE K m a ta) (hr : SimA K m r t) : SimE K m (aMeth0 C mt ac a r) (tMeth C mt sp [] E ta t) := fun {B s sa σ} rp g {Kc Q} q h =>
  ha rp g (fun x vx s1 e1 px k => by
    split at k
    · rename_i D fs
      obtain ⟨rfl, k1, k2⟩ := k
      have px0 := px
      obtain ⟨d, dx, vs, h1, h2, h3⟩ := px
      refine ⟨d, dx, vs, h1, e1.rep.le.ins h2, fal_none h3 k1, hr e1.rep (g.stp e1) (fun avs ws s2 e2 ps k => ?_) k2⟩
      obtain ⟨qs, k4, k5⟩ := k
      rw [List.append_nil]
      have al : Al s2.G (rPs K (.ins D fs :: qs)) (vx :: ws) := .cons ((rPV K (.ins D fs)).mono e2.le px0) (pvs_al ps k4)
      refine call0_ok (ps := .ins D fs :: qs) hsp e2.rep al k5 fun rv v s3 r3 hA hr k => ?_
      match rv, hr, k with
      | .pv p, hr, k => exact q (.pv p) v { s2 with G := s3.G, H := s3.H } ((e1.trans e2).trans (.of e2.rep r3.gr0)) hr k
    · exact k.elim) h
theorem for_none {G H : Hp} {f : Str} : ∀ {fs : List (Str × AO)} {vs : List (Str × V)} {fq : List Addr}, foR K G H fs vs fq → fs.lookup f = none → vs.lookup f = none
  | [], vs, fq, h, e => by rw [h.1]; rfl
  | (x, u) :: t, vs, fq, ⟨v, r, f1, f2, h1, h2, h3, h4⟩, e => by
    subst h1
    rw [List.lookup_cons] at e ⊢
    cases c : f == x with
    | true => rw [c] at e; cases e
    | false => rw [c] at e; exact for_none h4 e
/-- of a thing that may change -/
def aMeth1 (C : Addr) (mt : Str) (ac : AC) (a : aTE) (r : aTA) : aTE := fun sa A k => a sa A fun x A1 => match x with
  | .loc n p => ∃ fs, aoAt A1 n p = some (.ins C fs) ∧ fs.lookup mt = none ∧ r sa A1 fun avs A2 => ∃ ps o, pvs avs = some ps ∧ aoAt A2 n p = some o ∧ ac (.loc 0 [] :: ps.map .pv) [o] fun rv os => match rv, os with
    | .pv q, [o'] => k (.pv q) (aoSet A2 n p o')
    | _, _ => False
  | _ => False
/-- the arguments change nothing -/
theorem sim_meth1 {C : Addr} {mt : Str} (hsp : SpLe (spA K ac) sp) (ha : SimE K false a ta) (hr : SimA K true r t) : SimE K false (aMeth1 C mt ac a r) (tMeth C mt sp [] E ta t) := fun {B s sa σ} rp g {Kc Q} q h =>
  ha rp g (fun x vx s1 e1 px k => by
    split at k
    · rename_i n p
      obtain ⟨fs, k0, k1, k2⟩ := k
      obtain ⟨fp, ⟨d, dx, vs, fq, h1, h2, h3, h4⟩, _⟩ := e1.rep.sub px k0
      refine ⟨d, dx, vs, h1, h3, for_none h4 k1, hr e1.rep (g.stp e1) (fun avs ws s2 e2 ps k => ?_) k2⟩
      obtain ⟨qs, o, k4, k5, k6⟩ := k
      rw [List.append_nil]
      refine call1_ok hsp e2.rep (px.stp e2) k5 (pvs_al ps k4) k6 fun rv w o' s3 r3 e3 hA k hr => ?_
      match rv, hr, k with
      | .pv x, hr, k => exact q (.pv x) w s3 ((e1.off.trans e2.weak).trans e3) hr (by rw [hA]; exact k)
    · exact k.elim) h
/-- .. the arguments may change things, the thing is one of its own -/
theorem sim_meth1E {C : Addr} {mt : Str} (hs : Stb a) (hsp : SpLe (spA K ac) sp) (ha : SimE K false a ta) (hr : SimA K false r t) : SimE K false (aMeth1 C mt ac a r) (tMeth C mt sp [] E ta t) := fun {B s sa σ} rp g {Kc Q} q h =>
  ha rp g (fun x vx s1 e1 px k => by
    obtain ⟨st, k⟩ := k
    split at k
    · rename_i n p
      obtain ⟨fs, k0, k1, k2⟩ := k
      obtain ⟨fp, ⟨d, dx, vs, fq, h1, h2, h3, h4⟩, _⟩ := e1.rep.sub px k0
      refine ⟨d, dx, vs, h1, h3, for_none h4 k1, hr e1.rep (g.stp e1) (fun avs ws s2 e2 ps k => ?_) k2⟩
      obtain ⟨qs, o, k4, k5, k6⟩ := k
      rw [List.append_nil]
      refine call1_ok hsp e2.rep (px.stpS st e2) k5 (pvs_al ps k4) k6 fun rv w o' s3 r3 e3 hA k hr => ?_
      match rv, hr, k with
      | .pv x, hr, k => exact q (.pv x) w s3 ((e1.off.trans e2.off).trans e3) hr (by rw [hA]; exact k)
    · exact k.elim) (hs sa s.A _ h)
/-! ### C(..) -/
def aMake (C : Addr) (ac : AC) (r : aTA) : aTN := fun sa A k => r sa A fun avs A1 => ∃ ps, pvs avs = some ps ∧ ac (.loc 0 [] :: ps.map .pv) [.ins C []] fun rv os => match rv, os with
  | .pv q, [o] => q = .v .non ∧ k o A1
  | _, _ => False
theorem sim_make {C : Addr} (hsp : SpLe (spA K ac) sp) (ha : SimA K m r t) : SimN K m (aMake C ac r) (tMake C sp [] E t) := fun {B s sa σ} rp g {Kc Q} q h =>
  ha rp g (fun avs vs s1 e1 ps k => fun x dx hx hdx ne => by
    obtain ⟨qs, k1, k2⟩ := k
    rw [List.append_nil]
    have al := pvs_al ps k1
    have g1 : Gr [] s1.G s1.H s1.G (upd s1.H dx (.own x)) := Gr.own e1.rep.le hdx
    have hx' : (upd s1.H dx (.own x)) x = none := by rw [upd_ne (Ne.symm ne)]; exact hx
    have g2 : Gr [] s1.G s1.H s1.G (upd (upd s1.H dx (.own x)) x (.ins C dx [])) := g1.trans (Gr.own g1.gh hx')
    have gx : s1.G x = none := e1.rep.le.free hx
    have st := one_start (K := K) (G := s1.G) (H := upd (upd s1.H dx (.own x)) x (.ins C dx [])) (v := .ref x) (fp := [x]) (o := .ins C []) ⟨x, dx, [], [], rfl, rfl, upd_same, rfl, rfl⟩ (by simp) (fun b hb => by rw [List.mem_singleton.mp hb]; exact gx) g2.gh (fun P hP => g2.tb P hP (fun z => nomatch z) (e1.rep.tabs P hP))
    refine hsp _ _ _ _ ⟨(⟨[.ref x], fun _ => [x], [.ins C []], s1.G, _⟩ : Cs), .loc 0 [] :: qs.map .pv, _, rfl, st, .cons rfl (al_avS (s := ⟨[.ref x], fun _ => [x], [.ins C []], s1.G, _⟩) al), k2, fun rv w s' r' hl hr k => ?_⟩
    obtain ⟨o', eo⟩ : ∃ o', s'.A = [o'] := by
      have hl : s'.A.length = 1 := hl
      match s'.A, hl with
      | [o'], _ => exact ⟨o', rfl⟩
    rw [eo] at k
    match rv, hr, k with
    | .pv y, hr, k =>
      obtain ⟨rfl, k⟩ := k
      obtain ⟨v', y1, y2⟩ := r'.at' 0 o' (by rw [eo]; rfl)
      have y3 : s'.ι[0]? = some (.ref x) := pre_get r'.pre (show [V.ref x][0]? = some (.ref x) from rfl)
      rw [y3] at y1
      cases y1
      have hl0 : 0 < s'.A.length := by rw [eo]; exact Nat.zero_lt_one
      have gr : Gr [] s1.G s1.H s'.G s'.H := g2.over r'.gr fun b hb => by
        obtain ⟨i, _, z⟩ := List.mem_flatMap.mp hb
        have z : b ∈ [x] := z
        rw [List.mem_singleton.mp z]
        exact .inr hx
      have nw : ∀ b ∈ s'.φ 0, s1.H b = none := fun b hb => by
        rcases r'.fr 0 hl0 b hb with ⟨_, z⟩ | z
        · have z : b ∈ [x] := z
          rw [List.mem_singleton.mp z]; exact hx
        · have z : (upd (upd s1.H dx (.own x)) x (.ins C dx [])) b = none := z
          cases c : s1.H b with
          | none => rfl
          | some o => exact absurd z (g2.dm b (by rw [c]; exact fun z => nomatch z))
      exact ⟨hr, q o' (.ref x) (s'.φ 0) { s1 with G := s'.G, H := s'.H } (e1.trans (.of e1.rep gr)) ⟨y2, r'.nd 0 hl0, fun b hb => e1.back (nw b hb), r'.out 0 hl0, fun b hb i hi z => e1.rep.there hi b z (nw b hb)⟩ k⟩) h
/-! ### defs -/
/-- return: a thing that the def made is frozen -/
def aRetZ (n0 : Nat) (e : aTE) : aTS := fun D sa A => e sa A fun av A1 => match av with
  | .pv p => D.rt (.pv p) A1
  | .loc n [] => ∃ o p, n0 ≤ n ∧ A1[n]? = some o ∧ o.fz = some p ∧ D.rt (.pv p) (A1.set n (.pv p))
  | _ => False
theorem sim_retZ (ha : SimE K false a ta) : SimS K n0 (aRetZ n0 a) (tRet ta) := fun {B s Da D} h0 e {sa σ} r gg h =>
  ha r gg (fun x v s1 e1 px k => by
    split at k
    · exact e.rt s1 _ v e1.rep e1.grw px k
    · rename_i n
      obtain ⟨o, p, k1, k2, k3, k4⟩ := k
      obtain ⟨s', r', g', hA, hH, hι⟩ := e1.rep.fix (by rw [h0]; exact k1) k2 k3
      rw [← hA] at k4
      rw [← hH]
      obtain ⟨w, y1, y2⟩ := r'.at' n (.pv p) (by rw [hA, List.getElem?_set, if_pos rfl, if_pos (List.getElem?_eq_some_iff.mp k2).1])
      obtain ⟨r0, z1, z2⟩ := px
      have z2 : v = r0 := z2
      subst z2
      rw [hι, z1] at y1
      cases y1
      exact e.rt s' (.pv p) v r' (e1.grw.trans g') y2.2 k4
    · exact k.elim) h
/-- what is wanted behind a def's body -/
def aEnd (n0 : Nat) (Kc : Rt → Sto → Prop) : AEnds where
  nx := fun _ A => Kc (.pv (.v .non)) (A.take n0)
  rt := fun av A => match av with
    | .pv p => Kc (.pv p) (A.take n0)
    | .loc n [] => if n < n0 then Kc (.loc n) (A.take n0) else ∃ o, A[n]? = some o ∧ Kc (.new o) (A.take n0)
    | .loc _ (_ :: _) => False
def startA (N : List Str) (avs : List AV) : Sg := avs.map some ++ List.replicate (N.length - avs.length) none
theorem startA_r {s : Cs} {N : List Str} {avs : List AV} {vs : List V} (h : Paired (avS K s) avs vs) : SgR K s (startA N avs) (L2.start N vs) := by
  have hl : avs.length = vs.length := h.length
  refine ⟨by unfold startA L2.start; simp [hl], fun i a e => ?_⟩
  unfold startA at e
  unfold L2.start
  by_cases c : i < avs.length
  · rw [List.getElem?_append_left (by simpa using c), List.getElem?_map] at e
    obtain ⟨x, h1, h2⟩ := Option.map_eq_some_iff.mp e
    cases h2
    have key : ∀ {avs : List AV} {vs : List V} {i : Nat} {a : AV}, Paired (avS K s) avs vs → avs[i]? = some a → ∃ v, vs[i]? = some v ∧ avS K s a v := by
      intro avs vs i a h
      induction h generalizing i with
      | nil => intro e; simp at e
      | cons p q ih =>
        intro e
        match i, e with
        | 0, e => cases e; exact ⟨_, rfl, p⟩
        | i + 1, e => exact ih (by simpa using e)
    obtain ⟨v, h3, h4⟩ := key h h1
    exact ⟨v, by rw [List.getElem?_append_left (by rw [List.length_map, ← hl]; exact c), List.getElem?_map, h3]; rfl, h4⟩
  · rw [List.getElem?_append_right (by simpa using Nat.le_of_not_lt c), List.getElem?_replicate] at e
    split at e
    · cases e
    · cases e
/-- behind the body: the def's own things are let go -/
theorem Rep.cut {s s' : Cs} (r : Rep K (Bs.of s) s') (h0 : s.A.length ≤ s'.A.length) (hl : s.ι.length = s.A.length) : Rep K (Bs.of s) { s' with ι := s'.ι.take s.A.length, A := s'.A.take s.A.length } := by
  have lt : ∀ {n}, n < (s'.A.take s.A.length).length → n < s'.A.length ∧ n < s.A.length := fun {n} h => by
    rw [List.length_take] at h
    omega
  refine ⟨by simp [r.len], fun n o e => ?_, fun n h => r.nd n (lt h).1, fun i j hi hj => r.dj i j (lt hi).1 (lt hj).1, fun n h => r.out n (lt h).1, fun n h => r.fr n (lt h).1, r.gr, ?_, r.tabs⟩
  · have e : (s'.A.take s.A.length)[n]? = some o := e
    have hn := (lt (List.getElem?_eq_some_iff.mp e).1).2
    rw [List.getElem?_take_of_lt hn] at e
    obtain ⟨v, h1, h2⟩ := r.at' n o e
    exact ⟨v, by show (s'.ι.take s.A.length)[n]? = some v; rw [List.getElem?_take_of_lt hn]; exact h1, h2⟩
  · obtain ⟨t, ht⟩ := r.pre
    have ht : s.ι ++ t = s'.ι := ht
    refine ⟨[], ?_⟩
    show s.ι ++ [] = s'.ι.take s.A.length
    rw [List.append_nil, ← ht, ← hl, List.take_left]
theorem Rep.more {s s' : Cs} (r : Rep K (Bs.of s) s') (hl : s.ι.length = s.A.length) : s.A.length ≤ s'.A.length := by
  obtain ⟨t, ht⟩ := r.pre
  have ht : s.ι ++ t = s'.ι := ht
  rw [← r.len, ← ht, List.length_append, hl]
  omega
end
section
variable {P : Program} {w : World} {K : PySem.W.Frag} {mg : Str → Option Value} {base : Heap} {x qual : Str} {params : Arguments} {body : List Stmt} {scope : Scope} {f : Addr} {fd : FuncData} {N ps : List Str} {k n0 : Nat} {ac : AC}
/-- a body's run, from what is promised -/
theorem fnA_core {at' : aTS} {t : TS} {vs : List V} {H : Hp} {Q : VK} {E : XK} (hlen : ∀ avs A Kc, ac avs A Kc → avs.length = ps.length ∧ A.length = n0) (hs : SimS K n0 at' t) (hrun : ∀ avs A Kc, ac avs A Kc → at' (aEnd n0 Kc) (startA N avs) A) (h : spA K ac vs H Q E) :
    t { nx := fun _ H' => Q .non H', rt := Q } (L2.start N vs) H := by
    obtain ⟨s0, avs, Kc, rfl, h2, h3, h4, h5⟩ := h
    obtain ⟨l1, l2⟩ := hlen _ _ _ h4
    have hl : s0.ι.length = s0.A.length := h2.len
    refine hs (Da := aEnd n0 Kc) (D := { nx := fun _ H' => Q .non H', rt := Q }) (by show s0.ι.length = n0; rw [hl, l2]) ⟨fun s1 sa σ r1 g1 q1 kk => ?_, fun s1 av v r1 g1 pv kk => ?_, fun s1 sa σ r1 g1 q1 kk => kk.elim, fun s1 sa σ r1 g1 q1 kk => kk.elim⟩ h2 (startA_r h3) (hrun _ _ _ h4)
    · have kk : Kc (.pv (.v .non)) (s1.A.take n0) := kk
      rw [← l2] at kk
      exact h5 (.pv (.v .non)) .non { s1 with ι := s1.ι.take s0.A.length, A := s1.A.take s0.A.length } (r1.cut (r1.more hl) hl) (by have := r1.more hl; show (s1.A.take s0.A.length).length = _; rw [List.length_take]; omega) rfl kk
    · have cut := r1.cut (r1.more hl) hl
      have cl : (s1.A.take s0.A.length).length = s0.A.length := by have := r1.more hl; rw [List.length_take]; omega
      match av, pv, kk with
      | .pv p, pv, kk =>
        have kk : Kc (.pv p) (s1.A.take n0) := kk
        rw [← l2] at kk
        exact h5 (.pv p) v { s1 with ι := s1.ι.take s0.A.length, A := s1.A.take s0.A.length } cut cl pv kk
      | .loc n [], pv, kk =>
        obtain ⟨r0, z1, z2⟩ := pv
        have z2 : v = r0 := z2
        subst z2
        have kk : if n < n0 then Kc (.loc n) (s1.A.take n0) else ∃ o, s1.A[n]? = some o ∧ Kc (.new o) (s1.A.take n0) := kk
        rw [← l2] at kk
        by_cases c : n < s0.A.length
        · rw [if_pos c] at kk
          refine h5 (.loc n) v { s1 with ι := s1.ι.take s0.A.length, A := s1.A.take s0.A.length } cut cl ?_ kk
          show s0.ι[n]? = some v
          have hn : n < s0.ι.length := by rw [hl]; exact c
          have e : s0.ι[n]? = some s0.ι[n] := by simp [hn]
          have e2 := pre_get (l' := s1.ι) r1.pre e
          rw [z1] at e2
          rw [e, e2]
        · rw [if_neg c] at kk
          obtain ⟨o, k1, k2⟩ := kk
          refine h5 (.new o) v { s1 with ι := s1.ι.take s0.A.length, A := s1.A.take s0.A.length } cut cl ?_ k2
          have hn : n < s1.A.length := (List.getElem?_eq_some_iff.mp k1).1
          obtain ⟨w', y1, y2⟩ := r1.at' n o k1
          rw [z1] at y1
          cases y1
          refine ⟨s1.φ n, y2, r1.nd n hn, fun b hb => ?_, r1.out n hn, fun b hb i hi z => ?_⟩
          · rcases r1.fr n hn b hb with ⟨q, _⟩ | q
            · have q : n < s0.ι.length := q
              omega
            · exact q
          · have hi : i < (s1.A.take s0.A.length).length := hi
            rw [cl] at hi
            exact r1.dj n i hn (by omega) (by omega) b hb z
/-- A DEF BY ITS BODY -/
theorem fnA {dvs : List V} {kws : List (Str × V)} (F : FunD K x qual params body scope dvs kws f fd) (S : FnScope N ps scope) {at' : aTS} (hlen : ∀ avs A Kc, ac avs A Kc → avs.length = ps.length ∧ A.length = n0)
    (hb : ∀ (cdv : Value) (A : Around) (outer : List PySem.Env) (s : Shared) (H : Hp) (E : XK), Room k (A.deeper (envOfC qual scope s.heap.objs.size f cdv)) → ∃ t, PSs (cxOf CX0 P w K mg base N qual scope f cdv A outer s H E).nox body t ∧ SimS K n0 at' t)
    (hrun : ∀ avs A Kc, ac avs A Kc → at' (aEnd n0 Kc) (startA N avs) A) : FnOk P w K mg base CX0 (k + 1) f fd ps (spA K ac) := by
  refine F.ok S (fun vs H Q E h => ?_) fun cdv A outer s H vs Q E hr h => ?_
  · obtain ⟨s, avs, Kc, _, _, h3, h4, _⟩ := h
    rw [← (hlen _ _ _ h4).1]
    exact h3.length.symm
  · obtain ⟨t, ht, hs⟩ := hb cdv A outer s H E hr
    exact ⟨t, ht.nox, fnA_core hlen hs hrun h⟩
end
end TH
/-! More: chains, dicts, lists that change, fields, numbers stored, data compared. -/
namespace TH
open PySem PySem.Spec PyProof.Rows L2
variable [TC : TabC]
section
variable {K : PySem.W.Frag} {m ml : Bool} {a b c : aTE} {ta tb te tc : TE} {ca cb : aTT} {tt tu : TT} {n0 : Nat} {r : aTA} {t : TA}
/-! ### a < b <= c of numbers -/
def aChain (g g' : Int → Int → Bool) (a b c : aTE) : aTE := fun sa A k => a sa A fun x A1 => b sa A1 fun y A2 => match x, y with
  | .pv (.v (.int i)), .pv (.v (.int j)) => if g i j = true then c sa A2 fun z A3 => match z with
      | .pv (.v (.int l)) => k (.pv (.v (.bl (g' j l)))) A3
      | _ => False
    else k (.pv (.v (.bl false))) A2
  | _, _ => False
theorem sim_chain {g g' : Int → Int → Bool} (ha : SimE K m a ta) (hb : SimE K m b tb) (hc : SimE K m c tc) : SimE K m (aChain g g' a b c) (tChain (rI0 fun i j => .bl (g i j)) (rI0 fun i j => .bl (g' i j)) ta tb tc) := fun {B s sa σ} rp gg {Kc Q} q h =>
  ha rp gg (fun x vx s1 e1 px ka => hb e1.rep (gg.stp e1) (fun y vy s2 e2 py k => by
    split at k
    · rename_i i j
      obtain rfl : vx = .int i := px
      obtain rfl : vy = .int j := py
      refine ⟨i, j, rfl, rfl, g i j, rfl, ?_⟩
      cases e : g i j with
      | true =>
        rw [e] at k
        rw [if_pos rfl] at k ⊢
        exact hc e2.rep (gg.stp (e1.trans e2)) (fun z vz s3 e3 pz k => by
          split at k
          · rename_i l
            obtain rfl : vz = .int l := pz
            exact ⟨j, l, rfl, rfl, q (.pv (.v (.bl (g' j l)))) _ s3 ((e1.trans e2).trans e3) rfl k⟩
          · exact k.elim) k
      | false =>
        rw [e] at k
        exact q (.pv (.v (.bl false))) _ s2 (e1.trans e2) rfl k
    · exact k.elim) ka) h
/-! ### dicts -/
def keyOf : V → Option Key
  | .int i => some (.inl i)
  | .str x => some (.inr x)
  | _ => none
theorem keyOf_k {v : V} {k : Key} (h : keyOf v = some k) : v = kV k := by
  cases v <;> first | (cases h; rfl) | cases h
def valP (kvs : List (Key × PV)) (k : Key) : Option PV := (kvs.find? fun kv => decide (kv.1 = k)).map (·.2)
def viewD (A : Sto) : AV → Option (List (Key × PV))
  | .pv (.dct kvs) => some kvs
  | .loc n p => match aoAt A n p with
    | some (.dK kvs) => some kvs
    | some (.pv (.dct kvs)) => some kvs
    | _ => none
  | _ => none
theorem viewD_ok {B : Bs} {s : Cs} {x : AV} {v : V} {kvs : List (Key × PV)} (r : Rep K B s) (px : avR K s x v) (e : viewD s.A x = some kvs) : ∃ a vs, v = .ref a ∧ Rd s.H a (.dK vs) ∧ DAl s.G (rPV.rKvs K kvs) vs := by
  have fr : ∀ {v : V} {kvs : List (Key × PV)}, (rPV K (.dct kvs)).P s.G v → ∃ a vs, v = .ref a ∧ Rd s.H a (.dK vs) ∧ DAl s.G (rPV.rKvs K kvs) vs := fun h => by
    obtain ⟨a, vs, h1, h2, h3⟩ := h
    exact ⟨a, vs, h1, r.le.rd nf_dK h2, h3⟩
  unfold viewD at e
  split at e
  · cases e; exact fr px
  · rename_i n p
    split at e
    · rename_i ea
      cases e
      obtain ⟨fp, ⟨a, vs, h1, h2, h3, h4⟩, _⟩ := r.sub px ea
      exact ⟨a, vs, h1, .inl h3, h4⟩
    · rename_i ea
      cases e
      obtain ⟨fp, ⟨h1, h2⟩, _⟩ := r.sub px ea
      exact fr h2
    · cases e
  · cases e
theorem dal_val {G : Hp} {k : Key} : ∀ {kvs : List (Key × PV)} {vs : List (Key × V)}, DAl G (rPV.rKvs K kvs) vs → (∀ p, valP kvs k = some p → ∃ v, valV vs k = some v ∧ (rPV K p).P G v) ∧ (valP kvs k = none → valV vs k = none)
  | [], _, .nil => ⟨fun p e => (by cases e), fun _ => rfl⟩
  | (x, r') :: ks, (y, v') :: vs, .cons h t => by
    have hxy : x = y := h.1
    have hp : (rPV K r').P G v' := h.2
    subst hxy
    unfold valV valP
    by_cases c : x = k
    · simp only [List.find?_cons, c, decide_true, Option.map_some]
      exact ⟨fun r e => ⟨v', rfl, (by cases e; exact hp)⟩, fun e => (by cases e)⟩
    · simp only [List.find?_cons, c, decide_false]
      have ih := dal_val (k := k) t
      unfold valV valP at ih
      exact ih
/-- d[k] -/
def aDGet (a b : aTE) : aTE := fun sa A k => a sa A fun x A1 => b sa A1 fun y A2 => match y with
  | .pv (.v u) => ∃ kvs key p, viewD A2 x = some kvs ∧ keyOf u = some key ∧ valP kvs key = some p ∧ k (.pv p) A2
  | _ => False
theorem sim_dget (ha : SimE K m a ta) (hb : SimE K true b tb) : SimE K m (aDGet a b) (tDGet ta tb) := fun {B s sa σ} rp gg {Kc Q} q h =>
  ha rp gg (fun x vx s1 e1 px k => hb e1.rep (gg.stp e1) (fun y vy s2 e2 py k => by
    split at k
    · rename_i u
      obtain ⟨kvs, key, p, k1, k2, k3, k4⟩ := k
      obtain rfl : vy = u := py
      obtain ⟨d, vs, h1, h2, h3⟩ := viewD_ok e2.rep (px.stp e2) k1
      obtain ⟨v, h4, h5⟩ := (dal_val h3).1 p k3
      rw [keyOf_k k2]
      have := dget_rd (k := key) h2
      rw [h4] at this
      exact ⟨d, v, h1, this, q (.pv p) v s2 (e1.trans e2.weak) h5 k4⟩
    · exact k.elim) k) h
/-- k in d -/
def aDIn (neg : Bool) (b a : aTE) : aTE := fun sa A k => b sa A fun y A1 => a sa A1 fun x A2 => match y with
  | .pv (.v u) => ∃ kvs key, viewD A2 x = some kvs ∧ keyOf u = some key ∧ k (.pv (.v (.bl (if neg then !(valP kvs key).isSome else (valP kvs key).isSome)))) A2
  | _ => False
theorem din_some {G : Hp} {k : Key} {kvs : List (Key × PV)} {vs : List (Key × V)} (h : DAl G (rPV.rKvs K kvs) vs) : (valV vs k).isSome = (valP kvs k).isSome := by
  have h := dal_val (k := k) h
  cases e : valP kvs k with
  | none => rw [h.2 e]; rfl
  | some p =>
    obtain ⟨v, h1, _⟩ := h.1 p e
    rw [h1]; rfl
theorem sim_din (hb : SimE K m b tb) (ha : SimE K true a ta) : SimE K m (aDIn false b a) (tDIn tb ta) := fun {B s sa σ} rp gg {Kc Q} q h =>
  hb rp gg (fun y vy s1 e1 py ka => ha e1.rep (gg.stp e1) (fun x vx s2 e2 px k => by
    split at k
    · rename_i u
      obtain ⟨kvs, key, k1, k2, k4⟩ := k
      obtain rfl : vy = u := py
      obtain ⟨d, vs, h1, h2, h3⟩ := viewD_ok e2.rep px k1
      rw [keyOf_k k2]
      exact ⟨d, valV vs key, h1, dget_rd (k := key) h2, by rw [din_some h3]; exact q (.pv (.v (.bl (valP kvs key).isSome))) _ s2 (e1.trans e2.weak) rfl k4⟩
    · exact k.elim) ka) h
theorem sim_dnotin (hb : SimE K m b tb) (ha : SimE K true a ta) : SimE K m (aDIn true b a) (tDNotIn tb ta) := fun {B s sa σ} rp gg {Kc Q} q h =>
  hb rp gg (fun y vy s1 e1 py ka => ha e1.rep (gg.stp e1) (fun x vx s2 e2 px k => by
    split at k
    · rename_i u
      obtain ⟨kvs, key, k1, k2, k4⟩ := k
      obtain rfl : vy = u := py
      obtain ⟨d, vs, h1, h2, h3⟩ := viewD_ok e2.rep px k1
      rw [keyOf_k k2]
      exact ⟨d, valV vs key, h1, dget_rd (k := key) h2, by rw [din_some h3]; exact q (.pv (.v (.bl (!(valP kvs key).isSome)))) _ s2 (e1.trans e2.weak) rfl k4⟩
    · exact k.elim) ka) h
def putP (kvs : List (Key × PV)) (k : Key) (v : PV) : List (Key × PV) :=
  if (kvs.any fun kv => decide (kv.1 = k)) = true then kvs.map (fun kv => if kv.1 = k then (kv.1, v) else kv) else kvs ++ [(k, v)]
theorem dal_any {G : Hp} {k : Key} : ∀ {kvs : List (Key × PV)} {vs : List (Key × V)}, DAl G (rPV.rKvs K kvs) vs → (vs.any fun kv => decide (kv.1 = k)) = (kvs.any fun kv => decide (kv.1 = k))
  | [], _, .nil => rfl
  | (x, r') :: ks, (y, v') :: vs, .cons h t => by
    have hxy : x = y := h.1
    subst hxy
    rw [List.any_cons, List.any_cons, dal_any t]
theorem dal_put {G : Hp} {k : Key} {p : PV} {v : V} {kvs : List (Key × PV)} {vs : List (Key × V)} (h : DAl G (rPV.rKvs K kvs) vs) (hp : (rPV K p).P G v) : DAl G (rPV.rKvs K (putP kvs k p)) (putK vs k v) := by
  unfold putP putK
  rw [dal_any h]
  by_cases c : (kvs.any fun kv => decide (kv.1 = k)) = true
  · rw [if_pos c, if_pos c]
    have : ∀ {kvs : List (Key × PV)} {vs : List (Key × V)}, DAl G (rPV.rKvs K kvs) vs → DAl G (rPV.rKvs K (kvs.map fun kv => if kv.1 = k then (kv.1, p) else kv)) (vs.map fun kv => if kv.1 = k then (kv.1, v) else kv) := by
      intro kvs
      induction kvs with
      | nil => intro vs h; cases h; exact .nil
      | cons x t ih =>
        intro vs h
        obtain ⟨x, q⟩ := x
        cases h with
        | @cons _ y _ vs h t' =>
        obtain ⟨y, w⟩ := y
        have hxy : x = y := h.1
        subst hxy
        rw [List.map_cons, List.map_cons]
        by_cases d : x = k
        · simp only [d, if_true]
          exact .cons ⟨rfl, hp⟩ (ih t')
        · simp only [d, if_false]
          exact .cons h (ih t')
    exact this h
  · rw [if_neg c, if_neg c]
    have : ∀ {kvs : List (Key × PV)} {vs : List (Key × V)}, DAl G (rPV.rKvs K kvs) vs → DAl G (rPV.rKvs K (kvs ++ [(k, p)])) (vs ++ [(k, v)]) := by
      intro kvs
      induction kvs with
      | nil => intro vs h; cases h; exact .cons ⟨rfl, hp⟩ .nil
      | cons x t ih =>
        intro vs h
        cases h with
        | cons h t' => exact .cons h (ih t')
    exact this h
theorem dal_len {G : Hp} : ∀ {kvs : List (Key × PV)} {vs : List (Key × V)}, DAl G (rPV.rKvs K kvs) vs → vs.length = kvs.length
  | [], _, .nil => rfl
  | _ :: _, _, .cons _ t => congrArg Nat.succ (dal_len t)
/-- one thing, a list or a dict, is written -/
theorem put1 {B : Bs} {s : Cs} (r : Rep K B s) {n : Nat} {p : List Str} {v : V} {u u' : AO} {d : Addr} {ho : HO} (px : avR K s (.loc n p) v) (e : aoAt s.A n p = some u) (hv : v = .ref d)
    (hu : ∀ fp, aoR K s.G s.H u v fp → fp = [d]) (h' : aoR K s.G (upd s.H d ho) u' v [d]) : ∃ φ', Rep K B { s with φ := φ', A := aoSet s.A n p u', H := upd s.H d ho } ∧ Stp K B false s { s with φ := φ', A := aoSet s.A n p u', H := upd s.H d ho } := by
  obtain ⟨φ', z1, z2⟩ := r.put (u' := u') (G' := s.G) (H' := upd s.H d ho) px e fun fp h1 h2 => by
    have := hu fp h1
    subst this
    have gd : s.G d = none := h2 d (List.mem_singleton.mpr rfl)
    have th : s.H d ≠ none := aoR_there h1 d (List.mem_singleton.mpr rfl)
    exact ⟨[d], h', by simp, fun b hb => .inl hb, fun b hb => by rw [List.mem_singleton.mp hb]; exact gd, Gr.putW (Gr.refl r.le) (List.mem_singleton.mpr rfl) gd⟩
  refine ⟨φ', z1, ⟨z2, List.prefix_refl _, fun b hb => ?_, fun z => (nomatch z), z1⟩⟩
  show upd s.H d ho b ≠ none
  by_cases c : b = d
  · rw [c, upd_same]; exact fun z => nomatch z
  · rw [upd_ne c]; exact hb
/-- d[k] = v -/
def aDPut (a b e : aTE) : aTS := fun D sa A => e sa A fun w A1 => a sa A1 fun x A2 => b sa A2 fun y A3 => match w, x, y with
  | .pv q, .loc n p, .pv (.v u) => ∃ kvs key, aoAt A3 n p = some (.dK kvs) ∧ keyOf u = some key ∧ kvs.length < 100000 ∧ D.nx sa (aoSet A3 n p (.dK (putP kvs key q)))
  | _, _, _ => False
theorem sim_dput {e : aTE} (he : SimE K false e te) (ha : SimE K true a ta) (hb : SimE K true b tb) : SimS K n0 (aDPut a b e) (sDPut ta tb te) := fun {B s Da D} h0 ed {sa σ} rp gg h =>
  he rp gg (fun w vw s1 e1 pw ka => ha e1.rep (gg.stp e1) (fun x vx s2 e2 px kb => hb e2.rep ((gg.stp e1).stp e2) (fun y vy s3 e3 py k => by
    split at k
    · rename_i q n p u
      obtain ⟨kvs, key, k1, k2, k3, k4⟩ := k
      obtain rfl : vy = u := py
      have pw3 : (rPV K q).P s3.G vw := (rPV K q).mono (e2.le.trans e3.le) pw
      obtain ⟨fp, ⟨d, vs, h1, h2, h3, h4⟩, _⟩ := e3.rep.sub (px.stp e3) k1
      have hl : vs.length < sizeLine := by rw [dal_len h4]; exact Nat.lt_of_lt_of_le k3 (by decide)
      obtain ⟨φ', r', st⟩ := put1 (u' := .dK (putP kvs key q)) (ho := .dK (putK vs key vw)) e3.rep (px.stp e3) k1 h1 (fun fp h => by
        obtain ⟨d', vs', z1, z2, _⟩ := h
        rw [h1] at z1
        cases z1
        exact z2) ⟨d, _, h1, rfl, upd_same, dal_put h4 pw3⟩
      rw [keyOf_k k2]
      exact ⟨d, _, h1, DPut.k h3 hl, ed.nx _ sa σ r' (e1.grw.trans (e2.grw.trans (e3.grw.trans st.grw))) ((((gg.stp e1).stp e2).stp e3).stp st) k4⟩
    · exact k.elim) kb) ka) h
/-! ### lists that change -/
def aApp (a e : aTE) : aTE := fun sa A k => a sa A fun x A1 => match x with
  | .loc n p => ∃ ys, aoAt A1 n p = some (.lst ys) ∧ e sa A1 fun y A2 => match y with
    | .pv q => ∃ xs, aoAt A2 n p = some (.lst xs) ∧ xs.length < 100000 ∧ k (.pv (.v .non)) (aoSet A2 n p (.lst (xs ++ [q])))
    | _ => False
  | _ => False
theorem app_ok {B : Bs} {s s2 : Cs} {n : Nat} {p : List Str} {q : PV} {xs : List PV} {vx vy : V} {k : AV → Sto → Prop} {Q : VK} (r2 : Rep K B s2) (e : Stp K B false s s2) (px : avR K s2 (.loc n p) vx) (py : (rPV K q).P s2.G vy) (k1 : aoAt s2.A n p = some (.lst xs)) (k2 : xs.length < 100000) (k3 : k (.pv (.v .non)) (aoSet s2.A n p (.lst (xs ++ [q]))))
    (hq : ∀ av v s', Stp K B false s s' → avR K s' av v → k av s'.A → Q v s'.H) : rAppend vx [vy] s2.H Q := by
  obtain ⟨fp, ⟨d, vs, h1, h2, h3, h4⟩, _⟩ := r2.sub px k1
  have hl : vs.length < sizeLine := by rw [← h4.length, rPs_len]; exact Nat.lt_of_lt_of_le k2 (by decide)
  obtain ⟨φ', r', st⟩ := put1 (u' := .lst (xs ++ [q])) (ho := .lst (vs ++ [vy])) r2 px k1 h1 (fun fp h => by
    obtain ⟨d', vs', z1, z2, _⟩ := h
    rw [h1] at z1
    cases z1
    exact z2) ⟨d, _, h1, rfl, upd_same, by rw [rPs_app]; exact h4.append (.cons py .nil)⟩
  exact ⟨d, vs, vy, h1, rfl, h3, hl, hq (.pv (.v .non)) .non _ (e.trans st) rfl k3⟩
theorem sim_app {e : aTE} (ha : SimE K false a ta) (he : SimE K true e te) : SimE K false (aApp a e) (tBM K "list" rAppend ta (tCons te tNil)) := fun {B s sa σ} rp gg {Kc Q} q h =>
  ha rp gg (fun x vx s1 e1 px k => by
    split at k
    · rename_i n p
      obtain ⟨ys, k0, k⟩ := k
      obtain ⟨fp, ⟨d, vs, h1, h2, h3, h4⟩, _⟩ := e1.rep.sub px k0
      refine ⟨by rw [h1]; exact .inl ⟨rfl, vs, .of h3⟩, he e1.rep (gg.stp e1) (fun y vy s2 e2 py k => ?_) k⟩
      split at k
      · rename_i w
        obtain ⟨xs, k1, k2, k3⟩ := k
        exact app_ok e2.rep (e1.off.trans e2.weak) (px.stp e2) py k1 k2 k3 q
      · exact k.elim
    · exact k.elim) h
theorem sim_appE {e : aTE} (hs : Stb a) (ha : SimE K false a ta) (he : SimE K false e te) : SimE K false (aApp a e) (tBM K "list" rAppend ta (tCons te tNil)) := fun {B s sa σ} rp gg {Kc Q} q h =>
  ha rp gg (fun x vx s1 e1 px k => by
    obtain ⟨st, k⟩ := k
    split at k
    · rename_i n p
      obtain ⟨ys, k0, k⟩ := k
      obtain ⟨fp, ⟨d, vs, h1, h2, h3, h4⟩, _⟩ := e1.rep.sub px k0
      refine ⟨by rw [h1]; exact .inl ⟨rfl, vs, .of h3⟩, he e1.rep (gg.stp e1) (fun y vy s2 e2 py k => ?_) k⟩
      split at k
      · rename_i w
        obtain ⟨xs, k1, k2, k3⟩ := k
        exact app_ok e2.rep (e1.off.trans e2.off) (px.stpS st e2) py k1 k2 k3 q
      · exact k.elim
    · exact k.elim) (hs sa s.A _ h)
/-! ### steadiness -/
theorem stb_var {i : Nat} : Stb (aVar i) := fun sa A k h => by
  unfold aVar at h ⊢
  split at h
  · exact ⟨rfl, h⟩
  · split at h
    · exact ⟨rfl, h⟩
    · exact ⟨rfl, h⟩
    · exact h.elim
  · exact h.elim
theorem stb_c {v : V} : Stb (aC v) := fun sa A k h => ⟨rfl, h⟩
theorem stb_cp {p : PV} : Stb (aCp p) := fun sa A k h => ⟨rfl, h⟩
theorem stb_fz {e : aTN} (mono : ∀ sa A k k', (∀ o A, k o A → k' o A) → e sa A k → e sa A k') : Stb (aFz e) := fun sa A k h => mono sa A _ _ (fun o A1 z => by
  cases ef : o.fz with
  | none => simp only [ef] at z
  | some p => simp only [ef] at z ⊢; exact ⟨rfl, z⟩) h
/-- an operation that gives values alone -/
def PvOp (f : aR2) : Prop := ∀ A x y k, f A x y k → f A x y fun z => z.stable = true ∧ k z
theorem pvo_I0 {g : Int → Int → V} : PvOp (fI0 g) := fun A x y k h => by
  unfold fI0 at h ⊢
  split at h
  · exact ⟨rfl, h⟩
  · exact h.elim
theorem pvo_I {C : Int → Int → Prop} {g : Int → Int → V} : PvOp (fI C g) := fun A x y k h => by
  unfold fI at h ⊢
  split at h
  · exact ⟨h.1, rfl, h.2⟩
  · exact h.elim
/-- weakening -/
def Mo (a : aTE) : Prop := ∀ sa A (k k' : AV → Sto → Prop), (∀ x A, k x A → k' x A) → a sa A k → a sa A k'
theorem mo_var {i : Nat} : Mo (aVar i) := fun sa A k k' w h => by
  unfold aVar at h ⊢
  split at h
  · exact w _ _ h
  · split at h
    · exact w _ _ h
    · exact w _ _ h
    · exact h.elim
  · exact h.elim
theorem mo_c {v : V} : Mo (aC v) := fun sa A k k' w h => w _ _ h
theorem stb_op {f : aR2} (ha : Mo a) (hb : Mo b) (hf : PvOp f) : Stb (aOp f a b) := fun sa A k h => ha sa A _ _ (fun x A1 h => hb sa A1 _ _ (fun y A2 h => hf A2 x y _ h) h) h
/-! ### x op= e, of a name -/
def aAug (i : Nat) (e : aTE) (f : aR2) : aTS := fun D sa A => aVar i sa A fun x A0 => e sa A0 fun y A1 => f A1 x y fun z => match z with
  | .pv p => D.nx (sa.set i (some (.pv p))) A1
  | _ => False
theorem sim_aug {i : Nat} {e : aTE} {f : aR2} {ip : TIp} (he : SimE K false e te) (hf : OpS K f ip) : SimS K n0 (aAug i e f) (tAug i te ip) := fun {B s Da D} h0 ed {sa σ} rp gg h => by
  have := sim_var (K := K) (m := false) (i := i) rp gg (Q := fun x H => te σ H fun y H1 => ip x y H1 fun z H2 => D.nx (σ.set i (some z)) H2) (fun x vx s1 e1 px k => he e1.rep (gg.stp e1) (fun y vy s2 e2 py k' => hf e2.rep (px.stpS k.1 e2) py (fun av v G' H' gr pv k => by
    split at k
    · rename_i p
      have st := Stp.of (m := false) e2.rep gr
      exact ed.nx { s2 with G := G', H := H' } _ _ st.rep ((e1.trans e2).trans st).grw ((gg.stp ((e1.trans e2).trans st)).set i (a := .pv p) pv) k
    · exact k.elim) k') k.2) (stb_var sa s.A _ h)
  obtain ⟨v, h1, h2⟩ := this
  exact ⟨v, h1, h2⟩
theorem ops_ip {g : Int → Int → Int} : OpS K (fI0 fun i j => .int (g i j)) (ipI g) := ops_I0
/-! ### a, b = e1, e2 -/
def aPar (i j : Nat) (r : aTA) : aTS := fun D sa A => r sa A fun avs A1 => match avs with
  | [.pv p, .pv q] => D.nx ((sa.set i (some (.pv p))).set j (some (.pv q))) A1
  | _ => False
theorem sim_par {i j : Nat} (hr : SimA K false r t) : SimS K n0 (aPar i j r) (tPar i j t) := fun {B s Da D} h0 ed {sa σ} rp gg h =>
  hr rp gg (fun avs vs s1 e1 ps k => by
    split at k
    · rename_i p q
      cases ps with
      | cons hp ps =>
        cases ps with
        | cons hq ps =>
          cases ps
          exact ⟨_, _, rfl, ed.nx s1 _ _ e1.rep e1.grw (((gg.stp e1).set i (a := .pv p) hp).set j (a := .pv q) hq) k⟩
    · exact k.elim) h
/-- .. two new things -/
def aParN (i j : Nat) (a b : aTN) : aTS := fun D sa A => a sa A fun o A1 => b sa A1 fun u A2 => D.nx ((sa.set i (some (.loc A2.length []))).set j (some (.loc (A2.length + 1) []))) (A2 ++ [o] ++ [u])
/-! ### fields of things that change -/
def putFo (f : Str) (o : AO) : List (Str × AO) → List (Str × AO)
  | [] => [(f, o)]
  | (g, x) :: r => if g = f then (g, o) :: r else (g, x) :: putFo f o r
theorem foR_put {G H : Hp} {f : Str} {o : AO} {v : V} {fo : List Addr} (ho : aoR K G H o v fo) : ∀ {fs : List (Str × AO)} {vs : List (Str × V)} {fq : List Addr}, foR K G H fs vs fq → (fq ++ fo).Nodup →
    ∃ fq', foR K G H (putFo f o fs) (putF f v vs) fq' ∧ fq'.Nodup ∧ ∀ b ∈ fq', b ∈ fq ∨ b ∈ fo
  | [], vs, fq, h, nd => by
    rw [h.1, h.2] at *
    exact ⟨fo ++ [], ⟨v, [], fo, [], rfl, rfl, ho, rfl, rfl⟩, by simpa using nd, fun b hb => .inr (by simpa using hb)⟩
  | (g, x) :: t, vs, fq, ⟨w, r, f1, f2, h1, h2, h3, h4⟩, nd => by
    subst h1 h2
    rw [List.append_assoc, List.nodup_append] at nd
    obtain ⟨n1, n2, n3⟩ := nd
    unfold putFo putF
    by_cases c : g = f
    · rw [if_pos c, if_pos c]
      rw [List.nodup_append] at n2
      refine ⟨fo ++ f2, ⟨v, r, fo, f2, rfl, rfl, ho, h4⟩, List.nodup_append.mpr ⟨n2.2.1, n2.1, fun x hx y hy => (n2.2.2 y hy x hx).symm⟩, fun b hb => ?_⟩
      rcases List.mem_append.mp hb with z | z
      · exact .inr z
      · exact .inl (List.mem_append_right _ z)
    · rw [if_neg c, if_neg c]
      obtain ⟨fq', q1, q2, q3⟩ := foR_put ho h4 n2
      refine ⟨f1 ++ fq', ⟨w, _, f1, fq', rfl, rfl, h3, q1⟩, List.nodup_append.mpr ⟨n1, q2, fun x hx y hy => n3 x hx y ?_⟩, fun b hb => ?_⟩
      · rcases q3 y hy with z | z
        · exact List.mem_append_left _ z
        · exact List.mem_append_right _ z
      · rcases List.mem_append.mp hb with z | z
        · exact .inl (List.mem_append_left _ z)
        · rcases q3 b z with z | z
          · exact .inl (List.mem_append_right _ z)
          · exact .inr z
theorem foR_len {G H : Hp} : ∀ {fs : List (Str × AO)} {vs : List (Str × V)} {fq : List Addr}, foR K G H fs vs fq → vs.length = fs.length
  | [], vs, fq, h => by rw [h.1]; rfl
  | _ :: _, _, _, ⟨v, r, f1, f2, h1, h2, h3, h4⟩ => by rw [h1, List.length_cons, List.length_cons, foR_len h4]
/-- a field is written: a value, or a new thing (o at v, fo) -/
theorem put_fld {B : Bs} {s : Cs} (r : Rep K B s) {n : Nat} {p : List Str} {v w : V} {C d dx : Addr} {fs : List (Str × AO)} {vs : List (Str × V)} {f : Str} {o : AO} {fo : List Addr} (px : avR K s (.loc n p) v) (e : aoAt s.A n p = some (.ins C fs)) (hv : v = .ref d) (hd : s.H d = some (.ins C dx vs))
    (ho : aoR K s.G s.H o w fo) (nd : fo.Nodup) (off : ∀ b ∈ fo, ∀ i, i < s.A.length → b ∉ s.φ i) (out : ∀ b ∈ fo, s.G b = none) (nb : ∀ b ∈ fo, B.H b = none) :
    ∃ s' : Cs, Rep K B s' ∧ Grw s s' ∧ s'.A = aoSet s.A n p (.ins C (putFo f o fs)) ∧ s'.H = upd s.H d (.ins C dx (putF f w vs)) := by
  -- the new thing is a thing of its own for a while, then a part
  obtain ⟨o0, e1, e2⟩ := Option.bind_eq_some_iff.mp e
  obtain ⟨w0, h1, h2⟩ := r.at' n o0 e1
  obtain ⟨r', q1, q2⟩ := px
  rw [h1] at q1
  cases q1
  obtain ⟨pre, fp, post, z1, z2, z3⟩ := aoR_sub h2 q2 e2
  have hn : n < s.A.length := (List.getElem?_eq_some_iff.mp e1).1
  have nds := r.nd n hn
  rw [z1] at nds
  obtain ⟨d', dx', vs', fq, y1, y2, y3, y4⟩ := z2
  rw [hv] at y1
  cases y1
  rw [hd] at y3
  cases y3
  have hdφ : d ∈ s.φ n := by rw [z1, y2]; simp
  have gd : s.G d = none := r.out n hn d hdφ
  have dfo : d ∉ fo := fun z => off d z n hn hdφ
  have inφ : ∀ b, b ∈ pre ++ (fp ++ post) → b ∈ s.φ n := fun b hb => by rw [z1]; exact hb
  obtain ⟨n1, n2, n3⟩ := List.nodup_append.mp nds
  obtain ⟨n4, n5, n6⟩ := List.nodup_append.mp n2
  have n4' := n4
  rw [y2, List.nodup_cons] at n4'
  have nfq : (fq ++ fo).Nodup := List.nodup_append.mpr ⟨n4'.2, nd, fun x hx y hy z => off y hy n hn (by rw [← z]; exact inφ x (by rw [y2]; simp [hx]))⟩
  have up : ∀ b, b ≠ d → upd s.H d (.ins C dx (putF f w vs)) b = s.H b := fun b hb => upd_ne hb
  have y4' : foR K s.G (upd s.H d (.ins C dx (putF f w vs))) fs vs fq := foR_frame y4 (Le.refl _) fun b hb => up b fun z => n4'.1 (z ▸ hb)
  have ho' : aoR K s.G (upd s.H d (.ins C dx (putF f w vs))) o w fo := aoR_frame ho (Le.refl _) fun b hb => up b fun z => dfo (z ▸ hb)
  obtain ⟨fq', k1, k2, k3⟩ := foR_put (f := f) ho' y4' nfq
  have hd' : d ∉ fq' := fun z => by
    rcases k3 d z with q | q
    · exact n4'.1 q
    · exact dfo q
  have new : aoR K s.G (upd s.H d (.ins C dx (putF f w vs))) (.ins C (putFo f o fs)) v (d :: fq') := ⟨d, dx, _, fq', hv, rfl, upd_same, k1⟩
  have pp : ∀ b ∈ pre ++ post, b ≠ d := fun b hb z => by
    subst z
    rcases List.mem_append.mp hb with q | q
    · exact n3 b q b (List.mem_append_left _ (by rw [y2]; simp)) rfl
    · exact n6 b (by rw [y2]; simp) b q rfl
  have hs : aoSet s.A n p (.ins C (putFo f o fs)) = s.A.set n (aoPut (.ins C (putFo f o fs)) p o0) := by unfold aoSet; rw [e1]
  have mem' : ∀ b, b ∈ pre ++ ((d :: fq') ++ post) → b ∈ s.φ n ∨ b ∈ fo := fun b hb => by
    rcases List.mem_append.mp hb with q | q
    · exact .inl (inφ b (by simp [q]))
    · rcases List.mem_append.mp q with q | q
      · rcases List.mem_cons.mp q with q | q
        · rw [q]; exact .inl hdφ
        · rcases k3 b q with q | q
          · exact .inl (inφ b (by rw [y2]; simp [q]))
          · exact .inr q
      · exact .inl (inφ b (by simp [q]))
  refine ⟨{ s with φ := fun i => if i = n then pre ++ ((d :: fq') ++ post) else s.φ i, A := aoSet s.A n p (.ins C (putFo f o fs)), H := upd s.H d (.ins C dx (putF f w vs)) }, ⟨?_, fun i u ei => ?_, fun i hi => ?_, fun i j hi hj ne b hb hb' => ?_, fun i hi b hb => ?_, fun i hi b hb => ?_, ?_, r.pre, fun P hP => (r.tabs P hP).go (Le.refl _) (upd_ne ((r.tabs P hP).off hd)) (r.tabs P hP).1⟩, ⟨Le.refl _, List.prefix_refl _⟩, rfl, rfl⟩
  · show s.ι.length = (aoSet s.A n p _).length
    rw [hs, List.length_set]; exact r.len
  · have ei : (aoSet s.A n p (.ins C (putFo f o fs)))[i]? = some u := ei
    rw [hs, List.getElem?_set] at ei
    by_cases c : n = i
    · subst c
      rw [if_pos rfl, if_pos hn] at ei
      cases ei
      refine ⟨w0, h1, ?_⟩
      show aoR K _ _ _ _ (if n = n then _ else _)
      rw [if_pos rfl]
      exact z3 (Le.refl _) (fun b hb => up b (pp b hb)) new
    · rw [if_neg c] at ei
      obtain ⟨x, a1, a2⟩ := r.at' i u ei
      refine ⟨x, a1, ?_⟩
      show aoR K _ _ _ _ (if i = n then _ else _)
      rw [if_neg (Ne.symm c)]
      have hi : i < s.A.length := (List.getElem?_eq_some_iff.mp ei).1
      exact aoR_frame a2 (Le.refl _) fun b hb => up b fun z => r.dj i n hi hn (Ne.symm c) b hb (z ▸ hdφ)
  · have hi : i < (aoSet s.A n p (.ins C (putFo f o fs))).length := hi
    rw [hs, List.length_set] at hi
    show (if i = n then _ else _ : List Addr).Nodup
    by_cases c : i = n
    · rw [if_pos c]
      have ap : ∀ b, b ∈ fo → b ∉ s.φ n := fun b hb => off b hb n hn
      refine List.nodup_append.mpr ⟨n1, List.nodup_append.mpr ⟨List.nodup_cons.mpr ⟨hd', k2⟩, n5, fun x hx y hy z => ?_⟩, fun x hx y hy z => ?_⟩
      · subst z
        rcases List.mem_cons.mp hx with q | q
        · exact pp x (List.mem_append_right _ hy) q
        · rcases k3 x q with q | q
          · exact n6 x (by rw [y2]; simp [q]) x hy rfl
          · exact ap x q (inφ x (by simp [hy]))
      · subst z
        rcases List.mem_append.mp hy with q | q
        · rcases List.mem_cons.mp q with q | q
          · exact pp x (List.mem_append_left _ hx) q
          · rcases k3 x q with q | q
            · exact n3 x hx x (List.mem_append_left _ (by rw [y2]; simp [q])) rfl
            · exact ap x q (inφ x (by simp [hx]))
        · exact n3 x hx x (List.mem_append_right _ q) rfl
    · rw [if_neg c]; exact r.nd i hi
  · have hi : i < (aoSet s.A n p (.ins C (putFo f o fs))).length := hi
    have hj : j < (aoSet s.A n p (.ins C (putFo f o fs))).length := hj
    rw [hs, List.length_set] at hi hj
    have hb : b ∈ (if i = n then pre ++ ((d :: fq') ++ post) else s.φ i) := hb
    have hb' : b ∈ (if j = n then pre ++ ((d :: fq') ++ post) else s.φ j) := hb'
    by_cases c : i = n
    · rw [if_pos c] at hb
      rw [if_neg (fun z => ne (c.trans z.symm))] at hb'
      rcases mem' b hb with q | q
      · exact r.dj n j hn hj (fun z => ne (c.trans z)) b q hb'
      · exact off b q j hj hb'
    · rw [if_neg c] at hb
      by_cases c2 : j = n
      · rw [if_pos c2] at hb'
        rcases mem' b hb' with q | q
        · exact r.dj i n hi hn c b hb q
        · exact off b q i hi hb
      · rw [if_neg c2] at hb'
        exact r.dj i j hi hj ne b hb hb'
  · have hi : i < (aoSet s.A n p (.ins C (putFo f o fs))).length := hi
    rw [hs, List.length_set] at hi
    have hb : b ∈ (if i = n then pre ++ ((d :: fq') ++ post) else s.φ i) := hb
    show s.G b = none
    by_cases c : i = n
    · rw [if_pos c] at hb
      rcases mem' b hb with q | q
      · exact r.out n hn b q
      · exact out b q
    · rw [if_neg c] at hb; exact r.out i hi b hb
  · have hi : i < (aoSet s.A n p (.ins C (putFo f o fs))).length := hi
    rw [hs, List.length_set] at hi
    have hb : b ∈ (if i = n then pre ++ ((d :: fq') ++ post) else s.φ i) := hb
    by_cases c : i = n
    · rw [if_pos c] at hb
      rcases mem' b hb with q | q
      · rw [c]; exact r.fr n hn b q
      · exact .inr (nb b q)
    · rw [if_neg c] at hb; exact r.fr i hi b hb
  · rcases r.fr n hn d hdφ with ⟨q1, q2⟩ | q
    · exact r.gr.putW (Bs.inW q1 q2) gd
    · exact r.gr.put q gd
/-- o.f = e -/
def aSFld (C : Addr) (f : Str) (a e : aTE) : aTS := fun D sa A => e sa A fun y A1 => a sa A1 fun x A2 => match x, y with
  | .loc n p, .pv q => ∃ fs, aoAt A2 n p = some (.ins C fs) ∧ fs.length < 1000 ∧ D.nx sa (aoSet A2 n p (.ins C (putFo f (.pv q) fs)))
  | _, _ => False
theorem sim_sfld {C : Addr} {f : Str} {e : aTE} (hc : Cls K C) (hn : NoAttr K C f) (he : SimE K false e te) (ha : SimE K true a ta) : SimS K n0 (aSFld C f a e) (sFld K ta te f) := fun {B s Da D} h0 ed {sa σ} rp gg h =>
  he rp gg (fun y vy s1 e1 py ka => ha e1.rep (gg.stp e1) (fun x vx s2 e2 px k => by
    split at k
    · rename_i n p q
      obtain ⟨fs, k1, k2, k3⟩ := k
      obtain ⟨fp, ⟨d, dx, vs, fq, h1, h2, h3, h4⟩, _⟩ := e2.rep.sub px k1
      have py2 : (rPV K q).P s2.G vy := (rPV K q).mono e2.le py
      obtain ⟨s', r', g', hA, hH⟩ := put_fld (f := f) (o := .pv q) (fo := []) (w := vy) e2.rep px k1 h1 h3 ⟨rfl, py2⟩ List.nodup_nil (fun b hb => (nomatch hb)) (fun b hb => (nomatch hb)) (fun b hb => (nomatch hb))
      refine ⟨d, C, dx, vs, h1, h3, hc, hn, by rw [foR_len h4]; exact k2, ?_⟩
      rw [← hH]
      exact ed.nx s' sa σ r' ((e1.grw.trans e2.grw).trans g') (((gg.stp e1).stp e2).grw g') (by rw [hA]; exact k3)
    · exact k.elim) ka) h
/-- o.f = a new thing -/
def aSFldN (C : Addr) (f : Str) (a : aTE) (e : aTN) : aTS := fun D sa A => e sa A fun o A1 => a sa A1 fun x A2 => match x with
  | .loc n p => ∃ fs, aoAt A2 n p = some (.ins C fs) ∧ fs.length < 1000 ∧ D.nx sa (aoSet A2 n p (.ins C (putFo f o fs)))
  | _ => False
theorem sim_sfldN {C : Addr} {f : Str} {e : aTN} (hc : Cls K C) (hn : NoAttr K C f) (he : SimN K false e te) (ha : SimE K true a ta) : SimS K n0 (aSFldN C f a e) (sFld K ta te f) := fun {B s Da D} h0 ed {sa σ} rp gg h =>
  he rp gg (fun o vy fo s1 e1 nw k => ha (B := Bs.of s1) e1.rep.start (gg.stp e1) (fun x vx s2 e2 px k => by
    split at k
    · rename_i n p
      obtain ⟨fs, k1, k2, k3⟩ := k
      have r2 := e1.rep.rebase e2.rep
      obtain ⟨fp, ⟨d, dx, vs, fq, h1, h2, h3, h4⟩, _⟩ := r2.sub px k1
      obtain ⟨_, pA, pφ, pg⟩ := e2.pure rfl
      have st : ∀ b ∈ fo, s2.H b = s1.H b := fun b hb => by
        obtain ⟨u, c, n⟩ := aoR_nx nw.is b hb
        rw [c]
        exact pg.hhN b u c (fun z => nomatch z) n.1
      obtain ⟨s', r', g', hA, hH⟩ := put_fld (f := f) (o := o) (fo := fo) (w := vy) r2 px k1 h1 h3 (aoR_frame nw.is e2.le st) nw.nd (fun b hb i hi => by rw [pφ]; exact nw.off b hb i (by rw [pA] at hi; exact hi)) (fun b hb => pg.gnone (aoR_there nw.is b hb) (nw.out b hb)) (fun b hb => rp.back (nw.nw b hb))
      refine ⟨d, C, dx, vs, h1, h3, hc, hn, by rw [foR_len h4]; exact k2, ?_⟩
      rw [← hH]
      exact ed.nx s' sa σ r' ((e1.grw.trans e2.grw).trans g') (((gg.stp e1).stp e2).grw g') (by rw [hA]; exact k3)
    · exact k.elim) k) h
end
end TH
/-! Data compared; slices; constants; sets of texts; ways to use the readings. -/
namespace TH
open PySem PySem.Spec PyProof.Rows L2
variable [TC : TabC]
/-! ### data -/
def vdat : V → Option PyData
  | .non => some .none
  | .bl b => some (.bool b)
  | .int i => some (.int i)
  | .str x => some (.str x)
  | _ => none
def PV.dat : PV → Option PyData
  | .v x => vdat x
  | .tup xs => (dats xs).map .tuple
  | .lst xs => (dats xs).map .list
  | .dct _ => none
  | .ins _ _ => none
  | .rel _ => none
where
  dats : List PV → Option (List PyData)
    | [] => some []
    | p :: t => match PV.dat p, dats t with
      | some d, some r => some (d :: r)
      | _, _ => none
theorem dats_cons {p : PV} {t : List PV} {d : PyData} {r : List PyData} (h1 : p.dat = some d) (h2 : PV.dat.dats t = some r) : PV.dat.dats (p :: t) = some (d :: r) := by
  simp only [PV.dat.dats, h1, h2]
theorem dats_map {α : Type} {f : α → PV} {g : α → PyData} (h : ∀ x, (f x).dat = some (g x)) : ∀ xs : List α, PV.dat.dats (xs.map f) = some (xs.map g)
  | [] => rfl
  | x :: t => dats_cons (h x) (dats_map h t)
section
variable {K : PySem.W.Frag} {m ml : Bool} {a b c : aTE} {ta tb te tc : TE} {n0 : Nat}
theorem vdat_ok {H : Hp} {x : V} {d : PyData} (e : vdat x = some d) : Dp K H x d := by
  cases x <;> first | (cases e; first | exact .non | exact .bl _ | exact .int _ | exact .str _) | cases e
mutual
theorem dat_ok {G H : Hp} : ∀ {p : PV} {v : V} {d : PyData}, (rPV K p).P G v → p.dat = some d → Le G H → Dp K H v d
  | .v x, v, d, h, e, le => by rw [show v = x from h]; exact vdat_ok e
  | .dct _, v, d, h, e, le => by cases e
  | .ins _ _, v, d, h, e, le => by cases e
  | .rel _, v, d, h, e, le => by cases e
  | .tup xs, v, d, ⟨a, vs, h1, h2, h3⟩, e, le => by
    obtain ⟨ds, e1, e2⟩ := Option.map_eq_some_iff.mp (show (PV.dat.dats xs).map PyData.tuple = some d from e)
    subst e2 h1
    exact .tup (le.seqT h2) (dats_ok h3 e1 le)
  | .lst xs, v, d, ⟨a, vs, h1, h2, h3⟩, e, le => by
    obtain ⟨ds, e1, e2⟩ := Option.map_eq_some_iff.mp (show (PV.dat.dats xs).map PyData.list = some d from e)
    subst e2 h1
    exact .lst (.of (le.at h2 nf_lst fun z => z)) (dats_ok h3 e1 le)
theorem dats_ok {G H : Hp} : ∀ {xs : List PV} {vs : List V} {ds : List PyData}, Al G (rPs K xs) vs → PV.dat.dats xs = some ds → Le G H → DpAll K H vs ds
  | [], vs, ds, h, e, le => by cases e; cases h; exact .nil
  | p :: t, vs, ds, h, e, le => by
    cases h with
    | cons h t' =>
      cases e1 : p.dat with
      | none => simp only [PV.dat.dats, e1] at e; cases e
      | some d =>
        cases e2 : PV.dat.dats t with
        | none => simp only [PV.dat.dats, e1, e2] at e; cases e
        | some r =>
          simp only [PV.dat.dats, e1, e2] at e
          cases e
          exact .cons (dat_ok h e1 le) (dats_ok t' e2 le)
end
def viewDat (A : Sto) : AV → Option PyData
  | .pv p => p.dat
  | .loc n p => match aoAt A n p with
    | some (.lst xs) => (PV.dat.dats xs).map .list
    | some (.pv q) => q.dat
    | _ => none
theorem viewDat_ok {B : Bs} {s : Cs} {x : AV} {v : V} {d : PyData} (r : Rep K B s) (px : avR K s x v) (e : viewDat s.A x = some d) : Dp K s.H v d := by
  unfold viewDat at e
  split at e
  · exact dat_ok px e r.le
  · split at e
    · rename_i ea
      obtain ⟨ds, e1, e2⟩ := Option.map_eq_some_iff.mp e
      obtain ⟨fp, ⟨a, vs, h1, h2, h3, h4⟩, _⟩ := r.sub px ea
      subst e2 h1
      exact .lst (.of h3) (dats_ok h4 e1 r.le)
    · rename_i ea
      obtain ⟨fp, ⟨h1, h2⟩, _⟩ := r.sub px ea
      exact dat_ok h2 e r.le
    · cases e
def fEqD : aR2 := fun A x y k => ∃ d e, viewDat A x = some d ∧ viewDat A y = some e ∧ SeqAt.shaped d = true ∧ SeqAt.shaped e = true ∧ k (.pv (.v (.bl (PyData.eqv d e))))
def fNeD : aR2 := fun A x y k => ∃ d e, viewDat A x = some d ∧ viewDat A y = some e ∧ SeqAt.shaped d = true ∧ SeqAt.shaped e = true ∧ k (.pv (.v (.bl (!PyData.eqv d e))))
theorem ops_eqD : OpS K fEqD (rEqD K) := fun {B s x y vx vy} r px py {k Q} q h => by
  obtain ⟨d, e, h1, h2, h3, h4, h5⟩ := h
  exact ⟨d, e, viewDat_ok r px h1, viewDat_ok r py h2, h3, h4, q (.pv (.v (.bl _))) _ _ _ r.g0 rfl h5⟩
theorem ops_neD : OpS K fNeD (rNeD K) := fun {B s x y vx vy} r px py {k Q} q h => by
  obtain ⟨d, e, h1, h2, h3, h4, h5⟩ := h
  exact ⟨d, e, viewDat_ok r px h1, viewDat_ok r py h2, h3, h4, q (.pv (.v (.bl _))) _ _ _ r.g0 rfl h5⟩
/-! ### slices -/
def aPO0 : Sg → Sto → (Option Int → Sto → Prop) → Prop := fun _ A k => k none A
def aPO (a : aTE) : Sg → Sto → (Option Int → Sto → Prop) → Prop := fun sa A k => a sa A fun x A1 => match x with
  | .pv (.v (.int i)) => k (some i) A1
  | _ => False
abbrev aTO := Sg → Sto → (Option Int → Sto → Prop) → Prop
def SimO (K : PySem.W.Frag) (m : Bool) (a : aTO) (t : TO) : Prop := ∀ ⦃B : Bs⦄ ⦃s : Cs⦄ ⦃sa : Sg⦄ ⦃σ : L2.St⦄, Rep K B s → SgR K s sa σ → ∀ ⦃Kc : Option Int → Sto → Prop⦄ ⦃Q : Option Int → Hp → Prop⦄, (∀ b s', Stp K B m s s' → Kc b s'.A → Q b s'.H) → a sa s.A Kc → t σ s.H Q
theorem sim_po0 : SimO K m aPO0 tNoPart := fun {B s sa σ} rp g {Kc Q} q h => q none s (.refl rp) h
theorem sim_po (ha : SimE K m a ta) : SimO K m (aPO a) (tPart ta) := fun {B s sa σ} rp g {Kc Q} q h =>
  ha rp g (fun x v s1 e1 px k => by
    split at k
    · rename_i i
      exact ⟨i, px, q _ s1 e1 k⟩
    · exact k.elim) h
def cutP (xs : List PV) (lo hi : Option Int) : List PV := (xs.drop (HT.sIx xs.length 0 lo)).take (HT.sIx xs.length xs.length hi - HT.sIx xs.length 0 lo)
theorem cut_al {G : Hp} {xs : List PV} {vs : List V} (al : Al G (rPs K xs) vs) (lo hi : Option Int) : Al G (rPs K (cutP xs lo hi)) (cutV vs lo hi) := by
  have hl : vs.length = xs.length := by rw [← al.length, rPs_len]
  unfold cutP cutV
  rw [hl, rPs_map]
  rw [rPs_map] at al
  rw [List.map_take, List.map_drop]
  exact (al.drop _).take _
def aSlT (a : aTE) (l h : aTO) : aTE := fun sa A k => a sa A fun x A1 => l sa A1 fun lo A2 => h sa A2 fun hi A3 => ∃ xs, viewF A3 x = some (.tup xs) ∧ k (.pv (.tup (cutP xs lo hi))) A3
theorem sim_slT {l h : aTO} {tl th : TO} (ha : SimE K m a ta) (hl : SimO K true l tl) (hh : SimO K true h th) : SimE K m (aSlT a l h) (tSl (rSlA K) ta tl th) := fun {B s sa σ} rp g {Kc Q} q hq =>
  ha rp g (fun x v s1 e1 px k => hl e1.rep (g.stp e1) (fun lo s2 e2 k => hh e2.rep ((g.stp e1).stp e2) (fun hi s3 e3 k => by
    obtain ⟨xs, k1, k2⟩ := k
    obtain ⟨d, vs, rfl, h1, h2⟩ := viewF_ok e3.rep ((px.stp e2).stp e3) k1
    have hl : vs.length = xs.length := by rw [← h2.length, rPs_len]
    have e13 := e1.trans (e2.weak.trans e3.weak)
    refine ⟨d, vs, rfl, e3.rep.le.seqT h1, fun z => ?_, fun z p hp => ?_⟩
    · have : cutV vs lo hi = vs := by
        unfold cutV
        rw [z.1, z.2, List.drop_zero, Nat.sub_zero, List.take_length]
      exact q (.pv (.tup (cutP xs lo hi))) _ s3 e13 ⟨d, vs, rfl, h1, by have c := cut_al h2 lo hi; rwa [this] at c⟩ k2
    · have c := Gr.new (W := []) e3.rep.le (o := .tup (cutV vs lo hi)) hp
      exact q (.pv (.tup (cutP xs lo hi))) _ _ (e13.trans (.of e3.rep c)) ⟨p, _, rfl, .of upd_same, (cut_al h2 lo hi).mono c.gg⟩ k2) k) k) hq
def aSlL (a : aTE) (l h : aTO) : aTN := fun sa A k => a sa A fun x A1 => l sa A1 fun lo A2 => h sa A2 fun hi A3 => ∃ xs, viewL A3 x = some xs ∧ k (.lst (cutP xs lo hi)) A3
theorem sim_slL {l h : aTO} {tl th : TO} (ha : SimE K m a ta) (hl : SimO K true l tl) (hh : SimO K true h th) : SimN K m (aSlL a l h) (tSl (rSlL K) ta tl th) := fun {B s sa σ} rp g {Kc Q} q hq =>
  ha rp g (fun x v s1 e1 px k => hl e1.rep (g.stp e1) (fun lo s2 e2 k => hh e2.rep ((g.stp e1).stp e2) (fun hi s3 e3 k => by
    obtain ⟨xs, k1, k2⟩ := k
    obtain ⟨d, vs, h0, h1, h2⟩ := viewL_ok e3.rep ((px.stp e2).stp e3) k1
    have e13 := e1.trans (e2.weak.trans e3.weak)
    exact ⟨d, vs, h0, .of h1, fun p hp => q _ _ _ _ ((newH_lst e3.rep hp (cut_al h2 lo hi)).at e3.rep e13).1 ((newH_lst e3.rep hp (cut_al h2 lo hi)).at e3.rep e13).2 k2⟩) k) k) hq
def aRevL (a : aTE) : aTN := fun sa A k => a sa A fun x A1 => ∃ xs, viewL A1 x = some xs ∧ k (.lst xs.reverse) A1
theorem sim_revL (ha : SimE K m a ta) : SimN K m (aRevL a) (tRevL K ta) := fun {B s sa σ} rp g {Kc Q} q hq =>
  ha rp g (fun x v s1 e1 px k => by
    obtain ⟨xs, k1, k2⟩ := k
    obtain ⟨d, vs, h0, h1, h2⟩ := viewL_ok e1.rep px k1
    have al : Al s1.G (rPs K xs.reverse) vs.reverse := by rw [rPs_map, List.map_reverse, ← rPs_map]; exact h2.rev
    exact ⟨d, vs, h0, .of h1, fun p hp => q _ _ _ _ ((newH_lst e1.rep hp al).at e1.rep e1).1 ((newH_lst e1.rep hp al).at e1.rep e1).2 k2⟩) hq
theorem sim_dnew : SimN K m (fun _ A k => k (.dK []) A) tDNewK := fun {B s sa σ} rp g {Kc Q} q h p hp =>
  have n : NewH K s s.G (upd s.H p (.dK [])) (.dK []) (.ref p) [p] := ⟨Gr.own rp.le hp, ⟨p, [], rfl, rfl, upd_same, .nil⟩, by simp, fun b hb => by rw [List.mem_singleton.mp hb]; exact hp, fun b hb => by rw [List.mem_singleton.mp hb]; exact rp.le.free hp⟩
  q _ _ _ _ (n.at (m := m) rp (.refl rp)).1 (n.at (m := m) rp (.refl rp)).2 h
/-- a table of texts that the top made -/
theorem top_strs {a : Addr} {xs : List Str} (h : ∀ H, SqT K H a (xs.map V.str)) (G : Hp) : (rPV K (.tup (xs.map PV.str))).P G (.ref a) := ⟨a, _, rfl, h G, by
  rw [show rPV.rPVs K (xs.map PV.str) = _ from rPs_map K _, List.map_map]
  exact Al.of_vals (f := V.str)⟩
end
/-! ### ways to use: loops, comprehensions -/
theorem aFor_of {wi : aTI} {g : aTG} {b : aTS} {D : AEnds} {sa : Sg} {A : Sto} (I : Nat → Sg → Sto → Prop)
    (h : wi sa A fun xs C A1 => I 0 sa A1 ∧ (∀ i sa A, I i sa A → C A) ∧ (∀ i x sa A, xs[i]? = some x → I i sa A → g (.pv x) sa A fun sa' A' => b { D with nx := I (i + 1), ct := I (i + 1), bk := D.nx } sa' A') ∧ ∀ sa A, I xs.length sa A → D.nx sa A)
    (mono : ∀ k k' : List PV → (Sto → Prop) → Sto → Prop, (∀ xs C A, k xs C A → k' xs C A) → wi sa A k → wi sa A k') : aFor wi g b D sa A := mono _ _ (fun xs C A h => ⟨I, h⟩) h
/-- [e for x in xs if t]: each item gives its own -/
theorem lc_of {α : Type} {g : aTG} {ct : aTT} {e : aTE} {vs : List Nat} {C : Sto → Prop} {A : Sto} {sa : Sg} {k : AO → Sto → Prop} (l : List α) (enc : α → PV) (f : α → Bool) (q : α → PV) (hC : C A)
    (h : ∀ x ∈ l, ∀ (N1 : PV → Sto → Prop) (N2 : Sto → Prop), (f x = true → N1 (q x) A) → (f x = false → N2 A) → g (.pv (enc x)) (aWipe sa vs) A fun sa2 A2 => ct sa2 A2 fun b A3 => if b = true then e sa2 A3 fun y A4 => ∃ p, y = .pv p ∧ N1 p A4 else N2 A3)
    (hl : l.length ≤ 100000) (hk : k (.lst ((l.filter f).map q)) A) : (l.map enc).length ≤ 100000 ∧ ∃ I : Nat → List PV → Sto → Prop, I 0 [] A ∧ (∀ i acc A, I i acc A → C A ∧ acc.length ≤ i) ∧
      (∀ i x acc A, (l.map enc)[i]? = some x → I i acc A → g (.pv x) (aWipe sa vs) A fun sa2 A2 => ct sa2 A2 fun b A3 => if b = true then e sa2 A3 fun y A4 => ∃ p, y = .pv p ∧ I (i + 1) (acc ++ [p]) A4 else I (i + 1) acc A3) ∧
      ∀ acc A, I (l.map enc).length acc A → k (.lst acc) A := by
  refine ⟨by rw [List.length_map]; exact hl, fun i acc A' => A' = A ∧ i ≤ l.length ∧ acc = ((l.take i).filter f).map q, ⟨rfl, Nat.zero_le _, rfl⟩, fun i acc A' ⟨h1, h2, h3⟩ => ⟨h1 ▸ hC, ?_⟩, fun i x acc A' hx ⟨h1, h2, h3⟩ => ?_, fun acc A' ⟨h1, h2, h3⟩ => ?_⟩
  · rw [h3, List.length_map]
    refine Nat.le_trans (List.length_filter_le _ _) ?_
    rw [List.length_take]
    omega
  · subst h1 h3
    rw [List.getElem?_map] at hx
    obtain ⟨y, hy, rfl⟩ := Option.map_eq_some_iff.mp hx
    have hi := (List.getElem?_eq_some_iff.mp hy).1
    have et : l.take (i + 1) = l.take i ++ [y] := by rw [List.take_add_one, hy]; rfl
    refine h y (List.mem_of_getElem? hy) (fun p A4 => A4 = A' ∧ i + 1 ≤ l.length ∧ ((l.take i).filter f).map q ++ [p] = ((l.take (i + 1)).filter f).map q) _ (fun ef => ⟨rfl, hi, ?_⟩) fun ef => ⟨rfl, hi, ?_⟩
    · rw [et, List.filter_append, List.map_append, List.filter_cons, if_pos ef]
      rfl
    · rw [et, List.filter_append, List.map_append, List.filter_cons, if_neg (by rw [ef]; decide)]
      exact (List.append_nil _).symm
  · subst h1 h3
    rw [List.length_map, List.take_length]
    exact hk
/-- [e for x in xs] -/
theorem lc_map {α : Type} {g : aTG} {e : aTE} {vs : List Nat} {C : Sto → Prop} {A : Sto} {sa : Sg} {k : AO → Sto → Prop} (l : List α) (enc : α → PV) (q : α → PV) (hC : C A)
    (h : ∀ x ∈ l, ∀ (N1 : PV → Sto → Prop), N1 (q x) A → g (.pv (enc x)) (aWipe sa vs) A fun sa2 A2 => e sa2 A2 fun y A4 => ∃ p, y = .pv p ∧ N1 p A4)
    (hl : l.length ≤ 100000) (hk : k (.lst (l.map q)) A) : (l.map enc).length ≤ 100000 ∧ ∃ I : Nat → List PV → Sto → Prop, I 0 [] A ∧ (∀ i acc A, I i acc A → C A ∧ acc.length ≤ i) ∧
      (∀ i x acc A, (l.map enc)[i]? = some x → I i acc A → g (.pv x) (aWipe sa vs) A fun sa2 A2 => aYes sa2 A2 fun b A3 => if b = true then e sa2 A3 fun y A4 => ∃ p, y = .pv p ∧ I (i + 1) (acc ++ [p]) A4 else I (i + 1) acc A3) ∧
      ∀ acc A, I (l.map enc).length acc A → k (.lst acc) A :=
  lc_of (ct := aYes) l enc (fun _ => true) q hC (fun x hx N1 N2 h1 _ => h x hx N1 (h1 rfl)) hl (by rw [List.filter_eq_self.mpr fun _ _ => rfl]; exact hk)
theorem alc_of {α : Type} {wi : aTI} {g : aTG} {ct : aTT} {e : aTE} {vs : List Nat} {C : Sto → Prop} {A : Sto} {sa : Sg} {k : AO → Sto → Prop} (l : List α) (enc : α → PV) (f : α → Bool) (q : α → PV) (hs : ∀ Kc : List PV → (Sto → Prop) → Sto → Prop, Kc (l.map enc) C A → wi sa A Kc) (hC : C A)
    (h : ∀ x ∈ l, ∀ (N1 : PV → Sto → Prop) (N2 : Sto → Prop), (f x = true → N1 (q x) A) → (f x = false → N2 A) → g (.pv (enc x)) (aWipe sa vs) A fun sa2 A2 => ct sa2 A2 fun b A3 => if b = true then e sa2 A3 fun y A4 => ∃ p, y = .pv p ∧ N1 p A4 else N2 A3)
    (hl : l.length ≤ 100000) (hk : k (.lst ((l.filter f).map q)) A) : aLc wi g ct e vs sa A k := hs _ (lc_of l enc f q hC h hl hk)
theorem alc_map {α : Type} {wi : aTI} {g : aTG} {e : aTE} {vs : List Nat} {C : Sto → Prop} {A : Sto} {sa : Sg} {k : AO → Sto → Prop} (l : List α) (enc : α → PV) (q : α → PV) (hs : ∀ Kc : List PV → (Sto → Prop) → Sto → Prop, Kc (l.map enc) C A → wi sa A Kc) (hC : C A)
    (h : ∀ x ∈ l, ∀ (N1 : PV → Sto → Prop), N1 (q x) A → g (.pv (enc x)) (aWipe sa vs) A fun sa2 A2 => e sa2 A2 fun y A4 => ∃ p, y = .pv p ∧ N1 p A4)
    (hl : l.length ≤ 100000) (hk : k (.lst (l.map q)) A) : aLc wi g aYes e vs sa A k := hs _ (lc_map l enc q hC h hl hk)
theorem atI_zero {α : Type} {x : α} {t : List α} : atI (x :: t) 0 = some x := by
  unfold atI ixN
  rw [if_pos (by omega), if_pos (by rw [List.length_cons]; omega)]
  rfl
theorem atI_nat {α : Type} {xs : List α} {i : Nat} {x : α} (h : xs[i]? = some x) : atI xs (i : Int) = some x := by
  have hi := (List.getElem?_eq_some_iff.mp h).1
  unfold atI ixN
  rw [if_pos (by omega), if_pos (by omega)]
  exact h
theorem scalS {a b : Str} : scal (.str a) (.str b) = true := rfl
theorem scalI {a b : Int} : scal (.int a) (.int b) = true := rfl
theorem scalB {a b : Bool} : scal (.bl a) (.bl b) = true := rfl
theorem inV_s (x : Str) (xs : List Str) : inV (.str x) (xs.map V.str) = decide (x ∈ xs) := inV_strs x xs
theorem vals_s (xs : List Str) : vals (xs.map fun x => PV.v (.str x)) = some (xs.map V.str) := vals_map V.str xs
theorem vals_s' (xs : List Str) : vals (xs.map PV.str) = some (xs.map V.str) := vals_map V.str xs
theorem flat_s (xs : List Str) : (xs.map V.str).all flatV = true := flat_strs xs
theorem flat_1 {x : Str} : flatV (.str x) = true := rfl
end TH
/-! More readings where a token is out: operations, tests, targets, loops, comprehensions, methods. -/
namespace TH
open PySem PySem.Spec PyProof.Rows L2
variable [TC : TabC]
section
variable {α : Type} {M : Model} {Ar : Around} {t : Sem α} {Q Q' : α → Shared → Prop} {E : Value → Shared → Prop} {s : Shared}
/-- a token stays out -/
theorem keepT (h0 : 1 ≤ s.toks) (h : wpAny M Ar t Q E s) (k : ∀ a s', 1 ≤ s'.toks → Q a s' → Q' a s') : wpAny M Ar t Q' E s :=
  wpAny_mono (PySem.wpAny_toks_of h0 h) (fun a s' z => k a s' z.1 z.2) fun _ _ z => z.2
theorem keepM {E' : Value → Shared → Prop} (h0 : 1 ≤ s.toks) (h : wpAny M Ar t Q E s) (k : ∀ a s', 1 ≤ s'.toks → Q a s' → Q' a s') (kx : ∀ e s', E e s' → E' e s') : wpAny M Ar t Q' E' s :=
  wpAny_mono (PySem.wpAny_toks_of h0 h) (fun a s' z => k a s' z.1 z.2) fun e s' z => kx e s' z.2
theorem keepF (h0 : 1 ≤ s.toks) (h : wpAny M Ar t Q (fun _ _ => False) s) (k : ∀ a s', 1 ≤ s'.toks → Q a s' → Q' a s') : wpAny M Ar t Q' E s :=
  wpAny_mono (PySem.wpAny_toks_of h0 h) (fun a s' z => k a s' z.1 z.2) fun _ _ z => z.2.elim
end
section
variable {X : Cx} {a b c o : Expr} {ta tb te tc : TE} {pos apos pos' : Pos} {tt tu : TT} {ts tz : TS}
/-- two in a row -/
theorem pairT (ha : PET X a ta) (hb : PET X b tb) {pins : List (Addr × Obj)} {s : Shared} {σ : L2.St} {H : Hp} {R : V → V → Hp → Prop} (h0 : 1 ≤ s.toks) (I : Inv X pins σ H s) (h : ta σ H fun x H1 => tb σ H1 fun y H2 => R x y H2)
    {α : Type} {Q : α → Shared → Prop} {f : Value → Value → Sem α} (hf : ∀ v u s2 x y H2, 1 ≤ s2.toks → Inv X pins σ H2 s2 → RelV x v → RelV y u → R x y H2 → wpAny (model X.prog X.w) X.A (f v u) Q X.xe s2) :
    wpAny (model X.prog X.w) X.A (eval a X.env) (fun v s₁ => wpAny (model X.prog X.w) X.A (eval b X.env) (fun u s₂ => wpAny (model X.prog X.w) X.A (f v u) Q X.xe s₂) X.xe s₁) X.xe s :=
  keepT h0 (ha pins s σ H _ h0 I h) fun v s1 k1 ⟨x, H1, I1, r1, q1⟩ => keepT k1 (hb pins s1 σ H1 _ k1 I1 q1) fun u s2 k2 ⟨y, H2, I2, r2, q2⟩ => hf v u s2 x y H2 k2 I2 r1 r2 q2
theorem pet_op {op : Operator} {r : R2} (ho : OpR X (binaryOp op) r) (ha : PET X a ta) (hb : PET X b tb) : PET X (.BinOp a op b pos) (tOp r ta tb) := fun pins s σ H Q h0 I h =>
  wpAny_BinOp (pairT ha hb h0 I h fun v u s2 x y H2 _ I2 rx ry q => ho pins s2 σ H2 x y v u Q I2 rx ry q)
theorem pet_ix {r : R2} (hr : IxR X r) (ha : PET X a ta) (hb : PET X b tb) (hs : PlainIx b) : PET X (.Subscript a b pos) (tOp r ta tb) := fun pins s σ H Q h0 I h =>
  Subscript_ (pairT ha hb h0 I h fun v u s2 x y H2 _ I2 rx ry q => hr a b pins s2 σ H2 x y v u Q I2 rx ry q (hs _ _))
theorem pet_cmpR {op : CmpOp} {r : R2} (ho : OpR X (compareOp op) r) (ha : PET X a ta) (hb : PET X b tb) (hm : behindInMarks op b = false) : PET X (.Compare a [op] [b] pos) (tOp r ta tb) := fun pins s σ H Q h0 I h =>
  wpAny_Compare1 (pairT ha hb h0 I h fun v u s2 x y H2 _ I2 rx ry q => ho pins s2 σ H2 x y v u Q I2 rx ry q) hm
theorem ptt_cmpR {op : CmpOp} {r : R2} (ho : OpR X (compareOp op) r) (ha : PET X a ta) (hb : PET X b tb) (hm : behindInMarks op b = false) : PTT X (.Compare a [op] [b] pos) (tTest (tOp r ta tb)) := fun pins s σ H Q h0 I h => by
  refine wpAny_isTrue_Compare1 (pairT ha hb h0 I h fun v u s2 x y H2 _ I2 rx ry q => thn (ho pins s2 σ H2 x y v u _ I2 rx ry q) fun cv s3 ⟨z, H3, I3, r3, kk, e, q3⟩ => ?_) hm
  subst e
  cases r3
  exact wpAny_truthy_bool ⟨H3, I3, q3⟩
theorem ptt_val (h : PET X a ta) (he : ∀ whole, isTrue a X.env whole = (do let v ← whole; standAt a.pos; holding [v] (truthy v)) := by intro _; rfl) : PTT X a (tB ta) := fun pins s σ H Q h0 I q => by
  refine isTrue_plain (thn (h pins s σ H _ h0 I q) fun v s1 ⟨x, H1, I1, r1, q1⟩ => ?_) (he _)
  obtain ⟨d, rfl, q1⟩ := q1
  cases r1
  exact wpAny_truthy_bool ⟨H1, I1, q1⟩
theorem ptt_not (ha : PTT X a tt) : PTT X (.UnaryOp .Not a pos) (tNot tt) := fun pins s σ H Q h0 I h => isTrue_not (ha pins s σ H (fun d H1 => Q (!d) H1) h0 I h)
/-- and, or, whatever the whole is -/
def PWT (X : Cx) (e : Expr) (t : TT) : Prop := ∀ (whole : Sem Value) (pins : List (Addr × Obj)) (s : Shared) (σ : L2.St) (H : Hp) (Q : Bool → Hp → Prop), 1 ≤ s.toks → Inv X pins σ H s → t σ H Q → wpAny (model X.prog X.w) X.A (isTrue e X.env whole) (TP X pins σ Q) X.xe s
theorem PWT.ptt {e : Expr} (h : PWT X e tt) : PTT X e tt := fun pins s σ H Q h0 I q => h _ pins s σ H Q h0 I q
variable {rest : List Expr}
theorem pwt_and1 (ha : PTT X a tt) : PWT X (.BoolOp .And [a] pos) tt := fun wh pins s σ H Q h0 I h => isTrue_and (thn (ha pins s σ H Q h0 I h) fun d s1 e => by
  cases d with
  | false => exact e
  | true => exact isTrue_and_nil e)
theorem pwt_or1 (ha : PTT X a tt) : PWT X (.BoolOp .Or [a] pos) tt := fun wh pins s σ H Q h0 I h => isTrue_or (thn (ha pins s σ H Q h0 I h) fun d s1 e => by
  cases d with
  | true => exact e
  | false => exact isTrue_or_nil e)
theorem pwt_and (ha : PTT X a tt) (hb : PWT X (.BoolOp .And (b :: rest) pos) tu) : PWT X (.BoolOp .And (a :: b :: rest) pos) (tAnd tt tu) := fun wh pins s σ H Q h0 I h => isTrue_and (keepT h0 (ha pins s σ H _ h0 I h) fun d s1 k1 ⟨H1, I1, q1⟩ => by
  cases d with
  | false => exact ⟨H1, I1, q1⟩
  | true => exact hb wh pins s1 σ H1 Q k1 I1 q1)
theorem pwt_or (ha : PTT X a tt) (hb : PWT X (.BoolOp .Or (b :: rest) pos) tu) : PWT X (.BoolOp .Or (a :: b :: rest) pos) (tOr tt tu) := fun wh pins s σ H Q h0 I h => isTrue_or (keepT h0 (ha pins s σ H _ h0 I h) fun d s1 k1 ⟨H1, I1, q1⟩ => by
  cases d with
  | true => exact ⟨H1, I1, q1⟩
  | false => exact hb wh pins s1 σ H1 Q k1 I1 q1)
/-! ### statements -/
theorem pst_asg {tg e : Expr} {g : TG} (he : PET X e te) (hg : PG X tg g) (hs : swapsWithSole [tg] e pos.line X.env = pure false := by rfl) (hw : swappedStores [tg] e X.env = pure none := by rfl) (h1 : (assignEach [tg] X.env).map (·.2) = [assign tg X.env] := by rfl) : PST X (.Assign [tg] e pos) (tAsg te g) := fun pins s σ H D h0 I h => by
  refine wpAny_Assign_stores (thn (he pins s σ H _ h0 I h) fun v s1 ⟨x, H1, I1, r1, q1⟩ => ?_) hs hw
  rw [h1]
  exact thn (hg.run pins s1 σ H1 x v _ I1 r1 q1) fun _ s2 z => z
/-- for, its body where a token is out -/
theorem pst_forT {tg iter : Expr} {body : List Stmt} {wi : TI} {g : TG} (own : PassesOwn (model X.prog X.w) X.A X.env X.xe) (calm : X.calm = true) (src : PIT X tg iter wi) (hg : PG X tg g) (hb : PSsT X body ts)
    (plain : ∀ x, foldedSetIterable iter X.env x = pure x := by intro _; rfl) : PST X (.For tg iter body [] pos) (tFor wi g ts) := fun pins s σ H D h0 I h => by
  refine wpAny_For (keepT h0 (src pins s σ H _ h0 I h) fun v s1 k1 z1 => keepT k1 z1 fun itv s2 k2 z2 => ?_) plain
  obtain ⟨it, fp, tn, J, H2, rfl, I2, T, at2, free2, W, ⟨m0, w0⟩, turn⟩ := z2
  have fpok : ∀ {H' : Hp}, (∀ b ∈ fp, H' b = none) → ∀ b ∈ fp, FpOk X pins H' b := fun hn b hb => ⟨hn b hb, (free2 b hb).2⟩
  refine codeAny_forLoop_any (fun n s' => 1 ≤ s'.toks ∧ ∃ i σ' H', Inv X pins σ' H' s' ∧ tn i s'.heap ∧ (∀ b ∈ fp, H' b = none) ∧ W i n σ' H') ?_ m0 ⟨k2, 0, σ, H2, I2, at2, fun b hb => (free2 b hb).1, w0⟩
  rintro n s3 ⟨k3, i, σ3, H3, I3, at3, free3, w3⟩
  rcases turn i n σ3 H3 w3 with ⟨stops, fin⟩ | ⟨goes, N, back, step⟩
  · refine wpAny_passesOwn own (thn (T.done X rfl rfl rfl calm i pins s3 σ3 H3 X.xe I3 (fpok free3) at3 stops) fun res s4 ⟨er, I4⟩ => ?_)
    subst er
    exact wpAny_execs_nil ⟨σ3, H3, I4, fin⟩
  · refine wpAny_passesOwn own (keepT k3 (T.item X rfl rfl rfl calm i pins s3 σ3 H3 X.xe I3 (fpok free3) at3 goes) fun res s4 k4 ⟨u, er, z4⟩ => ?_)
    subst er
    refine wpAny_passesOwn own (keepT k4 z4 fun _ s5 k5 ⟨x, H5, I5, r5, y5, at5, free5⟩ => ?_)
    have J5 := I5.pinned (fpok free5) (T.obj _ _ at5)
    refine wpAny_passesOwn own (keepT k5 (hg.run _ s5 σ3 H5 x u _ J5 r5 (step x H5 y5)) fun _ s6 k6 ⟨σ6, H6, I6, q6⟩ => ?_)
    refine wpAny_passesOwn own (keepT k6 (hb _ s6 σ6 H6 _ k6 I6 q6) fun fl s7 k7 q7 => ?_)
    have next : ∀ {σ7 : L2.St} {H7 : Hp}, Inv X (pins ++ pinsAt fp s5.heap) σ7 H7 s7 → N σ7 H7 → ∃ m, m < n ∧ 1 ≤ s7.toks ∧ ∃ i σ' H', Inv X pins σ' H' s7 ∧ tn i s7.heap ∧ (∀ b ∈ fp, H' b = none) ∧ W i m σ' H' := fun {σ7 H7} I7 n7 => by
      obtain ⟨m', lt, w7⟩ := back σ7 H7 n7
      have pinned : ∀ b ∈ fp, ∀ ob, s5.heap.get? b = some ob → s7.heap.get? b = some ob ∧ H7 b = none := fun b hb ob e =>
        have z := I7.pin (b, ob) (List.mem_append_right _ (List.mem_append_right _ (mem_pinsAt hb e)))
        ⟨z.1, z.2.1⟩
      exact ⟨m', lt, k7, i + 1, σ7, H7, I7.unpinned, T.keep _ _ _ at5 fun b hb ob e => (pinned b hb ob e).1, fun b hb => let ⟨ob, e, _⟩ := T.obj _ _ at5 b hb; (pinned b hb ob e).2, w7⟩
    cases fl with
    | ret v => obtain ⟨x7, σ7, H7, I7, r7, z7⟩ := q7; exact ⟨x7, σ7, H7, I7.unpinned, r7, z7⟩
    | brk => obtain ⟨σ7, H7, I7, z7⟩ := q7; exact ⟨σ7, H7, I7.unpinned, z7⟩
    | cont => obtain ⟨σ7, H7, I7, n7⟩ := q7; exact next I7 n7
    | next => obtain ⟨σ7, H7, I7, n7⟩ := q7; exact next I7 n7
theorem PIT.of {tg iter : Expr} {wi : TI} (h : PI X tg iter wi) : PIT X tg iter wi := fun pins s σ H R _ I q => h.run pins s σ H R I q
theorem pit_tup {tg l : Expr} {tl : TE} (hl : PET X l tl) : PIT X tg l (iTup X.K tl) := fun pins s σ H R h0 I h =>
  thn (hl pins s σ H _ h0 I h) fun v s1 ⟨x, H1, I1, r1, q1⟩ => by
    obtain ⟨d, ex, ⟨xs, seq⟩, q⟩ := q1
    subst ex
    cases r1
    obtain ⟨its, rv, tp, sz⟩ := I1.tuple seq
    refine wpAny_pyIter_tuple (show s1.heap.IsTuple d its.toArray from tp) ⟨s1.heap.objs.size, [s1.heap.objs.size], _, _, H1, rfl, I1.kept (t' := s1.toks) fun b o e => Heap.get?_push_of_some _ e, turn_tuple d _, ⟨_, Heap.get?_push_size _ rfl, rfl, rfl⟩, fun b hb => ?_, q⟩
    rw [List.mem_singleton.mp hb]
    exact I1.fpOk (Nat.le_refl _) (I1.hok.fresh (Nat.le_refl _))
/-! ### [e for x in xs if t], a token out -/
def PTsT (X : Cx) (l : List Expr) (t : TT) : Prop := ∀ (pins : List (Addr × Obj)) (s : Shared) (σ : L2.St) (H : Hp) (Q : Bool → Hp → Prop), 1 ≤ s.toks → Inv X pins σ H s → t σ H Q →
  wpAny (model X.prog X.w) X.A (forIn l true fun c r => if r = true then do let ok ← isTrue c X.env (eval c X.env); pure (ForInStep.yield ok) else pure (ForInStep.yield r)) (TP X pins σ Q) X.xe s
theorem PTsT.of {l : List Expr} (h : PTs X l tt) : PTsT X l tt := fun pins s σ H Q _ I q => h.run pins s σ H Q I q
theorem ptst_one {e : Expr} (h : PTT X e tt) : PTsT X [e] tt := fun pins s σ H Q h0 I q => wpAny_tests_one (h pins s σ H Q h0 I q)
section
variable {elt tg iter : Expr} {ifs : List Expr} {scope : Scope} {own : List (Str × Nat)} {wi : TI} {g : TG} {te : TE}
theorem lcT {pins : List (Addr × Obj)} {s : Shared} {σ : L2.St} {H : Hp} {Q : VK} {use : Option (Value → Sem Unit)} {Qf : Value → Shared → Prop} (calm : X.calm = true) (nodup : X.N.Nodup) (h0 : 1 ≤ s.toks) (I : Inv X pins σ H s) (src : PIT X tg iter wi) (ok : BlkOk X.N X.env.scope scope own)
    (hg : ∀ (s : Shared) (H : Hp) (C : Addr) (cl : List (Str × Addr)) (fp : List Addr), PG (X.blk s H scope (compEnvC scope cl C X.env) fp) tg g) (ht : ∀ (s : Shared) (H : Hp) (C : Addr) (cl : List (Str × Addr)) (fp : List Addr), PTsT (X.blk s H scope (compEnvC scope cl C X.env) fp) ifs tt)
    (he : ∀ (s : Shared) (H : Hp) (C : Addr) (cl : List (Str × Addr)) (fp : List Addr), PET (X.blk s H scope (compEnvC scope cl C X.env) fp) elt te) (plain : ∀ x, foldedSetIterable iter X.env x = pure x) (h : tLc wi g tt te (own.map (·.2)) σ H Q)
    (done : ∀ D C s' m H', 1 ≤ s'.toks → Inv X pins σ H' s' → Q (.ref D) H' → s'.heap.Ns C m → FpOk X pins H' C → compPost (model X.prog X.w) X.A X.xe use Qf (.ref D) C (.ok .next) s') :
    wpAny (model X.prog X.w) X.A (comprehension (.ListComp elt [⟨tg, iter, ifs, 0⟩] scope pos) scope X.env pos' (newList []) false (eval iter X.env) use) Qf X.xe s := by
  have frees : ∀ y ∈ scope.names, y.2 = .free → ∃ c, X.env.cells.lookup y.1 = some c := fun y hy e => I.ok.has _ (ok.free y hy e)
  refine wpAny_comprehension_free (use := use) rfl plain (closure_ok frees) ok.kind (fun y hy e => by rw [ok.uniq y hy, e]) (keepT h0 (src pins s σ H _ h0 I h) fun xv s1 k1 hx => keepT k1 hx fun itv s2 k2 h2 => ?_)
  obtain ⟨it, fp, tn, J, H2, eit, I2, T, at2, free2, q⟩ := h2
  subst eit
  refine wpAny_newObj_type (newEnv_comp ?_) (show 0 ≤ sizeLine by decide)
  generalize eD : s2.heap.objs.size = D
  have freeD : H2 D = none := I2.hok.fresh (Nat.le_of_eq eD)
  obtain ⟨W, ⟨m0, w0⟩, turn⟩ := q D freeD
  -- the new list is made
  generalize e3 : ({ s2 with heap := s2.heap.push { cls := .type "list", data := .seq ([] : List Value).toArray } } : Shared) = s3
  have k3 : 1 ≤ s3.toks := by rw [← e3]; exact k2
  have heap3 : s3.heap = s2.heap.push { cls := .type "list", data := .seq ([] : List Value).toArray } := by rw [← e3]
  have I3 : Inv X pins σ (upd H2 D (.lst [])) s3 := by
    rw [← e3]
    exact I2.laid (t' := s2.toks) (fun b o e => Heap.get?_push_of_some _ e) (Nat.le_of_eq eD) ⟨Nat.zero_le _, [], 0, .nil, by rw [← eD]; exact Heap.get?_push_size _ rfl⟩
  have small : ∀ b ∈ fp, b < s2.heap.objs.size := fun b hb => let ⟨o, e, _⟩ := T.obj _ _ at2 b hb; Heap.lt_size e
  have free3 : ∀ b ∈ fp, FpOk X pins (upd H2 D (.lst [])) b ∧ b < s3.heap.objs.size := fun b hb => by
    have lt := small b hb
    refine ⟨⟨?_, (free2 b hb).2⟩, by rw [heap3, Heap.size_push]; exact Nat.lt_succ_of_lt lt⟩
    rw [upd_ne (show b ≠ D by rw [← eD]; exact Nat.ne_of_lt lt)]
    exact (free2 b hb).1
  have at3 : tn 0 s3.heap := T.keep _ _ _ at2 fun b _ o e => by rw [heap3]; exact Heap.get?_push_of_some _ e
  have I4 := block_start I3 ok nodup free3
  generalize ecl : cellsFrom (s3.heap.objs.size + 1) scope.names (cloFrom X.env.cells scope.names []) = cl at I4 ⊢
  have pg := hg s3 (upd H2 D (.lst [])) s3.heap.objs.size cl fp
  have pt := ht s3 (upd H2 D (.lst [])) s3.heap.objs.size cl fp
  have pe := he s3 (upd H2 D (.lst [])) s3.heap.objs.size cl fp
  show codeAny _ _ (.compStart (.ListComp elt [⟨tg, iter, ifs, 0⟩] scope pos) 0 (.ref it) (.ref D) (compEnvC scope cl s3.heap.objs.size X.env)) (compPost (model X.prog X.w) X.A X.xe use Qf (.ref D) s3.heap.objs.size) { s3 with heap := pushCells (s3.heap.push { cls := .type "dict", data := .dict #[] }) scope.names }
  have nofp : ∀ b ∈ fp, (upd H2 D (.lst [])) b = none := fun b hb => (free3 b hb).1.1
  generalize ece : compEnvC scope cl s3.heap.objs.size X.env = ce at I4 pg pt pe ⊢
  have locals : ce.locals = s3.heap.objs.size := by subst ece; rfl
  generalize eH3 : upd H2 D (.lst []) = H3 at I3 I4 pg pt pe w0 nofp free3
  generalize e4 : ({ s3 with heap := pushCells (s3.heap.push { cls := .type "dict", data := .dict #[] }) scope.names } : Shared) = s4 at I4 ⊢
  have k4 : 1 ≤ s4.toks := by rw [← e4]; exact k3
  have at4 : tn 0 s4.heap := T.keep _ _ _ at3 fun b _ o e => by rw [← e4]; exact pushCells_keeps _ _ _ _ (Heap.get?_push_of_some _ e)
  have fpok : ∀ {σ' : L2.St} {H' : Hp} {s' : Shared}, Inv (X.blk s3 H3 scope ce fp) [] σ' H' s' → (∀ b ∈ fp, H' b = none) → ∀ b ∈ fp, FpOk (X.blk s3 H3 scope ce fp) [] H' b := fun {σ' H' s'} I' hn b hb =>
    ⟨hn b hb, (I'.ok.exf b hb).1, I'.ok.exfs b hb, .inl hb, fun x c e => (I'.ok.exf b hb).2 x c e, fun p hp => absurd (show p ∈ ([] : List (Addr × Obj)) ++ [] from hp) (by simp)⟩
  have loop : codeAny (model X.prog X.w) X.A (.compLoop (.ListComp elt [⟨tg, iter, ifs, 0⟩] scope pos) 0 (.ref it) (.ref D) ce) (compPost (model X.prog X.w) X.A X.xe use Qf (.ref D) s3.heap.objs.size) s4 := by
    refine compLoop_any (fun n s' => 1 ≤ s'.toks ∧ ∃ i H', Inv (X.blk s3 H3 scope ce fp) [] (wipe σ (own.map (·.2))) H' s' ∧ tn i s'.heap ∧ (∀ b ∈ fp, H' b = none) ∧ W i n H') ?_ m0 ⟨k4, 0, H3, I4, at4, nofp, w0⟩
    rintro n s5 ⟨k5, i, H5, I5, at5, n5, w5⟩
    rcases turn i n H5 w5 with ⟨stops, fin⟩ | ⟨goes, Nx, back, step⟩
    · refine keepF k5 (T.done (X.blk s3 H3 scope ce fp) rfl rfl rfl calm i [] s5 _ H5 (fun _ _ => False) I5 (fpok I5 n5) at5 stops) fun r s6 k6 ⟨er, I6⟩ => ?_
      subst er
      have I7 : Inv X pins σ H5 s6 := I3.call' (ch := fp) I6.os I6.base I6.hok I6.bare fun b hb => ⟨(free3 b hb).1.2.2.2.1, (free3 b hb).1.2.1, (free3 b hb).1.2.2.2.2.1, (free3 b hb).1.2.2.2.2.2⟩
      have nC : H5 s3.heap.objs.size = none := by rw [← locals]; exact I6.free
      obtain ⟨m, hn, _⟩ := I6.loc
      have hn : s6.heap.Ns ce.locals m := hn
      rw [locals] at hn
      exact done D s3.heap.objs.size s6 m H5 k6 I7 fin hn (I3.fpOk (Nat.le_refl _) nC)
    · refine keepF k5 (T.item (X.blk s3 H3 scope ce fp) rfl rfl rfl calm i [] s5 _ H5 (fun _ _ => False) I5 (fpok I5 n5) at5 goes) fun r s6 k6 ⟨u, er, h6⟩ => ?_
      subst er
      refine keepF k6 h6 fun _ s7 k7 ⟨x, H7, I7, r7, y7, at7, n7⟩ => ?_
      have J7 := I7.pinned (fpok I7 n7) (T.obj _ _ at7)
      refine keepF k7 (pg.run _ s7 _ H7 x u _ J7 r7 (step x H7 y7)) fun _ s8 k8 ⟨σ8, H8, I8, w8, q8⟩ => ?_
      refine keepF k8 (pt _ s8 σ8 H8 _ k8 I8 q8) fun b s9 k9 ⟨H9, I9, q9⟩ => ?_
      have next : ∀ {s' : Shared} {H' : Hp}, 1 ≤ s'.toks → Inv (X.blk s3 H3 scope ce fp) ([] ++ pinsAt fp s7.heap) σ8 H' s' → Nx H' → ∃ m, m < n ∧ 1 ≤ s'.toks ∧ ∃ i H', Inv (X.blk s3 H3 scope ce fp) [] (wipe σ (own.map (·.2))) H' s' ∧ tn i s'.heap ∧ (∀ b ∈ fp, H' b = none) ∧ W i m H' := fun {s' H'} k' I' nx => by
        obtain ⟨m', lt, w'⟩ := back H' nx
        have pinned : ∀ b ∈ fp, ∀ o, s7.heap.get? b = some o → s'.heap.get? b = some o ∧ H' b = none := fun b hb o e =>
          have z := I'.pin (b, o) (List.mem_append_right _ (List.mem_append_right _ (mem_pinsAt hb e)))
          ⟨z.1, z.2.1⟩
        have len : (wipe σ (own.map (·.2))).length = σ8.length := by rw [← w8, wipe_length]
        refine ⟨m', lt, k', i + 1, H', (I'.unpinned (pins := [])).weak len (fun j v e => ?_), T.keep _ _ _ at7 fun b hb o e => (pinned b hb o e).1, fun b hb => let ⟨o, e, _⟩ := T.obj _ _ at7 b hb; (pinned b hb o e).2, w'⟩
        rw [← w8] at e
        exact (wipe_some e).1
      cases b with
      | false => exact next k9 I9 q9
      | true => exact keepF k9 (pe _ s9 σ8 H9 _ k9 I9 q9) fun z s10 k10 ⟨yv, H10, I10, r10, acc, hD10, hz10, nx⟩ => PySem.wpAny_with_toks (n := 1) k10 (L2.app_ok (X := X.blk s3 H3 scope ce fp) I10 hD10 hz10 r10 fun s11 I11 k11 => next k11 I11 nx)
  exact codeAny_compStart_list loop (T.self X.A 0 _ _ _ at4 loop)
theorem pet_lc (calm : X.calm = true) (nodup : X.N.Nodup) (src : PIT X tg iter wi) (ok : BlkOk X.N X.env.scope scope own)
    (hg : ∀ (s : Shared) (H : Hp) (C : Addr) (cl : List (Str × Addr)) (fp : List Addr), PG (X.blk s H scope (compEnvC scope cl C X.env) fp) tg g) (ht : ∀ (s : Shared) (H : Hp) (C : Addr) (cl : List (Str × Addr)) (fp : List Addr), PTsT (X.blk s H scope (compEnvC scope cl C X.env) fp) ifs tt)
    (he : ∀ (s : Shared) (H : Hp) (C : Addr) (cl : List (Str × Addr)) (fp : List Addr), PET (X.blk s H scope (compEnvC scope cl C X.env) fp) elt te) (plain : ∀ x, foldedSetIterable iter X.env x = pure x := by intro _; rfl) :
    PET X (.ListComp elt [⟨tg, iter, ifs, 0⟩] scope pos) (tLc wi g tt te (own.map (·.2))) := fun pins s σ H Q h0 I h => by
  rw [eval_ListComp]
  refine lcT calm nodup h0 I src ok hg ht he plain h fun D C s' m H' _ I' q hn ⟨f0, f1, f2, f3, f4, f5⟩ => ⟨m, hn, fun h'' sb => ?_⟩
  exact ⟨.ref D, H', I'.turned (t' := s'.toks) (fun b o hb e => (sb.2 b hb).trans e) f0 f1 f3 f4 f5, rfl, q⟩
end
/-! ### methods -/
section
variable {CX : CXT} {k : Nat} {f C : Addr} {fd : FuncData} {ps : List Str} {sp : Sp} {dvs : List V} {ds : List Value} {E : XK} {m : Str} {es : List Expr} {t : TA} {e : Expr}
theorem pet_methR {pl : Sem Bool} (he : PET X o ta) (c : Cls X.K C) (hm : Meth X.K C m f) (F : FnT X.prog X.w X.K X.mg X.base CX k f fd ps sp) (hr : Room k X.A) (hb : Binds X.K fd ps ds) (hd : Vals dvs ds) (hx : Passes CX X E)
    (ht : eval (.Call (.Attribute o m apos) [] [] pos) X.env = (do
      let ov ← eval o X.env
      standAt apos.atName
      let (f, first) ← holding [ov] (getMethod ov m pl)
      callWith pos f first (backTo pos (starEach [] X.env)) (backToKw pos (keywordEach [] X.env))) := by rfl) : PET X (.Call (.Attribute o m apos) [] [] pos) (tMeth C m sp dvs E ta tNil) := fun pins s σ H Q h0 I h => by
  refine wpAny_with_toks (n := 1) h0 (PySem.W.methodCall_KW (pl := pl) (keepM h0 (he pins s σ H _ h0 I h) (fun u s1 k1 ⟨x, H1, I1, rx, a, dx, fs, ex, ea, l, q⟩ => ?_) fun e s' z => fun _ => z) ht)
  subst ex
  obtain rfl : u = Value.ref a := rx
  refine getmeth_ok I1 ea c hm l ?_
  exact wpAny_mono (PySem.W.callWith_K0 (first := [.ref a]) I1.kIn hm.kp (run_fnT (us := [.ref a]) (vs := [.ref a]) F hr hb hd hx k1 I1 (.cons rfl .nil) q)) (fun _ _ z _ => z) fun _ _ z _ => z
end
end
end TH
/-! Defs that want a token out, by name; a token comes out. -/
namespace TH
open PySem PySem.Spec PyProof.Rows L2
variable [TC : TabC]
/-- a def, a class, a method that wants a token out -/
structure CalT (P : Program) (w : World) (K : PySem.W.Frag) (mg : Str → Option Value) (base : Heap) (k : Nat) (x : Str) (sp : Sp) (dvs : List V) : Prop where
  ex : ∃ (f : Addr) (fd : FuncData) (ps : List Str) (ds : List Value), FnT P w K mg base CX0 k f fd ps sp ∧ mg x = some (.ref f) ∧ PySem.W.keepIn K (.ref f) = true ∧ Binds K fd ps ds ∧ Vals dvs ds
structure MakT (P : Program) (w : World) (K : PySem.W.Frag) (mg : Str → Option Value) (base : Heap) (k : Nat) (x : Str) (C : Addr) (sp : Sp) (dvs : List V) : Prop where
  ex : ∃ (f : Addr) (fd : FuncData) (ps : List Str) (ds : List Value), Mk K C f ∧ FnT P w K mg base CX0 k f fd ps sp ∧ mg x = some (.ref C) ∧ Binds K fd ps ds ∧ Vals dvs ds
structure MetT (P : Program) (w : World) (K : PySem.W.Frag) (mg : Str → Option Value) (base : Heap) (k : Nat) (C : Addr) (m : Str) (sp : Sp) (dvs : List V) : Prop where
  ex : ∃ (f : Addr) (fd : FuncData) (ps : List Str) (ds : List Value), Cls K C ∧ Meth K C m f ∧ FnT P w K mg base CX0 k f fd ps sp ∧ Binds K fd ps ds ∧ Vals dvs ds
section
variable {P : Program} {w : World} {K : PySem.W.Frag} {mg : Str → Option Value} {base : Heap} {CX : CXT} {j k : Nat} {f C : Addr} {fd : FuncData} {ps : List Str} {sp : Sp} {x m : Str} {dvs : List V}
theorem FnT.mono (F : FnT P w K mg base CX j f fd ps sp) (h : j ≤ k) : FnT P w K mg base CX k f fd ps sp := ⟨F.len, fun A outer s H args us vs Q E h0 hr => F.run A outer s H args us vs Q E h0 (hr.mono h)⟩
theorem CalT.of (c : C8.Cal P w K mg base k x sp dvs) : CalT P w K mg base k x sp dvs := let ⟨f, fd, ps, ds, F, r⟩ := c.ex; ⟨f, fd, ps, ds, fnT_of F, r⟩
theorem MetT.of (c : C8.Met P w K mg base k C m sp dvs) : MetT P w K mg base k C m sp dvs := let ⟨f, fd, ps, ds, c, m, F, r⟩ := c.ex; ⟨f, fd, ps, ds, c, m, fnT_of F, r⟩
end
section
variable {X : Cx} {k j : Nat} {C : Addr} {x m : Str} {sp : Sp} {dvs : List V} {p pos apos : Pos} {e o : Expr} {es : List Expr} {ta : TE} {t : TA}
theorem pet_c (c : CalT X.prog X.w X.K X.mg X.base k x sp dvs) (hr : Room j X.A) (hk : k ≤ j) (hg : Gl X x) (ha : PAT X (e :: es) t)
    (hdb : (x == ("__debug__" : Str)) = false := by decide) (he : starEach (e :: es) X.env = (false, eval e X.env) :: starEach es X.env := by rfl) (hpl : (backTo pos (starEach es X.env)).any (·.1) = false := by rfl) :
    PET X (.Call (.Name x p) (e :: es) [] pos) (tCall sp dvs C8.E0 t) := by
  obtain ⟨f, fd, ps, ds, F, hm, kp, b, d⟩ := c.ex
  exact pet_call F (hr.mono hk) hg hm kp b d C8.pass0 ha hdb he hpl
theorem pet_mk (c : MakT X.prog X.w X.K X.mg X.base k x C sp dvs) (hr : Room j X.A) (hk : k + 1 ≤ j) (hg : Gl X x) (ha : PAT X (e :: es) t)
    (hdb : (x == ("__debug__" : Str)) = false := by decide) (he : starEach (e :: es) X.env = (false, eval e X.env) :: starEach es X.env := by rfl) (hpl : (backTo pos (starEach es X.env)).any (·.1) = false := by rfl) :
    PET X (.Call (.Name x p) (e :: es) [] pos) (tMake C sp dvs C8.E0 t) := by
  obtain ⟨f, fd, ps, ds, M, F, hm, b, d⟩ := c.ex
  exact pet_make M F (hr.mono hk) hg hm b d C8.pass0 ha hdb he hpl
theorem pet_mt0 {pl : Sem Bool} (c : MetT X.prog X.w X.K X.mg X.base k C m sp dvs) (hr : Room j X.A) (hk : k ≤ j) (he : PET X o ta)
    (ht : eval (.Call (.Attribute o m apos) [] [] pos) X.env = (do
      let ov ← eval o X.env
      standAt apos.atName
      let (f, first) ← holding [ov] (getMethod ov m pl)
      callWith pos f first (backTo pos (starEach [] X.env)) (backToKw pos (keywordEach [] X.env))) := by rfl) :
    PET X (.Call (.Attribute o m apos) [] [] pos) (tMeth C m sp dvs C8.E0 ta tNil) := by
  obtain ⟨f, fd, ps, ds, hc, hm, F, b, d⟩ := c.ex
  exact pet_methR (pl := pl) he hc hm F (hr.mono hk) b d C8.pass0 ht
end
/-! ### a def by its body, a token out -/
theorem PSsT.nox {X : Cx} {st : List Stmt} {t : TS} (h : PSsT X.nox st t) : PSsT X st t := fun pins s σ H D h0 I hw =>
  wpAny_mono (h pins s σ H D h0 (I.wish _) hw) (fun _ _ q => q.unwish) fun _ _ z => z.elim
section
variable {P : Program} {w : World} {K : PySem.W.Frag} {mg : Str → Option Value} {base : Heap} {x qual : Str} {params : Arguments} {body : List Stmt} {scope : Scope} {f : Addr} {fd : FuncData} {N ps : List Str} {k n0 : Nat} {ac : AC} {dvs : List V} {kws : List (Str × V)}
theorem fnAT (F : FunD K x qual params body scope dvs kws f fd) (S : FnScope N ps scope) {at' : aTS} (hlen : ∀ avs A Kc, ac avs A Kc → avs.length = ps.length ∧ A.length = n0)
    (hb : ∀ (cdv : Value) (A : Around) (outer : List PySem.Env) (s : Shared) (H : Hp) (E : XK), Room k (A.deeper (envOfC qual scope s.heap.objs.size f cdv)) → ∃ t, PSsT (cxOf CX0 P w K mg base N qual scope f cdv A outer s H E).nox body t ∧ SimS K n0 at' t)
    (hrun : ∀ avs A Kc, ac avs A Kc → at' (aEnd n0 Kc) (startA N avs) A) : FnT P w K mg base CX0 (k + 1) f fd ps (spA K ac) := by
  refine fnT_by F S (fun vs H Q E h => ?_) fun cdv A outer s H vs Q E hr h => ?_
  · obtain ⟨s, avs, Kc, _, _, h3, h4, _⟩ := h
    rw [← (hlen _ _ _ h4).1]
    exact h3.length.symm
  · obtain ⟨t, ht, hs⟩ := hb cdv A outer s H E hr
    exact ⟨t, TH.PSsT.nox ht, fnA_core hlen hs hrun h⟩
end
theorem petT {X : Cx} {e : Expr} {t t' : TE} (h : PET X e t) (q : t = t') : PET X e t' := q ▸ h
theorem ptstT {X : Cx} {l : List Expr} {t t' : TT} (h : PTsT X l t) (q : t = t') : PTsT X l t' := q ▸ h
/-! ### a token comes out -/
def PAb (X : Cx) (es : List Expr) (t : TA) : Prop := ∀ (pos : Pos) (pins : List (Addr × Obj)) (s : Shared) (σ : L2.St) (H : Hp) (Q : List V → Hp → Prop), Inv X pins σ H s → t σ H Q →
  wpAny (model X.prog X.w) X.A (spliced (backTo pos (starEach es X.env))) (fun us s' => 1 ≤ s'.toks ∧ AP X pins σ Q us s') X.xe s
def PEb (X : Cx) (e : Expr) (t : TE) : Prop := ∀ (pins : List (Addr × Obj)) (s : Shared) (σ : L2.St) (H : Hp) (Q : VK), Inv X pins σ H s → t σ H Q → wpAny (model X.prog X.w) X.A (eval e X.env) (fun v s' => 1 ≤ s'.toks ∧ EP X pins σ Q v s') X.xe s
def PSb (X : Cx) (st : Stmt) (t : TS) : Prop := ∀ (pins : List (Addr × Obj)) (s : Shared) (σ : L2.St) (H : Hp) (D : Ends), Inv X pins σ H s → t D σ H → wpAny (model X.prog X.w) X.A (exec st X.env) (fun fl s' => 1 ≤ s'.toks ∧ SP X pins D fl s') X.xe s
section
variable {X : Cx} {e : Expr} {es : List Expr} {te : TE} {t : TA} {ts tu : TS} {pos p : Pos} {x : Str} {sp : Sp} {dvs : List V} {k j i : Nat} {pos' : Pos}
theorem peb_int {i : Int} {jj} {q : Pos} : PEb X (.Constant (.int i) jj q) (tC (.int i)) := fun _ s _ H _ I h => wpAny_Constant_int ⟨Nat.succ_le_succ (Nat.zero_le _), .int i, H, I.tok _, ⟨_, rfl⟩, h⟩
theorem pab_one (h : PEb X e te) (hs : starEach [e] X.env = (false, eval e X.env) :: starEach [] X.env := by rfl) : PAb X [e] (tCons te tNil) := fun pos pins s σ H Q I q => by
  rw [hs]
  exact Calls.spliced_cons (thn (h pins s σ H _ I q) fun u s1 ⟨h0, y, H1, I1, r1, q1⟩ => Calls.spliced_nil ⟨h0, [y], H1, I1, .cons r1 .nil, q1⟩)
theorem pab_cons (h : PE X e te) (hr : PAb X es t) (hs : starEach (e :: es) X.env = (false, eval e X.env) :: starEach es X.env := by rfl) : PAb X (e :: es) (tCons te t) := fun pos pins s σ H Q I q => by
  rw [hs]
  exact Calls.spliced_cons (thn (h.run pins s σ H _ I q) fun u s1 ⟨y, H1, I1, r1, q1⟩ => thn (hr pos pins s1 σ H1 _ I1 q1) fun us s2 ⟨h0, ys, H2, I2, r2, q2⟩ => ⟨h0, y :: ys, H2, I2, .cons r1 r2, q2⟩)
theorem peb_c (c : C8.Cal X.prog X.w X.K X.mg X.base k x sp dvs) (room : Room j X.A) (hk : k ≤ j) (glob : Gl X x) (ha : PAb X (e :: es) t)
    (hdb : (x == ("__debug__" : Str)) = false := by decide) (he : starEach (e :: es) X.env = (false, eval e X.env) :: starEach es X.env := by rfl) (hpl : (backTo pos (starEach es X.env)).any (·.1) = false := by rfl) :
    PEb X (.Call (.Name x p) (e :: es) [] pos) (tCall sp dvs C8.E0 t) := fun pins s σ H Q I h => by
  obtain ⟨f, fd, ps, ds, F, hm, kp, b, d⟩ := c.ex
  refine wpAny_Call_Name_kw (ld_glob I glob hm ?_ hdb)
  refine PySem.W.callWith_K (h₀ := X.base) I.ok.mod.kin kp (wpAny_mono (ha pos pins s σ H _ I h) (fun us s1 ⟨h1, vs, H1, I1, r, q⟩ => ⟨I1.kIn, ?_⟩) fun e s' z => z) he hpl
  exact wpAny_mono (PySem.wpAny_toks_of h1 (run_fnT (fnT_of F) (room.mono hk) b d C8.pass0 h1 I1 r q)) (fun _ _ z => z) fun _ _ z => z.2
theorem psb_set (hN : X.N.Nodup) (hi : X.N[i]? = some x) (hx : Loc X.env.scope x) (he : PEb X e te) (hs : swapsWith e (some (.Name x pos')) pos.line X.env = pure false := by rfl)
    (hf : X.fn x = true ∨ X.env.scope.names.lookup x = some .local := by first | exact .inl rfl | exact .inr rfl | assumption) : PSb X (.Assign [.Name x pos'] e pos) (tAsg te (gName i)) := fun pins s σ H D I h => by
  refine wpAny_Assign_Name (thn (he pins s σ H _ I h) fun v s1 ⟨h0, y, H1, I1, r1, q1⟩ => ?_) hs
  exact wpAny_mono (PySem.wpAny_toks_of h0 (store_ok (Q := fun _ s' => SP X pins D .next s') I1 hN hi hx r1 (fun s2 I2 => ⟨_, H1, I2, q1⟩) hf)) (fun _ _ z => z) fun _ _ z => z.2
theorem pss_consb {st : Stmt} {rest : List Stmt} (h1 : PSb X st ts) (h2 : PSsT X rest tu) : PSs X (st :: rest) (tSeq ts tu) := ⟨fun pins s σ H D I h => by
  refine wpAny_execs_cons (thn (h1 pins s σ H { D with nx := tu D } I h) fun fl s1 ⟨h0, q⟩ => ?_)
  cases fl with
  | next =>
    obtain ⟨σ', H', I', q⟩ := q
    exact h2 pins s1 σ' H' D h0 I' q
  | ret v => exact q
  | brk => exact q
  | cont => exact q⟩
end
end TH
/-! Words of a text whose brackets stand alone. -/
namespace TH
open PySem PySem.Spec PyProof.Rows L2
variable [TC : TabC]
/-- a sign's share: brackets stand alone -/
def expC (d : Nat) : List Nat := if d = 40 then [32, 40, 32] else if d = 41 then [32, 41, 32] else [d]
theorem repl1 {c : Nat} {z : List Nat} : ∀ l : List Nat, PySem.StrLaws.replL [c] z l = l.flatMap fun d => if d = c then z else [d]
  | [] => PySem.StrLaws.replL_nil
  | d :: r => by
    rw [List.flatMap_cons]
    by_cases h : d = c
    · subst h
      rw [PySem.StrLaws.replL_hit (List.cons_ne_nil _ _) (by rfl), if_pos rfl, ← repl1 r]
      rfl
    · rw [PySem.StrLaws.replL_miss (y := [c]) (c := d) (r := r) (fun e => h (List.cons.inj (show d :: [] = c :: [] from e)).1), if_neg h, ← repl1 r]
      rfl
def wordsR (z : Str) : List Str := Txt.words (Txt.replace (Txt.replace z "(" " ( ") ")" " ) ")
theorem repl_both (z : Str) : TL.tl (Txt.replace (Txt.replace z "(" " ( ") ")" " ) ") = (TL.tl z).flatMap expC := by
  have e1 := PySem.StrLaws.replace_list (x := Txt.replace z "(" " ( ") (y := ")") (z := " ) ") (by decide)
  have e2 := PySem.StrLaws.replace_list (x := z) (y := "(") (z := " ( ") (by decide)
  show (Txt.replace (Txt.replace z "(" " ( ") ")" " ) ").cps.toList = _
  rw [e1, e2]
  show PySem.StrLaws.replL [41] [32, 41, 32] (PySem.StrLaws.replL [40] [32, 40, 32] z.cps.toList) = _
  rw [repl1, repl1, List.flatMap_assoc]
  refine congrArg (fun g => List.flatMap g (TL.tl z)) (funext fun d => ?_)
  unfold expC
  by_cases h : d = 40
  · rw [if_pos h, if_pos h]
    rfl
  · rw [if_neg h, if_neg h]
    by_cases h2 : d = 41
    · subst h2
      rfl
    · rw [if_neg h2]
      show (if d = 41 then _ else [d]) ++ [] = _
      rw [if_neg h2]
      rfl
abbrev WSt := List (List Nat) × List Nat
def pstep (st : WSt) (c : Nat) : WSt := (expC c).foldl TL.wstep st
def tokL (l : List Nat) : List (List Nat) := TL.wfin (l.foldl pstep ([], []))
theorem fold_flat (l : List Nat) : ∀ st : WSt, (l.flatMap expC).foldl TL.wstep st = l.foldl pstep st := by
  induction l with
  | nil => exact fun _ => rfl
  | cons d r ih =>
    intro st
    rw [List.flatMap_cons, List.foldl_append, ih]
    rfl
theorem wordsR_tl (z : Str) : (wordsR z).map TL.tl = tokL (TL.tl z) := by
  unfold wordsR tokL
  rw [TL.words_tl, repl_both, fold_flat]
/-! ### a text in two parts -/
theorem wstep_app (ws : List (List Nat)) (st : WSt) (c : Nat) : TL.wstep (ws ++ st.1, st.2) c = (ws ++ (TL.wstep st c).1, (TL.wstep st c).2) := by
  unfold TL.wstep
  by_cases h : Unicode.isSpace c = true
  · rw [if_pos h, if_pos h]
    by_cases h2 : st.2 = []
    · rw [if_pos h2, if_pos h2]
    · rw [if_neg h2, if_neg h2, List.append_assoc]
  · rw [if_neg h, if_neg h]
theorem wfold_app (ws : List (List Nat)) : ∀ (l : List Nat) (st : WSt), l.foldl TL.wstep (ws ++ st.1, st.2) = (ws ++ (l.foldl TL.wstep st).1, (l.foldl TL.wstep st).2)
  | [], _ => rfl
  | c :: r, st => by
    rw [List.foldl_cons, wstep_app]
    exact wfold_app ws r (TL.wstep st c)
theorem pfold_app (ws : List (List Nat)) (l : List Nat) (st : WSt) : l.foldl pstep (ws ++ st.1, st.2) = (ws ++ (l.foldl pstep st).1, (l.foldl pstep st).2) := by
  rw [← fold_flat, ← fold_flat]
  exact wfold_app ws _ st
theorem wfin_app (ws : List (List Nat)) (st : WSt) : TL.wfin (ws ++ st.1, st.2) = ws ++ TL.wfin st := by
  unfold TL.wfin
  by_cases h : st.2 = []
  · rw [if_pos h, if_pos h]
  · rw [if_neg h, if_neg h, List.append_assoc]
/-- blanks and brackets -/
def isSep (c : Nat) : Prop := c = 32 ∨ c = 40 ∨ c = 41
theorem blank_flush (st : WSt) : TL.wstep st 32 = (TL.wfin st, []) := by
  have e : Unicode.isSpace 32 = true := by decide
  unfold TL.wstep TL.wfin
  rw [if_pos e]
  by_cases h : st.2 = []
  · rw [if_pos h, if_pos h, ← h]
  · rw [if_neg h, if_neg h]
theorem wfin_flush (st : WSt) : TL.wfin (TL.wfin st, []) = TL.wfin st := if_pos rfl
theorem sep_first {c : Nat} (h : isSep c) (st : WSt) : pstep st c = pstep (TL.wfin st, []) c := by
  rcases h with rfl | rfl | rfl
  · show TL.wstep st 32 = TL.wstep (TL.wfin st, []) 32
    rw [blank_flush, blank_flush, wfin_flush]
  · show TL.wstep (TL.wstep (TL.wstep st 32) 40) 32 = TL.wstep (TL.wstep (TL.wstep (TL.wfin st, []) 32) 40) 32
    rw [blank_flush st, blank_flush (TL.wfin st, []), wfin_flush]
  · show TL.wstep (TL.wstep (TL.wstep st 32) 41) 32 = TL.wstep (TL.wstep (TL.wstep (TL.wfin st, []) 32) 41) 32
    rw [blank_flush st, blank_flush (TL.wfin st, []), wfin_flush]
theorem sep_last {c : Nat} (h : isSep c) (st : WSt) : (pstep st c).2 = [] := by
  rcases h with rfl | rfl | rfl
  · show (TL.wstep st 32).2 = []
    rw [blank_flush]
  · show (TL.wstep (TL.wstep (TL.wstep st 32) 40) 32).2 = []
    rw [blank_flush]
  · show (TL.wstep (TL.wstep (TL.wstep st 32) 41) 32).2 = []
    rw [blank_flush]
theorem tok_from (ws : List (List Nat)) (l : List Nat) : TL.wfin (l.foldl pstep (ws, [])) = ws ++ tokL l := by
  have h := pfold_app ws l ([], [])
  rw [List.append_nil] at h
  rw [h, wfin_app]
  rfl
theorem tok_sepL {c : Nat} {x r : List Nat} (h : isSep c) : tokL (x ++ c :: r) = tokL x ++ tokL (c :: r) := by
  unfold tokL
  rw [List.foldl_append, List.foldl_cons, sep_first h, ← List.foldl_cons (f := pstep)]
  exact tok_from _ (c :: r)
theorem tok_sepR {c : Nat} {x r : List Nat} (h : isSep c) : tokL ((x ++ [c]) ++ r) = tokL (x ++ [c]) ++ tokL r := by
  have e : ((x ++ [c]).foldl pstep ([], [])) = (tokL (x ++ [c]), []) := by
    unfold tokL
    rw [List.foldl_append]
    show pstep _ c = (TL.wfin (pstep _ c), [])
    have h2 := sep_last h (x.foldl pstep ([], []))
    unfold TL.wfin
    rw [if_pos h2]
    exact Prod.ext rfl h2
  have e2 : tokL ((x ++ [c]) ++ r) = TL.wfin (r.foldl pstep ((x ++ [c]).foldl pstep ([], []))) := by
    unfold tokL
    rw [List.foldl_append]
  rw [e2, e]
  exact tok_from _ r
theorem tl_inj {a b : Str} (h : TL.tl a = TL.tl b) : a = b := Str.ext' (Array.toList_inj.mp h)
theorem map_tl_inj : ∀ {a b : List Str}, a.map TL.tl = b.map TL.tl → a = b
  | [], [], _ => rfl
  | [], _ :: _, h => nomatch h
  | _ :: _, [], h => nomatch h
  | x :: a, y :: b, h => by
    rw [List.map_cons, List.map_cons] at h
    have h := List.cons.inj h
    rw [tl_inj h.1, map_tl_inj h.2]
theorem wordsR_lit {z : Str} {l : List Str} (h : (tokL (TL.tl z) == l.map TL.tl) = true) : wordsR z = l := map_tl_inj ((wordsR_tl z).trans (eq_of_beq h))
/-- y begins with a blank or bracket -/
def sepL (y : Str) : Bool := match TL.tl y with | c :: _ => c == 32 || c == 40 || c == 41 | [] => false
def sepR (y : Str) : Bool := match (TL.tl y).reverse with | c :: _ => c == 32 || c == 40 || c == 41 | [] => false
theorem isSep_of {c : Nat} (h : (c == 32 || c == 40 || c == 41) = true) : isSep c := by
  rw [Bool.or_eq_true, Bool.or_eq_true] at h
  rcases h with (h | h) | h
  · exact .inl (eq_of_beq h)
  · exact .inr (.inl (eq_of_beq h))
  · exact .inr (.inr (eq_of_beq h))
theorem wordsR_appL {x y : Str} (h : sepL y = true) : wordsR (x ++ y) = wordsR x ++ wordsR y := by
  refine map_tl_inj ?_
  rw [List.map_append, wordsR_tl, wordsR_tl, wordsR_tl, TL.tl_append]
  unfold sepL at h
  cases e : TL.tl y with
  | nil => rw [e] at h; cases h
  | cons c r =>
    rw [e] at h
    exact tok_sepL (isSep_of h)
theorem wordsR_appR {x y : Str} (h : sepR x = true) : wordsR (x ++ y) = wordsR x ++ wordsR y := by
  refine map_tl_inj ?_
  rw [List.map_append, wordsR_tl, wordsR_tl, wordsR_tl, TL.tl_append]
  unfold sepR at h
  cases e : (TL.tl x).reverse with
  | nil => rw [e] at h; cases h
  | cons c r =>
    rw [e] at h
    have e2 : TL.tl x = r.reverse ++ [c] := by rw [← List.reverse_reverse (TL.tl x), e, List.reverse_cons]
    rw [e2]
    exact tok_sepR (isSep_of h)
example : wordsR "not (" = [Str.ofString "not", Str.ofString "("] := wordsR_lit (by decide)
example : wordsR " and " = [Str.ofString "and"] := wordsR_lit (by decide)
example : sepL " and " = true := by decide
end TH
/-! More readings over plain values: texts some times, one text in another, displays of dicts, isinstance, calls with defaults, join. -/
namespace TH
open PySem PySem.Spec PyProof.Rows L2
variable [TC : TabC]
section
variable {K : PySem.W.Frag} {B : Bs} {m : Bool} {a b c : aTE} {ta tb te tc : TE} {n0 : Nat} {ac : AC} {sp : Sp} {t : TA} {r : aTA} {E : XK}
/-! ### text * number -/
def rMulS : R2 := fun x y H Q => ∃ z i, x = .str z ∧ y = .int i ∧ MulOk z i ∧ Q (.str (Txt.mul z i)) H
theorem op_mulS {X : Cx} : OpR X (binaryOp .Mult) rMulS := by
  intro pins s σ H x y v u Q I rx ry h
  obtain ⟨z, i, rfl, rfl, ok, q⟩ := h
  obtain ⟨t, rfl⟩ := rx
  obtain ⟨t', rfl⟩ := ry
  exact SB.mul ok fun t' k => ⟨.str (Txt.mul z i), H, I.tok _, ⟨_, rfl⟩, q⟩
def fMulS : aR2 := fun _ x y k => match x, y with
  | .pv (.v (.str z)), .pv (.v (.int i)) => MulOk z i ∧ k (.pv (.v (.str (Txt.mul z i))))
  | _, _ => False
theorem ops_mulS : OpS K fMulS rMulS := fun {B s x y vx vy} r px py {k Q} q h => by
  unfold fMulS at h
  split at h
  · rename_i z i
    exact ⟨z, i, px, py, h.1, q (.pv (.v (.str _))) _ _ _ r.g0 rfl h.2⟩
  · exact h.elim
theorem mul_0 (z : Str) : MulOk z 0 ∧ Txt.mul z 0 = "" := ⟨⟨by decide, fun h => absurd (by decide) h, fun h => absurd (by decide) h⟩, rfl⟩
theorem mul_1 (z : Str) : MulOk z 1 ∧ Txt.mul z 1 = z := by
  refine ⟨⟨by decide, fun _ h => ?_, fun _ h => ?_⟩, ?_⟩
  · exact absurd h (by simp)
  · exact absurd h (by simp)
  · unfold Txt.mul
    rw [if_neg (by decide), if_pos (by simp)]
/-! ### a text in another -/
def subT (i j : Str) : Bool := !(Builtin.Str.occurrences j i 0 j.length 1).isEmpty
def fSub (neg : Bool) : aR2 := fun _ x y k => match x, y with
  | .pv (.v (.str i)), .pv (.v (.str j)) => k (.pv (.v (.bl (if neg then !subT i j else subT i j))))
  | _, _ => False
theorem ops_sub : OpS K (fSub false) (fun x y H Q => ∃ i j, x = .str i ∧ y = .str j ∧ Q (.bl (!(Builtin.Str.occurrences j i 0 j.length 1).isEmpty)) H) := fun {B s x y vx vy} r px py {k Q} q h => by
  unfold fSub at h
  split at h
  · rename_i i j
    exact ⟨i, j, px, py, q (.pv (.v (.bl _))) _ _ _ r.g0 rfl h⟩
  · exact h.elim
/-! ### a dict written out -/
def aPairs : List (aTE × aTE) → Sg → Sto → (List (Key × PV) → Sto → Prop) → Prop
  | [], _, A, k => k [] A
  | (a, b) :: r, sa, A, k => a sa A fun x A1 => b sa A1 fun y A2 => match x, y with
    | .pv (.v u), .pv p => ∃ key, keyOf u = some key ∧ aPairs r sa A2 fun kvs A3 => k ((key, p) :: kvs) A3
    | _, _ => False
def mergeP (kvs more : List (Key × PV)) : List (Key × PV) := more.foldl (fun acc kv => putP acc kv.1 kv.2) kvs
def aDisp (l : List (aTE × aTE)) : aTN := fun sa A k => aPairs l sa A fun kvs A1 => kvs.length ≤ 15 ∧ k (.dK (mergeP [] kvs)) A1
inductive SimP (K : PySem.W.Frag) : List (aTE × aTE) → List (TE × TE) → Prop
  | nil : SimP K [] []
  | cons {a b : aTE} {ta tb : TE} {r : List (aTE × aTE)} {tr : List (TE × TE)} (ha : SimE K true a ta) (hb : SimE K true b tb) (h : SimP K r tr) : SimP K ((a, b) :: r) ((ta, tb) :: tr)
theorem sim_pairs {l : List (aTE × aTE)} {tl : List (TE × TE)} (h : SimP K l tl) : ∀ {B : Bs} {s : Cs} {sa : Sg} {σ : L2.St}, Rep K B s → SgR K s sa σ → ∀ {Kc : List (Key × PV) → Sto → Prop} {Q : List (V × V) → Hp → Prop},
    (∀ (kvs : List (Key × PV)) (ps : List (V × V)) (ws : List (Key × V)) s', Stp K B true s s' → ps = ws.map (fun kv => (kV kv.1, kv.2)) → DAl s'.G (rPV.rKvs K kvs) ws → Kc kvs s'.A → Q ps s'.H) → aPairs l sa s.A Kc → tPairs tl σ s.H Q := by
  induction h with
  | nil => exact fun {B s sa σ} r g {Kc Q} q k => q [] [] [] s (.refl r) rfl .nil k
  | cons ha hb h ih =>
    exact fun {B s sa σ} r g {Kc Q} q k => ha r g (fun x vx s1 e1 px k => hb e1.rep (g.stp e1) (fun y vy s2 e2 py k => by
      split at k
      · rename_i u p _
        obtain ⟨key, k1, k2⟩ := k
        obtain rfl : vx = u := px
        refine ih e2.rep ((g.stp e1).stp e2) (fun kvs ps ws s3 e3 hp al kk => ?_) k2
        exact q ((key, p) :: kvs) ((vx, vy) :: ps) ((key, vy) :: ws) s3 ((e1.trans e2).trans e3) (by rw [hp, List.map_cons, keyOf_k k1]) (.cons ⟨rfl, (rPV K p).mono e3.le py⟩ al) kk
      · exact k.elim) k) k
theorem dal_merge {G : Hp} : ∀ {more : List (Key × PV)} {ws : List (Key × V)} {kvs : List (Key × PV)} {vs : List (Key × V)}, DAl G (rPV.rKvs K more) ws → DAl G (rPV.rKvs K kvs) vs → DAl G (rPV.rKvs K (mergeP kvs more)) (mergeK vs ws)
  | [], _, kvs, vs, .nil, h => h
  | (k, p) :: t, w :: ws, kvs, vs, .cons h t', h2 => by
    obtain ⟨e, hp⟩ := h
    have e : k = w.1 := e
    show DAl G (rPV.rKvs K (mergeP (putP kvs k p) t)) (mergeK (putK vs w.1 w.2) ws)
    rw [← e]
    exact dal_merge t' (dal_put h2 hp)
theorem sim_disp {l : List (aTE × aTE)} {tl : List (TE × TE)} (h : SimP K l tl) : SimN K m (aDisp l) (tDisp tl) := fun {B s sa σ} rp g {Kc Q} q hh => fun p hp => by
  have c0 := Gr.own (W := []) rp.le (o := .dK []) hp
  have r1 : Rep K B { s with G := s.G, H := upd s.H p (.dK []) } := rp.pure c0
  have e1 : Stp K B m s { s with G := s.G, H := upd s.H p (.dK []) } := .of rp c0
  refine sim_pairs h (s := { s with G := s.G, H := upd s.H p (.dK []) }) r1 (g.stp e1) (fun kvs ps ws s2 e2 hps al k => ?_) hh
  obtain ⟨k1, k2⟩ := k
  obtain ⟨z1, z2, z3, z4⟩ := e2.pure rfl
  have gp : s.G p = none := rp.le.free hp
  obtain ⟨d1, d2⟩ := z4.loc (p := p) upd_same gp fun z => nomatch z
  refine ⟨d1, ws, hps, by rw [dal_len al]; exact k1, ?_⟩
  have g2 : Gr [] s.G s.H s2.G s2.H := c0.trans z4
  have g3 : Gr [] s.G s.H s2.G (upd s2.H p (.dK (mergeK [] ws))) := g2.put hp d2
  have rr : Rep K B { s with G := s2.G, H := upd s2.H p (.dK (mergeK [] ws)) } := rp.pure g3
  refine q (.dK (mergeP [] kvs)) (.ref p) [p] { s with G := s2.G, H := upd s2.H p (.dK (mergeK [] ws)) } (.of rp g3) ⟨⟨p, _, rfl, rfl, upd_same, dal_merge al .nil⟩, by simp, fun b hb => ?_, fun b hb => ?_, fun b hb n hn z => ?_⟩ ?_
  · rw [List.mem_singleton.mp hb]; exact hp
  · rw [List.mem_singleton.mp hb]; exact d2
  · rw [List.mem_singleton.mp hb] at z
    exact rp.there hn p z hp
  · have e : s2.A = s.A := z2
    rw [e] at k2
    exact k2
/-! ### isinstance -/
def vty : V → Option String
  | .str _ => some "str"
  | .int _ => some "int"
  | .bl _ => some "bool"
  | .non => some "NoneType"
  | _ => none
def PV.ty : PV → Option String
  | .v x => vty x
  | .tup _ => some "tuple"
  | .lst _ => some "list"
  | _ => none
def tyOf (A : Sto) : AV → Option String
  | .pv p => p.ty
  | .loc n p => match aoAt A n p with
    | some (.lst _) => some "list"
    | some (.pv q) => q.ty
    | _ => none
theorem pty_ok {G H : Hp} {p : PV} {v : V} {t : String} (le : Le G H) (h : (rPV K p).P G v) (e : p.ty = some t) : TyX K H v (.type t) := by
  match p, e, h with
  | .v (.str x), e, h => cases e; exact ty_str (K := K) H v h
  | .v (.int x), e, h => cases e; exact ty_int (K := K) H v h
  | .v (.bl x), e, h => cases e; exact ty_bl (K := K) H v h
  | .v .non, e, h => cases e; exact ty_non (K := K) H v h
  | .tup xs, e, h => cases e; exact tyx_le (K := K) ty_tup le h
  | .lst xs, e, h => cases e; exact tyx_le (K := K) ty_lst le (raw_lst h)
theorem tyOf_ok {s : Cs} {x : AV} {v : V} {t : String} (r : Rep K B s) (px : avR K s x v) (e : tyOf s.A x = some t) : TyX K s.H v (.type t) := by
  unfold tyOf at e
  split at e
  · exact pty_ok r.le px e
  · split at e
    · rename_i ea
      cases e
      obtain ⟨fp, ⟨a, vs, h1, h2, h3, h4⟩, _⟩ := r.sub px ea
      subst h1
      exact .base (.lst h3)
    · rename_i ea
      obtain ⟨fp, ⟨h1, h2⟩, _⟩ := r.sub px ea
      exact pty_ok r.le h2 e
    · cases e
def aIsi (c : String) (a : aTE) : aTE := fun sa A k => a sa A fun x A1 => ∃ t b, tyOf A1 x = some t ∧ kitB t c = some b ∧ k (.pv (.v (.bl b))) A1
theorem sim_isi {c : String} (ha : SimE K m a ta) : SimE K m (aIsi c a) (tCB (rIsi K) (tCons ta (tCons (tC (.ty c)) tNil))) := fun {B s sa σ} rp g {Kc Q} q hh =>
  ha rp g (fun x vx s1 e1 px k => by
    obtain ⟨t, b, k1, k2, k3⟩ := k
    exact ⟨vx, .ty c, .type t, .type c, b, rfl, .ty c, tyOf_ok e1.rep px k1, kit_ty k2, q (.pv (.v (.bl b))) _ s1 e1 rfl k3⟩) hh
def aIsiT (c d : String) (a : aTE) : aTE := fun sa A k => a sa A fun x A1 => ∃ t b1 b2, tyOf A1 x = some t ∧ kitB t c = some b1 ∧ kitB t d = some b2 ∧ k (.pv (.v (.bl (b1 || b2)))) A1
theorem sim_isiT {c d : String} (ha : SimE K m a ta) : SimE K m (aIsiT c d a) (tCB (rIsiT K) (tCons ta (tCons (tTup (tCons (tC (.ty c)) (tCons (tC (.ty d)) tNil))) tNil))) := fun {B s sa σ} rp g {Kc Q} q hh =>
  ha rp g (fun x vx s1 e1 px k => by
    obtain ⟨t, b1, b2, k1, k2, k3, k4⟩ := k
    refine ⟨show 2 ≤ sizeLine by decide, fun T hT => ?_⟩
    have gr := Gr.own (W := []) e1.rep.le (o := .tup [.ty c, .ty d]) hT
    have st : Stp K B m s1 { s1 with G := s1.G, H := upd s1.H T (.tup [.ty c, .ty d]) } := .of e1.rep gr
    refine ⟨vx, T, [.ty c, .ty d], .type t, [.type c, .type d], b1 || b2, rfl, upd_same, .cons (.ty c) (.cons (.ty d) .nil), tyOf_ok (s := { s1 with G := s1.G, H := upd s1.H T (.tup [.ty c, .ty d]) }) st.rep (px.stp (.of e1.rep gr)) k1, ?_, q (.pv (.v (.bl (b1 || b2)))) _ _ (e1.trans st) rfl k4⟩
    refine kitAny_cons (kit_ty k2) (fun z => kitAny_cons (kit_ty k3) (fun z2 => ?_) fun z2 => by simp [z2]) fun z => by simp [z]
    rw [z, z2]
    exact kitAny_nil) hh
/-! ### calls with defaults -/
def aCall0D (ac : AC) (ds : List V) (r : aTA) : aTE := fun sa A k => r sa A fun avs A1 => ∃ ps, pvs avs = some ps ∧ ac ((ps ++ ds.map PV.v).map .pv) [] fun r _ => match r with
  | .pv p => k (.pv p) A1
  | _ => False
theorem al_vs {G : Hp} : ∀ ds : List V, Al G (rPs K (ds.map PV.v)) ds
  | [] => .nil
  | d :: t => .cons rfl (al_vs t)
theorem sim_call0D {ds : List V} (hsp : SpLe (spA K ac) sp) (ha : SimA K m r t) : SimE K m (aCall0D ac ds r) (tCall sp ds E t) := fun {B s sa σ} rp g {Kc Q} q h =>
  ha rp g (fun avs vs s1 e1 ps k => by
    obtain ⟨qs, k1, k2⟩ := k
    have al : Al s1.G (rPs K (qs ++ ds.map PV.v)) (vs ++ ds) := by rw [rPs_app]; exact (pvs_al ps k1).append (al_vs ds)
    refine call0_ok hsp e1.rep al k2 fun rv v s2 r2 hA hr k => ?_
    match rv, hr, k with
    | .pv p, hr, k => exact q (.pv p) v { s1 with G := s2.G, H := s2.H } (e1.trans (.of e1.rep r2.gr0)) hr k) h
/-! ### join -/
def pstrs : List PV → Option (List Str)
  | [] => some []
  | .v (.str x) :: t => (pstrs t).map (x :: ·)
  | _ :: _ => none
theorem pstrs_map {α : Type} (f : α → Str) : ∀ xs : List α, pstrs (xs.map fun x => .v (.str (f x))) = some (xs.map f)
  | [] => rfl
  | x :: t => by
    show (pstrs (t.map fun x => .v (.str (f x)))).map (f x :: ·) = _
    rw [pstrs_map f t]
    rfl
theorem pstrs_s (xs : List Str) : pstrs (xs.map PV.str) = some xs := by
  have := pstrs_map id xs
  rwa [List.map_id] at this
theorem pstrs_al {G : Hp} : ∀ {xs : List PV} {vs : List V} {ss : List Str}, Al G (rPs K xs) vs → pstrs xs = some ss → vs = ss.map V.str
  | [], _, _, .nil, e => by cases e; rfl
  | .v (.str x) :: t, _, ws, .cons h al, e => by
    obtain ⟨us, e1, e2⟩ := Option.map_eq_some_iff.mp (show (pstrs t).map (x :: ·) = some ws from e)
    subst e2
    have h : _ = V.str x := h
    rw [h, pstrs_al al e1]
    rfl
def aJoin (a b : aTE) : aTE := fun sa A k => a sa A fun x A1 => match x with
  | .pv (.v (.str z)) => b sa A1 fun y A2 => ∃ xs ss, viewS A2 y = some xs ∧ pstrs xs = some ss ∧ (ss.map (·.length)).sum + ss.length * z.length ≤ 16777216 ∧ k (.pv (.v (.str (Txt.join z ss)))) A2
  | _ => False
theorem sim_join (ha : SimE K m a ta) (hb : SimE K m b tb) : SimE K m (aJoin a b) (tM1 (fun x xs H Q => ∃ a p, ∃ ys : List Str, x = .str a ∧ xs = [.ref p] ∧ (SqL K H p (ys.map V.str) ∨ SqT K H p (ys.map V.str)) ∧
      (ys.map (·.length)).sum + ys.length * a.length ≤ 16777216 ∧ Q (.str (Txt.join a ys)) H) ta tb) := fun {B s sa σ} rp g {Kc Q} q h =>
  ha rp g (fun x vx s1 e1 px k => by
    split at k
    · rename_i z
      obtain rfl : vx = .str z := px
      refine ⟨⟨z, rfl⟩, hb e1.rep (g.stp e1) (fun y vy s2 e2 py k => ?_) k⟩
      obtain ⟨xs, ss, k1, k2, k3, k4⟩ := k
      obtain ⟨d, ws, h1, h2, h3⟩ := viewS_ok e2.rep py k1
      rw [pstrs_al h3 k2] at h2
      exact ⟨z, d, ss, rfl, by rw [h1], h2, k3, q (.pv (.v (.str _))) _ s2 (e1.trans e2) rfl k4⟩
    · exact k.elim) h
theorem inV_b (x : Bool) (xs : List Bool) : inV (.bl x) (xs.map V.bl) = decide (x ∈ xs) := by
  unfold inV
  rw [List.any_map, Bool.eq_iff_iff, List.any_eq_true, decide_eq_true_iff]
  constructor
  · rintro ⟨y, hy, e⟩
    have e : (y == x) = true ∨ (x == y) = true := by
      revert e
      cases x <;> cases y <;> decide
    rcases e with e | e
    · rw [← eq_of_beq e]; exact hy
    · rw [eq_of_beq e]; exact hy
  · intro hx
    refine ⟨x, hx, ?_⟩
    cases x <;> decide
theorem vals_b (xs : List Bool) : vals (xs.map fun x => PV.v (.bl x)) = some (xs.map V.bl) := vals_map V.bl xs
theorem flat_b (xs : List Bool) : (xs.map V.bl).all flatV = true := by
  rw [List.all_map, List.all_eq_true]
  exact fun x _ => rfl
end
end TH
/-! Functions and lambdas made within defs: how they come to be, as values. -/
namespace TH
open PySem PySem.Spec PyProof.Rows L2 LamX NdefX
variable [TC : TabC]
/-! ### the function objects -/
/-- the object at f is the lambda with F's words and the body e -/
def LamO (f : Addr) (F : NdefX.NF) (e : Expr) : HO := .ext fun h => ∃ (od : Option Addr) (sl : Array (Option Value)) (pm ctv : Value), h.get? f = some (⟨.type "function", od, .func (PySem.W.kla_fn F.name F.qual F.params e F.scope F.cl pm (.ref F.c) ctv), sl⟩ : Obj)
theorem lamO_at {P : Program} {w : World} {H : Hp} {h : Heap} {f : Addr} {F : NdefX.NF} {e : Expr} (ok : HOk P w H h) (a : H f = some (LamO f F e)) :
    ∃ (od : Option Addr) (sl : Array (Option Value)) (pm ctv : Value), h.get? f = some (⟨.type "function", od, .func (PySem.W.kla_fn F.name F.qual F.params e F.scope F.cl pm (.ref F.c) ctv), sl⟩ : Obj) := (ok f _ a).1
/-- what the kit tells by a word of its own -/
def IsX (o : HO) : Prop := ∃ φ, o = .ext φ
theorem fnO_x {f : Addr} {F : NdefX.NF} : IsX (FnO f F) := ⟨_, rfl⟩
theorem lamO_x {f : Addr} {F : NdefX.NF} {e : Expr} : IsX (LamO f F e) := ⟨_, rfl⟩
theorem IsX.nf {o : HO} (h : IsX o) : NF o := fun _ _ z => by obtain ⟨φ, rfl⟩ := h; cases z
theorem IsX.nd {o : HO} (h : IsX o) : ¬ IsDct o := fun z => by obtain ⟨φ, rfl⟩ := h; exact z
/-! ### making one -/
/-- a function came to be: at f, with the code object at c -/
structure Made (G H G1 H1 : Hp) (f c : Addr) (q : Str) (o : HO) : Prop where
  gr : ∀ {W : List Addr}, Gr W G H G1 H1
  fG : G1 f = some o
  cG : G1 c = some (CodeO c q)
  nw : H f = none
section
variable {G H : Hp} {f c P : Addr} {q : Str} {o : HO}
theorem made_hit (le : Le G H) (hc : G c = some (CodeO c q)) (hf : H f = none) : Made G H (upd G f o) (upd H f o) f c q o :=
  ⟨fun {W} => Gr.new le hf, upd_same, by rw [upd_ne (ne_of_none hc (le.free hf))]; exact hc, hf⟩
/-- the table grows by a code object that is new -/
theorem gr_tab {ps : Array Value} {pos : Pos} {W : List Addr} (le : Le G H) (hP : H P = some (.tbl ps)) (ht : TriplesOk ps.toList) (hg : G P = none) (hc : H c = none) (hn : TC.nm pos.line pos.col = q) :
    Gr W G H (upd G c (CodeO c q)) (upd (upd H P (.tbl (ps ++ #[rawInt pos.line, rawInt pos.col, .ref c]))) c (CodeO c q)) where
  gg := Le.new (le.free hc)
  gh := (le.mut hg).upd
  hhN := fun b u e _ t => by
    rw [upd_ne (ne_of_none e hc), upd_ne (fun z => t ps (Option.some.inj (e.symm.trans (by rw [z]; exact hP))))]
    exact e
  dm := fun b e => by
    by_cases h1 : b = c
    · rw [h1, upd_same]; exact fun z => nomatch z
    · rw [upd_ne h1]
      by_cases h2 : b = P
      · rw [h2, upd_same]; exact fun z => nomatch z
      · rw [upd_ne h2]; exact e
  nw := fun b n1 n2 => by
    by_cases h1 : b = c
    · rw [h1]; exact hc
    · rw [upd_ne h1] at n2; exact (n2 n1).elim
  tb := fun R _ _ t => by
    obtain ⟨t0, qs, t1, t2, t3⟩ := t
    have gR : upd G c (CodeO c q) R = none := by rw [upd_ne (ne_of_none t1 hc)]; exact t0
    have up : ∀ {b : Addr} {x : Str}, G b = some (CodeO b x) → upd G c (CodeO c q) b = some (CodeO b x) := fun {b x} e => by
      rw [upd_ne (ne_of_none e (le.free hc))]; exact e
    by_cases h2 : R = P
    · subst h2
      rw [hP] at t1
      cases t1
      refine ⟨gR, _, by rw [upd_ne (ne_of_none hP hc), upd_same], ?_, fun p' cv hcv => ?_⟩
      · rw [show (ps ++ #[rawInt pos.line, rawInt pos.col, .ref c]).toList = ps.toList ++ [rawInt pos.line, rawInt pos.col, .ref c] by simp]
        exact PySem.TriplesOk_snoc _ _ _ _ ht
      · rw [show (ps ++ #[rawInt pos.line, rawInt pos.col, .ref c]).toList = ps.toList ++ [rawInt pos.line, rawInt pos.col, .ref c] by simp] at hcv
        rcases NdefX.among_app2 _ ht hcv with z | ⟨z, z1, z2⟩
        · obtain ⟨b, e1, e2⟩ := t3 p' cv z
          exact ⟨b, e1, up e2⟩
        · refine ⟨c, z, ?_⟩
          rw [← z1, ← z2, hn]
          exact upd_same
    · refine ⟨gR, qs, by rw [upd_ne (ne_of_none t1 hc), upd_ne h2]; exact t1, t2, fun p' cv hcv => ?_⟩
      obtain ⟨b, e1, e2⟩ := t3 p' cv hcv
      exact ⟨b, e1, up e2⟩
theorem made_new {ps : Array Value} {pos : Pos} (le : Le G H) (hP : H P = some (.tbl ps)) (ht : TriplesOk ps.toList) (hg : G P = none) (hc : H c = none) (hn : TC.nm pos.line pos.col = q) (hf : H f = none) (ne : f ≠ c) :
    Made G H (upd (upd G c (CodeO c q)) f o) (upd (upd (upd H P (.tbl (ps ++ #[rawInt pos.line, rawInt pos.col, .ref c]))) c (CodeO c q)) f o) f c q o := by
  have g1 : ∀ {W : List Addr}, Gr W G H (upd G c (CodeO c q)) (upd (upd H P (.tbl (ps ++ #[rawInt pos.line, rawInt pos.col, .ref c]))) c (CodeO c q)) := fun {W} => gr_tab le hP ht hg hc hn
  have nf : (upd (upd H P (.tbl (ps ++ #[rawInt pos.line, rawInt pos.col, .ref c]))) c (CodeO c q)) f = none := by
    rw [upd_ne ne, upd_ne (Ne.symm (ne_of_none hP hf))]; exact hf
  exact ⟨fun {W} => g1.trans (Gr.new (g1 (W := W)).gh nf), upd_same, by rw [upd_ne (Ne.symm ne), upd_same], hf⟩
end
/-- the reading of a function's making at a place; mk f c: the object at f with its code at c -/
def tMk (P : Addr) (pos : Pos) (q : Str) (mk : Addr → Addr → HO) : TE := fun _ H Q => ∃ ps, H P = some (.tbl ps) ∧ TriplesOk ps.toList ∧ (∀ cv, codeAmong pos ps.toList = some cv → ∃ c, cv = .ref c) ∧
  ∀ f c H1, H f = none → (codeAmong pos ps.toList = some (.ref c) ∧ H1 = upd H f (mk f c)) ∨ (H c = none ∧ f ≠ c ∧ H1 = upd (upd (upd H P (.tbl (ps ++ #[rawInt pos.line, rawInt pos.col, .ref c]))) c (CodeO c q)) f (mk f c)) → Q (.ref f) H1
section
variable {X : Cx} {pins : List (Addr × Obj)} {σ : L2.St} {H : Hp} {s : Shared} {c P : Addr} {params : Arguments} {scope : Scope} {pos : Pos}
theorem inv_lam {F : NdefX.NF} {e : Expr} {t' : Nat} {pm ctv : Value} (I : Inv X pins σ H s) :
    Inv X pins σ (upd H s.heap.objs.size (LamO s.heap.objs.size F e)) { s with heap := s.heap.push ({ cls := .type "function", data := .func (PySem.W.kla_fn F.name F.qual F.params e F.scope F.cl pm (.ref F.c) ctv) } : Obj), toks := t' } := by
  have a : (s.heap.push ({ cls := .type "function", data := .func (PySem.W.kla_fn F.name F.qual F.params e F.scope F.cl pm (.ref F.c) ctv) } : Obj)).get? s.heap.objs.size = some _ := Heap.get?_push_size _ rfl
  exact I.laid (fun b u z => Heap.get?_push_of_some _ z) (Nat.le_refl _) ⟨⟨_, _, pm, ctv, a⟩, ⟨_, a⟩, fun h1 h2 ⟨od, sl, d, p, z⟩ st => ⟨od, sl, d, p, st _ z⟩⟩
/-- a lambda -/
theorem pe_lam {body : Expr} (TB : TabB X.base X.mg c P) (hcode : X.env.code = .ref c) (hdef : defaultsOf params X.env = ([], [])) (hfree : ∀ y ∈ scope.names, y.2 = .free → X.env.scope.names.lookup y.1 = some .cell ∨ X.env.scope.names.lookup y.1 = some .free) :
    PE X (.Lambda params body scope pos) (tMk P pos (X.env.qual ++ "<lambda>") fun f d => LamO f ⟨"<lambda>", X.env.qual ++ "<lambda>", params, [], scope, cloFrom X.env.cells scope.names [], d⟩ body) := by
  refine ⟨fun pins s σ H Q I ⟨ps, hP, ht, hr, h⟩ => PySem.W.kla_eval hdef ?_⟩
  have hfr : ∀ n ∈ scope.names, n.2 = .free → ∃ d, X.env.cells.lookup n.1 = some d := fun n mn en => Or.elim (hfree n mn en) (fun z => I.ok.has _ (.inl z)) fun z => I.ok.has _ (.inr z)
  have at1 : s.heap.get? P = some { cls := .none, data := .fields ps } := I.hok P _ hP
  cases seen : codeAmong pos ps.toList with
  | some cv =>
    obtain ⟨d, rfl⟩ := hr cv seen
    refine PySem.W.kla_makeFunctionHit (mg := X.mg) (P := P) (closure_ok hfr) I.ok.glob (I.mod.glob.keeps I.bk) hcode (TB.code.keeps I.bk) at1 ht seen (TB.bm.keeps I.bk) fun ctv h' tk hx hz => ?_
    have I1 := I.kept (h' := h') (t' := tk) hx
    exact ⟨.ref h'.objs.size, _, inv_lam (F := ⟨"<lambda>", X.env.qual ++ "<lambda>", params, [], scope, cloFrom X.env.cells scope.names [], d⟩) I1, rfl, h _ d _ (I1.hok.fresh (Nat.le_refl _)) (.inl ⟨seen, rfl⟩)⟩
  | none =>
    refine PySem.W.kla_makeFunction (mg := X.mg) (P := P) (closure_ok hfr) I.ok.glob (I.mod.glob.keeps I.bk) hcode (TB.code.keeps I.bk) at1 ht seen TB.gP (TB.bm.keeps I.bk) fun d ctv h' tk hx hge hlt hrec htb => ?_
    obtain ⟨d', oc, vs, t, e2, ho, hd, hv⟩ := hrec
    cases e2
    have I1 := inv_table (t' := tk) I hP (fun b o hb e => hx b o hb e) htb hge ⟨oc, vs, t, ho, hd, hv⟩
    exact ⟨.ref h'.objs.size, _, inv_lam (F := ⟨"<lambda>", X.env.qual ++ "<lambda>", params, [], scope, cloFrom X.env.cells scope.names [], d⟩) I1, rfl, h _ d _ (I.hok.fresh (Nat.le_trans hge (Nat.le_of_lt hlt))) (.inr ⟨I.hok.fresh hge, Nat.ne_of_gt hlt, rfl⟩)⟩
/-- a def within a def -/
def tMkS (P : Addr) (pos : Pos) (q : Str) (mk : Addr → Addr → HO) (i : Nat) : TS := fun D σ H => tMk P pos q mk σ H fun v H1 => D.nx (σ.set i (some v)) H1
theorem ps_nest {name : Str} {body : List Stmt} {i : Nat} (TB : TabB X.base X.mg c P) (hcode : X.env.code = .ref c) (hfree : ∀ y ∈ scope.names, y.2 = .free → X.env.scope.names.lookup y.1 = some .cell ∨ X.env.scope.names.lookup y.1 = some .free)
    (hd0 : params.defaults = []) (hk0 : params.kw_defaults = []) (ha : annTrees params none X.env = []) (hN : X.N.Nodup) (hi : X.N[i]? = some name) (hx : Loc X.env.scope name) (hf : X.fn name = true ∨ X.env.scope.names.lookup name = some .local) :
    PS X (.FunctionDef name params body [] none [] scope none name pos) (tMkS P pos (X.env.qual ++ name) (fun f d => FnO f ⟨name, X.env.qual ++ name, params, body, scope, cloFrom X.env.cells scope.names [], d⟩) i) := by
  refine ⟨fun pins s σ H D I ⟨ps, hP, ht, hr, h⟩ => PySem.W.nestDef_K hd0 hk0 ha ?_⟩
  have whole : qualnameIn X.env name name = X.env.qual ++ name := by
    have k : X.env.kindOf name = some .local ∨ X.env.kindOf name = some .cell := hx
    unfold qualnameIn
    rcases k with k | k <;> rw [k] <;> first | rfl | exact if_neg (by decide)
  rw [whole]
  have hfr : ∀ n ∈ scope.names, n.2 = .free → ∃ d, X.env.cells.lookup n.1 = some d := fun n mn en => Or.elim (hfree n mn en) (fun z => I.ok.has _ (.inl z)) fun z => I.ok.has _ (.inr z)
  have at1 : s.heap.get? P = some { cls := .none, data := .fields ps } := I.hok P _ hP
  have fin : ∀ {f : Addr} {s' : Shared} {H1 : Hp}, Inv X pins σ H1 s' → D.nx (σ.set i (some (.ref f))) H1 → wpAny (model X.prog X.w) X.A (storeName X.env name (.ref f)) (fun _ s'' => SP X pins D .next s'') X.xe s' := fun {f s' H1} J z =>
    store_ok J hN hi hx (v := .ref f) rfl (fun s'' J' => ⟨_, H1, J', z⟩) hf
  cases seen : codeAmong pos ps.toList with
  | some cv =>
    obtain ⟨d, rfl⟩ := hr cv seen
    refine PySem.W.makeFunction_hit (mg := X.mg) (P := P) (closure_ok hfr) I.ok.glob (I.mod.glob.keeps I.bk) hcode (TB.code.keeps I.bk) at1 ht seen (TB.bm.keeps I.bk) fun ctv doc h' tk hx' hz => ?_
    have I1 : Inv X pins σ H { s with heap := h', toks := tk } := I.kept hx'
    exact fin (inv_fn (F := ⟨name, X.env.qual ++ name, params, body, scope, cloFrom X.env.cells scope.names [], d⟩) (t' := tk) (doc := doc) (pm := (X.mg "__name__").getD .none) (ctv := ctv) I1 rfl) (h _ d _ (I1.hok.fresh (Nat.le_refl _)) (.inl ⟨seen, rfl⟩))
  | none =>
    refine PySem.W.makeFunction_K (mg := X.mg) (P := P) (closure_ok hfr) I.ok.glob (I.mod.glob.keeps I.bk) hcode (TB.code.keeps I.bk) at1 ht seen TB.gP (TB.bm.keeps I.bk) fun d ctv doc h' tk hx' hge hlt hrec htb => ?_
    obtain ⟨d', oc, vs, t, e2, ho, hd, hv⟩ := hrec
    cases e2
    have I1 := inv_table (t' := tk) I hP (fun b o hb e => hx' b o hb e) htb hge ⟨oc, vs, t, ho, hd, hv⟩
    exact fin (inv_fn (F := ⟨name, X.env.qual ++ name, params, body, scope, cloFrom X.env.cells scope.names [], d⟩) (t' := tk) (doc := doc) (pm := (X.mg "__name__").getD .none) (ctv := ctv) I1 rfl) (h _ d _ (I.hok.fresh (Nat.le_trans hge (Nat.le_of_lt hlt))) (.inr ⟨I.hok.fresh hge, Nat.ne_of_gt hlt, rfl⟩))
end
end TH
/-! sorted(xs, key=f) where f's calls may do what leaves the frame's knowledge whole. -/
namespace TH
open PySem PySem.Spec PyProof.Rows L2 PySem.W PySem.Calls
/-! ### over the heap: the loop over the keys by an invariant -/
section
variable {prog : Program} {w : World} {A : Around} {E : Value → Shared → Prop} {a kS : Addr} {vs : List Value} {e1 : Nat} {P : PySem.Fin → Shared → Prop}
/-- the invariant S j keys: the list's own object is empty, the store holds the keys -/
structure KeyInv (a kS : Addr) (e1 : Nat) (S : Nat → Array Value → Shared → Prop) : Prop where
  st : ∀ {j kA s}, S j kA s → ∃ e, s.heap.get? kS = some (seqObj "list" kA e)
  ls : ∀ {j kA s}, S j kA s → s.heap.get? a = some (seqObj "list" #[] e1)
theorem ksk_inv {S : Nat → Array Value → Shared → Prop} (KI : KeyInv a kS e1 S) (ne : kS ≠ a) (hZ : vs.length ≤ sizeLine) (hlen : ∀ {j kA s}, S j kA s → kA.size = j) {f : Value} {s : Shared} (h0 : S 0 #[] s)
    (turn : ∀ (j : Nat) (x : Value) (kA : Array Value) (s' : Shared), vs[j]? = some x → S j kA s' →
      wpAny (model prog w) A (call f [x]) (fun u s2 => ∃ e, s2.heap.get? kS = some (seqObj "list" kA e) ∧ ∀ h', Heap.SameBut kS s2.heap h' → (∃ c, h'.get? kS = some (seqObj "list" (kA.push u) c)) → S (j + 1) (kA.push u) { s2 with heap := h' }) (fun _ _ => False) s')
    (done : ∀ kA s', S vs.length kA s' → ∃ kz, EachIs (fun v d => ∃ as, Reads s'.heap v d as) kA.toList kz ∧ AllAlike kz ∧ Sortable kz ∧ (∀ d, d ∈ kz → A.units + d.depth < cLine) ∧
      ∀ h' tk out c, (∀ b o, b ≠ a → b ≠ kS → s'.heap.get? b = some o → h'.get? b = some o) → h'.get? a = some (seqObj "list" (List.toArray out) c) → KeyedOut false kz vs out → P (.done (.ret .none)) { s' with heap := h', toks := tk }) :
    wpAny (model prog w) A (ksk_rest a f false vs.toArray e1 (.ref kS)) P E s := by
  unfold ksk_rest
  refine wpAny_bind (wpAny_rule ?_)
  first
    | rw [List.forIn_toArray]
    | (rw [← Array.forIn_toList]; simp only [List.toList_toArray])
    | rw [← Array.forIn_toList]
  refine wpAny_bind (ksk_fold (fun j s' => ∃ kA, S j kA s') vs 0 s ⟨#[], h0⟩ ?step ?fin)
  case step =>
    rintro j x s' hx ⟨kA, hS⟩
    simp only [Nat.zero_add] at hS ⊢
    have jl : j < vs.length := (List.getElem?_eq_some_iff.mp hx).1
    have hz : kA.size ≤ sizeLine := by rw [hlen hS]; omega
    refine wpAny_bind (wpAny_attempt (wpAny_mono (turn j x kA s' hx hS) (fun u s2 he => ?_) fun _ _ hF => hF.elim))
    obtain ⟨e, nk, k⟩ := he
    try dsimp only
    refine wpAny_bind (listUpdate_at nk rfl ?_ hz (by rw [Array.size_push]; exact Nat.succ_le_succ hz))
    exact wpAny_pure ⟨rfl, _, k _ (Heap.SameBut.update s2.heap kS (Obj.mapSeq (·.push u))) ⟨_, get?_update_seq nk (·.push u)⟩⟩
  case fin =>
    rintro s' ⟨kA, hS⟩
    rw [Nat.zero_add] at hS
    obtain ⟨e, nk⟩ := KI.st hS
    obtain ⟨kz, q1, q2, q3, q4, q5⟩ := done kA s' hS
    try dsimp only
    refine wpAny_bind (listItems_at nk rfl ?_)
    obtain ⟨G, g1, g2⟩ := restrict s'.heap fun b => decide (b ≠ kS)
    have gk : KeepsBut a G s'.heap := fun b o _ z => by
      by_cases hb : b = kS
      · rw [g2 b (decide_eq_false fun n => n hb)] at z; cases z
      · rw [← g1 b (decide_eq_true hb)]; exact z
    refine keyH_end (κ := dataKind s'.heap kz) (h₁ := G) gk (g2 kS (decide_eq_false fun n => n rfl)) nk (KI.ls hS) ne (SortsAt.data q1 q2 q3 q4) (hlen hS) hZ fun h3 tk3 c k3 n3 => ?_
    exact q5 h3 tk3 _ c (fun b o n1 n2 z => k3 b o n1 (by rw [g1 b (decide_eq_true n2)]; exact z)) n3 ⟨s'.heap, kA.toList, q2, rfl, q1⟩
end
/-! ### a thing of ours that is forgotten -/
section
variable {X : Cx} {pins : List (Addr × Obj)} {σ : L2.St} {H : Hp} {s : Shared}
/-- the object at b is just this one -/
abbrev ExO (b : Addr) (o : Obj) : HO := .ext fun h => h.get? b = some o
theorem exO_ok {P : Program} {w : World} {H : Hp} {h : Heap} {b : Addr} {o : Obj} (e : h.get? b = some o) : ObjOk P w H h b (ExO b o) := ⟨e, ⟨_, e⟩, fun _ _ z st => st _ z⟩
theorem inv_forget {p : Addr} {φ : Heap → Prop} (I : Inv X pins σ H s) (hp : H p = some (.ext φ)) (n0 : X.s_0.heap.get? p = none) :
    ∃ G : Heap, (∀ b o, G.get? b = some o → s.heap.get? b = some o ∧ b ≠ p) ∧ (∀ b o, b ≠ p → s.heap.get? b = some o → G.get? b = some o) ∧ Inv X pins σ (delH H p) { s with heap := G } := by
  obtain ⟨G, r1, r2⟩ := restrict s.heap fun b => decide (b ≠ p)
  have up : ∀ b o, b ≠ p → s.heap.get? b = some o → G.get? b = some o := fun b o n e => (r1 b (decide_eq_true n)).trans e
  have gp : G.get? p = none := r2 p (decide_eq_false fun z => z rfl)
  have dn : ∀ b o, G.get? b = some o → s.heap.get? b = some o ∧ b ≠ p := fun b o e => by
    have n : b ≠ p := fun z => by rw [z, gp] at e; cases e
    exact ⟨(r1 b (decide_eq_true n)).symm.trans e, n⟩
  have old : ∀ {b o}, X.s_0.heap.get? b = some o → b ≠ p := fun {b o} e z => by rw [z, n0] at e; cases e
  have unt : ∀ {b}, H b = none → b ≠ p := fun {b} e z => by rw [z, hp] at e; cases e
  have oth : ∀ {b o}, H b = some o → (∀ ψ, o ≠ .ext ψ) → b ≠ p := fun {b o} e q z => by rw [z, hp] at e; exact q _ (Option.some.inj e).symm
  have B := I.base
  have cl : ∀ {x c}, X.env.cells.lookup x = some c → ∀ {v}, s.heap.IsCell c v → G.IsCell c v := fun {x c} e {v} ⟨o, h1, h2⟩ => ⟨o, up c o (unt (I.freeC x c e)) h1, h2⟩
  refine ⟨G, dn, up, ⟨I.ok, I.os, I.bare, ⟨?_, ?_, ?_, ?_, ?_, ?_, ?_⟩, ?_, ?_, ?_, ?_, ?_, ?_, I.len⟩⟩
  · intro b o e1 e2 e3 e4
    exact up b o (old e1) (B.keep b o e1 e2 e3 e4)
  · intro b o e1 e2 e3 e4
    obtain ⟨sl, z⟩ := B.slot b o e1 e2 e3 e4
    exact ⟨sl, up b _ (old e1) z⟩
  · intro b o e1 e2 e3
    exact (delH_ne (old e1)).trans (B.free b o e1 e2 e3)
  · intro b o e1 e2
    obtain ⟨o', z⟩ := B.there b o e1 e2
    exact ⟨o', up b _ (old e1) z⟩
  · intro b xs e1
    have z := B.tups b xs e1
    exact (delH_ne (oth z fun _ => by simp)).trans z
  · intro b o u e1
    have z := B.frzs b o u e1
    exact (delH_ne (oth z fun _ => by simp)).trans z
  · intro b ps e1
    obtain ⟨m, z⟩ := B.tbls b ps e1
    exact ⟨m, (delH_ne (oth z fun _ => by simp)).trans z⟩
  · obtain ⟨m, ⟨o, es, ep, h1, h2⟩, hl⟩ := I.loc
    refine ⟨m, ⟨o, es, ep, up _ _ (unt I.free) h1, h2⟩, fun i x v e1 e2 e3 => ?_⟩
    obtain ⟨u, ru, lu⟩ := hl i x v e1 e2 e3
    refine ⟨u, ru, ?_⟩
    rcases lu with l | ⟨k, c, e, z⟩
    · exact .inl l
    · exact .inr ⟨k, c, e, cl e z⟩
  · intro x c e
    obtain ⟨v, z⟩ := I.cell x c e
    exact ⟨v, cl e z⟩
  · exact (delH_ne (unt I.free)).trans I.free
  · intro x c e
    exact (delH_ne (unt (I.freeC x c e))).trans (I.freeC x c e)
  · intro q hq
    obtain ⟨h1, h2, h3⟩ := I.pin q hq
    exact ⟨up _ _ (unt h2) h1, (delH_ne (unt h2)).trans h2, h3⟩
  · intro b u e
    have n : b ≠ p := fun z => by rw [z, delH_same] at e; cases e
    have e' : H b = some u := (delH_ne n).symm.trans e
    refine (I.hok b u e').stay (fun c v hc z => up c v ?_ z) (fun c z => (delH_ne (oth z fun _ => by simp)).trans z) fun c xs z => (delH_ne (oth z fun _ => by simp)).trans z
    rcases hc with hc | hc
    · rw [hc]; exact n
    · exact oth hc fun _ => by simp
/-- an object that is told outright is known otherwise now -/
theorem inv_swap {p : Addr} {o : Obj} {u' : HO} {h' : Heap} {t' : Nat} (I : Inv X pins σ H s) (hp : H p = some (ExO p o)) (k : ∀ b v, b ≠ p → s.heap.get? b = some v → h'.get? b = some v) (e : ∃ o', h'.get? p = some o') (new : ObjOk X.prog X.w (upd H p u') h' p u') : Inv X pins σ (upd H p u') { s with heap := h', toks := t' } := by
  have ne : ∀ {b u}, H b = some u → (∀ ψ, u ≠ .ext ψ) → b ≠ p := fun {b u} z q y => by rw [y, hp] at z; exact q _ (Option.some.inj z).symm
  have nn : ∀ {b}, H b = none → b ≠ p := fun {b} z y => by rw [y, hp] at z; cases z
  refine I.un ⟨fun b u e1 e2 _ _ => k b u (nn e2) e1, fun b u e1 e2 _ _ => ⟨u.slots, k b u (nn e2) e1⟩, fun b u e1 e2 _ => (upd_ne (nn e2)).trans e2, fun b u e1 _ => ?_, fun b xs z => (upd_ne (ne z fun _ => by simp)).trans z, fun b u v z => (upd_ne (ne z fun _ => by simp)).trans z, fun b ps z => ⟨#[], by rw [upd_ne (ne z fun _ => by simp), z]; simp⟩⟩ fun b u z => ?_
  · by_cases hb : b = p
    · rw [hb]; exact e
    · exact ⟨u, k b u hb e1⟩
  · by_cases hb : b = p
    · subst hb
      rw [upd_same] at z
      cases z
      exact new
    · rw [upd_ne hb] at z
      refine (I.hok b u z).stay (fun c v hc q => k c v ?_ q) (fun c q => (upd_ne (ne q fun _ => by simp)).trans q) fun c xs q => (upd_ne (ne q fun _ => by simp)).trans q
      rcases hc with hc | hc
      · rw [hc]; exact hb
      · exact ne hc fun _ => by simp
end
/-! ### sorted(xs, key=f) -/
/-- xs sorted by keys that read as kz -/
def srtBy (xs : List V) (kz : List PyData) : List V := ((xs.zip kz).mergeSort (dataLe false Prod.snd)).map Prod.fst
/-- fc x: what a call f(x) does -/
def rSortF (K : PySem.W.Frag) (fc : V → Hp → VK → Prop) (l : V) (H : Hp) (Q : VK) : Prop := ∃ b xs, l = .ref b ∧ SqL K H b xs ∧ xs.length ≤ 100000 ∧ ∀ a kS, H a = none → H kS = none → a ≠ kS → ∃ J : Nat → List V → Hp → Prop,
  (∀ oa ok, IsX oa → IsX ok → J 0 [] (upd (upd H a oa) kS ok)) ∧
  (∀ j x ks Hj, xs[j]? = some x → J j ks Hj → fc x Hj fun v H' => H' a = Hj a ∧ H' kS = Hj kS ∧ ∀ ok, IsX ok → J (j + 1) (ks ++ [v]) (upd H' kS ok)) ∧
  ∀ ks Hn, J xs.length ks Hn → ∃ kz, Paired (fun v d => Dp K Hn v d) ks kz ∧ AllAlike kz ∧ Sortable kz ∧ (∀ d ∈ kz, d.depth ≤ 20) ∧ Q (.ref a) (upd (delH Hn kS) a (.lst (srtBy xs kz)))
theorem vals_snoc {ks : List V} {us : List Value} {v : V} {u : Value} (h : Vals ks us) (r : L2.RelV v u) : Vals (ks ++ [v]) (us ++ [u]) := by
  induction h with
  | nil => exact .cons r .nil
  | cons a _ ih => exact .cons a ih
theorem vals_each {β : Type} {R : Value → β → Prop} {φ : V → β → Prop} (k : ∀ v u b, φ v b → L2.RelV v u → R u b) : ∀ {ks : List V} {us : List Value} {bs : List β}, Vals ks us → Paired φ ks bs → EachIs R us bs
  | _, _, _, .nil, .nil => .nil
  | _, _, _, .cons r t, .cons p q => .cons (k _ _ _ p r) (vals_each k t q)
theorem each_vals {β : Type} {g : β → V} : ∀ {us : List Value} {bs : List β}, EachIs (fun u b => L2.RelV (g b) u) us bs → Vals (bs.map g) us
  | _, _, .nil => .nil
  | _, _, .cons r t => .cons r (each_vals t)
theorem each_zip {kz : List PyData} : ∀ {xs : List V} {us : List Value}, Vals xs us → xs.length = kz.length → EachIs (fun u (p : V × PyData) => L2.RelV p.1 u) us (xs.zip kz) := by
  induction kz with
  | nil =>
    intro xs us h e
    cases h with
    | nil => exact .nil
    | cons r t => cases e
  | cons d kz ih =>
    intro xs us h e
    cases h with
    | nil => cases e
    | cons r t => exact .cons r (ih t (by simpa using e))
section
variable {X : Cx}
theorem sort_run {pins : List (Addr × Obj)} {σ : L2.St} {H : Hp} {s : Shared} {l : V} {ul : Value} {q : Addr} {fc : V → Hp → VK → Prop} {Q : VK} (hu : X.A.units + 64 < cLine) (I : Inv X pins σ H s) (rl : L2.RelV l ul)
    (hf : ∀ (s : Shared) (H : Hp) (x : V) (u : Value) (Q : VK), Inv X pins σ H s → L2.RelV x u → fc x H Q → wpAny (model X.prog X.w) X.A.in1.in1 (call (.ref q) [u]) (EP X pins σ Q) (fun _ _ => False) s)
    (h : rSortF X.K fc l H Q) : wpAny (model X.prog X.w) X.A (call (.builtin "sorted") [ul] [(Str.ofString "key", .ref q)]) (EP X pins σ Q) X.xe s := by
  obtain ⟨b, xs, rfl, hb, hz, hJ⟩ := h
  obtain rfl : ul = Value.ref b := rl
  obtain ⟨its, rv, hl, hz'⟩ := I.list hb
  have il : its.length = xs.length := rv.length.symm
  have hZ : its.length ≤ sizeLine := by rw [il]; exact hz'
  refine sorted_of_sort hl.isList hZ (ksk_s1 _ _) (fun x => ksk_l1 _ _) fun E' => ?_
  rw [ksk_t1]
  obtain ⟨a, ea⟩ : ∃ a, a = s.heap.objs.size + 1 := ⟨_, rfl⟩
  rw [← ea]
  have ho : (copyHeap s.heap its).get? a = some (seqObj "list" its.toArray 0) := by rw [ea]; exact copyHeap_at s.heap its
  obtain ⟨e1, ho1⟩ : ∃ e1, ((copyHeap s.heap its).update a (Obj.mapSeq fun _ => (#[] : Array Value))).get? a = some (seqObj "list" #[] e1) := ⟨_, get?_update_seq ho fun _ => #[]⟩
  obtain ⟨hA, eA⟩ : ∃ hA, hA = (copyHeap s.heap its).update a (Obj.mapSeq fun _ => (#[] : Array Value)) := ⟨_, rfl⟩
  obtain ⟨hB, eB⟩ : ∃ hB, hB = hA.push (seqObj "tuple" its.toArray 0) := ⟨_, rfl⟩
  obtain ⟨kS, ek⟩ : ∃ kS, kS = hB.objs.size := ⟨_, rfl⟩
  rw [← eA] at ho1
  have na : H a = none := I.hok.fresh (by rw [ea]; exact Nat.le_succ _)
  have IA : Inv X pins σ (upd H a (ExO a (seqObj "list" #[] e1))) { s with heap := hA, toks := s.toks } := I.laid (fun b u e => by
    have nb : b ≠ a := fun z => absurd (Heap.lt_size e) (by rw [z, ea]; exact Nat.not_lt_of_le (Nat.le_succ _))
    rw [eA, Heap.get?_update_ne _ _ _ _ nb]
    exact copyHeap_old e) (by rw [ea]; exact Nat.le_succ _) (exO_ok ho1)
  have IB : Inv X pins σ (upd H a (ExO a (seqObj "list" #[] e1))) { s with heap := hB, toks := s.toks } := IA.kept (h' := hB) fun b u e => by rw [eB]; exact Heap.get?_push_of_some _ e
  have oB : hB.get? a = some (seqObj "list" #[] e1) := by rw [eB]; exact Heap.get?_push_of_some _ ho1
  have oC : (hB.push (seqObj "list" #[] 0)).get? kS = some (seqObj "list" #[] 0) := by rw [ek]; exact Heap.get?_push_size _ rfl
  have lt : a < kS := by rw [ek]; exact Heap.lt_size oB
  have ne : kS ≠ a := Nat.ne_of_gt lt
  have IC := IB.laid (t' := s.toks) (h' := hB.push (seqObj "list" #[] 0)) (a := kS) (o := ExO kS (seqObj "list" #[] 0)) (fun b u e => Heap.get?_push_of_some _ e) (Nat.le_of_eq ek.symm) (exO_ok oC)
  have nk : H kS = none := by
    have z := IB.hok.fresh (a := kS) (Nat.le_of_eq ek.symm)
    rw [upd_ne ne] at z
    exact z
  have n0 : X.s_0.heap.get? kS = none := Heap.get?_none_of_le (by have := I.sz; omega)
  obtain ⟨J, j0, j1, j2⟩ := hJ a kS na nk ne.symm
  let S : Nat → Array Value → Shared → Prop := fun j kA s' => ∃ Hj ks, Inv X pins σ Hj s' ∧ Hj a = some (ExO a (seqObj "list" #[] e1)) ∧ (∃ c, Hj kS = some (ExO kS (seqObj "list" kA c))) ∧ Vals ks kA.toList ∧ ks.length = j ∧ J j ks Hj
  have KI : KeyInv a kS e1 S := ⟨fun {j kA s'} ⟨Hj, ks, I', _, ⟨c, h2⟩, _⟩ => ⟨c, (I'.hok kS _ h2).1⟩, fun {j kA s'} ⟨Hj, ks, I', h1, _⟩ => (I'.hok a _ h1).1⟩
  unfold ksk_tree
  refine wpAny_bind (listItems_at ho rfl (wpAny_bind (listUpdate_at ho rfl ?_ (by rw [List.size_toArray]; exact hZ) (Nat.zero_le _))))
  rw [← eA]
  refine wpAny_bind (seqEpoch_at ho1 rfl (wpAny_bind (wpAny_newTuple ?_ hZ)))
  show wpAny _ _ _ _ _ { s with heap := hA.push (seqObj "tuple" its.toArray 0) }
  rw [← eB]
  refine wpAny_bind (wpAny_newList ?_ (Nat.zero_le _))
  show wpAny _ _ (holding [_, .ref hB.objs.size] _) _ _ _
  rw [← ek]
  refine wpAny_holding (ksk_inv KI ne hZ (fun {j kA s'} ⟨Hj, ks, _, _, _, z, z2, _⟩ => ?_) ⟨_, [], IC, by rw [upd_ne ne.symm, upd_same], ⟨0, upd_same⟩, .nil, rfl, j0 _ _ ⟨_, rfl⟩ ⟨_, rfl⟩⟩ (fun j x kA s' hx hS => ?_) fun kA s' hS => ?_)
  · rw [← z2, z.length, Array.length_toList]
  · obtain ⟨Hj, ks, I', h1, ⟨c, h2⟩, hv, hk, hj⟩ := hS
    have jl : j < xs.length := by rw [← il]; exact (List.getElem?_eq_some_iff.mp hx).1
    obtain ⟨u, hu1, ru⟩ := rv.get (i := j) (x := xs[j]) (by simp [jl])
    rw [hx] at hu1
    cases hu1
    refine wpAny_mono (hf s' Hj xs[j] x _ I' ru (j1 j xs[j] ks Hj (by simp [jl]) hj)) (fun u s2 ⟨v, H2, I2, r2, z1, z2, z3⟩ => ?_) fun _ _ z => z
    rw [h1] at z1
    rw [h2] at z2
    refine ⟨c, (I2.hok kS _ z2).1, fun h' sb ⟨c', e⟩ => ⟨_, ks ++ [v], inv_swap I2 (t' := s2.toks) z2 (fun b w n e' => (sb.2 b n).trans e') ⟨_, e⟩ (exO_ok e), by rw [upd_ne ne.symm]; exact z1, ⟨c', upd_same⟩, ?_, by rw [List.length_append, hk]; rfl, z3 _ ⟨_, rfl⟩⟩⟩
    rw [Array.toList_push]
    exact vals_snoc hv r2
  · obtain ⟨Hn, ks, I', h1, ⟨c, h2⟩, hv, hk, hj⟩ := hS
    rw [il] at hk hj
    obtain ⟨kz, p1, p2, p3, p4, hQ⟩ := j2 ks Hn hj
    have lz : xs.length = kz.length := by rw [← hk]; exact p1.length
    refine ⟨kz, vals_each (φ := fun v d => Dp X.K Hn v d) (fun v u d pd r => Dp.reads I' d v u pd r) hv p1, p2, p3, fun d hd => ?_, fun h' tk out c' k3 n3 ko => ⟨rfl, ?_⟩⟩
    · have := p4 d hd
      show X.A.units + 1 + 1 + d.depth < cLine
      omega
    · obtain ⟨G, g1, g2, IG⟩ := inv_forget I' h2 n0
      have ez := each_vals (keyedOut_each (bs := xs.zip kz) Prod.snd (by rw [List.map_snd_zip (by omega)]; exact ko) (each_zip rv lz))
      have lo : (srtBy xs kz).length ≤ sizeLine := by
        unfold srtBy
        rw [List.length_map, List.length_mergeSort, List.length_zip, ← lz, Nat.min_self]
        exact hz'
      exact ⟨.ref a, _, inv_swap (s := { s' with heap := G }) IG (p := a) (u' := .lst (srtBy xs kz)) (t' := tk) (h' := h') (by rw [delH_ne ne.symm]; exact h1) (fun b v nb e => let ⟨q1, q2⟩ := g1 b v e; k3 b v nb q2 q1) ⟨_, n3⟩ ⟨lo, out, c', ez, n3⟩, rfl, hQ⟩
end
end TH
/-! What a lambda promises, and sorted by one. -/
namespace TH
open PySem PySem.Spec PyProof.Rows L2 LamX NdefX
variable [TC : TabC]
/-- the promise of the lambda with F's words and the body e, at f: sp ws, ws what its captured cells hold -/
structure LOk (P : Program) (w : World) (K : PySem.W.Frag) (mg : Str → Option Value) (base : Heap) (CX : CXT) (k : Nat) (f : Addr) (F : NdefX.NF) (e : Expr) (ps fr : List Str) (sp : List (Option V) → Sp) : Prop where
  len : ∀ ws vs H Q E, sp ws vs H Q E → vs.length = ps.length
  run : ∀ (A : Around) (outer : List Env) (s : Shared) (H : Hp) (us : List Value) (vs : List V) (ws : List (Option V)) (Q : VK) (E : XK), Room k A → Env0 P w K mg base A outer s H → H f = some (LamO f F e) → H F.c = some (CodeO F.c F.qual) →
    CellsAt F.cl fr ws s.heap H → Vals vs us → sp ws vs H Q E → codeAny (model P w) A (.call (.ref f) ⟨us, []⟩) (CR CX outer P w H s Q E) s
section
variable {CX : CXT} {P : Program} {w : World} {K : PySem.W.Frag} {mg : Str → Option Value} {base : Heap} {N ps fr : List Str} {F : NdefX.NF} {f : Addr} {e : Expr} {k j : Nat} {sp : List (Option V) → Sp}
theorem lok_of (S : NScope N ps fr F.scope) (hb : ∀ (pm ctv : Value) (us : List Value), us.length = ps.length → bindArgs (PySem.W.kla_fn F.name F.qual F.params e F.scope F.cl pm (.ref F.c) ctv) ⟨us, []⟩ = pure (ps.zip us)) (len : ∀ ws vs H Q E, sp ws vs H Q E → vs.length = ps.length)
    (hbody : ∀ (A : Around) (outer : List Env) (s : Shared) (H : Hp) (vs : List V) (ws : List (Option V)) (Q : VK) (E : XK), Room k (A.deeper (envF F f s.heap.objs.size)) → H f = some (LamO f F e) → ws.length = fr.length → sp ws vs H Q E →
      ∃ t, PE (ncx CX P w K mg base N F f A outer s H E) e t ∧ t (startF N vs ws) H Q) :
    LOk P w K mg base CX (k + 1) f F e ps fr sp := by
  refine ⟨len, fun A out s H us vs ws Q E hr e0 hf hc C r hsp => ?_⟩
  have hl := len _ _ _ _ _ hsp
  have lim : s.heap.NoLimit := e0.mod.nolimit.keeps fun b o z => (e0.bs b o z).1
  obtain ⟨od, sl, pm, ctv, ho⟩ := lamO_at e0.hok hf
  refine PySem.W.kla_callFunE hr.depth ho rfl S.co S.gen rfl (codeO_at e0.hok hc) ?_
  rw [hb pm ctv us (r.length.symm.trans hl)]
  refine wpAny_pure (wpAny_newFunctionEnv S.nocell (fun ⟨y, _⟩ my => S.par y (List.of_mem_zip my).1) (fun h₁ hns hsb => ⟨lim.fresh _ hsb, ?_⟩) S.kind)
  obtain ⟨t, ht, hq⟩ := hbody A out s H vs ws Q E (hr.deeper _) hf C.len hsp
  have kp : ∀ b o, s.heap.get? b = some o → h₁.get? b = some o := fun b o z => hsb.extBut b o (Nat.ne_of_lt (Heap.lt_size z)) (Heap.get?_push_of_some _ z)
  have I := inv_startN (E := E) (CX := CX) (f := f) (tk := s.toks + (ps.zip us).length) S hr.hd e0 hl r C hns kp
  exact PySem.W.kla_codeExpr (wpAny_mono (ht.run [] _ (startF N vs ws) H Q I hq) (fun v s' ⟨v', H', J, rv, q⟩ => ⟨v', H', J.os, J.bare, J.base, J.hok, rv, q⟩) fun _ _ z => z)
end
/-! ### sorted(xs, key=..) as an expression -/
/-- fc σ q x: what a call of the function at q with x does, where the frame's names hold σ -/
def tSortF (K : PySem.W.Frag) (fc : L2.St → Addr → V → Hp → VK → Prop) (t tk : TA) : TE := fun σ H Q => t σ H fun vs H1 => tk σ H1 fun zs H2 => ∃ l q, vs = [l] ∧ zs = [.ref q] ∧ rSortF K (fc σ q) l H2 Q
section
variable {X : Cx} {fc : L2.St → Addr → V → Hp → VK → Prop} {t tk : TA} {e : Expr} {kws : List Keyword} {p pos : Pos}
theorem pe_sortF (hu : X.A.units + 64 < cLine) (hg : Gl X "sorted") (hm : X.mg "sorted" = none)
    (hf : ∀ (pins : List (Addr × Obj)) (σ : L2.St) (q : Addr) (s : Shared) (H : Hp) (x : V) (u : Value) (Q : VK), Inv X pins σ H s → L2.RelV x u → fc σ q x H Q → wpAny (model X.prog X.w) X.A.in1.in1 (call (.ref q) [u]) (EP X pins σ Q) (fun _ _ => False) s)
    (ha : PA X [e] t) (hk : PK X kws tk) (hs : backTo pos (starEach [e] X.env) = (false, eval e X.env) :: backTo pos (starEach [] X.env) := by rfl) (hpl : (backTo pos (starEach [e] X.env)).any (·.1) = false := by rfl)
    (hall : (backToKw pos (keywordEach kws X.env)).all (·.1.isSome) = true := by rfl) (hnone : (backToKw pos (keywordEach kws X.env)).any (·.1.isNone) = false := by rfl) (hks : (backToKw pos (keywordEach kws X.env)).filterMap (·.1) = [Str.ofString "key"] := by rfl) :
    PE X (.Call (.Name "sorted" p) [e] kws pos) (tSortF X.K fc t tk) := by
  refine ⟨fun pins s σ H Q I h => ?_⟩
  refine wpAny_Call_Name_kw (ld_blt I hg hm rfl ?_ (by decide) (by decide))
  refine PyProof.Rows.callWith_kw (thn (ha.run pos pins s σ H _ I h) fun us s1 ⟨vs, H1, I1, r1, q1⟩ => thn (hk.run pos pins s1 σ H1 _ I1 q1) fun ws s2 ⟨zs, H2, I2, r2, q2⟩ => ?_) hs hpl hall hnone
  rw [hks]
  obtain ⟨l, q, rfl, rfl, q3⟩ := q2
  cases r1 with
  | cons rl r1 =>
    cases r1
    cases r2 with
    | cons rz r2 =>
      cases r2
      obtain rfl : _ = Value.ref q := rz
      exact sort_run hu I2 rl (fun s H x u Q => hf pins σ q s H x u Q) q3
/-- a lambda of this frame, called -/
def fcLam (mk : Addr → NdefX.NF) (e : Expr) (js : List Nat) (sp : Addr → Addr → List (Option V) → Sp) (E : XK) : L2.St → Addr → V → Hp → VK → Prop := fun σ q x H Q => ∃ c', H q = some (LamO q (mk c') e) ∧ H (mk c').c = some (CodeO (mk c').c (mk c').qual) ∧ sp q c' (js.map (slotAt σ)) [x] H Q E
theorem call_lam {k j : Nat} {mk : Addr → NdefX.NF} {cl : List (Str × Addr)} {ps fr : List Str} {js : List Nat} {sp : Addr → Addr → List (Option V) → Sp} {E : XK} {b : Expr} (Fn : ∀ f c', LOk X.prog X.w X.K X.mg X.base C8.CX0 k f (mk c') b ps fr (sp f c')) (hcl : ∀ c', (mk c').cl = cl) (cp : X.Ok → Caps X cl fr js) (hr : Room j X.A) (hk : k + 1 ≤ j)
    (pins : List (Addr × Obj)) (σ : L2.St) (q : Addr) (s : Shared) (H : Hp) (x : V) (u : Value) (Q : VK) (I : Inv X pins σ H s) (r : L2.RelV x u) (h : fcLam mk b js sp E σ q x H Q) : wpAny (model X.prog X.w) X.A.in1.in1 (call (.ref q) [u]) (EP X pins σ Q) (fun _ _ => False) s := by
  obtain ⟨c', h1, h2, h3⟩ := h
  have hr2 : Room k X.A.in1.in1 := ⟨hr.hd, by have := hr.dp; show X.A.depth + 3 * k + 5 < _; omega, by have := hr.un; show X.A.units + 1 + 1 + 16 * k + 200 < _; omega⟩
  have e0 := I.env0
  have e1 : Env0 X.prog X.w X.K X.mg X.base X.A.in1.in1 X.stack s H := ⟨e0.frames, e0.mod, e0.bs, e0.bsz, e0.funs, e0.frf, e0.hok, e0.bare⟩
  have C : CellsAt (mk c').cl fr (js.map (slotAt σ)) s.heap H := by rw [hcl c']; exact cells_of I (cp I.ok)
  refine wpAny_call (codeAny_mono ((Fn q c').run X.A.in1.in1 X.stack s H [u] [x] _ Q E hr2 e1 h1 h2 C (.cons r .nil) h3) fun r s' hq => ?_)
  cases r with
  | error e => exact (show False from hq).elim
  | ok fl =>
    cases fl with
    | ret v => exact I.after hq
    | next => exact False.elim hq
    | brk => exact False.elim hq
    | cont => exact False.elim hq
end
end TH
/-! Functions made within defs and sorted by a key, over plain values. -/
namespace TH
open PySem PySem.Spec PyProof.Rows L2 LamX NdefX
variable [TC : TabC]
/-! ### a function as a value -/
/-- the function made at a place: its object and its code are frozen -/
def rFn (q : Str) (mk : Addr → Addr → HO) (hx : ∀ f c, IsX (mk f c)) : Rl := ⟨fun G v => ∃ f c, v = .ref f ∧ G f = some (mk f c) ∧ G c = some (CodeO c q), fun e ⟨f, c, h1, h2, h3⟩ => ⟨f, c, h1, e.at h2 (hx f c).nf (hx f c).nd, e.at h3 code_nf code_nd⟩⟩
def aRel (r : Rl) : aTE := fun _ A k => k (.pv (.rel r)) A
section
variable {K : PySem.W.Frag} {m : Bool}
theorem Made.out {G H G1 H1 : Hp} {f c : Addr} {q : Str} {mk : Addr → Addr → HO} {hx : ∀ f c, IsX (mk f c)} (M : Made G H G1 H1 f c q (mk f c)) : (rFn q mk hx).P G1 (.ref f) := ⟨f, c, rfl, M.fG, M.cG⟩
theorem mk_ok {G H : Hp} {P : Addr} {pos : Pos} {q : Str} {mk : Addr → Addr → HO} {Q : VK} (le : Le G H) (t : TabG G H P) (hn : TC.nm pos.line pos.col = q) (h : ∀ f c G1 H1, Made G H G1 H1 f c q (mk f c) → Q (.ref f) H1) (σ : L2.St) : tMk P pos q mk σ H Q := by
  obtain ⟨t0, ps, t1, t2, t3⟩ := t
  refine ⟨ps, t1, t2, fun cv hc => let ⟨c, e, _⟩ := t3 pos cv hc; ⟨c, e⟩, fun f c H1 hf hh => ?_⟩
  rcases hh with ⟨hc, rfl⟩ | ⟨hc, ne, rfl⟩
  · obtain ⟨c', e, e2⟩ := t3 pos _ hc
    cases e
    rw [hn] at e2
    exact h f c _ _ (made_hit le e2 hf)
  · exact h f c _ _ (made_new le t1 t2 t0 hc hn hf ne)
theorem sim_mk {P : Addr} {pos : Pos} {q : Str} {mk : Addr → Addr → HO} (hx : ∀ f c, IsX (mk f c)) (hP : P ∈ TC.T) (hn : TC.nm pos.line pos.col = q) : SimE K m (aRel (rFn q mk hx)) (tMk P pos q mk) := fun {B s sa σ} rp g {Kc Q} q' h =>
  mk_ok rp.le (rp.tabs P hP) hn (fun f c G1 H1 M => q' (.pv (.rel (rFn q mk hx))) (.ref f) { s with G := G1, H := H1 } (.of rp M.gr) (M.out (hx := hx)) h) σ
theorem sim_mkS {n0 i : Nat} {P : Addr} {pos : Pos} {q : Str} {mk : Addr → Addr → HO} (hx : ∀ f c, IsX (mk f c)) (hP : P ∈ TC.T) (hn : TC.nm pos.line pos.col = q) : SimS K n0 (aAsg (aRel (rFn q mk hx)) (aName i)) (tMkS P pos q mk i) :=
  sim_asg (sim_mk hx hP hn) (sim_gname (vs := [i]) (by simp))
end
/-! ### what a lambda does with plain values -/
/-- ac cvs avs A k: cvs what the captured names hold -/
def spL (K : PySem.W.Frag) (ac : List (Option AV) → AC) : List (Option V) → Sp := fun ws vs H Q _ => ∃ (s : Cs) (avs : List AV) (cvs : List (Option AV)) (Kc : Rt → Sto → Prop), s.H = H ∧ Rep K (Bs.of s) s ∧ Paired (avS K s) avs vs ∧ SgR K s cvs ws ∧ ac cvs avs s.A Kc ∧
  ∀ r v s', Rep K (Bs.of s) s' → s'.A.length = s.A.length → retR K s s' r v → Kc r s'.A → Q v s'.H
def startAF (N : List Str) (avs : List AV) (cvs : List (Option AV)) : Sg := avs.map some ++ (cvs ++ List.replicate (N.length - avs.length - cvs.length) none)
theorem sgr_app {K : PySem.W.Frag} {s : Cs} {sa sb : Sg} {σ τ : L2.St} (a : SgR K s sa σ) (b : SgR K s sb τ) : SgR K s (sa ++ sb) (σ ++ τ) := by
  refine ⟨by rw [List.length_append, List.length_append, a.len, b.len], fun i x e => ?_⟩
  by_cases c : i < sa.length
  · rw [List.getElem?_append_left c] at e
    obtain ⟨v, h1, h2⟩ := a.at' i x e
    exact ⟨v, by rw [List.getElem?_append_left (by rw [← a.len]; exact c)]; exact h1, h2⟩
  · rw [List.getElem?_append_right (Nat.le_of_not_lt c)] at e
    obtain ⟨v, h1, h2⟩ := b.at' _ x e
    exact ⟨v, by rw [List.getElem?_append_right (by rw [← a.len]; exact Nat.le_of_not_lt c), ← a.len]; exact h1, h2⟩
theorem sgr_vals {K : PySem.W.Frag} {s : Cs} : ∀ {avs : List AV} {vs : List V}, Paired (avS K s) avs vs → SgR K s (avs.map some) (vs.map some)
  | _, _, .nil => ⟨rfl, fun i a e => by simp at e⟩
  | _, _, .cons p t => sgr_app (sa := [some _]) (σ := [some _]) ⟨rfl, fun i a e => by
      match i, e with
      | 0, e => cases e; exact ⟨_, rfl, p⟩
      | i + 1, e => simp at e⟩ (sgr_vals t)
theorem sgr_none {K : PySem.W.Frag} {s : Cs} {n k : Nat} (h : n = k) : SgR K s (List.replicate n none) (List.replicate k none) := by
  subst h
  refine ⟨by simp, fun i a e => ?_⟩
  rw [List.getElem?_replicate] at e
  split at e <;> cases e
theorem startF_r {K : PySem.W.Frag} {s : Cs} {N : List Str} {avs : List AV} {vs : List V} {cvs : List (Option AV)} {ws : List (Option V)} (h : Paired (avS K s) avs vs) (g : SgR K s cvs ws) : SgR K s (startAF N avs cvs) (startF N vs ws) :=
  sgr_app (sgr_vals h) (sgr_app g (sgr_none (by rw [h.length, g.len])))
section
variable {P : Program} {w : World} {K : PySem.W.Frag} {mg : Str → Option Value} {base : Heap} {N ps fr : List Str} {F : NdefX.NF} {f : Addr} {e : Expr} {k : Nat} {ac : List (Option AV) → AC} {a : aTE}
/-- a lambda by its body -/
theorem lamA (S : NScope N ps fr F.scope) (hb : ∀ (pm ctv : Value) (us : List Value), us.length = ps.length → bindArgs (PySem.W.kla_fn F.name F.qual F.params e F.scope F.cl pm (.ref F.c) ctv) ⟨us, []⟩ = pure (ps.zip us)) (hlen : ∀ cvs avs A Kc, ac cvs avs A Kc → avs.length = ps.length ∧ A = [])
    (hbody : ∀ (A : Around) (outer : List Env) (s : Shared) (H : Hp) (E : XK), Room k (A.deeper (envF F f s.heap.objs.size)) → ∃ t, PE (ncx C8.CX0 P w K mg base N F f A outer s H E) e t ∧ SimE K false a t)
    (hrun : ∀ cvs avs Kc, ac cvs avs [] Kc → a (startAF N avs cvs) [] fun x A' => match x with
      | .pv p => Kc (.pv p) []
      | _ => False) : LOk P w K mg base C8.CX0 (k + 1) f F e ps fr (spL K ac) := by
  refine lok_of S hb (fun ws vs H Q E ⟨s, avs, cvs, Kc, e1, r, p, g, h, _⟩ => p.length.symm.trans (hlen _ _ _ _ h).1) fun A outer s H vs ws Q E hr hf hl hsp => ?_
  obtain ⟨t, pe, sim⟩ := hbody A outer s H E hr
  refine ⟨t, pe, ?_⟩
  obtain ⟨s0, avs, cvs, Kc, rfl, r, p, g, h, q⟩ := hsp
  have hA : s0.A = [] := (hlen _ _ _ _ h).2
  have hι : s0.ι = [] := List.length_eq_zero_iff.mp (by rw [r.len, hA]; rfl)
  rw [hA] at h
  refine sim r (startF_r p g) (fun x v s1 e1 px k => ?_) (by rw [hA]; exact hrun cvs avs Kc h)
  match x, px, k with
  | .pv pv, px, k =>
    have cut := e1.rep.cut (by rw [hA]; exact Nat.zero_le _) r.len
    refine q (.pv pv) v { s1 with ι := s1.ι.take s0.A.length, A := s1.A.take s0.A.length } cut (by rw [hA]; simp) px ?_
    rw [hA]
    exact k
end
/-! ### sorted(xs, key=lambda ..) -/
def slotAv (sa : Sg) (j : Nat) : Option AV := match sa[j]? with
  | some o => o
  | none => none
/-- ac: what the lambda does; js: the places of the names that it captures -/
def aSort (ac : List (Option AV) → AC) (js : List Nat) (r : aTA) : aTN := fun sa A k => r sa A fun avs A1 => ∃ x xs, avs = [x] ∧ viewL A1 x = some xs ∧ xs.length ≤ 100000 ∧ (∀ j ∈ js, ∃ p, slotAv sa j = some (.pv p)) ∧
  ∃ (ke : PV → PV) (kd : PV → PyData), (∀ p ∈ xs, ac (js.map (slotAv sa)) [.pv p] [] fun rv _ => rv = .pv (ke p)) ∧ (∀ p ∈ xs, (ke p).dat = some (kd p)) ∧ PySem.W.AllAlike (xs.map kd) ∧ PySem.W.Sortable (xs.map kd) ∧ (∀ p ∈ xs, (kd p).depth ≤ 20) ∧ k (.lst (xs.mergeSort (PySem.W.dataLe false kd))) A1
theorem al_mem {K : PySem.W.Frag} {G : Hp} : ∀ {xs : List PV} {vs : List V}, Al G (rPs K xs) vs → ∀ q ∈ xs.zip vs, (rPV K q.1).P G q.2
  | [], _, .nil, q, hq => by simp at hq
  | x :: xs, _, .cons h t, q, hq => by
    rcases List.mem_cons.mp hq with rfl | hq
    · exact h
    · exact al_mem t q hq
theorem al_pairs {K : PySem.W.Frag} {G : Hp} : ∀ {l : List (PV × V)}, (∀ q ∈ l, (rPV K q.1).P G q.2) → Al G (rPs K (l.map Prod.fst)) (l.map Prod.snd)
  | [], _ => .nil
  | q :: l, h => .cons (h q List.mem_cons_self) (al_pairs fun q' hq => h q' (List.mem_cons_of_mem _ hq))
/-- sorted side by side -/
theorem srt_al {K : PySem.W.Frag} {G : Hp} {xs : List PV} {vs : List V} {kd : PV → PyData} (al : Al G (rPs K xs) vs) : Al G (rPs K (xs.mergeSort (PySem.W.dataLe false kd))) (srtBy vs (xs.map kd)) := by
  have hl : xs.length = vs.length := by rw [← al.length, rPs_len]
  have e1 : ((xs.zip vs).mergeSort (PySem.W.dataLe false fun q => kd q.1)).map Prod.fst = xs.mergeSort (PySem.W.dataLe false kd) := by
    rw [List.map_mergeSort (f := Prod.fst) (r := PySem.W.dataLe false fun q : PV × V => kd q.1) (s := PySem.W.dataLe false kd) fun a _ b _ => rfl, List.map_fst_zip (by omega)]
  have e2 : ((xs.zip vs).mergeSort (PySem.W.dataLe false fun q => kd q.1)).map (fun q => (q.2, kd q.1)) = (vs.zip (xs.map kd)).mergeSort (PySem.W.dataLe false Prod.snd) := by
    rw [List.map_mergeSort (f := fun q : PV × V => (q.2, kd q.1)) (r := PySem.W.dataLe false fun q : PV × V => kd q.1) (s := PySem.W.dataLe false Prod.snd) fun a _ b _ => rfl]
    congr 1
    clear e1 al
    induction xs generalizing vs with
    | nil => simp
    | cons x xs ih =>
      match vs, hl with
      | v :: vs, hl => exact congrArg ((v, kd x) :: ·) (ih (by simpa using hl))
  have e3 : srtBy vs (xs.map kd) = ((xs.zip vs).mergeSort (PySem.W.dataLe false fun q => kd q.1)).map Prod.snd := by
    unfold srtBy
    rw [← e2, List.map_map]
    rfl
  rw [e3, ← e1]
  exact al_pairs fun q hq => al_mem al q (List.mem_mergeSort.mp hq)
section
variable {K : PySem.W.Frag} {m : Bool} {r : aTA} {t : TA} {P : Addr} {pos : Pos} {q : Str} {mkF : Addr → NdefX.NF} {body : Expr} {js : List Nat} {ac : List (Option AV) → AC} {E : XK}
theorem slots_r {s : Cs} {sa : Sg} {σ : L2.St} (g : SgR K s sa σ) : ∀ {js : List Nat}, (∀ j ∈ js, ∃ p, slotAv sa j = some (.pv p)) → ∀ {s' : Cs}, Le s.G s'.G → SgR K s' (js.map (slotAv sa)) (js.map (slotAt σ))
  | [], _, s', _ => ⟨rfl, fun i a e => by simp at e⟩
  | j :: js, h, s', le => by
    refine sgr_app (sa := [slotAv sa j]) (σ := [slotAt σ j]) ⟨rfl, fun i a e => ?_⟩ (slots_r g (fun i hi => h i (List.mem_cons_of_mem _ hi)) le)
    match i, e with
    | 0, e =>
      obtain ⟨p, hp⟩ := h j List.mem_cons_self
      have e : slotAv sa j = some a := Option.some.inj e
      rw [hp] at e
      cases e
      have hs : sa[j]? = some (some (.pv p)) := by
        unfold slotAv at hp
        split at hp
        · rename_i o e; rw [e, hp]
        · cases hp
      obtain ⟨v, h1, h2⟩ := g.at' j _ hs
      exact ⟨v, by show some (slotAt σ j) = _; rw [slotAt_of h1], (rPV K p).mono le h2⟩
    | i + 1, e => simp at e
theorem sim_sort (hc : ∀ c, (mkF c).c = c) (hq : ∀ c, (mkF c).qual = q) (hP : P ∈ TC.T) (hn : TC.nm pos.line pos.col = q) (ha : SimA K m r t) :
    SimN K m (aSort ac js r) (tSortF K (fcLam mkF body js (fun _ _ => spL K ac) E) t (tCons (tMk P pos q fun f c => LamO f (mkF c) body) tNil)) := fun {B s sa σ} rp g {Kc Q} q' h =>
  ha rp g (fun avs vs s1 e1 ps k => by
    obtain ⟨x, xs, rfl, hv, hl, hcv, ke, kd, k1, k2, k3, k4, k5, k6⟩ := k
    cases ps with
    | cons px ps =>
      cases ps
      refine mk_ok e1.rep.le (e1.rep.tabs P hP) hn (fun f c G2 H2 M => ?_) σ
      have st := Stp.of (m := true) e1.rep (M.gr (W := []))
      obtain ⟨b, vs, rfl, hb, al⟩ := viewL_ok st.rep (px.stp st) hv
      have hlen : vs.length = xs.length := by rw [← al.length, rPs_len]
      refine ⟨.ref b, f, rfl, rfl, b, vs, rfl, .of hb, by rw [hlen]; exact hl, fun a kS na nk ne => ?_⟩
      have na : H2 a = none := na
      have nk : H2 kS = none := nk
      refine ⟨fun j ks Hj => ∃ Gj, Gr [] G2 H2 Gj Hj ∧ Gj a = none ∧ Gj kS = none ∧ (∃ oa, Hj a = some oa ∧ IsX oa) ∧ (∃ ok, Hj kS = some ok ∧ IsX ok) ∧ Al Gj (rPs K ((xs.take j).map ke)) ks, fun oa ok xa xk => ?_, fun j y ks Hj hy hj => ?_, fun ks Hn hj => ?_⟩
      · have g1 : Gr [] G2 H2 G2 (upd H2 a oa) := Gr.own st.rep.le na
        have nk2 : (upd H2 a oa) kS = none := by rw [upd_ne ne.symm]; exact nk
        exact ⟨G2, g1.trans (Gr.own g1.gh nk2), st.rep.le.free na, st.rep.le.free nk, ⟨oa, by rw [upd_ne ne, upd_same], xa⟩, ⟨ok, upd_same, xk⟩, .nil⟩
      · obtain ⟨Gj, gr, ga, gk, ⟨oa, ha1, xa⟩, ⟨ok, hk1, xk⟩, hks⟩ := hj
        have jl : j < vs.length := (List.getElem?_eq_some_iff.mp hy).1
        have jx : j < xs.length := by omega
        have rj : Rep K B { s1 with G := Gj, H := Hj } := st.rep.pure gr
        have py : (rPV K xs[j]).P Gj y := (rPV K xs[j]).mono gr.gg (al_mem al (xs[j], y) (by
          have : (xs.zip vs)[j]? = some (xs[j], y) := by rw [List.getElem?_zip_eq_some]; exact ⟨by simp [jx], hy⟩
          exact List.mem_of_getElem? this))
        refine ⟨c, gr.gh.at (gr.gg.at M.fG lamO_x.nf lamO_x.nd) lamO_x.nf lamO_x.nd, ?_, ?_⟩
        · rw [hc c, hq c]
          exact gr.gh.at (gr.gg.at M.cG code_nf code_nd) code_nf code_nd
        · refine ⟨({ s1 with G := Gj, H := Hj } : Cs).none, [.pv xs[j]], js.map (slotAv sa), _, rfl, rj.none, .cons py .nil, slots_r g hcv (s' := ({ s1 with G := Gj, H := Hj } : Cs).none) (e1.le.trans (st.le.trans gr.gg)), k1 xs[j] (List.getElem_mem jx), fun rv v s' r' hA hr hkk => ?_⟩
          subst hkk
          have g2 : Gr [] Gj Hj s'.G s'.H := r'.gr0
          have hv' : (rPV K (ke xs[j])).P s'.G v := hr
          refine ⟨(g2.hhN a oa ha1 (fun z => nomatch z) (fun qs z => by obtain ⟨φ, rfl⟩ := xa; cases z)).trans ha1.symm, (g2.hhN kS ok hk1 (fun z => nomatch z) (fun qs z => by obtain ⟨φ, rfl⟩ := xk; cases z)).trans hk1.symm, fun ok' xk' => ?_⟩
          have g3 := gr.trans g2
          have ga' : s'.G a = none := g2.gnone (by rw [ha1]; exact fun z => nomatch z) ga
          have gk' : s'.G kS = none := g2.gnone (by rw [hk1]; exact fun z => nomatch z) gk
          refine ⟨s'.G, g3.put nk gk', ga', gk', ⟨oa, ?_, xa⟩, ⟨ok', upd_same, xk'⟩, ?_⟩
          · rw [upd_ne ne]
            exact g2.hhN a oa ha1 (fun z => nomatch z) (fun qs z => by obtain ⟨φ, rfl⟩ := xa; cases z)
          · rw [List.take_add_one, show xs[j]? = some xs[j] by simp [jx], List.map_append, rPs_app]
            exact (hks.mono g2.gg).append (.cons hv' .nil)
      · obtain ⟨Gj, gr, ga, gk, ⟨oa, ha1, xa⟩, ⟨ok, hk1, xk⟩, hks⟩ := hj
        rw [hlen, List.take_length] at hks
        refine ⟨xs.map kd, ?_, k3, k4, fun d hd => ?_, ?_⟩
        · have key : ∀ {ys : List PV} {us : List V}, (∀ p ∈ ys, (ke p).dat = some (kd p)) → Al Gj (rPs K (ys.map ke)) us → Paired (fun v d => Dp K Hn v d) us (ys.map kd) := by
            intro ys
            induction ys with
            | nil => intro us _ h; cases h; exact .nil
            | cons y ys ih =>
              intro us hd h
              cases h with
              | cons h1 h2 => exact .cons (dat_ok h1 (hd y List.mem_cons_self) gr.gh) (ih (fun p hp => hd p (List.mem_cons_of_mem _ hp)) h2)
          exact key k2 hks
        · obtain ⟨p, hp, rfl⟩ := List.mem_map.mp hd
          exact k5 p hp
        · have gf : Gr [] G2 H2 Gj (upd (delH Hn kS) a (.lst (srtBy vs (xs.map kd)))) := by
            have off : ∀ {b : Addr} {o : HO}, H2 b = some o → b ≠ a ∧ b ≠ kS := fun {b o} e => ⟨ne_of_none e na, ne_of_none e nk⟩
            refine ⟨gr.gg, fun b o e => ?_, fun b o e n tt => ?_, fun b e => ?_, gr.nw, fun R hR n tt => ?_⟩
            · have n1 : b ≠ a := fun z => by rw [z, ga] at e; cases e
              have n2 : b ≠ kS := fun z => by rw [z, gk] at e; cases e
              rw [upd_ne n1, delH_ne n2]
              exact gr.gh b o e
            · rw [upd_ne (off e).1, delH_ne (off e).2]
              exact gr.hhN b o e n tt
            · obtain ⟨o, e'⟩ := Option.ne_none_iff_exists'.mp e
              rw [upd_ne (off e').1, delH_ne (off e').2]
              exact gr.dm b e
            · have t2 := gr.tb R hR n tt
              exact t2.go (Le.refl _) (by rw [upd_ne (tt.ne na), delH_ne (tt.ne nk)]) t2.1
          have st2 := Stp.of (m := m) st.rep gf
          refine q' (.lst (xs.mergeSort (PySem.W.dataLe false kd))) (.ref a) [a] { s1 with G := Gj, H := upd (delH Hn kS) a (.lst (srtBy vs (xs.map kd))) } (e1.trans (st.weak.trans st2)) ⟨⟨a, _, rfl, rfl, upd_same, srt_al (al.mono gr.gg)⟩, by simp, fun b hb => ?_, fun b hb => ?_, fun b hb i hi z => ?_⟩ k6
          · rw [List.mem_singleton.mp hb]; exact (e1.trans (st.weak (m := m))).back na
          · rw [List.mem_singleton.mp hb]; exact ga
          · rw [List.mem_singleton.mp hb] at z
            exact st.rep.there hi a z na) h
end
/-! ### a nested def by its body -/
section
variable {K : PySem.W.Frag} {n0 : Nat}
/-- a body's run from a state -/
theorem body_core {at' : aTS} {t : TS} {s0 : Cs} {sa0 : Sg} {σ0 : L2.St} {Kc : Rt → Sto → Prop} {Q : VK} (h2 : Rep K (Bs.of s0) s0) (g0 : SgR K s0 sa0 σ0) (l2 : s0.A.length = n0) (hs : SimS K n0 at' t) (hrun : at' (aEnd n0 Kc) sa0 s0.A)
    (h5 : ∀ r v s', Rep K (Bs.of s0) s' → s'.A.length = s0.A.length → retR K s0 s' r v → Kc r s'.A → Q v s'.H) : t { nx := fun _ H' => Q .non H', rt := Q } σ0 s0.H := by
    have hl : s0.ι.length = s0.A.length := h2.len
    refine hs (Da := aEnd n0 Kc) (D := { nx := fun _ H' => Q .non H', rt := Q }) (by show s0.ι.length = n0; rw [hl, l2]) ⟨fun s1 sa σ r1 g1 q1 kk => ?_, fun s1 av v r1 g1 pv kk => ?_, fun s1 sa σ r1 g1 q1 kk => kk.elim, fun s1 sa σ r1 g1 q1 kk => kk.elim⟩ h2 g0 hrun
    · have kk : Kc (.pv (.v .non)) (s1.A.take n0) := kk
      rw [← l2] at kk
      exact h5 (.pv (.v .non)) .non { s1 with ι := s1.ι.take s0.A.length, A := s1.A.take s0.A.length } (r1.cut (r1.more hl) hl) (by have := r1.more hl; show (s1.A.take s0.A.length).length = _; rw [List.length_take]; omega) rfl kk
    · have cut := r1.cut (r1.more hl) hl
      have cl : (s1.A.take s0.A.length).length = s0.A.length := by have := r1.more hl; rw [List.length_take]; omega
      match av, pv, kk with
      | .pv p, pv, kk =>
        have kk : Kc (.pv p) (s1.A.take n0) := kk
        rw [← l2] at kk
        exact h5 (.pv p) v { s1 with ι := s1.ι.take s0.A.length, A := s1.A.take s0.A.length } cut cl pv kk
      | .loc n [], pv, kk =>
        obtain ⟨r0, z1, z2⟩ := pv
        have z2 : v = r0 := z2
        subst z2
        have kk : if n < n0 then Kc (.loc n) (s1.A.take n0) else ∃ o, s1.A[n]? = some o ∧ Kc (.new o) (s1.A.take n0) := kk
        rw [← l2] at kk
        by_cases c : n < s0.A.length
        · rw [if_pos c] at kk
          refine h5 (.loc n) v { s1 with ι := s1.ι.take s0.A.length, A := s1.A.take s0.A.length } cut cl ?_ kk
          show s0.ι[n]? = some v
          have hn : n < s0.ι.length := by rw [hl]; exact c
          have e : s0.ι[n]? = some s0.ι[n] := by simp [hn]
          have e2 := pre_get (l' := s1.ι) r1.pre e
          rw [z1] at e2
          rw [e, e2]
        · rw [if_neg c] at kk
          obtain ⟨o, k1, k2⟩ := kk
          refine h5 (.new o) v { s1 with ι := s1.ι.take s0.A.length, A := s1.A.take s0.A.length } cut cl ?_ k2
          have hn : n < s1.A.length := (List.getElem?_eq_some_iff.mp k1).1
          obtain ⟨w', y1, y2⟩ := r1.at' n o k1
          rw [z1] at y1
          cases y1
          refine ⟨s1.φ n, y2, r1.nd n hn, fun b hb => ?_, r1.out n hn, fun b hb i hi z => ?_⟩
          · rcases r1.fr n hn b hb with ⟨q, _⟩ | q
            · have q : n < s0.ι.length := q
              omega
            · exact q
          · have hi : i < (s1.A.take s0.A.length).length := hi
            rw [cl] at hi
            exact r1.dj n i hn (by omega) (by omega) b hb z
end
section
variable {P : Program} {w : World} {K : PySem.W.Frag} {mg : Str → Option Value} {base : Heap} {N ps fr : List Str} {F : NdefX.NF} {f : Addr} {k n0 : Nat} {ac : List (Option AV) → AC} {at' : aTS}
theorem nokA (S : NScope N ps fr F.scope) (hb : ∀ (doc pm ctv : Value) (us : List Value), us.length = ps.length → bindArgs (F.fd doc pm ctv) ⟨us, []⟩ = pure (ps.zip us)) (hlen : ∀ cvs avs A Kc, ac cvs avs A Kc → avs.length = ps.length ∧ A.length = n0)
    (hbody : ∀ (A : Around) (outer : List Env) (s : Shared) (H : Hp) (E : XK), Room k (A.deeper (envF F f s.heap.objs.size)) → ∃ t, PSs (ncx C8.CX0 P w K mg base N F f A outer s H E) F.body t ∧ SimS K n0 at' t)
    (hrun : ∀ cvs avs A Kc, ac cvs avs A Kc → at' (aEnd n0 Kc) (startAF N avs cvs) A) : NOk P w K mg base C8.CX0 (k + 1) f F ps fr (spL K ac) := by
  refine nok_of S hb (fun ws vs H Q E ⟨s, avs, cvs, Kc, e1, r, p, g, h, _⟩ => p.length.symm.trans (hlen _ _ _ _ h).1) fun A outer s H vs ws Q E hr hf hc hl hsp => ?_
  obtain ⟨t, pe, sim⟩ := hbody A outer s H E hr
  obtain ⟨s0, avs, cvs, Kc, rfl, r, p, g, h, q⟩ := hsp
  exact ⟨t, pe, body_core r (startF_r p g) (hlen _ _ _ _ h).2 sim (hrun _ _ _ _ h) q⟩
end
end TH
/-! Defs whose code object is known: those that make functions. -/
namespace TH
open PySem PySem.Spec PyProof.Rows L2 LamX NdefX
variable [TC : TabC]
section
variable {P : Program} {w : World} {K : PySem.W.Frag} {mg : Str → Option Value} {base : Heap} {x qual : Str} {params : Arguments} {body : List Stmt} {scope : Scope} {f : Addr} {fd : FuncData} {N ps : List Str} {k n0 : Nat} {ac : AC} {dvs : List V} {kws : List (Str × V)} {c : Addr}
/-- the code object of the def at fd, its table -/
structure CodeT (base : Heap) (mg : Str → Option Value) (fd : FuncData) (c P : Addr) : Prop where
  cd : fd.code = .ref c
  tb : TabB base mg c P
  at_ : P ∈ TC.T
theorem fnAC (F : FunD K x qual params body scope dvs kws f fd) (S : FnScope N ps scope) (hc : fd.code = .ref c) {at' : aTS} (hlen : ∀ avs A Kc, ac avs A Kc → avs.length = ps.length ∧ A.length = n0)
    (hb : ∀ (A : Around) (outer : List PySem.Env) (s : Shared) (H : Hp) (E : XK), Room k (A.deeper (envOfC qual scope s.heap.objs.size f (.ref c))) → ∃ t, PSs (cxOf CX0 P w K mg base N qual scope f (.ref c) A outer s H E).nox body t ∧ SimS K n0 at' t)
    (hrun : ∀ avs A Kc, ac avs A Kc → at' (aEnd n0 Kc) (startA N avs) A) : FnOk P w K mg base CX0 (k + 1) f fd ps (spA K ac) := by
  obtain ⟨_, _, _, _, _, _, _, cdv, _, _, rfl, lk, hcd, _, _⟩ := F.ex
  obtain rfl : cdv = .ref c := hc
  refine fn_of lk hcd S (fun vs H Q E h => ?_) fun A outer s H vs Q E hr h => ?_
  · obtain ⟨s, avs, Kc, _, _, h3, h4, _⟩ := h
    exact h3.length.symm.trans (hlen _ _ _ h4).1
  · obtain ⟨t, ht, hs⟩ := hb A outer s H E hr
    exact ⟨t, ht.nox, fnA_core hlen hs hrun h⟩
theorem fnATC (F : FunD K x qual params body scope dvs kws f fd) (S : FnScope N ps scope) (hc : fd.code = .ref c) {at' : aTS} (hlen : ∀ avs A Kc, ac avs A Kc → avs.length = ps.length ∧ A.length = n0)
    (hb : ∀ (A : Around) (outer : List PySem.Env) (s : Shared) (H : Hp) (E : XK), Room k (A.deeper (envOfC qual scope s.heap.objs.size f (.ref c))) → ∃ t, PSsT (cxOf CX0 P w K mg base N qual scope f (.ref c) A outer s H E).nox body t ∧ SimS K n0 at' t)
    (hrun : ∀ avs A Kc, ac avs A Kc → at' (aEnd n0 Kc) (startA N avs) A) : FnT P w K mg base CX0 (k + 1) f fd ps (spA K ac) := by
  refine fnT_byC F S (fun vs H Q E h => ?_) fun cdv A outer s H vs Q E he hr h => ?_
  · obtain ⟨s, avs, Kc, _, _, h3, h4, _⟩ := h
    exact h3.length.symm.trans (hlen _ _ _ h4).1
  · obtain rfl : cdv = .ref c := he.symm.trans hc
    obtain ⟨t, ht, hs⟩ := hb A outer s H E hr
    exact ⟨t, TH.PSsT.nox ht, fnA_core hlen hs hrun h⟩
end
end TH
/-! [elt for x in xs if .. for y in ys if ..] over plain values, no thing changing meanwhile. -/
namespace TH
open PySem PySem.Spec PyProof.Rows L2
variable [TC : TabC]
def aLc2 (wi : aTI) (g : aTG) (ct : aTT) (wi1 : aTI) (g1 : aTG) (ct1 : aTT) (e : aTE) (vs vs1 : List Nat) : aTN := fun sa A k => wi sa A fun xs C A1 => xs.length ≤ 100000 ∧ C A1 ∧ ∃ rows : PV → List PV,
  (∀ x ∈ xs, g (.pv x) (aWipe sa vs) A1 fun sa2 A2 => ct sa2 A2 fun b A3 => if b = true then wi1 sa2 A3 fun ys C1 A4 => C1 A4 ∧ ∃ f : PV → Option PV, rows x = ys.filterMap f ∧
    (∀ y ∈ ys, g1 (.pv y) (aWipe sa2 vs1) A4 fun sa3 A5 => ct1 sa3 A5 fun b1 A6 => if b1 = true then e sa3 A6 fun z _ => ∃ p, z = .pv p ∧ f y = some p else f y = none) else rows x = []) ∧
  (xs.flatMap rows).length ≤ 100000 ∧ k (.lst (xs.flatMap rows)) A1
section
variable {K : PySem.W.Frag} {m : Bool} {wi wi1 : aTI} {ti ti1 : TI} {g g1 : aTG} {tg tg1 : TG} {ct ct1 : aTT} {tt tt1 : TT} {e : aTE} {te : TE} {vs vs1 : List Nat}
/-- where a pure walk stands: D holds what was gathered -/
structure Gat (K : PySem.W.Frag) (G0 H0 : Hp) (D : Addr) (acc : List PV) (H' : Hp) : Prop where
  ex : ∃ G' us, Gr [] G0 H0 G' H' ∧ H' D = some (.lst us) ∧ G' D = none ∧ Al G' (rPs K acc) us
structure GatL (K : PySem.W.Frag) (G0 H0 GL : Hp) (D : Addr) (acc : List PV) (H' : Hp) : Prop where
  ex : ∃ G' us, Gr [] G0 H0 G' H' ∧ Le GL G' ∧ H' D = some (.lst us) ∧ G' D = none ∧ Al G' (rPs K acc) us
theorem sim_lc2 (hi : SimI K m true wi ti) (hg : NamesG K vs g tg) (hc : SimT K true ct tt) (hi1 : SimI K true false wi1 ti1) (hg1 : NamesG K vs1 g1 tg1) (hc1 : SimT K true ct1 tt1) (he : SimE K true e te) :
    SimN K m (aLc2 wi g ct wi1 g1 ct1 e vs vs1) (tLc2 ti tg tt ti1 tg1 tt1 te vs vs1) := fun {B s sa σ} rp gg {Kc Q} q hh =>
  hi rp gg (fun xs C J s1 e1 wk hC0 k D hD => by
    obtain ⟨hl, hC, rows, hrow, hl2, hk⟩ := k
    have r1 := e1.rep
    have g0 : Gr [] s1.G s1.H s1.G (upd s1.H D (.lst [])) := Gr.own r1.le hD
    have lat : ∀ {G' H' : Hp}, Gr [] s1.G s1.H G' H' → Lat true s1 { s1 with G := G', H := H' } := fun p => ⟨⟨p.gg, List.prefix_refl _⟩, fun _ => ⟨rfl, rfl, rfl, fun b o hb t => p.hhN b o hb (fun z => nomatch z) t⟩⟩
    refine ⟨fun i n H' => n = xs.length - i ∧ i ≤ xs.length ∧ Gat K s1.G s1.H D ((xs.take i).flatMap rows) H', ⟨xs.length, by simp, Nat.zero_le _, ⟨s1.G, [], g0, upd_same, r1.le.free hD, .nil⟩⟩, ?_⟩
    rintro i n H' ⟨rfl, hi', ⟨G', us, gr, hDl, hDg, al⟩⟩
    have rj := r1.pure gr
    by_cases hlt : i < xs.length
    · refine .inr ⟨wk.goes i { s1 with G := G', H := H' } hlt rj (lat gr) hC, fun H3 => i + 1 ≤ xs.length ∧ Gat K s1.G s1.H D ((xs.take (i + 1)).flatMap rows) H3, fun H3 z => ⟨xs.length - (i + 1), by omega, rfl, z.1, z.2⟩, fun x H'' y => ?_⟩
      have hx : xs[i]? = some xs[i] := by simp [hlt]
      have nextAcc : (xs.take (i + 1)).flatMap rows = (xs.take i).flatMap rows ++ rows xs[i] := by
        rw [List.take_add_one, hx, List.flatMap_append]; simp
      obtain ⟨G2, k3, k4⟩ := wk.yields i xs[i] { s1 with G := G', H := H' } x H'' hx rj (lat gr) hC y
      have gr2 := gr.trans k3
      have r2 := r1.pure gr2
      obtain ⟨d1, d2⟩ := k3.loc hDl hDg fun z => nomatch z
      have al2 := al.mono k3.gg
      refine hg (s := { s1 with G := G2, H := H'' }) (av := .pv xs[i]) r2 (((gg.stp e1).grw (s' := { s1 with G := G2, H := H'' }) ⟨gr2.gg, List.prefix_refl _⟩).wipe vs) k4 (fun sa4 σ4 q4 w4 k5 => ⟨by rw [w4]; exact wipe_wipe (fun _ z => z), ?_⟩) (hrow xs[i] (List.getElem_mem hlt))
      refine hc r2 q4 (fun t s5 e5 k6 => ?_) k5
      obtain ⟨i5, a5, f5, p5⟩ := e5.pure rfl
      have gr5 := gr2.trans p5
      obtain ⟨d3, d4⟩ := p5.loc d1 d2 fun z => nomatch z
      have al5 := al2.mono p5.gg
      cases t with
      | false =>
        have k6 : rows xs[i] = [] := k6
        exact ⟨hlt, ⟨s5.G, us, gr5, d3, d4, by rw [nextAcc, k6, List.append_nil]; exact al5⟩⟩
      | true =>
        refine hi1 e5.rep (q4.stp e5) (fun ys C1 J1 s6 e6 wk1 hC1 k7 => ?_) k6
        obtain ⟨hC1', f, hf, hel⟩ := k7
        obtain ⟨i6, a6, f6, p6⟩ := e6.pure rfl
        have gr6 := gr5.trans p6
        obtain ⟨d5, d6⟩ := p6.loc d3 d4 fun z => nomatch z
        have al6 := al5.mono p6.gg
        have r6 := e6.rep
        have es : ∀ {G' H' : Hp}, ({ s6 with G := G', H := H' } : Cs) = { s1 with G := G', H := H' } := fun {G' H'} => by
          have x1 : s6.ι = s1.ι := i6.trans i5
          have x2 : s6.A = s1.A := a6.trans a5
          have x3 : s6.φ = s1.φ := f6.trans f5
          rw [x1, x2, x3]
        have rp6 : ∀ {G' H' : Hp}, Gr [] s1.G s1.H G' H' → Rep K B { s6 with G := G', H := H' } := fun {G' H'} p => by rw [es]; exact r1.pure p
        have lat6 : ∀ {G' H' : Hp}, Le s6.G G' → Lat false s6 { s6 with G := G', H := H' } := fun p => ⟨⟨p, List.prefix_refl _⟩, fun z => nomatch z⟩
        have few : ∀ j, ((xs.take i).flatMap rows ++ (ys.take j).filterMap f).length ≤ 100000 := fun j => by
          have a1 : xs.flatMap rows = (xs.take (i + 1)).flatMap rows ++ (xs.drop (i + 1)).flatMap rows := by rw [← List.flatMap_append, List.take_append_drop]
          have a2 : ((ys.take j).filterMap f).length ≤ (ys.filterMap f).length := ((List.take_sublist j ys).filterMap f).length_le
          rw [a1, nextAcc, hf] at hl2
          simp only [List.length_append] at hl2 ⊢
          omega
        refine ⟨fun j n H' => n = ys.length - j ∧ j ≤ ys.length ∧ GatL K s1.G s1.H s6.G D ((xs.take i).flatMap rows ++ (ys.take j).filterMap f) H', ⟨ys.length, by simp, Nat.zero_le _, ⟨s6.G, us, gr6, Le.refl _, d5, d6, by simpa using al6⟩⟩, ?_⟩
        rintro j n H7 ⟨rfl, hj', ⟨G7, ws, gr7, le7, hDl7, hDg7, al7⟩⟩
        have rj7 := rp6 gr7
        by_cases hjt : j < ys.length
        · refine .inr ⟨wk1.goes j { s6 with G := G7, H := H7 } hjt rj7 (lat6 le7) hC1, fun H3 => j + 1 ≤ ys.length ∧ GatL K s1.G s1.H s6.G D ((xs.take i).flatMap rows ++ (ys.take (j + 1)).filterMap f) H3, fun H3 z => ⟨ys.length - (j + 1), by omega, rfl, z.1, z.2⟩, fun x8 H8 y8 => ?_⟩
          have hy : ys[j]? = some ys[j] := by simp [hjt]
          have step : (ys.take (j + 1)).filterMap f = (ys.take j).filterMap f ++ (f ys[j]).toList := by
            rw [List.take_add_one, hy, List.filterMap_append]
            cases hfy : f ys[j] <;> simp [hfy]
          obtain ⟨G8, z3, z4⟩ := wk1.yields j ys[j] { s6 with G := G7, H := H7 } x8 H8 hy rj7 (lat6 le7) hC1 y8
          have gr8 := gr7.trans z3
          have r8 := rp6 gr8
          obtain ⟨c1, c2⟩ := z3.loc hDl7 hDg7 fun z => nomatch z
          have al8 := al7.mono z3.gg
          refine hg1 (s := { s6 with G := G8, H := H8 }) (av := .pv ys[j]) r8 ((((q4.stp e5).stp e6).grw (s' := { s6 with G := G8, H := H8 }) ⟨le7.trans z3.gg, List.prefix_refl _⟩).wipe vs1) z4 (fun sa9 σ9 q9 w9 k9 => ⟨by rw [w9]; exact wipe_wipe (fun _ z => z), ?_⟩) (hel ys[j] (List.getElem_mem hjt))
          refine hc1 r8 q9 (fun t s9 e9 k10 => ?_) k9
          obtain ⟨i9, a9, f9, p9⟩ := e9.pure rfl
          have gr9 := gr8.trans p9
          obtain ⟨c3, c4⟩ := p9.loc c1 c2 fun z => nomatch z
          have al9 := al8.mono p9.gg
          cases t with
          | false =>
            have k10 : f ys[j] = none := k10
            exact ⟨hjt, ⟨s9.G, ws, gr9, (le7.trans z3.gg).trans p9.gg, c3, c4, by rw [step, k10]; simpa using al9⟩⟩
          | true =>
            refine he e9.rep (q9.stp e9) (fun z v s10 e10 pz k11 => ?_) k10
            obtain ⟨p, rfl, fp⟩ := k11
            obtain ⟨i10, a10, f10, p10⟩ := e10.pure rfl
            obtain ⟨c5, c6⟩ := p10.loc c3 c4 fun z => nomatch z
            have al10 := al9.mono p10.gg
            have ln : ws.length ≤ 100000 := by rw [← al7.length, rPs_len]; exact few j
            have hD0 : s6.H D = some (.lst us) := d5
            refine ⟨ws, c5, Nat.lt_of_le_of_lt ln (by decide), hjt, ⟨s10.G, ws ++ [v], (gr9.trans p10).put hD c6, ((le7.trans z3.gg).trans p9.gg).trans p10.gg, upd_same, c6, ?_⟩⟩
            · rw [step, fp, ← List.append_assoc, rPs_app]
              exact al10.append (.cons pz .nil)
        · have e7 : j = ys.length := by omega
          subst e7
          rw [List.take_length, ← hf, ← nextAcc] at al7
          exact .inl ⟨wk1.stops { s6 with G := G7, H := H7 } rj7 (lat6 le7) hC1, hlt, ⟨G7, ws, gr7, hDl7, hDg7, al7⟩⟩
    · have e2 : i = xs.length := by omega
      subst e2
      rw [List.take_length] at al
      refine .inl ⟨wk.stops { s1 with G := G', H := H' } rj (lat gr) hC, q (.lst (xs.flatMap rows)) (.ref D) [D] { s1 with G := G', H := H' } (e1.trans (.of r1 gr)) ⟨⟨D, us, rfl, rfl, hDl, al⟩, by simp, fun b hb => ?_, fun b hb => ?_, fun b hb n hn z => ?_⟩ hk⟩
      · rw [List.mem_singleton.mp hb]; exact e1.back hD
      · rw [List.mem_singleton.mp hb]; exact hDg
      · rw [List.mem_singleton.mp hb] at z
        exact r1.there hn D z hD) hh
end
end TH
/-! Comprehensions over a frozen dict's keys, locked meanwhile or already; dicts copied, asked, with a default; dicts by tuples. -/
namespace TH
open PySem PySem.Spec PyProof.Rows L2
variable [TC : TabC]
/-! ### rules -/
section
variable {X : Cx} {e : Expr} {t : TE} {st : Stmt} {i : Nat}
theorem pe_lk2 (h : PE X e t) : PE X e (tOr2 (tLockE t) t) := pe_or2 (pe_lock h) h
theorem ps_lk2 (h : PS X st (tAsg t (gName i))) : PS X st (tAsg (tOr2 (tLockE t) t) (gName i)) := ⟨fun pins s σ H D I z => z.elim (fun z => (ps_lock h).run pins s σ H D I z) (h.run pins s σ H D I)⟩
theorem call_dcopy : CallR X (.type "dict") (fun xs H Q => ∃ a kvs, xs = [V.ref a] ∧ Rd H a (.dK kvs) ∧ ∀ p, H p = none → Q (.ref p) (upd H p (.dK kvs))) := by
  intro pins s σ H xs us Q I r h
  obtain ⟨a, kvs, rfl, ha, q⟩ := h
  obtain ⟨u, rfl, ru⟩ := vals1 r
  cases ru
  exact d_copyOf I ha fun p s' hp I' => ⟨.ref p, _, I', rfl, q p hp⟩
end
section
variable {X : Cx} {pins : List (Addr × Obj)} {σ : L2.St} {H : Hp} {s : Shared} {a b : Addr} {u r : Value} {d : V} {k : List Key} {A : Around} {E : Value → Shared → Prop}
theorem d_setdT {kvs : List (List Key × V)} {Q : Value → Shared → Prop} (hu : A.units + 1 < cLine) (I : Inv X pins σ H s) (e : H a = some (.dT kvs)) (eb : H b = some (.tup (k.map kV))) (rd : RelV d r) (hl : kvs.length < sizeLine)
    (h1 : ∀ v, valV kvs k = some v → ∀ (w' : Value) (s' : Shared), Inv X pins σ H s' → RelV v w' → Q w' s') (h2 : valV kvs k = none → ∀ (w' : Value) (s' : Shared), Inv X pins σ (upd H a (.dT (putK kvs k d))) s' → RelV d w' → Q w' s') :
    wpAny (model X.prog X.w) A (call (.builtin "dict.setdefault") [.ref a, .ref b, r]) Q E s := by
  obtain ⟨z, hd, xs, rel, dd⟩ := dt_of I.hok e
  have hz : xs.length ≤ sizeLine := by rw [← Paired.length rel]; exact z
  refine call_setdefault_heap (hsz := hz) (tupleKind_room_in1 hu) (key_of I.hok eb) hd dd (fun p hp => ?_) fun hn h' dd' hs => ?_
  · have q := rel.val k
    rw [hp] at q
    cases q0 : valV kvs k with
    | none =>
      rw [q0] at q
      exact (show False from q).elim
    | some v0 =>
      rw [q0] at q
      exact h1 v0 q0 _ _ (I.tok _) q
  · have q := rel.val k
    rw [hn] at q
    cases q0 : valV kvs k with
    | some v0 =>
      rw [q0] at q
      exact (show False from q).elim
    | none =>
      have hl2 : (putK kvs k d).length ≤ sizeLine := by
        have := length_putK kvs k d
        omega
      obtain ⟨q, es, ep, hq, g2, g3, g4, _, g5⟩ := dd'
      refine h2 q0 _ _ (d_write (t' := s.toks + _) I (by rw [e]; exact True.intro) hs ⟨q, hq⟩ ⟨hl2, hd, _, (rel.put k eb rd).keeps fun c ys ec => ?_, q, es, ep, hq, g2, g3, g4, g5⟩) rd
      rw [upd_ne (ne_of ec e (fun z => nomatch z))]
      exact ec
end
/-- d.setdefault(y, z), d by tuples -/
def tDSetdT (td ty tx : TE) : TE := fun σ H Q => td σ H fun x H1 => ∃ a, x = .ref a ∧ IsD H1 a ∧ ty σ H1 fun y H2 => tx σ H2 fun z H3 => ∃ (kvs : List (List Key × V)) (k : List Key) (b : Addr), H3 a = some (.dT kvs) ∧ y = .ref b ∧ H3 b = some (.tup (k.map kV)) ∧ kvs.length < sizeLine ∧
  (∀ v, valV kvs k = some v → Q v H3) ∧ (valV kvs k = none → Q z (upd H3 a (.dT (putK kvs k z))))
section
variable {X : Cx} {o e f : Expr} {td ty tx : TE} {apos cpos : Pos}
theorem pe_dsetdT (hu : X.A.units + 1 < cLine) (ho : PE X o td) (he : PE X e ty) (hf : PE X f tx) (m : M2 X o "setdefault" apos e f cpos) : PE X (.Call (.Attribute o "setdefault" apos) [e, f] [] cpos) (tDSetdT td ty tx) := by
  refine ⟨fun pins s σ H Q I h => ?_⟩
  refine wpAny_Call_method m.base m.few m.line PySem.F.plainAttrs_dict PySem.F.slot_dict_setdefault PySem.F.type_dict_setdefault (thn (ho.run pins s σ H _ I h) fun u s1 ⟨x, H1, I1, rx, a, ex, d, q1⟩ => ?_)
  subst ex
  obtain rfl : u = Value.ref a := rx
  obtain ⟨t1, t2, _⟩ := isD_at I1 d
  refine ⟨t1, t2, ?_⟩
  rw [m.trees]
  refine Calls.callWith_builtin rfl (Calls.evalArgs_plain (Calls.spliced_cons (thn (he.run pins s1 σ H1 _ I1 q1) fun iv s2 ⟨y, H2, I2, ry, q2⟩ =>
    Calls.spliced_cons (thn (hf.run pins s2 σ H2 _ I2 q2) fun fv s3 ⟨z, H3, I3, rz, kvs, k, b, ea, ey, eb, hl, q3, q4⟩ => Calls.spliced_nil ?_))))
  subst ey
  cases (show iv = Value.ref b from ry)
  exact d_setdT hu I3 ea eb rz hl (fun v hv w' s4 I4 rw' => ⟨v, _, I4, rw', q3 v hv⟩) fun hn w' s4 I4 rw' => ⟨z, _, I4, rw', q4 hn⟩
end
/-! ### dicts: copied, asked with a default -/
section
variable {K : PySem.W.Frag} {m ml : Bool} {a b c : aTE} {ta tb te tc : TE} {ca cb : aTT} {tt tu : TT} {n0 : Nat}
def fDict : aR1N := fun A x k => ∃ kvs, viewD A x = some kvs ∧ k (.dK kvs)
theorem newH_dk {B : Bs} {s : Cs} (r : Rep K B s) {p : Addr} {vs : List (Key × V)} {xs : List (Key × PV)} (hp : s.H p = none) (al : DAl s.G (rPV.rKvs K xs) vs) : NewH K s s.G (upd s.H p (.dK vs)) (.dK xs) (.ref p) [p] :=
  ⟨Gr.own r.le hp, ⟨p, vs, rfl, rfl, upd_same, al⟩, by simp, fun b hb => by rw [List.mem_singleton.mp hb]; exact hp, fun b hb => by rw [List.mem_singleton.mp hb]; exact r.le.free hp⟩
theorem uns_dict : UnCN K fDict (fun xs H Q => ∃ a kvs, xs = [V.ref a] ∧ Rd H a (.dK kvs) ∧ ∀ p, H p = none → Q (.ref p) (upd H p (.dK kvs))) := fun {B s x vx} r px {k Q} q h => by
  obtain ⟨kvs, h1, h2⟩ := h
  obtain ⟨a, vs, e1, e2, e3⟩ := viewD_ok r px h1
  exact ⟨a, vs, by rw [e1], e2, fun l hl => q _ _ _ _ _ (newH_dk r hl e3) h2⟩
/-- d.get(k, x) -/
def aDGet2 (a b c : aTE) : aTE := fun sa A k => a sa A fun x A1 => ∃ kvs, viewD A1 x = some kvs ∧ b sa A1 fun y A2 => c sa A2 fun z A3 => match y, z with
  | .pv (.v u), .pv w => ∃ key, keyOf u = some key ∧ k (.pv ((valP kvs key).getD w)) A3
  | _, _ => False
theorem sim_dget2 (ha : SimE K m a ta) (hb : SimE K true b tb) (hc : SimE K true c tc) : SimE K m (aDGet2 a b c) (tDGet2 ta tb tc) := fun {B s sa σ} rp gg {Kc Q} q h =>
  ha rp gg (fun x vx s1 e1 px k => by
    obtain ⟨kvs, k1, k⟩ := k
    obtain ⟨d, vs, h1, h2, h3⟩ := viewD_ok e1.rep px k1
    refine ⟨d, h1, .inl ⟨vs, h2⟩, hb e1.rep (gg.stp e1) (fun y vy s2 e2 py ka => hc e2.rep ((gg.stp e1).stp e2) (fun z vz s3 e3 pz kb => ?_) ka) k⟩
    split at kb
    · rename_i u w
      obtain ⟨key, k2, k3⟩ := kb
      have py : vy = u := py
      subst py
      obtain ⟨d', vs', h1', h2', h3'⟩ := viewD_ok e3.rep ((px.stp e2).stp e3) (show viewD s3.A x = some kvs by rw [(e3.pure rfl).2.1, (e2.pure rfl).2.1]; exact k1)
      rw [h1] at h1'
      cases h1'
      refine ⟨valV vs' key, by rw [keyOf_k k2]; exact dget_rd h2', ?_⟩
      have dv := dal_val (k := key) h3'
      have e13 := e1.trans (e2.weak.trans e3.weak)
      cases e : valP kvs key with
      | none =>
        rw [dv.2 e]
        rw [e] at k3
        exact q (.pv w) vz s3 e13 pz k3
      | some p =>
        obtain ⟨v, h4, h5⟩ := dv.1 p e
        rw [h4]
        rw [e] at k3
        exact q (.pv p) v s3 e13 h5 k3
    · exact kb.elim) h
/-- d.setdefault(k, x) -/
def aDSetd (a b c : aTE) : aTE := fun sa A k => a sa A fun x A1 => match x with
  | .loc n p => ∃ kvs, aoAt A1 n p = some (.dK kvs) ∧ b sa A1 fun y A2 => c sa A2 fun z A3 => match y, z with
    | .pv (.v u), .pv w => ∃ key, keyOf u = some key ∧ kvs.length < 100000 ∧ (∀ q, valP kvs key = some q → k (.pv q) A3) ∧ (valP kvs key = none → k (.pv w) (aoSet A3 n p (.dK (putP kvs key w))))
    | _, _ => False
  | _ => False
theorem sim_dsetd (ha : SimE K false a ta) (hb : SimE K true b tb) (hc : SimE K true c tc) : SimE K false (aDSetd a b c) (tDSetd ta tb tc) := fun {B s sa σ} rp gg {Kc Q} q h =>
  ha rp gg (fun x vx s1 e1 px k => by
    split at k
    · rename_i n p
      obtain ⟨kvs, k0, k⟩ := k
      obtain ⟨fp, ⟨d, vs, h1, h2, h3, h4⟩, _⟩ := e1.rep.sub px k0
      refine ⟨d, h1, .inl ⟨vs, .inl h3⟩, hb e1.rep (gg.stp e1) (fun y vy s2 e2 py ka => hc e2.rep ((gg.stp e1).stp e2) (fun z vz s3 e3 pz kb => ?_) ka) k⟩
      split at kb
      · rename_i u w
        obtain ⟨key, k2, k3, k4, k5⟩ := kb
        have py : vy = u := py
        subst py
        have k0' : aoAt s3.A n p = some (.dK kvs) := by rw [(e3.pure rfl).2.1, (e2.pure rfl).2.1]; exact k0
        have px3 := (px.stp e2).stp e3
        obtain ⟨fp', ⟨d', vs', g1, g2, g3, g4⟩, _⟩ := e3.rep.sub px3 k0'
        rw [h1] at g1
        cases g1
        have e13 := e1.trans ((e2.weak (m := false)).trans e3.weak)
        have dv := dal_val (k := key) g4
        refine ⟨vs', key, g3, keyOf_k k2, by rw [dal_len g4]; exact Nat.lt_of_lt_of_le k3 (by decide), fun v hv => ?_, fun hv => ?_⟩
        · cases e : valP kvs key with
          | none => rw [dv.2 e] at hv; cases hv
          | some p' =>
            obtain ⟨v', h5, h6⟩ := dv.1 p' e
            rw [h5] at hv
            cases hv
            exact q (.pv p') v s3 e13 h6 (k4 p' e)
        · have hn : valP kvs key = none := by
            cases e : valP kvs key with
            | none => rfl
            | some p' =>
              obtain ⟨v', h5, h6⟩ := dv.1 p' e
              rw [h5] at hv
              cases hv
          obtain ⟨φ', r', st⟩ := put1 (u' := .dK (putP kvs key w)) (ho := .dK (putK vs' key vz)) e3.rep px3 k0' h1 (fun fp h => by
            obtain ⟨d', vs', z1, z2, _⟩ := h
            rw [h1] at z1
            cases z1
            exact z2) ⟨d, _, h1, rfl, upd_same, dal_put g4 pz⟩
          exact q (.pv w) vz _ (e13.trans st) ((rPV K w).mono st.le pz) (k5 hn)
      · exact kb.elim
    · exact k.elim) h
/-- len of a dict of one's own -/
def fLenD : aR1 := fun A x k => match x with
  | .loc n p => ∃ kvs, aoAt A n p = some (.dK kvs) ∧ k (.pv (.v (.int kvs.length)))
  | _ => False
theorem uns_lenD : UnC K fLenD (fun xs H Q => ∃ a kvs, xs = [V.ref a] ∧ H a = some (.dK kvs) ∧ Q (.int kvs.length) H) := fun {B s x vx} r px {k Q} q h => by
  unfold fLenD at h
  split at h
  · obtain ⟨kvs, h1, h2⟩ := h
    obtain ⟨fp, ⟨d, vs, g1, g2, g3, g4⟩, _⟩ := r.sub px h1
    exact ⟨d, vs, by rw [g1], g3, by rw [dal_len g4]; exact q (.pv (.v (.int kvs.length))) _ _ _ r.g0 rfl h2⟩
  · exact h.elim
/-! ### dicts by tuples: numbers and the like as values -/
def rDctT (kvs : List (List Key × V)) : Rl := ⟨fun G v => ∃ a, v = .ref a ∧ Rd G a (.dT kvs), fun e ⟨a, h1, h2⟩ => ⟨a, h1, e.rd nf_dT h2⟩⟩
def rDT (kvs : List (List Key × V)) : Res where
  P := fun K G H v fp => ∃ a, v = .ref a ∧ fp = [a] ∧ H a = some (.dT kvs)
  frame := fun ⟨a, h1, h2, h3⟩ le e => ⟨a, h1, h2, by rw [e a (by rw [h2]; exact List.mem_cons_self)]; exact h3⟩
  there := fun ⟨a, h1, h2, h3⟩ b hb => by rw [h2] at hb; rw [List.mem_singleton.mp hb]; exact ⟨_, h3, by exact ⟨fun _ z => (nomatch z), fun _ z => (nomatch z)⟩⟩
  fz := some (rDctT kvs)
  fzOk := fun e ⟨a, h1, h2, h3⟩ ps hps le => by
    cases e
    exact ⟨a, h1, .inl (by rw [frzH_in (hps a (by rw [h2]; exact List.mem_cons_self))]; exact h3)⟩
/-- a tuple of numbers and texts, tracked as it stands -/
def rTupX (ks : List Key) : Rl := ⟨fun G v => ∃ b, v = .ref b ∧ G b = some (.tup (ks.map kV)), fun e ⟨b, h1, h2⟩ => ⟨b, h1, e.at h2 nf_tup fun z => z⟩⟩
theorem sim_dnewT : SimN K m (fun _ A k => k (.res (rDT [])) A) tDNewT := fun {B s sa σ} rp g {Kc Q} q h p hp =>
  have n : NewH K s s.G (upd s.H p (.dT [])) (.res (rDT [])) (.ref p) [p] := ⟨Gr.own rp.le hp, ⟨p, rfl, rfl, upd_same⟩, by simp, fun b hb => by rw [List.mem_singleton.mp hb]; exact hp, fun b hb => by rw [List.mem_singleton.mp hb]; exact rp.le.free hp⟩
  q _ _ _ _ (n.at (m := m) rp (.refl rp)).1 (n.at (m := m) rp (.refl rp)).2 h
def fLenDT : aR1 := fun A x k => match x with
  | .loc n p => ∃ kvs, aoAt A n p = some (.res (rDT kvs)) ∧ k (.pv (.v (.int kvs.length)))
  | _ => False
theorem uns_lenDT : UnC K fLenDT rLenT := fun {B s x vx} r px {k Q} q h => by
  unfold fLenDT at h
  split at h
  · obtain ⟨kvs, h1, h2⟩ := h
    obtain ⟨fp, ⟨d, g1, g2, g3⟩, _⟩ := r.sub px h1
    exact ⟨d, kvs, by rw [g1], g3, q (.pv (.v (.int kvs.length))) _ _ _ r.g0 rfl h2⟩
  · exact h.elim
def aDSetdT (a b c : aTE) : aTE := fun sa A k => a sa A fun x A1 => match x with
  | .loc n p => ∃ kvs, aoAt A1 n p = some (.res (rDT kvs)) ∧ b sa A1 fun y A2 => c sa A2 fun z A3 => match y, z with
    | .pv (.rel r), .pv (.v w) => ∃ key, r = rTupX key ∧ kvs.length < 100000 ∧ (∀ q, valV kvs key = some q → k (.pv (.v q)) A3) ∧ (valV kvs key = none → k (.pv (.v w)) (aoSet A3 n p (.res (rDT (putK kvs key w)))))
    | _, _ => False
  | _ => False
theorem sim_dsetdT (ha : SimE K false a ta) (hb : SimE K true b tb) (hc : SimE K true c tc) : SimE K false (aDSetdT a b c) (tDSetdT ta tb tc) := fun {B s sa σ} rp gg {Kc Q} q h =>
  ha rp gg (fun x vx s1 e1 px k => by
    split at k
    · rename_i n p
      obtain ⟨kvs, k0, k⟩ := k
      obtain ⟨fp, ⟨d, h1, h2, h3⟩, _⟩ := e1.rep.sub px k0
      refine ⟨d, h1, .inr ⟨kvs, .inl h3⟩, hb e1.rep (gg.stp e1) (fun y vy s2 e2 py ka => hc e2.rep ((gg.stp e1).stp e2) (fun z vz s3 e3 pz kb => ?_) ka) k⟩
      split at kb
      · rename_i r w
        obtain ⟨key, rfl, k3, k4, k5⟩ := kb
        obtain rfl : vz = w := pz
        obtain ⟨b0, y1, y2⟩ := (py.stp e3 : avR K s3 (.pv (.rel (rTupX key))) vy)
        have k0' : aoAt s3.A n p = some (.res (rDT kvs)) := by rw [(e3.pure rfl).2.1, (e2.pure rfl).2.1]; exact k0
        have px3 := (px.stp e2).stp e3
        obtain ⟨fp', ⟨d', g1, g2, g3⟩, _⟩ := e3.rep.sub px3 k0'
        rw [h1] at g1
        cases g1
        have e13 := e1.trans ((e2.weak (m := false)).trans e3.weak)
        refine ⟨kvs, key, b0, g3, y1, e3.rep.le.at y2 nf_tup (fun z => z), Nat.lt_of_lt_of_le k3 (by decide), fun v hv => q (.pv (.v v)) v s3 e13 rfl (k4 v hv), fun hv => ?_⟩
        obtain ⟨φ', r', st⟩ := put1 (u' := .res (rDT (putK kvs key vz))) (ho := .dT (putK kvs key vz)) e3.rep px3 k0' h1 (fun fp h => by
          obtain ⟨d', z1, z2, _⟩ := h
          rw [h1] at z1
          cases z1
          exact z2) ⟨d, h1, rfl, upd_same⟩
        exact q (.pv (.v vz)) vz _ (e13.trans st) rfl (k5 hv)
      · exact kb.elim
    · exact k.elim) h
/-- d[(..)] -/
def aDGetT (a b : aTE) : aTE := fun sa A k => a sa A fun x A1 => b sa A1 fun y A2 => match x, y with
  | .pv (.rel r), .pv (.rel r') => ∃ kvs key v, r = rDctT kvs ∧ r' = rTupX key ∧ valV kvs key = some v ∧ k (.pv (.v v)) A2
  | _, _ => False
theorem sim_dgetT (ha : SimE K m a ta) (hb : SimE K true b tb) : SimE K m (aDGetT a b) (tDGet ta tb) := fun {B s sa σ} rp gg {Kc Q} q h =>
  ha rp gg (fun x vx s1 e1 px k => hb e1.rep (gg.stp e1) (fun y vy s2 e2 py k => by
    split at k
    · rename_i r r'
      obtain ⟨kvs, key, v, rfl, rfl, k3, k4⟩ := k
      obtain ⟨d, h1, h2⟩ := (px.stp e2 : avR K s2 (.pv (.rel (rDctT kvs))) vx)
      obtain ⟨b0, y1, y2⟩ := (py : (rTupX key).P s2.G vy)
      exact ⟨d, v, h1, .inr ⟨kvs, key, b0, e2.rep.le.rd nf_dT h2, y1, e2.rep.le.at y2 nf_tup (fun z => z), k3.symm⟩, q (.pv (.v v)) v s2 (e1.trans e2.weak) rfl k4⟩
    · exact k.elim) k) h
/-- (..), tracked -/
def aTupX (t : aTA) : aTE := fun sa A k => t sa A fun xs A1 => ∃ key : List Key, (∃ ps, pvs xs = some ps ∧ vals ps = some (key.map kV)) ∧ xs.length ≤ 100000 ∧ k (.pv (.rel (rTupX key))) A1
theorem sim_tupX {r : aTA} {tr : TA} (ha : SimA K m r tr) : SimE K m (aTupX r) (tTup tr) := fun {B s sa σ} rp g {Kc Q} q h =>
  ha rp g (fun xs vs s1 e1 ps k => by
    obtain ⟨key, ⟨qs, k1, k2⟩, k3, k4⟩ := k
    have al := pvs_al ps k1
    have ev : vs = key.map kV := vals_al al k2
    have hl : xs.length = vs.length := ps.length
    refine ⟨by rw [← hl]; exact Nat.le_trans k3 (by decide), fun p hp => ?_⟩
    have c := Gr.new (W := []) e1.rep.le (o := .tup vs) hp
    exact q (.pv (.rel (rTupX key))) _ _ (e1.trans (.of e1.rep c)) ⟨p, rfl, by rw [← ev]; exact upd_same⟩ k4) h
/-- a part of a tuple that is not all of it, tracked -/
def aSlX (a : aTE) (l h : aTO) : aTE := fun sa A k => a sa A fun x A1 => l sa A1 fun lo A2 => h sa A2 fun hi A3 => ∃ xs key, viewF A3 x = some (.tup xs) ∧ vals (cutP xs lo hi) = some (key.map kV) ∧ ¬ (HT.sIx xs.length 0 lo = 0 ∧ HT.sIx xs.length xs.length hi = xs.length) ∧ k (.pv (.rel (rTupX key))) A3
theorem sim_slX {l h : aTO} {tl th : TO} (ha : SimE K m a ta) (hl : SimO K true l tl) (hh : SimO K true h th) : SimE K m (aSlX a l h) (tSl (rSlA K) ta tl th) := fun {B s sa σ} rp g {Kc Q} q hq =>
  ha rp g (fun x v s1 e1 px k => hl e1.rep (g.stp e1) (fun lo s2 e2 k => hh e2.rep ((g.stp e1).stp e2) (fun hi s3 e3 k => by
    obtain ⟨xs, key, k1, k2, k3, k4⟩ := k
    obtain ⟨d, vs, rfl, h1, h2⟩ := viewF_ok e3.rep ((px.stp e2).stp e3) k1
    have hl : vs.length = xs.length := by rw [← h2.length, rPs_len]
    have e13 := e1.trans (e2.weak.trans e3.weak)
    refine ⟨d, vs, rfl, e3.rep.le.seqT h1, fun z => absurd (by rw [← hl]; exact z) k3, fun z p hp => ?_⟩
    have c := Gr.new (W := []) e3.rep.le (o := .tup (cutV vs lo hi)) hp
    have ev : cutV vs lo hi = key.map kV := vals_al (cut_al h2 lo hi) k2
    exact q (.pv (.rel (rTupX key))) _ _ (e13.trans (.of e3.rep c)) ⟨p, rfl, by rw [← ev]; exact upd_same⟩ k4) k) k) hq
end
/-! ### the keys of a frozen dict, walked -/
section
variable {K : PySem.W.Frag} {a c : aTE} {ta te : TE} {ca : aTT} {tt : TT}
/-- an expression whose value is had without a step, a dict locked or not -/
def SimV (K : PySem.W.Frag) (a : aTE) (t : TE) : Prop := ∀ ⦃B : Bs⦄ ⦃s : Cs⦄ ⦃sa : Sg⦄ ⦃σ : L2.St⦄, Rep K B s → SgR K s sa σ → ∀ ⦃Kc : AV → Sto → Prop⦄, a sa s.A Kc → ∃ av v, avR K s av v ∧ Kc av s.A ∧ ∀ H' : Hp, (∀ b o, s.H b = some o → (¬ IsDct o) → H' b = some o) → ∀ Q : VK, Q v H' → t σ H' Q
theorem sv_var {i : Nat} : SimV K (aVar i) (tVar i) := fun {B s sa σ} r g {Kc} h => by
  unfold aVar at h
  cases e : sa[i]? with
  | none => rw [e] at h; exact h.elim
  | some o =>
    rw [e] at h
    cases o with
    | none => exact h.elim
    | some av =>
      obtain ⟨v, e1, e2⟩ := g.at' i av e
      match av, h, e2 with
      | .pv p, h, e2 => exact ⟨.pv p, v, e2, h, fun H' _ Q q => ⟨v, e1, q⟩⟩
      | .loc n [], h, e2 =>
        have e2 : s.ι[n]? = some v := e2
        cases ea : s.A[n]? with
        | none => simp only [ea] at h
        | some o =>
          simp only [ea] at h
          match o, ea, h with
          | .pv p, ea, h =>
            obtain ⟨w, h1, h2, h3⟩ := r.at' n _ ea
            rw [e2] at h1
            cases h1
            exact ⟨.pv p, v, h3, h, fun H' _ Q q => ⟨v, e1, q⟩⟩
          | .lst _, ea, h => exact ⟨.loc n [], v, ⟨v, e2, rfl⟩, h, fun H' _ Q q => ⟨v, e1, q⟩⟩
          | .dK _, ea, h => exact ⟨.loc n [], v, ⟨v, e2, rfl⟩, h, fun H' _ Q q => ⟨v, e1, q⟩⟩
          | .ins _ _, ea, h => exact ⟨.loc n [], v, ⟨v, e2, rfl⟩, h, fun H' _ Q q => ⟨v, e1, q⟩⟩
          | .res _, ea, h => exact ⟨.loc n [], v, ⟨v, e2, rfl⟩, h, fun H' _ Q q => ⟨v, e1, q⟩⟩
theorem sv_fld {f : Str} {C : Addr} (hc : Cls K C) (hn : NoAttr K C f) (ha : SimV K a ta) : SimV K (aFld C a f) (tFld K ta f) := fun {B s sa σ} rp g {Kc} hh => by
  obtain ⟨x, vx, px, ⟨hcl, k⟩, run⟩ := ha rp g hh
  unfold aFldF at k
  split at k
  · rename_i D fs
    cases hcl
    obtain ⟨p, k1, k2⟩ := k
    obtain ⟨d, dx, vs, h1, h2, h3⟩ := px
    obtain ⟨v, h4, h5⟩ := fal_get h3 k1
    exact ⟨.pv p, v, h5, k2, fun H' hk Q q => run H' hk _ ⟨d, C, dx, vs, v, h1, hk _ _ (rp.le.ins h2) (fun z => z), hc, hn, h4, q⟩⟩
  · rename_i n p
    obtain ⟨o, k1, k2⟩ := k
    obtain ⟨D, fs, z1, z2⟩ := at_snoc k1
    simp only [AV.clsAt, z1] at hcl
    cases hcl
    obtain ⟨fp, ⟨d, dx, vs, fq, h1, h2, h3, h4⟩, _⟩ := rp.sub px z1
    obtain ⟨w, pre, fp', post, y1, y2, y3, _⟩ := foR_get h4 z2
    obtain ⟨r, p1, p2⟩ := px
    have pw : avR K s (.loc n (p ++ [f])) w := ⟨r, p1, adr_snoc p2 h1 h3 y1⟩
    have run' : ∀ H' : Hp, (∀ b o, s.H b = some o → (¬ IsDct o) → H' b = some o) → ∀ Q : VK, Q w H' → tFld K ta f σ H' Q := fun H' hk Q q => run H' hk _ ⟨d, C, dx, vs, w, h1, hk _ _ h3 (fun z => z), hc, hn, y1, q⟩
    match o, k2, y3 with
    | .pv p, k2, y3 => exact ⟨.pv p, w, y3.2, k2, run'⟩
    | .lst _, k2, y3 => exact ⟨_, w, pw, k2, run'⟩
    | .dK _, k2, y3 => exact ⟨_, w, pw, k2, run'⟩
    | .ins _ _, k2, y3 => exact ⟨_, w, pw, k2, run'⟩
    | .res _, k2, y3 => exact ⟨_, w, pw, k2, run'⟩
  · exact k.elim
def keysP (kvs : List (Key × PV)) : List PV := kvs.map fun kv => .v (kV kv.1)
def aIKeys (a : aTE) : aTI := fun sa A k => a sa A fun x A1 => ∃ kvs : List (Key × PV), viewF A1 x = some (.dct kvs) ∧ k (keysP kvs) (fun _ => True) A1
theorem dal_keys {G : Hp} : ∀ {kvs : List (Key × PV)} {vs : List (Key × V)}, DAl G (rPV.rKvs K kvs) vs → vs.map (·.1) = kvs.map (·.1)
  | [], _, .nil => rfl
  | (x, r') :: ks, (y, v') :: vs, .cons h t => by
    have hxy : x = y := h.1
    subst hxy
    rw [List.map_cons, List.map_cons, dal_keys t]
theorem walk_keysA {B : Bs} {s0 : Cs} {m : Bool} {d : Addr} {od : Obj} {kvs : List (Key × PV)} {vs : List (Key × V)} (ek : vs.map (·.1) = kvs.map (·.1)) (at' : ∀ s, Rep K B s → Lat m s0 s → s.H d = some (.frz od (.dK vs))) :
    WalkA K B m (Itk d od vs) s0 (keysP kvs) (fun _ => True) := by
  unfold keysP
  have hl : vs.length = kvs.length := by rw [← List.length_map (f := (·.1)), ek, List.length_map]
  refine ⟨fun i s hi r l _ => ⟨at' s r l, by rw [List.length_map] at hi; omega⟩, fun s r l _ => ⟨at' s r l, by rw [List.length_map]; omega⟩, fun i x s v H' hx r l _ y => ?_⟩
  obtain ⟨rfl, k, w, y1, y2⟩ := y
  refine ⟨s.G, r.g0, ?_⟩
  rw [List.getElem?_map] at hx
  obtain ⟨kv, h1, rfl⟩ := Option.map_eq_some_iff.mp hx
  have z1 : (vs.map (·.1))[i]? = some k := by rw [List.getElem?_map, y1]; rfl
  rw [ek, List.getElem?_map, h1] at z1
  have z1 : kv.1 = k := Option.some.inj z1
  rw [y2, ← z1]
  rfl
def aIGot (xs : List PV) : aTI := fun _ A k => k xs (fun _ => True) A
/-- [e for k in d if t], d frozen -/
theorem sim_lcK0 {g : aTG} {tg : TG} {vs : List Nat} (ha : SimV K a ta) (hg : NamesG K vs g tg) (hc : SimT K true ca tt) (he : SimE K true c te) : SimN K true (aLc (aIKeys a) g ca c vs) (tOr2 (tLockE (tLc (iKeys ta) tg tt te vs)) (tLc (iKeys ta) tg tt te vs)) := fun {B s sa σ} rp gg {Kc Q} q hh => by
  obtain ⟨av, v, px, ⟨kvs, hv, hk⟩, run⟩ := ha rp gg hh
  obtain ⟨d, us, rfl, h1, h2⟩ := viewF_ok rp px hv
  have ek := dal_keys h2
  have tn : ∀ P, TabG s.G s.H P → P ≠ d := fun P t z => by
    obtain ⟨t0, qs, t1, _⟩ := t
    subst z
    rcases rp.le.rd nf_dK h1 with e | ⟨od, e⟩ <;> rw [e] at t1 <;> cases t1
  have gd : s.G d ≠ none := fun z => by rcases h1 with e | ⟨od, e⟩ <;> rw [z] at e <;> cases e
  rcases rp.le.rd nf_dK h1 with hd | ⟨od, hd⟩
  · refine .inl ⟨d, .dK us, hd, trivial, fun od => ?_⟩
    have lk : Lk (.dK us) (.frz od (.dK us)) := .inr ⟨.dK us, trivial, .inl rfl, .inr ⟨od, rfl⟩⟩
    have leL : Le s.G (upd s.H d (.frz od (.dK us))) := fun b o e => by
      by_cases hb : b = d
      · subst hb
        obtain ⟨o', e1, e2⟩ := rp.le b o e
        rw [hd] at e1
        cases e1
        exact ⟨_, upd_same, e2.trans lk⟩
      · rw [upd_ne hb]; exact rp.le b o e
    have offd : ∀ n, n < s.A.length → d ∉ s.φ n := fun n hn z => gd (rp.out n hn d z)
    have hne : ∀ n, n < s.A.length → ∀ b ∈ s.φ n, b ≠ d := fun n hn b hb z => offd n hn (z ▸ hb)
    let sL : Cs := { s with H := upd s.H d (.frz od (.dK us)) }
    have rL : Rep K (Bs.of sL) sL := ⟨rp.len, fun n o e => by
      obtain ⟨w, y1, y2⟩ := rp.at' n o e
      exact ⟨w, y1, aoR_frame y2 (Le.refl _) fun b hb => upd_ne (hne n (List.getElem?_eq_some_iff.mp e).1 b hb)⟩, rp.nd, rp.dj, rp.out, fun n hn b hb => .inl ⟨by show n < s.ι.length; rw [rp.len]; exact hn, hb⟩, .refl leL, List.prefix_refl _, fun P hP => (rp.tabs P hP).go (Le.refl _) (upd_ne (tn P (rp.tabs P hP))) (rp.tabs P hP).1⟩
    have gL : SgR K sL sa σ := ⟨gg.len, gg.at'⟩
    refine lc_at (wi := aIGot (keysP kvs)) rL gL (fun {Kc R} q h => ?_) hg hc he (fun o v fp s2 e2 n2 k => ?_) hk
    · refine run _ (fun b o e nd => ?_) _ ⟨d, od, rfl, .inl ⟨us, upd_same, q _ _ _ sL (.refl rL) (walk_keysA ek fun s3 r3 l3 => ?_) trivial h⟩⟩
      · show upd s.H d _ b = some o
        rw [upd_ne (fun z => nd (by rw [z, hd] at e; cases e; trivial))]
        exact e
      · exact (l3.pure rfl).2.2.2 d _ upd_same (by exact fun _ z => (nomatch z))
    · obtain ⟨y1, y2, y3, y4⟩ := e2.pure rfl
      have hd2 : s2.H d = some (.frz od (.dK us)) := y4.hh d _ upd_same (fun z => nomatch z)
      have gr : Gr [] s.G s.H s2.G (upd s2.H d (.dK us)) := by
        refine ⟨y4.gg, fun b o e => ?_, fun b o e _ t => ?_, fun b e => ?_, fun b n1 n2 => ?_, fun P hP n t => ?_⟩
        · by_cases hb : b = d
          · subst hb
            obtain ⟨o', z1, z2⟩ := y4.gh b o e
            rw [hd2] at z1
            cases z1
            exact ⟨_, upd_same, z2.trans lk.symm⟩
          · rw [upd_ne hb]; exact y4.gh b o e
        · by_cases hb : b = d
          · rw [hb] at e ⊢; rw [upd_same, ← e, hd]
          · rw [upd_ne hb]
            exact y4.hhN b o (by show upd s.H d _ b = some o; rw [upd_ne hb]; exact e) (fun z => nomatch z) t
        · by_cases hb : b = d
          · rw [hb, upd_same]; exact fun z => nomatch z
          · rw [upd_ne hb]; exact y4.dm b (by show upd s.H d _ b ≠ none; rw [upd_ne hb]; exact e)
        · have z := y4.nw b n1 n2
          by_cases hb : b = d
          · rw [hb] at n1; exact absurd n1 gd
          · have z : upd s.H d (.frz od (.dK us)) b = none := z
            rw [upd_ne hb] at z; exact z
        · have np := tn P t
          have tL : TabG s.G (upd s.H d (.frz od (.dK us))) P := t.go (Le.refl _) (upd_ne np) t.1
          have t2 := y4.tb P hP (fun z => nomatch z) tL
          exact t2.go (Le.refl _) (upd_ne np) t2.1
      have es : ({ s2 with H := upd s2.H d (.dK us) } : Cs) = { s with G := s2.G, H := upd s2.H d (.dK us) } := by
        have y1 : s2.ι = s.ι := y1
        have y2 : s2.A = s.A := y2
        have y3 : s2.φ = s.φ := y3
        rw [y1, y2, y3]
      have ne2 : ∀ b ∈ fp, b ≠ d := fun b hb z => by
        have := n2.nw b hb
        have : upd s.H d (.frz od (.dK us)) b = none := this
        rw [z, upd_same] at this
        cases this
      refine ⟨hd2, q o v fp { s2 with H := upd s2.H d (.dK us) } (by rw [es]; exact .of rp gr) ⟨aoR_frame n2.is (Le.refl _) fun b hb => upd_ne (ne2 b hb), n2.nd, fun b hb => ?_, n2.out, n2.off⟩ k⟩
      have := n2.nw b hb
      have : upd s.H d (.frz od (.dK us)) b = none := this
      rw [upd_ne (ne2 b hb)] at this
      exact this
  · refine .inr (lc_at (wi := aIGot (keysP kvs)) rp gg (fun {Kc R} q h => ?_) hg hc he q hk)
    exact run _ (fun b o e nd => e) _ ⟨d, od, rfl, .inl ⟨us, hd, q _ _ _ s (.refl rp) (walk_keysA ek fun s3 r3 l3 => (l3.pure rfl).2.2.2 d _ hd (by exact fun _ z => (nomatch z))) trivial h⟩⟩
theorem sim_lcK {m : Bool} {g : aTG} {tg : TG} {vs : List Nat} (ha : SimV K a ta) (hg : NamesG K vs g tg) (hc : SimT K true ca tt) (he : SimE K true c te) : SimN K m (aLc (aIKeys a) g ca c vs) (tOr2 (tLockE (tLc (iKeys ta) tg tt te vs)) (tLc (iKeys ta) tg tt te vs)) := SimN.weak (sim_lcK0 ha hg hc he)
end
end TH
/-! More of lists that change: pop, extend. -/
namespace TH
open PySem PySem.Spec PyProof.Rows L2
variable [TC : TabC]
section
variable {K : PySem.W.Frag} {m ml : Bool} {a b c : aTE} {ta tb te tc : TE} {ca cb : aTT} {tt tu : TT} {n0 : Nat}
theorem lst_own {fp : List Addr} {G H : Hp} {v : V} {d : Addr} {xs : List PV} (h1 : v = .ref d) : aoR K G H (.lst xs) v fp → fp = [d] := fun h => by
  obtain ⟨d', vs', z1, z2, _⟩ := h
  rw [h1] at z1
  cases z1
  exact z2
def aPop (a : aTE) : aTE := fun sa A k => a sa A fun x A1 => match x with
  | .loc n p => ∃ xs q, aoAt A1 n p = some (.lst (xs ++ [q])) ∧ k (.pv q) (aoSet A1 n p (.lst xs))
  | _ => False
theorem sim_pop (ha : SimE K false a ta) : SimE K false (aPop a) (tBM K "list" rPop ta tNil) := fun {B s sa σ} rp gg {Kc Q} q h =>
  ha rp gg (fun x vx s1 e1 px k => by
    split at k
    · rename_i n p
      obtain ⟨xs, y, k0, k⟩ := k
      obtain ⟨fp, ⟨d, vs, h1, h2, h3, h4⟩, _⟩ := e1.rep.sub px k0
      rw [rPs_app] at h4
      obtain ⟨us, w, ew, al, hw⟩ : ∃ us w, vs = us ++ [w] ∧ Al s1.G (rPs K xs) us ∧ (rPV K y).P s1.G w := by
        clear h3 h2 k k0
        generalize hr : rPs K xs = rs at h4
        clear hr
        induction rs generalizing vs with
        | nil =>
          cases h4 with
          | cons hy t => cases t; exact ⟨[], _, rfl, .nil, hy⟩
        | cons r rs ih =>
          cases h4 with
          | @cons _ v _ vs hy t =>
          obtain ⟨us, w, z1, z2, z3⟩ := ih vs t
          exact ⟨v :: us, w, by rw [z1]; rfl, .cons hy z2, z3⟩
      subst ew
      refine ⟨by rw [h1]; exact .inl ⟨rfl, us ++ [w], .of h3⟩, d, us ++ [w], w, h1, rfl, h3, by simp, ?_⟩
      rw [List.dropLast_concat]
      obtain ⟨φ', r', st⟩ := put1 (u' := .lst xs) (ho := .lst us) e1.rep px k0 h1 (fun fp h => lst_own h1 h) ⟨d, us, h1, rfl, upd_same, al⟩
      exact q (.pv y) w _ (e1.trans st) hw k
    · exact k.elim) h
def aExtT (a e : aTE) : aTE := fun sa A k => a sa A fun x A1 => match x with
  | .loc n p => ∃ ys, aoAt A1 n p = some (.lst ys) ∧ e sa A1 fun y A2 => ∃ xs zs, aoAt A2 n p = some (.lst xs) ∧ viewT A2 y = some zs ∧ xs.length + zs.length ≤ 100000 ∧ k (.pv (.v .non)) (aoSet A2 n p (.lst (xs ++ zs)))
  | _ => False
theorem sim_extT {e : aTE} (ha : SimE K false a ta) (he : SimE K true e te) : SimE K false (aExtT a e) (tBM K "list" (rExtT K) ta (tCons te tNil)) := fun {B s sa σ} rp gg {Kc Q} q h =>
  ha rp gg (fun x vx s1 e1 px k => by
    split at k
    · rename_i n p
      obtain ⟨ys, k0, k⟩ := k
      obtain ⟨fp, ⟨d, vs, h1, h2, h3, h4⟩, _⟩ := e1.rep.sub px k0
      refine ⟨by rw [h1]; exact .inl ⟨rfl, vs, .of h3⟩, he e1.rep (gg.stp e1) (fun y vy s2 e2 py k => ?_) k⟩
      obtain ⟨xs, zs, k1, k2, k3, k4⟩ := k
      have px2 := px.stp e2
      obtain ⟨fp, ⟨d', us, g1, g2, g3, g4⟩, _⟩ := e2.rep.sub px2 k1
      rw [h1] at g1
      cases g1
      obtain ⟨b, ws, f1, f2, f3⟩ := viewT_ok e2.rep py k2
      refine ⟨d, b, us, ws, h1, by rw [f1], g3, f2, by rw [← g4.length, ← f3.length, rPs_len, rPs_len]; exact Nat.le_trans k3 (by decide), ?_⟩
      obtain ⟨φ', r', st⟩ := put1 (u' := .lst (xs ++ zs)) (ho := .lst (us ++ ws)) e2.rep px2 k1 h1 (fun fp h => lst_own h1 h) ⟨d, _, h1, rfl, upd_same, by rw [rPs_app]; exact g4.append f3⟩
      exact q (.pv (.v .non)) .non _ (e1.trans (e2.weak.trans st)) rfl k4
    · exact k.elim) h
def aExtL (a e : aTE) : aTE := fun sa A k => a sa A fun x A1 => match x with
  | .loc n p => ∃ ys, aoAt A1 n p = some (.lst ys) ∧ e sa A1 fun y A2 => ∃ xs zs, aoAt A2 n p = some (.lst xs) ∧ viewL A2 y = some zs ∧ xs.length + zs.length ≤ 100000 ∧ k (.pv (.v .non)) (aoSet A2 n p (.lst (xs ++ zs)))
  | _ => False
theorem sim_extL {e : aTE} (ha : SimE K false a ta) (he : SimE K true e te) : SimE K false (aExtL a e) (tBM K "list" rExtend ta (tCons te tNil)) := fun {B s sa σ} rp gg {Kc Q} q h =>
  ha rp gg (fun x vx s1 e1 px k => by
    split at k
    · rename_i n p
      obtain ⟨ys, k0, k⟩ := k
      obtain ⟨fp, ⟨d, vs, h1, h2, h3, h4⟩, _⟩ := e1.rep.sub px k0
      refine ⟨by rw [h1]; exact .inl ⟨rfl, vs, .of h3⟩, he e1.rep (gg.stp e1) (fun y vy s2 e2 py k => ?_) k⟩
      obtain ⟨xs, zs, k1, k2, k3, k4⟩ := k
      have px2 := px.stp e2
      obtain ⟨fp, ⟨d', us, g1, g2, g3, g4⟩, _⟩ := e2.rep.sub px2 k1
      rw [h1] at g1
      cases g1
      obtain ⟨b, ws, f1, f2, f3⟩ := viewL_ok e2.rep py k2
      refine ⟨d, b, us, ws, h1, by rw [f1], g3, f2, by rw [← g4.length, ← f3.length, rPs_len, rPs_len]; exact Nat.le_trans k3 (by decide), ?_⟩
      obtain ⟨φ', r', st⟩ := put1 (u' := .lst (xs ++ zs)) (ho := .lst (us ++ ws)) e2.rep px2 k1 h1 (fun fp h => lst_own h1 h) ⟨d, _, h1, rfl, upd_same, by rw [rPs_app]; exact g4.append f3⟩
      exact q (.pv (.v .non)) .non _ (e1.trans (e2.weak.trans st)) rfl k4
    · exact k.elim) h
end
end TH
/-! [elt for x in xs if .. for y in ys if ..], a token out where xs is reckoned. -/
namespace TH
open PySem PySem.Spec PyProof.Rows L2
variable [TC : TabC]
section
variable {X : Cx}
theorem lc2T {pins : List (Addr × Obj)} {s : Shared} {σ : L2.St} {H : Hp} {Q : VK} {elt tg iter tg1 iter1 : Expr} {ifs ifs1 : List Expr} {scope : Scope} {own : List (Str × Nat)} {vs1 : List Nat} {pos pos' : Pos} {wi wi1 : TI} {g g1 : TG} {tt tt1 : TT} {te : TE} {use : Option (Value → Sem Unit)} {Qf : Value → Shared → Prop}
    (calm : X.calm = true) (nodup : X.N.Nodup) (h0 : 1 ≤ s.toks) (I : Inv X pins σ H s) (src : PIT X tg iter wi) (ok : BlkOk X.N X.env.scope scope own) (inv1 : ∀ i ∈ vs1, i ∈ own.map (·.2))
    (kg : ∀ (s : Shared) (H : Hp) (C : Addr) (cl : List (Str × Addr)) (fp : List Addr), PG (X.blk s H scope (compEnvC scope cl C X.env) fp) tg g) (kt : ∀ (s : Shared) (H : Hp) (C : Addr) (cl : List (Str × Addr)) (fp : List Addr), PTs (X.blk s H scope (compEnvC scope cl C X.env) fp) ifs tt)
    (ke : ∀ (s : Shared) (H : Hp) (C : Addr) (cl : List (Str × Addr)) (fp : List Addr), PE (X.blk s H scope (compEnvC scope cl C X.env) fp) elt te) (plain : ∀ x, foldedSetIterable iter X.env x = pure x)
    (src1 : ∀ (s : Shared) (H : Hp) (C : Addr) (cl : List (Str × Addr)) (fp : List Addr), PI (X.blk s H scope (compEnvC scope cl C X.env) fp) tg1 iter1 wi1)
    (kg1 : ∀ (s : Shared) (H : Hp) (C : Addr) (cl : List (Str × Addr)) (fp : List Addr), PG (X.blk s H scope (compEnvC scope cl C X.env) fp) tg1 g1)
    (kt1 : ∀ (s : Shared) (H : Hp) (C : Addr) (cl : List (Str × Addr)) (fp : List Addr), PTs (X.blk s H scope (compEnvC scope cl C X.env) fp) ifs1 tt1)
    (plain1 : ∀ env x, foldedSetIterable iter1 env x = pure x)
    (h : tLc2 wi g tt wi1 g1 tt1 te (own.map (·.2)) vs1 σ H Q)
    (done : ∀ D C s' m H', Inv X pins σ H' s' → Q (.ref D) H' → s'.heap.Ns C m → FpOk X pins H' C → compPost (model X.prog X.w) X.A X.xe use Qf (.ref D) C (.ok .next) s') :
    wpAny (model X.prog X.w) X.A (comprehension (.ListComp elt [⟨tg, iter, ifs, 0⟩, ⟨tg1, iter1, ifs1, 0⟩] scope pos) scope X.env pos' (newList []) false (eval iter X.env) use) Qf X.xe s := by
  have frees : ∀ y ∈ scope.names, y.2 = .free → ∃ c, X.env.cells.lookup y.1 = some c := fun y hy e => by
    rcases ok.free y hy e with k | k
    · exact I.ok.has _ (.inl k)
    · exact I.ok.has _ (.inr k)
  refine wpAny_comprehension_free (use := use) rfl plain (closure_ok frees) ok.kind (fun y hy e => by rw [ok.uniq y hy, e])
    (thn (src pins s σ H _ h0 I h) fun xv s1 gx => thn gx fun itv s2 h2 => ?_)
  obtain ⟨it, fp, tn, J, H2, e, I2, T, at2, free2, q⟩ := h2
  subst e
  refine wpAny_newObj_type (newEnv_comp ?_) (by show 0 ≤ sizeLine; decide)
  generalize eD : s2.heap.objs.size = D
  have freeD : H2 D = none := I2.hok.fresh (Nat.le_of_eq eD)
  obtain ⟨W, ⟨m0, w0⟩, turn⟩ := q D freeD
  -- the new list
  generalize e3 : ({ s2 with heap := s2.heap.push { cls := .type "list", data := .seq ([] : List Value).toArray } } : Shared) = s3
  have I3 : Inv X pins σ (upd H2 D (.lst [])) s3 := by
    rw [← e3]
    refine I2.laid (t' := s2.toks) (fun b o e => Heap.get?_push_of_some _ e) (Nat.le_of_eq eD) ⟨Nat.zero_le _, [], 0, .nil, ?_⟩
    rw [← eD]
    exact Heap.get?_push_size _ rfl
  have heap3 : s3.heap = s2.heap.push { cls := .type "list", data := .seq ([] : List Value).toArray } := by rw [← e3]
  have small : ∀ b ∈ fp, b < s2.heap.objs.size := fun b mb => by
    obtain ⟨o, e, _⟩ := T.obj _ _ at2 b mb
    exact Heap.lt_size e
  have free3 : ∀ b ∈ fp, FpOk X pins (upd H2 D (.lst [])) b ∧ b < s3.heap.objs.size := fun b mb => by
    have hlt := small b mb
    refine ⟨⟨?_, (free2 b mb).2⟩, by rw [heap3, Heap.size_push]; exact Nat.lt_succ_of_lt hlt⟩
    rw [upd_ne (by rw [← eD]; exact Nat.ne_of_lt hlt)]
    exact (free2 b mb).1
  have at3 : tn 0 s3.heap := T.keep _ _ _ at2 fun b _ o e => by rw [heap3]; exact Heap.get?_push_of_some _ e
  have I4 := block_start I3 ok nodup free3
  have qg := kg s3 (upd H2 D (.lst [])) s3.heap.objs.size (cellsFrom (s3.heap.objs.size + 1) scope.names (cloFrom X.env.cells scope.names [])) fp
  have qt := kt s3 (upd H2 D (.lst [])) s3.heap.objs.size (cellsFrom (s3.heap.objs.size + 1) scope.names (cloFrom X.env.cells scope.names [])) fp
  have qe := ke s3 (upd H2 D (.lst [])) s3.heap.objs.size (cellsFrom (s3.heap.objs.size + 1) scope.names (cloFrom X.env.cells scope.names [])) fp
  have qi1 := src1 s3 (upd H2 D (.lst [])) s3.heap.objs.size (cellsFrom (s3.heap.objs.size + 1) scope.names (cloFrom X.env.cells scope.names [])) fp
  have qg1 := kg1 s3 (upd H2 D (.lst [])) s3.heap.objs.size (cellsFrom (s3.heap.objs.size + 1) scope.names (cloFrom X.env.cells scope.names [])) fp
  have qt1 := kt1 s3 (upd H2 D (.lst [])) s3.heap.objs.size (cellsFrom (s3.heap.objs.size + 1) scope.names (cloFrom X.env.cells scope.names [])) fp
  show codeAny _ _ (.compStart (.ListComp elt [⟨tg, iter, ifs, 0⟩, ⟨tg1, iter1, ifs1, 0⟩] scope pos) 0 (.ref it) (.ref D) (compEnvC scope (cellsFrom (s3.heap.objs.size + 1) scope.names (cloFrom X.env.cells scope.names [])) s3.heap.objs.size X.env)) (compPost (model X.prog X.w) X.A X.xe use Qf (.ref D) s3.heap.objs.size) { s3 with heap := pushCells (s3.heap.push { cls := .type "dict", data := .dict #[] }) scope.names }
  have nofp : ∀ b ∈ fp, (upd H2 D (.lst [])) b = none := fun b mb => (free3 b mb).1.1
  generalize ece : compEnvC scope (cellsFrom (s3.heap.objs.size + 1) scope.names (cloFrom X.env.cells scope.names [])) s3.heap.objs.size X.env = ce at I4 qg qt qe qi1 qg1 qt1 ⊢
  have locals : ce.locals = s3.heap.objs.size := by subst ece; rfl
  generalize eH3 : upd H2 D (.lst []) = H3 at I3 I4 qg qt qe qi1 qg1 qt1 w0 nofp free3
  generalize e4 : ({ s3 with heap := pushCells (s3.heap.push { cls := .type "dict", data := .dict #[] }) scope.names } : Shared) = s4 at I4 ⊢
  have at4 : tn 0 s4.heap := T.keep _ _ _ at3 fun b _ o e => by rw [← e4]; exact pushCells_keeps _ _ _ _ (Heap.get?_push_of_some _ e)
  have fpok : ∀ {σ' : L2.St} {H' : Hp} {s' : Shared}, Inv (X.blk s3 H3 scope ce fp) [] σ' H' s' → (∀ b ∈ fp, H' b = none) → ∀ b ∈ fp, FpOk (X.blk s3 H3 scope ce fp) [] H' b := fun {σ' H' s'} I' ns b mb =>
    ⟨ns b mb, (I'.ok.exf b mb).1, I'.ok.exfs b mb, .inl mb, fun x c e => (I'.ok.exf b mb).2 x c e, fun p hp => absurd (show p ∈ ([] : List (Addr × Obj)) ++ [] from hp) (by simp)⟩
  have outer : codeAny (model X.prog X.w) X.A (.compLoop (.ListComp elt [⟨tg, iter, ifs, 0⟩, ⟨tg1, iter1, ifs1, 0⟩] scope pos) 0 (.ref it) (.ref D) ce) (compPost (model X.prog X.w) X.A X.xe use Qf (.ref D) s3.heap.objs.size) s4 := by
    refine compLoop2_out (plain1 ce) (fun n s' => ∃ i H', Inv (X.blk s3 H3 scope ce fp) [] (wipe σ (own.map (·.2))) H' s' ∧ tn i s'.heap ∧ (∀ b ∈ fp, H' b = none) ∧ W i n H') ?_ m0 ⟨0, H3, I4, at4, nofp, w0⟩
    rintro n s5 ⟨i, H5, I5, at5, nn5, ww5⟩
    rcases turn i n H5 ww5 with ⟨halt, qq⟩ | ⟨onto, Nx, back, step⟩
    · have tdone := T.done (X.blk s3 H3 scope ce fp) rfl rfl rfl calm i [] s5 _ H5 (fun _ _ => False) I5 (fpok I5 nn5) at5 halt
      refine thnF tdone fun r s6 ⟨er, I6⟩ => ?_
      subst er
      -- back in the def's context
      have I7 : Inv X pins σ H5 s6 := I3.call' (ch := fp) I6.os I6.base I6.hok I6.bare fun b mb => ⟨(free3 b mb).1.2.2.2.1, (free3 b mb).1.2.1, (free3 b mb).1.2.2.2.2.1, (free3 b mb).1.2.2.2.2.2⟩
      have nC : H5 s3.heap.objs.size = none := by
        have z : H5 ce.locals = none := I6.free
        rw [locals] at z
        exact z
      obtain ⟨m, ns, _⟩ := I6.loc
      have ns : s6.heap.Ns ce.locals m := ns
      rw [locals] at ns
      exact done D s3.heap.objs.size s6 m H5 I7 qq ns (I3.fpOk (Nat.le_refl _) nC)
    · have titem := T.item (X.blk s3 H3 scope ce fp) rfl rfl rfl calm i [] s5 _ H5 (fun _ _ => False) I5 (fpok I5 nn5) at5 onto
      refine thnF titem fun r s6 ⟨u, er, h6⟩ => ?_
      subst er
      refine thnF h6 fun _ s7 ⟨x, H7, I7, r7, y7, at7, nn7⟩ => ?_
      have J7 := I7.pinned (fpok I7 nn7) (T.obj _ _ at7)
      refine thnF (qg.run _ s7 _ H7 x u _ J7 r7 (step x H7 y7)) fun _ s8 ⟨σ8, H8, I8, w8, q8⟩ => ?_
      refine thnF (qt.run _ s8 σ8 H8 _ I8 q8) fun b s9 ⟨H9, I9, q9⟩ => ?_
      -- the turn's end, from any slots that know what the block knew at its start
      have onward : ∀ {σ9 : L2.St} {s' : Shared} {H' : Hp}, Inv (X.blk s3 H3 scope ce fp) ([] ++ pinsAt fp s7.heap) σ9 H' s' → (wipe σ (own.map (·.2))).length = σ9.length → (∀ (j : Nat) v, (wipe σ (own.map (·.2)))[j]? = some (some v) → σ9[j]? = some (some v)) → Nx H' →
          ∃ m, m < n ∧ ∃ i H', Inv (X.blk s3 H3 scope ce fp) [] (wipe σ (own.map (·.2))) H' s' ∧ tn i s'.heap ∧ (∀ b ∈ fp, H' b = none) ∧ W i m H' := fun {σ9 s' H'} I' lenq sameq nx => by
        obtain ⟨m', ltm, wq⟩ := back H' nx
        have pinned : ∀ b ∈ fp, ∀ o, s7.heap.get? b = some o → s'.heap.get? b = some o ∧ H' b = none := fun b mb o e =>
          let z := I'.pin (b, o) (List.mem_append_right _ (List.mem_append_right _ (mem_pinsAt mb e)))
          ⟨z.1, z.2.1⟩
        refine ⟨m', ltm, i + 1, H', (I'.unpinned (pins := [])).weak lenq sameq, T.keep _ _ _ at7 fun b mb o e => (pinned b mb o e).1, fun b mb => ?_, wq⟩
        obtain ⟨o, e, _⟩ := T.obj _ _ at7 b mb
        exact (pinned b mb o e).2
      have len8 : (wipe σ (own.map (·.2))).length = σ8.length := by rw [← w8, wipe_length]
      have same8 : ∀ (j : Nat) v, (wipe σ (own.map (·.2)))[j]? = some (some v) → σ8[j]? = some (some v) := fun j v e => by
        rw [← w8] at e
        exact (wipe_some e).1
      have same9 : ∀ (j : Nat) v, (wipe σ (own.map (·.2)))[j]? = some (some v) → (wipe σ8 vs1)[j]? = some (some v) := fun j v e => by
        rw [← w8] at e
        obtain ⟨e1, e2⟩ := wipe_some e
        rw [wipe_out fun z => e2 (inv1 j z)]
        exact e1
      cases b with
      | false =>
        simp only [Bool.false_eq_true, if_false] at q9 ⊢
        exact onward I9 len8 same8 q9
      | true =>
        simp only [if_true] at q9 ⊢
        refine thnF (qi1.run _ s9 σ8 H9 _ I9 q9) fun xv s10 gx => thnF gx fun itv s11 h11 => ?_
        obtain ⟨it1, fp1, tn1, J1, H11, e1, I11, T1, at11, free11, W1, ⟨m1, w1⟩, turn1⟩ := h11
        subst e1
        -- the inner outer
        have fpok1 : ∀ {H' : Hp}, (∀ b ∈ fp1, H' b = none) → ∀ b ∈ fp1, FpOk (X.blk s3 H3 scope ce fp) ([] ++ pinsAt fp s7.heap) H' b := fun ns b mb => ⟨ns b mb, (free11 b mb).2⟩
        have inner : codeAny (model X.prog X.w) X.A (.compLoop (.ListComp elt [⟨tg, iter, ifs, 0⟩, ⟨tg1, iter1, ifs1, 0⟩] scope pos) 1 (.ref it1) (.ref D) ce)
            (fun r s' => match r with
              | .ok _ => ∃ m, m < n ∧ ∃ i H', Inv (X.blk s3 H3 scope ce fp) [] (wipe σ (own.map (·.2))) H' s' ∧ tn i s'.heap ∧ (∀ b ∈ fp, H' b = none) ∧ W i m H'
              | .error _ => False) s11 := by
          refine compLoop2_in (fun k s' => ∃ j H', Inv (X.blk s3 H3 scope ce fp) ([] ++ pinsAt fp s7.heap) (wipe σ8 vs1) H' s' ∧ tn1 j s'.heap ∧ (∀ b ∈ fp1, H' b = none) ∧ W1 j k H') ?_ m1 ⟨0, H11, I11.weak (wipe_length _ _) (fun j v e => (wipe_some e).1), at11, fun b mb => (free11 b mb).1, w1⟩
          rintro k s12 ⟨j, H12, I12, at12, nn12, w12⟩
          rcases turn1 j k H12 w12 with ⟨halt1, done1⟩ | ⟨onto1, Nx1, back1, step1⟩
          · refine thnF (T1.done (X.blk s3 H3 scope ce fp) rfl rfl rfl calm j _ s12 (wipe σ8 vs1) H12 (fun _ _ => False) I12 (fpok1 nn12) at12 halt1) fun r s13 ⟨er, I13⟩ => ?_
            subst er
            exact onward I13 (len8.trans (wipe_length σ8 vs1).symm) same9 done1
          · refine thnF (T1.item (X.blk s3 H3 scope ce fp) rfl rfl rfl calm j _ s12 (wipe σ8 vs1) H12 (fun _ _ => False) I12 (fpok1 nn12) at12 onto1) fun r s13 ⟨u1, er, h13⟩ => ?_
            subst er
            refine thnF h13 fun _ s14 ⟨x1, H14, I14, r14, y14, at14, nn14⟩ => ?_
            have J14 := I14.pinned (fpok1 nn14) (T1.obj _ _ at14)
            refine thnF (qg1.run _ s14 (wipe σ8 vs1) H14 x1 u1 _ J14 r14 (step1 x1 H14 y14)) fun _ s15 ⟨σ15, H15, I15, w15, q15⟩ => ?_
            refine thnF (qt1.run _ s15 σ15 H15 _ I15 q15) fun b1 s16 ⟨H16, I16, q16⟩ => ?_
            have onward1 : ∀ {s' : Shared} {H' : Hp}, Inv (X.blk s3 H3 scope ce fp) (([] ++ pinsAt fp s7.heap) ++ pinsAt fp1 s14.heap) σ15 H' s' → Nx1 H' → ∃ m, m < k ∧ ∃ j H', Inv (X.blk s3 H3 scope ce fp) ([] ++ pinsAt fp s7.heap) (wipe σ8 vs1) H' s' ∧ tn1 j s'.heap ∧ (∀ b ∈ fp1, H' b = none) ∧ W1 j m H' := fun {s' H'} I' nx => by
              obtain ⟨m', ltm, wq⟩ := back1 H' nx
              have pinned : ∀ b ∈ fp1, ∀ o, s14.heap.get? b = some o → s'.heap.get? b = some o ∧ H' b = none := fun b mb o e =>
                let z := I'.pin (b, o) (List.mem_append_right _ (List.mem_append_right _ (mem_pinsAt mb e)))
                ⟨z.1, z.2.1⟩
              refine ⟨m', ltm, j + 1, H', I'.unpinned.weak (by rw [← w15, wipe_length]) (fun j v e => by rw [← w15] at e; exact (wipe_some e).1), T1.keep _ _ _ at14 fun b mb o e => (pinned b mb o e).1, fun b mb => ?_, wq⟩
              obtain ⟨o, e, _⟩ := T1.obj _ _ at14 b mb
              exact (pinned b mb o e).2
            cases b1 with
            | false =>
              simp only [Bool.false_eq_true, if_false] at q16 ⊢
              exact onward1 I16 q16
            | true =>
              simp only [if_true] at q16 ⊢
              refine thnF (qe.run _ s16 σ15 H16 _ I16 q16) fun z s17 ⟨yv, H17, I17, r17, acc, hD17, hz17, nx⟩ => ?_
              exact L2.app_ok (X := X.blk s3 H3 scope ce fp) I17 hD17 hz17 r17 fun s18 I18 => onward1 I18 nx
        exact compStart1_ok inner (T1.self X.A 0 _ _ _ at11 inner)
  exact codeAny_compStart_list outer (T.self X.A 0 _ _ _ at4 outer)
section
variable {elt tg iter tg1 iter1 : Expr} {ifs ifs1 : List Expr} {scope : Scope} {own : List (Str × Nat)} {vs1 : List Nat} {pos spos py : Pos} {wi wi1 : TI} {g g1 : TG} {tt tt1 : TT} {te : TE} {i : Nat} {y : Str}
theorem pst_setLc2 (calm : X.calm = true) (nodup : X.N.Nodup) (hy : X.N[i]? = some y) (hyl : X.env.scope.names.lookup y = some .local)
    (used : swapsWith (.ListComp elt [⟨tg, iter, ifs, 0⟩, ⟨tg1, iter1, ifs1, 0⟩] scope pos) (some (.Name y py)) spos.line X.env = pure true) (src : PIT X tg iter wi) (ok : BlkOk X.N X.env.scope scope own) (inv1 : ∀ i ∈ vs1, i ∈ own.map (·.2))
    (kg : ∀ (s : Shared) (H : Hp) (C : Addr) (cl : List (Str × Addr)) (fp : List Addr), PG (X.blk s H scope (compEnvC scope cl C X.env) fp) tg g) (kt : ∀ (s : Shared) (H : Hp) (C : Addr) (cl : List (Str × Addr)) (fp : List Addr), PTs (X.blk s H scope (compEnvC scope cl C X.env) fp) ifs tt)
    (src1 : ∀ (s : Shared) (H : Hp) (C : Addr) (cl : List (Str × Addr)) (fp : List Addr), PI (X.blk s H scope (compEnvC scope cl C X.env) fp) tg1 iter1 wi1)
    (kg1 : ∀ (s : Shared) (H : Hp) (C : Addr) (cl : List (Str × Addr)) (fp : List Addr), PG (X.blk s H scope (compEnvC scope cl C X.env) fp) tg1 g1)
    (kt1 : ∀ (s : Shared) (H : Hp) (C : Addr) (cl : List (Str × Addr)) (fp : List Addr), PTs (X.blk s H scope (compEnvC scope cl C X.env) fp) ifs1 tt1)
    (ke : ∀ (s : Shared) (H : Hp) (C : Addr) (cl : List (Str × Addr)) (fp : List Addr), PE (X.blk s H scope (compEnvC scope cl C X.env) fp) elt te) (plain : ∀ x, foldedSetIterable iter X.env x = pure x := by intro _; rfl) (plain1 : ∀ env x, foldedSetIterable iter1 env x = pure x := by intro _ _; rfl) :
    PST X (.Assign [.Name y py] (.ListComp elt [⟨tg, iter, ifs, 0⟩, ⟨tg1, iter1, ifs1, 0⟩] scope pos) spos) (tAsg (tLc2 wi g tt wi1 g1 tt1 te (own.map (·.2)) vs1) (gName i)) := fun pins s σ H D h0 I hw => by
  rw [exec_Assign_Name_used _ _ _ _ used]
  refine wpAny_bind (wpAny_standAt (wpAny_bind ?_))
  show wpAny _ X.A (do let _ ← comprehension (.ListComp elt [⟨tg, iter, ifs, 0⟩, ⟨tg1, iter1, ifs1, 0⟩] scope pos) scope X.env (firstIterPos [⟨tg, iter, ifs, 0⟩, ⟨tg1, iter1, ifs1, 0⟩] pos) (newList []) false (eval iter X.env) (some (assign (.Name y py) X.env))) _ _ s
  have hw : tLc2 wi g tt wi1 g1 tt1 te (own.map (·.2)) vs1 σ H (fun x H1 => gName i x σ H1 D.nx) := hw
  refine wpAny_bind (thn (lc2T (Qf := fun _ s' => SP X pins D .next s') calm nodup h0 I src ok inv1 kg kt ke plain src1 kg1 kt1 plain1 hw fun L C s' m H' J q ns free => ?_) fun _ s' hq => wpAny_pure (wpAny_pure hq))
  show wpAny _ _ (assign (.Name y py) X.env (.ref L)) _ _ _
  refine wpAny_assign_Name (store_ok2 (v := V.ref L) J nodup hy (.inl hyl) rfl (fun s2 J2 ⟨a, sb, ha⟩ => ?_) (.inr hyl))
  obtain ⟨w0, w1, w2, w3, w4, w5⟩ := free
  have apart : C ≠ a := by
    rcases ha with z | z
    · rw [z]; exact w1
    · exact fun e => w4 y a z e.symm
  exact ⟨m, ns.sameBut sb apart, fun h3 sb3 => ⟨_, H', J2.turned (t' := s2.toks) (fun b o mb e => (sb3.2 b mb).trans e) w0 w1 w3 w4 w5, q⟩⟩
theorem pet_lc2 (calm : X.calm = true) (nodup : X.N.Nodup) (src : PIT X tg iter wi) (ok : BlkOk X.N X.env.scope scope own) (inv1 : ∀ i ∈ vs1, i ∈ own.map (·.2))
    (kg : ∀ (s : Shared) (H : Hp) (C : Addr) (cl : List (Str × Addr)) (fp : List Addr), PG (X.blk s H scope (compEnvC scope cl C X.env) fp) tg g) (kt : ∀ (s : Shared) (H : Hp) (C : Addr) (cl : List (Str × Addr)) (fp : List Addr), PTs (X.blk s H scope (compEnvC scope cl C X.env) fp) ifs tt)
    (src1 : ∀ (s : Shared) (H : Hp) (C : Addr) (cl : List (Str × Addr)) (fp : List Addr), PI (X.blk s H scope (compEnvC scope cl C X.env) fp) tg1 iter1 wi1)
    (kg1 : ∀ (s : Shared) (H : Hp) (C : Addr) (cl : List (Str × Addr)) (fp : List Addr), PG (X.blk s H scope (compEnvC scope cl C X.env) fp) tg1 g1)
    (kt1 : ∀ (s : Shared) (H : Hp) (C : Addr) (cl : List (Str × Addr)) (fp : List Addr), PTs (X.blk s H scope (compEnvC scope cl C X.env) fp) ifs1 tt1)
    (ke : ∀ (s : Shared) (H : Hp) (C : Addr) (cl : List (Str × Addr)) (fp : List Addr), PE (X.blk s H scope (compEnvC scope cl C X.env) fp) elt te) (plain : ∀ x, foldedSetIterable iter X.env x = pure x := by intro _; rfl) (plain1 : ∀ env x, foldedSetIterable iter1 env x = pure x := by intro _ _; rfl) :
    PET X (.ListComp elt [⟨tg, iter, ifs, 0⟩, ⟨tg1, iter1, ifs1, 0⟩] scope pos) (tLc2 wi g tt wi1 g1 tt1 te (own.map (·.2)) vs1) := fun pins s σ H Q h0 I hw => by
  rw [eval_ListComp]
  refine lc2T calm nodup h0 I src ok inv1 kg kt ke plain src1 kg1 kt1 plain1 hw fun D C s' m H' J q ns free => ⟨m, ns, fun h'' sb => ?_⟩
  obtain ⟨w0, w1, w2, w3, w4, w5⟩ := free
  exact ⟨.ref D, H', J.turned (t' := s'.toks) (fun b o mb e => (sb.2 b mb).trans e) w0 w1 w3 w4 w5, rfl, q⟩
end
end
end TH
/-! A lambda of a def's text, by its place. -/
namespace TH
open PySem PySem.Spec PyProof.Rows L2 LamX NdefX
variable [TC : TabC]
/-- the key that is handed to the call that the last statement returns -/
def keyOfRet : List Stmt → Expr
  | [.Return (some (.Call _ _ [kw] _)) _] => kw.value
  | _ :: t => keyOfRet t
  | [] => .Constant .none 0 ⟨0, 0, 0, 0⟩
def lamArgs : Expr → Arguments
  | .Lambda a _ _ _ => a
  | _ => { posonlyargs := [], args := [], vararg := none, kwonlyargs := [], kw_defaults := [], kwarg := none, defaults := [] }
def lamBody : Expr → Expr
  | .Lambda _ b _ _ => b
  | e => e
def lamScope : Expr → Scope
  | .Lambda _ _ s _ => s
  | _ => { kind := .function, names := [], isGenerator := false, isCoroutine := false }
def lamPos : Expr → Pos
  | .Lambda _ _ _ p => p
  | _ => ⟨0, 0, 0, 0⟩
abbrev lamF (q : Str) (l : Expr) (cl : List (Str × Addr)) (c : Addr) : NdefX.NF := ⟨"<lambda>", q, lamArgs l, [], lamScope l, cl, c⟩
end TH
/-! Calls with keywords, with defaults that are things. -/
namespace TH
open PySem PySem.Spec PyProof.Rows L2
variable [TC : TabC]
section
variable {X : Cx} {CX : CXT} {k n : Nat} {f : Addr} {fd : FuncData} {ps ks : List Str} {sp : Sp} {E : XK} {x : Str} {p pos : Pos} {e : Expr} {es : List Expr} {kws : List Keyword} {t tk : TA} {g : List Value → List Value → List Value} {gV : List V → List V → List V}
theorem run_fnTN {pins : List (Addr × Obj)} {σ : L2.St} {H : Hp} {s : Shared} {Q : VK} {us ws : List Value} {vs zs : List V} (F : FnT X.prog X.w X.K X.mg X.base CX k f fd ps sp) (hr : Room k X.A) (hb : KBn X.K fd ps n ks g gV) (hx : Passes CX X E) (h0 : 1 ≤ s.toks)
    (I : Inv X pins σ H s) (r : Vals vs us) (rz : Vals zs ws) (l1 : vs.length = n) (l2 : zs.length = ks.length) (h : sp (gV vs zs) H Q E) : wpAny (model X.prog X.w) X.A (call (.ref f) us (ks.zip ws)) (EP X pins σ Q) X.xe s := by
  have rel := hb.rel r rz
  refine wpAny_call (codeAny_mono (F.run X.A X.stack s H ⟨us, ks.zip ws⟩ (g us ws) (gV vs zs) Q E h0 hr I.env0 (hb.to s us ws I.kIn (r.length.symm.trans l1) (rz.length.symm.trans l2)) rel h) fun r s' hq => ?_)
  cases r with
  | error e => exact hx pins σ H s e s' I hq
  | ok fl =>
    cases fl with
    | ret u => exact I.after hq
    | next => exact False.elim hq
    | brk => exact False.elim hq
    | cont => exact False.elim hq
/-- f(e, .., k = v, ..), a token out -/
theorem pet_callN (F : FnT X.prog X.w X.K X.mg X.base CX k f fd ps sp) (hr : Room k X.A) (hg : Gl X x) (hm : X.mg x = some (.ref f)) (hk : PySem.W.keepIn X.K (.ref f) = true) (hb : KBn X.K fd ps n ks g gV) (hx : Passes CX X E)
    (ha : PAT X (e :: es) t) (hkw : PK X kws tk) (hall : (backToKw pos (keywordEach kws X.env)).all (·.1.isSome) = true := by rfl) (hks : (backToKw pos (keywordEach kws X.env)).filterMap (·.1) = ks := by rfl)
    (hdb : (x == ("__debug__" : Str)) = false := by decide) (he : starEach (e :: es) X.env = (false, eval e X.env) :: starEach es X.env := by rfl)
    (hpl : ((backTo pos (starEach (e :: es) X.env)).any (·.1) || (backToKw pos (keywordEach kws X.env)).any (·.1.isNone)) = false := by rfl) :
    PET X (.Call (.Name x p) (e :: es) kws pos) (tCallN n ks.length sp gV E t tk) := fun pins s σ H Q h0 I h => by
  refine wpAny_with_toks (n := 1) h0 (wpAny_Call_Name_kw (ld_glob I hg hm ?_ hdb))
  refine PySem.W.callWith_KW (h₀ := X.base) I.ok.mod.kin hk hall (wpAny_mono (PySem.wpAny_toks_of h0 (ha pos pins s σ H _ h0 I h)) (fun us s1 ⟨t1, vs, H1, I1, r, q⟩ => ?_) fun e s' z => ?_) hpl he
  · refine wpAny_mono (PySem.wpAny_toks_of t1 (hkw.run pos pins s1 σ H1 _ I1 q)) (fun ws s2 ⟨t2, zs, H2, I2, rz, l1, l2, q2⟩ => ⟨I2.kIn, ?_⟩) fun e s' z => ?_
    · rw [hks]
      exact wpAny_mono (run_fnTN F hr hb hx t2 I2 r rz l1 l2 q2) (fun _ _ z _ => z) fun _ _ z _ => z
    · exact fun _ => z.2
  · exact fun _ => z.2
end
/-- a def that wants a token out, called with n values by place, the others by the names ks, ds between -/
structure CalTK (P : Program) (w : World) (K : PySem.W.Frag) (mg : Str → Option Value) (base : Heap) (k : Nat) (x : Str) (sp : Sp) (n : Nat) (ks : List Str) (ds : List V) : Prop where
  ex : ∃ (f : Addr) (fd : FuncData) (ps : List Str) (g : List Value → List Value → List Value), FnT P w K mg base CX0 k f fd ps sp ∧ mg x = some (.ref f) ∧ PySem.W.keepIn K (.ref f) = true ∧ KBn K fd ps n ks g (fun vs zs => vs ++ (ds ++ zs))
theorem pet_ck {X : Cx} {k j n : Nat} {x : Str} {sp : Sp} {ks : List Str} {ds : List V} {p pos : Pos} {e : Expr} {es : List Expr} {kws : List Keyword} {t tk : TA} (c : CalTK X.prog X.w X.K X.mg X.base k x sp n ks ds) (hr : Room j X.A) (hk : k ≤ j) (hg : Gl X x) (ha : PAT X (e :: es) t) (hkw : PK X kws tk)
    (hdb : (x == ("__debug__" : Str)) = false := by decide) (he : starEach (e :: es) X.env = (false, eval e X.env) :: starEach es X.env := by rfl) (hall : (backToKw pos (keywordEach kws X.env)).all (·.1.isSome) = true := by rfl) (hks : (backToKw pos (keywordEach kws X.env)).filterMap (·.1) = ks := by rfl)
    (hpl : ((backTo pos (starEach (e :: es) X.env)).any (·.1) || (backToKw pos (keywordEach kws X.env)).any (·.1.isNone)) = false := by rfl) :
    PET X (.Call (.Name x p) (e :: es) kws pos) (tCallN n ks.length sp (fun vs zs => vs ++ (ds ++ zs)) C8.E0 t tk) := by
  obtain ⟨f, fd, ps, g, F, hm, kp, b⟩ := c.ex
  exact pet_callN F (hr.mono hk) hg hm kp b C8.pass0 ha hkw hall hks hdb he hpl
section
variable {K : PySem.W.Frag} {m : Bool} {ac : AC} {sp : Sp} {r rk : aTA} {t tk : TA} {E : XK} {ds : List V} {dps : List PV}
/-- what stands for defaults, whatever the heap -/
def DsOk (K : PySem.W.Frag) (dps : List PV) (ds : List V) : Prop := ∀ G, Al G (rPs K dps) ds
theorem DsOk.nil : DsOk K [] [] := fun G => .nil
theorem DsOk.v {v : V} (h : DsOk K dps ds) : DsOk K (.v v :: dps) (v :: ds) := fun G => .cons rfl (h G)
theorem DsOk.tup0 {a : Addr} (e : ∀ H, SqT K H a []) (h : DsOk K dps ds) : DsOk K (.tup [] :: dps) (.ref a :: ds) := fun G => .cons ⟨a, [], rfl, e G, .nil⟩ (h G)
def aCallP (ac : AC) (dps : List PV) (r : aTA) : aTE := fun sa A k => r sa A fun avs A1 => ∃ ps, pvs avs = some ps ∧ ac ((ps ++ dps).map .pv) [] fun r _ => match r with
  | .pv p => k (.pv p) A1
  | _ => False
theorem sim_callP (hsp : SpLe (spA K ac) sp) (hd : DsOk K dps ds) (ha : SimA K m r t) : SimE K m (aCallP ac dps r) (tCall sp ds E t) := fun {B s sa σ} rp g {Kc Q} q h =>
  ha rp g (fun avs vs s1 e1 ps k => by
    obtain ⟨qs, k1, k2⟩ := k
    have al : Al s1.G (rPs K (qs ++ dps)) (vs ++ ds) := by rw [rPs_app]; exact (pvs_al ps k1).append (hd s1.G)
    refine call0_ok hsp e1.rep al k2 fun rv v s2 r2 hA hr k => ?_
    match rv, hr, k with
    | .pv p, hr, k => exact q (.pv p) v { s1 with G := s2.G, H := s2.H } (e1.trans (.of e1.rep r2.gr0)) hr k) h
def aCallK (ac : AC) (n l : Nat) (dps : List PV) (r rk : aTA) : aTE := fun sa A k => r sa A fun avs A1 => rk sa A1 fun zvs A2 => ∃ ps qs, pvs avs = some ps ∧ pvs zvs = some qs ∧ avs.length = n ∧ zvs.length = l ∧ ac ((ps ++ (dps ++ qs)).map .pv) [] fun r _ => match r with
  | .pv p => k (.pv p) A2
  | _ => False
theorem sim_callK {n l : Nat} (hsp : SpLe (spA K ac) sp) (hd : DsOk K dps ds) (ha : SimA K m r t) (hk : SimA K true rk tk) : SimE K m (aCallK ac n l dps r rk) (tCallN n l sp (fun vs zs => vs ++ (ds ++ zs)) E t tk) := fun {B s sa σ} rp g {Kc Q} q h =>
  ha rp g (fun avs vs s1 e1 ps k => hk e1.rep (g.stp e1) (fun zvs zs s2 e2 pz k => by
    obtain ⟨qs, qz, k1, k2, k3, k4, k5⟩ := k
    have al : Al s2.G (rPs K (qs ++ (dps ++ qz))) (vs ++ (ds ++ zs)) := by
      rw [rPs_app, rPs_app]
      exact ((pvs_al ps k1).mono e2.le).append ((hd s2.G).append (pvs_al pz k2))
    refine ⟨ps.length.symm.trans k3, pz.length.symm.trans k4, call0_ok hsp e2.rep al k5 fun rv v s3 r3 hA hr k => ?_⟩
    match rv, hr, k with
    | .pv p, hr, k => exact q (.pv p) v { s2 with G := s3.G, H := s3.H } ((e1.trans e2.weak).trans (.of e2.rep r3.gr0)) hr k) k) h
end
end TH
/-! Nested defs some of whose own names are cells (a comprehension within takes them). -/
namespace TH
open PySem PySem.Spec PyProof.Rows L2 LamX NdefX
variable [TC : TabC]
/-- the frame of a function with captured cells: its own cells are laid, its parameters stored -/
theorem newEnv_clo {M : Model} {A : Around} {E : Value → Shared → Prop} {s : Shared} {scope : Scope} {globals : Addr} {closure : List (Str × Addr)} {binds : List (Str × Value)} {qual : Str} {func : Option Addr} {code : Value} {builtins : Addr} {Q : Env → Shared → Prop}
    (hk : scope.kind = .function) (hl : ∀ x ∈ binds, scope.names.lookup x.1 = some .local)
    (hQ : ∀ h', h'.Ns s.heap.objs.size (fun x => binds.reverse.lookup x) → Heap.SameBut s.heap.objs.size (pushCells (s.heap.push { cls := .type "frame", data := .dict #[] }) scope.names) h' →
      Q (newEnv scope s.heap.objs.size globals (cellsFrom (s.heap.objs.size + 1) scope.names closure) qual func code none builtins) { s with heap := h', toks := s.toks + binds.length }) :
    wpAny M A (newFunctionEnv scope globals closure binds qual func code none builtins) Q E s := by
  simp only [newFunctionEnv, Option.isSome_none, Bool.false_eq_true, if_false]
  simp only [newEnv] at hQ
  refine wpAny_bind (wpAny_alloc ?_)
  refine wpAny_bind (wpAny_layCells _ (fun name kind cells => by cases hkc : kind == NameKind.cell <;> simp [hkc]) _ _ _ _ ?_)
  rw [show ({ s with heap := s.heap.push { cls := .type "frame", data := .dict #[] } } : Shared).heap.objs.size = s.heap.objs.size + 1 from Heap.size_push ..]
  generalize ecl : cellsFrom (s.heap.objs.size + 1) scope.names closure = cells at hQ ⊢
  have n0 : (pushCells (s.heap.push { cls := .type "frame", data := .dict #[] }) scope.names).Ns s.heap.objs.size (fun _ => none) := (Heap.Ns.new s.heap (.type "frame")).keeps (pushCells_keeps _ _)
  refine wpAny_bind ?_
  refine wpAny_forIn_list _
    (fun rest _ s' => ∃ done h', binds = done ++ rest ∧ s' = { s with heap := h', toks := s.toks + done.length } ∧
      h'.Ns s.heap.objs.size (fun x => done.reverse.lookup x) ∧
      Heap.SameBut s.heap.objs.size (pushCells (s.heap.push { cls := .type "frame", data := .dict #[] }) scope.names) h') _ ?_ ?_ binds _
    ⟨[], _, rfl, rfl, n0, Heap.SameBut.refl ..⟩
  · rintro ⟨name, v⟩ rest _ s' ⟨done, h', hb, rfl, hns, hsb⟩
    have hk' : Env.kindOf { scope, locals := s.heap.objs.size, globals, cells := cells, qual, func, code, frame := some s.heap.objs.size, builtins } name = some .local :=
      hl (name, v) (by rw [hb]; simp)
    simp only [storeName_local hk' (show (scope.kind == .class || (scope.kind == .module && _)) = false by rw [hk]; rfl)]
    refine wpAny_bind (wpAny_nsSet hns fun h'' hns' hsb' => wpAny_pure ⟨done ++ [(name, v)], h'', by simp [hb], ?_, ?_, hsb.trans hsb'⟩)
    · simp [Nat.add_assoc]
    · rw [lookup_reverse_snoc]; exact hns'
  · rintro _ s' ⟨done, h', hb, rfl, hns, hsb⟩
    rw [List.append_nil] at hb
    subst hb
    exact wpAny_pure (hQ h' hns hsb)
/-- the names: parameters, captured ones, then others, some of them cells -/
structure NScC (N ps fr : List Str) (sc : Scope) : Prop where
  kind : sc.kind = .function
  co : sc.isCoroutine = false
  gen : sc.isGenerator = false
  nd : N.Nodup
  pre : N.take (ps.length + fr.length) = ps ++ fr
  par : ∀ x ∈ ps, sc.names.lookup x = some .local
  free : ∀ y ∈ sc.names, y.2 = .free → y.1 ∈ fr
  frk : ∀ x ∈ fr, sc.names.lookup x = some .free
  nocell : ∀ x ∈ fr, (x, NameKind.cell) ∉ sc.names
def nscCB (N ps fr : List Str) (sc : Scope) : Bool :=
  decide (sc.kind = .function) && !sc.isCoroutine && !sc.isGenerator && decide N.Nodup && decide (N.take (ps.length + fr.length) = ps ++ fr) && ps.all (fun x => decide (sc.names.lookup x = some .local)) && sc.names.all (fun y => !decide (y.2 = .free) || decide (y.1 ∈ fr)) && fr.all (fun x => decide (sc.names.lookup x = some .free)) && fr.all fun x => !decide ((x, NameKind.cell) ∈ sc.names)
theorem nscC_by {N ps fr : List Str} {sc : Scope} (h : nscCB N ps fr sc = true) : NScC N ps fr sc := by
  unfold nscCB at h
  simp only [Bool.and_eq_true, Bool.not_eq_true', decide_eq_true_eq, List.all_eq_true, Bool.or_eq_true, decide_eq_false_iff_not] at h
  obtain ⟨⟨⟨⟨⟨⟨⟨⟨h1, h2⟩, h3⟩, h4⟩, h5⟩, h6⟩, h8⟩, h9⟩, h10⟩ := h
  exact ⟨h1, h2, h3, h4, h5, h6, fun y hy e => (h8 y hy).elim (fun z => absurd e z) id, h9, h10⟩
/-- a cell of the list is its own, or was there -/
theorem cellsFrom_split : ∀ (names : List (Str × NameKind)) (n : Nat) (acc : List (Str × Addr)) (y : Str) (c : Addr), (cellsFrom n names acc).lookup y = some c → (n ≤ c ∧ (y, NameKind.cell) ∈ names ∧ (y, c) ∈ cellsFrom n names []) ∨ acc.lookup y = some c
  | [], n, acc, y, c, h => .inr h
  | (x, kd) :: r, n, acc, y, c, h => by
    have mono : ∀ (names : List (Str × NameKind)) (n : Nat) (a b : List (Str × Addr)) (q : Str × Addr), q ∈ cellsFrom n names a → (q ∈ a → q ∈ b) → q ∈ cellsFrom n names b := by
      intro names
      induction names with
      | nil => intro n a b q h1 h2; exact h2 h1
      | cons z r ih =>
        obtain ⟨z, kz⟩ := z
        intro n a b q h1 h2
        unfold cellsFrom at h1 ⊢
        split
        · rename_i hk
          rw [if_pos hk] at h1
          refine ih _ _ _ q h1 fun m => ?_
          rcases List.mem_cons.mp m with e | m
          · rw [e]; exact List.mem_cons_self
          · exact List.mem_cons_of_mem _ (h2 m)
        · rename_i hk
          rw [if_neg hk] at h1
          exact ih _ _ _ q h1 h2
    have keep : ∀ (names : List (Str × NameKind)) (n : Nat) (a : List (Str × Addr)) (q : Str × Addr), q ∈ a → q ∈ cellsFrom n names a := by
      intro names
      induction names with
      | nil => intro n a q h; exact h
      | cons z r ih =>
        obtain ⟨z, kz⟩ := z
        intro n a q h
        unfold cellsFrom
        split
        · exact ih _ _ q (List.mem_cons_of_mem _ h)
        · exact ih _ _ q h
    unfold cellsFrom at h ⊢
    by_cases hk : (kd == NameKind.cell) = true
    · rw [if_pos hk] at h ⊢
      rcases cellsFrom_split r (n + 1) ((x, n) :: acc) y c h with ⟨h1, h2, h3⟩ | h1
      · exact .inl ⟨Nat.le_of_succ_le h1, List.mem_cons_of_mem _ h2, mono r _ [] _ _ h3 fun z => nomatch z⟩
      · rw [List.lookup_cons] at h1
        cases e : y == x with
        | true =>
          rw [e] at h1
          cases h1
          have ex := beq_iff_eq.mp e
          have ek : kd = .cell := beq_iff_eq.mp hk
          exact .inl ⟨Nat.le_refl _, by rw [ex, ek]; exact List.mem_cons_self, by rw [ex]; exact keep r _ _ _ List.mem_cons_self⟩
        | false =>
          rw [e] at h1
          exact .inr h1
    · rw [if_neg hk] at h ⊢
      rcases cellsFrom_split r n acc y c h with ⟨h1, h2, h3⟩ | h1
      · exact .inl ⟨h1, List.mem_cons_of_mem _ h2, h3⟩
      · exact .inr h1
theorem cellsFrom_acc : ∀ (names : List (Str × NameKind)) (n : Nat) (acc : List (Str × Addr)) (y : Str) (c : Addr), acc.lookup y = some c → (y, NameKind.cell) ∉ names → (cellsFrom n names acc).lookup y = some c
  | [], n, acc, y, c, h, _ => h
  | (x, kd) :: r, n, acc, y, c, h, hn => by
    have hr : (y, NameKind.cell) ∉ r := fun z => hn (List.mem_cons_of_mem _ z)
    unfold cellsFrom
    split
    · rename_i hk
      have ek : kd = .cell := beq_iff_eq.mp hk
      refine cellsFrom_acc r _ _ y c ?_ hr
      rw [List.lookup_cons, show (y == x) = false from beq_eq_false_iff_ne.mpr fun z => hn (by rw [z, ek]; exact List.mem_cons_self)]
      exact h
    · exact cellsFrom_acc r _ _ y c h hr
theorem cellsFrom_lo : ∀ (names : List (Str × NameKind)) (n : Nat) (acc : List (Str × Addr)) (y : Str) (c : Addr), (y, NameKind.cell) ∈ names → (cellsFrom n names acc).lookup y = some c → n ≤ c
  | (x, kd) :: r, n, acc, y, c, hm, h => by
    unfold cellsFrom at h
    by_cases hr : (y, NameKind.cell) ∈ r
    · split at h
      · exact Nat.le_of_succ_le (cellsFrom_lo r (n + 1) _ y c hr h)
      · exact cellsFrom_lo r n _ y c hr h
    · have e : (y, NameKind.cell) = (x, kd) := (List.mem_cons.mp hm).resolve_right hr
      cases e
      rw [if_pos (by rfl)] at h
      rcases cellsFrom_split r (n + 1) _ _ c h with ⟨h1, _, _⟩ | h1
      · exact Nat.le_of_succ_le h1
      · rw [List.lookup_cons, beq_self_eq_true] at h1
        cases h1
        exact Nat.le_refl _
def isCellB : Option NameKind → Bool
  | some .cell => true
  | _ => false
theorem isCellB_eq {o : Option NameKind} (h : isCellB o = true) : o = some .cell := by
  cases o with
  | none => cases h
  | some k => cases k <;> first | rfl | cases h
abbrev envG (F : NdefX.NF) (f L : Addr) : Env := PySem.W.envX F.qual F.scope L f (.ref F.c) (cellsFrom (L + 1) F.scope.names F.cl)
/-- the context of its body, at its entry -/
def ncxG (CX : CXT) (P : Program) (w : World) (K : PySem.W.Frag) (mg : Str → Option Value) (base : Heap) (N : List Str) (F : NdefX.NF) (f : Addr) (A : Around) (outer : List Env) (s : Shared) (H : Hp) (E : XK) : Cx where
  prog := P
  w := w
  K := K
  mg := mg
  base := base
  A := A.deeper (envG F f s.heap.objs.size)
  N := N
  s_0 := s
  H_0 := H
  env := envG F f s.heap.objs.size
  outer := outer
  stack := envG F f s.heap.objs.size :: outer
  ex := []
  calm := true
  fn := fun x => isCellB (F.scope.names.lookup x)
  pn := []
  xe := fun e s' => wpAny (model P w) (A.deeper (envG F f s.heap.objs.size)) (leaving (envG F f s.heap.objs.size) e) (fun _ s'' => CX outer H s E e s'') (fun e' s'' => CX outer H s E e' s'') s'
section
variable {CX : CXT} {P : Program} {w : World} {K : PySem.W.Frag} {mg : Str → Option Value} {base : Heap} {N ps fr : List Str} {F : NdefX.NF} {f : Addr} {A : Around} {outer : List Env} {s : Shared} {H : Hp} {E : XK} {us : List Value} {vs : List V} {ws : List (Option V)}
theorem inv_startG {h₁ : Heap} {tk : Nat} (S : NScC N ps fr F.scope) (hd : A.handled = none) (e0 : Env0 P w K mg base A outer s H) (hl : vs.length = ps.length) (r : Vals vs us) (C : CellsAt F.cl fr ws s.heap H) (hns : h₁.Ns s.heap.objs.size fun y => (ps.zip us).reverse.lookup y)
    (hsb : Heap.SameBut s.heap.objs.size (pushCells (s.heap.push { cls := .type "frame", data := .dict #[] }) F.scope.names) h₁) : Inv (ncxG CX P w K mg base N F f A outer s H E) [] (startF N vs ws) H { s with heap := h₁, toks := tk } := by
  have hpl : ps.length + fr.length ≤ N.length := by
    have q := congrArg List.length S.pre
    rw [List.length_take, List.length_append] at q
    omega
  have kp : ∀ b o, s.heap.get? b = some o → h₁.get? b = some o := fun b o e => hsb.extBut b o (Nat.ne_of_lt (Heap.lt_size e)) (pushCells_keeps _ _ b o (Heap.get?_push_of_some _ e))
  have noA : ∀ b : Addr, b ∉ (ncxG CX P w K mg base N F f A outer s H E).ex := fun b z => absurd (show b ∈ ([] : List Addr) from z) (by simp)
  have cellK : ∀ {c : Addr} {v : Option Value}, s.heap.IsCell c v → h₁.IsCell c v := fun {c v} ⟨o, ho, hd⟩ => ⟨o, kp _ _ ho, hd⟩
  -- its own cells
  have own := cellsFrom_ok F.scope.names (s.heap.push { cls := .type "frame", data := .dict #[] }) (s.heap.objs.size + 1) [] ⟨fun _ _ hm => (nomatch hm), List.Pairwise.nil⟩ (by rw [Heap.size_push]; exact Nat.le_refl _)
  rw [Heap.size_push] at own
  have cap : ∀ {y c}, F.cl.lookup y = some c → c < s.heap.objs.size := fun {y c} e => by
    obtain ⟨v, o, ho, _⟩ := (C.all y c e).2
    exact Heap.lt_size ho
  have ownAt : ∀ {y c}, (y, c) ∈ cellsFrom (s.heap.objs.size + 1) F.scope.names [] → h₁.IsCell c none ∧ s.heap.objs.size < c := fun {y c} hm => by
    obtain ⟨e1, e2⟩ := own.empty y c hm
    exact ⟨e1.sameBut hsb (Nat.ne_of_gt e2), e2⟩
  refine ⟨⟨e0.mod, S.kind, rfl, rfl, Nat.le_refl _, fun x y c h1 h2 => ?_, fun y hy => ?_, fun y c z hcl => ?_, fun _ => hd, Around.frames_deeper e0.frames, .inr ⟨rfl, rfl⟩, fun b z => absurd z (noA b), e0.bs, e0.bsz, fun b _ _ => noA b,
      fun b z => absurd z (noA b), e0.funs, e0.frf⟩,
    rfl, e0.bare, Un.kept kp, ⟨_, hns, fun i y v e1 e2 e3 => ?_⟩, fun y c e => ?_, e0.hok.fresh (Nat.le_refl _), fun y c e => ?_, fun q hq => absurd (show q ∈ ([] : List (Addr × Obj)) ++ [] from hq) (by simp), e0.hok.kept kp, ?_⟩
  · rcases cellsFrom_split _ _ _ _ _ h1 with ⟨a1, a2, a3⟩ | a1 <;> rcases cellsFrom_split _ _ _ _ _ h2 with ⟨b1, b2, b3⟩ | b1
    · exact name_of_addr own.apart a3 b3
    · exact absurd (Nat.lt_of_lt_of_le (cap b1) (Nat.le_of_succ_le a1)) (Nat.lt_irrefl _)
    · exact absurd (Nat.lt_of_lt_of_le (cap a1) (Nat.le_of_succ_le b1)) (Nat.lt_irrefl _)
    · exact C.inj _ _ _ a1 b1
  · have hy : F.scope.names.lookup y = some .cell ∨ F.scope.names.lookup y = some .free := hy
    rcases hy with hy | hy
    · have q := PySem.W.cellsFrom_some F.scope.names (s.heap.objs.size + 1) F.cl (.inl hy)
      exact Option.isSome_iff_exists.mp q
    · have hf := S.free _ (PySem.mem_of_lookup hy) rfl
      obtain ⟨i, hi⟩ := List.mem_iff_getElem?.mp hf
      obtain ⟨c, hc, _⟩ := C.has i y hi
      exact ⟨c, cellsFrom_acc _ _ _ _ _ hc (S.nocell y hf)⟩
  · have z2 := isCellB_eq (show isCellB (F.scope.names.lookup y) = true from z)
    exact Nat.le_of_succ_le (cellsFrom_lo _ _ _ _ _ (PySem.mem_of_lookup z2) hcl)
  · have e1 : N[i]? = some y := e1
    have clen := C.len
    unfold startF at e2
    by_cases h1 : i < ps.length
    · have hq : (ps ++ fr)[i]? = some y := by
        rw [← S.pre, List.getElem?_take_of_lt (by omega)]
        exact e1
      rw [List.getElem?_append_left h1] at hq
      rw [List.getElem?_append_left (by rw [List.length_map]; omega), List.getElem?_map] at e2
      have ha : vs[i]? = some v := by
        cases e : vs[i]? with
        | none => rw [e] at e2; cases e2
        | some a => rw [e] at e2; cases e2; rfl
      obtain ⟨u, hu, rv⟩ := r.get ha
      have ndP : ps.Nodup := by
        have q := S.nd.sublist (List.take_sublist (ps.length + fr.length) N)
        rw [S.pre] at q
        exact (List.nodup_append.mp q).1
      exact ⟨u, rv, .inl ⟨S.par y (List.mem_of_getElem? hq), zip_look ndP hq hu⟩⟩
    · rw [List.getElem?_append_right (by rw [List.length_map]; omega), List.length_map] at e2
      by_cases h2 : i < ps.length + fr.length
      · have hq : (ps ++ fr)[i]? = some y := by
          rw [← S.pre, List.getElem?_take_of_lt (by omega)]
          exact e1
        rw [List.getElem?_append_right (by omega)] at hq
        rw [List.getElem?_append_left (by omega), hl] at e2
        obtain ⟨c, hc, hv⟩ := C.has (i - ps.length) y hq
        obtain ⟨u, ru, hu⟩ := hv v e2
        have hfr := List.mem_of_getElem? hq
        exact ⟨u, ru, .inr ⟨.inr (S.frk y hfr), c, cellsFrom_acc _ _ _ _ _ hc (S.nocell y hfr), cellK hu⟩⟩
      · rw [List.getElem?_append_right (by omega), List.getElem?_replicate] at e2
        split at e2 <;> cases e2
  · rcases cellsFrom_split _ _ _ _ _ e with ⟨a1, a2, a3⟩ | a1
    · exact ⟨_, (ownAt a3).1⟩
    · obtain ⟨v, z⟩ := (C.all y c a1).2
      exact ⟨v, cellK z⟩
  · rcases cellsFrom_split _ _ _ _ _ e with ⟨a1, a2, a3⟩ | a1
    · exact e0.hok.fresh (Nat.le_of_lt (ownAt a3).2)
    · exact (C.all y c a1).1
  · have clen := C.len
    unfold startF
    show _ = N.length
    rw [List.length_append, List.length_append, List.length_map, List.length_replicate]
    omega
end
section
variable {CX : CXT} {P : Program} {w : World} {K : PySem.W.Frag} {mg : Str → Option Value} {base : Heap} {N ps fr : List Str} {F : NdefX.NF} {f : Addr} {k j : Nat} {sp sp' : List (Option V) → Sp}
theorem nok_ofG (S : NScC N ps fr F.scope) (hb : ∀ (doc pm ctv : Value) (us : List Value), us.length = ps.length → bindArgs (F.fd doc pm ctv) ⟨us, []⟩ = pure (ps.zip us)) (len : ∀ ws vs H Q E, sp ws vs H Q E → vs.length = ps.length)
    (hbody : ∀ (A : Around) (outer : List Env) (s : Shared) (H : Hp) (vs : List V) (ws : List (Option V)) (Q : VK) (E : XK), Room k (A.deeper (envG F f s.heap.objs.size)) → H f = some (FnO f F) → H F.c = some (CodeO F.c F.qual) → ws.length = fr.length → sp ws vs H Q E →
      ∃ t, PSs (ncxG CX P w K mg base N F f A outer s H E) F.body t ∧ t { nx := fun _ H' => Q .non H', rt := Q } (startF N vs ws) H) :
    NOk P w K mg base CX (k + 1) f F ps fr sp := by
  refine ⟨len, fun A outer s H us vs ws Q E hr e0 hf hc C r hsp => ?_⟩
  have hl := len _ _ _ _ _ hsp
  have lim : s.heap.NoLimit := e0.mod.nolimit.keeps fun b o e => (e0.bs b o e).1
  obtain ⟨od, sl, doc, pm, ctv, ho⟩ := fnO_at e0.hok hf
  refine codeAny_call_function hr.depth ho rfl S.co S.gen rfl (codeO_at e0.hok hc) ?_
  rw [hb doc pm ctv us (r.length.symm.trans hl)]
  refine wpAny_pure (newEnv_clo S.kind (fun ⟨n, _⟩ hy => S.par n (List.of_mem_zip hy).1) fun h₁ hns hsb => ⟨?_, ?_⟩)
  · exact lim.keeps fun b o e => hsb.extBut b o (Nat.ne_of_lt (Heap.lt_size e)) (pushCells_keeps _ _ b o (Heap.get?_push_of_some _ e))
  show codeAny _ _ (.func F.body (envG F f s.heap.objs.size)) _ _
  refine codeAny_func ?_
  obtain ⟨t, ht, hq⟩ := hbody A outer s H vs ws Q E (hr.deeper _) hf hc C.len hsp
  have I : Inv (ncxG CX P w K mg base N F f A outer s H E) [] (startF N vs ws) H { s with heap := h₁, toks := s.toks + (ps.zip us).length } := inv_startG S hr.hd e0 hl r C hns hsb
  refine wpAny_mono (ht.run [] _ (startF N vs ws) H _ I hq) (fun fl s' hs => ?_) fun e s' hs => hs
  have fin : ∀ {σ' : L2.St} {H' : Hp} {v : V} {u : Value}, Inv (ncxG CX P w K mg base N F f A outer s H E) [] σ' H' s' → L2.RelV v u → Q v H' → CE outer P w H s Q u s' :=
    fun {σ' H' v u} J rv q => ⟨v, H', J.os, J.bare, J.base, J.hok, rv, q⟩
  cases fl with
  | ret u =>
    obtain ⟨v, σ', H', J, rv, q⟩ := hs
    exact fin J rv q
  | next =>
    obtain ⟨σ', H', J, q⟩ := hs
    exact fin (v := V.non) (u := Value.none) J rfl q
  | brk =>
    obtain ⟨_, _, _, q⟩ := hs
    exact q.elim
  | cont =>
    obtain ⟨_, _, _, q⟩ := hs
    exact q.elim
end
/-! ### .. over plain values -/
section
variable {P : Program} {w : World} {K : PySem.W.Frag} {mg : Str → Option Value} {base : Heap} {N ps fr : List Str} {F : NdefX.NF} {f : Addr} {k n0 : Nat} {ac : List (Option AV) → AC} {at' : aTS}
theorem nokAG (S : NScC N ps fr F.scope) (hb : ∀ (doc pm ctv : Value) (us : List Value), us.length = ps.length → bindArgs (F.fd doc pm ctv) ⟨us, []⟩ = pure (ps.zip us)) (hlen : ∀ cvs avs A Kc, ac cvs avs A Kc → avs.length = ps.length ∧ A.length = n0)
    (hbody : ∀ (A : Around) (outer : List Env) (s : Shared) (H : Hp) (E : XK), Room k (A.deeper (envG F f s.heap.objs.size)) → ∃ t, PSs (ncxG C8.CX0 P w K mg base N F f A outer s H E).nox F.body t ∧ SimS K n0 at' t)
    (hrun : ∀ cvs avs A Kc, ac cvs avs A Kc → at' (aEnd n0 Kc) (startAF N avs cvs) A) : NOk P w K mg base C8.CX0 (k + 1) f F ps fr (spL K ac) := by
  refine nok_ofG S hb (fun ws vs H Q E ⟨s, avs, cvs, Kc, e1, r, p, g, h, _⟩ => p.length.symm.trans (hlen _ _ _ _ h).1) fun A outer s H vs ws Q E hr hf hc hl hsp => ?_
  obtain ⟨t, pe, sim⟩ := hbody A outer s H E hr
  obtain ⟨s0, avs, cvs, Kc, rfl, r, p, g, h, q⟩ := hsp
  exact ⟨t, pe.nox, body_core r (startF_r p g) (hlen _ _ _ _ h).2 sim (hrun _ _ _ _ h) q⟩
end
end TH
/-! A lambda that hands its argument to a def made in the same frame; sorted by it. -/
namespace TH
open PySem PySem.Spec PyProof.Rows L2 LamX NdefX
variable [TC : TabC]
section
variable {X : Cx} {pins : List (Addr × Obj)} {σ : L2.St} {H : Hp} {s : Shared} {cl : List (Str × Addr)} {fr : List Str} {ws : List (Option V)}
theorem later_any (C : CellsAt cl fr ws X.s_0.heap X.H_0) (hx : ∀ y c, cl.lookup y = some c → c ∉ X.ex) (I : Inv X pins σ H s) : CellsAt cl fr ws s.heap H := by
  have kp : ∀ y c, cl.lookup y = some c → ∀ v, X.s_0.heap.IsCell c v → s.heap.IsCell c v := fun y c e v ⟨o, ho, hd⟩ => by
    obtain ⟨sl, z⟩ := I.base.any ho (C.all y c e).1 (hx y c e)
    exact ⟨_, z, hd⟩
  refine ⟨C.len, fun y c e => ?_, C.inj, fun i y e => ?_⟩
  · obtain ⟨n, v, z⟩ := C.all y c e
    have z0 := z
    obtain ⟨o, ho, _⟩ := z0
    exact ⟨I.base.free c o ho n (hx y c e), v, kp y c e v z⟩
  · obtain ⟨c, hc, hv⟩ := C.has i y e
    refine ⟨c, hc, fun v ev => ?_⟩
    obtain ⟨u, r, z⟩ := hv v ev
    exact ⟨u, r, kp y c hc _ z⟩
end
/-- the call of a function that the maker's frame made -/
def tCallO (f2 : Addr) (F2 : NdefX.NF) (i : Nat) (sp2 : List (Option V) → Sp) (ws2 : List (Option V)) (E : XK) (t : TA) : TE := fun σ H Q => σ[i]? = some (some (.ref f2)) ∧ H f2 = some (FnO f2 F2) ∧ t σ H fun vs H1 => H1 f2 = some (FnO f2 F2) ∧ H1 F2.c = some (CodeO F2.c F2.qual) ∧ sp2 ws2 vs H1 Q E
section
variable {X : Cx} {CX : CXT} {k j i : Nat} {f2 : Addr} {F2 : NdefX.NF} {ps2 fr2 : List Str} {sp2 : List (Option V) → Sp} {ws2 : List (Option V)} {E : XK} {g : Str} {p pos : Pos} {e : Expr} {es : List Expr} {t : TA}
theorem pe_callO (N2 : NOk X.prog X.w X.K X.mg X.base CX k f2 F2 ps2 fr2 sp2) (hr : Room j X.A) (hk : k ≤ j) (hx : Passes CX X E) (C0 : CellsAt F2.cl fr2 ws2 X.s_0.heap X.H_0) (hex : X.ex = []) (hN : X.N[i]? = some g) (hv : Vis X.env.scope g) (ha : PA X (e :: es) t)
    (hd : (g == ("__debug__" : Str)) = false) (hcd : (g == ("__classdict__" : Str)) = false)
    (he : starEach (e :: es) X.env = (false, eval e X.env) :: starEach es X.env := by rfl) (hpl : (backTo pos (starEach es X.env)).any (·.1) = false := by rfl) :
    PE X (.Call (.Name g p) (e :: es) [] pos) (tCallO f2 F2 i sp2 ws2 E t) := by
  refine ⟨fun pins s σ H Q I ⟨hs, hf, ht⟩ => ?_⟩
  refine wpAny_Call_Name_kw (thn ((pe_var (pos := p) hN hv hd hcd).run pins s σ H (fun v H1 => v = .ref f2 ∧ H1 = H) I ⟨.ref f2, hs, rfl, rfl⟩) fun u s1 ⟨v, H1, I1, r1, ev, eH⟩ => ?_)
  subst ev
  rw [eH] at I1
  obtain rfl : u = Value.ref f2 := r1
  refine PySem.W.callWith_F (first := []) (fnAt_of I1 hf) (thn (ha.run pos pins s1 σ H _ I1 ht) fun us s2 ⟨vs, H2, J, r, h1, h2, q⟩ => ⟨fnAt_of J h1, ?_⟩) he hpl
  have C2 := later_any C0 (fun y c _ z => by rw [hex] at z; cases z) J
  show wpAny _ _ (call (.ref f2) us) _ _ _
  refine wpAny_call (codeAny_mono (N2.run X.A X.stack s2 H2 us vs ws2 Q E (hr.mono hk) J.env0 h1 h2 C2 r q) fun r s' hq => ?_)
  cases r with
  | error e => exact hx pins σ H2 s2 e s' J hq
  | ok fl =>
    cases fl with
    | ret u => exact J.after hq
    | next => exact False.elim hq
    | brk => exact False.elim hq
    | cont => exact False.elim hq
end
/-- a lambda of this frame called, which hands its argument to a def of this frame -/
def fcLamO (mk : Addr → NdefX.NF) (e : Expr) (jg : Nat) (mk2 : Addr → NdefX.NF) (js2 : List Nat) (sp2 : List (Option V) → Sp) (E : XK) : L2.St → Addr → V → Hp → VK → Prop := fun σ q x H Q => ∃ c', H q = some (LamO q (mk c') e) ∧ H (mk c').c = some (CodeO (mk c').c (mk c').qual) ∧
  (∃ f2 c2, slotAt σ jg = some (.ref f2) ∧ H f2 = some (FnO f2 (mk2 c2)) ∧ H (mk2 c2).c = some (CodeO (mk2 c2).c (mk2 c2).qual)) ∧ sp2 (js2.map (slotAt σ)) [x] H Q E
theorem call_lamO {X : Cx} {k j jg : Nat} {mk mk2 : Addr → NdefX.NF} {cl cl2 : List (Str × Addr)} {x g : Str} {ps2 fr2 : List Str} {js2 : List Nat} {sp2 : List (Option V) → Sp} {p p2 pos : Pos} {sc : Scope} {pa : Arguments}
    (hsc : ∀ c', (mk c').scope = sc) (S : NScope [x, g] [x] [g] sc) (hb : ∀ (c' : Addr) (pm ctv : Value) (us : List Value), us.length = 1 → bindArgs (PySem.W.kla_fn (mk c').name (mk c').qual (mk c').params (.Call (.Name g p) [.Name x p2] [] pos) (mk c').scope (mk c').cl pm (.ref (mk c').c) ctv) ⟨us, []⟩ = pure ([x].zip us))
    (N2 : ∀ f c', NOk X.prog X.w X.K X.mg X.base C8.CX0 k f (mk2 c') ps2 fr2 sp2) (hcl : ∀ c', (mk c').cl = cl) (cp : X.Ok → Caps X cl [g] [jg]) (hcl2 : ∀ c', (mk2 c').cl = cl2) (cp2 : X.Ok → Caps X cl2 fr2 js2) (hr : Room j X.A) (hk : k + 2 ≤ j)
    (hdx : (x == ("__debug__" : Str)) = false := by decide) (hcx : (x == ("__classdict__" : Str)) = false := by decide) (hdg : (g == ("__debug__" : Str)) = false := by decide) (hcg : (g == ("__classdict__" : Str)) = false := by decide)
    (pins : List (Addr × Obj)) (σ : L2.St) (q : Addr) (s : Shared) (H : Hp) (v : V) (u : Value) (Q : VK) (I : Inv X pins σ H s) (r : L2.RelV v u) (h : fcLamO mk (.Call (.Name g p) [.Name x p2] [] pos) jg mk2 js2 sp2 C8.E0 σ q v H Q) : wpAny (model X.prog X.w) X.A.in1.in1 (call (.ref q) [u]) (EP X pins σ Q) (fun _ _ => False) s := by
  obtain ⟨c', h1, h2, ⟨f2, c2, hs, h3, h4⟩, h5⟩ := h
  have hr2 : Room (k + 1) X.A.in1.in1 := ⟨hr.hd, by have := hr.dp; show X.A.depth + 3 * (k + 1) + 5 < _; omega, by have := hr.un; show X.A.units + 1 + 1 + 16 * (k + 1) + 200 < _; omega⟩
  have e0 := I.env0
  have e1 : Env0 X.prog X.w X.K X.mg X.base X.A.in1.in1 X.stack s H := ⟨e0.frames, e0.mod, e0.bs, e0.bsz, e0.funs, e0.frf, e0.hok, e0.bare⟩
  have C1 : CellsAt (mk c').cl [g] ([jg].map (slotAt σ)) s.heap H := by rw [hcl c']; exact cells_of I (cp I.ok)
  have C2 : CellsAt (mk2 c2).cl fr2 (js2.map (slotAt σ)) s.heap H := by rw [hcl2 c2]; exact cells_of I (cp2 I.ok)
  have run : codeAny (model X.prog X.w) X.A.in1.in1 (.call (.ref q) ⟨[u], []⟩) (CR C8.CX0 X.stack X.prog X.w H s Q C8.E0) s := by
    have lim : s.heap.NoLimit := e1.mod.nolimit.keeps fun b o z => (e1.bs b o z).1
    have S' : NScope [x, g] [x] [g] (mk c').scope := by rw [hsc]; exact S
    obtain ⟨od, sl, pm, ctv, ho⟩ := lamO_at e1.hok h1
    refine PySem.W.kla_callFunE hr2.depth ho rfl S'.co S'.gen rfl (codeO_at e1.hok h2) ?_
    rw [hb c' pm ctv [u] rfl]
    refine wpAny_pure (wpAny_newFunctionEnv S'.nocell (fun ⟨y, _⟩ my => S'.par y (List.of_mem_zip my).1) (fun h₁ hns hsb => ⟨lim.fresh _ hsb, ?_⟩) S'.kind)
    have kp : ∀ b o, s.heap.get? b = some o → h₁.get? b = some o := fun b o z => hsb.extBut b o (Nat.ne_of_lt (Heap.lt_size z)) (Heap.get?_push_of_some _ z)
    have J := inv_startN (E := C8.E0) (CX := C8.CX0) (f := q) (vs := [v]) (tk := s.toks + ([x].zip [u]).length) S' hr2.hd e1 rfl (.cons r .nil) C1 hns kp
    have pe : PE (ncx C8.CX0 X.prog X.w X.K X.mg X.base [x, g] (mk c') q X.A.in1.in1 X.stack s H C8.E0) (.Call (.Name g p) [.Name x p2] [] pos) (tCallO f2 (mk2 c2) 1 sp2 (js2.map (slotAt σ)) C8.E0 (tCons (tVar 0) tNil)) :=
      pe_callO (X := ncx C8.CX0 X.prog X.w X.K X.mg X.base [x, g] (mk c') q X.A.in1.in1 X.stack s H C8.E0) (j := k) (N2 f2 c2) (hr2.deeper _) (Nat.le_refl k) C8.pass0 C2 rfl rfl (.inr (.inr (by show (mk c').scope.names.lookup g = _; exact S'.frk g (by simp)))) (pa_cons (pe_var rfl (.inl (by show (mk c').scope.names.lookup x = _; exact S'.par x (by simp))) hdx hcx) pa_nil (star_Name _ _)) hdg hcg
    have st : slotAt σ jg = some (.ref f2) := hs
    refine PySem.W.kla_codeExpr (wpAny_mono (pe.run [] _ (startF [x, g] [v] ([jg].map (slotAt σ))) H Q J ⟨?_, h3, ?_⟩) (fun w s' ⟨v', H', J', rv, q⟩ => ⟨v', H', J'.os, J'.bare, J'.base, J'.hok, rv, q⟩) fun _ _ z => z)
    · show ([some v] ++ ([slotAt σ jg] ++ _))[1]? = _
      rw [st]
      rfl
    · exact ⟨v, rfl, h3, h4, h5⟩
  refine wpAny_call (codeAny_mono run fun r s' hq => ?_)
  cases r with
  | error e => exact (show False from hq).elim
  | ok fl =>
    cases fl with
    | ret v => exact I.after hq
    | next => exact False.elim hq
    | brk => exact False.elim hq
    | cont => exact False.elim hq
/-! ### .. over plain values -/
/-- .. sorted by a def of this frame, held at jg, which a lambda calls -/
def aSortO (r2 : Rl) (jg : Nat) (ac : List (Option AV) → AC) (js : List Nat) (r : aTA) : aTN := fun sa A k => r sa A fun avs A1 => ∃ x xs, avs = [x] ∧ viewL A1 x = some xs ∧ xs.length ≤ 100000 ∧ slotAv sa jg = some (.pv (.rel r2)) ∧ (∀ j ∈ js, ∃ p, slotAv sa j = some (.pv p)) ∧
  ∃ (ke : PV → PV) (kd : PV → PyData), (∀ p ∈ xs, ac (js.map (slotAv sa)) [.pv p] [] fun rv _ => rv = .pv (ke p)) ∧ (∀ p ∈ xs, (ke p).dat = some (kd p)) ∧ PySem.W.AllAlike (xs.map kd) ∧ PySem.W.Sortable (xs.map kd) ∧ (∀ p ∈ xs, (kd p).depth ≤ 20) ∧ k (.lst (xs.mergeSort (PySem.W.dataLe false kd))) A1
section
variable {K : PySem.W.Frag} {m : Bool} {r : aTA} {t : TA} {P : Addr} {pos : Pos} {q q2 : Str} {mkF mk2 : Addr → NdefX.NF} {body : Expr} {js : List Nat} {jg : Nat} {ac : List (Option AV) → AC} {E : XK}
theorem sim_sortO (hc : ∀ c, (mkF c).c = c) (hq : ∀ c, (mkF c).qual = q) (hc2 : ∀ c, (mk2 c).c = c) (hq2 : ∀ c, (mk2 c).qual = q2) (hx2 : ∀ f c, IsX (FnO f (mk2 c))) (hP : P ∈ TC.T) (hn : TC.nm pos.line pos.col = q) (ha : SimA K m r t) :
    SimN K m (aSortO (rFn q2 (fun f c => FnO f (mk2 c)) hx2) jg ac js r) (tSortF K (fcLamO mkF body jg mk2 js (spL K ac) E) t (tCons (tMk P pos q fun f c => LamO f (mkF c) body) tNil)) := fun {B s sa σ} rp g {Kc Q} q' h =>
  ha rp g (fun avs vs s1 e1 ps k => by
    obtain ⟨x, xs, rfl, hv, hl, hsl, hcv, ke, kd, k1, k2, k3, k4, k5, k6⟩ := k
    obtain ⟨v2, hv2, f2, c2, ev2, gf2, gc2⟩ : ∃ v, slotAt σ jg = some v ∧ (rFn q2 (fun f c => FnO f (mk2 c)) hx2).P s.G v := by
      have hs : sa[jg]? = some (some (.pv (.rel (rFn q2 (fun f c => FnO f (mk2 c)) hx2)))) := by
        unfold slotAv at hsl
        split at hsl
        · rename_i o e; rw [e, hsl]
        · cases hsl
      obtain ⟨v, h1, h2⟩ := g.at' jg _ hs
      exact ⟨v, slotAt_of h1, h2⟩
    subst ev2
    cases ps with
    | cons px ps =>
      cases ps
      refine mk_ok e1.rep.le (e1.rep.tabs P hP) hn (fun f c G2 H2 M => ?_) σ
      have st := Stp.of (m := true) e1.rep (M.gr (W := []))
      obtain ⟨b, vs, rfl, hb, al⟩ := viewL_ok st.rep (px.stp st) hv
      have hlen : vs.length = xs.length := by rw [← al.length, rPs_len]
      refine ⟨.ref b, f, rfl, rfl, b, vs, rfl, .of hb, by rw [hlen]; exact hl, fun a kS na nk ne => ?_⟩
      have na : H2 a = none := na
      have nk : H2 kS = none := nk
      refine ⟨fun j ks Hj => ∃ Gj, Gr [] G2 H2 Gj Hj ∧ Gj a = none ∧ Gj kS = none ∧ (∃ oa, Hj a = some oa ∧ IsX oa) ∧ (∃ ok, Hj kS = some ok ∧ IsX ok) ∧ Al Gj (rPs K ((xs.take j).map ke)) ks, fun oa ok xa xk => ?_, fun j y ks Hj hy hj => ?_, fun ks Hn hj => ?_⟩
      · have g1 : Gr [] G2 H2 G2 (upd H2 a oa) := Gr.own st.rep.le na
        have nk2 : (upd H2 a oa) kS = none := by rw [upd_ne ne.symm]; exact nk
        exact ⟨G2, g1.trans (Gr.own g1.gh nk2), st.rep.le.free na, st.rep.le.free nk, ⟨oa, by rw [upd_ne ne, upd_same], xa⟩, ⟨ok, upd_same, xk⟩, .nil⟩
      · obtain ⟨Gj, gr, ga, gk, ⟨oa, ha1, xa⟩, ⟨ok, hk1, xk⟩, hks⟩ := hj
        have jl : j < vs.length := (List.getElem?_eq_some_iff.mp hy).1
        have jx : j < xs.length := by omega
        have rj : Rep K B { s1 with G := Gj, H := Hj } := st.rep.pure gr
        have py : (rPV K xs[j]).P Gj y := (rPV K xs[j]).mono gr.gg (al_mem al (xs[j], y) (by
          have : (xs.zip vs)[j]? = some (xs[j], y) := by rw [List.getElem?_zip_eq_some]; exact ⟨by simp [jx], hy⟩
          exact List.mem_of_getElem? this))
        have le2 : Le s.G Hj := e1.le.trans (st.le.trans (gr.gg.trans gr.gh))
        refine ⟨c, gr.gh.at (gr.gg.at M.fG lamO_x.nf lamO_x.nd) lamO_x.nf lamO_x.nd, ?_, ⟨f2, c2, hv2, le2.at gf2 (hx2 f2 c2).nf (hx2 f2 c2).nd, by rw [hc2 c2, hq2 c2]; exact le2.at gc2 code_nf code_nd⟩, ?_⟩
        · rw [hc c, hq c]
          exact gr.gh.at (gr.gg.at M.cG code_nf code_nd) code_nf code_nd
        · refine ⟨({ s1 with G := Gj, H := Hj } : Cs).none, [.pv xs[j]], js.map (slotAv sa), _, rfl, rj.none, .cons py .nil, slots_r g hcv (s' := ({ s1 with G := Gj, H := Hj } : Cs).none) (e1.le.trans (st.le.trans gr.gg)), k1 xs[j] (List.getElem_mem jx), fun rv v s' r' hA hr hkk => ?_⟩
          subst hkk
          have g2 : Gr [] Gj Hj s'.G s'.H := r'.gr0
          have hv' : (rPV K (ke xs[j])).P s'.G v := hr
          refine ⟨(g2.hhN a oa ha1 (fun z => nomatch z) (fun qs z => by obtain ⟨φ, rfl⟩ := xa; cases z)).trans ha1.symm, (g2.hhN kS ok hk1 (fun z => nomatch z) (fun qs z => by obtain ⟨φ, rfl⟩ := xk; cases z)).trans hk1.symm, fun ok' xk' => ?_⟩
          have g3 := gr.trans g2
          have ga' : s'.G a = none := g2.gnone (by rw [ha1]; exact fun z => nomatch z) ga
          have gk' : s'.G kS = none := g2.gnone (by rw [hk1]; exact fun z => nomatch z) gk
          refine ⟨s'.G, g3.put nk gk', ga', gk', ⟨oa, ?_, xa⟩, ⟨ok', upd_same, xk'⟩, ?_⟩
          · rw [upd_ne ne]
            exact g2.hhN a oa ha1 (fun z => nomatch z) (fun qs z => by obtain ⟨φ, rfl⟩ := xa; cases z)
          · rw [List.take_add_one, show xs[j]? = some xs[j] by simp [jx], List.map_append, rPs_app]
            exact (hks.mono g2.gg).append (.cons hv' .nil)
      · obtain ⟨Gj, gr, ga, gk, ⟨oa, ha1, xa⟩, ⟨ok, hk1, xk⟩, hks⟩ := hj
        rw [hlen, List.take_length] at hks
        refine ⟨xs.map kd, ?_, k3, k4, fun d hd => ?_, ?_⟩
        · have key : ∀ {ys : List PV} {us : List V}, (∀ p ∈ ys, (ke p).dat = some (kd p)) → Al Gj (rPs K (ys.map ke)) us → Paired (fun v d => Dp K Hn v d) us (ys.map kd) := by
            intro ys
            induction ys with
            | nil => intro us _ h; cases h; exact .nil
            | cons y ys ih =>
              intro us hd h
              cases h with
              | cons h1 h2 => exact .cons (dat_ok h1 (hd y List.mem_cons_self) gr.gh) (ih (fun p hp => hd p (List.mem_cons_of_mem _ hp)) h2)
          exact key k2 hks
        · obtain ⟨p, hp, rfl⟩ := List.mem_map.mp hd
          exact k5 p hp
        · have gf : Gr [] G2 H2 Gj (upd (delH Hn kS) a (.lst (srtBy vs (xs.map kd)))) := by
            have off : ∀ {b : Addr} {o : HO}, H2 b = some o → b ≠ a ∧ b ≠ kS := fun {b o} e => ⟨ne_of_none e na, ne_of_none e nk⟩
            refine ⟨gr.gg, fun b o e => ?_, fun b o e n tt => ?_, fun b e => ?_, gr.nw, fun R hR n tt => ?_⟩
            · have n1 : b ≠ a := fun z => by rw [z, ga] at e; cases e
              have n2 : b ≠ kS := fun z => by rw [z, gk] at e; cases e
              rw [upd_ne n1, delH_ne n2]
              exact gr.gh b o e
            · rw [upd_ne (off e).1, delH_ne (off e).2]
              exact gr.hhN b o e n tt
            · obtain ⟨o, e'⟩ := Option.ne_none_iff_exists'.mp e
              rw [upd_ne (off e').1, delH_ne (off e').2]
              exact gr.dm b e
            · have t2 := gr.tb R hR n tt
              exact t2.go (Le.refl _) (by rw [upd_ne (tt.ne na), delH_ne (tt.ne nk)]) t2.1
          have st2 := Stp.of (m := m) st.rep gf
          refine q' (.lst (xs.mergeSort (PySem.W.dataLe false kd))) (.ref a) [a] { s1 with G := Gj, H := upd (delH Hn kS) a (.lst (srtBy vs (xs.map kd))) } (e1.trans (st.weak.trans st2)) ⟨⟨a, _, rfl, rfl, upd_same, srt_al (al.mono gr.gg)⟩, by simp, fun b hb => ?_, fun b hb => ?_, fun b hb i hi z => ?_⟩ k6
          · rw [List.mem_singleton.mp hb]; exact (e1.trans (st.weak (m := m))).back na
          · rw [List.mem_singleton.mp hb]; exact ga
          · rw [List.mem_singleton.mp hb] at z
            exact st.rep.there hi a z na) h
end
end TH
/-! list.index by data, dict of pairs, a, b = value, new thing. -/
namespace TH
open PySem PySem.Spec PyProof.Rows L2
variable [TC : TabC]
section
variable {K : PySem.W.Frag} {m ml : Bool} {a b c e : aTE} {ta tb te tc : TE} {n0 : Nat}
def aIndexD (a e : aTE) : aTE := fun sa A k => a sa A fun x A1 => (∃ xs, viewL A1 x = some xs) ∧ e sa A1 fun y A2 => ∃ (ds : List PyData) (d : PyData) (j : Nat) (z : PyData), viewDat A2 x = some (.list ds) ∧ viewDat A2 y = some d ∧ SeqAt.shaped (.list ds) = true ∧ SeqAt.shaped d = true ∧ ds[j]? = some z ∧ PyData.eqv z d = true ∧
  (∀ (m : Nat) (z' : PyData), m < j → ds[m]? = some z' → PyData.eqv z' d = false) ∧ k (.pv (.v (.int (j : Nat)))) A2
theorem sim_indexD (ha : SimE K m a ta) (he : SimE K true e te) : SimE K m (aIndexD a e) (tBM K "list" (rIndexD K) ta (tCons te tNil)) := fun {B s sa σ} rp gg {Kc Q} q h =>
  ha rp gg (fun x vx s1 e1 px k => by
    obtain ⟨⟨xs, k0⟩, k⟩ := k
    obtain ⟨d0, vs, h1, h2, h3⟩ := viewL_ok e1.rep px k0
    refine ⟨by rw [h1]; exact .inl ⟨rfl, vs, .of h2⟩, he e1.rep (gg.stp e1) (fun y vy s2 e2 py k => ?_) k⟩
    obtain ⟨ds, d, j, z, k1, k2, k3, k4, k5, k6, k7, k8⟩ := k
    refine ⟨d0, vy, d, ds, j, z, h1, rfl, ?_, viewDat_ok e2.rep py k2, k3, k4, k5, k6, k7, q (.pv (.v (.int (j : Nat)))) _ s2 (e1.trans e2.weak) rfl k8⟩
    have := viewDat_ok e2.rep (px.stp e2) k1
    rw [h1] at this
    exact this) h
/-- dict(pairs) -/
def fDictP : aR1N := fun A x k => ∃ kps : List (Key × PV), viewL A x = some (kps.map fun p => .tup [.v (kV p.1), p.2]) ∧ (kps.map (·.1)).Nodup ∧ k (.dK kps)
theorem merge_nd {kvs : List (Key × V)} : ∀ {acc : List (Key × V)}, (kvs.map (·.1)).Nodup → (∀ k ∈ kvs.map (·.1), k ∉ acc.map (·.1)) → mergeK acc kvs = acc ++ kvs := by
  induction kvs with
  | nil => intro acc _ _; show acc = _; rw [List.append_nil]
  | cons p t ih =>
    intro acc hn hd
    obtain ⟨k, v⟩ := p
    rw [List.map_cons, List.nodup_cons] at hn
    have h0 : valV acc k = none := by
      cases e : valV acc k with
      | none => rfl
      | some w => exact absurd (valV_in e) (hd k (by rw [List.map_cons]; exact List.mem_cons_self))
    show mergeK (putK acc k v) t = _
    rw [putK_new v h0, ih hn.2 fun k' hk' => ?_, List.append_assoc]
    · rfl
    · rw [List.map_append]
      intro z
      rcases List.mem_append.mp z with z | z
      · exact hd k' (by rw [List.map_cons]; exact List.mem_cons_of_mem _ hk') z
      · exact hn.1 (show k ∈ t.map (·.1) from (List.mem_singleton.mp z : k' = k) ▸ hk')
theorem uns_dictP : UnCN K fDictP (fun xs H Q => ∃ (a : Addr) (ps : List Addr) (kvs : List (Key × V)), xs = [.ref a] ∧ SqL K H a (ps.map V.ref) ∧ Paired (fun p kv => SqT K H p [kV kv.1, kv.2]) ps kvs ∧ ∀ p, H p = none → Q (.ref p) (upd H p (.dK (mergeK [] kvs)))) := fun {B s x vx} r px {k Q} q h => by
  obtain ⟨kps, h1, hn, h2⟩ := h
  obtain ⟨a, ws, e1, e2, e3⟩ := viewL_ok r px h1
  have key : ∀ {kps : List (Key × PV)} {ws : List V}, Al s.G (rPs K (kps.map fun p => .tup [.v (kV p.1), p.2])) ws → ∃ (ps : List Addr) (kvs : List (Key × V)), ws = ps.map V.ref ∧ Paired (fun p kv => SqT K s.H p [kV kv.1, kv.2]) ps kvs ∧ DAl s.G (rPV.rKvs K kps) kvs := by
    intro kps
    induction kps with
    | nil => intro ws h; cases h; exact ⟨[], [], rfl, .nil, .nil⟩
    | cons p t ih =>
      intro ws h
      obtain ⟨kk, pv⟩ := p
      cases h with
      | cons hp ht =>
        obtain ⟨ps, kvs, z1, z2, z3⟩ := ih ht
        obtain ⟨b, us, y1, y2, y3⟩ := hp
        cases y3 with
        | cons w1 y3 =>
          cases y3 with
          | cons w2 y3 =>
            cases y3
            rename_i v1 v2
            obtain rfl : v1 = kV kk := w1
            exact ⟨b :: ps, (kk, v2) :: kvs, by rw [y1, z1]; rfl, .cons (r.le.seqT y2) z2, .cons ⟨rfl, w2⟩ z3⟩
  obtain ⟨ps, kvs, z1, z2, z3⟩ := key e3
  have hk := dal_keys z3
  refine ⟨a, ps, kvs, by rw [e1], by rw [← z1]; exact .of e2, z2, fun p hp => ?_⟩
  rw [merge_nd (by rw [hk]; exact hn) (fun _ _ z => by cases z)]
  exact q _ _ _ _ _ (newH_dk r hp z3) h2
/-- a, b = value, new thing -/
def aParM (i j : Nat) (a : aTE) (b : aTN) : aTS := fun D sa A => a sa A fun x A1 => match x with
  | .pv p => b sa A1 fun o A2 => D.nx ((sa.set i (some (.pv p))).set j (some (.loc A2.length []))) (A2 ++ [o])
  | _ => False
theorem sim_parM {i j : Nat} {b : aTN} (ha : SimE K false a ta) (hb : SimN K false b tb) : SimS K n0 (aParM i j a b) (tPar i j (tCons ta (tCons tb tNil))) := fun {B s Da D} h0 ed {sa σ} rp gg h =>
  ha rp gg (fun x vx s1 e1 px k => by
    split at k
    · rename_i p
      refine hb e1.rep (gg.stp e1) (fun o v fp s2 e2 n k => ?_) k
      have r3 := e2.rep.push n.is n.nd n.off n.out fun b hb => rp.back (e1.back (n.nw b hb))
      have g3 : Grw s2 { s2 with ι := s2.ι ++ [v], φ := fun i => if i = s2.A.length then fp else s2.φ i, A := s2.A ++ [o] } := ⟨Le.refl _, List.prefix_append _ _⟩
      refine ⟨_, _, rfl, ed.nx { s2 with ι := s2.ι ++ [v], φ := fun i => if i = s2.A.length then fp else s2.φ i, A := s2.A ++ [o] } _ _ r3 (e1.grw.trans (e2.grw.trans g3)) (((((gg.stp e1).stp e2).grw g3).set i (a := .pv p) ((rPV K p).mono e2.le px)).set j (a := .loc s2.A.length []) ?_) k⟩
      show (s2.ι ++ [v])[s2.A.length]? = some v
      rw [← e2.rep.len, List.getElem?_append_right (Nat.le_refl _), Nat.sub_self]
      rfl
    · exact k.elim) h
end
end TH
/-! Texts: split, count, str(i), int(x); first, *rest = a list; None in a tuple; a, b = two new things. -/
namespace TH
open PySem PySem.Spec PyProof.Rows L2
variable [TC : TabC]
/-! ### first, *rest = list -/
theorem obj_there {P : Program} {w : World} {H : Hp} {h : Heap} {a : Addr} {o : HO} (x : ObjOk P w H h a o) : ∃ u, h.get? a = some u := by
  cases o with
  | lst _ => obtain ⟨_, _, _, _, z⟩ := x; exact ⟨_, z⟩
  | tup _ => obtain ⟨_, _, _, _, z, _⟩ := x; exact ⟨_, z⟩
  | dK _ => obtain ⟨_, _, _, _, _, _, _, z, _⟩ := x; exact ⟨_, z⟩
  | dT _ => obtain ⟨_, _, _, _, _, _, _, z, _⟩ := x; exact ⟨_, z⟩
  | set _ _ => obtain ⟨_, _, _, _, z, _⟩ := x; exact ⟨_, z⟩
  | ins _ _ _ => obtain ⟨_, _, _, z, _⟩ := x; exact ⟨_, z⟩
  | own _ => exact x
  | xd _ => obtain ⟨_, ⟨_, _, _, z, _⟩, _⟩ := x; exact ⟨_, z⟩
  | rng _ _ => obtain ⟨_, _, _, z⟩ := x; exact ⟨_, z⟩
  | frz _ _ => exact ⟨_, x.1⟩
  | tbl _ => exact ⟨_, x⟩
  | met _ _ => exact ⟨_, x⟩
  | ext _ => exact x.2.1
section
open PySem.W
variable {prog : Program} {w : World} {A : Around} {E : Value → Shared → Prop} {s : Shared}
theorem star_items {l : Addr} {its : Array Value} {v0 : Value} {Q : List Value → Shared → Prop} (calm : A.handled = none) (at_ : s.heap.IsList l its) (e0 : its.toList[0]? = some v0) (small : its.size ≤ sizeLine)
    (q : ∀ (D : Addr) (h2 : Heap) (tk : Nat), s.heap.get? D = none → (∀ b o, s.heap.get? b = some o → h2.get? b = some o) → h2.get? D = some { cls := .type "list", data := .seq (its.toList.drop 1).toArray } → Q [v0, .ref D] { s with heap := h2, toks := tk }) :
    wpAny (model prog w) A (unpackItems (.ref l) 2 (some 1)) Q E s := by
  have big : 1 ≤ its.size := by
    rw [← Array.length_toList]
    exact Nat.lt_of_lt_of_le Nat.zero_lt_one (List.getElem?_eq_some_iff.mp e0).1
  have lt0 : l < s.heap.objs.size := by
    obtain ⟨o, ho, -⟩ := at_
    exact Heap.lt_size ho
  have off : l ≠ s.heap.objs.size := Nat.ne_of_lt lt0
  have one : its.toList.take 1 = [v0] := by
    cases e : its.toList with
    | nil => rw [e] at e0; cases e0
    | cons x t => rw [e] at e0; cases e0; rfl
  unfold unpackItems notIterableAtAll
  refine wpAny_bind ?_
  refine wpAny_bind (wpAny_specialOf at_.typeIs slot_list_iter.lookup (wpAny_pure ?_))
  rw [if_neg (by decide)]
  refine wpAny_bind (wpAny_holding (wpAny_pyIter_list at_ ?_))
  refine wpAny_bind (wpAny_holding (kun_draw off 1 0 _ _ ⟨_, Heap.get?_push_size _ rfl, rfl, rfl⟩ (at_.push _) (by omega) fun h1 hit sb => ?_))
  have at1 : h1.IsList l its := (at_.push _).extBut sb.extBut off
  have keep1 : ∀ b o, b ≠ s.heap.objs.size → s.heap.get? b = some o → h1.get? b = some o := fun b o nb e => sb.extBut b o nb (Heap.get?_push_of_some _ e)
  have hit : h1.IsListIter s.heap.objs.size l 1 := hit
  rw [List.drop_zero, one, if_neg (show ¬ ([v0] : List Value).length < 1 from Nat.lt_irrefl 1)]
  have i1 : s.heap.objs.size < h1.objs.size := by
    obtain ⟨o, ho, -⟩ := id hit
    exact Heap.lt_size ho
  have i2 : l < h1.objs.size := by
    obtain ⟨o, ho, -⟩ := id at1
    exact Heap.lt_size ho
  refine wpAny_bind (wpAny_holding (kun_collect (s := { s with heap := h1 }) (T := "list_iterator") (.inr (.inr (.inl rfl))) (Walks.list (A := A.in1) calm s.heap.objs.size l off its) (fun j u st => st.1.typeIs) (k := 1) big ⟨hit, at1⟩ i1 i2 (fun h2 tk k2 => ?_) small))
  have len1 : (its.toList.drop 1).length - (2 - 1 - 1) = (its.toList.drop 1).length := rfl
  show wpAny _ _ (if (its.toList.drop 1).length < 0 then _ else _) _ _ _
  rw [if_neg (Nat.not_lt_zero _)]
  show wpAny _ _ (newList ((its.toList.drop 1).take ((its.toList.drop 1).length - 0)) >>= fun d => pure ([v0] ++ [d] ++ (its.toList.drop 1).drop ((its.toList.drop 1).length - 0))) _ _ _
  rw [Nat.sub_zero, List.take_length, List.drop_length]
  have kept2 : ∀ b o, s.heap.get? b = some o → h2.get? b = some o := fun b o e => k2 b o (Nat.ne_of_lt (Heap.lt_size e)) (keep1 b o (Nat.ne_of_lt (Heap.lt_size e)) e)
  have grown : s.heap.get? h2.objs.size = none := by
    cases e : s.heap.get? h2.objs.size with
    | none => rfl
    | some u => exact absurd (Heap.lt_size (kept2 _ _ e)) (Nat.lt_irrefl _)
  refine wpAny_bind (wpAny_newList (wpAny_pure ?_) (by rw [List.length_drop, Array.length_toList]; exact Nat.le_trans (Nat.sub_le _ _) small))
  exact q _ _ tk grown (fun b o e => Heap.get?_push_of_some _ (kept2 b o e)) (Heap.get?_push_size _ rfl)
end
def gStar (K : PySem.W.Frag) (t : TGs) : TG := fun v σ H Q => ∃ (a : Addr) (x : V) (xs : List V), v = .ref a ∧ SqL K H a (x :: xs) ∧ ∀ p, H p = none → t [x, .ref p] σ (upd H p (.lst xs)) Q
section
variable {X : Cx} {pos p2 : Pos} {e1 e2 : Expr} {t : TGs} {k : Nat}
theorem pg_star (hc : X.calm = true) (h : PGs X [e1, e2] t) (ha : assignEach [e1, .Starred e2 p2] X.env = [(false, assign e1 X.env), (true, assign e2 X.env)] := by rfl)
    (hb : assignEach [e1, e2] X.env = [(false, assign e1 X.env), (false, assign e2 X.env)] := by rfl) : PG X (.Tuple [e1, .Starred e2 p2] k pos) (gStar X.K t) := by
  refine ⟨fun pins s σ H v u Q I r hw => ?_⟩
  obtain ⟨a, x, xs, e1, hq, hw⟩ := hw
  subst e1
  cases r
  obtain ⟨its, rv, pl, hz⟩ := I.list hq
  rw [PyProof.Rows.assign_Tuple]
  refine wpAny_bind (wpAny_standAt ?_)
  unfold unpack
  rw [ha]
  cases rv with
  | cons r0 rt =>
    rename_i v0 vt
    have hz : (v0 :: vt).toArray.size ≤ sizeLine := by
      have e : xs.length = vt.length := rt.length
      rw [List.length_cons] at hz
      rw [List.size_toArray, List.length_cons]
      omega
    refine wpAny_bind (wpAny_holding (star_items (v0 := v0) (I.ok.hd hc) pl.isList (by simp) hz fun D h2 tk hD kp hg => ?_))
    have nD : H D = none := by
      cases e : H D with
      | none => rfl
      | some o =>
        obtain ⟨u, hu⟩ := obj_there (I.hok D o e)
        rw [hD] at hu
        cases hu
    have I1 : Inv X pins σ (upd H D (.lst xs)) { s with heap := h2, toks := tk } := L2.Inv.laidN (t' := tk) I kp hD nD ⟨by
      have e : xs.length = vt.length := rt.length
      have : (v0 :: vt).toArray.size ≤ sizeLine := hz
      rw [List.size_toArray, List.length_cons] at this
      omega, vt, 0, rt, hg⟩
    have run := h.run pins _ σ _ [x, .ref D] [v0, .ref D] Q I1 (.cons r0 (.cons rfl .nil)) (hw D nD)
    rw [hb] at run
    exact run
end
section
variable {K : PySem.W.Frag}
def aGStar (u : aTGs) : aTG := fun x sa A k => ∃ y xs, viewL A x = some (y :: xs) ∧ u [y, .lst xs] sa A k
theorem sim_gstar {vs : List Nat} {u : aTGs} {tu : TGs} (h2 : SimGs K vs u tu) : SimG K vs (aGStar u) (gStar K tu) := fun {B s sa σ av v} r gg px {Ka Q} q h => by
  obtain ⟨y, xs, h1, h3⟩ := h
  obtain ⟨a, ws, e1, e2, e3⟩ := viewL_ok r px h1
  cases e3 with
  | cons p0 pt =>
    rename_i v0 vt
    refine ⟨a, v0, vt, e1, .of e2, fun p hp => ?_⟩
    have st := Stp.of (m := true) r (Gr.new (W := []) r.le hp (o := .lst vt))
    have al : Al (upd s.G p (.lst vt)) (rPs K [y, .lst xs]) [v0, .ref p] := .cons ((rPV K y).mono st.le p0) (.cons ⟨p, vt, rfl, upd_same, Al.mono st.le pt⟩ .nil)
    exact h2 st.rep (gg.stp st) al (fun s' sa' σ' r' g' q' w k => q s' sa' σ' r' (st.grw.trans g') q' w k) h3
end
/-! ### split, count -/
section
variable {K : PySem.W.Frag} {m : Bool} {a b : aTE} {ta tb : TE}
theorem strs_pv {G : Hp} : ∀ xs : List Str, Al G (rPs K (xs.map PV.str)) (xs.map V.str)
  | [] => .nil
  | _ :: t => .cons rfl (strs_pv t)
def aSplit (a b : aTE) : aTN := fun sa A k => a sa A fun x A1 => match x with
  | .pv (.v (.str z)) => b sa A1 fun y A2 => match y with
    | .pv (.v (.str c)) => (c.length == 0) = false ∧ z.length + 2 ≤ sizeLine ∧ k (.lst ((Txt.split z c).map PV.str)) A2
    | _ => False
  | _ => False
theorem sim_split (ha : SimE K m a ta) (hb : SimE K m b tb) : SimN K m (aSplit a b) (tM1 (fun x xs H Q => ∃ a b, x = .str a ∧ xs = [.str b] ∧ (b.length == 0) = false ∧ a.length + 2 ≤ sizeLine ∧ rNewStrs (Txt.split a b) H Q) ta tb) := fun {B s sa σ} rp g {Kc Q} q h =>
  ha rp g (fun x vx s1 e1 px k => by
    split at k
    · rename_i z
      obtain rfl : vx = .str z := px
      refine ⟨⟨z, rfl⟩, hb e1.rep (g.stp e1) (fun y vy s2 e2 py k => ?_) k⟩
      split at k
      · rename_i c
        obtain rfl : vy = .str c := py
        refine ⟨z, c, rfl, rfl, k.1, k.2.1, fun p hp => ?_⟩
        have n := newH_lst e2.rep hp (strs_pv (K := K) (G := s2.G) (Txt.split z c))
        exact q _ _ _ _ (n.at e2.rep (e1.trans e2)).1 (n.at e2.rep (e1.trans e2)).2 k.2.2
      · exact k.elim
    · exact k.elim) h
def aCount (a b : aTE) : aTE := fun sa A k => a sa A fun x A1 => match x with
  | .pv (.v (.str z)) => b sa A1 fun y A2 => match y with
    | .pv (.v (.str c)) => k (.pv (.v (.int (Txt.count z c)))) A2
    | _ => False
  | _ => False
theorem sim_count (ha : SimE K m a ta) (hb : SimE K m b tb) : SimE K m (aCount a b) (tBM K "str" (fun x xs H Q => ∃ a b, x = .str a ∧ xs = [.str b] ∧ Q (.int (Txt.count a b)) H) ta (tCons tb tNil)) := fun {B s sa σ} rp g {Kc Q} q h =>
  ha rp g (fun x vx s1 e1 px k => by
    split at k
    · rename_i z
      obtain rfl : vx = .str z := px
      refine ⟨(show ("str" : String) = "str" from rfl), hb e1.rep (g.stp e1) (fun y vy s2 e2 py k => ?_) k⟩
      split at k
      · rename_i c
        obtain rfl : vy = .str c := py
        exact ⟨z, c, rfl, rfl, q (.pv (.v (.int _))) _ s2 (e1.trans e2) rfl k⟩
      · exact k.elim
    · exact k.elim) h
def fStrI : aR1 := fun _ x k => match x with
  | .pv (.v (.int i)) => i.natAbs.log2 < 1920 ∧ k (.pv (.v (.str (toString i))))
  | _ => False
theorem uns_strI : UnC K fStrI (fun xs H Q => ∃ i : Int, xs = [.int i] ∧ i.natAbs.log2 < 1920 ∧ Q (.str (toString i)) H) := fun {B s x vx} r px {k Q} q h => by
  unfold fStrI at h
  split at h
  · rename_i i
    obtain rfl : vx = .int i := px
    exact ⟨i, rfl, h.1, q (.pv (.v (.str _))) _ _ _ r.g0 rfl h.2⟩
  · exact h.elim
def fIntS : aR1 := fun _ x k => match x with
  | .pv (.v (.str z)) => ∃ n, PySem.intText? z = some n ∧ z.length ≤ 640 ∧ k (.pv (.v (.int n)))
  | _ => False
theorem uns_intS : UnC K fIntS (fun xs H Q => ∃ a n, xs = [.str a] ∧ PySem.intText? a = some n ∧ a.length ≤ 640 ∧ Q (.int n) H) := fun {B s x vx} r px {k Q} q h => by
  unfold fIntS at h
  split at h
  · rename_i z
    obtain rfl : vx = .str z := px
    obtain ⟨n, h1, h2, h3⟩ := h
    exact ⟨z, n, rfl, h1, h2, q (.pv (.v (.int n))) _ _ _ r.g0 rfl h3⟩
  · exact h.elim
end
/-! ### x in a tuple, by data -/
def rInTD (K : PySem.W.Frag) : R2 := fun x y H Q => ∃ d ds, Dp K H x d ∧ Dp K H y (.tuple ds) ∧ SeqAt.shaped d = true ∧ SeqAt.shaped (.tuple ds) = true ∧ Q (.bl (ds.any fun z => PyData.eqv z d)) H
section
variable {X : Cx}
theorem room_inT {d : PyData} {ds : List PyData} (sd : SeqAt.shaped d = true) (hu : X.A.units + 65 < cLine) : X.A.units + 1 + min (PyData.depthAll ds) d.depth < cLine := by
  have h1 := SeqAt.depth_of_shaped sd
  have h2 : min (PyData.depthAll ds) d.depth ≤ d.depth := Nat.min_le_right _ _
  omega
theorem op_inTD (hu : X.A.units + 65 < cLine) : OpR X (compareOp .In) (rInTD X.K) := fun pins s σ H x y v u Q I rx ry ⟨d, ds, hd, he, sd, se, q⟩ => by
  obtain ⟨as, r1⟩ := Dp.reads I d x v hd rx
  obtain ⟨bs, r2⟩ := Dp.reads I (.tuple ds) y u he ry
  exact SeqAt.in_tuple_reads r2 r1 (SeqAt.canLay_of_shaped se) (SeqAt.canLay_of_shaped sd) (room_inT sd hu) ⟨.bl _, H, I, rfl, q⟩
end
section
variable {K : PySem.W.Frag} {m : Bool} {n0 : Nat} {ta tb : TE}
def fInTD : aR2 := fun A x y k => ∃ d ds, viewDat A x = some d ∧ viewDat A y = some (.tuple ds) ∧ SeqAt.shaped d = true ∧ SeqAt.shaped (.tuple ds) = true ∧ k (.pv (.v (.bl (ds.any fun z => PyData.eqv z d))))
theorem ops_inTD : OpS K fInTD (rInTD K) := fun {B s x y vx vy} r px py {k Q} q h => by
  obtain ⟨d, e, h1, h2, h3, h4, h5⟩ := h
  exact ⟨d, e, viewDat_ok r px h1, viewDat_ok r py h2, h3, h4, q (.pv (.v (.bl _))) _ _ _ r.g0 rfl h5⟩
theorem prefix_get {α : Type} {l m : List α} (h : l <+: m) {i : Nat} {x : α} (e : l[i]? = some x) : m[i]? = some x := by
  obtain ⟨t, rfl⟩ := h
  rw [List.getElem?_append_left (List.getElem?_eq_some_iff.mp e).1]
  exact e
/-- a, b = two new things -/
def aParNN (i j : Nat) (a b : aTN) : aTS := fun D sa A => a sa A fun o1 A1 => b sa (A1 ++ [o1]) fun o2 A2 => D.nx ((sa.set i (some (.loc A1.length []))).set j (some (.loc A2.length []))) (A2 ++ [o2])
theorem sim_parNN {i j : Nat} {a b : aTN} (ha : SimN K false a ta) (hb : SimN K false b tb) : SimS K n0 (aParNN i j a b) (tPar i j (tCons ta (tCons tb tNil))) := fun {B s Da D} h0 ed {sa σ} rp gg h =>
  ha rp gg (fun o1 v1 f1 s1 e1 n1 k => by
    let s1' : Cs := { s1 with ι := s1.ι ++ [v1], φ := fun i => if i = s1.A.length then f1 else s1.φ i, A := s1.A ++ [o1] }
    have r1 : Rep K B s1' := e1.rep.push n1.is n1.nd n1.off n1.out fun b hb => rp.back (n1.nw b hb)
    have g1 : Grw s1 s1' := ⟨Le.refl _, List.prefix_append _ _⟩
    have gg1 : SgR K s1' sa σ := (gg.stp e1).grw g1
    have at1 : s1'.ι[s1.A.length]? = some v1 := by
      show (s1.ι ++ [v1])[s1.A.length]? = some v1
      rw [← e1.rep.len, List.getElem?_append_right (Nat.le_refl _), Nat.sub_self]
      rfl
    refine hb r1 gg1 (fun o2 v2 f2 s2 e2 n2 k => ?_) k
    let s2' : Cs := { s2 with ι := s2.ι ++ [v2], φ := fun i => if i = s2.A.length then f2 else s2.φ i, A := s2.A ++ [o2] }
    have r2 : Rep K B s2' := e2.rep.push n2.is n2.nd n2.off n2.out fun b hb => r1.back (n2.nw b hb)
    have g2 : Grw s2 s2' := ⟨Le.refl _, List.prefix_append _ _⟩
    have at2 : s2'.ι[s2.A.length]? = some v2 := by
      show (s2.ι ++ [v2])[s2.A.length]? = some v2
      rw [← e2.rep.len, List.getElem?_append_right (Nat.le_refl _), Nat.sub_self]
      rfl
    have at12 : s2'.ι[s1.A.length]? = some v1 := prefix_get (e2.grw.trans g2).pre at1
    exact ⟨v1, v2, rfl, ed.nx s2' _ _ r2 (e1.grw.trans (g1.trans (e2.grw.trans g2))) ((((gg1.stp e2).grw g2).set i (a := .loc s1.A.length []) at12).set j (a := .loc s2.A.length []) at2) k⟩) h
end
section
variable {K : PySem.W.Frag} {n0 : Nat} {r : aTA} {t : TA}
/-- a, b, c = values -/
def aPar3 (i j l : Nat) (r : aTA) : aTS := fun D sa A => r sa A fun avs A1 => match avs with
  | [.pv p, .pv q, .pv u] => D.nx (((sa.set i (some (.pv p))).set j (some (.pv q))).set l (some (.pv u))) A1
  | _ => False
theorem sim_par3 {i j l : Nat} (hr : SimA K false r t) : SimS K n0 (aPar3 i j l r) (tPar3 i j l t) := fun {B s Da D} h0 ed {sa σ} rp gg h =>
  hr rp gg (fun avs vs s1 e1 ps k => by
    split at k
    · cases ps with
      | cons hp ps =>
        cases ps with
        | cons hq ps =>
          cases ps with
          | cons hu ps =>
            cases ps
            rename_i p q u v1 v2 v3
            have g1 := gg.stp e1
            exact ⟨v1, v2, v3, rfl, ed.nx s1 _ _ e1.rep e1.grw (((g1.set i (a := .pv p) hp).set j (a := .pv q) hq).set l (a := .pv u) hu) k⟩
    · exact k.elim) h
end
end TH
namespace TH
open PySem PySem.Spec PyProof.Rows L2
variable [TC : TabC]
/-- the i-th statement of the text -/
def top (i : Nat) : Stmt := PySem.Challenge.pw_tryhouse_k23_books_written_and_read.main.body.getD i (.Pass ⟨0, 0, 0, 0⟩)
abbrev s__wall : Stmt := top 0
abbrev s_BadBook___init__ : Stmt := inClass (top 3) 0
abbrev s_BadText___init__ : Stmt := inClass (top 4) 0
abbrev s_is_name : Stmt := top 19
abbrev s_are_unlike : Stmt := top 20
abbrev s_Book___init__ : Stmt := inClass (top 21) 0
abbrev s_Book_scope_of : Stmt := inClass (top 21) 1
abbrev s_Book_is_need : Stmt := inClass (top 21) 2
abbrev s_Book_is_try : Stmt := inClass (top 21) 3
abbrev s_Book_closure : Stmt := inClass (top 21) 4
abbrev s_Book_cases_of : Stmt := inClass (top 21) 5
abbrev s_Book_with_way : Stmt := inClass (top 21) 6
abbrev s_Book_told_case : Stmt := inClass (top 21) 7
abbrev s_Book_place_of : Stmt := inClass (top 21) 8
abbrev s_names_told : Stmt := top 25
abbrev s_written : Stmt := top 26
abbrev s_names_in : Stmt := top 27
abbrev s_number_in : Stmt := top 28
abbrev s_need_in : Stmt := top 29
abbrev s_try_in : Stmt := top 30
abbrev s_read : Stmt := top 31
abbrev s__law_mix : Stmt := top 33
abbrev s__law_next : Stmt := top 34
abbrev s__law_alike : Stmt := top 35
abbrev s__law_leads : Stmt := top 36
abbrev s__law_some : Stmt := top 37
abbrev s__law_book : Stmt := top 38
abbrev s__law_names : Stmt := top 39
abbrev s__law_need_text : Stmt := top 40
abbrev s__law_try_text : Stmt := top 41
abbrev s_law : Stmt := top 42
end TH
namespace TH
open PySem PySem.Spec PyProof.Rows L2
variable [TC : TabC]
def letters : Str := "abcdefghijklmnopqrstuvwxyz"
def words3 : List Str := ["and", "or", "not"]
def scopes4 : List Str := ["run", "house", "group", "try"]
/-- whether a word is a name -/
def isName (x : Str) : Bool := (decide ((1 : Int) ≤ x.length) && decide ((x.length : Int) ≤ 8)) && (x.cps.toList.all (fun c => decide (c ∈ letters.cps.toList)) && !decide (x ∈ words3))
def sp_is_name : Sp := spP (ι := Str) (fun x _ _ => x.length ≤ 100000) (fun x => [rStr x]) (fun x => rBl (isName x))
section
variable {P : Program} {w : World} {K : PySem.W.Frag} {mg : Str → Option Value} {base : Heap} {f : Addr} {fd : FuncData}
theorem sc_is_name : FnScope ["word", "sign"] ["word"] (defScope s_is_name) := ⟨rfl, rfl, rfl, by decide +kernel, rfl, by decide +kernel, by decide +kernel⟩
theorem fn_is_name (F : FnP K "is_name" "is_name" s_is_name f fd) (T : Top K mg) : FnOk P w K mg base CX0 1 f fd ["word"] sp_is_name := by
  refine fn_pure F sc_is_name (fun _ => rfl) fun cdv A outer s H E hr => ⟨_, (pss_one (ps_ret (pe_and (pe_chain op_le op_le pe_int (pe_callB (call_len_str) (by rfl) T.z_len PySem.boot_len (pa_cons (pv 0) pa_nil (star_Name _ _))) (C8.pe_gc rfl T.c_MOST_SIGNS)) (pe_and (pe_callB (cr_all rfl) (by rfl) T.z_all (by decide +kernel) (pa_cons (pe_lc (own := [("sign", 1)]) rfl sc_is_name.nd (pi_str (pv 0)) (blkOk_by (own := [("sign", 1)]) (N := ["word", "sign"]) (sc := defScope s_is_name) (by decide +kernel)) (fun _ _ _ _ _ => (pg_name (i := 1) sc_is_name.nd rfl (Or.inl rfl))) (fun _ _ _ _ _ => pts_nil) (fun _ _ _ _ _ => peT (pe_cmpR op_in_sign (pv 1) (C8.pe_gc rfl T.c_LETTERS) rfl) (by (try dsimp only [Cx.blk, Cx.nox, cxOf]) <;> rfl))) pa_nil (star_ListComp _ _ _ _))) (pe_one (pe_cmpR (op_notInK (K := K) rfl) (pv 0) (C8.pe_gc rfl T.c_WORDS) rfl)))))), ?_⟩
  intro x G vs D a pre al hrt hnx
  obtain ⟨v, rfl, hv⟩ := al1 al
  obtain rfl : v = .str x := hv
  have hz : x.length ≤ sizeLine := Nat.le_trans pre (by decide)
  refine s_ret (ev_andV (ev_chain ev_c (ev_lenS (ev_val rfl) hz) ev_c) fun _ => ev_andV (ev_all (EvN.lst (en_map (src_str (ev_val rfl)) (fun c => rBl (decide (c ∈ letters.cps.toList))) (fun _ => rfl) (fun c v G' H' hc g p => ev_sign (ev_var rfl p) ev_c) pre))) fun _ => ?_) a fun v G' H' g p => hrt v G' H' g.gr p
  exact ev_in (neg := true) (ev_val rfl) (ev_top T.t_WORDS).st
end

end TH
namespace TH
open PySem PySem.Spec PyProof.Rows L2
variable [TC : TabC]
/-- whether names are names, none twice -/
def areUnlike (xs : List Str) : Bool := xs.all isName && decide xs.Nodup
def sp_are_unlike (K : PySem.W.Frag) : Sp := spP (ι := List Str) (fun xs _ _ => xs.length < 4000 ∧ ∀ x ∈ xs, x.length ≤ 100000) (fun xs => [rTup K (xs.map rStr)]) (fun xs => rBl (areUnlike xs))
section
variable {P : Program} {w : World} {K : PySem.W.Frag} {mg : Str → Option Value} {base : Heap} {f : Addr} {fd : FuncData}
theorem sc_are_unlike : FnScope ["names", "name"] ["names"] (defScope s_are_unlike) := ⟨rfl, rfl, rfl, by decide +kernel, rfl, by decide +kernel, by decide +kernel⟩
theorem fn_are_unlike (F : FnP K "are_unlike" "are_unlike" s_are_unlike f fd) (T : Top K mg) (c_is_name : C8.Cal P w K mg base 1 "is_name" sp_is_name []) : FnOk P w K mg base CX0 2 f fd ["names"] (sp_are_unlike K) := by
  refine fn_pure F sc_are_unlike (fun _ => rfl) fun cdv A outer s H E hr => ⟨_, (pss_one (ps_ret (pe_and (pe_callB (cr_all rfl) (by rfl) T.z_all (by decide +kernel) (pa_cons (pe_lc (own := [("name", 1)]) rfl sc_are_unlike.nd (pi_tup (pv 0)) (blkOk_by (own := [("name", 1)]) (N := ["names", "name"]) (sc := defScope s_are_unlike) (by decide +kernel)) (fun _ _ _ _ _ => (pg_name (i := 1) sc_are_unlike.nd rfl (Or.inl rfl))) (fun _ _ _ _ _ => pts_nil) (fun _ _ _ _ _ => peT (C8.pe_c c_is_name hr (by first | decide | omega) rfl (pa_cons (pv 1) pa_nil (star_Name _ _)) (he := (star_Name _ _))) (by (try dsimp only [Cx.blk, Cx.nox, cxOf]) <;> rfl))) pa_nil (star_ListComp _ _ _ _))) (pe_one (pe_cmpR op_eq (pe_callB cr_lenSetS (by rfl) T.z_len PySem.boot_len (pa_cons (pe_callTy (cr_setS rfl) (by rfl) T.z_set (by decide +kernel) (pa_cons (pv 0) pa_nil)) pa_nil)) (pe_callB (call_len_seq) (by rfl) T.z_len PySem.boot_len (pa_cons (pv 0) pa_nil (star_Name _ _))) (nomark _)))))), ?_⟩
  intro xs G vs D a ⟨p1, p2⟩ al hrt hnx
  obtain ⟨v, rfl, hv⟩ := al1 al
  have h1 : ∀ {G' H' : Hp}, Go md0 G H G' H' → Ev md0 (tVar 0) (start ["names", "name"] [v]) G' H' (rTup K (xs.map rStr)) := fun g => ev_var rfl (Rl.mono _ g.gg hv)
  refine s_ret (r := rBl (areUnlike xs)) (Ev.of (ev_andV (ev_all (f := isName) (EvN.lst (en_map (src_tup (h1 a.go)) (fun x => rBl (isName x)) (fun _ => rfl) (fun x v G' H' hx g p => ev_call x (ea_cons (ev_var rfl p) ea_nil) fun _ _ _ => p2 x hx) (by omega)))) fun _ => ev_eq (ev_lenSet (h1 a.go).st p1) (ev_len (h1 a.go).st) rfl) ?_) a fun v G' H' g p => hrt v G' H' g.gr p
  have e : decide (V.int ((ddS [] xs).length : Nat) = V.int ((xs.map rStr).length : Nat)) = decide xs.Nodup := by
    rw [List.length_map]
    refine decide_eq_decide.mpr ⟨fun z => (ddS_nodup xs).mp (by injection z; omega), fun z => by rw [(ddS_nodup xs).mpr z]⟩
  rw [e]
  rfl
end

end TH
namespace TH
open PySem PySem.Spec PyProof.Rows L2
variable [TC : TabC]
/-- a need, a try of a book -/
structure Nd where
  nm : Str
  sc : Str
  ot : List Str
  ws : Int
structure Tr where
  nm : Str
  hs : Str
  gp : Str
  nd : List Str
  ms : List Str
  tm : Int
  ex : Bool
def rNd (K : PySem.W.Frag) (n : Nd) : Rl := rTup K [rStr n.nm, rStr n.sc, rTup K (n.ot.map rStr), rInt n.ws]
def rTr (K : PySem.W.Frag) (t : Tr) : Rl := rTup K [rStr t.nm, rStr t.hs, rStr t.gp, rTup K (t.nd.map rStr), rTup K (t.ms.map rStr), rInt t.tm, rBl t.ex]
/-- a need as a book keeps it -/
def rNeed (K : PySem.W.Frag) (i : Nat) (n : Nd) : Rl := rTup K [rInt i, rStr n.sc, rTup K (n.ot.map rStr), rInt n.ws]
def needsR (K : PySem.W.Frag) : Nat → List Nd → List (Key × Rl)
  | _, [] => []
  | i, n :: t => (Sum.inr n.nm, rNeed K i n) :: needsR K (i + 1) t
/-- a dict at an address -/
def rDctAt (d : Addr) (ks : List (Key × Rl)) : Rl := ⟨fun G v => v = .ref d ∧ (rDct ks).P G v, fun e h => ⟨h.1, (rDct ks).mono e h.2⟩⟩
theorem rDctAt_d {d : Addr} {ks : List (Key × Rl)} {G : Hp} {v : V} (h : (rDctAt d ks).P G v) : (rDct ks).P G v := h.2
theorem rDctAt_r {d : Addr} {ks : List (Key × Rl)} {G : Hp} {v : V} (h : (rDctAt d ks).P G v) : (rRef d).P G v := h.1
/-- a Book, its needs at d -/
def rBook (K : PySem.W.Frag) (C d : Addr) (ns : List Nd) (ts : List Tr) : Rl := rIns C [("needs", rDctAt d (needsR K 0 ns)), ("tries", rLsH (ts.map (rTr K)))]
/-- the first need of a name, and its number -/
def findNd (x : Str) : Nat → List Nd → Option (Nat × Nd)
  | _, [] => none
  | i, n :: t => if n.nm = x then some (i, n) else findNd x (i + 1) t
theorem lk_needs (K : PySem.W.Frag) (x : Str) : ∀ (i : Nat) (ns : List Nd), lkD (needsR K i ns) x = (findNd x i ns).map fun p => rNeed K p.1 p.2
  | _, [] => rfl
  | i, n :: t => by
    have ih := lk_needs K x (i + 1) t
    unfold lkD at ih ⊢
    by_cases h : n.nm = x
    · subst h
      simp [needsR, findNd]
    · have h' : ¬ (Sum.inr n.nm : Key) = Sum.inr x := fun z => h (Sum.inr.inj z)
      simp only [needsR, findNd, List.find?_cons, h', decide_false, h, if_false]
      exact ih
theorem findNd_some {x : Str} : ∀ {i : Nat} {ns : List Nd}, x ∈ ns.map Nd.nm → ∃ j n, findNd x i ns = some (j, n) ∧ n ∈ ns ∧ n.nm = x
  | i, n :: t, h => by
    unfold findNd
    by_cases e : n.nm = x
    · exact ⟨i, n, by rw [if_pos e], List.mem_cons_self, e⟩
    · rw [if_neg e]
      obtain ⟨j, m, h1, h2, h3⟩ := findNd_some (i := i + 1) (ns := t) (by
        rcases List.mem_cons.mp h with z | z
        · exact absurd z.symm e
        · exact z)
      exact ⟨j, m, h1, List.mem_cons_of_mem _ h2, h3⟩
theorem findNd_none {x : Str} : ∀ {i : Nat} {ns : List Nd}, x ∉ ns.map Nd.nm → findNd x i ns = none
  | i, [], _ => rfl
  | i, n :: t, h => by
    unfold findNd
    rw [if_neg fun e => h (by rw [← e]; exact List.mem_cons_self), findNd_none fun m => h (List.mem_cons_of_mem _ m)]
theorem findNd_mem {x : Str} : ∀ {i j : Nat} {ns : List Nd} {n : Nd}, findNd x i ns = some (j, n) → n ∈ ns ∧ n.nm = x ∧ i ≤ j ∧ ns[j - i]? = some n
  | i, j, m :: t, n, h => by
    unfold findNd at h
    by_cases e : m.nm = x
    · rw [if_pos e] at h
      cases h
      exact ⟨List.mem_cons_self, e, Nat.le_refl _, by simp⟩
    · rw [if_neg e] at h
      obtain ⟨h1, h2, h3, h4⟩ := findNd_mem h
      refine ⟨List.mem_cons_of_mem _ h1, h2, by omega, ?_⟩
      rw [show j - i = (j - (i + 1)) + 1 by omega]
      exact h4
def scIx (x : Str) : Nat := scopes4.findIdx (· == x)
/-- what a class has that the top made: no attribute hides a field -/
structure TopBook (K : PySem.W.Frag) (mg : Str → Option Value) (C : Addr) : Prop where
  cl : Cls K C
  n_needs : NoAttr K C "needs"
  n_tries : NoAttr K C "tries"
def sp_scope_of (K : PySem.W.Frag) (C : Addr) : Sp := spP (ι := Addr × List Nd × List Tr × Str) (fun i _ _ => i.2.2.2 ∈ i.2.1.map Nd.nm ∧ ∀ n ∈ i.2.1, n.sc ∈ scopes4) (fun i => [rBook K C i.1 i.2.1 i.2.2.1, rStr i.2.2.2])
  (fun i => rInt (scIx ((findNd i.2.2.2 0 i.2.1).elim "" fun p => p.2.sc) : Nat))
section
variable {P : Program} {w : World} {K : PySem.W.Frag} {mg : Str → Option Value} {base : Heap} {f : Addr} {fd : FuncData} {C : Addr}
variable {M : Md} {σ : L2.St} {G H G' H' : Hp} {ta tb te tc : TE}
theorem scIx_get {x : Str} (h : x ∈ scopes4) : scopes4[scIx x]? = some x ∧ ∀ m, m < scIx x → scopes4[m]? ≠ some x := by
  have h' : x = "run" ∨ x = "house" ∨ x = "group" ∨ x = "try" := by
    have := h
    simp only [scopes4, List.mem_cons, List.not_mem_nil, or_false] at this
    exact this
  rcases h' with rfl | rfl | rfl | rfl
  · decide +kernel
  · decide +kernel
  · decide +kernel
  · decide +kernel
/-- SCOPES.index(x) -/
theorem ev_scIx {x : Str} (hb : Ev M tb σ G H (rStr x)) (T : Top K mg) (hx : x ∈ scopes4) :
    Ev M (tBM K "tuple" (fun x xs H Q => ∃ p, ∃ ys : List Str, ∃ z j, x = .ref p ∧ xs = [.str z] ∧ SqT K H p (ys.map V.str) ∧ ys[j]? = some z ∧ (∀ m, m < j → ys[m]? ≠ some z) ∧ Q (.int (j : Nat)) H) (tC (.ref (He.ga K "SCOPES"))) (tCons tb tNil)) σ G H (rInt (scIx x : Nat)) := fun G1 H1 a Q q =>
  ⟨T.y_SCOPES H1, hb G1 H1 a _ fun v G2 H2 b p => ⟨He.ga K "SCOPES", scopes4, x, scIx x, rfl, by rw [show v = .str x from p], T.t_SCOPES H2, (scIx_get hx).1, (scIx_get hx).2, q _ G2 H2 b rfl⟩⟩
theorem ev_needs {ns : List Nd} {ts : List Tr} {d : Addr} (B : TopBook K mg C) (h : Ev M ta σ G H (rBook K C d ns ts)) : Ev M (tFld K ta "needs") σ G H (rDctAt d (needsR K 0 ns)) := ev_fld h rfl B.cl B.n_needs
theorem ev_tries {ns : List Nd} {ts : List Tr} {d : Addr} (B : TopBook K mg C) (h : Ev M ta σ G H (rBook K C d ns ts)) : Ev M (tFld K ta "tries") σ G H (rLst K (ts.map (rTr K))) := Ev.raw (ev_fld h rfl B.cl B.n_tries)
/-- self.needs[name] -/
theorem ev_need {ns : List Nd} {ts : List Tr} {d : Addr} {x : Str} {j : Nat} {n : Nd} (B : TopBook K mg C) (h : Ev M ta σ G H (rBook K C d ns ts)) (hk : Ev M tb σ G H (rStr x)) (hx : findNd x 0 ns = some (j, n)) : Ev M (tDGet (tFld K ta "needs") tb) σ G H (rNeed K j n) :=
  ev_dget ((ev_needs B h).imp fun _ _ => rDctAt_d) hk (by rw [lk_needs, hx]; rfl)
theorem sc_Book_scope_of : FnScope ["self", "name"] ["self", "name"] (defScope s_Book_scope_of) := ⟨rfl, rfl, rfl, by decide +kernel, rfl, by decide +kernel, by decide +kernel⟩
theorem fn_scope_of (F : FnP K "scope_of" "Book.scope_of" s_Book_scope_of f fd) (T : Top K mg) (B : TopBook K mg C) : FnOk P w K mg base CX0 1 f fd ["self", "name"] (sp_scope_of K C) := by
  refine fn_pure F sc_Book_scope_of (fun _ => rfl) fun cdv A outer s H E hr => ⟨_, (pss_one (ps_ret (pe_bm PySem.F.plainAttrs_tuple PySem.F.slot_tuple_index PySem.F.type_tuple_index (mt_tup_index) (C8.pe_gc rfl T.c_SCOPES) (pa_cons (pe_ix ix_tup (pe_dget (hu_of hr) (pe_fldK (K := K) rfl (pv 0) rfl) (pv 1) (fun _ _ => rfl)) pe_int (fun _ _ => rfl)) pa_nil (star_Subscript _ _ _))))), ?_⟩
  rintro ⟨d, ns, ts, x⟩ G vs D a ⟨p1, p2⟩ al hrt hnx
  obtain ⟨v, u, rfl, hv, hu⟩ := al2 al
  obtain ⟨j, n, h1, h2, h3⟩ := findNd_some (i := 0) p1
  refine s_ret (ev_scIx (ev_ixT (ev_need B (ev_var rfl hv) (ev_var rfl hu) h1) ev_c rfl) T (p2 n h2)) a fun v G' H' g p => hrt v G' H' g.gr ?_
  show v = _
  rw [h1]
  exact p
end

end TH
namespace TH
open PySem PySem.Spec PyProof.Rows L2
variable [TC : TabC]
/-! ### what names lead to -/
/-- the needs from the last one on: others of those that are found are found -/
def leadsAcc : List Nd → List Str → List Str
  | [], acc => acc
  | n :: t, acc => leadsAcc t (if n.nm ∈ acc then acc ++ n.ot else acc)
def closureM (ns : List Nd) (names : List Str) : List Str := (ns.map Nd.nm).filter fun x => decide (x ∈ leadsAcc ns.reverse names)
inductive Rch (l : List Nd) (acc : List Str) : Str → Prop
  | base {x : Str} : x ∈ acc → Rch l acc x
  | step {x : Str} {m : Nd} : Rch l acc m.nm → m ∈ l → x ∈ m.ot → Rch l acc x
/-- none of the later needs is an other -/
def RevOk : List Nd → Prop
  | [] => True
  | n :: t => (∀ m ∈ n :: t, n.nm ∉ m.ot) ∧ RevOk t
theorem rch_cons {n : Nd} {t : List Nd} {acc : List Str} (h : ∀ m ∈ n :: t, n.nm ∉ m.ot) {x : Str} : Rch (n :: t) acc x ↔ Rch t (if n.nm ∈ acc then acc ++ n.ot else acc) x := by
  have sub : ∀ y, y ∈ acc → y ∈ (if n.nm ∈ acc then acc ++ n.ot else acc) := fun y hy => by
    split
    · exact List.mem_append_left _ hy
    · exact hy
  constructor
  · intro r
    induction r with
    | base hx => exact .base (sub _ hx)
    | @step x m _ hm hx ih =>
      rcases List.mem_cons.mp hm with e | hm
      · subst e
        have k : ∀ y, Rch t (if m.nm ∈ acc then acc ++ m.ot else acc) y → y = m.nm → m.nm ∈ acc := by
          intro y r e
          cases r with
          | base hy =>
            subst e
            split at hy
            · rename_i q; exact q
            · exact hy
          | step _ hm2 hy =>
            subst e
            exact absurd hy (h _ (List.mem_cons_of_mem _ hm2))
        have q := k _ ih rfl
        exact .base (by rw [if_pos q]; exact List.mem_append_right _ hx)
      · exact .step ih hm hx
  · intro r
    induction r with
    | base hx =>
      split at hx
      · rename_i q
        rcases List.mem_append.mp hx with hx | hx
        · exact .base hx
        · exact .step (.base q) List.mem_cons_self hx
      · exact .base hx
    | step _ hm hx ih => exact .step ih (List.mem_cons_of_mem _ hm) hx
theorem leads_rch : ∀ {l : List Nd} {acc : List Str} {x : Str}, RevOk l → (x ∈ leadsAcc l acc ↔ Rch l acc x)
  | [], acc, x, _ => ⟨.base, fun r => by cases r with | base h => exact h | step _ h _ => cases h⟩
  | n :: t, acc, x, h => by
    rw [rch_cons h.1]
    exact leads_rch h.2
theorem rch_mem {l l' : List Nd} (h : ∀ m, m ∈ l → m ∈ l') {acc : List Str} {x : Str} (r : Rch l acc x) : Rch l' acc x := by
  induction r with
  | base hx => exact .base hx
  | step _ hm hx ih => exact .step ih (h _ hm) hx
/-- names that differ, others ahead -/
def OrdN : List Str → List Nd → Prop
  | _, [] => True
  | seen, n :: t => n.nm ∉ seen ∧ (∀ o ∈ n.ot, o ∈ seen) ∧ OrdN (seen ++ [n.nm]) t
theorem OrdN.fresh : ∀ {seen : List Str} {ns : List Nd}, OrdN seen ns → ∀ n ∈ ns, n.nm ∉ seen
  | seen, n :: t, h, m, hm => by
    rcases List.mem_cons.mp hm with e | hm
    · rw [e]; exact h.1
    · exact fun z => OrdN.fresh h.2.2 m hm (List.mem_append_left _ z)
theorem OrdN.nodup : ∀ {seen : List Str} {ns : List Nd}, OrdN seen ns → (ns.map Nd.nm).Nodup
  | _, [], _ => List.nodup_nil
  | seen, n :: t, h => by
    rw [List.map_cons, List.nodup_cons]
    refine ⟨fun m => ?_, OrdN.nodup h.2.2⟩
    obtain ⟨k, hk, e⟩ := List.mem_map.mp m
    exact OrdN.fresh h.2.2 k hk (by rw [e]; simp)
theorem OrdN.ots : ∀ {seen : List Str} {ns : List Nd}, OrdN seen ns → ∀ n ∈ ns, ∀ o ∈ n.ot, o ∈ seen ∨ o ∈ ns.map Nd.nm
  | seen, n :: t, h, m, hm, o, ho => by
    rcases List.mem_cons.mp hm with e | hm
    · rw [e] at ho; exact .inl (h.2.1 o ho)
    · rcases OrdN.ots h.2.2 m hm o ho with z | z
      · rcases List.mem_append.mp z with z | z
        · exact .inl z
        · rw [List.mem_singleton] at z
          exact .inr (by rw [z]; exact List.mem_cons_self)
      · exact .inr (List.mem_cons_of_mem _ z)
theorem revOk_app : ∀ {l : List Nd} {n : Nd}, RevOk l → (∀ m ∈ l, m.nm ∉ n.ot) → n.nm ∉ n.ot → RevOk (l ++ [n])
  | [], n, _, _, h => ⟨fun m hm => by rw [List.mem_singleton.mp hm]; exact h, trivial⟩
  | k :: t, n, h, h1, h2 => ⟨fun m hm => by
      rcases List.mem_append.mp (show m ∈ (k :: t) ++ [n] from hm) with z | z
      · exact h.1 m z
      · rw [List.mem_singleton.mp z]; exact h1 k List.mem_cons_self, revOk_app h.2 (fun m hm => h1 m (List.mem_cons_of_mem _ hm)) h2⟩
theorem OrdN.rev : ∀ {seen : List Str} {ns : List Nd}, OrdN seen ns → RevOk ns.reverse
  | _, [], _ => trivial
  | seen, n :: t, h => by
    rw [List.reverse_cons]
    exact revOk_app (OrdN.rev h.2.2) (fun m hm z => OrdN.fresh h.2.2 m (List.mem_reverse.mp hm) (List.mem_append_left _ (h.2.1 _ z))) fun z => h.1 (h.2.1 _ z)
theorem closureM_mem {ns : List Nd} {names : List Str} (h : OrdN [] ns) {x : Str} : x ∈ leadsAcc ns.reverse names ↔ Rch ns names x := by
  rw [leads_rch h.rev]
  exact ⟨rch_mem fun m hm => List.mem_reverse.mp hm, rch_mem fun m hm => List.mem_reverse.mpr hm⟩
theorem one_nm : ∀ {ns : List Nd}, (ns.map Nd.nm).Nodup → ∀ {a b : Nd}, a ∈ ns → b ∈ ns → a.nm = b.nm → a = b
  | n :: t, hn, a, b, ha, hb, e => by
    rw [List.map_cons, List.nodup_cons] at hn
    rcases List.mem_cons.mp ha with e1 | ha
    · rcases List.mem_cons.mp hb with e2 | hb
      · rw [e1, e2]
      · exact absurd (by rw [← e1, e]; exact List.mem_map.mpr ⟨b, hb, rfl⟩) hn.1
    · rcases List.mem_cons.mp hb with e2 | hb
      · exact absurd (by rw [← e2, ← e]; exact List.mem_map.mpr ⟨a, ha, rfl⟩) hn.1
      · exact one_nm hn.2 ha hb e
/-- what is found when nothing waits any more is all that is led to -/
theorem found_all {ns : List Nd} {names F : List Str} (h1 : ∀ x ∈ F, Rch ns names x) (h2 : ∀ x ∈ names, x ∈ F) (h3 : ∀ m ∈ ns, m.nm ∈ F → ∀ o ∈ m.ot, o ∈ F) {x : Str} : x ∈ F ↔ Rch ns names x := by
  refine ⟨h1 x, fun r => ?_⟩
  induction r with
  | base hx => exact h2 _ hx
  | step _ hm hx ih => exact h3 _ hm ih _ hx
theorem sub_len : ∀ {l D : List Str}, l.Nodup → (∀ x ∈ l, x ∈ D) → l.length ≤ D.length
  | [], _, _, _ => Nat.zero_le _
  | x :: l, D, hn, hs => by
    obtain ⟨h1, h2⟩ := List.nodup_cons.mp hn
    have hx : x ∈ D := hs x List.mem_cons_self
    have ih := sub_len (l := l) (D := D.erase x) h2 fun y hy => (List.mem_erase_of_ne (show y ≠ x from fun e => h1 (by rw [← e]; exact hy))).2 (hs y (List.mem_cons_of_mem _ hy))
    rw [List.length_erase_of_mem hx] at ih
    have hp : 0 < D.length := List.length_pos_of_mem hx
    rw [List.length_cons]
    omega
/-! ### the walk -/
def trueD (F : List Str) : List (Key × V) := F.map fun x => (Sum.inr x, V.bl true)
theorem valV_true (F : List Str) (x : Str) : (valV (trueD F) (.inr x)).isSome = decide (x ∈ F) := by
  unfold valV trueD
  rw [Option.isSome_map, List.find?_map, Option.isSome_map, Bool.eq_iff_iff, List.find?_isSome, decide_eq_true_iff]
  constructor
  · rintro ⟨y, hy, e⟩
    have e : y = x := by simpa [Function.comp] using e
    exact e ▸ hy
  · intro hx
    exact ⟨x, hx, by simp [Function.comp]⟩
theorem putK_true {F : List Str} {x : Str} (h : x ∉ F) : putK (trueD F) (Sum.inr x) (.bl true) = trueD (F ++ [x]) := by
  have e : valV (trueD F) (Sum.inr x) = none := by
    have := valV_true F x
    rw [decide_eq_false h] at this
    cases q : valV (trueD F) (Sum.inr x) with
    | none => rfl
    | some v => rw [q] at this; cases this
  rw [putK_new _ e]
  unfold trueD
  rw [List.map_append]
  rfl
theorem keysDAl {K : PySem.W.Frag} {G : Hp} : ∀ {i : Nat} {ns : List Nd} {kvs : List (Key × V)}, DAl G (needsR K i ns) kvs → (kvs.map fun kv => rV (kV kv.1)) = (ns.map Nd.nm).map rStr
  | _, [], _, .nil => rfl
  | i, n :: t, (k, v) :: kvs, .cons h r => by
    have e : Sum.inr n.nm = k := h.1
    subst e
    have ih := keysDAl r
    rw [List.map_cons, ih]
    rfl
/-- what a def asks of a book that it walks: names that differ, others ahead, few enough; its dict isn't locked -/
structure BkOk (ns : List Nd) : Prop where
  ord : OrdN [] ns
  few : ns.length ≤ 100
  ots : ∀ n ∈ ns, n.ot.length ≤ 100
  oks : ∀ n ∈ ns, PyData.strOk n.nm = true
  scs : ∀ n ∈ ns, n.sc ∈ scopes4
def Open (d : Addr) (H : Hp) : Prop := ∃ kvs, H d = some (.dK kvs)
def sp_closure (K : PySem.W.Frag) (C : Addr) : Sp := spP (ι := Addr × List Nd × List Tr × List Str) (fun i _ H => BkOk i.2.1 ∧ Open i.1 H ∧ i.2.2.2.length ≤ 100 ∧ ∀ x ∈ i.2.2.2, x ∈ i.2.1.map Nd.nm) (fun i => [rBook K C i.1 i.2.1 i.2.2.1, rTup K (i.2.2.2.map rStr)])
  (fun i => rLst K ((closureM i.2.1 i.2.2.2).map rStr))
section
variable {P : Program} {w : World} {K : PySem.W.Frag} {mg : Str → Option Value} {base : Heap} {f : Addr} {fd : FuncData} {C : Addr}
theorem sc_Book_closure : FnScope ["self", "names", "found", "waiting", "name"] ["self", "names"] (defScope s_Book_closure) := ⟨rfl, rfl, rfl, by decide +kernel, rfl, by decide +kernel, by decide +kernel⟩
theorem fn_closure (F : FnP K "closure" "Book.closure" s_Book_closure f fd) (T : Top K mg) (B : TopBook K mg C) : FnOk P w K mg base CX0 1 f fd ["self", "names"] (sp_closure K C) := by
  refine fn_pure F sc_Book_closure (fun _ => rfl) fun cdv A outer s H E hr => ⟨_, (pss_cons (ps_set (i := 2) sc_Book_closure.nd rfl (Or.inr rfl) pe_dnewK) (pss_cons (ps_set (i := 3) sc_Book_closure.nd rfl (Or.inl rfl) (pe_callTy (call_list_of) (by rfl) T.z_list (by decide +kernel) (pa_cons (pv 1) pa_nil (star_Name _ _)))) (pss_cons (ps_while PassesOwn.never (pt_cmpR (op_neD hr.units) (pv 3) (pe_lst pa_nil) (nomark _)) (pss_cons (ps_set (i := 4) sc_Book_closure.nd rfl (Or.inl rfl) (pe_bm0 PySem.F.plainAttrs_list PySem.F.slot_list_pop PySem.F.type_list_pop (mt_pop) (pv 3))) (pss_one (ps_if (pt_cmp (pc_dnotin (hu_of hr) (pv 4) (pv 2))) (pss_cons (ps_dput (hu_of hr) (pv 2) (pv 4) pe_bl rfl) (pss_one (ps_expr (pe_bm PySem.F.plainAttrs_list PySem.F.slot_list_extend PySem.F.type_list_extend (mt_extT) (pv 3) (pa_cons (pe_ix ix_tup (pe_dget (hu_of hr) (pe_fldK (K := K) rfl (pv 0) rfl) (pv 4) (fun _ _ => rfl)) pe_int (fun _ _ => rfl)) pa_nil (star_Subscript _ _ _)))))) pss_nil)))) (pss_one (ps_ret (pe_lock (pe_lc (own := [("name", 4)]) rfl sc_Book_closure.nd (pi_keys (pe_fldK (K := K) rfl (pv 0) rfl)) (blkOk_by (own := [("name", 4)]) (N := ["self", "names", "found", "waiting", "name"]) (sc := defScope s_Book_closure) (by decide +kernel)) (fun _ _ _ _ _ => (pg_name (i := 4) sc_Book_closure.nd rfl (Or.inl rfl))) (fun _ _ _ _ _ => ptsT (pts_one (pt_cmp (pc_din (hu_of hr) (pv 4) (pv 2)))) (by (try dsimp only [Cx.blk, Cx.nox, cxOf]) <;> rfl)) (fun _ _ _ _ _ => peT (pv 4) (by (try dsimp only [Cx.blk, Cx.nox, cxOf]) <;> rfl))))))))), ?_⟩
  rintro ⟨d, ns, ts, names⟩ G vs D a ⟨ok, ⟨kvs, hop⟩, p1, p2⟩ al hrt hnx
  obtain ⟨v, u, rfl, hv, hu⟩ := al2 al
  have hv : (rBook K C d ns ts).P G v := hv
  have hu : (rTup K (names.map rStr)).P G u := hu
  have ok : BkOk ns := ok
  have p1 : names.length ≤ 100 := p1
  have p2 : ∀ x ∈ names, x ∈ ns.map Nd.nm := p2
  have hop : H d = some (.dK kvs) := hop
  -- found = {}; waiting = list(names)
  refine q_asgN en_dict a fun d1 o1 G1 H1 e1 n1 n2 n3 f1 => ?_
  subst f1
  refine q_asgN (en_list (ev_var rfl (Rl.mono _ e1.gg hu)).st) e1.at fun l1 o2 G2 H2 e2 m1 m2 m3 ⟨us, f2, f3⟩ => ?_
  subst f2
  have f4 := f3.strs
  subst f4
  have dl : d1 ≠ l1 := fun z => by subst z; rw [n3] at m1; cases m1
  obtain ⟨n4, n5⟩ := e2.gr.loc n3 n2 (by simp [md0])
  have nd : d1 ≠ d := fun z => by subst z; rw [hop] at n1; cases n1
  have nl : l1 ≠ d := fun z => by subst z; rw [e1.gr.hh _ _ hop (by simp [md0])] at m1; cases m1
  have E0 : Gr [] G H G2 H2 := (e1.trans e2).gr
  -- while waiting != []
  refine q_while [d1, l1] (by simp [md0]) (fun m σ' G' H' => ∃ Fd Wt x, m = 101 * (ns.length - Fd.length) + Wt.length ∧ σ' = [some v, some u, some (.ref d1), some (.ref l1), x] ∧ H' d1 = some (.dK (trueD Fd)) ∧ G' d1 = none ∧ H' l1 = some (.lst (Wt.map V.str)) ∧ G' l1 = none ∧
    Fd.Nodup ∧ (∀ x ∈ Fd, x ∈ ns.map Nd.nm) ∧ (∀ x ∈ Wt, x ∈ ns.map Nd.nm) ∧ (∀ x ∈ Fd, Rch ns names x) ∧ (∀ x ∈ Wt, Rch ns names x) ∧ (∀ x ∈ names, x ∈ Fd ∨ x ∈ Wt) ∧ (∀ m ∈ ns, m.nm ∈ Fd → ∀ o ∈ m.ot, o ∈ Fd ∨ o ∈ Wt) ∧ Wt.length ≤ 100 + 100 * Fd.length)
    (101 * ns.length + names.length) e2.at ⟨[], names, none, by simp, rfl, n4, n5, m3, m2, List.nodup_nil, by simp, p2, by simp, fun x hx => .base hx, fun x hx => .inr hx, by simp, by simpa using p1⟩ ?_
  rintro m σ' G' H' g1 - ⟨Fd, Wt, x0, hm, rfl, i1, i2, i3, i4, i5, i6, i7, i8, i9, i10, i11, i12⟩
  have at' : At md0 G' H' := ⟨g1.gh, trivial⟩
  have hF : Fd.length ≤ ns.length := by
    have := sub_len i5 i6
    rwa [List.length_map] at this
  have hok : ∀ x ∈ Wt, PyData.strOk x = true := fun x hx => by
    obtain ⟨n, hn, e⟩ := List.mem_map.mp (i7 x hx)
    rw [← e]; exact ok.oks n hn
  refine ⟨_, et_test (ev_neNil (ev_val rfl) i3 (by simp [md0]) hok), fun hB G3 H3 g3 N hN => ?_, fun hB G3 H3 g3 => ?_⟩
  · -- name = waiting.pop()
    obtain ⟨Wt', x, rfl⟩ : ∃ Wt' x, Wt = Wt' ++ [x] := by
      rcases List.eq_nil_or_concat Wt with e | ⟨Wt', x, e⟩
      · subst e; cases hB
      · exact ⟨Wt', x, by rw [e, List.concat_eq_append]⟩
    obtain ⟨j1, j2⟩ := g3.gr.loc i1 i2 (by simp [md0])
    obtain ⟨j3, j4⟩ := g3.gr.loc i3 i4 (by simp [md0])
    have hx : x ∈ ns.map Nd.nm := i7 x (by simp)
    refine q_pop (v := .str x) (ev_val rfl) g3.at j3 j4 (by simp [md0]) (by simp) fun G4 H4 g4 k1 k2 => ?_
    obtain ⟨k3, k4⟩ := g4.gr.loc j1 j2 (by simp [md0])
    have el : (((Wt' ++ [x]).map V.str).dropLast) = Wt'.map V.str := by simp
    rw [el]
    have q1 : Gr [d1, l1] G2 H2 G4 (upd H4 l1 (.lst (Wt'.map V.str))) := (g1.trans (g3.trans g4).gr.nil).putW (by simp) k2
    have at4 : At md0 G4 (upd H4 l1 (.lst (Wt'.map V.str))) := ⟨q1.gh, trivial⟩
    have h1 : (upd H4 l1 (.lst (Wt'.map V.str))) d1 = some (.dK (trueD Fd)) := by rw [upd_ne dl]; exact k3
    -- if name not in found
    refine s_when (et_B (ev_dnotinM (ev_val rfl) (ev_val rfl) h1 (by simp [md0]))) at4 (fun hB2 G5 H5 g5 => ?_) fun hB2 G5 H5 g5 => ?_
    · have hxF : x ∉ Fd := by
        have := hB2
        rw [valV_true] at this
        simpa using this.symm
      obtain ⟨r1, r2⟩ := g5.gr.loc h1 k4 (by simp [md0])
      obtain ⟨r3, r4⟩ := g5.gr.loc (p := l1) upd_same k2 (by simp [md0])
      refine q_dput (k := .inr x) (r := rBl true) ev_c (ev_val rfl) (ev_val rfl) g5.at r1 r2 (by simp [md0]) (by unfold trueD; rw [List.length_map]; have := ok.few; omega) fun vt G6 H6 g6 pv s1 s2 => ?_
      have pv : vt = .bl true := pv
      subst pv
      rw [putK_true hxF]
      obtain ⟨s3, s4⟩ := g6.gr.loc r3 r4 (by simp [md0])
      have q2 : Gr [d1, l1] G2 H2 G6 (upd H6 d1 (.dK (trueD (Fd ++ [x])))) := (q1.trans (g5.trans g6).gr.nil).putW (by simp) s2
      have at6 : At md0 G6 (upd H6 d1 (.dK (trueD (Fd ++ [x])))) := ⟨q2.gh, trivial⟩
      obtain ⟨j, n, t1, t2, t3⟩ := findNd_some (i := 0) hx
      have hvB : (rBook K C d ns ts).P G6 v := Rl.mono _ (E0.gg.trans q2.gg) hv
      have hlen : (trueD Fd).length = Fd.length := by unfold trueD; rw [List.length_map]
      refine s_extT (rs := n.ot.map rStr) (ev_val rfl) (ev_ixT (ev_need B (ev_var rfl hvB) (ev_val rfl) t1) ev_c rfl) at6 (by rw [upd_ne (Ne.symm dl)]; exact s3) s4 (by simp [md0]) (by
        have b1 := ok.ots n t2
        have b2 := ok.few
        simp only [List.length_map, List.length_append, List.length_singleton] at i12 ⊢
        omega) fun ws G7 H7 g7 pw w1 w2 => ?_
      have pw' := pw.strs
      subst pw'
      obtain ⟨w3, w4⟩ := g7.gr.loc (p := d1) upd_same s2 (by simp [md0])
      have q3 : Gr [d1, l1] G2 H2 G7 (upd H7 l1 (.lst (Wt'.map V.str ++ n.ot.map V.str))) := (q2.trans g7.gr.nil).putW (by simp) w2
      refine hN (101 * (ns.length - (Fd ++ [x]).length) + (Wt' ++ n.ot).length) _ G7 _ ?_ q3 trivial ⟨Fd ++ [x], Wt' ++ n.ot, some (.str x), rfl, rfl, by rw [upd_ne dl]; exact w3, w4, by rw [upd_same, List.map_append], w2, ?_, ?_, ?_, ?_, ?_, ?_, ?_, ?_⟩
      · have b1 := ok.ots n t2
        have b3 : (Fd ++ [x]).length ≤ ns.length := by
          have := sub_len (l := Fd ++ [x]) (D := ns.map Nd.nm) (List.nodup_append.mpr ⟨i5, by simp, fun a ha b hb e => by rw [List.mem_singleton] at hb; subst hb; exact hxF (e ▸ ha)⟩) (fun y hy => by
            rcases List.mem_append.mp hy with z | z
            · exact i6 y z
            · rw [List.mem_singleton.mp z]; exact hx)
          rwa [List.length_map] at this
        simp only [List.length_append, List.length_singleton] at hm b3 ⊢
        omega
      · exact List.nodup_append.mpr ⟨i5, by simp, fun a ha b hb e => by rw [List.mem_singleton] at hb; subst hb; exact hxF (e ▸ ha)⟩
      · intro y hy
        rcases List.mem_append.mp hy with z | z
        · exact i6 y z
        · rw [List.mem_singleton.mp z]; exact hx
      · intro y hy
        rcases List.mem_append.mp hy with z | z
        · exact i7 y (List.mem_append_left _ z)
        · rcases ok.ord.ots n t2 y z with q | q
          · exact nomatch q
          · exact q
      · intro y hy
        rcases List.mem_append.mp hy with z | z
        · exact i8 y z
        · rw [List.mem_singleton.mp z]; exact i9 x (by simp)
      · intro y hy
        rcases List.mem_append.mp hy with z | z
        · exact i9 y (List.mem_append_left _ z)
        · exact .step (by rw [t3]; exact i9 x (by simp)) t2 z
      · intro y hy
        rcases i10 y hy with z | z
        · exact .inl (List.mem_append_left _ z)
        · rcases List.mem_append.mp z with z | z
          · exact .inr (List.mem_append_left _ z)
          · exact .inl (List.mem_append_right _ z)
      · intro k hk hkF o ho
        rcases List.mem_append.mp hkF with z | z
        · rcases i11 k hk z o ho with q | q
          · exact .inl (List.mem_append_left _ q)
          · rcases List.mem_append.mp q with q | q
            · exact .inr (List.mem_append_left _ q)
            · exact .inl (List.mem_append_right _ q)
        · have e : k = n := one_nm ok.ord.nodup hk t2 (by rw [List.mem_singleton.mp z, t3])
          subst e
          exact .inr (List.mem_append_right _ ho)
      · have b1 := ok.ots n t2
        simp only [List.length_append, List.length_singleton] at i12 ⊢
        omega
    · have hxF : x ∈ Fd := by
        have := hB2
        rw [valV_true] at this
        simpa using this.symm
      obtain ⟨r1, r2⟩ := g5.gr.loc h1 k4 (by simp [md0])
      obtain ⟨r3, r4⟩ := g5.gr.loc (p := l1) upd_same k2 (by simp [md0])
      refine hN (101 * (ns.length - Fd.length) + Wt'.length) _ G5 H5 (by simp only [List.length_append, List.length_singleton] at hm; omega) (q1.trans g5.gr.nil) trivial ⟨Fd, Wt', some (.str x), rfl, rfl, r1, r2, r3, r4, i5, i6, fun y hy => i7 y (List.mem_append_left _ hy), i8, fun y hy => i9 y (List.mem_append_left _ hy), fun y hy => ?_, fun k hk hkF o ho => ?_, ?_⟩
      · rcases i10 y hy with z | z
        · exact .inl z
        · rcases List.mem_append.mp z with z | z
          · exact .inr z
          · exact .inl (by rw [List.mem_singleton.mp z]; exact hxF)
      · rcases i11 k hk hkF o ho with z | z
        · exact .inl z
        · rcases List.mem_append.mp z with z | z
          · exact .inr z
          · exact .inl (by rw [List.mem_singleton.mp z]; exact hxF)
      · simp only [List.length_append, List.length_singleton] at i12
        omega
  · -- return [..]
    have hW : Wt = [] := by
      cases Wt with
      | nil => rfl
      | cons y t => cases hB
    subst hW
    have g4 : Gr [] G H G3 H3 := (E0.over g1 (fun p hp => .inr (by
      rcases List.mem_cons.mp hp with z | z
      · rw [z]; exact n1
      · rw [List.mem_singleton.mp z]; exact e1.back m1))).trans g3.gr
    have hd3 : H3 d = some (.dK kvs) := g4.hh d _ hop (fun z => nomatch z)
    have hvB : (rBook K C d ns ts).P G3 v := Rl.mono _ g4.gg hv
    obtain ⟨bp, bdx, bvs, rfl, hb1, hb2⟩ := id hvB
    obtain ⟨nv, hn1, hnd, na, nvs, hne, hn4, hn5⟩ := hb2.get (f := "needs") rfl
    obtain rfl : d = na := by rw [hnd] at hne; injection hne
    have ekv := rd_core hn4 g4.gh hd3
    subst ekv
    obtain ⟨j1, j2⟩ := g3.gr.loc i1 i2 (by simp [md0])
    have fin : ∀ x, (x ∈ Fd ↔ x ∈ leadsAcc ns.reverse names) := fun x => by
      rw [closureM_mem ok.ord]
      exact found_all i8 (fun x hx => (i10 x hx).resolve_right (fun z => nomatch z)) (fun m hm hmF o ho => (i11 m hm hmF o ho).resolve_right (fun z => nomatch z))
    refine s_ret (r := rLst K ((closureM ns names).map rStr)) (ev_lock hn4 hd3 (by simp [md0]) fun od G5 H5 g5 hle hkeep hat => ?_) g3.at fun v' G' H' g p => hrt v' G' H' (g4.trans g.gr) p
    have hvL : (rBook K C d ns ts).P (upd G5 d (.frz od (.dK nvs))) (.ref bp) := Rl.mono _ hle hvB
    have hdL : (upd H5 d (.frz od (.dK nvs))) d1 = some (.dK (trueD Fd)) := hkeep d1 _ nd j1 (by simp [md0]) (by exact fun _ z => (nomatch z))
    have ek := keysDAl hn5
    have src : Src md0 md0.W (iKeys (tFld K (tVar 0) "needs")) [some (.ref bp), some u, some (.ref d1), some (.ref l1), x0] (upd G5 d (.frz od (.dK nvs))) (upd H5 d (.frz od (.dK nvs))) ((ns.map Nd.nm).map rStr) := by
      rw [← ek]
      exact src_keys ((ev_needs B (ev_var rfl hvL)).imp fun _ _ => rDctAt_r) upd_same (by simp [md0]) (by simp [md0])
    refine EvN.lst ?_
    have := en_lcX (tt := tB (tDIn (tVar 4) (tVar 2))) (te := tVar 4) (vs := [4]) (j := 4) src (fun x => decide (x ∈ Fd)) rStr (fun _ => rfl) (fun x vx G6 H6 hx g6 px => ⟨?_, fun _ => ev_var rfl px⟩) (by rw [List.length_map]; have := ok.few; omega)
    · have e : (ns.map Nd.nm).filter (fun x => decide (x ∈ Fd)) = closureM ns names := by
        unfold closureM
        refine List.filter_congr fun x _ => ?_
        exact decide_eq_decide.mpr (fin x)
      rw [e] at this
      exact this
    · have h2 := g6.gr.hh d1 _ hdL (by simp [md0])
      have := ev_dinM (M := md0) (G := G6) (σ := (wipe [some (V.ref bp), some u, some (.ref d1), some (.ref l1), x0] [4]).set 4 (some vx)) (x := x) (ta := tVar 2) (tb := tVar 4) (ev_var rfl px) (ev_val rfl) h2 (by simp [md0])
      rw [valV_true] at this
      exact et_B this
end

end TH
namespace TH
open PySem PySem.Spec PyProof.Rows L2
variable [TC : TabC]
/-! ### the rows of a book -/
def isNeed (ns : List Nd) (n : Nd) : Bool :=
  if !isName n.nm || (decide (n.nm ∈ ns.map Nd.nm) || (!decide (n.sc ∈ scopes4) || !(decide ((1 : Int) ≤ n.ws) && decide (n.ws ≤ 4)))) then false
  else if !areUnlike n.ot || !(n.ot.all fun o => decide (o ∈ ns.map Nd.nm)) then false
  else n.ot.all fun o => decide (((scIx ((findNd o 0 ns).elim "" fun p => p.2.sc) : Nat) : Int) ≤ (scIx n.sc : Nat))
theorem lk_some (K : PySem.W.Frag) (ns : List Nd) (x : Str) : (lkD (needsR K 0 ns) x).isSome = decide (x ∈ ns.map Nd.nm) := by
  rw [lk_needs]
  by_cases h : x ∈ ns.map Nd.nm
  · obtain ⟨j, n, e, _⟩ := findNd_some (i := 0) h
    rw [e, decide_eq_true h]
    rfl
  · rw [findNd_none h, decide_eq_false h]
    rfl
/-- texts short enough for the machine -/
def NdFit (n : Nd) : Prop := n.nm.length ≤ 100000 ∧ n.ot.length < 4000 ∧ ∀ o ∈ n.ot, o.length ≤ 100000
def sp_is_need (K : PySem.W.Frag) (C : Addr) : Sp := spP (ι := Addr × List Nd × List Tr × Nd) (fun i _ _ => (∀ n ∈ i.2.1, n.sc ∈ scopes4) ∧ NdFit i.2.2.2) (fun i => [rBook K C i.1 i.2.1 i.2.2.1, rNd K i.2.2.2]) (fun i => rBl (isNeed i.2.1 i.2.2.2))
section
variable {P : Program} {w : World} {K : PySem.W.Frag} {mg : Str → Option Value} {base : Heap} {f : Addr} {fd : FuncData} {C : Addr}
theorem sc_Book_is_need : FnScope ["self", "row", "name", "scope", "others", "ways", "other"] ["self", "row"] (defScope s_Book_is_need) := ⟨rfl, rfl, rfl, by decide +kernel, rfl, by decide +kernel, by decide +kernel⟩
theorem fn_is_need (F : FnP K "is_need" "Book.is_need" s_Book_is_need f fd) (T : Top K mg) (B : TopBook K mg C) (c_is_name : C8.Cal P w K mg base 1 "is_name" sp_is_name []) (c_are_unlike : C8.Cal P w K mg base 2 "are_unlike" (sp_are_unlike K) []) (c_scope_of : C8.Met P w K mg base 1 C "scope_of" (sp_scope_of K C) []) :
    FnOk P w K mg base CX0 3 f fd ["self", "row"] (sp_is_need K C) := by
  refine fn_pure F sc_Book_is_need (fun _ => rfl) fun cdv A outer s H E hr => ⟨_, (pss_cons (ps_asg (pv 1) (pg_tup rfl (pgs_cons (pg_name (i := 2) sc_Book_is_need.nd rfl (Or.inl rfl)) (pgs_cons (pg_name (i := 3) sc_Book_is_need.nd rfl (Or.inr rfl)) (pgs_cons (pg_name (i := 4) sc_Book_is_need.nd rfl (Or.inl rfl)) (pgs_cons (pg_name (i := 5) sc_Book_is_need.nd rfl (Or.inl rfl)) pgs_nil)))))) (pss_cons (ps_if (PW.pt (pw_or (pt_not (pt_val (C8.pe_c c_is_name hr (by first | decide | omega) rfl (pa_cons (pv 2) pa_nil (star_Name _ _)) (he := (star_Name _ _))))) (pw_or (pt_cmp (pc_din (hu_of hr) (pv 2) (pe_fldK (K := K) rfl (pv 0) rfl))) (pw_or (pt_cmpR (op_notInK (K := K) rfl) (pv 3) (C8.pe_gc rfl T.c_SCOPES) rfl) (pw_or1 (pt_not (pt_chain op_le op_le pe_int (pv 5) (C8.pe_gc rfl T.c_MOST_WAYS)))))))) (pss_one (ps_ret pe_bl)) pss_nil) (pss_cons (ps_if (PW.pt (pw_or (pt_not (pt_val (C8.pe_c c_are_unlike hr (by first | decide | omega) rfl (pa_cons (pv 4) pa_nil (star_Name _ _)) (he := (star_Name _ _))))) (pw_or1 (pt_not (pt_val (pe_callB (cr_all rfl) (by rfl) T.z_all (by decide +kernel) (pa_cons (pe_lc (own := [("other", 6)]) rfl sc_Book_is_need.nd (pi_tup (pv 4)) (blkOk_by (own := [("other", 6)]) (N := ["self", "row", "name", "scope", "others", "ways", "other"]) (sc := defScope s_Book_is_need) (by decide +kernel)) (fun _ _ _ _ _ => (pg_name (i := 6) sc_Book_is_need.nd rfl (Or.inl rfl))) (fun _ _ _ _ _ => pts_nil) (fun _ _ _ _ _ => peT (pe_cmp (pc_din (hu_of hr) (pv 6) (pe_fldK (K := K) rfl (pv 0) rfl))) (by (try dsimp only [Cx.blk, Cx.nox, cxOf]) <;> rfl))) pa_nil (star_ListComp _ _ _ _)))))))) (pss_one (ps_ret pe_bl)) pss_nil) (pss_one (ps_ret (pe_callB (cr_all rfl) (by rfl) T.z_all (by decide +kernel) (pa_cons (pe_lc (own := [("other", 6)]) rfl sc_Book_is_need.nd (pi_tup (pv 4)) (blkOk_by (own := [("other", 6)]) (N := ["self", "row", "name", "scope", "others", "ways", "other"]) (sc := defScope s_Book_is_need) (by decide +kernel)) (fun _ _ _ _ _ => (pg_name (i := 6) sc_Book_is_need.nd rfl (Or.inl rfl))) (fun _ _ _ _ _ => pts_nil) (fun _ _ _ _ _ => peT (pe_cmpR op_le (C8.pe_mt c_scope_of hr (by first | decide | omega) (pv 0) (pa_cons (pv 6) pa_nil (star_Name _ _))) (pe_bm PySem.F.plainAttrs_tuple PySem.F.slot_tuple_index PySem.F.type_tuple_index (mt_tup_index) (C8.pe_gc rfl T.c_SCOPES) (pa_cons (pv 3) pa_nil (star_Name _ _))) (nomark _)) (by (try dsimp only [Cx.blk, Cx.nox, cxOf]) <;> rfl))) pa_nil (star_ListComp _ _ _ _)))))))), ?_⟩
  rintro ⟨d, ns, ts, n⟩ G vs D a ⟨p1, p2⟩ al hrt hnx
  obtain ⟨v, u, rfl, hv, hu⟩ := al2 al
  have hv : (rBook K C d ns ts).P G v := hv
  have hu : (rNd K n).P G u := hu
  have p1 : ∀ n ∈ ns, n.sc ∈ scopes4 := p1
  obtain ⟨p2, p3, p4⟩ : NdFit n := p2
  have hrt : ∀ b G' H', isNeed ns n = b → Gr [] G H G' H' → D.rt (.bl b) H' := fun b G' H' e g => hrt _ G' H' g (by rw [← e]; rfl)
  -- name, scope, others, ways = row
  refine q_unp (K := K) (ev_var rfl hu) a rfl fun vs G1 H1 e1 ps => ?_
  obtain ⟨v1, v2, v3, v4, rfl, q1, q2, q3, q4⟩ := al4 ps
  obtain rfl : v1 = .str n.nm := q1
  obtain rfl : v2 = .str n.sc := q2
  obtain rfl : v4 = .int n.ws := q4
  refine gc_cons (gc_cons (gc_cons (gc_cons (gc_nil ?_))))
  have hv1 : (rBook K C d ns ts).P G1 v := Rl.mono _ e1.gg hv
  have q3 : (rTup K (n.ot.map rStr)).P G1 v3 := q3
  have hin : ∀ {G' H' : Hp} {te : TE} {σ : L2.St} {x : Str}, Go md0 G1 H1 G' H' → Ev md0 te σ G' H' (rStr x) → σ[0]? = some (some v) → Ev md0 (tDIn te (tFld K (tVar 0) "needs")) σ G' H' (rBl (decide (x ∈ ns.map Nd.nm))) := fun {G' H' te σ x} g hk h0 => by
    have := ev_din hk ((ev_needs B (ev_var (G := G') h0 (Rl.mono _ g.gg hv1))).imp fun _ _ => rDctAt_d)
    rw [lk_some] at this
    exact this
  refine q_when (et_or (et_not (et_B (ev_call (E := E0) n.nm (ea_cons (ev_val rfl) ea_nil) fun _ _ _ => p2))) fun _ => et_or (et_B (hin e1.at.go (ev_val rfl) rfl)) fun _ => et_or (et_test (ev_in (neg := true) (ev_val rfl) (ev_topS scopes4 T.t_SCOPES).st)) fun _ => et_not (et_test (ev_chain ev_c (ev_val rfl) ev_c))) e1.at (fun hB G2 H2 e2 => ?_) fun hB G2 H2 e2 => ?_
  · refine s_ret (r := rBl false) ev_c e2.at fun x G3 H3 e3 p => ?_
    obtain rfl : x = .bl false := p
    refine hrt false G3 H3 ?_ (e1.trans (e2.trans e3)).gr
    exact if_pos hB.symm
  · have c1 : ¬ ((!isName n.nm || (decide (n.nm ∈ ns.map Nd.nm) || (!decide (n.sc ∈ scopes4) || !(decide ((1 : Int) ≤ n.ws) && decide (n.ws ≤ 4))))) = true) := fun z => by
      have hB : false = (!isName n.nm || (decide (n.nm ∈ ns.map Nd.nm) || (!decide (n.sc ∈ scopes4) || !(decide ((1 : Int) ≤ n.ws) && decide (n.ws ≤ 4))))) := hB
      rw [z] at hB
      cases hB
    have hsc : n.sc ∈ scopes4 := by
      simp only [Bool.or_eq_true, Bool.not_eq_true', decide_eq_false_iff_not, not_or, Bool.not_eq_false, Classical.not_not] at c1
      exact c1.2.2.1
    have q3' : (rTup K (n.ot.map rStr)).P G2 v3 := Rl.mono _ e2.gg q3
    refine q_when (et_or (et_not (et_B (ev_call (E := E0) n.ot (ea_cons (ev_var rfl q3') ea_nil) fun _ _ _ => ⟨p3, p4⟩))) fun _ => et_not (et_B (ev_all (f := fun o => decide (o ∈ ns.map Nd.nm)) (EvN.lst (en_map (src_tup (K := K) (ev_var rfl q3')) _ (fun _ => rfl) (fun x vx G' H' hx g p => hin (e2.trans g) (ev_var rfl p) rfl) (by omega)))))) e2.at (fun hB G3 H3 e3 => ?_) fun hB G3 H3 e3 => ?_
    · refine s_ret (r := rBl false) ev_c e3.at fun x G4 H4 e4 p => ?_
      obtain rfl : x = .bl false := p
      refine hrt false G4 H4 ?_ (e1.trans (e2.trans (e3.trans e4))).gr
      exact (if_neg c1).trans (if_pos hB.symm)
    · have c2 : ¬ ((!areUnlike n.ot || !(n.ot.all fun o => decide (o ∈ ns.map Nd.nm))) = true) := fun z => by
        have hB : false = (!areUnlike n.ot || !(n.ot.all fun o => decide (o ∈ ns.map Nd.nm))) := hB
        rw [z] at hB
        cases hB
      have hot : ∀ o ∈ n.ot, o ∈ ns.map Nd.nm := by
        simp only [Bool.or_eq_true, Bool.not_eq_true', not_or, Bool.not_eq_false, List.all_eq_true, decide_eq_true_iff] at c2
        exact c2.2
      have q3'' : (rTup K (n.ot.map rStr)).P G3 v3 := Rl.mono _ e3.gg q3'
      refine s_ret (ev_all (f := fun o => decide (((scIx ((findNd o 0 ns).elim "" fun p => p.2.sc) : Nat) : Int) ≤ (scIx n.sc : Nat))) (EvN.lst (en_map (src_tup (K := K) (ev_var rfl q3'')) _ (fun _ => rfl) (fun x vx G' H' hx g p => ?_) (by omega)))) e3.at fun x G4 H4 e4 p => ?_
      · exact ev_I0 (g := fun i j => .bl (decide (i ≤ j))) (ev_meth (E := E0) (d, ns, ts, x) (ev_var rfl (Rl.mono _ ((e2.trans e3).trans g).gg hv1)) (insOf (by rfl)) (ea_cons (ev_var rfl p) ea_nil) rfl fun _ _ _ => ⟨hot x hx, p1⟩) (ev_scIx (ev_val rfl) T hsc)
      · have p : x = .bl _ := p
        subst p
        refine hrt _ G4 H4 ?_ (e1.trans (e2.trans (e3.trans e4))).gr
        exact (if_neg c1).trans (if_neg c2)
end

end TH
namespace TH
open PySem PySem.Spec PyProof.Rows L2
variable [TC : TabC]
/-! ### the tries of a book -/
def waysOf (ns : List Nd) (x : Str) : Int := (findNd x 0 ns).elim 1 fun p => p.2.ws
def manyOf (ns : List Nd) (names : List Str) : Int := (closureM ns names).foldl (fun m x => m * waysOf ns x) 1
def isTry (ns : List Nd) (ts : List Tr) (t : Tr) : Bool :=
  if !([t.nm, t.hs, t.gp].all isName) || decide (t.nm ∈ ts.map Tr.nm) then false
  else if !areUnlike t.nd || !(t.nd.all fun o => decide (o ∈ ns.map Nd.nm)) then false
  else if !areUnlike t.ms || !(decide ((1 : Int) ≤ t.tm) && decide (t.tm ≤ 4)) then false
  else decide (manyOf ns t.nd ≤ 64)
def TrFit (t : Tr) : Prop := (∀ x ∈ [t.nm, t.hs, t.gp], x.length ≤ 100000) ∧ (t.nd.length ≤ 100 ∧ ∀ o ∈ t.nd, o.length ≤ 100000) ∧ t.ms.length < 4000 ∧ ∀ o ∈ t.ms, o.length ≤ 100000
structure WsOk (ns : List Nd) : Prop where
  lo : ∀ n ∈ ns, (1 : Int) ≤ n.ws
  hi : ∀ n ∈ ns, n.ws ≤ 4
theorem mem_closureM {ns : List Nd} {names : List Str} {x : Str} (h : x ∈ closureM ns names) : x ∈ ns.map Nd.nm := (List.mem_filter.mp h).1
def sp_is_try (K : PySem.W.Frag) (C : Addr) : Sp := spP (ι := Addr × List Nd × List Tr × Tr) (fun i _ H => (BkOk i.2.1 ∧ WsOk i.2.1) ∧ Open i.1 H ∧ i.2.2.1.length ≤ 100 ∧ TrFit i.2.2.2) (fun i => [rBook K C i.1 i.2.1 i.2.2.1, rTr K i.2.2.2]) (fun i => rBl (isTry i.2.1 i.2.2.1 i.2.2.2))
section
variable {P : Program} {w : World} {K : PySem.W.Frag} {mg : Str → Option Value} {base : Heap} {f : Addr} {fd : FuncData} {C : Addr}
variable {M : Md} {σ : L2.St} {G H : Hp} {ta tb : TE}
/-- other in self.needs -/
theorem ev_inNeeds {ns : List Nd} {ts : List Tr} {d : Addr} {x : Str} (B : TopBook K mg C) (h : Ev M ta σ G H (rBook K C d ns ts)) (hk : Ev M tb σ G H (rStr x)) : Ev M (tDIn tb (tFld K ta "needs")) σ G H (rBl (decide (x ∈ ns.map Nd.nm))) := by
  have := ev_din hk ((ev_needs B h).imp fun _ _ => rDctAt_d)
  rw [lk_some] at this
  exact this
theorem Open.go {d : Addr} {G' H' : Hp} {W : List Addr} (h : Open d H) (g : Gr W G H G' H') (n : d ∉ W) : Open d H' := by
  obtain ⟨kvs, e⟩ := h
  exact ⟨kvs, g.hh d _ e n⟩
/-- names of the tries -/
theorem ev_names {α : Type} {xs : List α} {enc : α → Rl} {q : α → Str} {te : TE} (h : EvN M te σ G H (FL (xs.map fun x => rStr (q x)))) : Ev M te σ G H (rSeq K ((xs.map q).map rStr)) := by
  rw [List.map_map]
  exact (EvN.lst (K := K) h).imp fun _ _ => rSeq_l
theorem sc_Book_is_try : FnScope ["self", "row", "name", "house", "group", "others", "marks", "times", "is_expected", "many", "need", "word", "one", "other"] ["self", "row"] (defScope s_Book_is_try) := ⟨rfl, rfl, rfl, by decide +kernel, rfl, by decide +kernel, by decide +kernel⟩
theorem fn_is_try (F : FnP K "is_try" "Book.is_try" s_Book_is_try f fd) (T : Top K mg) (B : TopBook K mg C) (c_is_name : C8.Cal P w K mg base 1 "is_name" sp_is_name []) (c_are_unlike : C8.Cal P w K mg base 2 "are_unlike" (sp_are_unlike K) []) (c_closure : C8.Met P w K mg base 1 C "closure" (sp_closure K C) []) :
    FnOk P w K mg base CX0 3 f fd ["self", "row"] (sp_is_try K C) := by
  refine fn_pure F sc_Book_is_try (fun _ => rfl) fun cdv A outer s H E hr => ⟨_, (pss_cons (ps_asg (pv 1) (pg_tup rfl (pgs_cons (pg_name (i := 2) sc_Book_is_try.nd rfl (Or.inl rfl)) (pgs_cons (pg_name (i := 3) sc_Book_is_try.nd rfl (Or.inl rfl)) (pgs_cons (pg_name (i := 4) sc_Book_is_try.nd rfl (Or.inl rfl)) (pgs_cons (pg_name (i := 5) sc_Book_is_try.nd rfl (Or.inl rfl)) (pgs_cons (pg_name (i := 6) sc_Book_is_try.nd rfl (Or.inl rfl)) (pgs_cons (pg_name (i := 7) sc_Book_is_try.nd rfl (Or.inl rfl)) (pgs_cons (pg_name (i := 8) sc_Book_is_try.nd rfl (Or.inl rfl)) pgs_nil))))))))) (pss_cons (ps_if (PW.pt (pw_or (pt_not (pt_val (pe_callB (cr_all rfl) (by rfl) T.z_all (by decide +kernel) (pa_cons (pe_lc (own := [("word", 11)]) rfl sc_Book_is_try.nd (pi_tup (pe_tup (pa_cons (pv 2) (pa_cons (pv 3) (pa_cons (pv 4) pa_nil (star_Name _ _)) (star_Name _ _)) (star_Name _ _)))) (blkOk_by (own := [("word", 11)]) (N := ["self", "row", "name", "house", "group", "others", "marks", "times", "is_expected", "many", "need", "word", "one", "other"]) (sc := defScope s_Book_is_try) (by decide +kernel)) (fun _ _ _ _ _ => (pg_name (i := 11) sc_Book_is_try.nd rfl (Or.inl rfl))) (fun _ _ _ _ _ => pts_nil) (fun _ _ _ _ _ => peT (C8.pe_c c_is_name hr (by first | decide | omega) rfl (pa_cons (pv 11) pa_nil (star_Name _ _)) (he := (star_Name _ _))) (by (try dsimp only [Cx.blk, Cx.nox, cxOf]) <;> rfl))) pa_nil (star_ListComp _ _ _ _))))) (pw_or1 (pt_cmpR (op_inK (K := K) rfl) (pv 2) (pe_lc (own := [("one", 12)]) rfl sc_Book_is_try.nd (pi_list (pe_fldK (K := K) rfl (pv 0) rfl)) (blkOk_by (own := [("one", 12)]) (N := ["self", "row", "name", "house", "group", "others", "marks", "times", "is_expected", "many", "need", "word", "one", "other"]) (sc := defScope s_Book_is_try) (by decide +kernel)) (fun _ _ _ _ _ => (pg_name (i := 12) sc_Book_is_try.nd rfl (Or.inl rfl))) (fun _ _ _ _ _ => pts_nil) (fun _ _ _ _ _ => peT (pe_ix ix_tup (pv 12) pe_int (fun _ _ => rfl)) (by (try dsimp only [Cx.blk, Cx.nox, cxOf]) <;> rfl))) rfl)))) (pss_one (ps_ret pe_bl)) pss_nil) (pss_cons (ps_if (PW.pt (pw_or (pt_not (pt_val (C8.pe_c c_are_unlike hr (by first | decide | omega) rfl (pa_cons (pv 5) pa_nil (star_Name _ _)) (he := (star_Name _ _))))) (pw_or1 (pt_not (pt_val (pe_callB (cr_all rfl) (by rfl) T.z_all (by decide +kernel) (pa_cons (pe_lc (own := [("other", 13)]) rfl sc_Book_is_try.nd (pi_tup (pv 5)) (blkOk_by (own := [("other", 13)]) (N := ["self", "row", "name", "house", "group", "others", "marks", "times", "is_expected", "many", "need", "word", "one", "other"]) (sc := defScope s_Book_is_try) (by decide +kernel)) (fun _ _ _ _ _ => (pg_name (i := 13) sc_Book_is_try.nd rfl (Or.inl rfl))) (fun _ _ _ _ _ => pts_nil) (fun _ _ _ _ _ => peT (pe_cmp (pc_din (hu_of hr) (pv 13) (pe_fldK (K := K) rfl (pv 0) rfl))) (by (try dsimp only [Cx.blk, Cx.nox, cxOf]) <;> rfl))) pa_nil (star_ListComp _ _ _ _)))))))) (pss_one (ps_ret pe_bl)) pss_nil) (pss_cons (ps_if (PW.pt (pw_or (pt_not (pt_val (C8.pe_c c_are_unlike hr (by first | decide | omega) rfl (pa_cons (pv 6) pa_nil (star_Name _ _)) (he := (star_Name _ _))))) (pw_or1 (pt_not (pt_chain op_le op_le pe_int (pv 7) (C8.pe_gc rfl T.c_MOST_TIMES)))))) (pss_one (ps_ret pe_bl)) pss_nil) (pss_cons (ps_set (i := 9) sc_Book_is_try.nd rfl (Or.inl rfl) pe_int) (pss_cons (ps_for PassesOwn.never rfl (pi_list (C8.pe_mt c_closure hr (by first | decide | omega) (pv 0) (pa_cons (pv 5) pa_nil (star_Name _ _)))) (pg_name (i := 10) sc_Book_is_try.nd rfl (Or.inl rfl)) (pss_one (ps_aug (i := 9) sc_Book_is_try.nd rfl (Or.inl rfl) (pe_ix ix_tup (pe_dget (hu_of hr) (pe_fldK (K := K) rfl (pv 0) rfl) (pv 10) (fun _ _ => rfl)) pe_int (fun _ _ => rfl)) iop_mul))) (pss_one (ps_ret (pe_cmpR op_le (pv 9) (C8.pe_gc rfl T.c_MOST_CASES) (nomark _)))))))))), ?_⟩
  rintro ⟨d, ns, ts, n⟩ G vs D a ⟨⟨ok, wk⟩, hop, p1, p2⟩ al hrt hnx
  obtain ⟨v, u, rfl, hv, hu⟩ := al2 al
  have hv : (rBook K C d ns ts).P G v := hv
  have hu : (rTr K n).P G u := hu
  have ok : BkOk ns := ok
  have wk : WsOk ns := wk
  have hop : Open d H := hop
  have p1 : ts.length ≤ 100 := p1
  obtain ⟨p2, ⟨p3, p4⟩, p5, p6⟩ : TrFit n := p2
  have hrt : ∀ b G' H', isTry ns ts n = b → Gr [] G H G' H' → D.rt (.bl b) H' := fun b G' H' e g => hrt _ G' H' g (by rw [← e]; rfl)
  -- name, house, group, others, marks, times, is_expected = row
  refine q_unp (K := K) (ev_var rfl hu) a rfl fun vs G1 H1 e1 ps => ?_
  obtain ⟨v1, v2, v3, v4, v5, v6, v7, rfl, q1, q2, q3, q4, q5, q6, q7⟩ := al7 ps
  obtain rfl : v1 = .str n.nm := q1
  obtain rfl : v2 = .str n.hs := q2
  obtain rfl : v3 = .str n.gp := q3
  obtain rfl : v6 = .int n.tm := q6
  refine gc_cons (gc_cons (gc_cons (gc_cons (gc_cons (gc_cons (gc_cons (gc_nil ?_)))))))
  have hv1 : (rBook K C d ns ts).P G1 v := Rl.mono _ e1.gg hv
  have q4 : (rTup K (n.nd.map rStr)).P G1 v4 := q4
  have q5 : (rTup K (n.ms.map rStr)).P G1 v5 := q5
  refine q_when (et_or (et_not (et_B (ev_all (f := isName) (EvN.lst (en_map (xs := [n.nm, n.hs, n.gp]) (enc := rStr) (src_tup (K := K) (ev_tup (ea_cons (ev_val rfl) (ea_cons (ev_val rfl) (ea_cons (ev_val rfl) ea_nil))) (show 3 ≤ 100000 by decide))) _ (fun _ => rfl)
    (fun x vx G' H' hx g p => ev_call (E := E0) x (ea_cons (ev_var rfl p) ea_nil) fun _ _ _ => p2 x hx) (show 3 ≤ 100000 by decide)))))) fun _ => et_test (ev_in (ev_val rfl) (ev_names (enc := rTr K) (q := Tr.nm) (en_map (src_lst (ev_tries B (ev_var rfl hv1))) _ (fun _ => rfl) (fun x vx G' H' hx g p => ev_ixT (ev_var rfl p) ev_c rfl) (by omega))))) e1.at (fun hB G2 H2 e2 => ?_) fun hB G2 H2 e2 => ?_
  · refine s_ret (r := rBl false) ev_c e2.at fun x G3 H3 e3 p => ?_
    obtain rfl : x = .bl false := p
    exact hrt false G3 H3 (if_pos hB.symm) (e1.trans (e2.trans e3)).gr
  · have c1 : ¬ ((!([n.nm, n.hs, n.gp].all isName) || decide (n.nm ∈ ts.map Tr.nm)) = true) := fun z => by
      have hB : false = (!([n.nm, n.hs, n.gp].all isName) || decide (n.nm ∈ ts.map Tr.nm)) := hB
      rw [z] at hB
      cases hB
    have q4' : (rTup K (n.nd.map rStr)).P G2 v4 := Rl.mono _ e2.gg q4
    have q5' : (rTup K (n.ms.map rStr)).P G2 v5 := Rl.mono _ e2.gg q5
    refine q_when (et_or (et_not (et_B (ev_call (E := E0) n.nd (ea_cons (ev_var rfl q4') ea_nil) fun _ _ _ => ⟨show n.nd.length < 4000 by omega, p4⟩))) fun _ => et_not (et_B (ev_all (f := fun o => decide (o ∈ ns.map Nd.nm)) (EvN.lst (en_map (src_tup (K := K) (ev_var rfl q4')) _ (fun _ => rfl) (fun x vx G' H' hx g p => ev_inNeeds B (ev_var rfl (Rl.mono _ (e2.trans g).gg hv1)) (ev_var rfl p)) (by omega)))))) e2.at (fun hB G3 H3 e3 => ?_) fun hB G3 H3 e3 => ?_
    · refine s_ret (r := rBl false) ev_c e3.at fun x G4 H4 e4 p => ?_
      obtain rfl : x = .bl false := p
      exact hrt false G4 H4 ((if_neg c1).trans (if_pos hB.symm)) (e1.trans (e2.trans (e3.trans e4))).gr
    · have c2 : ¬ ((!areUnlike n.nd || !(n.nd.all fun o => decide (o ∈ ns.map Nd.nm))) = true) := fun z => by
        have hB : false = (!areUnlike n.nd || !(n.nd.all fun o => decide (o ∈ ns.map Nd.nm))) := hB
        rw [z] at hB
        cases hB
      have hnd : ∀ o ∈ n.nd, o ∈ ns.map Nd.nm := by
        simp only [Bool.or_eq_true, Bool.not_eq_true', not_or, Bool.not_eq_false, List.all_eq_true, decide_eq_true_iff] at c2
        exact c2.2
      have q5'' : (rTup K (n.ms.map rStr)).P G3 v5 := Rl.mono _ e3.gg q5'
      refine q_when (et_or (et_not (et_B (ev_call (E := E0) n.ms (ea_cons (ev_var rfl q5'') ea_nil) fun _ _ _ => ⟨p5, p6⟩))) fun _ => et_not (et_test (ev_chain ev_c (ev_val rfl) ev_c))) e3.at (fun hB G4 H4 e4 => ?_) fun hB G4 H4 e4 => ?_
      · refine s_ret (r := rBl false) ev_c e4.at fun x G5 H5 e5 p => ?_
        obtain rfl : x = .bl false := p
        exact hrt false G5 H5 ((if_neg c1).trans ((if_neg c2).trans (if_pos hB.symm))) (e1.trans (e2.trans (e3.trans (e4.trans e5)))).gr
      · have c3 : ¬ ((!areUnlike n.ms || !(decide ((1 : Int) ≤ n.tm) && decide (n.tm ≤ 4))) = true) := fun z => by
          have hB : false = (!areUnlike n.ms || !(decide ((1 : Int) ≤ n.tm) && decide (n.tm ≤ 4))) := hB
          rw [z] at hB
          cases hB
        -- many = 1
        refine q_asgV (v := .int 1) ev_c e4.at fun G5 H5 e5 => ?_
        have g5 : Go md0 G1 H1 G5 H5 := e2.trans (e3.trans (e4.trans e5))
        have q4'' : (rTup K (n.nd.map rStr)).P G5 v4 := Rl.mono _ g5.gg q4
        -- for need in self.closure(others)
        refine q_for (W := []) (src_lst (ev_meth (E := E0) (d, ns, ts, n.nd) (ev_var rfl (Rl.mono _ g5.gg hv1)) (insOf (by rfl)) (ea_cons (ev_var rfl q4'') ea_nil) rfl fun G' H' g => ⟨ok, hop.go (e1.trans (g5.trans g)).gr (by simp [md0]), p3, hnd⟩)) e5.at (by simp [md0])
          (fun i σ' _ _ => ∃ x, σ' = [some v, some u, some (.str n.nm), some (.str n.hs), some (.str n.gp), some v4, some v5, some (.int n.tm), some v7, some (.int (((closureM ns n.nd).take i).foldl (fun m x => m * waysOf ns x) 1)), x, none, none, none])
          (fun _ _ _ => ⟨none, rfl⟩) (fun i r vx σ' G6 H6 hi hp g6 j6 hI N hN => ?_) (fun _ _ _ _ _ _ _ _ _ h => h) fun σ' G6 H6 g6 j6 hI => ?_
        · obtain ⟨x0, rfl⟩ := hI
          rw [List.getElem?_map, Option.map_eq_some_iff] at hi
          obtain ⟨x, hi, rfl⟩ := hi
          have hxm : x ∈ closureM ns n.nd := List.mem_of_getElem? hi
          obtain ⟨j, m, t1, t2, t3⟩ := findNd_some (i := 0) (mem_closureM hxm)
          have b1 := wk.lo m t2
          have b2 := wk.hi m t2
          have hvB : (rBook K C d ns ts).P G6 v := Rl.mono _ (g5.gg.trans g6.gg) hv1
          have px : vx = .str x := hp
          subst px
          refine s_aug (i := 9) (x := .int _) (y := .int m.ws) (z := .int _) rfl (ev_ixT (ev_need B (ev_var rfl hvB) (ev_val rfl) t1) ev_c rfl) ⟨g6.gh, j6⟩ (fun H Q q => ⟨_, _, rfl, rfl, .inr ⟨by omega, by omega⟩, q⟩) fun G7 H7 g7 => hN _ G7 H7 g7.gr trivial ⟨some (.str x), ?_⟩
          have e : ((closureM ns n.nd).take (i + 1)).foldl (fun m x => m * waysOf ns x) 1 = ((closureM ns n.nd).take i).foldl (fun m x => m * waysOf ns x) 1 * m.ws := by
            rw [List.take_add_one, hi]
            show ((closureM ns n.nd).take i ++ [x]).foldl _ 1 = _
            rw [List.foldl_append]
            show _ * waysOf ns x = _
            unfold waysOf
            rw [t1]
            rfl
          rw [e]
          rfl
        · obtain ⟨x0, rfl⟩ := hI
          rw [List.length_map, List.take_length]
          refine s_ret (ev_I0 (g := fun i j => .bl (decide (i ≤ j))) (ev_val rfl) ev_c) ⟨g6.gh, j6⟩ fun x G7 H7 e7 p => ?_
          obtain rfl : x = .bl _ := p
          exact hrt _ G7 H7 ((if_neg c1).trans ((if_neg c2).trans (if_neg c3))) ((e1.trans g5).gr.trans (g6.trans e7.gr))
end

end TH
namespace TH
open PySem PySem.Spec PyProof.Rows L2
variable [TC : TabC]
/-! ### a valid book -/
structure BookOk (ns : List Nd) (ts : List Tr) : Prop where
  n1 : ∀ i n, ns[i]? = some n → isNeed (ns.take i) n = true
  n2 : ∀ n ∈ ns, NdFit n
  n3 : ns.length ≤ 12
  t1 : ∀ i t, ts[i]? = some t → isTry ns (ts.take i) t = true
  t2 : ∀ t ∈ ts, TrFit t
  t3 : ts.length ≤ 30
/-- what a need that is one is like -/
structure NdLike (seen : List Nd) (n : Nd) : Prop where
  nm : isName n.nm = true
  nw : n.nm ∉ seen.map Nd.nm
  sc : n.sc ∈ scopes4
  lo : (1 : Int) ≤ n.ws
  hi : n.ws ≤ 4
  un : areUnlike n.ot = true
  ot : ∀ o ∈ n.ot, o ∈ seen.map Nd.nm
  le : ∀ o ∈ n.ot, scIx ((findNd o 0 seen).elim "" fun p => p.2.sc) ≤ scIx n.sc
theorem isNeed_like {seen : List Nd} {n : Nd} : isNeed seen n = true ↔ NdLike seen n := by
  unfold isNeed
  constructor
  · intro h
    split at h
    · cases h
    · rename_i c1
      split at h
      · cases h
      · rename_i c2
        simp only [Bool.or_eq_true, Bool.not_eq_true', Bool.and_eq_true, decide_eq_true_iff, decide_eq_false_iff_not, not_or, Bool.not_eq_false, Classical.not_not, Bool.and_eq_false_iff, not_and, List.all_eq_true] at c1 c2 h
        obtain ⟨a1, a2, a3, a4, a5⟩ := c1
        exact ⟨a1, a2, a3, a4, a5, c2.1, c2.2, fun o ho => by have := h o ho; omega⟩
  · rintro ⟨a1, a2, a3, a4, a5, a6, a7, a8⟩
    rw [if_neg (by simp [a1, a2, a3, a4, a5]), if_neg (by simpa [a6] using a7), List.all_eq_true]
    intro o ho
    have := a8 o ho
    simpa using this
theorem BookOk.like {ns : List Nd} {ts : List Tr} (b : BookOk ns ts) {i : Nat} {n : Nd} (h : ns[i]? = some n) : NdLike (ns.take i) n := isNeed_like.mp (b.n1 i n h)
theorem areUnlike_nodup {xs : List Str} (h : areUnlike xs = true) : xs.Nodup := by
  unfold areUnlike at h
  rw [Bool.and_eq_true, decide_eq_true_iff] at h
  exact h.2
theorem areUnlike_names {xs : List Str} (h : areUnlike xs = true) : ∀ x ∈ xs, isName x = true := by
  unfold areUnlike at h
  rw [Bool.and_eq_true, List.all_eq_true] at h
  exact h.1
theorem ordN_of {ns : List Nd} (h : ∀ i n, ns[i]? = some n → NdLike (ns.take i) n) : ∀ m k, k + m = ns.length → OrdN ((ns.take k).map Nd.nm) (ns.drop k)
  | 0, k, e => by rw [List.drop_of_length_le (by omega)]; trivial
  | m + 1, k, e => by
    have hk : k < ns.length := by omega
    rw [List.drop_eq_getElem_cons hk]
    have q := h k ns[k] (by simp [hk])
    refine ⟨q.nw, q.ot, ?_⟩
    have ih := ordN_of h m (k + 1) (by omega)
    rw [List.take_add_one, List.map_append] at ih
    simpa [hk] using ih
theorem letters_ok {x : Str} (h : isName x = true) : PyData.strOk x = true := by
  unfold isName at h
  simp only [Bool.and_eq_true] at h
  have h2 := h.2.1
  rw [List.all_eq_true] at h2
  have k : ∀ c ∈ letters.cps.toList, c < 0x110000 := by decide +kernel
  show x.cps.all (· < 0x110000) = true
  rw [← Array.all_toList, List.all_eq_true]
  intro c hc
  exact decide_eq_true (k c (of_decide_eq_true (h2 c hc)))
theorem name_len {x : Str} (h : isName x = true) : x.length ≤ 8 := by
  unfold isName at h
  simp only [Bool.and_eq_true, decide_eq_true_iff] at h
  omega
theorem take_in {α : Type} {l : List α} {i : Nat} {x : α} (h : x ∈ l.take i) : x ∈ l := List.mem_of_mem_take h
theorem BookOk.bk {ns : List Nd} {ts : List Tr} (b : BookOk ns ts) : BkOk ns := by
  have hl : ∀ n ∈ ns, ∃ i, NdLike (ns.take i) n := fun n hn => by
    obtain ⟨i, hi⟩ := List.getElem?_of_mem hn
    exact ⟨i, b.like hi⟩
  refine ⟨?_, by have := b.n3; omega, fun n hn => ?_, fun n hn => ?_, fun n hn => ?_⟩
  · have := ordN_of (fun i n h => b.like h) ns.length 0 (by omega)
    exact this
  · obtain ⟨i, q⟩ := hl n hn
    have h1 := sub_len (areUnlike_nodup q.un) q.ot
    rw [List.length_map, List.length_take] at h1
    have := b.n3
    omega
  · obtain ⟨i, q⟩ := hl n hn
    exact letters_ok q.nm
  · obtain ⟨i, q⟩ := hl n hn
    exact q.sc
theorem BookOk.ws {ns : List Nd} {ts : List Tr} (b : BookOk ns ts) : WsOk ns := by
  have hl : ∀ n ∈ ns, ∃ i, NdLike (ns.take i) n := fun n hn => by
    obtain ⟨i, hi⟩ := List.getElem?_of_mem hn
    exact ⟨i, b.like hi⟩
  exact ⟨fun n hn => let ⟨i, q⟩ := hl n hn; q.lo, fun n hn => let ⟨i, q⟩ := hl n hn; q.hi⟩
def rRows (K : PySem.W.Frag) (ns : List Nd) (ts : List Tr) : Rl := rTup K [rTup K (ns.map (rNd K)), rTup K (ts.map (rTr K))]
theorem needsR_app (K : PySem.W.Frag) : ∀ (i : Nat) (ns : List Nd) (n : Nd), needsR K i (ns ++ [n]) = needsR K i ns ++ [(Sum.inr n.nm, rNeed K (i + ns.length) n)]
  | i, [], n => rfl
  | i, m :: t, n => by
    show (Sum.inr m.nm, rNeed K i m) :: needsR K (i + 1) (t ++ [n]) = _
    rw [needsR_app K (i + 1) t n, List.length_cons, show i + 1 + t.length = i + (t.length + 1) by omega]
    rfl
theorem needsR_len (K : PySem.W.Frag) : ∀ (i : Nat) (ns : List Nd), (needsR K i ns).length = ns.length
  | i, [] => rfl
  | i, m :: t => by
    show (needsR K (i + 1) t).length + 1 = t.length + 1
    rw [needsR_len]
theorem DAl.app {G : Hp} : ∀ {ks : List (Key × Rl)} {vs : List (Key × V)} {k : Key} {r : Rl} {v : V}, DAl G ks vs → r.P G v → DAl G (ks ++ [(k, r)]) (vs ++ [(k, v)])
  | _, _, _, _, _, .nil, h => .cons ⟨rfl, h⟩ .nil
  | _, _, _, _, _, .cons a t, h => .cons a (DAl.app t h)
theorem DAl.len {G : Hp} {ks : List (Key × Rl)} {vs : List (Key × V)} (h : DAl G ks vs) : vs.length = ks.length := by
  induction h with
  | nil => rfl
  | cons _ _ ih => rw [List.length_cons, List.length_cons, ih]
theorem Al.app {G : Hp} : ∀ {rs : List Rl} {vs : List V} {r : Rl} {v : V}, Al G rs vs → r.P G v → Al G (rs ++ [r]) (vs ++ [v])
  | _, _, _, _, .nil, h => .cons h .nil
  | _, _, _, _, .cons a t, h => .cons a (Al.app t h)
/-- the book in the making, frozen as it stands -/
theorem book_frz {K : PySem.W.Frag} {C p dx d l : Addr} {G H : Hp} {ns : List Nd} {ts : List Tr} {kvs : List (Key × V)} {xs : List V} (le : Le G H) (hp : H p = some (.ins C dx [("needs", .ref d), ("tries", .ref l)])) (hd : H d = some (.dK kvs)) (hl : H l = some (.lst xs))
    (h1 : DAl G (needsR K 0 ns) kvs) (h2 : Al G (ts.map (rTr K)) xs) : (rBook K C d ns ts).P (frzH [p, d, l] G H) (.ref p) := by
  have up := le_frzH (ps := [p, d, l]) le
  refine ⟨p, dx, _, rfl, by rw [frzH_in (by simp)]; exact hp, .cons ⟨rfl, rfl, d, kvs, rfl, .inl (by rw [frzH_in (by simp)]; exact hd), h1.mono up⟩ (.cons ⟨rfl, l, xs, rfl, (by rw [frzH_in (by simp)]; exact hl), h2.mono up⟩ .nil)⟩
/-! ### e.f = a thing -/
section
variable {K : PySem.W.Frag} {M : Md} {σ : L2.St} {G H : Hp} {ta te : TE} {D : Ends} {tz : TS} {φ : Hp → HO → Prop} {C dx p : Addr} {fs : List (Str × V)} {f : Str}
theorem q_fldN (h : EvN M te σ G H φ) (ha : Ev M ta σ G H (rRef p)) (a : At M G H) (hp : H p = some (.ins C dx fs)) (hg : G p = none) (hW : p ∉ M.W) (c : Cls K C) (n : NoAttr K C f) (hz : fs.length < 1000) (mono : ∀ G1 G2 o, Le G1 G2 → φ G1 o → φ G2 o)
    (k : ∀ d o G' H', Go M G H G' H' → H d = none → G' d = none → H' d = some o → φ G' o → H' p = some (.ins C dx fs) → G' p = none → tz D σ (upd H' p (.ins C dx (putF f (.ref d) fs)))) (nφ : ∀ G o, φ G o → NT o := by first | exact (fun _ _ h => by subst h; exact fun _ z => (nomatch z)) | exact (fun _ _ ⟨_, h, _⟩ => by subst h; exact fun _ z => (nomatch z))) : tSeq (sFld K ta te f) tz D σ H :=
  h G H a.go _ fun d o G1 H1 e1 n1 n2 n3 fo => by
    refine ha G1 H1 e1 _ fun x G2 H2 e2 px => ?_
    have px : x = .ref p := px
    subst px
    obtain ⟨m1, m2⟩ := (e1.trans e2).gr.loc hp hg hW
    have hdW : d ∉ M.W := fun z => M.dom a.j d z n1
    obtain ⟨m3, m4⟩ := e2.gr.loc n3 n2 hdW (nφ _ _ fo)
    exact ⟨p, C, dx, fs, rfl, m1, c, n, hz, k d o G2 H2 (e1.trans e2) n1 m4 m3 (mono _ _ _ e2.gg fo) m1 m2⟩
end
/-! ### what a try of a book is like -/
structure TrLike (ns : List Nd) (seen : List Tr) (t : Tr) : Prop where
  nm : ∀ x ∈ [t.nm, t.hs, t.gp], isName x = true
  nw : t.nm ∉ seen.map Tr.nm
  un : areUnlike t.nd = true
  nd : ∀ o ∈ t.nd, o ∈ ns.map Nd.nm
  ms : areUnlike t.ms = true
  lo : (1 : Int) ≤ t.tm
  hi : t.tm ≤ 4
  mn : manyOf ns t.nd ≤ 64
theorem isTry_like {ns : List Nd} {seen : List Tr} {t : Tr} : isTry ns seen t = true ↔ TrLike ns seen t := by
  unfold isTry
  constructor
  · intro h
    split at h
    · cases h
    · rename_i c1
      split at h
      · cases h
      · rename_i c2
        split at h
        · cases h
        · rename_i c3
          simp only [Bool.or_eq_true, Bool.not_eq_true', Bool.and_eq_true, decide_eq_true_iff, decide_eq_false_iff_not, not_or, Bool.not_eq_false, Classical.not_not, Bool.and_eq_false_iff, not_and, List.all_eq_true] at c1 c2 c3 h
          exact ⟨c1.1, c1.2, c2.1, c2.2, c3.1, c3.2.1, c3.2.2, h⟩
  · rintro ⟨a1, a2, a3, a4, a5, a6, a7, a8⟩
    rw [if_neg (by simpa [a2] using a1), if_neg (by simpa [a3] using a4), if_neg (by simp [a5, a6, a7])]
    exact decide_eq_true a8
theorem BookOk.likeT {ns : List Nd} {ts : List Tr} (b : BookOk ns ts) {i : Nat} {t : Tr} (h : ts[i]? = some t) : TrLike ns (ts.take i) t := isTry_like.mp (b.t1 i t h)
theorem BookOk.likeM {ns : List Nd} {ts : List Tr} (b : BookOk ns ts) {t : Tr} (h : t ∈ ts) : ∃ seen, TrLike ns seen t := by
  obtain ⟨i, hi⟩ := List.getElem?_of_mem h
  exact ⟨_, b.likeT hi⟩
theorem TrLike.few {ns : List Nd} {seen : List Tr} {t : Tr} (q : TrLike ns seen t) : t.nd.length ≤ ns.length := by
  have := sub_len (areUnlike_nodup q.un) q.nd
  rwa [List.length_map] at this

end TH
namespace TH
open PySem PySem.Spec PyProof.Rows L2
variable [TC : TabC]
/-! ### Book.__init__ -/
def sp_init (K : PySem.W.Frag) (C : Addr) : Sp := fun vs H Q _ => ∃ (ns : List Nd) (ts : List Tr) (G H0 : Hp) (p dx : Addr) (v : V), vs = [.ref p, v] ∧ H = upd (upd H0 dx (.own p)) p (.ins C dx []) ∧ H0 p = none ∧ H0 dx = none ∧ dx ≠ p ∧ Le G H0 ∧ BookOk ns ts ∧ (rRows K ns ts).P G v ∧
  ∀ d G' H', Gr [] G H0 G' H' → (rBook K C d ns ts).P G' (.ref p) → Open d H' → Q .non H'
section
variable {P : Program} {w : World} {K : PySem.W.Frag} {mg : Str → Option Value} {base : Heap} {f : Addr} {fd : FuncData} {C : Addr}
theorem sc_Book___init__ : FnScope ["self", "rows", "needs", "tries", "number", "row", "name", "scope", "others", "ways"] ["self", "rows"] (defScope s_Book___init__) := ⟨rfl, rfl, rfl, by decide +kernel, rfl, by decide +kernel, by decide +kernel⟩
theorem fn_init (F : FnP K "__init__" "Book.__init__" s_Book___init__ f fd) (T : Top K mg) (B : TopBook K mg C) (c_is_need : C8.Met P w K mg base 3 C "is_need" (sp_is_need K C) []) (c_is_try : C8.Met P w K mg base 3 C "is_try" (sp_is_try K C) []) : FnOk P w K mg base CX0 4 f fd ["self", "rows"] (sp_init K C) := by
  refine F.ok sc_Book___init__ (fun vs H Q E h => ?_) fun cdv A outer s H vs Q E hr h => ?_
  · obtain ⟨ns, ts, G, H0, p, dx, v, e, _⟩ := h
    rw [e]
    rfl
  suffices hs : ∃ t, PSs (cxOf CX0 P w K mg base ["self", "rows", "needs", "tries", "number", "row", "name", "scope", "others", "ways"] "Book.__init__" (defScope s_Book___init__) f cdv A outer s H E).nox (defBody s_Book___init__) t ∧ t { nx := fun _ H' => Q .non H', rt := Q } (L2.start ["self", "rows", "needs", "tries", "number", "row", "name", "scope", "others", "ways"] vs) H by
    obtain ⟨t, h1, h2⟩ := hs
    exact ⟨t, h1.nox, h2⟩
  refine ⟨_, (pss_cons (ps_fld (pv 0) pe_dnewK rfl) (pss_cons (ps_fld (pv 0) (pe_lst pa_nil) rfl) (pss_cons (ps_asg (pv 1) (pg_tup rfl (pgs_cons (pg_name (i := 2) sc_Book___init__.nd rfl (Or.inl rfl)) (pgs_cons (pg_name (i := 3) sc_Book___init__.nd rfl (Or.inl rfl)) pgs_nil)))) (pss_cons (ps_for PassesOwn.never rfl (pi_enumT rfl T.z_enumerate (pa_cons (pv 2) pa_nil (star_Name _ _))) (pg_tup rfl (pgs_cons (pg_name (i := 4) sc_Book___init__.nd rfl (Or.inl rfl)) (pgs_cons (pg_name (i := 5) sc_Book___init__.nd rfl (Or.inl rfl)) pgs_nil))) (pss_cons (ps_if (PW.pt (pw_or (pt_cmpR op_eq (pv 4) (C8.pe_gc rfl T.c_MOST_NEEDS) (nomark _)) (pw_or1 (pt_not (pt_val (C8.pe_mt c_is_need hr (by first | decide | omega) (pv 0) (pa_cons (pv 5) pa_nil (star_Name _ _)))))))) (pss_one ps_never) pss_nil) (pss_cons (ps_asg (pv 5) (pg_tup rfl (pgs_cons (pg_name (i := 6) sc_Book___init__.nd rfl (Or.inl rfl)) (pgs_cons (pg_name (i := 7) sc_Book___init__.nd rfl (Or.inl rfl)) (pgs_cons (pg_name (i := 8) sc_Book___init__.nd rfl (Or.inl rfl)) (pgs_cons (pg_name (i := 9) sc_Book___init__.nd rfl (Or.inl rfl)) pgs_nil)))))) (pss_one (ps_dput (hu_of hr) (pe_fldK (K := K) rfl (pv 0) rfl) (pv 6) (pe_tup (pa_cons (pv 4) (pa_cons (pv 7) (pa_cons (pe_callTy (call_tuple_of) (by rfl) T.z_tuple (by decide +kernel) (pa_cons (pv 8) pa_nil (star_Name _ _))) (pa_cons (pv 9) pa_nil (star_Name _ _)) (star_Call _ _ _ _)) (star_Name _ _)) (star_Name _ _))) rfl))))) (pss_one (ps_for PassesOwn.never rfl (pi_enumT rfl T.z_enumerate (pa_cons (pv 3) pa_nil (star_Name _ _))) (pg_tup rfl (pgs_cons (pg_name (i := 4) sc_Book___init__.nd rfl (Or.inl rfl)) (pgs_cons (pg_name (i := 5) sc_Book___init__.nd rfl (Or.inl rfl)) pgs_nil))) (pss_cons (ps_if (PW.pt (pw_or (pt_cmpR op_eq (pv 4) (C8.pe_gc rfl T.c_MOST_TRIES) (nomark _)) (pw_or1 (pt_not (pt_val (C8.pe_mt c_is_try hr (by first | decide | omega) (pv 0) (pa_cons (pv 5) pa_nil (star_Name _ _)))))))) (pss_one ps_never) pss_nil) (pss_one (ps_expr (pe_bm PySem.F.plainAttrs_list PySem.F.slot_list_append PySem.F.type_list_append (mt_append) (pe_fldK (K := K) rfl (pv 0) rfl) (pa_cons (pe_callTy (call_tuple_of) (by rfl) T.z_tuple (by decide +kernel) (pa_cons (pv 5) pa_nil (star_Name _ _))) pa_nil (star_Call _ _ _ _)))))))))))), ?_⟩
  obtain ⟨ns, ts, G, H0, p, dx, v, rfl, rfl, hp0, hdx0, hne, le, bk, hv, hQ⟩ := h
  have hp1 : (upd H0 dx (.own p)) p = none := by rw [upd_ne (Ne.symm hne)]; exact hp0
  have g0 : Gr [] G H0 G (upd (upd H0 dx (.own p)) p (.ins C dx [])) := (Gr.own le hdx0).trans (Gr.own (Gr.own (W := []) le hdx0).gh hp1)
  have a0 : At md0 G (upd (upd H0 dx (.own p)) p (.ins C dx [])) := ⟨g0.gh, trivial⟩
  have hG : G p = none := le.free hp0
  have hp : (upd (upd H0 dx (.own p)) p (.ins C dx [])) p = some (.ins C dx []) := upd_same
  generalize (upd (upd H0 dx (.own p)) p (.ins C dx [])) = H at *
  -- self.needs = {}; self.tries = []
  refine q_fldN en_dict (ev_val rfl) a0 hp hG (by simp [md0]) B.cl B.n_needs (by simp) (fun _ _ _ _ h => h) fun d o G1 H1 e1 n1 n2 n3 fo n4 n5 => ?_
  subst fo
  have pd : p ≠ d := fun z => by subst z; rw [hp] at n1; cases n1
  have q1 : Gr [p] G H G1 (upd H1 p (.ins C dx [("needs", .ref d)])) := e1.gr.nil.putW (by simp) n5
  have a1 : At md0 G1 (upd H1 p (.ins C dx [("needs", .ref d)])) := ⟨q1.gh, trivial⟩
  have hd1 : (upd H1 p (.ins C dx [("needs", .ref d)])) d = some (.dK []) := by rw [upd_ne (Ne.symm pd)]; exact n3
  refine q_fldN (en_lst ea_nil) (ev_val rfl) a1 upd_same n5 (by simp [md0]) B.cl B.n_tries (show 1 < 1000 by decide) (fun _ _ _ e ⟨vs, h1, h2⟩ => ⟨vs, h1, h2.mono e⟩) fun l o G2 H2 e2 m1 m2 m3 fo m4 m5 => ?_
  obtain ⟨_, rfl, fo⟩ := fo
  cases fo
  have pl : p ≠ l := fun z => by subst z; rw [upd_same] at m1; cases m1
  have dl : d ≠ l := fun z => by
    subst z
    have e : (upd H1 p (.ins C dx [("needs", .ref d)])) d = none := m1
    rw [hd1] at e
    cases e
  obtain ⟨m6, m7⟩ := e2.gr.loc hd1 n2 (by simp [md0])
  have q2 : Gr [p] G H G2 (upd H2 p (.ins C dx [("needs", .ref d), ("tries", .ref l)])) := (q1.trans e2.gr.nil).putW (by simp) m5
  have k1 : (upd H2 p (.ins C dx [("needs", .ref d), ("tries", .ref l)])) p = some (.ins C dx [("needs", .ref d), ("tries", .ref l)]) := upd_same
  have k2 : (upd H2 p (.ins C dx [("needs", .ref d), ("tries", .ref l)])) d = some (.dK []) := by rw [upd_ne (Ne.symm pd)]; exact m6
  have k3 : (upd H2 p (.ins C dx [("needs", .ref d), ("tries", .ref l)])) l = some (.lst []) := by rw [upd_ne (Ne.symm pl)]; exact m3
  show tSeq _ _ _ _ (upd H2 p (.ins C dx [("needs", .ref d), ("tries", .ref l)]))
  have hd0 : H d = none := n1
  have hl0 : H l = none := by
    have : H1 l = none := by rw [upd_ne (Ne.symm pl)] at m1; exact m1
    exact e1.back this
  generalize (upd H2 p (.ins C dx [("needs", .ref d), ("tries", .ref l)])) = H3 at *
  have a3 : At md0 G2 H3 := ⟨q2.gh, trivial⟩
  -- needs, tries = rows
  refine q_unp (K := K) (rs := [rTup K (ns.map (rNd K)), rTup K (ts.map (rTr K))]) (ev_var rfl (Rl.mono _ q2.gg hv)) a3 rfl fun vs G4 H4 e4 ps => ?_
  obtain ⟨vn, vt, rfl, hn, ht⟩ := al2 ps
  refine gc_cons (gc_cons (gc_nil ?_))
  obtain ⟨k4, k5⟩ := e4.gr.loc k1 m5 (by simp [md0])
  obtain ⟨k6, k7⟩ := e4.gr.loc k2 m7 (by simp [md0])
  obtain ⟨k8, k9⟩ := e4.gr.loc k3 m2 (by simp [md0])
  have q4 : Gr [p] G H G4 H4 := q2.trans e4.gr.nil
  -- for number, row in enumerate(needs)
  refine q_for (W := [d]) (src_enumT (K := K) (ev_var rfl hn)) e4.at (by simp [md0]) (fun i σ' G' H' => ∃ kvs x1 x2 x3 x4 x5 x6, σ' = [some (.ref p), some v, some vn, some vt, x1, x2, x3, x4, x5, x6] ∧ H' p = some (.ins C dx [("needs", .ref d), ("tries", .ref l)]) ∧ G' p = none ∧ H' d = some (.dK kvs) ∧ G' d = none ∧
      H' l = some (.lst []) ∧ G' l = none ∧ DAl G' (needsR K 0 (ns.take i)) kvs) (fun G' H' e => ?_) (fun i r vr σ' G5 H5 hi hr5 g5 j5 hI N hN => ?_) (fun i r σ' G' H' G'' H'' _ g hI => ?_) fun σ' G5 H5 g5 j5 hI => ?_
  · obtain ⟨h1, h2⟩ := e.gr.loc k4 k5 (by simp [md0])
    obtain ⟨h3, h4⟩ := e.gr.loc k6 k7 (by simp [md0])
    obtain ⟨h5, h6⟩ := e.gr.loc k8 k9 (by simp [md0])
    exact ⟨[], none, none, none, none, none, none, rfl, h1, h2, h3, h4, h5, h6, .nil⟩
  · -- the body
    obtain ⟨kvs, x1, x2, x3, x4, x5, x6, rfl, i1, i2, i3, i4, i5, i6, i7⟩ := hI
    rw [numR_get, List.getElem?_map] at hi
    cases hn2 : ns[i]? with
    | none => rw [hn2] at hi; cases hi
    | some n =>
    rw [hn2] at hi
    obtain rfl : rTup K [rInt ((0 + i : Nat) : Int), rNd K n] = r := by simpa using hi
    rw [Nat.zero_add] at hr5
    have hlt : i < ns.length := (List.getElem?_eq_some_iff.mp hn2).1
    have hn12 := bk.n3
    have hmem : n ∈ ns := List.mem_of_getElem? hn2
    have lk := bk.like hn2
    refine g_tup hr5 g5.gh rfl fun vs ps => ?_
    obtain ⟨vi, vr', rfl, hvi, hvr⟩ := al2 ps
    obtain rfl : vi = .int (i : Nat) := hvi
    refine gc_cons (gc_cons (gc_nil ?_))
    have a5 : At md0 G5 H5 := ⟨g5.gh, trivial⟩
    refine q_when (B := fun b => b = (decide ((i : Int) = 12) || !isNeed (ns.take i) n)) (et_tmp (ps := [p, d, l]) (fun b hb => by rcases List.mem_cons.mp hb with rfl | hb; exact ⟨⟨_, i1, by exact ⟨fun _ z => (nomatch z), fun _ z => (nomatch z)⟩⟩, by simp [md0]⟩; rcases List.mem_cons.mp hb with rfl | hb; exact ⟨⟨_, i3, by exact ⟨fun _ z => (nomatch z), fun _ z => (nomatch z)⟩⟩, by simp [md0]⟩; rw [List.mem_singleton.mp hb]; exact ⟨⟨_, i5, by exact ⟨fun _ z => (nomatch z), fun _ z => (nomatch z)⟩⟩, by simp [md0]⟩) ?_) a5 (fun hB => ?_) fun hB G6 H6 e6 => ?_
    · have fz := book_frz (K := K) (ts := []) (ns := ns.take i) a5.le i1 i3 i5 i7 .nil
      refine et_or (et_test (ev_eqI (ev_val rfl) ev_c)) fun _ => et_not (et_B (ev_meth (E := E0) (d, ns.take i, [], n) (ev_var rfl fz) (insOf (by rfl)) (ea_cons (ev_var rfl (Rl.mono _ (le_frzH a5.le) hvr)) ea_nil) rfl fun _ _ _ => ⟨fun m hm => (bk.bk).scs m (take_in hm), bk.n2 n hmem⟩))
    · rw [bk.n1 i n hn2] at hB
      have : ¬ ((i : Int) = 12) := by omega
      rw [decide_eq_false this] at hB
      cases hB
    -- name, scope, others, ways = row
    obtain ⟨b1, b2⟩ := e6.gr.loc i1 i2 (by simp [md0])
    obtain ⟨b3, b4⟩ := e6.gr.loc i3 i4 (by simp [md0])
    obtain ⟨b5, b6⟩ := e6.gr.loc i5 i6 (by simp [md0])
    refine q_unp (K := K) (rs := [rStr n.nm, rStr n.sc, rTup K (n.ot.map rStr), rInt n.ws]) (ev_var rfl (Rl.mono _ e6.gg hvr)) e6.at rfl fun vs G7 H7 e7 ps => ?_
    obtain ⟨v1, v2, v3, v4, rfl, r1, r2, r3, r4⟩ := al4 ps
    obtain rfl : v1 = .str n.nm := r1
    obtain rfl : v2 = .str n.sc := r2
    obtain rfl : v4 = .int n.ws := r4
    refine gc_cons (gc_cons (gc_cons (gc_cons (gc_nil ?_))))
    obtain ⟨c1, c2⟩ := e7.gr.loc b1 b2 (by simp [md0])
    obtain ⟨c3, c4⟩ := e7.gr.loc b3 b4 (by simp [md0])
    obtain ⟨c5, c6⟩ := e7.gr.loc b5 b6 (by simp [md0])
    have hfew : kvs.length = i := by
      rw [i7.len, needsR_len, List.length_take]
      omega
    refine s_dput (k := .inr n.nm) (r := rNeed K i n) (ev_tup (ea_cons (ev_val rfl) (ea_cons (ev_val rfl) (ea_cons (ev_tuple (ev_var rfl r3).st) (ea_cons (ev_val rfl) ea_nil)))) (show 4 ≤ 100000 by decide)) (ev_fldM (r := rRef d) (ev_val rfl) c1 (by simp [md0]) rfl rfl B.cl B.n_needs) (ev_val rfl) e7.at c3 c4 (by simp [md0]) (by omega) fun vt' G8 H8 e8 pv d1 d2 => ?_
    obtain ⟨d3, d4⟩ := e8.gr.loc c1 c2 (by simp [md0])
    obtain ⟨d5, d6⟩ := e8.gr.loc c5 c6 (by simp [md0])
    have hnew : valV kvs (.inr n.nm) = none := by
      refine (i7.get (k := .inr n.nm)).2 ?_
      show lkD (needsR K 0 (ns.take i)) n.nm = none
      rw [lk_needs, findNd_none lk.nw]
      rfl
    have g8 : Gr [] G5 H5 G8 H8 := (e6.trans (e7.trans e8)).gr
    refine hN _ G8 _ (g8.nil.putW (by simp) d2) trivial ⟨putK kvs (.inr n.nm) vt', _, _, _, _, _, _, rfl, by rw [upd_ne pd]; exact d3, d4, upd_same, d2, by rw [upd_ne (Ne.symm dl)]; exact d5, d6, ?_⟩
    rw [putK_new _ hnew, List.take_add_one, hn2]
    show DAl G8 (needsR K 0 (ns.take i ++ [n])) _
    rw [needsR_app, List.length_take, show 0 + min i ns.length = i by omega]
    exact (i7.mono g8.gg).app pv
  · obtain ⟨kvs, x1, x2, x3, x4, x5, x6, rfl, i1, i2, i3, i4, i5, i6, i7⟩ := hI
    obtain ⟨h1, h2⟩ := g.loc i1 i2 (by simp)
    obtain ⟨h3, h4⟩ := g.loc i3 i4 (by simp)
    obtain ⟨h5, h6⟩ := g.loc i5 i6 (by simp)
    exact ⟨kvs, x1, x2, x3, x4, x5, x6, rfl, h1, h2, h3, h4, h5, h6, i7.mono g.gg⟩
  -- for number, row in enumerate(tries)
  obtain ⟨kvs, x1, x2, x3, x4, x5, x6, rfl, i1, i2, i3, i4, i5, i6, i7⟩ := hI
  rw [numR_len, List.length_map, List.take_length] at i7
  have a5 : At md0 G5 H5 := ⟨g5.gh, trivial⟩
  refine s_for (W := [l]) (src_enumT (K := K) (ev_var rfl (Rl.mono _ g5.gg ht))) a5 (by simp [md0]) (fun i σ' G' H' => ∃ xs x1 x2 y3 y4 y5 y6, σ' = [some (.ref p), some v, some vn, some vt, x1, x2, y3, y4, y5, y6] ∧ H' p = some (.ins C dx [("needs", .ref d), ("tries", .ref l)]) ∧ G' p = none ∧ H' d = some (.dK kvs) ∧ G' d = none ∧
      H' l = some (.lst xs) ∧ G' l = none ∧ Al G' ((ts.take i).map (rTr K)) xs) (fun G' H' e => ?_) (fun i r vr σ' G6 H6 hi hr6 g6 j6 hI N hN => ?_) (fun i r σ' G' H' G'' H'' _ g hI => ?_) fun σ' G6 H6 g6 j6 hI => ?_
  · obtain ⟨h1, h2⟩ := e.gr.loc i1 i2 (by simp [md0])
    obtain ⟨h3, h4⟩ := e.gr.loc i3 i4 (by simp [md0])
    obtain ⟨h5, h6⟩ := e.gr.loc i5 i6 (by simp [md0])
    exact ⟨[], x1, x2, x3, x4, x5, x6, rfl, h1, h2, h3, h4, h5, h6, .nil⟩
  · obtain ⟨xs, x1, x2, y3, y4, y5, y6, rfl, z1, z2, z3, z4, z5, z6, z7⟩ := hI
    rw [numR_get, List.getElem?_map] at hi
    cases hn2 : ts[i]? with
    | none => rw [hn2] at hi; cases hi
    | some t =>
    rw [hn2] at hi
    obtain rfl : rTup K [rInt ((0 + i : Nat) : Int), rTr K t] = r := by simpa using hi
    rw [Nat.zero_add] at hr6
    have hlt : i < ts.length := (List.getElem?_eq_some_iff.mp hn2).1
    have ht30 := bk.t3
    have hmem : t ∈ ts := List.mem_of_getElem? hn2
    refine g_tup hr6 g6.gh rfl fun vs ps => ?_
    obtain ⟨vi, vr', rfl, hvi, hvr⟩ := al2 ps
    obtain rfl : vi = .int (i : Nat) := hvi
    refine gc_cons (gc_cons (gc_nil ?_))
    have a6 : At md0 G6 H6 := ⟨g6.gh, trivial⟩
    have i7' := i7.mono g6.gg
    refine q_when (B := fun b => b = (decide ((i : Int) = 30) || !isTry ns (ts.take i) t)) (et_tmp (ps := [p, d, l]) (fun b hb => by rcases List.mem_cons.mp hb with rfl | hb; exact ⟨⟨_, z1, by exact ⟨fun _ z => (nomatch z), fun _ z => (nomatch z)⟩⟩, by simp [md0]⟩; rcases List.mem_cons.mp hb with rfl | hb; exact ⟨⟨_, z3, by exact ⟨fun _ z => (nomatch z), fun _ z => (nomatch z)⟩⟩, by simp [md0]⟩; rw [List.mem_singleton.mp hb]; exact ⟨⟨_, z5, by exact ⟨fun _ z => (nomatch z), fun _ z => (nomatch z)⟩⟩, by simp [md0]⟩) ?_) a6 (fun hB => ?_) fun hB G7 H7 e7 => ?_
    · have fz := book_frz (K := K) (ts := ts.take i) (ns := ns) a6.le z1 z3 z5 i7' z7
      refine et_or (et_test (ev_eqI (ev_val rfl) ev_c)) fun _ => et_not (et_B (ev_meth (E := E0) (d, ns, ts.take i, t) (ev_var rfl fz) (insOf (by rfl)) (ea_cons (ev_var rfl (Rl.mono _ (le_frzH a6.le) hvr)) ea_nil) rfl fun G' H' g => ⟨⟨bk.bk, bk.ws⟩, Open.go ⟨kvs, z3⟩ g.gr (by simp [md0]), by rw [List.length_take]; omega, bk.t2 t hmem⟩))
    · rw [bk.t1 i t hn2] at hB
      have : ¬ ((i : Int) = 30) := by omega
      rw [decide_eq_false this] at hB
      cases hB
    obtain ⟨b1, b2⟩ := e7.gr.loc z1 z2 (by simp [md0])
    obtain ⟨b3, b4⟩ := e7.gr.loc z3 z4 (by simp [md0])
    obtain ⟨b5, b6⟩ := e7.gr.loc z5 z6 (by simp [md0])
    have hfew : xs.length = i := by
      rw [← z7.length, List.length_map, List.length_take]
      omega
    refine s_app (r := rTr K t) (ev_fldM (r := rRef l) (ev_val rfl) b1 (by simp [md0]) rfl rfl B.cl B.n_tries) (ev_tuple (ev_var rfl (Rl.mono _ e7.gg hvr)).st) e7.at b5 b6 (by simp [md0]) (by omega) fun vt' G8 H8 e8 pv d1 d2 => ?_
    obtain ⟨d3, d4⟩ := e8.gr.loc b1 b2 (by simp [md0])
    obtain ⟨d5, d6⟩ := e8.gr.loc b3 b4 (by simp [md0])
    have g8 : Gr [] G6 H6 G8 H8 := (e7.trans e8).gr
    refine hN _ G8 _ (g8.nil.putW (by simp) d2) trivial ⟨xs ++ [vt'], _, _, _, _, _, _, rfl, by rw [upd_ne pl]; exact d3, d4, by rw [upd_ne dl]; exact d5, d6, upd_same, d2, ?_⟩
    rw [List.take_add_one, hn2]
    show Al G8 ((ts.take i ++ [t]).map (rTr K)) _
    rw [List.map_append]
    exact (z7.mono g8.gg).app pv
  · obtain ⟨xs, x1, x2, y3, y4, y5, y6, rfl, z1, z2, z3, z4, z5, z6, z7⟩ := hI
    obtain ⟨h1, h2⟩ := g.loc z1 z2 (by simp)
    obtain ⟨h3, h4⟩ := g.loc z3 z4 (by simp)
    obtain ⟨h5, h6⟩ := g.loc z5 z6 (by simp)
    exact ⟨xs, x1, x2, y3, y4, y5, y6, rfl, h1, h2, h3, h4, h5, h6, z7.mono g.gg⟩
  -- all is made
  obtain ⟨xs, x1, x2, y3, y4, y5, y6, rfl, z1, z2, z3, z4, z5, z6, z7⟩ := hI
  rw [numR_len, List.length_map, List.take_length] at z7
  have hd00 : H0 d = none := by
    cases e : H0 d with
    | none => rfl
    | some o => exact absurd hd0 (g0.dm d (by rw [e]; exact fun z => nomatch z))
  have hl00 : H0 l = none := by
    cases e : H0 l with
    | none => rfl
    | some o => exact absurd hl0 (g0.dm l (by rw [e]; exact fun z => nomatch z))
  have gA : Gr [] G H0 G6 H6 := ((g0.over q4 (by simp [hp0])).over g5 (by simp [hd00])).over g6 (by simp [hl00])
  have i7' := i7.mono g6.gg
  have gB := gA.fix hd00 z4 z3
  have gC := gB.fix (p := l) (o := .lst xs) hl00 (by rw [upd_ne (Ne.symm dl)]; exact z6) z5
  have gD := gC.fix (p := p) (o := .ins C dx [("needs", .ref d), ("tries", .ref l)]) hp0 (by rw [upd_ne pl, upd_ne pd]; exact z2) z1
  have up : Le G6 (upd (upd (upd G6 d (.dK kvs)) l (.lst xs)) p (.ins C dx [("needs", .ref d), ("tries", .ref l)])) := ((Le.new z4).trans (Le.new (by rw [upd_ne (Ne.symm dl)]; exact z6))).trans (Le.new (by rw [upd_ne pl, upd_ne pd]; exact z2))
  refine hQ d _ _ gD ⟨p, dx, _, rfl, upd_same, .cons ⟨rfl, rfl, d, kvs, rfl, .inl ?_, i7'.mono up⟩ (.cons ⟨rfl, l, xs, rfl, ?_, z7.mono up⟩ .nil)⟩ ⟨kvs, z3⟩
  · rw [upd_ne (Ne.symm pd), upd_ne dl, upd_same]
  · rw [upd_ne (Ne.symm pl), upd_same]
end

end TH
namespace TH
open PySem PySem.Spec PyProof.Rows L2
variable [TC : TabC]
theorem ofS_inj {a b : String} (h : Str.ofString a = Str.ofString b) : a = b := by
  rw [Str.ofString_eq_byList] at h
  have h := congrArg (fun x : Str => x.cps.toList) h
  have h : a.toList.map Char.toNat = b.toList.map Char.toNat := by simpa [Str.ofStringByList] using h
  have inj : ∀ {l l' : List Char}, l.map Char.toNat = l'.map Char.toNat → l = l' := by
    intro l
    induction l with
    | nil => intro l' h; cases l' with
      | nil => rfl
      | cons _ _ => cases h
    | cons x t ih =>
      intro l' h
      cases l' with
      | nil => cases h
      | cons y u =>
        injection h with h1 h2
        rw [ih h2]
        have : x = y := by
          apply Char.ext
          apply UInt32.toNat_inj.mp
          exact h1
        rw [this]
  exact String.toList_inj.mp (inj h)
theorem ofS_beq (a b : String) : (Str.ofString a == Str.ofString b) = (a == b) := by
  rw [Bool.eq_iff_iff, beq_iff_eq, beq_iff_eq]
  exact ⟨ofS_inj, fun h => h ▸ rfl⟩
theorem ofS_eq (a b : String) : (Str.ofString a = Str.ofString b) = (a = b) := propext ⟨ofS_inj, fun h => h ▸ rfl⟩
theorem isName_fit {x : Str} (h : isName x = true) : x.length ≤ 100000 := Nat.le_trans (name_len h) (by decide)
/-! ### books, rows as plain values -/
def pStrs (xs : List Str) : PV := .tup (xs.map PV.str)
def pNd (n : Nd) : PV := .tup [.str n.nm, .str n.sc, pStrs n.ot, .int n.ws]
def pTr (t : Tr) : PV := .tup [.str t.nm, .str t.hs, .str t.gp, pStrs t.nd, pStrs t.ms, .int t.tm, .bl t.ex]
def pRows (ns : List Nd) (ts : List Tr) : PV := .tup [.tup (ns.map pNd), .tup (ts.map pTr)]
def pNeed (i : Nat) (n : Nd) : PV := .tup [.int i, .str n.sc, pStrs n.ot, .int n.ws]
def pNeeds : Nat → List Nd → List (Key × PV)
  | _, [] => []
  | i, n :: t => (Sum.inr n.nm, pNeed i n) :: pNeeds (i + 1) t
def pBook (C : Addr) (ns : List Nd) (ts : List Tr) : PV := .ins C [("needs", .dct (pNeeds 0 ns)), ("tries", .lst (ts.map pTr))]
section
variable (K : PySem.W.Frag)
theorem rPs_of {α : Type} {f : α → PV} {g : α → Rl} (h : ∀ x, rPV K (f x) = g x) (xs : List α) : rPs K (xs.map f) = xs.map g := by
  rw [rPs_map, List.map_map]
  exact List.map_congr_left fun x _ => h x
theorem r_strs (xs : List Str) : rPV K (pStrs xs) = rTup K (xs.map rStr) := by
  show rTup K (rPs K (xs.map PV.str)) = _
  rw [rPs_of K (g := rStr) fun _ => rfl]
theorem r_nd (n : Nd) : rPV K (pNd n) = rNd K n := by
  show rTup K [rPV K (.str n.nm), rPV K (.str n.sc), rPV K (pStrs n.ot), rPV K (.int n.ws)] = _
  rw [r_strs]
  rfl
theorem r_tr (t : Tr) : rPV K (pTr t) = rTr K t := by
  show rTup K [rPV K (.str t.nm), rPV K (.str t.hs), rPV K (.str t.gp), rPV K (pStrs t.nd), rPV K (pStrs t.ms), rPV K (.int t.tm), rPV K (.bl t.ex)] = _
  rw [r_strs, r_strs]
  rfl
theorem r_rows (ns : List Nd) (ts : List Tr) : rPV K (pRows ns ts) = rRows K ns ts := by
  show rTup K [rTup K (rPs K (ns.map pNd)), rTup K (rPs K (ts.map pTr))] = _
  rw [rPs_of K (r_nd K), rPs_of K (r_tr K)]
  rfl
theorem r_needs : ∀ (i : Nat) (ns : List Nd), rPV.rKvs K (pNeeds i ns) = needsR K i ns
  | _, [] => rfl
  | i, n :: t => by
    show (Sum.inr n.nm, rPV K (pNeed i n)) :: rPV.rKvs K (pNeeds (i + 1) t) = _
    rw [r_needs (i + 1) t]
    have e : rPV K (pNeed i n) = rNeed K i n := by
      show rTup K [rPV K (.int i), rPV K (.str n.sc), rPV K (pStrs n.ot), rPV K (.int n.ws)] = _
      rw [r_strs]
      rfl
    rw [e]
    rfl
theorem r_book {C d : Addr} {ns : List Nd} {ts : List Tr} {G : Hp} {v : V} (h : (rBook K C d ns ts).P G v) : (rPV K (pBook C ns ts)).P G v := by
  obtain ⟨a, dx, vs, h1, h2, h3⟩ := h
  refine ⟨a, dx, vs, h1, h2, ?_⟩
  show FAl G [("needs", rDct (rPV.rKvs K (pNeeds 0 ns))), ("tries", rLsH (rPs K (ts.map pTr)))] vs
  rw [r_needs, rPs_of K (r_tr K)]
  cases h3 with
  | cons q1 t =>
    cases t with
    | cons q2 t =>
      cases t
      exact .cons ⟨q1.1, rDctAt_d q1.2⟩ (.cons q2 .nil)
theorem r_bookX {C : Addr} {ns : List Nd} {ts : List Tr} {G : Hp} {v : V} (h : (rPV K (pBook C ns ts)).P G v) : ∃ d, (rBook K C d ns ts).P G v := by
  obtain ⟨a, dx, vs, h1, h2, h3⟩ := h
  have h3 : FAl G [("needs", rDct (rPV.rKvs K (pNeeds 0 ns))), ("tries", rLsH (rPs K (ts.map pTr)))] vs := h3
  rw [r_needs, rPs_of K (r_tr K)] at h3
  cases h3 with
  | cons q1 t =>
    cases t with
    | cons q2 t =>
      cases t
      obtain ⟨d, ws, e, z⟩ := q1.2
      exact ⟨d, a, dx, _, h1, h2, .cons ⟨q1.1, e, d, ws, e, z⟩ (.cons q2 .nil)⟩
end
/-! ### defs known by relations, told of plain values -/
theorem al_of_pv {K : PySem.W.Frag} {s : Cs} : ∀ {ps : List PV} {vs : List V}, Paired (avS K s) (ps.map AV.pv) vs → Al s.G (rPs K ps) vs
  | [], _, .nil => .nil
  | _ :: _, _, .cons h t => .cons h (al_of_pv t)
/-- a def of values alone -/
def acP {ι : Type} (pre : ι → Prop) (args : ι → List PV) (res : ι → PV) : AC := fun avs A k => ∃ i, avs = (args i).map AV.pv ∧ A = [] ∧ pre i ∧ k (.pv (res i)) []
theorem le_P {K : PySem.W.Frag} {ι κ : Type} {pre : ι → Prop} {args : ι → List PV} {res : ι → PV} {pre' : κ → Hp → Hp → Prop} {args' : κ → List Rl} {res' : κ → Rl} (f : ι → κ) (h1 : ∀ i G H, pre i → pre' (f i) G H) (h2 : ∀ i, rPs K (args i) = args' (f i)) (h3 : ∀ i G v, (res' (f i)).P G v → (rPV K (res i)).P G v) :
    SpLe (spA K (acP pre args res)) (spP pre' args' res') := fun vs H Q E ⟨s, avs, Kc, e, r, p, ⟨i, ea, eA, hp, hk⟩, q⟩ => by
  subst e ea
  have al := al_of_pv p
  rw [h2] at al
  refine ⟨f i, s.G, r.le, h1 i s.G s.H hp, al, fun v G' H' g pv => ?_⟩
  have hl : s.A.length = 0 := by rw [eA]; rfl
  refine q (.pv (res i)) v { s with G := G', H := H' } (r.pure g) rfl (h3 i G' v pv) ?_
  show Kc (.pv (res i)) s.A
  rw [eA]
  exact hk
def ac_is_name : AC := acP (ι := Str) (fun x => x.length ≤ 100000) (fun x => [.str x]) (fun x => .bl (isName x))
theorem le_is_name {K : PySem.W.Frag} : SpLe (spA K ac_is_name) sp_is_name := le_P id (fun _ _ _ h => h) (fun _ => rfl) (fun _ _ _ h => h)
/-! ### Book(rows) -/
def aBook (C : Addr) (r : aTA) : aTE := fun sa A k => r sa A fun avs A1 => ∃ ns ts, avs = [.pv (pRows ns ts)] ∧ BookOk ns ts ∧ k (.pv (pBook C ns ts)) A1
theorem sim_book {K : PySem.W.Frag} {m : Bool} {C : Addr} {r : aTA} {t : TA} {E : XK} (ha : SimA K m r t) : SimE K m (aBook C r) (tMake C (sp_init K C) [] E t) := fun {B s sa σ} rp g {Kc Q} q h =>
  ha rp g (fun avs vs s1 e1 ps k => fun x dx hx hdx ne => by
    obtain ⟨ns, ts, rfl, ok, k⟩ := k
    cases ps with
    | cons p ps =>
      cases ps
      rename_i v
      rw [List.append_nil]
      have p : (rPV K (pRows ns ts)).P s1.G v := p
      rw [r_rows] at p
      refine ⟨ns, ts, s1.G, s1.H, x, dx, v, rfl, rfl, hx, hdx, ne, e1.rep.le, ok, p, fun d G' H' gr pb _ => ⟨rfl, ?_⟩⟩
      exact q (.pv (pBook C ns ts)) (.ref x) { s1 with G := G', H := H' } (e1.trans (.of e1.rep gr)) (r_book K pb) k) h

end TH
namespace TH
open PySem PySem.Spec PyProof.Rows L2
variable [TC : TabC]
/-! ### draws -/
theorem ixN_mod {n : Nat} {i : Int} (h : 0 < n) : ixN n (i % (n : Int)) = some (i % (n : Int)).toNat := by
  have h1 : 0 ≤ i % (n : Int) := Int.emod_nonneg _ (by omega)
  have h2 : i % (n : Int) < n := Int.emod_lt_of_pos _ (by omega)
  unfold ixN
  rw [if_pos h1, if_pos h2]
section
variable {P : Program} {w : World} {K : PySem.W.Frag} {mg : Str → Option Value} {base : Heap} {f : Addr} {fd : FuncData}
theorem sc__law_next : FnScope ["_law_h", "_law_many", "_law_cell"] ["_law_h", "_law_many"] (defScope s__law_next) := ⟨rfl, rfl, rfl, by decide +kernel, rfl, by decide +kernel, by decide +kernel⟩
theorem fn_law_next (F : FnP K "_law_next" "_law_next" s__law_next f fd) (T : Top K mg) : FnOk P w K mg base CX0 1 f fd ["_law_h", "_law_many"] sp_next := by
  refine F.ok sc__law_next (fun vs H Q E h => ?_) fun cdv A outer s H vs Q E hr h => ?_
  · obtain ⟨h, l, n, G, e, _⟩ := h
    rw [e]
    rfl
  suffices hs : ∃ t, PSs (cxOf CX0 P w K mg base ["_law_h", "_law_many", "_law_cell"] "_law_next" (defScope s__law_next) f cdv A outer s H E).nox (defBody s__law_next) t ∧ t { nx := fun _ H' => Q .non H', rt := Q } (L2.start ["_law_h", "_law_many", "_law_cell"] vs) H by
    obtain ⟨t, h1, h2⟩ := hs
    exact ⟨t, h1.nox, h2⟩
  refine ⟨_, (pss_cons (ps_set (i := 2) sc__law_next.nd rfl (Or.inl rfl) (pe_ix ix_list (pe_op op_cat (pe_ix ix_list (pv 0) pe_int (fun _ _ => rfl)) (pe_lst (pa_cons pe_int pa_nil (star_Constant _ _ _)))) (pe_op op_mod (pe_ix ix_list (pv 0) pe_int (fun _ _ => rfl)) (pe_callB (call_max2 rfl) (by rfl) T.z_max (by decide +kernel) (pa_cons pe_int (pa_cons (pe_callB (call_len_seq) (by rfl) T.z_len PySem.boot_len (pa_cons (pe_ix ix_list (pv 0) pe_int (fun _ _ => rfl)) pa_nil (star_Subscript _ _ _))) pa_nil (star_Call _ _ _ _)) (star_Constant _ _ _)))) (fun _ _ => rfl))) (pss_cons (ps_if (pt_cmpR op_ge (pv 2) (pe_op op_pow pe_int pe_int) (nomark _)) (pss_cons (ps_asg (pe_op op_fdiv (pv 2) (pv 1)) (pg_sub (pe_ix ix_list (pv 0) pe_int (fun _ _ => rfl)) (pe_op op_mod (pe_ix ix_list (pv 0) pe_int (fun _ _ => rfl)) (pe_callB (call_len_seq) (by rfl) T.z_len PySem.boot_len (pa_cons (pe_ix ix_list (pv 0) pe_int (fun _ _ => rfl)) pa_nil (star_Subscript _ _ _)))) set_list)) (pss_one (ps_ret (pe_op op_mod (pv 2) (pv 1))))) pss_nil) (pss_cons (ps_asg (pe_op op_mod (pe_op op_add (pe_op op_add (pe_op op_mul (pe_ix ix_list (pv 0) pe_int (fun _ _ => rfl)) pe_int) (pe_op op_mul (pv 2) pe_int)) pe_int) pe_int) (pg_sub (pv 0) pe_int set_list)) (pss_cons (ps_asg (pe_op op_add (pe_ix ix_list (pv 0) pe_int (fun _ _ => rfl)) pe_int) (pg_sub (pv 0) pe_int set_list)) (pss_one (ps_ret (pe_op op_mod (pe_op op_fdiv (pe_ix ix_list (pv 0) pe_int (fun _ _ => rfl)) pe_int) (pv 1)))))))), ?_⟩
  obtain ⟨h, l, n, G, rfl, n1, n2, le, hh, hl, hne, ⟨m, i, cells, j1, j2, j3⟩, hQ⟩ := h
  have a0 : At md0 G H := ⟨le, trivial⟩
  have J : ∀ {G' H' : Hp} {m i : Int} {cells : List Int}, H' h = some (.lst [.int m, .ref l, .int i]) → H' l = some (.lst (cells.map V.int)) → cells.length ≤ 1000 → JS h l H' := fun h1 h2 h3 => ⟨_, _, _, h1, h2, h3⟩
  -- the cell
  have hidx : ∃ c, atI ((cells.map V.int) ++ [V.int 0]) (i % (if ((cells.map V.int).length : Int) > 1 then ((cells.map V.int).length : Int) else 1)) = some (.int c) ∧ (c ≥ 10 ^ 18 → cells ≠ []) := by
    by_cases hc : cells = []
    · subst hc
      refine ⟨0, ?_, fun z => absurd z (by decide)⟩
      show atI [V.int 0] (i % 1) = _
      rw [Int.emod_one]
      rfl
    · have hp : 0 < cells.length := List.length_pos_iff.mpr hc
      have e : (if ((cells.map V.int).length : Int) > 1 then ((cells.map V.int).length : Int) else 1) = (cells.length : Int) := by
        rw [List.length_map]
        split <;> omega
      rw [e]
      have h1 : 0 ≤ i % (cells.length : Int) := Int.emod_nonneg _ (by omega)
      have h2 : i % (cells.length : Int) < cells.length := Int.emod_lt_of_pos _ (by omega)
      refine ⟨cells[(i % (cells.length : Int)).toNat]'(by omega), ?_, fun _ => hc⟩
      unfold atI ixN
      rw [if_pos h1, if_pos (by simp; omega)]
      show ((cells.map V.int) ++ [V.int 0])[_]? = _
      rw [List.getElem?_append_left (by simp; omega), List.getElem?_map, List.getElem?_eq_getElem (by omega)]
      rfl
  obtain ⟨c, hc1, hc2⟩ := hidx
  have mx : (0 : Int) < (if ((cells.map V.int).length : Int) > 1 then ((cells.map V.int).length : Int) else 1) := by split <;> omega
  refine q_asgV (v := .int c) (ev_ixL (K := K) (EvN.vals (xs := (cells.map V.int) ++ [V.int 0]) (en_catM (ys := [V.int 0]) (ev_ixM (K := K) (ev_val rfl) j1 (by simp [md0]) ev_c rfl) j2 (by simp [md0]) (en_lst (ea_cons ev_c ea_nil) (show 1 ≤ 100000 by decide)) (by simp; omega)))
    (ev_I (ev_ixM (K := K) (v := .int i) (ev_val rfl) j1 (by simp [md0]) ev_c rfl) (ev_max2 ev_c (ev_lenM (K := K) (ev_ixM (K := K) (ev_val rfl) j1 (by simp [md0]) ev_c rfl) j2 (by simp [md0]))) mx) ?_) a0 fun G1 H1 e1 => ?_
  · unfold atI at hc1 ⊢
    rw [List.length_map]
    cases e : ixN ((cells.map V.int) ++ [V.int 0]).length (i % (if ((cells.map V.int).length : Int) > 1 then ((cells.map V.int).length : Int) else 1)) with
    | none => rw [e] at hc1; cases hc1
    | some j =>
      rw [e] at hc1
      show (((cells.map V.int) ++ [V.int 0]).map rV)[j]? = _
      rw [List.getElem?_map]
      have hc1 : ((cells.map V.int) ++ [V.int 0])[j]? = some (.int c) := hc1
      rw [hc1]
      rfl
  obtain ⟨k1, k2⟩ := e1.gr.loc j1 hh (by simp [md0])
  obtain ⟨k3, k4⟩ := e1.gr.loc j2 hl (by simp [md0])
  refine q_when (et_test (ev_I0 (g := fun i j => .bl (decide (i ≥ j))) (ev_val (v := .int c) rfl) (ev_I (g := fun i j => .int (i ^ j.toNat)) ev_c ev_c ⟨by decide, by decide, by decide⟩))) e1.at (fun hB G2 H2 e2 => ?_) fun hB G2 H2 e2 => ?_
  · have big : c ≥ 10 ^ 18 := of_decide_eq_true hB.symm
    have hp : 0 < cells.length := List.length_pos_iff.mpr (hc2 big)
    obtain ⟨k5, k6⟩ := e2.gr.loc k1 k2 (by simp [md0])
    obtain ⟨k7, k8⟩ := e2.gr.loc k3 k4 (by simp [md0])
    refine q_setL (r := rInt (c / n)) (i := i % (cells.length : Int)) (ev_I (ev_val rfl) (ev_val rfl) ⟨by omega, n2⟩) (ev_ixM (K := K) (v := .ref l) (ev_val rfl) k5 (by simp [md0]) ev_c rfl) ?_ e2.at k7 k8 (by simp [md0]) (j := (i % (cells.length : Int)).toNat) ?_ fun v G3 H3 e3 pv m1 m2 => ?_
    · have := ev_I (M := md0) (σ := [some (.ref h), some (.int n), some (.int c)]) (G := G2) (H := H2) (C := fun _ j => 0 < j) (g := fun i j => .int (i % j)) (ta := tOp (rIxL K) (tVar 0) (tC (.int 2))) (ev_ixM (K := K) (v := .int i) (ev_val rfl) k5 (by simp [md0]) ev_c rfl) (ev_lenM (K := K) (ev_ixM (K := K) (v := .ref l) (ev_val (i := 0) rfl) k5 (by simp [md0]) (ev_c (v := .int 1)) rfl) k7 (by simp [md0])) (by simp; omega)
      rw [List.length_map] at this
      exact this
    · rw [List.length_map]
      exact ixN_mod hp
    · obtain rfl : v = .int (c / n) := pv
      have g3 : Gr [] G H G3 H3 := (e1.trans (e2.trans e3)).gr
      have g4 : Gr [h, l] G H G3 (upd H3 l (.lst ((cells.map V.int).set (i % (cells.length : Int)).toNat (.int (c / n))))) := g3.nil.putW (by simp) m2
      have a4 : At md0 G3 (upd H3 l (.lst ((cells.map V.int).set (i % (cells.length : Int)).toNat (.int (c / n))))) := ⟨g4.gh, trivial⟩
      obtain ⟨k9, k10⟩ := e3.gr.loc k5 k6 (by simp [md0])
      refine s_ret (ev_I (g := fun i j => .int (i % j)) (ev_val (v := .int c) rfl) (ev_val (v := .int n) rfl) (by show 0 < n; omega)) a4 fun v G5 H5 e5 p => ?_
      obtain rfl : v = .int (c % n) := p
      refine hQ _ G5 H5 (Int.emod_nonneg _ (by omega)) (Int.emod_lt_of_pos _ (by omega)) (g4.trans e5.gr.nil) ⟨m, i, cells.set (i % (cells.length : Int)).toNat (c / n), ?_, ?_, by rw [List.length_set]; exact j3⟩
      · exact e5.gr.hh h _ (by rw [upd_ne hne]; exact k9) (by simp [md0])
      · refine e5.gr.hh l _ ?_ (by simp [md0])
        rw [upd_same, List.map_set]
  · obtain ⟨k5, k6⟩ := e2.gr.loc k1 k2 (by simp [md0])
    obtain ⟨k7, k8⟩ := e2.gr.loc k3 k4 (by simp [md0])
    refine q_setL (r := rInt ((m * 48271 + c * 69621 + 11) % 2147483647)) (i := 0) (ev_I (ev_I0 (ev_I0 (ev_I (ev_ixM (K := K) (v := .int m) (ev_val rfl) k5 (by simp [md0]) ev_c rfl) ev_c (.inr ⟨by decide, by decide⟩)) (ev_I (ev_val rfl) ev_c (.inr ⟨by decide, by decide⟩))) ev_c) ev_c (by decide)) (ev_val rfl) ev_c e2.at k5 k6 (by simp [md0]) (j := 0) rfl fun v G3 H3 e3 pv m1 m2 => ?_
    obtain rfl : v = .int ((m * 48271 + c * 69621 + 11) % 2147483647) := pv
    generalize (m * 48271 + c * 69621 + 11) % 2147483647 = mm
    have g3 : Gr [] G H G3 H3 := (e1.trans (e2.trans e3)).gr
    have g4 : Gr [h, l] G H G3 (upd H3 h (.lst [.int mm, .ref l, .int i])) := g3.nil.putW (by simp) m2
    have a4 : At md0 G3 (upd H3 h (.lst [.int mm, .ref l, .int i])) := ⟨g4.gh, trivial⟩
    obtain ⟨k9, k10⟩ := e3.gr.loc k7 k8 (by simp [md0])
    show tSeq _ _ _ _ (upd H3 h (.lst [.int mm, .ref l, .int i]))
    refine q_setL (r := rInt (i + 1)) (i := 2) (ev_I0 (ev_ixM (K := K) (v := .int i) (ev_val rfl) upd_same (by simp [md0]) ev_c rfl) ev_c) (ev_val rfl) ev_c a4 upd_same m2 (by simp [md0]) (j := 2) rfl fun v G5 H5 e5 pv m3 m4 => ?_
    obtain rfl : v = .int (i + 1) := pv
    have g6 : Gr [h, l] G H G5 (upd H5 h (.lst [.int mm, .ref l, .int (i + 1)])) := (g4.trans e5.gr.nil).putW (by simp) m4
    have a6 : At md0 G5 (upd H5 h (.lst [.int mm, .ref l, .int (i + 1)])) := ⟨g6.gh, trivial⟩
    have k11 := e5.gr.hh l _ (show upd H3 h (.lst [.int mm, .ref l, .int i]) l = _ by rw [upd_ne (Ne.symm hne)]; exact k9) (by simp [md0])
    show tRet _ _ _ (upd H5 h (.lst [.int mm, .ref l, .int (i + 1)]))
    refine s_ret (r := rInt (mm / 7 % n)) (ev_I (ev_I (ev_ixM (K := K) (v := .int mm) (ev_val rfl) upd_same (by simp [md0]) ev_c rfl) ev_c ⟨by decide, by decide⟩) (ev_val rfl) (by show 0 < n; omega)) a6 fun v G7 H7 e7 p => ?_
    obtain rfl : v = .int (mm / 7 % n) := p
    refine hQ _ G7 H7 (Int.emod_nonneg _ (by omega)) (Int.emod_lt_of_pos _ (by omega)) (g6.trans e7.gr.nil) ⟨mm, i + 1, cells, ?_, ?_, j3⟩
    · exact e7.gr.hh h _ upd_same (by simp [md0])
    · exact e7.gr.hh l _ (by rw [upd_ne (Ne.symm hne)]; exact k11) (by simp [md0])
end

end TH
namespace TH
open PySem PySem.Spec PyProof.Rows L2
variable [TC : TabC]
/-! ### the state made -/
def sp_mix (K : PySem.W.Frag) : Sp := fun vs H Q _ => ∃ (v : V) (seed : Int) (cells : List Int) (G : Hp), vs = [v, .int seed] ∧ cells.length ≤ 1000 ∧ Le G H ∧ (rLst K (cells.map rInt)).P G v ∧
  ∀ h l G' H', Gr [] G H G' H' → H h = none → H l = none → G' h = none → G' l = none → h ≠ l → JS h l H' → Q (.ref h) H'
section
variable {K : PySem.W.Frag} {σ : L2.St} {G H : Hp} {D : Ends} {tz : TS} {E : XK} {t : TA} {v : V}
/-- h = _law_mix(script, seed): from here on the law draws -/
theorem q_mix {i : Nat} {seed : Int} {cells : List Int} (ha : EvA md0 t σ G H [rLst K (cells.map rInt), rInt seed]) (hc : cells.length ≤ 1000) (a : At md0 G H)
    (k : ∀ h l G' H', Gr [] G H G' H' → SS h l G' H' → tz D (σ.set i (some (.ref h))) H') : tSeq (tAsg (tCall (sp_mix K) [] E t) (gName i)) tz D σ H :=
  ha G H a.go _ fun vs G1 H1 e ps => by
    obtain ⟨v1, v2, rfl, p1, p2⟩ := al2 ps
    obtain rfl : v2 = .int seed := p2
    exact ⟨v1, seed, cells, G1, rfl, hc, e.at.le, p1, fun h l G2 H2 g _ _ n1 n2 ne j => k h l G2 H2 (e.gr.trans g) ⟨n1, n2, ne, j⟩⟩
end
section
variable {P : Program} {w : World} {K : PySem.W.Frag} {mg : Str → Option Value} {base : Heap} {f : Addr} {fd : FuncData}
theorem sc__law_mix : FnScope ["_law_script", "_law_seed", "_law_mixed", "_law_cell"] ["_law_script", "_law_seed"] (defScope s__law_mix) := ⟨rfl, rfl, rfl, by decide +kernel, rfl, by decide +kernel, by decide +kernel⟩
theorem fn_law_mix (F : FnP K "_law_mix" "_law_mix" s__law_mix f fd) (T : Top K mg) : FnOk P w K mg base CX0 1 f fd ["_law_script", "_law_seed"] (sp_mix K) := by
  refine F.ok sc__law_mix (fun vs H Q E h => ?_) fun cdv A outer s H vs Q E hr h => ?_
  · obtain ⟨v, seed, cells, G, e, _⟩ := h
    rw [e]
    rfl
  suffices hs : ∃ t, PSs (cxOf CX0 P w K mg base ["_law_script", "_law_seed", "_law_mixed", "_law_cell"] "_law_mix" (defScope s__law_mix) f cdv A outer s H E).nox (defBody s__law_mix) t ∧ t { nx := fun _ H' => Q .non H', rt := Q } (L2.start ["_law_script", "_law_seed", "_law_mixed", "_law_cell"] vs) H by
    obtain ⟨t, h1, h2⟩ := hs
    exact ⟨t, h1.nox, h2⟩
  refine ⟨_, (pss_cons (ps_set (i := 2) sc__law_mix.nd rfl (Or.inl rfl) (pv 1)) (pss_cons (ps_for PassesOwn.never rfl (pi_list (pv 0)) (pg_name (i := 3) sc__law_mix.nd rfl (Or.inl rfl)) (pss_one (ps_set (i := 2) sc__law_mix.nd rfl (Or.inl rfl) (pe_op op_mod (pe_op op_add (pe_op op_add (pe_op op_mul (pv 2) pe_int) (pe_op op_mod (pv 3) pe_int)) pe_int) pe_int)))) (pss_one (ps_ret (pe_lst (pa_cons (pv 2) (pa_cons (pe_callTy (call_list_of) (by rfl) T.z_list (by decide +kernel) (pa_cons (pv 0) pa_nil (star_Name _ _))) (pa_cons pe_int pa_nil (star_Constant _ _ _)) (star_Call _ _ _ _)) (star_Name _ _))))))), ?_⟩
  obtain ⟨v, seed, cells, G, rfl, hc, le, hv, hQ⟩ := h
  have a0 : At md0 G H := ⟨le, trivial⟩
  refine q_asgV (v := .int seed) (ev_val rfl) a0 fun G1 H1 e1 => ?_
  refine q_for (W := []) (src_lst (K := K) (ev_var rfl (Rl.mono _ e1.gg hv))) e1.at (by simp [md0]) (fun i σ' _ _ => ∃ (m : Int) (x : Option V), σ' = [some v, some (.int seed), some (.int m), x]) (fun _ _ _ => ⟨seed, none, rfl⟩) (fun i r vr σ' G2 H2 hi hr2 g2 j2 hI N hN => ?_) (fun _ _ _ _ _ _ _ _ _ h => h) fun σ' G2 H2 g2 j2 hI => ?_
  · obtain ⟨m, x, rfl⟩ := hI
    rw [List.getElem?_map, Option.map_eq_some_iff] at hi
    obtain ⟨c, hi, rfl⟩ := hi
    obtain rfl : vr = .int c := hr2
    refine s_asg (r := rInt ((m * 48271 + c % 2147483629 + 1) % 2147483647)) (ev_I (ev_I0 (ev_I0 (ev_I (ev_val rfl) ev_c (.inr ⟨by decide, by decide⟩)) (ev_I (ev_val rfl) ev_c (by decide))) ev_c) ev_c (by decide)) ⟨g2.gh, j2⟩ fun v' G3 H3 e3 pv => ?_
    obtain rfl : v' = .int _ := pv
    exact hN _ G3 H3 e3.gr trivial ⟨_, _, rfl⟩
  · obtain ⟨m, x, rfl⟩ := hI
    have hv2 : (rLst K (cells.map rInt)).P G2 v := Rl.mono _ (e1.gg.trans g2.gg) hv
    have a2 : At md0 G2 H2 := ⟨g2.gh, trivial⟩
    show tLst _ _ H2 _
    refine ⟨_, rfl, en_list (K := K) (ev_var (i := 0) rfl hv2).sl G2 H2 a2.go _ fun l o G3 H3 e3 n1 n2 n3 ⟨vs, f1, f2⟩ => ⟨show 3 ≤ sizeLine by decide, fun h hh => ?_⟩⟩
    subst f1
    have f3 : vs = cells.map V.int := Al.vals f2
    subst f3
    have g3 : Gr [] G H G3 H3 := (e1.gr.trans g2).trans e3.gr
    have hl : h ≠ l := fun z => by subst z; rw [n3] at hh; cases hh
    refine hQ h l G3 (upd H3 h (.lst [.int m, .ref l, .int 0])) (g3.trans (e3.at.own hh).gr) ((Gr.go g3 trivial (M := md0) (W' := [])).back hh) ((Gr.go (e1.gr.trans g2) trivial (M := md0) (W' := [])).back n1) (e3.at.le.free hh) n2 hl ⟨m, 0, cells, upd_same, ?_, hc⟩
    rw [upd_ne (Ne.symm hl)]
    exact n3
end

end TH
namespace TH
open PySem PySem.Spec PyProof.Rows L2
variable [TC : TabC]
/-! ### _law_alike -/
section
variable {P : Program} {w : World} {K : PySem.W.Frag} {mg : Str → Option Value} {base : Heap} {f : Addr} {fd : FuncData}
theorem sc__law_alike : FnScope ["_law_found", "_law_due", "_law_k"] ["_law_found", "_law_due"] (defScope s__law_alike) := ⟨rfl, rfl, rfl, by decide +kernel, rfl, by decide +kernel, by decide +kernel⟩
theorem fn_law_alike {ps : List Str} (hps : ps = (["_law_found", "_law_due"] : List Str)) (F : FnP K "_law_alike" "_law_alike" s__law_alike f fd) (T : Top K mg) (W : ∀ k sp, FnOk P w K mg base CX0 k f fd ps sp → C8.Cal P w K mg base k "_law_alike" sp []) : ∀ n, FnOk P w K mg base CX0 n f fd ps (sp_alike K n)
  | 0 => ⟨fun _ _ _ _ h => False.elim h, fun _ _ _ _ _ _ _ _ _ _ _ _ _ h => False.elim h⟩
  | n + 1 => by
    have c_alike := W n _ (fn_law_alike hps F T W n)
    subst hps
    refine fn_pure F sc__law_alike (fun _ => rfl) fun cdv A outer s H E hr => ⟨_, (pss_cons (ps_if (pt_val (pe_callB (call_isiT) (by rfl) T.z_isinstance (by decide +kernel) (pa_cons (pv 1) (pa_cons (pe_tup (pa_cons (pe_bltn (v := .ty "tuple") rfl T.z_tuple (by decide +kernel) rfl) (pa_cons (pe_bltn (v := .ty "list") rfl T.z_list (by decide +kernel) rfl) pa_nil (star_Name _ _)) (star_Name _ _))) pa_nil (star_Tuple _ _ _)) (star_Name _ _)))) (pss_cons (ps_if (PW.pt (pw_or (pt_not (pt_val (pe_callB (call_isiT) (by rfl) T.z_isinstance (by decide +kernel) (pa_cons (pv 0) (pa_cons (pe_tup (pa_cons (pe_bltn (v := .ty "tuple") rfl T.z_tuple (by decide +kernel) rfl) (pa_cons (pe_bltn (v := .ty "list") rfl T.z_list (by decide +kernel) rfl) pa_nil (star_Name _ _)) (star_Name _ _))) pa_nil (star_Tuple _ _ _)) (star_Name _ _))))) (pw_or1 (pt_cmpR op_ne (pe_callB (call_isi) (by rfl) T.z_isinstance (by decide +kernel) (pa_cons (pv 0) (pa_cons (pe_bltn (v := .ty "list") rfl T.z_list (by decide +kernel) rfl) pa_nil (star_Name _ _)) (star_Name _ _))) (pe_callB (call_isi) (by rfl) T.z_isinstance (by decide +kernel) (pa_cons (pv 1) (pa_cons (pe_bltn (v := .ty "list") rfl T.z_list (by decide +kernel) rfl) pa_nil (star_Name _ _)) (star_Name _ _))) (nomark _))))) (pss_one (ps_ret pe_bl)) pss_nil) (pss_cons (ps_if (pt_cmpR op_ne (pe_callB (call_len_seq) (by rfl) T.z_len PySem.boot_len (pa_cons (pv 0) pa_nil (star_Name _ _))) (pe_callB (call_len_seq) (by rfl) T.z_len PySem.boot_len (pa_cons (pv 1) pa_nil (star_Name _ _))) (nomark _)) (pss_one (ps_ret pe_bl)) pss_nil) (pss_one (ps_ret (pe_cmpR (op_eqD hr.units) (pe_lc (own := [("_law_k", 2)]) rfl sc__law_alike.nd (pi_range1 rfl T.z_range (pa_cons (pe_callB (call_len_seq) (by rfl) T.z_len PySem.boot_len (pa_cons (pv 1) pa_nil (star_Name _ _))) pa_nil (star_Call _ _ _ _))) (blkOk_by (own := [("_law_k", 2)]) (N := ["_law_found", "_law_due", "_law_k"]) (sc := defScope s__law_alike) (by decide +kernel)) (fun _ _ _ _ _ => (pg_name (i := 2) sc__law_alike.nd rfl (Or.inl rfl))) (fun _ _ _ _ _ => ptsT (pts_one (pt_not (pt_val (C8.pe_c c_alike hr (by first | decide | omega) rfl (pa_cons (pe_ix ix_seq (pv 0) (pv 2) (fun _ _ => rfl)) (pa_cons (pe_ix ix_seq (pv 1) (pv 2) (fun _ _ => rfl)) pa_nil (star_Subscript _ _ _)) (star_Subscript _ _ _)) (he := (star_Subscript _ _ _)))))) (by (try dsimp only [Cx.blk, Cx.nox, cxOf]) <;> rfl)) (fun _ _ _ _ _ => peT (pv 2) (by (try dsimp only [Cx.blk, Cx.nox, cxOf]) <;> rfl))) (pe_lst pa_nil) (nomark _)))))) pss_nil) (pss_cons (ps_if (PW.pt (pw_or (pt_cmpR op_isN (pv 1) pe_non (nomark _)) (pw_or1 (pt_val (pe_callB (call_isi) (by rfl) T.z_isinstance (by decide +kernel) (pa_cons (pv 1) (pa_cons (pe_bltn (v := .ty "str") rfl T.z_str (by decide +kernel) rfl) pa_nil (star_Name _ _)) (star_Name _ _))))))) (pss_one (ps_ret (pe_and (pe_cmpR op_eq (pv 0) (pv 1) (nomark _)) (pe_one (pe_cmpR op_eq (pe_callB (call_isi) (by rfl) T.z_isinstance (by decide +kernel) (pa_cons (pv 0) (pa_cons (pe_bltn (v := .ty "str") rfl T.z_str (by decide +kernel) rfl) pa_nil (star_Name _ _)) (star_Name _ _))) (pe_callB (call_isi) (by rfl) T.z_isinstance (by decide +kernel) (pa_cons (pv 1) (pa_cons (pe_bltn (v := .ty "str") rfl T.z_str (by decide +kernel) rfl) pa_nil (star_Name _ _)) (star_Name _ _))) (nomark _)))))) pss_nil) (pss_one (ps_ret (pe_and (pe_callB (call_isi) (by rfl) T.z_isinstance (by decide +kernel) (pa_cons (pv 0) (pa_cons (pe_bltn (v := .ty "int") rfl T.z_int (by decide +kernel) rfl) pa_nil (star_Name _ _)) (star_Name _ _))) (pe_and (pe_cmpR op_eq (pe_callB (call_isi) (by rfl) T.z_isinstance (by decide +kernel) (pa_cons (pv 0) (pa_cons (pe_bltn (v := .ty "bool") rfl T.z_bool (by decide +kernel) rfl) pa_nil (star_Name _ _)) (star_Name _ _))) (pe_callB (call_isi) (by rfl) T.z_isinstance (by decide +kernel) (pa_cons (pv 1) (pa_cons (pe_bltn (v := .ty "bool") rfl T.z_bool (by decide +kernel) rfl) pa_nil (star_Name _ _)) (star_Name _ _))) (nomark _)) (pe_one (pe_cmpR op_eq (pv 0) (pv 1) (nomark _))))))))), ?_⟩
    rintro ⟨r, hd⟩ G vs D a - al hrt hnx
    obtain ⟨x, y, rfl, hx, hy⟩ := al2 al
    have hx : r.P G x := hx
    have hy : r.P G y := hy
    have hrt : ∀ G' H', Gr [] G H G' H' → D.rt (.bl true) H' := fun G' H' g => hrt _ G' H' g rfl
    have done : ∀ {te : TE} {σ : L2.St} {G1 H1 : Hp}, Go md0 G H G1 H1 → Ev md0 te σ G1 H1 (rBl true) → tRet te D σ H1 := fun e h => s_ret h e.at fun v G' H' g p => by
      obtain rfl : v = .bl true := p
      exact hrt G' H' (e.trans g).gr
    have cs : (∃ (t : String) (rs : List Rl) (b1 b2 bL : Bool), TyR K t r ∧ kitB t "tuple" = some b1 ∧ kitB t "list" = some b2 ∧ (b1 || b2) = true ∧ kitB t "list" = some bL ∧ (∀ G v, r.P G v → (rSeq K rs).P G v) ∧ (∀ q ∈ rs, ∃ m, n = m + 1 ∧ AD K m q) ∧ rs.length ≤ 100000) ∨
        (∃ z, r = rStr z) ∨ r = rNon ∨ (∃ z, r = rInt z) ∨ ∃ z, r = rBl z := by
      cases hd with
      | @lst m rs h hl => exact .inl ⟨"list", rs, false, true, true, ty_lst, by decide +kernel, by decide +kernel, rfl, by decide +kernel, fun _ _ => rSeq_l, fun q hq => ⟨m, rfl, h q hq⟩, hl⟩
      | @tup m rs h hl => exact .inl ⟨"tuple", rs, true, false, false, ty_tup, by decide +kernel, by decide +kernel, rfl, by decide +kernel, fun _ _ => rSeq_t, fun q hq => ⟨m, rfl, h q hq⟩, hl⟩
      | str z => exact .inr (.inl ⟨z, rfl⟩)
      | non => exact .inr (.inr (.inl rfl))
      | int z => exact .inr (.inr (.inr (.inl ⟨z, rfl⟩)))
      | bl z => exact .inr (.inr (.inr (.inr ⟨z, rfl⟩)))
    rcases cs with ⟨t, rs, b1, b2, bL, ty, k1, k2, k3, k4, sq, hel, hlen⟩ | ⟨z, rfl⟩ | rfl | ⟨z, rfl⟩ | ⟨z, rfl⟩
    · -- all items
      refine q_if (B := fun b => b = true) ?_ a (fun _ G1 H1 e1 => ?_) fun hB => by cases hB
      · rw [← k3]
        exact et_B (ev_isiT (K := K) (ev_var rfl hy) ty k1 k2)
      · have hx1 := Rl.mono _ e1.gg hx
        have hy1 := Rl.mono _ e1.gg hy
        refine q_when (B := fun b => b = false) (et_or (a := false) (b := false) (et_not (a := true) ?_) fun _ => et_test ((ev_ne (x := .bl bL) (y := .bl bL) (ev_isi (K := K) (ev_var rfl hx1) ty k4) (ev_isi (K := K) (ev_var rfl hy1) ty k4) (by rfl)).imp fun _ _ p => by rwa [decide_eq_true rfl] at p)) e1.at (fun hB => by cases hB) fun _ G2 H2 e2 => ?_
        · rw [← k3]
          exact et_B (ev_isiT (K := K) (ev_var rfl hx1) ty k1 k2)
        have hx2 := sq _ _ (Rl.mono _ e2.gg hx1)
        have hy2 := sq _ _ (Rl.mono _ e2.gg hy1)
        refine q_when (B := fun b => b = false) (et_test ((ev_neI (ev_len (ev_var rfl hx2)) (ev_len (ev_var rfl hy2))).imp fun _ _ p => by rwa [decide_eq_true rfl] at p)) e2.at (fun hB => by cases hB) fun _ G3 H3 e3 => ?_
        have hx3 := Rl.mono _ e3.gg hx2
        have hy3 := Rl.mono _ e3.gg hy2
        refine done (e1.trans (e2.trans e3)) (ev_eqNil ?_)
        have := en_lcX (M := md0) (G := G3) (H := H3) (tt := tNot (tB (tCall (sp_alike K n) [] E0 (tCons (tOp (rIx K) (tVar 0) (tVar 2)) (tCons (tOp (rIx K) (tVar 1) (tVar 2)) tNil))))) (te := tVar 2) (vs := [2]) (j := 2) (enc := fun i : Nat => rInt (i : Nat)) (σ := [some x, some y, none]) (src_rng1 (ev_len (K := K) (ev_var (i := 1) rfl hy3)) ⟨by omega, by omega⟩)
          (fun _ => false) (fun i => rInt (i : Nat)) (fun _ => rfl) (fun i vi G4 H4 hi g4 pi => ⟨?_, fun z => by cases z⟩) (by rw [List.length_range]; omega)
        · rw [List.filter_eq_nil_iff.mpr (by simp)] at this
          exact this
        · have hi : i < rs.length := by have := List.mem_range.mp hi; omega
          obtain ⟨m, em, had⟩ := hel rs[i] (by simp)
          subst em
          have at1 : atI rs (i : Nat) = some rs[i] := by
            unfold atI ixN
            rw [if_pos (by omega), if_pos (by omega)]
            simp [hi]
          exact et_not (a := true) (et_B (ev_call (E := E0) (⟨rs[i], had⟩ : { r : Rl // AD K m r }) (ea_cons (ev_ix2 (ev_var rfl (Rl.mono _ g4.gg hx3)) (ev_var rfl pi) at1) (ea_cons (ev_ix2 (ev_var rfl (Rl.mono _ g4.gg hy3)) (ev_var rfl pi) at1) ea_nil)) fun _ _ _ => trivial))
    · refine q_when (et_B (ev_isiT (K := K) (b1 := false) (b2 := false) (ev_var rfl hy) ty_str (by decide +kernel) (by decide +kernel))) a (fun hB => by cases hB) fun hB G1 H1 e1 => ?_
      have hx1 := Rl.mono _ e1.gg hx
      have hy1 := Rl.mono _ e1.gg hy
      refine q_if (et_or (et_test (ev_isN (ev_var rfl hy1) (nn_ref (K := K) (by decide) ty_str))) fun _ => et_B (ev_isi (K := K) (b := true) (ev_var rfl hy1) ty_str (by decide +kernel))) e1.at (fun hB G2 H2 e2 => ?_) fun hB => by cases hB
      have hx2 := Rl.mono _ e2.gg hx1
      have hy2 := Rl.mono _ e2.gg hy1
      refine done (e1.trans e2) (ev_andV (a := true) (b := true) ((ev_eqS (ev_var rfl hx2) (ev_var rfl hy2)).imp fun _ _ p => by rwa [decide_eq_true rfl] at p) fun _ => (ev_eq (x := .bl true) (y := .bl true) (ev_isi (K := K) (b := true) (ev_var rfl hx2) ty_str (by decide +kernel)) (ev_isi (K := K) (b := true) (ev_var rfl hy2) ty_str (by decide +kernel)) (by rfl)))
    · refine q_when (et_B (ev_isiT (K := K) (b1 := false) (b2 := false) (ev_var rfl hy) ty_non (by decide +kernel) (by decide +kernel))) a (fun hB => by cases hB) fun hB G1 H1 e1 => ?_
      have hx1 := Rl.mono _ e1.gg hx
      have hy1 := Rl.mono _ e1.gg hy
      refine q_if (B := fun b => b = true) (et_or (a := true) (b := true) (et_test (ev_isN (ev_var rfl hy1) (fun G v p => by cases (show v = .non from p); rfl))) fun z => by cases z) e1.at (fun hB G2 H2 e2 => ?_) fun hB => by cases hB
      have hx2 := Rl.mono _ e2.gg hx1
      have hy2 := Rl.mono _ e2.gg hy1
      refine done (e1.trans e2) (ev_andV (a := true) (b := true) (ev_eq (x := .non) (y := .non) (ev_var rfl hx2) (ev_var rfl hy2) (by rfl)) fun _ => (ev_eq (x := .bl false) (y := .bl false) (ev_isi (K := K) (b := false) (ev_var rfl hx2) ty_non (by decide +kernel)) (ev_isi (K := K) (b := false) (ev_var rfl hy2) ty_non (by decide +kernel)) (by rfl)))
    · refine q_when (et_B (ev_isiT (K := K) (b1 := false) (b2 := false) (ev_var rfl hy) ty_int (by decide +kernel) (by decide +kernel))) a (fun hB => by cases hB) fun hB G1 H1 e1 => ?_
      have hx1 := Rl.mono _ e1.gg hx
      have hy1 := Rl.mono _ e1.gg hy
      refine q_if (B := fun b => b = false) (et_or (a := false) (b := false) (et_test (ev_isN (ev_var rfl hy1) (nn_ref (K := K) (by decide) ty_int))) fun _ => et_B (ev_isi (K := K) (b := false) (ev_var rfl hy1) ty_int (by decide +kernel))) e1.at (fun hB => by cases hB) fun hB G2 H2 e2 => ?_
      have hx2 := Rl.mono _ e2.gg hx1
      have hy2 := Rl.mono _ e2.gg hy1
      refine done (e1.trans e2) (ev_andV (a := true) (b := true) (ev_isi (K := K) (b := true) (ev_var rfl hx2) ty_int (by decide +kernel)) fun _ => ev_andV (a := true) (b := true) (ev_eq (x := .bl false) (y := .bl false) (ev_isi (K := K) (b := false) (ev_var rfl hx2) ty_int (by decide +kernel)) (ev_isi (K := K) (b := false) (ev_var rfl hy2) ty_int (by decide +kernel)) (by rfl)) fun _ => (ev_eqI (ev_var rfl hx2) (ev_var rfl hy2)).imp fun _ _ p => by rwa [decide_eq_true rfl] at p)
    · refine q_when (et_B (ev_isiT (K := K) (b1 := false) (b2 := false) (ev_var rfl hy) ty_bl (by decide +kernel) (by decide +kernel))) a (fun hB => by cases hB) fun hB G1 H1 e1 => ?_
      have hx1 := Rl.mono _ e1.gg hx
      have hy1 := Rl.mono _ e1.gg hy
      refine q_if (B := fun b => b = false) (et_or (a := false) (b := false) (et_test (ev_isN (ev_var rfl hy1) (nn_ref (K := K) (by decide) ty_bl))) fun _ => et_B (ev_isi (K := K) (b := false) (ev_var rfl hy1) ty_bl (by decide +kernel))) e1.at (fun hB => by cases hB) fun hB G2 H2 e2 => ?_
      have hx2 := Rl.mono _ e2.gg hx1
      have hy2 := Rl.mono _ e2.gg hy1
      refine done (e1.trans e2) (ev_andV (a := true) (b := true) (ev_isi (K := K) (b := true) (ev_var rfl hx2) ty_bl (by decide +kernel)) fun _ => ev_andV (a := true) (b := true) (ev_eq (x := .bl true) (y := .bl true) (ev_isi (K := K) (b := true) (ev_var rfl hx2) ty_bl (by decide +kernel)) (ev_isi (K := K) (b := true) (ev_var rfl hy2) ty_bl (by decide +kernel)) (by rfl)) fun _ => (ev_eq (x := .bl z) (y := .bl z) (ev_var rfl hx2) (ev_var rfl hy2) (by rfl)).imp fun _ _ p => by rwa [decide_eq_true rfl] at p)
end

end TH
namespace TH
open PySem PySem.Spec PyProof.Rows L2
variable [TC : TabC]
/-! ### _law_leads -/
theorem leads_len : ∀ (l : List Nd) (acc : List Str) (k : Nat), (∀ n ∈ l, n.ot.length ≤ k) → (leadsAcc l acc).length ≤ acc.length + l.length * k
  | [], acc, k, _ => by simp [leadsAcc]
  | n :: t, acc, k, h => by
    have ih := leads_len t (if n.nm ∈ acc then acc ++ n.ot else acc) k fun m hm => h m (List.mem_cons_of_mem _ hm)
    have h1 := h n List.mem_cons_self
    have h2 : (if n.nm ∈ acc then acc ++ n.ot else acc).length ≤ acc.length + k := by
      split
      · rw [List.length_append]; omega
      · omega
    show (leadsAcc t (if n.nm ∈ acc then acc ++ n.ot else acc)).length ≤ _
    rw [List.length_cons, Nat.succ_mul]
    omega
theorem leads_app : ∀ (l : List Nd) (n : Nd) (acc : List Str), leadsAcc (l ++ [n]) acc = if n.nm ∈ leadsAcc l acc then leadsAcc l acc ++ n.ot else leadsAcc l acc
  | [], n, acc => rfl
  | m :: t, n, acc => leads_app t n (if m.nm ∈ acc then acc ++ m.ot else acc)
structure LdFit (ns : List Nd) (names : List Str) : Prop where
  n1 : ns.length ≤ 100
  n2 : names.length ≤ 100
  n3 : ∀ n ∈ ns, n.ot.length ≤ 100
def sp_leads (K : PySem.W.Frag) : Sp := spP (ι := List Nd × List Str) (fun i _ _ => LdFit i.1 i.2) (fun i => [rSeq K (i.1.map (rNd K)), rSeq K (i.2.map rStr)]) (fun i => rLsH ((closureM i.1 i.2).map rStr))
section
variable {P : Program} {w : World} {K : PySem.W.Frag} {mg : Str → Option Value} {base : Heap} {f : Addr} {fd : FuncData}
theorem sc__law_leads : FnScope ["_law_needs", "_law_names_here", "_law_found", "_law_name", "_law_scope", "_law_others", "_law_ways", "_law_row"] ["_law_needs", "_law_names_here"] (defScope s__law_leads) := ⟨rfl, rfl, rfl, by decide +kernel, rfl, by decide +kernel, by decide +kernel⟩
theorem fn_law_leads (F : FnP K "_law_leads" "_law_leads" s__law_leads f fd) (T : Top K mg) : FnOk P w K mg base CX0 1 f fd (["_law_needs", "_law_names_here"] : List Str) (sp_leads K) := by
  refine fn_pure F sc__law_leads (fun _ => rfl) fun cdv A outer s H E hr => ⟨_, (pss_cons (ps_set (i := 2) sc__law_leads.nd rfl (Or.inr rfl) (pe_callTy (call_list_of) (by rfl) T.z_list (by decide +kernel) (pa_cons (pv 1) pa_nil (star_Name _ _)))) (pss_cons (ps_for PassesOwn.never rfl (pi_or2 (pi_list (pe_revL (pv 0))) (pi_tup (pe_revT (pv 0)))) (pg_tup rfl (pgs_cons (pg_name (i := 3) sc__law_leads.nd rfl (Or.inl rfl)) (pgs_cons (pg_name (i := 4) sc__law_leads.nd rfl (Or.inl rfl)) (pgs_cons (pg_name (i := 5) sc__law_leads.nd rfl (Or.inl rfl)) (pgs_cons (pg_name (i := 6) sc__law_leads.nd rfl (Or.inl rfl)) pgs_nil))))) (pss_one (ps_set (i := 2) sc__law_leads.nd rfl (Or.inr rfl) (pe_op op_cat (pv 2) (pe_op op_rep (pe_callTy (call_list_of) (by rfl) T.z_list (by decide +kernel) (pa_cons (pv 5) pa_nil (star_Name _ _))) (pe_callTy (call_int1) (by rfl) T.z_int (by decide +kernel) (pa_cons (pe_cmpR (op_inK (K := K) rfl) (pv 3) (pv 2) rfl) pa_nil (star_Compare _ _ _ _)))))))) (pss_one (ps_ret (pe_lc (own := [("_law_row", 7)]) rfl sc__law_leads.nd (pi_or2 (pi_list (pv 0)) (pi_tup (pv 0))) (blkOk_by (own := [("_law_row", 7)]) (N := ["_law_needs", "_law_names_here", "_law_found", "_law_name", "_law_scope", "_law_others", "_law_ways", "_law_row"]) (sc := defScope s__law_leads) (by decide +kernel)) (fun _ _ _ _ _ => (pg_name (i := 7) sc__law_leads.nd rfl (Or.inl rfl))) (fun _ _ _ _ _ => ptsT (pts_one (pt_cmpR (op_inK (K := K) rfl) (pe_ix ix_tup (pv 7) pe_int (fun _ _ => rfl)) (pv 2) rfl)) (by (try dsimp only [Cx.blk, Cx.nox, cxOf]) <;> rfl)) (fun _ _ _ _ _ => peT (pe_ix ix_tup (pv 7) pe_int (fun _ _ => rfl)) (by (try dsimp only [Cx.blk, Cx.nox, cxOf]) <;> rfl))))))), ?_⟩
  rintro ⟨ns, names⟩ G vs D a ok al hrt hnx
  obtain ⟨v, u, rfl, hv, hu⟩ := al2 al
  have hv : (rSeq K (ns.map (rNd K))).P G v := hv
  have hu : (rSeq K (names.map rStr)).P G u := hu
  obtain ⟨o1, o2, o3⟩ : LdFit ns names := ok
  refine q_asgN (EvN.strs (en_list (K := K) (ev_var rfl hu))) a fun l0 o G1 H1 e1 n1 n2 n3 f1 => ?_
  subst f1
  refine q_for (W := []) (src_seqR (K := K) rfl (Rl.mono _ e1.gg hv)) e1.at (by simp [md0]) (fun i σ' G' H' => ∃ l x1 x2 x3 x4, σ' = [some v, some u, some (.ref l), x1, x2, x3, x4, none] ∧ H' l = some (.lst ((leadsAcc (ns.reverse.take i) names).map V.str)) ∧ G' l = none) (fun G' H' e => ?_) (fun i r vr σ' G2 H2 hi hr2 g2 j2 hI N hN => ?_) (fun i r σ' G' H' G'' H'' _ g ⟨l, x1, x2, x3, x4, h1, h2, h3⟩ => ?_) fun σ' G2 H2 g2 j2 hI => ?_
  · obtain ⟨h1, h2⟩ := e.gr.loc n3 n2 (by simp [md0])
    exact ⟨l0, none, none, none, none, rfl, h1, h2⟩
  · obtain ⟨l, x1, x2, x3, x4, rfl, k1, k2⟩ := hI
    rw [← List.map_reverse, List.getElem?_map, Option.map_eq_some_iff] at hi
    obtain ⟨n, hi, rfl⟩ := hi
    have hm : n ∈ ns := List.mem_reverse.mp (List.mem_of_getElem? hi)
    have a2 : At md0 G2 H2 := ⟨g2.gh, trivial⟩
    refine g_tup (rs := [rStr n.nm, rStr n.sc, rTup K (n.ot.map rStr), rInt n.ws]) hr2 a2.le rfl fun vs ps => ?_
    obtain ⟨v1, v2, v3, v4, rfl, q1, q2, q3, q4⟩ := al4 ps
    obtain rfl : v1 = .str n.nm := q1
    refine gc_cons (gc_cons (gc_cons (gc_cons (gc_nil ?_))))
    have hlen : (leadsAcc (ns.reverse.take i) names).length ≤ 10100 := by
      have h1 := leads_len (ns.reverse.take i) names 100 fun m hm => o3 m (List.mem_reverse.mp (take_in hm))
      have h2 : (ns.reverse.take i).length ≤ 100 := by rw [List.length_take, List.length_reverse]; omega
      have h3 : (ns.reverse.take i).length * 100 ≤ 100 * 100 := Nat.mul_le_mul_right _ h2
      omega
    have ho := o3 n hm
    have hin := ev_inM (K := K) (M := md0) (neg := false) (ta := tVar 3) (tb := tVar 2) (σ := [some v, some u, some (.ref l), some (.str n.nm), some v2, some v3, some v4, none]) (G := G2) (H := H2) (x := n.nm) (ev_val rfl) (ev_val (v := .ref l) rfl) k1 (by simp [md0])
    have hk := ev_intB hin
    generalize hkk : (if (if false = true then !decide (n.nm ∈ leadsAcc (ns.reverse.take i) names) else decide (n.nm ∈ leadsAcc (ns.reverse.take i) names)) = true then (1 : Int) else 0) = kk at hk
    have hk2 : (kk = 1 ∧ n.nm ∈ leadsAcc (ns.reverse.take i) names) ∨ (kk = 0 ∧ n.nm ∉ leadsAcc (ns.reverse.take i) names) := by
      subst hkk
      by_cases c : n.nm ∈ leadsAcc (ns.reverse.take i) names
      · exact .inl ⟨by simp [c], c⟩
      · exact .inr ⟨by simp [c], c⟩
    refine s_asgN (en_catN (ev_val (v := .ref l) rfl) k1 (by simp [md0]) (en_rep (EvN.strs (en_list (K := K) (ev_var rfl q3).st)) hk ?_ ?_ ?_) ?_) a2 fun l2 o G3 H3 e3 m1 m2 m3 f3 => ?_
    · rcases hk2 with ⟨e, _⟩ | ⟨e, _⟩ <;> subst e <;> decide
    · rcases hk2 with ⟨e, _⟩ | ⟨e, _⟩ <;> subst e <;> decide
    · rw [List.length_map]
      rcases hk2 with ⟨e, _⟩ | ⟨e, _⟩
      · rw [e]; simp; omega
      · rw [e]; simp
    · rw [List.length_map, List.length_flatten, List.map_replicate, List.sum_replicate_nat, List.length_map]
      rcases hk2 with ⟨e, _⟩ | ⟨e, _⟩
      · rw [e]; simp; omega
      · rw [e]; simp; omega
    · subst f3
      refine hN _ G3 H3 e3.gr trivial ⟨l2, _, _, _, _, rfl, ?_, m2⟩
      rw [m3, List.take_add_one, hi]
      show some (HO.lst _) = some (HO.lst ((leadsAcc (ns.reverse.take i ++ [n]) names).map V.str))
      rw [leads_app]
      rcases hk2 with ⟨e, c⟩ | ⟨e, c⟩
      · rw [e]; simp [c]
      · rw [e]; simp [c]
  · obtain ⟨h4, h5⟩ := g.loc h2 h3 (by simp)
    exact ⟨l, x1, x2, x3, x4, h1, h4, h5⟩
  · obtain ⟨l, x1, x2, x3, x4, rfl, k1, k2⟩ := hI
    have a2 : At md0 G2 H2 := ⟨g2.gh, trivial⟩
    rw [List.length_reverse, List.length_map, show ns.reverse.take ns.length = ns.reverse by rw [← List.length_reverse, List.take_length]] at k1
    refine s_ret (EvN.lstH (en_lcX (enc := rNd K) (src_seq (K := K) rfl (Rl.mono _ (e1.gg.trans g2.gg) hv)) (fun n => decide (n.nm ∈ leadsAcc ns.reverse names)) (fun n => rStr n.nm) (fun _ => rfl) (fun n vn G3 H3 hn g3 pn => ⟨?_, fun _ => ev_ixT (ev_var rfl pn) ev_c rfl⟩) (by omega))) a2 fun v' G' H' g p => hrt v' G' H' (e1.gr.trans (g2.trans g.gr)) ?_
    · exact et_test (ev_inM (K := K) (neg := false) (ev_ixT (ev_var rfl pn) ev_c rfl) (ev_val (v := .ref l) rfl) (g3.gr.hh l _ k1 (by simp [md0])) (by simp [md0]))
    · have e : (ns.filter fun n => decide (n.nm ∈ leadsAcc ns.reverse names)).map (fun n => rStr n.nm) = (closureM ns names).map rStr := by
        unfold closureM
        rw [List.filter_map, List.map_map]
        rfl
      rw [e] at p
      exact p
end

end TH
namespace TH
open PySem PySem.Spec PyProof.Rows L2
variable [TC : TabC]
/-! ### _law_some -/
/-- some of these, in some order -/
structure SubP (ys xs : List Str) : Prop where
  mem : ∀ y ∈ ys, y ∈ xs
  nd : xs.Nodup → ys.Nodup
  le : ys.length ≤ xs.length
def sp_some (K : PySem.W.Frag) : Sp := fun vs H Q _ => ∃ (h l : Addr) (n : Int) (xs : List Str) (v : V) (G : Hp), vs = [.ref h, v, .int n] ∧ 1 ≤ n ∧ n < 1073741824 ∧ Le G H ∧ SS h l G H ∧ (rLst K (xs.map rStr)).P G v ∧ xs.length ≤ 100000 ∧
  ∀ ys v' G' H', SubP ys xs → Gr [h, l] G H G' H' → JS h l H' → (rTup K (ys.map rStr)).P G' v' → Q v' H'
section
variable {K : PySem.W.Frag} {σ : L2.St} {G H : Hp} {h l : Addr} {n : Int} {t : TA} {E : XK}
theorem ev_some {xs : List Str} (s : SS h l G H) (ha : EvA (mdS h l) t σ G H [rRef h, rLst K (xs.map rStr), rInt n]) (hx : xs.length ≤ 100000) (n1 : 1 ≤ n) (n2 : n < 1073741824) :
    Ev (mdS h l) (tCall (sp_some K) [] E t) σ G H (rEx fun ys : { ys : List Str // SubP ys xs } => rTup K (ys.1.map rStr)) := fun G1 H1 a Q q =>
  ha G1 H1 a _ fun vs G2 H2 b ps => by
    obtain ⟨v1, v2, v3, rfl, p1, p2, p3⟩ := al3 ps
    obtain rfl : v1 = .ref h := p1
    obtain rfl : v3 = .int n := p3
    exact ⟨h, l, n, xs, v2, G2, rfl, n1, n2, b.at.le, s.go (a.trans b), p2, hx, fun ys v' G3 H3 hs g j p => q v' G3 H3 (b.trans (g.goS j)) ⟨⟨ys, hs⟩, p⟩⟩
end
section
variable {P : Program} {w : World} {K : PySem.W.Frag} {mg : Str → Option Value} {base : Heap} {f : Addr} {fd : FuncData}
theorem sc__law_some : FnScope ["_law_h", "_law_names_here", "_law_often", "_law_found", "_law_name"] ["_law_h", "_law_names_here", "_law_often"] (defScope s__law_some) := ⟨rfl, rfl, rfl, by decide +kernel, rfl, by decide +kernel, by decide +kernel⟩
theorem fn_law_some (F : FnP K "_law_some" "_law_some" s__law_some f fd) (T : Top K mg) (c_next : C8.Cal P w K mg base 1 "_law_next" sp_next []) : FnOk P w K mg base CX0 2 f fd (["_law_h", "_law_names_here", "_law_often"] : List Str) (sp_some K) := by
  refine F.ok sc__law_some (fun vs H Q E h => ?_) fun cdv A outer s H vs Q E hr h => ?_
  · obtain ⟨h, l, n, xs, v, G, e, _⟩ := h
    rw [e]
    rfl
  suffices hs : ∃ t, PSs (cxOf CX0 P w K mg base (["_law_h", "_law_names_here", "_law_often", "_law_found", "_law_name"] : List Str) "_law_some" (defScope s__law_some) f cdv A outer s H E).nox (defBody s__law_some) t ∧ t { nx := fun _ H' => Q .non H', rt := Q } (L2.start (["_law_h", "_law_names_here", "_law_often", "_law_found", "_law_name"] : List Str) vs) H by
    obtain ⟨t, h1, h2⟩ := hs
    exact ⟨t, h1.nox, h2⟩
  refine ⟨_, (pss_cons (ps_setLc (i := 3) (own := [("_law_name", 4)]) rfl sc__law_some.nd rfl rfl (sw_true rfl rfl rfl (by decide +kernel)) (pi_list (pv 1)) (blkOk_by (own := [("_law_name", 4)]) (N := ["_law_h", "_law_names_here", "_law_often", "_law_found", "_law_name"]) (sc := defScope s__law_some) (by decide +kernel)) (fun _ _ _ _ _ => (pg_name (i := 4) sc__law_some.nd rfl (Or.inl rfl))) (fun _ _ _ _ _ => ptsT (pts_one (pt_cmpR op_eq (C8.pe_c c_next hr (by first | decide | omega) rfl (pa_cons (pv 0) (pa_cons (pv 2) pa_nil (star_Name _ _)) (star_Name _ _)) (he := (star_Name _ _))) pe_int (nomark _))) (by (try dsimp only [Cx.blk, Cx.nox, cxOf]) <;> rfl)) (fun _ _ _ _ _ => peT (pv 4) (by (try dsimp only [Cx.blk, Cx.nox, cxOf]) <;> rfl))) (pss_one (ps_ret (pe_callTy (call_tuple_of) (by rfl) T.z_tuple (by decide +kernel) (pa_cons (pe_ifExp (pt_cmpR op_eq (C8.pe_c c_next hr (by first | decide | omega) rfl (pa_cons (pv 0) (pa_cons pe_int pa_nil (star_Constant _ _ _)) (star_Name _ _)) (he := (star_Name _ _))) pe_int (nomark _)) (pe_revL (pv 3)) (pv 3)) pa_nil (star_IfExp _ _ _ _)))))), ?_⟩
  obtain ⟨h, l, n, xs, v, G, rfl, n1, n2, le, ss, hv, hx, hQ⟩ := h
  have a0 : At (mdS h l) G H := ss.at le
  refine q_asg (EvN.fix (r := rEx fun ys : { ys : List Str // SubP ys xs } => rLst K (ys.1.map rStr)) (en_lc (src_lst (K := K) (ev_var rfl hv)) (fun i out => ∃ ys : List Str, out = ys.map rStr ∧ ys.Sublist (xs.take i)) ⟨[], rfl, List.nil_sublist _⟩
    (fun i r vr G1 H1 hi g1 hp => ?_) (by rw [List.length_map]; exact hx)) fun G1 G2 p o ⟨out, ⟨ys, e1, e2⟩, vs, e3, e4⟩ le2 hg => ?_) a0 fun v1 G1 H1 e1 ⟨ys, py⟩ => ?_
  · rw [List.getElem?_map, Option.map_eq_some_iff] at hi
    obtain ⟨x, hi, rfl⟩ := hi
    obtain rfl : vr = .str x := hp
    refine ⟨_, fun Q hQ => hQ, rfl, fun _ => True, et_any (ev_drawEq (ev_draw (l := l) (ss.go g1) (ea_cons (ev_val rfl) (ea_cons (ev_val rfl) ea_nil)) n1 n2) ev_c), fun _ => ⟨rStr x, ev_val rfl, fun out ⟨ys, e1, e2⟩ => ⟨ys ++ [x], by rw [e1, List.map_append]; rfl, ?_⟩⟩, fun _ out ⟨ys, e1, e2⟩ => ⟨ys, e1, ?_⟩⟩
    · rw [List.take_add_one, hi]
      exact e2.append (List.Sublist.refl [x])
    · rw [List.take_add_one]
      exact e2.trans (List.sublist_append_left _ _)
  · rw [List.length_map, List.take_length] at e2
    subst e1 e3
    exact ⟨⟨ys, fun y hy => e2.subset hy, fun hn => e2.nodup hn, e2.length_le⟩, p, vs, rfl, .of hg, e4.mono le2⟩
  · have ss1 := ss.go e1
    have py : (rLst K (ys.1.map rStr)).P G1 v1 := py
    refine s_ret (ev_tupleX (K := K) (f := fun ys : { ys : List Str // SubP ys xs } => ys.1.map rStr) (ev_if (et_any (ev_drawEq (ev_draw (l := l) ss1 (ea_cons (ev_val rfl) (ea_cons ev_c ea_nil)) (by decide) (by decide)) ev_c)) (fun _ => (ev_revL (ev_var rfl py)).imp fun G' z p => ?_) fun _ => (ev_var rfl py).imp fun G' z p => ⟨ys, p⟩)) e1.at fun v2 G2 H2 e2 ⟨zs, pz⟩ => hQ zs.1 v2 G2 H2 zs.2 (e1.trans e2).gr (e1.trans e2).j pz
    rw [← List.map_reverse] at p
    exact ⟨⟨ys.1.reverse, fun y hy => ys.2.mem y (List.mem_reverse.mp hy), fun hn => (List.reverse_perm ys.1).nodup_iff.mpr (ys.2.nd hn), by rw [List.length_reverse]; exact ys.2.le⟩, p⟩
end

end TH
namespace TH
open PySem PySem.Spec PyProof.Rows L2
variable [TC : TabC]
/-! ### the books that the laws draw -/
def nName (i : Nat) : Str := ⟨#[110, 97 + i]⟩
def tName (i : Nat) : Str := ⟨#[116, 97 + i]⟩
abbrev hNames : List Str := ["ha", "hb", "hc"]
abbrev gNames : List Str := ["ga", "gb"]
abbrev mNames : List Str := ["fast", "slow", "db"]
structure GenN (ns : List Nd) : Prop where
  is : ∀ i n, ns[i]? = some n → isNeed (ns.take i) n = true
  nm : ∀ i n, ns[i]? = some n → n.nm = nName i
  ws : ∀ n ∈ ns, n.ws = 1 ∨ n.ws = 2 ∨ n.ws = 3
  le : ns.length ≤ 12
structure GenT (ns : List Nd) (ts : List Tr) : Prop where
  is : ∀ i t, ts[i]? = some t → isTry ns (ts.take i) t = true
  nm : ∀ i t, ts[i]? = some t → t.nm = tName i
  hs : ∀ t ∈ ts, t.hs ∈ hNames
  gp : ∀ t ∈ ts, t.gp ∈ gNames
  ms : ∀ t ∈ ts, ∀ m ∈ t.ms, m ∈ mNames
  tm : ∀ t ∈ ts, t.tm = 1 ∨ t.tm = 2 ∨ t.tm = 4
  mn : ∀ t ∈ ts, manyOf ns t.nd < 13
  le : ts.length ≤ 10
theorem nName_is : ∀ i : Fin 12, isName (nName i) = true := by decide +kernel
theorem tName_is : ∀ i : Fin 10, isName (tName i) = true := by decide +kernel
theorem nName_inj {i j : Nat} (h : nName i = nName j) : i = j := by
  have h := congrArg (fun x : Str => x.cps.toList) h
  simp only [nName] at h
  injection h with _ h
  injection h with h
  omega
theorem tName_inj {i j : Nat} (h : tName i = tName j) : i = j := by
  have h := congrArg (fun x : Str => x.cps.toList) h
  simp only [tName] at h
  injection h with _ h
  injection h with h
  omega
theorem NdLike.fit {seen : List Nd} {n : Nd} (q : NdLike seen n) (h : seen.length ≤ 1000) : NdFit n := by
  refine ⟨isName_fit q.nm, ?_, fun o ho => isName_fit (areUnlike_names q.un o ho)⟩
  have := sub_len (areUnlike_nodup q.un) q.ot
  rw [List.length_map] at this
  omega
theorem hg_names : (∀ x ∈ hNames ++ (gNames ++ mNames), isName x = true) := by decide +kernel
theorem ms_len {t : Tr} {ns : List Nd} {seen : List Tr} (q : TrLike ns seen t) (h : ∀ m ∈ t.ms, m ∈ mNames) : t.ms.length ≤ 3 := sub_len (areUnlike_nodup q.ms) h
theorem GenT.fit {ns : List Nd} {ts : List Tr} (g : GenT ns ts) (hn : ns.length ≤ 100) {t : Tr} (ht : t ∈ ts) : TrFit t := by
  obtain ⟨i, hi⟩ := List.getElem?_of_mem ht
  have q := isTry_like.mp (g.is i t hi)
  have f := q.few
  refine ⟨fun x hx => isName_fit (q.nm x hx), ⟨by omega, fun o ho => isName_fit (areUnlike_names q.un o ho)⟩, ?_, fun o ho => isName_fit (areUnlike_names q.ms o ho)⟩
  have := ms_len q (g.ms t ht)
  omega
theorem genBook {ns : List Nd} {ts : List Tr} (g : GenN ns) (k : GenT ns ts) : BookOk ns ts where
  n1 := g.is
  n2 := fun n hn => by
    obtain ⟨i, hi⟩ := List.getElem?_of_mem hn
    have := g.le
    exact (isNeed_like.mp (g.is i n hi)).fit (by rw [List.length_take]; omega)
  n3 := g.le
  t1 := k.is
  t2 := fun t ht => k.fit (by have := g.le; omega) ht
  t3 := by have := k.le; omega
theorem GenN.snoc {ns : List Nd} {n : Nd} (g : GenN ns) (h : isNeed ns n = true) (nm : n.nm = nName ns.length) (ws : n.ws = 1 ∨ n.ws = 2 ∨ n.ws = 3) (le : ns.length < 12) : GenN (ns ++ [n]) := by
  have at' : ∀ i m, (ns ++ [n])[i]? = some m → (i < ns.length ∧ ns[i]? = some m) ∨ (i = ns.length ∧ m = n) := fun i m e => by
    by_cases c : i < ns.length
    · rw [List.getElem?_append_left c] at e
      exact .inl ⟨c, e⟩
    · rw [List.getElem?_append_right (by omega)] at e
      have : i - ns.length = 0 := by
        cases q : i - ns.length with
        | zero => rfl
        | succ k => rw [q] at e; cases e
      rw [this] at e
      cases e
      exact .inr ⟨by omega, rfl⟩
  refine ⟨fun i m e => ?_, fun i m e => ?_, fun m hm => ?_, by rw [List.length_append]; exact le⟩
  · rcases at' i m e with ⟨c, e1⟩ | ⟨c, e1⟩
    · rw [List.take_append_of_le_length (by omega)]
      exact g.is i m e1
    · subst c e1
      rw [List.take_append_of_le_length (Nat.le_refl _), List.take_length]
      exact h
  · rcases at' i m e with ⟨c, e1⟩ | ⟨c, e1⟩
    · exact g.nm i m e1
    · subst c e1
      exact nm
  · rcases List.mem_append.mp hm with z | z
    · exact g.ws m z
    · rw [List.mem_singleton.mp z]; exact ws
theorem GenT.snoc {ns : List Nd} {ts : List Tr} {t : Tr} (g : GenT ns ts) (h : isTry ns ts t = true) (nm : t.nm = tName ts.length) (hs : t.hs ∈ hNames) (gp : t.gp ∈ gNames) (ms : ∀ m ∈ t.ms, m ∈ mNames) (tm : t.tm = 1 ∨ t.tm = 2 ∨ t.tm = 4) (mn : manyOf ns t.nd < 13) (le : ts.length < 10) : GenT ns (ts ++ [t]) := by
  have at' : ∀ i m, (ts ++ [t])[i]? = some m → (i < ts.length ∧ ts[i]? = some m) ∨ (i = ts.length ∧ m = t) := fun i m e => by
    by_cases c : i < ts.length
    · rw [List.getElem?_append_left c] at e
      exact .inl ⟨c, e⟩
    · rw [List.getElem?_append_right (by omega)] at e
      have : i - ts.length = 0 := by
        cases q : i - ts.length with
        | zero => rfl
        | succ k => rw [q] at e; cases e
      rw [this] at e
      cases e
      exact .inr ⟨by omega, rfl⟩
  have mem : ∀ {P : Tr → Prop}, (∀ m ∈ ts, P m) → P t → ∀ m ∈ ts ++ [t], P m := fun h1 h2 m hm => by
    rcases List.mem_append.mp hm with z | z
    · exact h1 m z
    · rw [List.mem_singleton.mp z]; exact h2
  refine ⟨fun i m e => ?_, fun i m e => ?_, mem g.hs hs, mem g.gp gp, mem g.ms ms, mem g.tm tm, mem g.mn mn, by rw [List.length_append]; exact le⟩
  · rcases at' i m e with ⟨c, e1⟩ | ⟨c, e1⟩
    · rw [List.take_append_of_le_length (by omega)]
      exact g.is i m e1
    · subst c e1
      rw [List.take_append_of_le_length (Nat.le_refl _), List.take_length]
      exact h
  · rcases at' i m e with ⟨c, e1⟩ | ⟨c, e1⟩
    · exact g.nm i m e1
    · subst c e1
      exact nm
/-- a drawn need is one -/
theorem drawn_need {ns : List Nd} {n : Nd} {wide : Nat} (g : GenN ns) (le : ns.length < 12) (nm : n.nm = nName ns.length) (hw : wide < 4) (sc : scopes4[wide]? = some n.sc) (ws : n.ws = 1 ∨ n.ws = 2 ∨ n.ws = 3)
    (ot : SubP n.ot ((ns.filter fun m => decide (((scIx m.sc : Nat) : Int) ≤ wide)).map Nd.nm)) : isNeed ns n = true := by
  have nodup : (ns.map Nd.nm).Nodup := by
    have : ∀ i n, ns[i]? = some n → NdLike (ns.take i) n := fun i n h => isNeed_like.mp (g.is i n h)
    exact (ordN_of this ns.length 0 (by omega)).nodup
  have names : ∀ m ∈ ns, isName m.nm = true := fun m hm => by
    obtain ⟨i, hi⟩ := List.getElem?_of_mem hm
    exact (isNeed_like.mp (g.is i m hi)).nm
  have scn : scIx n.sc = wide := by
    have : ∀ w : Fin 4, scIx (scopes4[w.1]'w.2) = w.1 := by decide +kernel
    have e := this ⟨wide, hw⟩
    rw [List.getElem?_eq_getElem (by exact hw)] at sc
    rw [← Option.some.inj sc]
    exact e
  have sub : ∀ o ∈ n.ot, ∃ m ∈ ns, m.nm = o ∧ scIx m.sc ≤ wide := fun o ho => by
    obtain ⟨m, hm, e⟩ := List.mem_map.mp (ot.mem o ho)
    obtain ⟨h1, h2⟩ := List.mem_filter.mp hm
    have h2 := of_decide_eq_true h2
    exact ⟨m, h1, e, by omega⟩
  refine isNeed_like.mpr ⟨?_, fun z => ?_, List.mem_of_getElem? sc, ?_, ?_, ?_, fun o ho => ?_, fun o ho => ?_⟩
  · rw [nm]; exact nName_is ⟨ns.length, le⟩
  · obtain ⟨m, hm, e⟩ := List.mem_map.mp z
    obtain ⟨i, hi⟩ := List.getElem?_of_mem hm
    rw [g.nm i m hi, nm] at e
    have := nName_inj e
    have := (List.getElem?_eq_some_iff.mp hi).1
    omega
  · omega
  · omega
  · unfold areUnlike
    rw [Bool.and_eq_true, decide_eq_true_iff, List.all_eq_true]
    refine ⟨fun o ho => ?_, ot.nd ?_⟩
    · obtain ⟨m, hm, e, _⟩ := sub o ho
      rw [← e]; exact names m hm
    · exact (List.filter_sublist.map Nd.nm).nodup nodup
  · obtain ⟨m, hm, e, _⟩ := sub o ho
    exact List.mem_map.mpr ⟨m, hm, e⟩
  · obtain ⟨m, hm, e, hl⟩ := sub o ho
    obtain ⟨j, m', h1, h2, h3⟩ := findNd_some (i := 0) (List.mem_map.mpr ⟨m, hm, e⟩)
    rw [h1, scn]
    have : m' = m := one_nm nodup h2 hm (by rw [h3, e])
    rw [this]
    exact hl
theorem closureM_nil (ns : List Nd) : closureM ns [] = [] := by
  have : ∀ l : List Nd, leadsAcc l [] = [] := fun l => by
    induction l with
    | nil => rfl
    | cons n t ih =>
      show leadsAcc t (if n.nm ∈ ([] : List Str) then [] ++ n.ot else []) = []
      rw [if_neg (fun z => nomatch z)]
      exact ih
  unfold closureM
  rw [this]
  exact List.filter_eq_nil_iff.mpr (fun x _ => by simp)
theorem drawn_try {ns : List Nd} {ts : List Tr} {t : Tr} (g : GenN ns) (k : GenT ns ts) (le : ts.length < 10) (nm : t.nm = tName ts.length) (hs : t.hs ∈ hNames) (gp : t.gp ∈ gNames) (nd : SubP t.nd (ns.map Nd.nm)) (ms : SubP t.ms mNames) (tm : t.tm = 1 ∨ t.tm = 2 ∨ t.tm = 4) (mn : manyOf ns t.nd < 13) : isTry ns ts t = true := by
  have nodup : (ns.map Nd.nm).Nodup := by
    have : ∀ i n, ns[i]? = some n → NdLike (ns.take i) n := fun i n h => isNeed_like.mp (g.is i n h)
    exact (ordN_of this ns.length 0 (by omega)).nodup
  have names : ∀ x ∈ ns.map Nd.nm, isName x = true := fun x hx => by
    obtain ⟨m, hm, e⟩ := List.mem_map.mp hx
    obtain ⟨i, hi⟩ := List.getElem?_of_mem hm
    rw [← e]
    exact (isNeed_like.mp (g.is i m hi)).nm
  refine isTry_like.mpr ⟨fun x hx => ?_, fun z => ?_, ?_, nd.mem, ?_, by omega, by omega, by omega⟩
  · simp only [List.mem_cons, List.not_mem_nil, or_false] at hx
    rcases hx with e | e | e
    · rw [e, nm]; exact tName_is ⟨ts.length, le⟩
    · rw [e]; exact hg_names _ (List.mem_append_left _ hs)
    · rw [e]; exact hg_names _ (List.mem_append_right _ (List.mem_append_left _ gp))
  · obtain ⟨m, hm, e⟩ := List.mem_map.mp z
    obtain ⟨i, hi⟩ := List.getElem?_of_mem hm
    rw [k.nm i m hi, nm] at e
    have := tName_inj e
    have := (List.getElem?_eq_some_iff.mp hi).1
    omega
  · unfold areUnlike
    rw [Bool.and_eq_true, decide_eq_true_iff, List.all_eq_true]
    exact ⟨fun o ho => names o (nd.mem o ho), nd.nd nodup⟩
  · unfold areUnlike
    rw [Bool.and_eq_true, decide_eq_true_iff, List.all_eq_true]
    exact ⟨fun o ho => hg_names o (List.mem_append_right _ (List.mem_append_right _ (ms.mem o ho))), ms.nd (by decide +kernel)⟩
theorem GenN.nil : GenN [] := by
  refine ⟨fun i n z => ?_, fun i n z => ?_, fun n z => (nomatch z), by decide⟩
  · simp at z
  · simp at z
theorem GenT.nil (ns : List Nd) : GenT ns [] := by
  refine ⟨fun i n z => ?_, fun i n z => ?_, fun n z => (nomatch z), fun n z => (nomatch z), fun n z => (nomatch z), fun n z => (nomatch z), fun n z => (nomatch z), by decide⟩
  · simp at z
  · simp at z

end TH
namespace TH
open PySem PySem.Spec PyProof.Rows L2
variable [TC : TabC]
/-! ### _law_book, walked -/
def sp_book (K : PySem.W.Frag) : Sp := fun vs H Q _ => ∃ (h l : Addr) (a b : Nat) (G : Hp), vs = [.ref h, .int (a : Nat), .int (b : Nat)] ∧ a ≤ 12 ∧ b ≤ 10 ∧ Le G H ∧ SS h l G H ∧
  ∀ ns ts v' G' H', GenN ns → GenT ns ts → ns.length ≤ a → ts.length ≤ b → Gr [h, l] G H G' H' → JS h l H' → (rRows K ns ts).P G' v' → Q v' H'
/-- what is drawn -/
def Drawn (a b : Nat) (p : List Nd × List Tr) : Prop := GenN p.1 ∧ GenT p.1 p.2 ∧ p.1.length ≤ a ∧ p.2.length ≤ b
section
variable {K : PySem.W.Frag} {σ : L2.St} {G H : Hp} {h l : Addr} {n : Int} {t : TA} {E : XK}
theorem ev_drawBook {a b : Nat} (s : SS h l G H) (ha : EvA (mdS h l) t σ G H [rRef h, rInt (a : Nat), rInt (b : Nat)]) (h1 : a ≤ 12) (h2 : b ≤ 10) :
    Ev (mdS h l) (tCall (sp_book K) [] E t) σ G H (rEx fun p : { p : List Nd × List Tr // Drawn a b p } => rRows K p.1.1 p.1.2) := fun G1 H1 e Q q =>
  ha G1 H1 e _ fun vs G2 H2 f ps => by
    obtain ⟨v1, v2, v3, rfl, p1, p2, p3⟩ := al3 ps
    obtain rfl : v1 = .ref h := p1
    obtain rfl : v2 = .int (a : Nat) := p2
    obtain rfl : v3 = .int (b : Nat) := p3
    exact ⟨h, l, a, b, G2, rfl, h1, h2, f.at.le, s.go (e.trans f), fun ns ts v' G3 H3 g1 g2 g3 g4 g j p => q v' G3 H3 (f.trans (g.goS j)) ⟨⟨(ns, ts), g1, g2, g3, g4⟩, p⟩⟩
end
theorem sub3 {h l x b : Addr} (hb : b ∈ [h, l]) : b ∈ [h, l, x] := by
  rcases List.mem_cons.mp hb with z | z
  · rw [z]; exact List.mem_cons_self
  · rw [List.mem_singleton.mp z]; exact List.mem_cons_of_mem _ List.mem_cons_self
theorem nLet : ∀ i : Fin 12, atI ("abcdefghijkl" : Str).cps.toList ((i.1 : Nat) : Int) = some (97 + i.1) ∧ ("n" : Str) ++ (⟨#[97 + i.1]⟩ : Str) = nName i.1 := by decide +kernel
theorem tLet : ∀ i : Fin 10, atI ("abcdefghij" : Str).cps.toList ((i.1 : Nat) : Int) = some (97 + i.1) ∧ ("t" : Str) ++ (⟨#[97 + i.1]⟩ : Str) = tName i.1 := by decide +kernel
theorem hLet : ∀ i : Fin 3, ("h" : Str) ++ (⟨#[("abc" : Str).cps.toList[i.1]'(by have := i.2; exact this)]⟩ : Str) ∈ hNames := by decide +kernel
theorem gLet : ∀ i : Fin 2, ("g" : Str) ++ (⟨#[("ab" : Str).cps.toList[i.1]'(by have := i.2; exact this)]⟩ : Str) ∈ gNames := by decide +kernel
theorem tm4 : ∀ i : Fin 4, ∃ tm : Int, (tm = 1 ∨ tm = 2 ∨ tm = 4) ∧ (([rInt 1, rInt 1, rInt 2, rInt 4] : List Rl)[i.1]'(by exact i.2)) = rInt tm
  | ⟨0, _⟩ => ⟨1, .inl rfl, rfl⟩
  | ⟨1, _⟩ => ⟨1, .inl rfl, rfl⟩
  | ⟨2, _⟩ => ⟨2, .inr (.inl rfl), rfl⟩
  | ⟨3, _⟩ => ⟨4, .inr (.inr rfl), rfl⟩
theorem filter_ways {ns : List Nd} {x : Str} {j : Nat} {m : Nd} (h : findNd x 0 ns = some (j, m)) : atI ((ns.filter fun n => decide (n.nm = x)).map fun n => rInt n.ws) 0 = some (rInt m.ws) := by
  have : ∀ {i : Nat} {ns : List Nd}, findNd x i ns = some (j, m) → ∃ t, ns.filter (fun n => decide (n.nm = x)) = m :: t := by
    intro i ns
    induction ns generalizing i with
    | nil => intro h; cases h
    | cons n t ih =>
      intro h
      unfold findNd at h
      by_cases c : n.nm = x
      · rw [if_pos c] at h
        cases h
        exact ⟨_, by rw [List.filter_cons, if_pos (decide_eq_true c)]⟩
      · rw [if_neg c] at h
        rw [List.filter_cons, if_neg (by simpa using c)]
        exact ih h
  obtain ⟨t, e⟩ := this h
  rw [e]
  unfold atI ixN
  rw [if_pos (by omega), if_pos (by rw [List.map_cons, List.length_cons]; omega)]
  rfl
section
variable {P : Program} {w : World} {K : PySem.W.Frag} {mg : Str → Option Value} {base : Heap} {f : Addr} {fd : FuncData}
theorem sc__law_book : FnScope ["_law_h", "_law_many_needs", "_law_many_tries", "_law_scopes", "_law_needs", "_law_tries", "_law_k", "_law_wide", "_law_others", "_law_ways", "_law_house", "_law_group", "_law_names_here", "_law_marks", "_law_row", "_law_many", "_law_name", "_law_need"] ["_law_h", "_law_many_needs", "_law_many_tries"] (defScope s__law_book) := ⟨rfl, rfl, rfl, by decide +kernel, rfl, by decide +kernel, by decide +kernel⟩
theorem fn_law_book (F : FnP K "_law_book" "_law_book" s__law_book f fd) (T : Top K mg) (c_next : C8.Cal P w K mg base 1 "_law_next" sp_next []) (c_some : C8.Cal P w K mg base 2 "_law_some" (sp_some K) []) (c_leads : C8.Cal P w K mg base 1 "_law_leads" (sp_leads K) []) : FnOk P w K mg base CX0 3 f fd (["_law_h", "_law_many_needs", "_law_many_tries"] : List Str) (sp_book K) := by
  refine F.ok sc__law_book (fun vs H Q E h => ?_) fun cdv A outer s H vs Q E hr h => ?_
  · obtain ⟨h, l, a, b, G, e, _⟩ := h
    rw [e]
    rfl
  suffices hs : ∃ t, PSs (cxOf CX0 P w K mg base (["_law_h", "_law_many_needs", "_law_many_tries", "_law_scopes", "_law_needs", "_law_tries", "_law_k", "_law_wide", "_law_others", "_law_ways", "_law_house", "_law_group", "_law_names_here", "_law_marks", "_law_row", "_law_many", "_law_name", "_law_need"] : List Str) "_law_book" (defScope s__law_book) f cdv A outer s H E).nox (defBody s__law_book) t ∧ t { nx := fun _ H' => Q .non H', rt := Q } (L2.start (["_law_h", "_law_many_needs", "_law_many_tries", "_law_scopes", "_law_needs", "_law_tries", "_law_k", "_law_wide", "_law_others", "_law_ways", "_law_house", "_law_group", "_law_names_here", "_law_marks", "_law_row", "_law_many", "_law_name", "_law_need"] : List Str) vs) H by
    obtain ⟨t, h1, h2⟩ := hs
    exact ⟨t, h1.nox, h2⟩
  refine ⟨_, (pss_cons (ps_set (i := 3) sc__law_book.nd rfl (Or.inr rfl) (pe_lst (pa_cons pe_str (pa_cons pe_str (pa_cons pe_str (pa_cons pe_str pa_nil (star_Constant _ _ _)) (star_Constant _ _ _)) (star_Constant _ _ _)) (star_Constant _ _ _)))) (pss_cons (ps_par (i := 4) (j := 5) (by rfl) sc__law_book.nd rfl rfl (by decide) rfl rfl (pa_cons (pe_lst pa_nil) (pa_cons (pe_lst pa_nil) pa_nil (star_List _ _)) (star_List _ _)) (by rfl)) (pss_cons (ps_for PassesOwn.never rfl (pi_range1 rfl T.z_range (pa_cons (C8.pe_c c_next hr (by first | decide | omega) rfl (pa_cons (pv 0) (pa_cons (pe_op op_add (pv 1) pe_int) pa_nil (star_BinOp _ _ _ _)) (star_Name _ _)) (he := (star_Name _ _))) pa_nil (star_Call _ _ _ _))) (pg_name (i := 6) sc__law_book.nd rfl (Or.inl rfl)) (pss_cons (ps_set (i := 7) sc__law_book.nd rfl (Or.inr rfl) (C8.pe_c c_next hr (by first | decide | omega) rfl (pa_cons (pv 0) (pa_cons pe_int pa_nil (star_Constant _ _ _)) (star_Name _ _)) (he := (star_Name _ _)))) (pss_cons (ps_setLc (i := 8) (own := [("_law_row", 14)]) rfl sc__law_book.nd rfl rfl (sw_true rfl rfl rfl (by decide +kernel)) (pi_list (pv 4)) (blkOk_by (own := [("_law_row", 14)]) (N := ["_law_h", "_law_many_needs", "_law_many_tries", "_law_scopes", "_law_needs", "_law_tries", "_law_k", "_law_wide", "_law_others", "_law_ways", "_law_house", "_law_group", "_law_names_here", "_law_marks", "_law_row", "_law_many", "_law_name", "_law_need"]) (sc := defScope s__law_book) (by decide +kernel)) (fun _ _ _ _ _ => (pg_name (i := 14) sc__law_book.nd rfl (Or.inl rfl))) (fun _ _ _ _ _ => ptsT (pts_one (pt_cmpR op_le (pe_bm PySem.F.plainAttrs_list PySem.F.slot_list_index PySem.F.type_list_index (mt_index) (pv 3) (pa_cons (pe_ix ix_tup (pv 14) pe_int (fun _ _ => rfl)) pa_nil (star_Subscript _ _ _))) (pv 7) (nomark _))) (by (try dsimp only [Cx.blk, Cx.nox, cxOf]) <;> rfl)) (fun _ _ _ _ _ => peT (pe_ix ix_tup (pv 14) pe_int (fun _ _ => rfl)) (by (try dsimp only [Cx.blk, Cx.nox, cxOf]) <;> rfl))) (pss_cons (ps_set (i := 9) sc__law_book.nd rfl (Or.inl rfl) (pe_ix ix_list (pe_lst (pa_cons pe_int (pa_cons pe_int (pa_cons pe_int (pa_cons pe_int (pa_cons pe_int pa_nil (star_Constant _ _ _)) (star_Constant _ _ _)) (star_Constant _ _ _)) (star_Constant _ _ _)) (star_Constant _ _ _))) (C8.pe_c c_next hr (by first | decide | omega) rfl (pa_cons (pv 0) (pa_cons pe_int pa_nil (star_Constant _ _ _)) (star_Name _ _)) (he := (star_Name _ _))) (fun _ _ => rfl))) (pss_one (ps_expr (pe_bm PySem.F.plainAttrs_list PySem.F.slot_list_append PySem.F.type_list_append (mt_append) (pv 4) (pa_cons (pe_tup (pa_cons (pe_op op_add_str pe_str (pe_ix ix_str pe_str (pv 6) (fun _ _ => rfl))) (pa_cons (pe_ix ix_list (pv 3) (pv 7) (fun _ _ => rfl)) (pa_cons (C8.pe_c c_some hr (by first | decide | omega) rfl (pa_cons (pv 0) (pa_cons (pv 8) (pa_cons pe_int pa_nil (star_Constant _ _ _)) (star_Name _ _)) (star_Name _ _)) (he := (star_Name _ _))) (pa_cons (pv 9) pa_nil (star_Name _ _)) (star_Call _ _ _ _)) (star_Subscript _ _ _)) (star_BinOp _ _ _ _))) pa_nil (star_Tuple _ _ _))))))))) (pss_cons (ps_for PassesOwn.never rfl (pi_range1 rfl T.z_range (pa_cons (C8.pe_c c_next hr (by first | decide | omega) rfl (pa_cons (pv 0) (pa_cons (pe_op op_add (pv 2) pe_int) pa_nil (star_BinOp _ _ _ _)) (star_Name _ _)) (he := (star_Name _ _))) pa_nil (star_Call _ _ _ _))) (pg_name (i := 6) sc__law_book.nd rfl (Or.inl rfl)) (pss_cons (ps_par (i := 10) (j := 11) (by rfl) sc__law_book.nd rfl rfl (by decide) rfl rfl (pa_cons (pe_op op_add_str pe_str (pe_ix ix_str pe_str (C8.pe_c c_next hr (by first | decide | omega) rfl (pa_cons (pv 0) (pa_cons pe_int pa_nil (star_Constant _ _ _)) (star_Name _ _)) (he := (star_Name _ _))) (fun _ _ => rfl))) (pa_cons (pe_op op_add_str pe_str (pe_ix ix_str pe_str (C8.pe_c c_next hr (by first | decide | omega) rfl (pa_cons (pv 0) (pa_cons pe_int pa_nil (star_Constant _ _ _)) (star_Name _ _)) (he := (star_Name _ _))) (fun _ _ => rfl))) pa_nil (star_BinOp _ _ _ _)) (star_BinOp _ _ _ _)) (by rfl)) (pss_cons (ps_set (i := 12) sc__law_book.nd rfl (Or.inl rfl) (C8.pe_c c_some hr (by first | decide | omega) rfl (pa_cons (pv 0) (pa_cons (pe_lc (own := [("_law_row", 14)]) rfl sc__law_book.nd (pi_list (pv 4)) (blkOk_by (own := [("_law_row", 14)]) (N := ["_law_h", "_law_many_needs", "_law_many_tries", "_law_scopes", "_law_needs", "_law_tries", "_law_k", "_law_wide", "_law_others", "_law_ways", "_law_house", "_law_group", "_law_names_here", "_law_marks", "_law_row", "_law_many", "_law_name", "_law_need"]) (sc := defScope s__law_book) (by decide +kernel)) (fun _ _ _ _ _ => (pg_name (i := 14) sc__law_book.nd rfl (Or.inl rfl))) (fun _ _ _ _ _ => pts_nil) (fun _ _ _ _ _ => peT (pe_ix ix_tup (pv 14) pe_int (fun _ _ => rfl)) (by (try dsimp only [Cx.blk, Cx.nox, cxOf]) <;> rfl))) (pa_cons pe_int pa_nil (star_Constant _ _ _)) (star_ListComp _ _ _ _)) (star_Name _ _)) (he := (star_Name _ _)))) (pss_cons (ps_set (i := 13) sc__law_book.nd rfl (Or.inl rfl) (C8.pe_c c_some hr (by first | decide | omega) rfl (pa_cons (pv 0) (pa_cons (pe_lst (pa_cons pe_str (pa_cons pe_str (pa_cons pe_str pa_nil (star_Constant _ _ _)) (star_Constant _ _ _)) (star_Constant _ _ _))) (pa_cons pe_int pa_nil (star_Constant _ _ _)) (star_List _ _)) (star_Name _ _)) (he := (star_Name _ _)))) (pss_cons (ps_set (i := 14) sc__law_book.nd rfl (Or.inl rfl) (pe_tup (pa_cons (pe_op op_add_str pe_str (pe_ix ix_str pe_str (pv 6) (fun _ _ => rfl))) (pa_cons (pv 10) (pa_cons (pv 11) (pa_cons (pv 12) (pa_cons (pv 13) (pa_cons (pe_ix ix_list (pe_lst (pa_cons pe_int (pa_cons pe_int (pa_cons pe_int (pa_cons pe_int pa_nil (star_Constant _ _ _)) (star_Constant _ _ _)) (star_Constant _ _ _)) (star_Constant _ _ _))) (C8.pe_c c_next hr (by first | decide | omega) rfl (pa_cons (pv 0) (pa_cons pe_int pa_nil (star_Constant _ _ _)) (star_Name _ _)) (he := (star_Name _ _))) (fun _ _ => rfl)) (pa_cons (pe_cmpR op_eq (C8.pe_c c_next hr (by first | decide | omega) rfl (pa_cons (pv 0) (pa_cons pe_int pa_nil (star_Constant _ _ _)) (star_Name _ _)) (he := (star_Name _ _))) pe_int (nomark _)) pa_nil (star_Compare _ _ _ _)) (star_Subscript _ _ _)) (star_Name _ _)) (star_Name _ _)) (star_Name _ _)) (star_Name _ _)) (star_BinOp _ _ _ _)))) (pss_cons (ps_set (i := 15) sc__law_book.nd rfl (Or.inl rfl) pe_int) (pss_cons (ps_for PassesOwn.never rfl (pi_list (C8.pe_c c_leads hr (by first | decide | omega) rfl (pa_cons (pv 4) (pa_cons (pv 12) pa_nil (star_Name _ _)) (star_Name _ _)) (he := (star_Name _ _)))) (pg_name (i := 16) sc__law_book.nd rfl (Or.inr rfl)) (pss_one (ps_set (i := 15) sc__law_book.nd rfl (Or.inl rfl) (pe_op op_mul (pv 15) (pe_ix ix_list (pe_lc (own := [("_law_need", 17)]) rfl sc__law_book.nd (pi_list (pv 4)) (blkOk_by (own := [("_law_need", 17)]) (N := ["_law_h", "_law_many_needs", "_law_many_tries", "_law_scopes", "_law_needs", "_law_tries", "_law_k", "_law_wide", "_law_others", "_law_ways", "_law_house", "_law_group", "_law_names_here", "_law_marks", "_law_row", "_law_many", "_law_name", "_law_need"]) (sc := defScope s__law_book) (by decide +kernel)) (fun _ _ _ _ _ => (pg_name (i := 17) sc__law_book.nd rfl (Or.inl rfl))) (fun _ _ _ _ _ => ptsT (pts_one (pt_cmpR op_eq (pe_ix ix_tup (pv 17) pe_int (fun _ _ => rfl)) (pv 16) (nomark _))) (by (try dsimp only [Cx.blk, Cx.nox, cxOf]) <;> rfl)) (fun _ _ _ _ _ => peT (pe_ix ix_tup (pv 17) pe_int (fun _ _ => rfl)) (by (try dsimp only [Cx.blk, Cx.nox, cxOf]) <;> rfl))) pe_int (fun _ _ => rfl)))))) (pss_one (ps_expr (pe_bm PySem.F.plainAttrs_list PySem.F.slot_list_append PySem.F.type_list_append (mt_append) (pv 5) (pa_cons (pe_ifExp (pt_cmpR op_lt (pv 15) pe_int (nomark _)) (pv 14) (pe_op op_catA (pe_op op_catA (pe_slice sl_tupA (pv 14) po_none (po_some pe_int)) (pe_tup (pa_cons (pe_tup pa_nil) pa_nil (star_Tuple _ _ _)))) (pe_slice sl_tupA (pv 14) (po_some pe_int) po_none))) pa_nil (star_IfExp _ _ _ _)))))))))))) (pss_one (ps_ret (pe_tup (pa_cons (pe_callTy (call_tuple_of) (by rfl) T.z_tuple (by decide +kernel) (pa_cons (pv 4) pa_nil (star_Name _ _))) (pa_cons (pe_callTy (call_tuple_of) (by rfl) T.z_tuple (by decide +kernel) (pa_cons (pv 5) pa_nil (star_Name _ _))) pa_nil (star_Call _ _ _ _)) (star_Call _ _ _ _))))))))), ?_⟩
  obtain ⟨h, l, a, b, G, rfl, ha, hb, le, ss, hQ⟩ := h
  have a0 : At (mdS h l) G H := ss.at le
  -- the scopes, the two lists
  refine q_asg (ev_lst (K := K) (rs := scopes4.map rStr) (ea_cons ev_c (ea_cons ev_c (ea_cons ev_c (ea_cons ev_c ea_nil)))) (show 4 ≤ 100000 by decide)) a0 fun vsc G1 H1 e1 psc => ?_
  refine q_parN (en_lst ea_nil) (en_lst ea_nil) e1.at fun ln lt on ot' G2 H2 e2 n1 n2 n3 n4 n5 n6 n7 fn' ft' => ?_
  obtain ⟨G1', -, vn, rfl, fn2⟩ := fn'
  obtain ⟨vt, rfl, ft2⟩ := ft'
  cases fn2
  cases ft2
  have sd : ∀ x ∈ [h, l], H1 x ≠ none := fun x hx => (mdS h l).dom e1.j x hx
  have lnW : ln ∉ (mdS h l).W := fun z => sd ln z n1
  have ltW : lt ∉ (mdS h l).W := fun z => sd lt z n2
  have ln0 : H ln = none := e1.back n1
  have lt0 : H lt = none := e1.back n2
  have g12 := e1.trans e2
  have ss2 := ss.go g12
  have pscs : (rLst K (scopes4.map rStr)).P G2 vsc := Rl.mono _ e2.gg psc
  -- the needs
  refine q_forV (ev_draw (n := (a : Int) + 1) ss2 (ea_cons (ev_val rfl) (ea_cons (ev_I0 (ev_val rfl) ev_c) ea_nil)) (by omega) (by omega)) e2.at fun v0 G3 H3 e3 ⟨na, p0⟩ => ?_
  obtain ⟨na, na0, na1⟩ := na
  obtain rfl : v0 = .int na := p0
  have ss3 := ss2.go e3
  obtain ⟨n8, n9⟩ := e3.gr.loc n6 n4 lnW
  obtain ⟨n10, n11⟩ := e3.gr.loc n7 n5 ltW
  refine q_for (W := [h, l, ln]) (src_rng1 (ev_c (v := .int na)) ⟨by omega, by omega⟩) e3.at (fun b hb => sub3 hb) (fun k σ' G' H' => ∃ ns xs x6 x7 x8 x9, σ' = [some (.ref h), some (.int (a : Nat)), some (.int (b : Nat)), some vsc, some (.ref ln), some (.ref lt), x6, x7, x8, x9, none, none, none, none, none, none, none, none] ∧ ns.length = k ∧ GenN ns ∧
      H' ln = some (.lst xs) ∧ G' ln = none ∧ Al G' (ns.map (rNd K)) xs ∧ H' lt = some (.lst []) ∧ G' lt = none) (fun G' H' e => ?_) (fun k r vr σ' G4 H4 hi hr4 g4 j4 hI N hN => ?_) (fun k r σ' G' H' G'' H'' _ g ⟨ns, xs, x6, x7, x8, x9, z1, z2, z3, z4, z5, z6, z7, z8⟩ => ?_) fun σ' G4 H4 g4 j4 hI => ?_
  · obtain ⟨h1, h2⟩ := e.gr.loc n8 n9 lnW
    obtain ⟨h3, h4⟩ := e.gr.loc n10 n11 ltW
    exact ⟨[], [], none, none, none, none, rfl, rfl, GenN.nil, h1, h2, .nil, h3, h4⟩
  · obtain ⟨ns, xs, x6, x7, x8, x9, rfl, z2, z3, z4, z5, z6, z7, z8⟩ := hI
    rw [List.getElem?_map, Option.map_eq_some_iff] at hi
    obtain ⟨k', hi, rfl⟩ := hi
    obtain ⟨hk1, hk2⟩ : k < na.toNat ∧ k' = k := by
      have h1 := (List.getElem?_eq_some_iff.mp hi).1
      rw [List.length_range] at h1
      rw [List.getElem?_range h1] at hi
      exact ⟨h1, by cases hi; rfl⟩
    subst hk2
    obtain rfl : vr = .int (k' : Nat) := hr4
    have hk12 : k' < 12 := by omega
    have ss4 := ss3.gr g4 j4
    have a4 := ss4.at g4.gh
    have psc4 : (rLst K (scopes4.map rStr)).P G4 vsc := Rl.mono _ (e3.gg.trans g4.gg) pscs
    -- _law_wide
    refine q_asg (ev_draw (n := 4) ss4 (ea_cons (ev_val rfl) (ea_cons ev_c ea_nil)) (by decide) (by decide)) a4 fun v7 G5 H5 e5 ⟨⟨wd, w0, w1⟩, p7⟩ => ?_
    obtain rfl : v7 = .int wd := p7
    obtain ⟨wn, rfl⟩ : ∃ wn : Nat, wd = wn := ⟨wd.toNat, by omega⟩
    have hwn : wn < 4 := by omega
    have ss5 := ss4.go e5
    obtain ⟨c1, c2⟩ := e5.gr.loc z4 z5 lnW
    -- _law_others
    have hscs : ∀ m ∈ ns, m.sc ∈ scopes4 := fun m hm => by
      obtain ⟨i, hi⟩ := List.getElem?_of_mem hm
      exact (isNeed_like.mp (z3.is i m hi)).sc
    refine q_asg (r := rLst K (((ns.filter fun m => decide (((scIx m.sc : Nat) : Int) ≤ (wn : Nat))).map Nd.nm).map rStr)) (Ev.of (EvN.lst (K := K) (en_lcX (enc := rNd K) (src_lstM (K := K) (ev_val rfl) c1 lnW lnW (z6.mono e5.gg)) (fun m => decide (((scIx m.sc : Nat) : Int) ≤ (wn : Nat))) (fun m => rStr m.nm) (fun _ => rfl)
      (fun m vm G' H' hm g pm => ⟨et_test (ev_I0 (g := fun i j => .bl (decide (i ≤ j))) (ev_index (K := K) (zs := scopes4) (ev_var rfl (Rl.mono _ (e5.gg.trans g.gg) psc4)) (ev_ixT (ev_var rfl pm) ev_c rfl) (scIx_get (hscs m hm)).1 (scIx_get (hscs m hm)).2) (ev_val rfl)), fun _ => ev_ixT (ev_var rfl pm) ev_c rfl⟩) (by omega))) (by rw [List.map_map]; rfl)) e5.at fun v8 G6 H6 e6 p8 => ?_
    have ss6 := ss5.go e6
    -- _law_ways
    refine q_asg (ev_ixD (K := K) (m := 5) (rs := [rInt 1, rInt 1, rInt 1, rInt 2, rInt 3]) (ev_lst (ea_cons ev_c (ea_cons ev_c (ea_cons ev_c (ea_cons ev_c (ea_cons ev_c ea_nil))))) (show 5 ≤ 100000 by decide)) (ev_draw (n := 5) ss6 (ea_cons (ev_val rfl) (ea_cons ev_c ea_nil)) (by decide) (by decide)) rfl) e6.at fun v9 G7 H7 e7 ⟨wi, p9⟩ => ?_
    obtain ⟨ws, rfl, hws⟩ : ∃ ws : Int, v9 = .int ws ∧ (ws = 1 ∨ ws = 2 ∨ ws = 3) := by
      have : ∀ i : Fin 5, ∀ v, (([rInt 1, rInt 1, rInt 1, rInt 2, rInt 3] : List Rl)[i.1]'(by exact i.2)).P G7 v → ∃ ws : Int, v = .int ws ∧ (ws = 1 ∨ ws = 2 ∨ ws = 3) := fun i v p => by
        match i, p with
        | ⟨0, _⟩, p => exact ⟨1, p, .inl rfl⟩
        | ⟨1, _⟩, p => exact ⟨1, p, .inl rfl⟩
        | ⟨2, _⟩, p => exact ⟨1, p, .inl rfl⟩
        | ⟨3, _⟩, p => exact ⟨2, p, .inr (.inl rfl)⟩
        | ⟨4, _⟩, p => exact ⟨3, p, .inr (.inr rfl)⟩
      exact this wi v9 p9
    have ss7 := ss6.go e7
    obtain ⟨c3, c4⟩ := (e6.trans e7).gr.loc c1 c2 lnW
    have p8' := Rl.mono _ e7.gg p8
    have psc7 := Rl.mono _ ((e5.trans e6).trans e7).gg psc4
    obtain ⟨nl1, nl2⟩ := nLet ⟨k', hk12⟩
    obtain ⟨sc, hsc⟩ : ∃ sc, scopes4[wn]? = some sc := ⟨scopes4[wn]'(by exact hwn), List.getElem?_eq_getElem (by exact hwn)⟩
    have hxs : xs.length < 100000 := by rw [← z6.length, List.length_map]; omega
    refine s_app (r := rTup K ([rStr (nName k'), rStr sc] ++ (rEx fun ys : { ys : List Str // SubP ys ((ns.filter fun m => decide (((scIx m.sc : Nat) : Int) ≤ (wn : Nat))).map Nd.nm) } => rTup K (ys.1.map rStr)) :: [rInt ws])) (ev_val rfl) (ev_tup (ea_cons ((ev_addS (op := fun _ _ _ _ => True) (x := "n") (y := ⟨#[97 + k']⟩) ev_c (ev_ixS (z := "abcdefghijkl") ev_c (ev_val rfl) (show 12 ≤ sizeLine by decide) nl1) (show 2 ≤ sizeLine by decide)).of (by rw [nl2])) (ea_cons (ev_ixL (K := K) (rs := scopes4.map rStr) (ev_var rfl psc7) (ev_val rfl) ?_) (ea_cons (ev_some ss7 (ea_cons (ev_val rfl) (ea_cons (ev_var rfl p8') (ea_cons ev_c ea_nil))) (by
        rw [List.length_map]
        have := List.length_filter_le (fun m : Nd => decide (((scIx m.sc : Nat) : Int) ≤ (wn : Nat))) ns
        omega) (by decide) (by decide)) (ea_cons (ev_val rfl) ea_nil)))) (show 4 ≤ 100000 by decide)) e7.at c3 c4 lnW hxs fun vv G8 H8 e8 pv d1 d2 => ?_
    · unfold atI ixN
      rw [if_pos (by omega), if_pos (by rw [List.length_map]; show ((wn : Nat) : Int) < ((4 : Nat) : Int); omega)]
      show (scopes4.map rStr)[wn]? = _
      rw [List.getElem?_map, hsc]
      rfl
    · obtain ⟨⟨ys, hys⟩, pv⟩ := tup_ex pv
      have g8 : Gr [h, l] G4 H4 G8 H8 := (e5.trans (e6.trans (e7.trans e8))).gr
      have g8' : Gr [h, l, ln] G4 H4 G8 H8 := g8.mono fun b hb => sub3 hb
      obtain ⟨d3, d4⟩ := g8.loc z7 z8 ltW
      have hn : isNeed ns ⟨nName k', sc, ys, ws⟩ = true := drawn_need z3 (by omega) (by rw [z2]) hwn hsc hws hys
      refine hN _ G8 _ (g8'.putW (by simp) d2) (At.put e8.at d2 lnW).j ⟨ns ++ [⟨nName k', sc, ys, ws⟩], xs ++ [vv], _, _, _, _, rfl, by rw [List.length_append, z2]; rfl, z3.snoc hn (by rw [z2]) hws (by omega), upd_same, d2, ?_, by rw [upd_ne (Ne.symm n3)]; exact d3, d4⟩
      rw [List.map_append]
      exact (z6.mono g8.gg).app pv
  · obtain ⟨h4, h5⟩ := g.loc z4 z5 (by simp)
    obtain ⟨h6, h7⟩ := g.loc z7 z8 (by simp)
    exact ⟨ns, xs, x6, x7, x8, x9, z1, z2, z3, h4, h5, z6.mono g.gg, h6, h7⟩
  -- the needs stay as they are
  obtain ⟨ns, xs, x6, x7, x8, x9, rfl, z2, z3, z4, z5, z6, z7, z8⟩ := hI
  rw [List.length_map, List.length_range] at z2
  have hna : ns.length ≤ a := by omega
  have gA : Gr [h, l] G H G4 H4 := (g12.trans e3).gr.over g4 fun p hp => by
    simp only [List.mem_cons, List.not_mem_nil, or_false] at hp
    rcases hp with z | z | z
    · exact .inl (by rw [z]; simp [mdS])
    · exact .inl (by rw [z]; simp [mdS])
    · exact .inr (by rw [z]; exact ln0)
  have gB := gA.fix ln0 z5 z4
  have z6' : (rLst K (ns.map (rNd K))).P (upd G4 ln (.lst xs)) (.ref ln) := ⟨ln, xs, rfl, .of upd_same, z6.mono (Le.new z5)⟩
  have z8' : (upd G4 ln (.lst xs)) lt = none := by rw [upd_ne (Ne.symm n3)]; exact z8
  generalize upd G4 ln (.lst xs) = G5 at gB z6' z8'
  have ss5 : SS h l G5 H4 := ss.gr gB j4
  have a5 := ss5.at gB.gh
  -- the tries
  refine q_forV (ev_draw (n := (b : Int) + 1) ss5 (ea_cons (ev_val rfl) (ea_cons (ev_I0 (ev_val rfl) ev_c) ea_nil)) (by omega) (by omega)) a5 fun v0 G6 H6 e6 ⟨nb, p0⟩ => ?_
  obtain ⟨nb, nb0, nb1⟩ := nb
  obtain rfl : v0 = .int nb := p0
  have ss6 := ss5.go e6
  obtain ⟨m1, m2⟩ := e6.gr.loc z7 z8' ltW
  have z6'' := Rl.mono _ e6.gg z6'
  refine q_for (W := [h, l, lt]) (src_rng1 (ev_c (v := .int nb)) ⟨by omega, by omega⟩) e6.at (fun b hb => sub3 hb) (fun k σ' G' H' => ∃ ts xs x6 x10 x11 x12 x13 x14 x15 x16, σ' = [some (.ref h), some (.int (a : Nat)), some (.int (b : Nat)), some vsc, some (.ref ln), some (.ref lt), x6, x7, x8, x9, x10, x11, x12, x13, x14, x15, x16, none] ∧ ts.length = k ∧ GenT ns ts ∧
      H' lt = some (.lst xs) ∧ G' lt = none ∧ Al G' (ts.map (rTr K)) xs) (fun G' H' e => ?_) (fun k r vr σ' G7 H7 hi hr7 g7 j7 hI N hN => ?_) (fun k r σ' G' H' G'' H'' _ g ⟨ts, xs, x6, x10, x11, x12, x13, x14, x15, x16, y1, y2, y3, y4, y5, y6⟩ => ?_) fun σ' G7 H7 g7 j7 hI => ?_
  · obtain ⟨h1, h2⟩ := e.gr.loc m1 m2 ltW
    exact ⟨[], [], _, none, none, none, none, none, none, none, rfl, rfl, GenT.nil ns, h1, h2, .nil⟩
  · obtain ⟨ts, txs, y6, x10, x11, x12, x13, x14, x15, x16, rfl, y2, y3, y4, y5, y7⟩ := hI
    rw [List.getElem?_map, Option.map_eq_some_iff] at hi
    obtain ⟨k', hi, rfl⟩ := hi
    obtain ⟨hk1, hk2⟩ : k < nb.toNat ∧ k' = k := by
      have h1 := (List.getElem?_eq_some_iff.mp hi).1
      rw [List.length_range] at h1
      rw [List.getElem?_range h1] at hi
      exact ⟨h1, by cases hi; rfl⟩
    subst hk2
    obtain rfl : vr = .int (k' : Nat) := hr7
    have hk10 : k' < 10 := by omega
    have ss7 := ss6.gr g7 j7
    have a7 := ss7.at g7.gh
    have hnd7 := Rl.mono _ g7.gg z6''
    -- house, group
    refine q_par (ea_cons (ev_addSX (x := "h") ev_c (ev_ixSD (m := 3) (z := "abc") ev_c (ev_draw (n := 3) ss7 (ea_cons (ev_val rfl) (ea_cons ev_c ea_nil)) (by decide) (by decide)) rfl (by decide)) (fun _ => show 2 ≤ 100000 by decide)) (ea_cons (ev_addSX (x := "g") ev_c (ev_ixSD (m := 2) (z := "ab") ev_c (ev_draw (n := 2) ss7 (ea_cons (ev_val rfl) (ea_cons ev_c ea_nil)) (by decide) (by decide)) rfl (by decide)) (fun _ => show 2 ≤ 100000 by decide)) ea_nil)) a7 fun vh vg G8 H8 e8 ⟨ih, ph⟩ ⟨ig, pg⟩ => ?_
    obtain ⟨hs, rfl, hhs⟩ : ∃ hs : Str, vh = .str hs ∧ hs ∈ hNames := ⟨_, ph, hLet ih⟩
    obtain ⟨gp, rfl, hgp⟩ : ∃ gp : Str, vg = .str gp ∧ gp ∈ gNames := ⟨_, pg, gLet ig⟩
    have ss8 := ss7.go e8
    have hnd8 := Rl.mono _ e8.gg hnd7
    have z3l := z3.le
    -- names, marks
    refine q_asg (ev_some (K := K) (xs := ns.map Nd.nm) ss8 (ea_cons (ev_val rfl) (ea_cons (Ev.of (EvN.lst (K := K) (en_map (enc := rNd K) (src_lst (ev_var rfl hnd8)) (fun m => rStr m.nm) (fun _ => rfl) (fun m vm G' H' hm g pm => ev_ixT (ev_var rfl pm) ev_c rfl) (by omega))) (by rw [List.map_map]; rfl)) (ea_cons ev_c ea_nil))) (by rw [List.length_map]; omega) (by decide) (by decide)) e8.at fun vn G9 H9 e9 ⟨⟨nds, hnds⟩, pn⟩ => ?_
    have pn : (rTup K (nds.map rStr)).P G9 vn := pn
    have ss9 := ss8.go e9
    refine q_asg (ev_some (K := K) (xs := mNames) ss9 (ea_cons (ev_val rfl) (ea_cons (ev_lst (K := K) (rs := mNames.map rStr) (ea_cons ev_c (ea_cons ev_c (ea_cons ev_c ea_nil))) (show 3 ≤ 100000 by decide)) (ea_cons ev_c ea_nil))) (show 3 ≤ 100000 by decide) (by decide) (by decide)) e9.at fun vm G10 H10 e10 ⟨⟨mks, hmks⟩, pm⟩ => ?_
    have pm : (rTup K (mks.map rStr)).P G10 vm := pm
    have ss10 := ss9.go e10
    obtain ⟨tl1, tl2⟩ := tLet ⟨k', hk10⟩
    -- the row
    refine q_asg (r := rTup K ([rStr (tName k'), rStr hs, rStr gp, rTup K (nds.map rStr), rTup K (mks.map rStr)] ++ (rEx fun i : Fin 4 => ([rInt 1, rInt 1, rInt 2, rInt 4] : List Rl)[i.1]'(by exact i.2)) :: [rAny])) (ev_tup (ea_cons ((ev_addS (op := fun _ _ _ _ => True) (x := "t") (y := ⟨#[97 + k']⟩) ev_c (ev_ixS (z := "abcdefghij") ev_c (ev_val rfl) (show 10 ≤ sizeLine by decide) tl1) (show 2 ≤ sizeLine by decide)).of (by rw [tl2])) (ea_cons (ev_val rfl) (ea_cons (ev_val rfl) (ea_cons (ev_var rfl (Rl.mono _ e10.gg pn)) (ea_cons (ev_var rfl pm)
      (ea_cons (ev_ixD (K := K) (m := 4) (rs := [rInt 1, rInt 1, rInt 2, rInt 4]) (ev_lst (ea_cons ev_c (ea_cons ev_c (ea_cons ev_c (ea_cons ev_c ea_nil)))) (show 4 ≤ 100000 by decide)) (ev_draw (n := 4) ss10 (ea_cons (ev_val rfl) (ea_cons ev_c ea_nil)) (by decide) (by decide)) rfl)
      (ea_cons (ev_drawEq (ev_draw (n := 6) ss10 (ea_cons (ev_val rfl) (ea_cons ev_c ea_nil)) (by decide) (by decide)) ev_c) ea_nil))))))) (show 7 ≤ 100000 by decide)) e10.at fun vr G11 H11 e11 pr => ?_
    obtain ⟨it, pr⟩ := tup_ex pr
    obtain ⟨ex, pr⟩ := tup_ex (pre := [rStr (tName k'), rStr hs, rStr gp, rTup K (nds.map rStr), rTup K (mks.map rStr), _]) (post := []) pr
    obtain ⟨tm, htm, e4⟩ := tm4 it
    rw [e4] at pr
    have pr : (rTr K ⟨tName k', hs, gp, nds, mks, tm, ex⟩).P G11 vr := pr
    have ss11 := ss10.go e11
    have g811 : Go (mdS h l) G8 H8 G11 H11 := e9.trans (e10.trans e11)
    -- how many cases
    have bk := z3
    have hbk : BkOk ns := (genBook z3 (GenT.nil ns)).bk
    have hws : WsOk ns := (genBook z3 (GenT.nil ns)).ws
    have hndsl : nds.length ≤ 12 := by have := hnds.le; rw [List.length_map] at this; omega
    refine q_asgV (v := .int 1) ev_c e11.at fun G12 H12 e12 => ?_
    have hnd12 := Rl.mono _ (g811.trans e12).gg hnd8
    have pn12 := Rl.mono _ (e10.trans (e11.trans e12)).gg pn
    refine q_for (W := [h, l]) (src_lst (K := K) (Ev.raw (ev_call (E := E0) (ns, nds) (ea_cons (ev_var rfl (rSeq_l hnd12)) (ea_cons (ev_var rfl (rSeq_t pn12)) ea_nil)) fun G' H' g => ⟨show ns.length ≤ 100 by omega, show nds.length ≤ 100 by omega, hbk.ots⟩))) e12.at (fun b hb => hb)
      (fun i σ' _ _ => ∃ x, σ' = [some (.ref h), some (.int (a : Nat)), some (.int (b : Nat)), some vsc, some (.ref ln), some (.ref lt), some (.int (k' : Nat)), x7, x8, x9, some (.str hs), some (.str gp), some vn, some vm, some vr, some (.int (((closureM ns nds).take i).foldl (fun m x => m * waysOf ns x) 1)), x, none])
      (fun _ _ _ => ⟨_, rfl⟩) (fun i r vx σ' G13 H13 hi hp g13 j13 hI N' hN' => ?_) (fun _ _ _ _ _ _ _ _ _ h => h) fun σ' G13 H13 g13 j13 hI => ?_
    · obtain ⟨x0, rfl⟩ := hI
      rw [List.getElem?_map, Option.map_eq_some_iff] at hi
      obtain ⟨x, hi, rfl⟩ := hi
      have hxm : x ∈ closureM ns nds := List.mem_of_getElem? hi
      obtain ⟨j, m, t1, t2, t3⟩ := findNd_some (i := 0) (mem_closureM hxm)
      have b1 := hws.lo m t2
      have b2 := hws.hi m t2
      obtain rfl : vx = .str x := hp
      have hnd13 := Rl.mono _ g13.gg hnd12
      refine s_asg (r := rInt (((closureM ns nds).take (i + 1)).foldl (fun m x => m * waysOf ns x) 1)) (Ev.of (ev_I (g := fun i j => .int (i * j)) (ev_val rfl) (ev_ixL (K := K) (i := 0) (EvN.lst (en_lcX (enc := rNd K) (src_lst (ev_var rfl hnd13)) (fun n => decide (n.nm = x)) (fun n => rInt n.ws) (fun _ => rfl) (fun n vn' G' H' hn g pn' => ⟨et_test (ev_eqS (ev_ixT (ev_var rfl pn') ev_c rfl) (ev_val rfl)), fun _ => ev_ixT (ev_var rfl pn') ev_c rfl⟩) (by omega))) ev_c (filter_ways t1)) (.inr ⟨by omega, by omega⟩)) ?_) ⟨g13.gh, j13⟩ fun vv G14 H14 e14 pv => ?_
      · have e : ((closureM ns nds).take (i + 1)).foldl (fun m x => m * waysOf ns x) 1 = ((closureM ns nds).take i).foldl (fun m x => m * waysOf ns x) 1 * m.ws := by
          rw [List.take_add_one, hi]
          show ((closureM ns nds).take i ++ [x]).foldl _ 1 = _
          rw [List.foldl_append]
          show _ * waysOf ns x = _
          unfold waysOf
          rw [t1]
          rfl
        rw [e]
      · obtain rfl : vv = .int _ := pv
        exact hN' _ G14 H14 e14.gr e14.j ⟨some (.str x), rfl⟩
    · obtain ⟨x0, rfl⟩ := hI
      rw [List.length_map, List.take_length]
      have hmany : ((closureM ns nds).foldl (fun m x => m * waysOf ns x) 1) = manyOf ns nds := rfl
      rw [hmany]
      have a13 : At (mdS h l) G13 H13 := ⟨g13.gh, j13⟩
      have g713 : Gr [h, l] G7 H7 G13 H13 := (e8.trans (g811.trans e12)).gr.trans g13
      obtain ⟨q1, q2⟩ := g713.loc y4 y5 ltW
      have pr13 := Rl.mono _ (e12.gg.trans g13.gg) pr
      have hl : txs.length < 100000 := by
        rw [← y7.length, List.length_map]
        omega
      let t : Tr := ⟨tName k', hs, gp, nds, mks, tm, ex⟩
      let t' : Tr := if manyOf ns nds < 13 then t else { t with nd := [] }
      refine s_app (r := rTr K t') (ev_val rfl) (ev_if (B := fun b => b = decide (manyOf ns nds < 13)) (et_test (ev_I0 (g := fun i j => .bl (decide (i < j))) (ev_val rfl) ev_c)) (fun hB => ?_) fun hB => ?_) a13 q1 q2 ltW hl fun vv G14 H14 e14 pv d1 d2 => ?_
      · have c : manyOf ns nds < 13 := of_decide_eq_true hB.symm
        exact (ev_var rfl pr13).imp fun G' v p => by
          show (rTr K (if manyOf ns nds < 13 then t else { t with nd := [] })).P G' v
          rw [if_pos c]
          exact p
      · have c : ¬ manyOf ns nds < 13 := fun z => by
          have hB : false = decide (manyOf ns nds < 13) := hB
          rw [decide_eq_true z] at hB
          cases hB
        have row : (rTup K [rStr (tName k'), rStr hs, rStr gp, rTup K (nds.map rStr), rTup K (mks.map rStr), rInt tm, rBl ex]).P G13 vr := pr13
        refine (ev_catT (K := K) (ss := [rTup K (mks.map rStr), rInt tm, rBl ex]) (ev_catT (rs := [rStr (tName k'), rStr hs, rStr gp]) (ss := [rTup K []]) (ev_slT (lo := none) (hi := some 3) (ev_var rfl row) (fun _ _ q => q) (fun _ _ q => ⟨3, rfl, q⟩)) (ev_tup (ea_cons (ev_tup ea_nil (show 0 ≤ 100000 by decide)) ea_nil) (show 1 ≤ 100000 by decide)) (show 4 ≤ 100000 by decide)) (ev_slT (lo := some 4) (hi := none) (ev_var rfl row) (fun _ _ q => ⟨4, rfl, q⟩) (fun _ _ q => q)) (show 7 ≤ 100000 by decide)).imp fun G' v p => ?_
        show (rTr K (if manyOf ns nds < 13 then t else { t with nd := [] })).P G' v
        rw [if_neg c]
        exact p
      · have g714 : Gr [h, l] G7 H7 G14 H14 := g713.trans e14.gr
        have ht' : t'.nm = tName k' ∧ t'.hs = hs ∧ t'.gp = gp ∧ t'.ms = mks ∧ t'.tm = tm ∧ SubP t'.nd (ns.map Nd.nm) ∧ manyOf ns t'.nd < 13 := by
          show (if manyOf ns nds < 13 then t else { t with nd := [] }).nm = _ ∧ _
          simp only [t']
          by_cases c : manyOf ns nds < 13
          · simp only [if_pos c]
            exact ⟨rfl, rfl, rfl, rfl, rfl, hnds, c⟩
          · simp only [if_neg c]
            refine ⟨rfl, rfl, rfl, rfl, rfl, ⟨fun y hy => (nomatch hy), fun _ => List.nodup_nil, Nat.zero_le _⟩, ?_⟩
            unfold manyOf
            rw [closureM_nil]
            show (1 : Int) < 13
            decide
        obtain ⟨t1, t2, t3, t4, t5, t6, t7⟩ := ht'
        have nm : t'.nm = tName ts.length := by rw [y2]; exact t1
        have it : isTry ns ts t' = true := drawn_try z3 y3 (by omega) nm (by rw [t2]; exact hhs) (by rw [t3]; exact hgp) t6 (by rw [t4]; exact hmks) (by rw [t5]; exact htm) t7
        refine hN _ G14 _ ((g714.mono fun b hb => sub3 hb).putW (by simp) d2) (At.put e14.at d2 ltW).j ⟨ts ++ [t'], txs ++ [vv], _, _, _, _, _, _, _, _, rfl, by rw [List.length_append, y2]; rfl, y3.snoc it nm (by rw [t2]; exact hhs) (by rw [t3]; exact hgp) (by rw [t4]; exact hmks.mem) (by rw [t5]; exact htm) t7 (by omega), upd_same, d2, ?_⟩
        rw [List.map_append]
        exact (y7.mono g714.gg).app pv
  · obtain ⟨h4, h5⟩ := g.loc y4 y5 (by simp)
    exact ⟨ts, xs, x6, x10, x11, x12, x13, x14, x15, x16, y1, y2, y3, h4, h5, y6.mono g.gg⟩
  -- both as tuples
  obtain ⟨ts, txs, y6, x10, x11, x12, x13, x14, x15, x16, rfl, y2, y3, y4, y5, y7⟩ := hI
  rw [List.length_map, List.length_range] at y2
  have gC : Gr [h, l] G H G7 H7 := (gB.trans e6.gr).over g7 fun p hp => by
    simp only [List.mem_cons, List.not_mem_nil, or_false] at hp
    rcases hp with z | z | z
    · exact .inl (by rw [z]; simp)
    · exact .inl (by rw [z]; simp)
    · exact .inr (by rw [z]; exact lt0)
  have gD := gC.fix lt0 y5 y4
  have y8 : (rLst K (ts.map (rTr K))).P (upd G7 lt (.lst txs)) (.ref lt) := ⟨lt, txs, rfl, .of upd_same, y7.mono (Le.new y5)⟩
  have hnd := Rl.mono _ (g7.gg.trans (Le.new (o := .lst txs) y5)) z6''
  generalize upd G7 lt (.lst txs) = G8 at gD y8 hnd
  refine s_ret (r := rRows K ns ts) (ev_tup (ea_cons (ev_tuple (ev_var rfl (rSeq_l hnd))) (ea_cons (ev_tuple (ev_var rfl (rSeq_l y8))) ea_nil)) (show 2 ≤ 100000 by decide)) ((ss.gr gD j7).at gD.gh) fun v' G9 H9 e9 p => hQ ns ts v' G9 H9 z3 y3 hna (by omega) (gD.trans e9.gr) e9.j p
end

end TH
namespace TH
open PySem PySem.Spec PyProof.Rows L2
variable [TC : TabC]
/-! ### the law's draws over plain values -/
/-- the state that is drawn from -/
def rDS : Res where
  P := fun _ _ H v fp => ∃ h l : Addr, v = .ref h ∧ fp = [h, l] ∧ h ≠ l ∧ JS h l H
  frame := by
    rintro K G H G' H' v fp ⟨h, l, e1, e2, ne, m, i, cs, h1, h2, h3⟩ - e
    subst e2
    exact ⟨h, l, e1, rfl, ne, m, i, cs, (e h List.mem_cons_self).trans h1, (e l (List.mem_cons_of_mem _ List.mem_cons_self)).trans h2, h3⟩
  there := by
    rintro K G H v fp ⟨h, l, e1, rfl, ne, m, i, cs, h1, h2, h3⟩ b hb
    rcases List.mem_cons.mp hb with rfl | hb
    · exact ⟨_, h1, by exact ⟨fun _ z => (nomatch z), fun _ z => (nomatch z)⟩⟩
    · rw [List.mem_singleton.mp hb]; exact ⟨_, h2, by exact ⟨fun _ z => (nomatch z), fun _ z => (nomatch z)⟩⟩
abbrev oDS : AO := .res rDS
theorem Rep.one {K : PySem.W.Frag} {s : Cs} {o o' : AO} {G' H' : Hp} {v : V} (r : Rep K (Bs.of s) s) (hA : s.A = [o]) (p0 : s.ι[0]? = some v) (h : aoR K G' H' o' v (s.φ 0)) (g : Gr (s.φ 0) s.G s.H G' H') : Rep K (Bs.of s) { s with A := [o'], G := G', H := H' } := by
  have one : s.A.length = 1 := by rw [hA]; rfl
  have hn : 0 < s.A.length := by omega
  have zero : ∀ {m}, m < 1 → m = 0 := fun {m} h => by omega
  refine ⟨by show s.ι.length = 1; rw [r.len, one], fun m o em => ?_, fun m hm => ?_, fun m l hm hl' ne => ?_, fun m hm b hb => ?_, fun m hm b hb => .inl ⟨by show m < s.ι.length; rw [r.len, one]; exact hm, hb⟩, g.mono fun b hb => ?_, List.prefix_refl _, fun P hP => g.tb P hP (fun z => ?_) (r.tabs P hP)⟩
  · match m, em with
    | 0, em =>
      cases em
      exact ⟨v, p0, h⟩
    | m + 1, em => simp at em
  · rw [zero hm]; exact r.nd 0 hn
  · exact absurd ((zero hm).trans (zero hl').symm) ne
  · rw [zero hm] at hb
    exact g.gnone (r.there hn b hb) (r.out 0 hn b hb)
  · exact Bs.inW (n := 0) (by show 0 < s.ι.length; rw [r.len]; exact hn) hb
  · obtain ⟨o, e, q⟩ := r.nx hn P z
    exact (r.tabs P hP).off e q.1 rfl
/-- a state handed in -/
theorem ds_at {K : PySem.W.Frag} {s : Cs} {v : V} (r : Rep K (Bs.of s) s) (hA : s.A = [oDS]) (p0 : s.ι[0]? = some v) : ∃ h l, v = .ref h ∧ s.φ 0 = [h, l] ∧ SS h l s.G s.H := by
  have hn : 0 < s.A.length := by rw [hA]; exact Nat.zero_lt_one
  obtain ⟨v', h1, h2⟩ := r.at' 0 oDS (by rw [hA]; rfl)
  rw [p0] at h1
  cases h1
  obtain ⟨h, l, e1, e2, ne, js⟩ := h2
  exact ⟨h, l, e1, e2, r.out 0 hn h (by rw [e2]; exact List.mem_cons_self), r.out 0 hn l (by rw [e2]; exact List.mem_cons_of_mem _ List.mem_cons_self), ne, js⟩
def ac_next : AC := fun avs A k => ∃ n : Int, avs = [.loc 0 [], .pv (.int n)] ∧ A = [oDS] ∧ 1 ≤ n ∧ n < 1073741824 ∧ ∀ r : Int, 0 ≤ r → r < n → k (.pv (.int r)) [oDS]
theorem le_next {K : PySem.W.Frag} : SpLe (spA K ac_next) sp_next := fun vs H Q E ⟨s, avs, Kc, e, r, pr, ⟨n, ea, eA, n1, n2, hk⟩, q⟩ => by
  subst e ea
  cases pr with
  | cons p0 pr =>
    cases pr with
    | cons p1 pr =>
      cases pr
      obtain ⟨h, l, rfl, efp, ss⟩ := ds_at r eA p0
      cases (show _ = V.int n from p1)
      refine ⟨h, l, n, s.G, rfl, n1, n2, r.le, ss.h0, ss.l0, ss.ne, ss.js, fun x G' H' x0 x1 g j => ?_⟩
      exact q (.pv (.int x)) _ _ (r.one eA p0 (o' := oDS) (by rw [efp]; exact ⟨h, l, rfl, rfl, ss.ne, j⟩) (by rw [efp]; exact g)) (by rw [eA]) (show _ = _ from rfl) (hk x x0 x1)
def ac_lbook : AC := fun avs A k => ∃ a b : Nat, avs = [.loc 0 [], .pv (.int a), .pv (.int b)] ∧ A = [oDS] ∧ a ≤ 12 ∧ b ≤ 10 ∧ ∀ ns ts, GenN ns → GenT ns ts → ns.length ≤ a → ts.length ≤ b → k (.pv (pRows ns ts)) [oDS]
theorem le_lbook {K : PySem.W.Frag} : SpLe (spA K ac_lbook) (sp_book K) := fun vs H Q E ⟨s, avs, Kc, e, r, pr, ⟨a, b, ea, eA, n1, n2, hk⟩, q⟩ => by
  subst e ea
  cases pr with
  | cons p0 pr =>
    cases pr with
    | cons p1 pr =>
      cases pr with
      | cons p2 pr =>
        cases pr
        obtain ⟨h, l, rfl, efp, ss⟩ := ds_at r eA p0
        cases (show _ = V.int a from p1)
        cases (show _ = V.int b from p2)
        refine ⟨h, l, a, b, s.G, rfl, n1, n2, r.le, ss, fun ns ts v G' H' g1 g2 l1 l2 g j pv => ?_⟩
        refine q (.pv (pRows ns ts)) v _ (r.one eA p0 (o' := oDS) (by rw [efp]; exact ⟨h, l, rfl, rfl, ss.ne, j⟩) (by rw [efp]; exact g)) (by rw [eA]) ?_ (hk ns ts g1 g2 l1 l2)
        show (rPV K (pRows ns ts)).P G' v
        rw [r_rows]
        exact pv
def ac_mix (K : PySem.W.Frag) : AC := fun avs A k => ∃ (cells : List Int) (seed : Int), avs = [.pv (.rel (rLst K (cells.map rInt))), .pv (.int seed)] ∧ A = [] ∧ cells.length ≤ 1000 ∧ k (.new oDS) []
theorem le_mix {K : PySem.W.Frag} : SpLe (spA K (ac_mix K)) (sp_mix K) := fun vs H Q E ⟨s, avs, Kc, e, r, pr, ⟨cells, seed, ea, eA, n1, hk⟩, q⟩ => by
  subst e ea
  cases pr with
  | cons p0 pr =>
    cases pr with
    | cons p1 pr =>
      cases pr
      cases (show _ = V.int seed from p1)
      have hl : s.A.length = 0 := by rw [eA]; rfl
      refine ⟨_, seed, cells, s.G, rfl, n1, r.le, p0, fun h l G' H' g h0 l0 g1 g2 ne j => ?_⟩
      refine q (.new oDS) (.ref h) { s with G := G', H := H' } (r.pure g) rfl ⟨[h, l], ⟨⟨h, l, rfl, rfl, ne, j⟩, by simp [ne], fun b hb => ?_, fun b hb => ?_, fun b hb n hn => ?_⟩⟩ ?_
      · rcases List.mem_cons.mp hb with rfl | hb
        · exact h0
        · rw [List.mem_singleton.mp hb]; exact l0
      · rcases List.mem_cons.mp hb with rfl | hb
        · exact g1
        · rw [List.mem_singleton.mp hb]; exact g2
      · exact absurd (show n < s.A.length from hn) (by omega)
      · show Kc (.new oDS) s.A
        rw [eA]
        exact hk
/-! ### _law_alike over plain values -/
def rAl (K : PySem.W.Frag) : PV → Rl
  | .v x => rV x
  | .tup xs => rTup K (rAls xs)
  | .lst xs => rLst K (rAls xs)
  | .dct kvs => rPV K (.dct kvs)
  | .ins C fs => rPV K (.ins C fs)
  | .rel r => r
where
  rAls : List PV → List Rl
    | [] => []
    | p :: t => rAl K p :: rAls t
def AP : Nat → PV → Prop
  | n + 1, .v (.str _) => True
  | n + 1, .v (.int _) => True
  | n + 1, .v (.bl _) => True
  | n + 1, .v .non => True
  | n + 1, .tup xs => xs.length ≤ 100000 ∧ ∀ x ∈ xs, AP n x
  | n + 1, .lst xs => xs.length ≤ 100000 ∧ ∀ x ∈ xs, AP n x
  | _, _ => False
theorem pvo_addS : PvOp fAddS := fun A x y k h => by
  unfold fAddS at h ⊢
  split at h
  · exact ⟨h.1, rfl, h.2⟩
  · exact h.elim
def MoOp (f : aR2) : Prop := ∀ A x y (k k' : AV → Prop), (∀ z, k z → k' z) → f A x y k → f A x y k'
theorem moo_addS : MoOp fAddS := fun A x y k k' w h => by
  unfold fAddS at h ⊢
  split at h
  · exact ⟨h.1, w _ h.2⟩
  · exact h.elim
theorem moo_I0 {g : Int → Int → V} : MoOp (fI0 g) := fun A x y k k' w h => by
  unfold fI0 at h ⊢
  split at h
  · exact w _ h
  · exact h.elim
def MoA (r : aTA) : Prop := ∀ sa A (k k' : List AV → Sto → Prop), (∀ x A, k x A → k' x A) → r sa A k → r sa A k'
def MoC (ac : AC) : Prop := ∀ avs A (k k' : Rt → Sto → Prop), (∀ x A, k x A → k' x A) → ac avs A k → ac avs A k'
section
variable {a b : aTE} {r : aTA} {f : aR2} {ac : AC}
theorem mo_op (ha : Mo a) (hb : Mo b) (hf : MoOp f) : Mo (aOp f a b) := fun sa A k k' w h => ha sa A _ _ (fun x A1 h => hb sa A1 _ _ (fun y A2 h => hf A2 x y _ _ (fun z => w z A2) h) h) h
theorem moa_nil : MoA aNil := fun sa A k k' w h => w _ _ h
theorem moa_cons (ha : Mo a) (hr : MoA r) : MoA (aCons a r) := fun sa A k k' w h => ha sa A _ _ (fun x A1 h => hr sa A1 _ _ (fun xs A2 h => w _ _ h) h) h
theorem mo_callH (hc : MoC ac) (hr : MoA r) : Mo (aCall1 ac r) := fun sa A k k' w h => hr sa A _ _ (fun avs A1 h => by
  split at h
  · obtain ⟨ps, o, e1, e2, h⟩ := h
    refine ⟨ps, o, e1, e2, hc _ _ _ _ (fun rv os h => ?_) h⟩
    split at h
    · exact w _ _ h
    · exact h.elim
  · exact h.elim) h
theorem stb_lst (h : MoA r) : Stb (aFz (aLst r)) := stb_fz fun sa A k k' w hh => h sa A _ _ (fun avs A1 hh => by
  split at hh
  · exact ⟨hh.1, w _ _ hh.2⟩
  · exact hh.elim) hh
end

end TH
namespace TH
open PySem PySem.Spec PyProof.Rows L2
variable [TC : TabC]
/-! ### _law_alike over plain values; a, b = a list -/
section
variable {K : PySem.W.Frag}
theorem rAls_map : ∀ xs : List PV, rAl.rAls K xs = xs.map (rAl K)
  | [] => rfl
  | p :: t => congrArg (rAl K p :: ·) (rAls_map t)
theorem ap_ad : ∀ {n : Nat} {p : PV}, AP n p → AD K n (rAl K p)
  | n + 1, .v (.str _), _ => .str _
  | n + 1, .v (.int _), _ => .int _
  | n + 1, .v (.bl _), _ => .bl _
  | n + 1, .v .non, _ => .non
  | n + 1, .tup xs, h => .tup (fun r hr => by
      have hr : r ∈ rAl.rAls K xs := hr
      rw [rAls_map] at hr
      obtain ⟨x, hx, rfl⟩ := List.mem_map.mp hr
      exact ap_ad (h.2 x hx)) (by rw [rAls_map, List.length_map]; exact h.1)
  | n + 1, .lst xs, h => .lst (fun r hr => by
      have hr : r ∈ rAl.rAls K xs := hr
      rw [rAls_map] at hr
      obtain ⟨x, hx, rfl⟩ := List.mem_map.mp hr
      exact ap_ad (h.2 x hx)) (by rw [rAls_map, List.length_map]; exact h.1)
mutual
theorem al_of {G : Hp} : ∀ {p : PV} {v : V}, (rPV K p).P G v → (rAl K p).P G v
  | .v _, v, h => h
  | .dct _, v, h => h
  | .ins _ _, v, h => h
  | .rel _, v, h => h
  | .lst xs, v, h => by
    obtain ⟨a, vs, e1, e2, e3⟩ := (raw_lst h : (rLst K (rPs K xs)).P G v)
    exact ⟨a, vs, e1, e2, als_of e3⟩
  | .tup xs, v, h => by
    obtain ⟨a, vs, e1, e2, e3⟩ := (h : (rTup K (rPs K xs)).P G v)
    exact ⟨a, vs, e1, e2, als_of e3⟩
theorem als_of {G : Hp} : ∀ {xs : List PV} {vs : List V}, Al G (rPs K xs) vs → Al G (rAl.rAls K xs) vs
  | [], _, .nil => .nil
  | _ :: _, _, .cons h t => .cons (al_of h) (als_of t)
end
def ac_alike (n : Nat) : AC := fun avs A k => ∃ p, avs = [.pv p, .pv p] ∧ A = [] ∧ AP n p ∧ k (.pv (.bl true)) []
theorem le_alike {n : Nat} : SpLe (spA K (ac_alike n)) (sp_alike K (n + 1)) := fun vs H Q E ⟨s, avs, Kc, e, r, pr, ⟨p, ea, eA, hp, hk⟩, q⟩ => by
  subst e ea
  cases pr with
  | cons p0 pr =>
    cases pr with
    | cons p1 pr =>
      cases pr
      have hl : s.A.length = 0 := by rw [eA]; rfl
      refine ⟨⟨rAl K p, ap_ad hp⟩, s.G, r.le, trivial, .cons (al_of p0) (.cons (al_of p1) .nil), fun v G' H' g pv => ?_⟩
      refine q (.pv (.bl true)) v { s with G := G', H := H' } (r.pure g) rfl pv ?_
      show Kc (.pv (.bl true)) s.A
      rw [eA]
      exact hk
def aGUnl (n : Nat) (u : aTGs) : aTG := fun x sa A k => ∃ xs, viewL A x = some xs ∧ xs.length = n ∧ u xs sa A k
theorem sim_gunl {vs : List Nat} {n : Nat} {u : aTGs} {tu : TGs} (h2 : SimGs K vs u tu) : SimG K vs (aGUnl n u) (gUnl K n tu) := fun {B s sa σ av v} r gg px {Ka Q} q h => by
  obtain ⟨xs, h1, h3, h4⟩ := h
  obtain ⟨a, ws, e1, e2, e3⟩ := viewL_ok r px h1
  exact ⟨a, ws, e1, .of e2, by rw [← e3.length, rPs_len]; exact h3, h2 r gg e3 q h4⟩
end

end TH
namespace TH
open PySem PySem.Spec PyProof.Rows L2
variable [TC : TabC]
/-! ### steadiness of places in lists; comprehensions that draw -/
section
variable {a b : aTE} {r : aTA}
theorem mo_fzl (h : MoA r) : Mo (aFz (aLst r)) := fun sa A k k' w hh => h sa A _ _ (fun avs A1 hh => by
  split at hh
  · exact ⟨hh.1, w (.pv (.lst _)) _ hh.2⟩
  · exact hh.elim) hh
theorem pvo_ixL : PvOp fIxL := fun A x y k h => by
  unfold fIxL at h ⊢
  split at h
  · obtain ⟨xs, p, h1, h2, h3⟩ := h
    exact ⟨xs, p, h1, h2, rfl, h3⟩
  · exact h.elim
theorem pvo_ixT : PvOp fIxT := fun A x y k h => by
  unfold fIxT at h ⊢
  split at h
  · obtain ⟨xs, p, h1, h2, h3⟩ := h
    exact ⟨xs, p, h1, h2, rfl, h3⟩
  · exact h.elim
theorem pvo_ixS : PvOp fIxS := fun A x y k h => by
  unfold fIxS at h ⊢
  split at h
  · obtain ⟨h1, p, h2, h3⟩ := h
    exact ⟨h1, p, h2, rfl, h3⟩
  · exact h.elim
theorem pvo_mulS : PvOp fMulS := fun A x y k h => by
  unfold fMulS at h ⊢
  split at h
  · exact ⟨h.1, rfl, h.2⟩
  · exact h.elim
theorem pvo_catT : PvOp fCatT := fun A x y k h => by
  obtain ⟨xs, ys, h1, h2, h3, h4⟩ := h
  exact ⟨xs, ys, h1, h2, h3, rfl, h4⟩
theorem moo_mulS : MoOp fMulS := fun A x y k k' w h => by
  unfold fMulS at h ⊢
  split at h
  · exact ⟨h.1, w _ h.2⟩
  · exact h.elim
theorem moo_ixL : MoOp fIxL := fun A x y k k' w h => by
  unfold fIxL at h ⊢
  split at h
  · obtain ⟨xs, p, h1, h2, h3⟩ := h
    exact ⟨xs, p, h1, h2, w _ h3⟩
  · exact h.elim
theorem moo_ixT : MoOp fIxT := fun A x y k k' w h => by
  unfold fIxT at h ⊢
  split at h
  · obtain ⟨xs, p, h1, h2, h3⟩ := h
    exact ⟨xs, p, h1, h2, w _ h3⟩
  · exact h.elim
theorem moo_ixS : MoOp fIxS := fun A x y k k' w h => by
  unfold fIxS at h ⊢
  split at h
  · obtain ⟨h1, p, h2, h3⟩ := h
    exact ⟨h1, p, h2, w _ h3⟩
  · exact h.elim
theorem moo_catT : MoOp fCatT := fun A x y k k' w h => by
  obtain ⟨xs, ys, h1, h2, h3, h4⟩ := h
  exact ⟨xs, ys, h1, h2, h3, w _ h4⟩
theorem moo_I {C : Int → Int → Prop} {g : Int → Int → V} : MoOp (fI C g) := fun A x y k k' w h => by
  unfold fI at h ⊢
  split at h
  · exact ⟨h.1, w _ h.2⟩
  · exact h.elim
end
theorem word_at {xs : List Str} {r : Int} (h0 : 0 ≤ r) (h1 : r < xs.length) : ∃ w ∈ xs, atI (xs.map PV.str) r = some (PV.str w) := by
  obtain ⟨i, rfl⟩ := Int.eq_ofNat_of_zero_le h0
  have hi : i < xs.length := by omega
  exact ⟨xs[i], List.getElem_mem hi, atI_nat (by rw [List.getElem?_map, List.getElem?_eq_getElem hi]; rfl)⟩
/-! weakening, more -/
def MoN (e : aTN) : Prop := ∀ sa A (k k' : AO → Sto → Prop), (∀ o A, k o A → k' o A) → e sa A k → e sa A k'
def MoOpN (f : aR2N) : Prop := ∀ A x y (k k' : AO → Prop), (∀ z, k z → k' z) → f A x y k → f A x y k'
def MoUn (f : aR1) : Prop := ∀ A x (k k' : AV → Prop), (∀ z, k z → k' z) → f A x k → f A x k'
section
variable {a b : aTE} {r : aTA} {f : aR2N} {e : aTN} {f1 : aR1}
theorem mon_op (ha : Mo a) (hb : Mo b) (hf : MoOpN f) : MoN (aOpN f a b) := fun sa A k k' w h => ha sa A _ _ (fun x A1 h => hb sa A1 _ _ (fun y A2 h => hf A2 x y _ _ (fun z => w z A2) h) h) h
theorem mon_lst (h : MoA r) : MoN (aLst r) := fun sa A k k' w hh => h sa A _ _ (fun avs A1 hh => by
  split at hh
  · exact ⟨hh.1, w _ _ hh.2⟩
  · exact hh.elim) hh
theorem mo_fz (h : MoN e) : Mo (aFz e) := fun sa A k k' w hh => h sa A _ _ (fun o A1 z => by
  cases ef : o.fz with
  | none => simp only [ef] at z
  | some p => simp only [ef] at z ⊢; exact w _ _ z) hh
theorem mo_un (ha : Mo a) (hf : MoUn f1) : Mo (aUn f1 a) := fun sa A k k' w h => ha sa A _ _ (fun x A1 h => hf A1 x _ _ (fun z => w z A1) h) h
theorem mou_int : MoUn fInt := fun A x k k' w h => by
  unfold fInt at h ⊢
  split at h
  · exact w _ h
  · exact w _ h
  · exact h.elim
theorem moon_cat : MoOpN fCat := fun A x y k k' w ⟨xs, ys, h1, h2, h3, h4⟩ => ⟨xs, ys, h1, h2, h3, w _ h4⟩
theorem moon_rep : MoOpN fRep := fun A x y k k' w h => by
  unfold fRep at h ⊢
  split at h
  · obtain ⟨xs, h1, h2, h3, h4, h5⟩ := h
    exact ⟨xs, h1, h2, h3, h4, w _ h5⟩
  · exact h.elim
theorem moo_eq : MoOp fEq := fun A x y k k' w h => by
  unfold fEq at h ⊢
  split at h
  · exact ⟨h.1, w _ h.2⟩
  · exact h.elim
theorem moo_ne : MoOp fNe := fun A x y k k' w h => by
  unfold fNe at h ⊢
  split at h
  · exact ⟨h.1, w _ h.2⟩
  · exact h.elim
end
theorem kit_ss : kitB "str" "str" = some true := by decide +kernel
theorem kit_ts : kitB "tuple" "str" = some false := by decide +kernel
theorem kit_ls : kitB "list" "str" = some false := by decide +kernel
section
variable {α : Type} {a b c d e f g : α} {t : List α}
theorem atI_1 : atI (a :: b :: t) 1 = some b := atI_nat (i := 1) rfl
theorem atI_2 : atI (a :: b :: c :: t) 2 = some c := atI_nat (i := 2) rfl
theorem atI_3 : atI (a :: b :: c :: d :: t) 3 = some d := atI_nat (i := 3) rfl
theorem atI_4 : atI (a :: b :: c :: d :: e :: t) 4 = some e := atI_nat (i := 4) rfl
theorem atI_5 : atI (a :: b :: c :: d :: e :: f :: t) 5 = some f := atI_nat (i := 5) rfl
theorem atI_6 : atI (a :: b :: c :: d :: e :: f :: g :: t) 6 = some g := atI_nat (i := 6) rfl
end
def MoT (c : aTT) : Prop := ∀ sa A (k k' : Bool → Sto → Prop), (∀ x A, k x A → k' x A) → c sa A k → c sa A k'
section
variable {a b : aTE} {c d : aTT}
theorem mot_test (ha : Mo a) : MoT (aTest a) := fun sa A k k' w h => ha sa A _ _ (fun x A1 h => by
  split at h
  · exact w _ _ h
  · exact h.elim) h
theorem mot_not (hc : MoT c) : MoT (aNot c) := fun sa A k k' w h => hc sa A _ _ (fun x A1 h => w _ _ h) h
theorem mot_and (hc : MoT c) (hd : MoT d) : MoT (aAnd c d) := fun sa A k k' w h => hc sa A _ _ (fun x A1 h => by
  cases x with
  | true => exact hd sa A1 _ _ w h
  | false => exact w _ _ h) h
theorem mot_or (hc : MoT c) (hd : MoT d) : MoT (aOr c d) := fun sa A k k' w h => hc sa A _ _ (fun x A1 h => by
  cases x with
  | true => exact w _ _ h
  | false => exact hd sa A1 _ _ w h) h
theorem mo_if (hc : MoT c) (ha : Mo a) (hb : Mo b) : Mo (aIf c a b) := fun sa A k k' w h => hc sa A _ _ (fun x A1 h => by
  cases x with
  | true => exact ha sa A1 _ _ w h
  | false => exact hb sa A1 _ _ w h) h
end

end TH
namespace TH
open PySem PySem.Spec PyProof.Rows L2
variable [TC : TabC]
/-! ### a law begins -/
/-- the heap without its tables -/
def noTab (H : Hp) : Hp := fun b => match H b with
  | some (.tbl _) => none
  | o => o
theorem noTab_le (H : Hp) : Le (noTab H) H := fun b o e => by
  unfold noTab at e
  split at e
  · cases e
  · exact ⟨o, e, .refl o⟩
theorem noTab_at {H : Hp} {b : Addr} {o : HO} (h : H b = some o) (n : NT o) : noTab H b = some o := by
  unfold noTab
  split
  · rename_i ps e
    rw [h] at e
    exact (n ps (Option.some.inj e)).elim
  · exact h
theorem noTab_seqL {K : PySem.W.Frag} {H : Hp} {a : Addr} {xs : List V} (h : SqL K H a xs) : SqL K (noTab H) a xs := by
  rcases h with (h | ⟨ob, h⟩) | h
  · exact .inl (.inl (noTab_at h (by exact fun _ z => (nomatch z))))
  · exact .inl (.inr ⟨ob, noTab_at h (by exact fun _ z => (nomatch z))⟩)
  · exact .inr h
def sp_law (K : PySem.W.Frag) : Sp := fun vs H Q _ => ∃ (a : Addr) (ns : List Int), vs = [.ref a] ∧ SqL K H a (ns.map V.int) ∧ ns.length ≤ 63 ∧ (∀ P ∈ TC.T, H P = some (.tbl #[])) ∧ ∀ H', Q (.bl true) H'
theorem cells_al {G : Hp} : ∀ ns : List Int, Al G (ns.map rInt) (ns.map V.int)
  | [] => .nil
  | n :: t => .cons rfl (cells_al t)
def ac_law (K : PySem.W.Frag) : AC := fun avs A k => ∃ ns : List Int, avs = [.pv (.rel (rLst K (ns.map rInt)))] ∧ A = [] ∧ ns.length ≤ 63 ∧ k (.pv (.bl true)) []
theorem law_le {K : PySem.W.Frag} : SpLe (sp_law K) (spA K (ac_law K)) := fun vs H Q E ⟨a, ns, e, hS, hl, hT, hQ⟩ => by
  subst e
  have hv : (rLst K (ns.map rInt)).P (noTab H) (.ref a) := ⟨a, _, rfl, noTab_seqL hS, cells_al ns⟩
  have rp : Rep K (Bs.of (⟨[], fun _ => [], [], noTab H, H⟩ : Cs)) (⟨[], fun _ => [], [], noTab H, H⟩ : Cs) :=
    ⟨rfl, fun n o h => (nomatch h), fun n h => absurd h (Nat.not_lt_zero n), fun m n h => absurd h (Nat.not_lt_zero m), fun n h => absurd h (Nat.not_lt_zero n), fun n h => absurd h (Nat.not_lt_zero n), Gr.refl (noTab_le H), List.prefix_refl _,
      fun P hP => ⟨by show noTab H P = none; unfold noTab; rw [hT P hP], #[], hT P hP, True.intro, fun pos cv hc => by
        have z : codeAmong pos [] = some cv := hc
        simp [codeAmong] at z⟩⟩
  refine ⟨⟨[], fun _ => [], [], noTab H, H⟩, [.pv (.rel (rLst K (ns.map rInt)))], fun r _ => r = .pv (.bl true), rfl, rp, .cons hv .nil, ⟨ns, rfl, rfl, hl, rfl⟩, fun r v s' r' _ pv e => ?_⟩
  subst e
  cases (show _ = V.bl true from pv)
  exact hQ _

end TH
namespace TH
open PySem PySem.Spec PyProof.Rows L2
variable [TC : TabC]
/-! ### written -/
def namesTold (xs : List Str) : Str := if xs = [] then "-" else Txt.join "," xs
def needWords (n : Nd) : List Str := ["need", n.nm, n.sc, namesTold n.ot, toString n.ws]
def tryWords (t : Tr) : List Str := (["try", t.nm, t.hs ++ ("/" : Str) ++ t.gp, namesTold t.nd, namesTold t.ms, toString t.tm] : List Str) ++ List.replicate (if t.ex then 1 else 0) ("expected" : Str)
def needText (n : Nd) : Str := Txt.join " " (needWords n)
def tryText (t : Tr) : Str := Txt.join " " (tryWords t)
def bookText (ns : List Nd) (ts : List Tr) : Str := Txt.join "\n" (ns.map needText ++ ts.map tryText)
/-- names that may be told -/
structure NmOk (xs : List Str) : Prop where
  nm : ∀ x ∈ xs, isName x = true
  few : xs.length ≤ 100
theorem sum_le {xs : List Str} {b : Nat} (h : ∀ x ∈ xs, x.length ≤ b) : (xs.map (·.length)).sum ≤ xs.length * b := by
  induction xs with
  | nil => exact Nat.zero_le _
  | cons x t ih =>
    rw [List.map_cons, List.sum_cons, List.length_cons, Nat.add_mul]
    have h1 := h x List.mem_cons_self
    have h2 := ih fun y hy => h y (List.mem_cons_of_mem _ hy)
    omega
theorem join_len (y : Str) (xs : List Str) : (Txt.join y xs).length ≤ (xs.map (·.length)).sum + xs.length * y.length := by
  rw [TL.join_eq]
  exact StrLaws.join_length_le y xs
theorem told_small {xs : List Str} (h : NmOk xs) : (xs.map (·.length)).sum + xs.length * ("," : Str).length ≤ 16777216 := by
  have h1 := sum_le (b := 8) fun x hx => name_len (h.nm x hx)
  have h2 := h.few
  have h3 : ("," : Str).length = 1 := rfl
  rw [h3]
  omega
theorem shaped_tstrs {xs : List Str} (h : ∀ x ∈ xs, PyData.strOk x = true) : SeqAt.shaped (.tuple (xs.map PyData.str)) = true := by
  have := shaped_strs h
  exact this
theorem dat_strs (xs : List Str) : (pStrs xs).dat = some (.tuple (xs.map PyData.str)) := by
  show (PV.dat.dats (xs.map PV.str)).map PyData.tuple = _
  rw [dats_map (f := PV.str) (g := PyData.str) (fun _ => rfl) xs]
  rfl
def ac_ntold : AC := fun avs A k => ∃ xs, avs = [.pv (pStrs xs)] ∧ A = [] ∧ NmOk xs ∧ k (.pv (.str (namesTold xs))) []
section
variable {P : Program} {w : World} {K : PySem.W.Frag} {mg : Str → Option Value} {base : Heap} {f : Addr} {fd : FuncData}
theorem sc_names_told : FnScope ["names"] ["names"] (defScope s_names_told) := ⟨rfl, rfl, rfl, by decide +kernel, rfl, by decide +kernel, by decide +kernel⟩
theorem fn_ntold (F : FnP K "names_told" "names_told" s_names_told f fd) (T : Top K mg) (c_NONE : ∃ u, mg "NONE" = some u ∧ RelV (.str "-") u) : FnOk P w K mg base CX0 1 f fd (["names"] : List Str) (spA K ac_ntold) := by
  refine fnA (n0 := 0) F sc_names_told (fun avs A Kc ⟨xs, e, eA, _⟩ => ⟨by rw [e]; rfl, by rw [eA]; rfl⟩) (fun cdv A outer s H E hr => ⟨_, (pss_one (ps_ret (pe_ifExp (pt_cmpR op_gt (pe_callB (call_len_seq) (by rfl) T.z_len PySem.boot_len (pa_cons (pv 0) pa_nil (star_Name _ _))) pe_int (nomark _)) (pe_join pe_str (pv 0)) (C8.pe_gc rfl c_NONE)))),
  (sim_ret (sim_if (sim_test (sim_op (sim_call1 sim_var uns_len) sim_c ops_I0)) (sim_join sim_c sim_var) sim_c))⟩) ?_
  rintro avs A Kc ⟨xs, rfl, rfl, hx, hK⟩
  simp only [aDisp, aPairs, fMulS, fSub, aIsi, aIsiT, tyOf, vty, PV.ty, aCall0D, aJoin, aSeq, aIfS, aTest, aOp, aVar, aC, aCp, aRet, aRetN, aRetZ, aDrop, aNext, aBreak, aCont, aAsg, aAsgN, aGTup, aGCons, aGNil, aName, aUn, aUnN, aOpN, aFz, aTup, aLst, aIList, aIListP, aITup, aIEnum, aIEnumT, aIRng, aIStr, aYes, aCall0, aCall0N, aCall1, aMeth0, aMeth1, aMake, aCons, aNil, aWipe, aNotV, aAndV, aOrV, aIf, aAnd, aOr, aNot, aChain, aDGet, aDIn, aDPut, aApp, aAug, aPar, aSFld, aSFldN, aFld, aFldF, aSlT, aSlL, aRevL, aPO, aPO0, aBook, fIsN, fNotN, fEq, fNe, fI0, fI, fAddS, fAny, fAll, fIxL, fIxT, fIxS, fIn, fSign, fLen, fLenS, fList, fTuple, fInt, fMax2, fCat, fRep, fCatT, fEqD, fNeD, startA, aEnd, viewT, viewL, viewS, viewF, viewD, pvs, aoAt, aoSub, aoSet, aoPut, foPut, putFo, AO.fz, AO.fz.fzs, PV.isNon, AV.clsAt, keyOf, vdat, PV.dat, PV.dat.dats, viewDat, numP, List.getElem?_cons_zero, List.getElem?_cons_succ, List.getElem?_nil, List.set_cons_zero, List.set_cons_succ, List.map_cons, List.map_nil, List.cons_append, List.nil_append, List.append_nil, List.replicate_succ, List.replicate_zero, List.length_cons, List.length_nil, List.take_zero, List.take_succ_cons, List.take_nil, Nat.reduceAdd, Nat.reduceSub, Nat.reduceLT, Nat.reduceLeDiff, if_true, if_false, reduceIte, Option.map_some, Option.map_none, Option.bind_some, Option.bind_none, Bool.false_eq_true, Bool.not_true, Bool.not_false, List.lookup_cons, List.lookup_nil, Option.some.injEq, exists_eq_left', exists_eq_left, exists_and_left, AO.ins.injEq, AO.lst.injEq, AO.dK.injEq, Nat.zero_add, ite_true, ite_false, List.cons.injEq, AV.pv.injEq, PV.v.injEq, AV.loc.injEq, and_self, bools_map, decide_true, decide_false, true_and, and_true, decide_eq_true_eq, V.str.injEq, V.int.injEq, V.bl.injEq, scalS, scalI, scalB, inV_s, vals_s, vals_s', flat_s, flat_1, inV_b, vals_b, flat_b, pstrs_s, reduceCtorEq, ofS_beq, ofS_eq, String.reduceBEq, String.reduceEq, aJoin]
  refine ⟨xs.map PV.str, rfl, ?_⟩
  rw [List.length_map]
  unfold namesTold at hK
  split
  · rename_i c
    rw [if_neg (by rintro rfl; exact absurd c (by decide))] at hK
    exact ⟨_, rfl, xs, pstrs_s xs, told_small hx, hK⟩
  · rename_i c
    rw [if_pos (by cases xs with | nil => rfl | cons x t => exact absurd (show (0 : Int) < ((x :: t).length : Nat) by rw [List.length_cons]; omega) c)] at hK
    exact hK
theorem sc__law_names : FnScope ["_law_names_here"] ["_law_names_here"] (defScope s__law_names) := ⟨rfl, rfl, rfl, by decide +kernel, rfl, by decide +kernel, by decide +kernel⟩
theorem fn_lnames (F : FnP K "_law_names" "_law_names" s__law_names f fd) (T : Top K mg) : FnOk P w K mg base CX0 1 f fd (["_law_names_here"] : List Str) (spA K ac_ntold) := by
  refine fnA (n0 := 0) F sc__law_names (fun avs A Kc ⟨xs, e, eA, _⟩ => ⟨by rw [e]; rfl, by rw [eA]; rfl⟩) (fun cdv A outer s H E hr => ⟨_, (pss_one (ps_ret (pe_ifExp (pt_cmpR (op_neD hr.units) (pv 0) (pe_tup pa_nil) (nomark _)) (pe_join pe_str (pv 0)) pe_str))),
  (sim_ret (sim_if (sim_test (sim_op sim_var (sim_tup sim_nil) ops_neD)) (sim_join sim_c sim_var) sim_c))⟩) ?_
  rintro avs A Kc ⟨xs, rfl, rfl, hx, hK⟩
  simp only [aDisp, aPairs, fMulS, fSub, aIsi, aIsiT, tyOf, vty, PV.ty, aCall0D, aJoin, aSeq, aIfS, aTest, aOp, aVar, aC, aCp, aRet, aRetN, aRetZ, aDrop, aNext, aBreak, aCont, aAsg, aAsgN, aGTup, aGCons, aGNil, aName, aUn, aUnN, aOpN, aFz, aTup, aLst, aIList, aIListP, aITup, aIEnum, aIEnumT, aIRng, aIStr, aYes, aCall0, aCall0N, aCall1, aMeth0, aMeth1, aMake, aCons, aNil, aWipe, aNotV, aAndV, aOrV, aIf, aAnd, aOr, aNot, aChain, aDGet, aDIn, aDPut, aApp, aAug, aPar, aSFld, aSFldN, aFld, aFldF, aSlT, aSlL, aRevL, aPO, aPO0, aBook, fIsN, fNotN, fEq, fNe, fI0, fI, fAddS, fAny, fAll, fIxL, fIxT, fIxS, fIn, fSign, fLen, fLenS, fList, fTuple, fInt, fMax2, fCat, fRep, fCatT, fEqD, fNeD, startA, aEnd, viewT, viewL, viewS, viewF, viewD, pvs, aoAt, aoSub, aoSet, aoPut, foPut, putFo, AO.fz, AO.fz.fzs, PV.isNon, AV.clsAt, keyOf, vdat, PV.dat, PV.dat.dats, viewDat, numP, List.getElem?_cons_zero, List.getElem?_cons_succ, List.getElem?_nil, List.set_cons_zero, List.set_cons_succ, List.map_cons, List.map_nil, List.cons_append, List.nil_append, List.append_nil, List.replicate_succ, List.replicate_zero, List.length_cons, List.length_nil, List.take_zero, List.take_succ_cons, List.take_nil, Nat.reduceAdd, Nat.reduceSub, Nat.reduceLT, Nat.reduceLeDiff, if_true, if_false, reduceIte, Option.map_some, Option.map_none, Option.bind_some, Option.bind_none, Bool.false_eq_true, Bool.not_true, Bool.not_false, List.lookup_cons, List.lookup_nil, Option.some.injEq, exists_eq_left', exists_eq_left, exists_and_left, AO.ins.injEq, AO.lst.injEq, AO.dK.injEq, Nat.zero_add, ite_true, ite_false, List.cons.injEq, AV.pv.injEq, PV.v.injEq, AV.loc.injEq, and_self, bools_map, decide_true, decide_false, true_and, and_true, decide_eq_true_eq, V.str.injEq, V.int.injEq, V.bl.injEq, scalS, scalI, scalB, inV_s, vals_s, vals_s', flat_s, flat_1, inV_b, vals_b, flat_b, pstrs_s, reduceCtorEq, ofS_beq, ofS_eq, String.reduceBEq, String.reduceEq, aJoin]
  unfold namesTold at hK
  refine ⟨_, dat_strs xs, shaped_tstrs fun x hh => letters_ok (hx.nm x hh), by decide +kernel, ?_⟩
  cases xs with
  | nil =>
    rw [if_neg (by decide)]
    exact hK
  | cons x t =>
    rw [if_pos (by rfl)]
    rw [if_neg (List.cons_ne_nil _ _)] at hK
    exact ⟨_, rfl, x :: t, pstrs_s _, told_small hx, hK⟩
end

end TH
namespace TH
open PySem PySem.Spec PyProof.Rows L2
variable [TC : TabC]
/-! ### the law's rows of text, written -/
structure NdOk (n : Nd) : Prop where
  nm : isName n.nm = true
  sc : n.sc ∈ scopes4
  lo : (1 : Int) ≤ n.ws
  hi : n.ws ≤ 4
  ot : NmOk n.ot
structure TtOk (t : Tr) : Prop where
  nm : isName t.nm = true
  hs : isName t.hs = true
  gp : isName t.gp = true
  nd : NmOk t.nd
  ms : NmOk t.ms
  lo : (1 : Int) ≤ t.tm
  hi : t.tm ≤ 4
theorem told_len {xs : List Str} (h : NmOk xs) : (namesTold xs).length ≤ 1000 := by
  unfold namesTold
  split
  · decide +kernel
  · refine Nat.le_trans (join_len _ _) ?_
    have h1 := sum_le (b := 8) fun x hx => name_len (h.nm x hx)
    have h2 := h.few
    have h3 : ("," : Str).length = 1 := rfl
    rw [h3]
    omega
theorem num_at {i : Int} (h1 : 1 ≤ i) (h2 : i ≤ 4) : i = 1 ∨ i = 2 ∨ i = 3 ∨ i = 4 := by omega
theorem num_len {i : Int} (h1 : 1 ≤ i) (h2 : i ≤ 4) : (Str.ofString (toString i)).length = 1 := by
  rcases num_at h1 h2 with rfl | rfl | rfl | rfl <;> decide +kernel
theorem num_log {i : Int} (h1 : 1 ≤ i) (h2 : i ≤ 4) : i.natAbs.log2 < 1920 := by
  rcases num_at h1 h2 with rfl | rfl | rfl | rfl <;> decide +kernel
theorem str_assoc (x y z : Str) : x ++ y ++ z = x ++ (y ++ z) := TL.map_tl_inj (l := [x ++ y ++ z]) (m := [x ++ (y ++ z)]) (by
  rw [List.map_singleton, List.map_singleton, TL.tl_append, TL.tl_append, TL.tl_append, TL.tl_append, List.append_assoc]) |> List.cons.inj |>.1
theorem join5 (y a b c d e : Str) : Txt.join y [a, b, c, d, e] = a ++ (y ++ (b ++ (y ++ (c ++ (y ++ (d ++ (y ++ e))))))) := by
  rw [TL.join_eq]
  show a ++ y ++ (b ++ y ++ (c ++ y ++ (d ++ y ++ e))) = _
  simp only [str_assoc]
theorem need_txt (n : Nd) : ("need " : Str) ++ n.nm ++ (" " : Str) ++ n.sc ++ (" " : Str) ++ namesTold n.ot ++ (" " : Str) ++ (Str.ofString (toString n.ws)) = needText n := by
  unfold needText needWords
  rw [join5, show ("need " : Str) = ("need" : Str) ++ (" " : Str) by decide +kernel]
  simp only [str_assoc]
def ac_ntext : AC := fun avs A k => ∃ n, avs = [.pv (pNd n)] ∧ A = [] ∧ NdOk n ∧ k (.pv (.str (needText n))) []
def ac_ttext : AC := fun avs A k => ∃ t, avs = [.pv (pTr t)] ∧ A = [] ∧ TtOk t ∧ k (.pv (.str (tryText t))) []
theorem scope_len {x : Str} (h : x ∈ scopes4) : x.length ≤ 5 := of_decide_eq_true (List.all_eq_true.mp (show (scopes4.all fun x => decide (x.length ≤ 5)) = true by decide +kernel) x h)
theorem slash_len {t : Tr} (h : TtOk t) : (t.hs ++ ("/" : Str) ++ t.gp).length ≤ 17 := by
  have h1 := name_len h.hs
  have h2 := name_len h.gp
  rw [Str.length_append, Str.length_append]
  show t.hs.length + 1 + t.gp.length ≤ 17
  omega
theorem tryw_sum {t : Tr} (h : TtOk t) : ((tryWords t).map (·.length)).sum ≤ 5000 ∧ (tryWords t).length ≤ 7 := by
  have h1 := name_len h.nm
  have h2 := slash_len h
  have h3 := told_len h.nd
  have h4 := told_len h.ms
  have h5 := num_len h.lo h.hi
  unfold tryWords
  cases t.ex
  · refine ⟨?_, (show 6 ≤ 7 by decide)⟩
    simp only [List.replicate, Bool.false_eq_true, if_false, List.append_nil, List.map_cons, List.map_nil, List.sum_cons, List.sum_nil]
    show 3 + (t.nm.length + ((t.hs ++ ("/" : Str) ++ t.gp).length + ((namesTold t.nd).length + ((namesTold t.ms).length + ((Str.ofString (toString t.tm)).length + 0))))) ≤ 5000
    omega
  · refine ⟨?_, (show 7 ≤ 7 by decide)⟩
    simp only [List.replicate, if_true, List.cons_append, List.nil_append, List.map_cons, List.map_nil, List.sum_cons, List.sum_nil]
    show 3 + (t.nm.length + ((t.hs ++ ("/" : Str) ++ t.gp).length + ((namesTold t.nd).length + ((namesTold t.ms).length + ((Str.ofString (toString t.tm)).length + (8 + 0)))))) ≤ 5000
    omega
theorem needw_sum {n : Nd} (h : NdOk n) : ((needWords n).map (·.length)).sum ≤ 5000 := by
  have h1 := name_len h.nm
  have h2 := scope_len h.sc
  have h3 := told_len h.ot
  have h5 := num_len h.lo h.hi
  unfold needWords
  simp only [List.map_cons, List.map_nil, List.sum_cons, List.sum_nil]
  show 4 + (n.nm.length + (n.sc.length + ((namesTold n.ot).length + ((Str.ofString (toString n.ws)).length + 0)))) ≤ 5000
  omega
theorem sz_ok {n : Nat} (h : n ≤ 100000) : n ≤ sizeLine := Nat.le_trans h (by decide)
section
variable {P : Program} {w : World} {K : PySem.W.Frag} {mg : Str → Option Value} {base : Heap} {f : Addr} {fd : FuncData}
theorem sc__law_need_text : FnScope ["_law_row"] ["_law_row"] (defScope s__law_need_text) := ⟨rfl, rfl, rfl, by decide +kernel, rfl, by decide +kernel, by decide +kernel⟩
theorem fn_lneed (F : FnP K "_law_need_text" "_law_need_text" s__law_need_text f fd) (T : Top K mg) (c_names : C8.Cal P w K mg base 1 "_law_names" (spA K ac_ntold) []) : FnOk P w K mg base CX0 2 f fd (["_law_row"] : List Str) (spA K ac_ntext) := by
  refine fnA (n0 := 0) F sc__law_need_text (fun avs A Kc ⟨n, e, eA, _⟩ => ⟨by rw [e]; rfl, by rw [eA]; rfl⟩) (fun cdv A outer s H E hr => ⟨_, (pss_one (ps_ret (pe_op op_add_str (pe_op op_add_str (pe_op op_add_str (pe_op op_add_str (pe_op op_add_str (pe_op op_add_str (pe_op op_add_str pe_str (pe_ix ix_tup (pv 0) pe_int (fun _ _ => rfl))) pe_str) (pe_ix ix_tup (pv 0) pe_int (fun _ _ => rfl))) pe_str) (C8.pe_c c_names hr (by first | decide | omega) rfl (pa_cons (pe_ix ix_tup (pv 0) pe_int (fun _ _ => rfl)) pa_nil (star_Subscript _ _ _)) (he := (star_Subscript _ _ _)))) pe_str) (pe_callTy (call_str_int) (by rfl) T.z_str (by decide +kernel) (pa_cons (pe_ix ix_tup (pv 0) pe_int (fun _ _ => rfl)) pa_nil (star_Subscript _ _ _)))))),
  (sim_ret (sim_op (sim_op (sim_op (sim_op (sim_op (sim_op (sim_op sim_c (sim_op sim_var sim_c ops_ixT) ops_addS) sim_c ops_addS) (sim_op sim_var sim_c ops_ixT) ops_addS) sim_c ops_addS) (sim_call0 (SpLe.refl _) (sim_cons (sim_op sim_var sim_c ops_ixT) sim_nil)) ops_addS) sim_c ops_addS) (sim_call1 (sim_op sim_var sim_c ops_ixT) uns_strI) ops_addS))⟩) ?_
  rintro avs A Kc ⟨n, rfl, rfl, ok, hK⟩
  have h1 := name_len ok.nm
  have h2 := scope_len ok.sc
  have h3 := told_len ok.ot
  have h4 := num_len ok.lo ok.hi
  have k5 : ("need " : Str).length = 5 := rfl
  have k1 : (" " : Str).length = 1 := rfl
  simp only [aDisp, aPairs, fMulS, fSub, aIsi, aIsiT, tyOf, vty, PV.ty, aCall0D, aJoin, aSeq, aIfS, aTest, aOp, aVar, aC, aCp, aRet, aRetN, aRetZ, aDrop, aNext, aBreak, aCont, aAsg, aAsgN, aGTup, aGCons, aGNil, aName, aUn, aUnN, aOpN, aFz, aTup, aLst, aIList, aIListP, aITup, aIEnum, aIEnumT, aIRng, aIStr, aYes, aCall0, aCall0N, aCall1, aMeth0, aMeth1, aMake, aCons, aNil, aWipe, aNotV, aAndV, aOrV, aIf, aAnd, aOr, aNot, aChain, aDGet, aDIn, aDPut, aApp, aAug, aPar, aSFld, aSFldN, aFld, aFldF, aSlT, aSlL, aRevL, aPO, aPO0, aBook, fIsN, fNotN, fEq, fNe, fI0, fI, fAddS, fAny, fAll, fIxL, fIxT, fIxS, fIn, fSign, fLen, fLenS, fList, fTuple, fInt, fMax2, fCat, fRep, fCatT, fEqD, fNeD, startA, aEnd, viewT, viewL, viewS, viewF, viewD, pvs, aoAt, aoSub, aoSet, aoPut, foPut, putFo, AO.fz, AO.fz.fzs, PV.isNon, AV.clsAt, keyOf, vdat, PV.dat, PV.dat.dats, viewDat, numP, List.getElem?_cons_zero, List.getElem?_cons_succ, List.getElem?_nil, List.set_cons_zero, List.set_cons_succ, List.map_cons, List.map_nil, List.cons_append, List.nil_append, List.append_nil, List.replicate_succ, List.replicate_zero, List.length_cons, List.length_nil, List.take_zero, List.take_succ_cons, List.take_nil, Nat.reduceAdd, Nat.reduceSub, Nat.reduceLT, Nat.reduceLeDiff, if_true, if_false, reduceIte, Option.map_some, Option.map_none, Option.bind_some, Option.bind_none, Bool.false_eq_true, Bool.not_true, Bool.not_false, List.lookup_cons, List.lookup_nil, Option.some.injEq, exists_eq_left', exists_eq_left, exists_and_left, AO.ins.injEq, AO.lst.injEq, AO.dK.injEq, Nat.zero_add, ite_true, ite_false, List.cons.injEq, AV.pv.injEq, PV.v.injEq, AV.loc.injEq, and_self, bools_map, decide_true, decide_false, true_and, and_true, decide_eq_true_eq, V.str.injEq, V.int.injEq, V.bl.injEq, scalS, scalI, scalB, inV_s, vals_s, vals_s', flat_s, flat_1, inV_b, vals_b, flat_b, pstrs_s, reduceCtorEq, ofS_beq, ofS_eq, String.reduceBEq, String.reduceEq, pNd, fStrI]
  refine ⟨.str n.nm, atI_zero, sz_ok (by omega), sz_ok (by simp only [Str.length_append]; omega), .str n.sc, atI_1, sz_ok (by simp only [Str.length_append]; omega), sz_ok (by simp only [Str.length_append]; omega), pStrs n.ot, atI_2, n.ot, rfl, rfl, ok.ot, ?_⟩
  refine ⟨sz_ok (by simp only [Str.length_append]; omega), sz_ok (by simp only [Str.length_append]; omega), .int n.ws, atI_3, num_log ok.lo ok.hi, sz_ok (by simp only [Str.length_append]; omega), ?_⟩
  rw [need_txt]
  exact hK
theorem sc__law_try_text : FnScope ["_law_row", "_law_words"] ["_law_row"] (defScope s__law_try_text) := ⟨rfl, rfl, rfl, by decide +kernel, rfl, by decide +kernel, by decide +kernel⟩
theorem fn_ltry (F : FnP K "_law_try_text" "_law_try_text" s__law_try_text f fd) (T : Top K mg) (c_names : C8.Cal P w K mg base 1 "_law_names" (spA K ac_ntold) []) : FnOk P w K mg base CX0 2 f fd (["_law_row"] : List Str) (spA K ac_ttext) := by
  refine fnA (n0 := 0) F sc__law_try_text (fun avs A Kc ⟨n, e, eA, _⟩ => ⟨by rw [e]; rfl, by rw [eA]; rfl⟩) (fun cdv A outer s H E hr => ⟨_, (pss_cons (ps_set (i := 1) sc__law_try_text.nd rfl (Or.inl rfl) (pe_lst (pa_cons pe_str (pa_cons (pe_ix ix_tup (pv 0) pe_int (fun _ _ => rfl)) (pa_cons (pe_op op_add_str (pe_op op_add_str (pe_ix ix_tup (pv 0) pe_int (fun _ _ => rfl)) pe_str) (pe_ix ix_tup (pv 0) pe_int (fun _ _ => rfl))) (pa_cons (C8.pe_c c_names hr (by first | decide | omega) rfl (pa_cons (pe_ix ix_tup (pv 0) pe_int (fun _ _ => rfl)) pa_nil (star_Subscript _ _ _)) (he := (star_Subscript _ _ _))) (pa_cons (C8.pe_c c_names hr (by first | decide | omega) rfl (pa_cons (pe_ix ix_tup (pv 0) pe_int (fun _ _ => rfl)) pa_nil (star_Subscript _ _ _)) (he := (star_Subscript _ _ _))) (pa_cons (pe_callTy (call_str_int) (by rfl) T.z_str (by decide +kernel) (pa_cons (pe_ix ix_tup (pv 0) pe_int (fun _ _ => rfl)) pa_nil (star_Subscript _ _ _))) pa_nil (star_Call _ _ _ _)) (star_Call _ _ _ _)) (star_Call _ _ _ _)) (star_BinOp _ _ _ _)) (star_Subscript _ _ _)) (star_Constant _ _ _)))) (pss_one (ps_ret (pe_join pe_str (pe_op op_cat (pv 1) (pe_op op_rep (pe_lst (pa_cons pe_str pa_nil (star_Constant _ _ _))) (pe_callTy (call_int1) (by rfl) T.z_int (by decide +kernel) (pa_cons (pe_ix ix_tup (pv 0) pe_int (fun _ _ => rfl)) pa_nil (star_Subscript _ _ _))))))))),
  (sim_seq (sim_asg (sim_fz (sim_lst (sim_cons sim_c (sim_cons (sim_op sim_var sim_c ops_ixT) (sim_cons (sim_op (sim_op (sim_op sim_var sim_c ops_ixT) sim_c ops_addS) (sim_op sim_var sim_c ops_ixT) ops_addS) (sim_cons (sim_call0 (SpLe.refl _) (sim_cons (sim_op sim_var sim_c ops_ixT) sim_nil)) (sim_cons (sim_call0 (SpLe.refl _) (sim_cons (sim_op sim_var sim_c ops_ixT) sim_nil)) (sim_cons (sim_call1 (sim_op sim_var sim_c ops_ixT) uns_strI) sim_nil)))))))) (sim_gname (vs := [0, 1]))) (sim_ret (sim_join sim_c (sim_fz (sim_opN sim_var (sim_fz (sim_opN (sim_fz (sim_lst (sim_cons sim_c sim_nil))) (sim_call1 (sim_op sim_var sim_c ops_ixT) uns_int) opn_rep)) opn_cat)))))⟩) ?_
  rintro avs A Kc ⟨t, rfl, rfl, ok, hK⟩
  have h1 := name_len ok.hs
  have h2 := name_len ok.gp
  have k1 : ("/" : Str).length = 1 := rfl
  simp only [aDisp, aPairs, fMulS, fSub, aIsi, aIsiT, tyOf, vty, PV.ty, aCall0D, aJoin, aSeq, aIfS, aTest, aOp, aVar, aC, aCp, aRet, aRetN, aRetZ, aDrop, aNext, aBreak, aCont, aAsg, aAsgN, aGTup, aGCons, aGNil, aName, aUn, aUnN, aOpN, aFz, aTup, aLst, aIList, aIListP, aITup, aIEnum, aIEnumT, aIRng, aIStr, aYes, aCall0, aCall0N, aCall1, aMeth0, aMeth1, aMake, aCons, aNil, aWipe, aNotV, aAndV, aOrV, aIf, aAnd, aOr, aNot, aChain, aDGet, aDIn, aDPut, aApp, aAug, aPar, aSFld, aSFldN, aFld, aFldF, aSlT, aSlL, aRevL, aPO, aPO0, aBook, fIsN, fNotN, fEq, fNe, fI0, fI, fAddS, fAny, fAll, fIxL, fIxT, fIxS, fIn, fSign, fLen, fLenS, fList, fTuple, fInt, fMax2, fCat, fRep, fCatT, fEqD, fNeD, startA, aEnd, viewT, viewL, viewS, viewF, viewD, pvs, aoAt, aoSub, aoSet, aoPut, foPut, putFo, AO.fz, AO.fz.fzs, PV.isNon, AV.clsAt, keyOf, vdat, PV.dat, PV.dat.dats, viewDat, numP, List.getElem?_cons_zero, List.getElem?_cons_succ, List.getElem?_nil, List.set_cons_zero, List.set_cons_succ, List.map_cons, List.map_nil, List.cons_append, List.nil_append, List.append_nil, List.replicate_succ, List.replicate_zero, List.length_cons, List.length_nil, List.take_zero, List.take_succ_cons, List.take_nil, Nat.reduceAdd, Nat.reduceSub, Nat.reduceLT, Nat.reduceLeDiff, if_true, if_false, reduceIte, Option.map_some, Option.map_none, Option.bind_some, Option.bind_none, Bool.false_eq_true, Bool.not_true, Bool.not_false, List.lookup_cons, List.lookup_nil, Option.some.injEq, exists_eq_left', exists_eq_left, exists_and_left, AO.ins.injEq, AO.lst.injEq, AO.dK.injEq, Nat.zero_add, ite_true, ite_false, List.cons.injEq, AV.pv.injEq, PV.v.injEq, AV.loc.injEq, and_self, bools_map, decide_true, decide_false, true_and, and_true, decide_eq_true_eq, V.str.injEq, V.int.injEq, V.bl.injEq, scalS, scalI, scalB, inV_s, vals_s, vals_s', flat_s, flat_1, inV_b, vals_b, flat_b, pstrs_s, reduceCtorEq, ofS_beq, ofS_eq, String.reduceBEq, String.reduceEq, pTr, fStrI, aJoin]
  refine ⟨.str t.nm, atI_zero, .str t.hs, atI_1, sz_ok (by omega), .str t.gp, atI_2, sz_ok (by simp only [Str.length_append]; omega), pStrs t.nd, atI_3, t.nd, rfl, rfl, ok.nd, pStrs t.ms, atI_4, t.ms, rfl, rfl, ok.ms, ?_⟩
  refine ⟨.int t.tm, atI_5, num_log ok.lo ok.hi, .bl t.ex, atI_6, ?_⟩
  obtain ⟨hs, hl⟩ := tryw_sum ok
  have small : ((tryWords t).map (·.length)).sum + (tryWords t).length * (" " : Str).length ≤ 16777216 := by
    have k1 : (" " : Str).length = 1 := rfl
    rw [k1]
    omega
  cases e : t.ex with
  | false => exact ⟨by decide, by decide, by decide, by decide, tryWords t, by unfold tryWords; rw [e]; rfl, small, hK⟩
  | true => exact ⟨by decide, by decide, by decide, by decide, tryWords t, by unfold tryWords; rw [e]; rfl, small, hK⟩
theorem book_nd {ns : List Nd} {ts : List Tr} (b : BookOk ns ts) {n : Nd} (h : n ∈ ns) : NdOk n := by
  obtain ⟨i, hi⟩ := List.getElem?_of_mem h
  have q := isNeed_like.mp (b.n1 i n hi)
  refine ⟨q.nm, q.sc, q.lo, q.hi, areUnlike_names q.un, ?_⟩
  have h1 : n.ot.length ≤ ((ns.take i).map Nd.nm).length := sub_len (areUnlike_nodup q.un) q.ot
  rw [List.length_map, List.length_take] at h1
  have := b.n3
  omega
theorem book_tr {ns : List Nd} {ts : List Tr} (b : BookOk ns ts) {t : Tr} (h : t ∈ ts) (hm : t.ms.length ≤ 100) : TtOk t := by
  obtain ⟨i, hi⟩ := List.getElem?_of_mem h
  have q := isTry_like.mp (b.t1 i t hi)
  have h1 : t.nd.length ≤ (ns.map Nd.nm).length := sub_len (areUnlike_nodup q.un) q.nd
  rw [List.length_map] at h1
  have := b.n3
  exact ⟨q.nm _ (by simp), q.nm _ (by simp), q.nm _ (by simp), ⟨areUnlike_names q.un, by omega⟩, ⟨areUnlike_names q.ms, hm⟩, q.lo, q.hi⟩
/-- a book whose text is made -/
structure BtOk (ns : List Nd) (ts : List Tr) : Prop where
  bk : BookOk ns ts
  ms : ∀ t ∈ ts, t.ms.length ≤ 100
theorem BtOk.nd {ns : List Nd} {ts : List Tr} (b : BtOk ns ts) : ∀ n ∈ ns, NdOk n := fun n h => book_nd b.bk h
theorem BtOk.tr {ns : List Nd} {ts : List Tr} (b : BtOk ns ts) : ∀ t ∈ ts, TtOk t := fun t h => book_tr b.bk h (b.ms t h)
theorem need_len {n : Nd} (h : NdOk n) : (needText n).length ≤ 6000 := by
  unfold needText
  refine Nat.le_trans (join_len _ _) ?_
  have h1 := needw_sum h
  show ((needWords n).map (·.length)).sum + 5 * 1 ≤ 6000
  omega
theorem try_len {t : Tr} (h : TtOk t) : (tryText t).length ≤ 6000 := by
  unfold tryText
  refine Nat.le_trans (join_len _ _) ?_
  obtain ⟨h1, h2⟩ := tryw_sum h
  have k1 : (" " : Str).length = 1 := rfl
  rw [k1]
  omega
def bookLines (ns : List Nd) (ts : List Tr) : List Str := ns.map needText ++ ts.map tryText
theorem lines_len {ns : List Nd} {ts : List Tr} (b : BtOk ns ts) : (∀ x ∈ bookLines ns ts, x.length ≤ 6000) ∧ (bookLines ns ts).length ≤ 42 := by
  refine ⟨fun x hx => ?_, ?_⟩
  · rcases List.mem_append.mp hx with h | h
    · obtain ⟨n, hn, rfl⟩ := List.mem_map.mp h
      exact need_len (b.nd n hn)
    · obtain ⟨t, ht, rfl⟩ := List.mem_map.mp h
      exact try_len (b.tr t ht)
  · unfold bookLines
    rw [List.length_append, List.length_map, List.length_map]
    have := b.bk.n3
    have := b.bk.t3
    omega
theorem lines_small {ns : List Nd} {ts : List Tr} (b : BtOk ns ts) : ((bookLines ns ts).map (·.length)).sum + (bookLines ns ts).length * ("\n" : Str).length ≤ 16777216 := by
  obtain ⟨h1, h2⟩ := lines_len b
  have h3 := sum_le h1
  have k1 : ("\n" : Str).length = 1 := rfl
  rw [k1]
  omega
def ac_written : AC := fun avs A k => ∃ ns ts, avs = [.pv (pRows ns ts)] ∧ A = [] ∧ BtOk ns ts ∧ k (.pv (.str (bookText ns ts))) []
theorem sc_written : FnScope ["rows", "needs", "tries", "found", "name", "scope", "others", "ways", "house", "group", "marks", "times", "is_expected", "words"] ["rows"] (defScope s_written) := ⟨rfl, rfl, rfl, by decide +kernel, rfl, by decide +kernel, by decide +kernel⟩
theorem fn_written {C : Addr} (F : FnP K "written" "written" s_written f fd) (T : Top K mg) (c_Book : C8.Mak P w K mg base 4 "Book" C (sp_init K C) []) (c_names : C8.Cal P w K mg base 1 "names_told" (spA K ac_ntold) []) : FnOk P w K mg base CX0 6 f fd (["rows"] : List Str) (spA K ac_written) := by
  refine fnA (n0 := 0) F sc_written (fun avs A Kc ⟨ns, ts, e, eA, _⟩ => ⟨by rw [e]; rfl, by rw [eA]; rfl⟩) (fun cdv A outer s H E hr => ⟨_, (pss_cons (ps_expr (C8.pe_mk c_Book hr (by first | decide | omega) rfl (pa_cons (pv 0) pa_nil (star_Name _ _)) (he := (star_Name _ _)))) (pss_cons (ps_asg (pv 0) (pg_tup rfl (pgs_cons (pg_name (i := 1) sc_written.nd rfl (Or.inl rfl)) (pgs_cons (pg_name (i := 2) sc_written.nd rfl (Or.inl rfl)) pgs_nil)))) (pss_cons (ps_set (i := 3) sc_written.nd rfl (Or.inl rfl) (pe_lst pa_nil)) (pss_cons (ps_for PassesOwn.never rfl (pi_tup (pv 1)) (pg_tup rfl (pgs_cons (pg_name (i := 4) sc_written.nd rfl (Or.inl rfl)) (pgs_cons (pg_name (i := 5) sc_written.nd rfl (Or.inl rfl)) (pgs_cons (pg_name (i := 6) sc_written.nd rfl (Or.inl rfl)) (pgs_cons (pg_name (i := 7) sc_written.nd rfl (Or.inl rfl)) pgs_nil))))) (pss_one (ps_expr (pe_bm PySem.F.plainAttrs_list PySem.F.slot_list_append PySem.F.type_list_append (mt_append) (pv 3) (pa_cons (pe_join pe_str (pe_lst (pa_cons pe_str (pa_cons (pv 4) (pa_cons (pv 5) (pa_cons (C8.pe_c c_names hr (by first | decide | omega) rfl (pa_cons (pv 6) pa_nil (star_Name _ _)) (he := (star_Name _ _))) (pa_cons (pe_callTy (call_str_int) (by rfl) T.z_str (by decide +kernel) (pa_cons (pv 7) pa_nil (star_Name _ _))) pa_nil (star_Call _ _ _ _)) (star_Call _ _ _ _)) (star_Name _ _)) (star_Name _ _)) (star_Constant _ _ _)))) pa_nil (star_Call _ _ _ _)))))) (pss_cons (ps_for PassesOwn.never rfl (pi_tup (pv 2)) (pg_tup rfl (pgs_cons (pg_name (i := 4) sc_written.nd rfl (Or.inl rfl)) (pgs_cons (pg_name (i := 8) sc_written.nd rfl (Or.inl rfl)) (pgs_cons (pg_name (i := 9) sc_written.nd rfl (Or.inl rfl)) (pgs_cons (pg_name (i := 6) sc_written.nd rfl (Or.inl rfl)) (pgs_cons (pg_name (i := 10) sc_written.nd rfl (Or.inl rfl)) (pgs_cons (pg_name (i := 11) sc_written.nd rfl (Or.inl rfl)) (pgs_cons (pg_name (i := 12) sc_written.nd rfl (Or.inl rfl)) pgs_nil)))))))) (pss_cons (ps_set (i := 13) sc_written.nd rfl (Or.inl rfl) (pe_lst (pa_cons pe_str (pa_cons (pv 4) (pa_cons (pe_op op_add_str (pe_op op_add_str (pv 8) pe_str) (pv 9)) (pa_cons (C8.pe_c c_names hr (by first | decide | omega) rfl (pa_cons (pv 6) pa_nil (star_Name _ _)) (he := (star_Name _ _))) (pa_cons (C8.pe_c c_names hr (by first | decide | omega) rfl (pa_cons (pv 10) pa_nil (star_Name _ _)) (he := (star_Name _ _))) (pa_cons (pe_callTy (call_str_int) (by rfl) T.z_str (by decide +kernel) (pa_cons (pv 11) pa_nil (star_Name _ _))) pa_nil (star_Call _ _ _ _)) (star_Call _ _ _ _)) (star_Call _ _ _ _)) (star_BinOp _ _ _ _)) (star_Name _ _)) (star_Constant _ _ _)))) (pss_one (ps_expr (pe_bm PySem.F.plainAttrs_list PySem.F.slot_list_append PySem.F.type_list_append (mt_append) (pv 3) (pa_cons (pe_join pe_str (pe_op op_cat (pv 13) (pe_op op_rep (pe_lst (pa_cons pe_str pa_nil (star_Constant _ _ _))) (pe_callTy (call_int1) (by rfl) T.z_int (by decide +kernel) (pa_cons (pv 12) pa_nil (star_Name _ _)))))) pa_nil (star_Call _ _ _ _))))))) (pss_one (ps_ret (pe_join pe_str (pv 3))))))))),
  (sim_seq (sim_drop (sim_book (sim_cons sim_var sim_nil))) (sim_seq (sim_asg sim_var (sim_gtup (n := 2) (sim_gcons (sim_gname (vs := [0, 1, 2, 3, 4, 5, 6, 7, 8, 9, 10, 11, 12, 13])) (sim_gcons (sim_gname (vs := [0, 1, 2, 3, 4, 5, 6, 7, 8, 9, 10, 11, 12, 13])) sim_gnil)))) (sim_seq (sim_asgN (sim_lst sim_nil)) (sim_seq (sim_for (sim_itup sim_var) (sim_gtup (n := 4) (sim_gcons (sim_gname (vs := [0, 1, 2, 3, 4, 5, 6, 7, 8, 9, 10, 11, 12, 13])) (sim_gcons (sim_gname (vs := [0, 1, 2, 3, 4, 5, 6, 7, 8, 9, 10, 11, 12, 13])) (sim_gcons (sim_gname (vs := [0, 1, 2, 3, 4, 5, 6, 7, 8, 9, 10, 11, 12, 13])) (sim_gcons (sim_gname (vs := [0, 1, 2, 3, 4, 5, 6, 7, 8, 9, 10, 11, 12, 13])) sim_gnil))))) (sim_drop (sim_app sim_var (sim_join sim_c (sim_fz (sim_lst (sim_cons sim_c (sim_cons sim_var (sim_cons sim_var (sim_cons (sim_call0 (SpLe.refl _) (sim_cons sim_var sim_nil)) (sim_cons (sim_call1 sim_var uns_strI) sim_nil))))))))))) (sim_seq (sim_for (sim_itup sim_var) (sim_gtup (n := 7) (sim_gcons (sim_gname (vs := [0, 1, 2, 3, 4, 5, 6, 7, 8, 9, 10, 11, 12, 13])) (sim_gcons (sim_gname (vs := [0, 1, 2, 3, 4, 5, 6, 7, 8, 9, 10, 11, 12, 13])) (sim_gcons (sim_gname (vs := [0, 1, 2, 3, 4, 5, 6, 7, 8, 9, 10, 11, 12, 13])) (sim_gcons (sim_gname (vs := [0, 1, 2, 3, 4, 5, 6, 7, 8, 9, 10, 11, 12, 13])) (sim_gcons (sim_gname (vs := [0, 1, 2, 3, 4, 5, 6, 7, 8, 9, 10, 11, 12, 13])) (sim_gcons (sim_gname (vs := [0, 1, 2, 3, 4, 5, 6, 7, 8, 9, 10, 11, 12, 13])) (sim_gcons (sim_gname (vs := [0, 1, 2, 3, 4, 5, 6, 7, 8, 9, 10, 11, 12, 13])) sim_gnil)))))))) (sim_seq (sim_asg (sim_fz (sim_lst (sim_cons sim_c (sim_cons sim_var (sim_cons (sim_op (sim_op sim_var sim_c ops_addS) sim_var ops_addS) (sim_cons (sim_call0 (SpLe.refl _) (sim_cons sim_var sim_nil)) (sim_cons (sim_call0 (SpLe.refl _) (sim_cons sim_var sim_nil)) (sim_cons (sim_call1 sim_var uns_strI) sim_nil)))))))) (sim_gname (vs := [0, 1, 2, 3, 4, 5, 6, 7, 8, 9, 10, 11, 12, 13]))) (sim_drop (sim_app sim_var (sim_join sim_c (sim_fz (sim_opN sim_var (sim_fz (sim_opN (sim_fz (sim_lst (sim_cons sim_c sim_nil))) (sim_call1 sim_var uns_int) opn_rep)) opn_cat))))))) (sim_ret (sim_join sim_c sim_var)))))))⟩) ?_
  rintro avs A Kc ⟨ns, ts, rfl, rfl, ok, hK⟩
  simp only [aDisp, aPairs, fMulS, fSub, aIsi, aIsiT, tyOf, vty, PV.ty, aCall0D, aJoin, aSeq, aIfS, aTest, aOp, aVar, aC, aCp, aRet, aRetN, aRetZ, aDrop, aNext, aBreak, aCont, aAsg, aAsgN, aGTup, aGCons, aGNil, aName, aUn, aUnN, aOpN, aFz, aTup, aLst, aIList, aIListP, aITup, aIEnum, aIEnumT, aIRng, aIStr, aYes, aCall0, aCall0N, aCall1, aMeth0, aMeth1, aMake, aCons, aNil, aWipe, aNotV, aAndV, aOrV, aIf, aAnd, aOr, aNot, aChain, aDGet, aDIn, aDPut, aApp, aAug, aPar, aSFld, aSFldN, aFld, aFldF, aSlT, aSlL, aRevL, aPO, aPO0, aBook, fIsN, fNotN, fEq, fNe, fI0, fI, fAddS, fAny, fAll, fIxL, fIxT, fIxS, fIn, fSign, fLen, fLenS, fList, fTuple, fInt, fMax2, fCat, fRep, fCatT, fEqD, fNeD, startA, aEnd, viewT, viewL, viewS, viewF, viewD, pvs, aoAt, aoSub, aoSet, aoPut, foPut, putFo, AO.fz, AO.fz.fzs, PV.isNon, AV.clsAt, keyOf, vdat, PV.dat, PV.dat.dats, viewDat, numP, List.getElem?_cons_zero, List.getElem?_cons_succ, List.getElem?_nil, List.set_cons_zero, List.set_cons_succ, List.map_cons, List.map_nil, List.cons_append, List.nil_append, List.append_nil, List.replicate_succ, List.replicate_zero, List.length_cons, List.length_nil, List.take_zero, List.take_succ_cons, List.take_nil, Nat.reduceAdd, Nat.reduceSub, Nat.reduceLT, Nat.reduceLeDiff, if_true, if_false, reduceIte, Option.map_some, Option.map_none, Option.bind_some, Option.bind_none, Bool.false_eq_true, Bool.not_true, Bool.not_false, List.lookup_cons, List.lookup_nil, Option.some.injEq, exists_eq_left', exists_eq_left, exists_and_left, AO.ins.injEq, AO.lst.injEq, AO.dK.injEq, Nat.zero_add, ite_true, ite_false, List.cons.injEq, AV.pv.injEq, PV.v.injEq, AV.loc.injEq, and_self, bools_map, decide_true, decide_false, true_and, and_true, decide_eq_true_eq, V.str.injEq, V.int.injEq, V.bl.injEq, scalS, scalI, scalB, inV_s, vals_s, vals_s', flat_s, flat_1, inV_b, vals_b, flat_b, pstrs_s, reduceCtorEq, ofS_beq, ofS_eq, String.reduceBEq, String.reduceEq, aBook, pRows, aFor]
  refine ⟨ns, ts, rfl, ok.bk, _, rfl, fun j sa A => ∃ x4 x5 x6 x7 x8 x9 x10 x11 x12 x13, sa = [some (.pv (.tup [.tup (ns.map pNd), .tup (ts.map pTr)])), some (.pv (.tup (ns.map pNd))), some (.pv (.tup (ts.map pTr))), some (.loc 0 []), x4, x5, x6, x7, x8, x9, x10, x11, x12, x13] ∧ A = [.lst ((ns.take j).map fun n => PV.str (needText n))], ⟨_, _, _, _, _, _, _, _, _, _, rfl, rfl⟩, fun _ _ _ _ => trivial, fun j x sa A hx hI => ?_, fun sa A hI => ?_⟩
  · obtain ⟨x4, x5, x6, x7, x8, x9, x10, x11, x12, x13, rfl, rfl⟩ := hI
    rw [List.getElem?_map] at hx
    obtain ⟨n, h1, rfl⟩ := Option.map_eq_some_iff.mp hx
    have on := ok.nd n (List.mem_of_getElem? h1)
    simp only [aDisp, aPairs, fMulS, fSub, aIsi, aIsiT, tyOf, vty, PV.ty, aCall0D, aJoin, aSeq, aIfS, aTest, aOp, aVar, aC, aCp, aRet, aRetN, aRetZ, aDrop, aNext, aBreak, aCont, aAsg, aAsgN, aGTup, aGCons, aGNil, aName, aUn, aUnN, aOpN, aFz, aTup, aLst, aIList, aIListP, aITup, aIEnum, aIEnumT, aIRng, aIStr, aYes, aCall0, aCall0N, aCall1, aMeth0, aMeth1, aMake, aCons, aNil, aWipe, aNotV, aAndV, aOrV, aIf, aAnd, aOr, aNot, aChain, aDGet, aDIn, aDPut, aApp, aAug, aPar, aSFld, aSFldN, aFld, aFldF, aSlT, aSlL, aRevL, aPO, aPO0, aBook, fIsN, fNotN, fEq, fNe, fI0, fI, fAddS, fAny, fAll, fIxL, fIxT, fIxS, fIn, fSign, fLen, fLenS, fList, fTuple, fInt, fMax2, fCat, fRep, fCatT, fEqD, fNeD, startA, aEnd, viewT, viewL, viewS, viewF, viewD, pvs, aoAt, aoSub, aoSet, aoPut, foPut, putFo, AO.fz, AO.fz.fzs, PV.isNon, AV.clsAt, keyOf, vdat, PV.dat, PV.dat.dats, viewDat, numP, List.getElem?_cons_zero, List.getElem?_cons_succ, List.getElem?_nil, List.set_cons_zero, List.set_cons_succ, List.map_cons, List.map_nil, List.cons_append, List.nil_append, List.append_nil, List.replicate_succ, List.replicate_zero, List.length_cons, List.length_nil, List.take_zero, List.take_succ_cons, List.take_nil, Nat.reduceAdd, Nat.reduceSub, Nat.reduceLT, Nat.reduceLeDiff, if_true, if_false, reduceIte, Option.map_some, Option.map_none, Option.bind_some, Option.bind_none, Bool.false_eq_true, Bool.not_true, Bool.not_false, List.lookup_cons, List.lookup_nil, Option.some.injEq, exists_eq_left', exists_eq_left, exists_and_left, AO.ins.injEq, AO.lst.injEq, AO.dK.injEq, Nat.zero_add, ite_true, ite_false, List.cons.injEq, AV.pv.injEq, PV.v.injEq, AV.loc.injEq, and_self, bools_map, decide_true, decide_false, true_and, and_true, decide_eq_true_eq, V.str.injEq, V.int.injEq, V.bl.injEq, scalS, scalI, scalB, inV_s, vals_s, vals_s', flat_s, flat_1, inV_b, vals_b, flat_b, pstrs_s, reduceCtorEq, ofS_beq, ofS_eq, String.reduceBEq, String.reduceEq, pNd, fStrI, aJoin]
    have sm : ((needWords n).map (·.length)).sum + (needWords n).length * (" " : Str).length ≤ 16777216 := by
      have h1 := needw_sum on
      show ((needWords n).map (·.length)).sum + 5 * 1 ≤ _
      omega
    refine ⟨n.ot, rfl, rfl, on.ot, num_log on.lo on.hi, needWords n, rfl, sm, ?_, _, _, _, _, _, _, _, _, _, _, ⟨rfl, rfl, rfl, rfl, rfl, rfl, rfl, rfl, rfl, rfl⟩, ?_⟩
    · rw [List.length_map, List.length_take]
      have := ok.bk.n3
      omega
    · rw [List.take_succ, h1, List.map_append]
      rfl
  · obtain ⟨x4, x5, x6, x7, x8, x9, x10, x11, x12, x13, rfl, rfl⟩ := hI
    rw [List.length_map, List.take_length]
    simp only [aDisp, aPairs, fMulS, fSub, aIsi, aIsiT, tyOf, vty, PV.ty, aCall0D, aJoin, aSeq, aIfS, aTest, aOp, aVar, aC, aCp, aRet, aRetN, aRetZ, aDrop, aNext, aBreak, aCont, aAsg, aAsgN, aGTup, aGCons, aGNil, aName, aUn, aUnN, aOpN, aFz, aTup, aLst, aIList, aIListP, aITup, aIEnum, aIEnumT, aIRng, aIStr, aYes, aCall0, aCall0N, aCall1, aMeth0, aMeth1, aMake, aCons, aNil, aWipe, aNotV, aAndV, aOrV, aIf, aAnd, aOr, aNot, aChain, aDGet, aDIn, aDPut, aApp, aAug, aPar, aSFld, aSFldN, aFld, aFldF, aSlT, aSlL, aRevL, aPO, aPO0, aBook, fIsN, fNotN, fEq, fNe, fI0, fI, fAddS, fAny, fAll, fIxL, fIxT, fIxS, fIn, fSign, fLen, fLenS, fList, fTuple, fInt, fMax2, fCat, fRep, fCatT, fEqD, fNeD, startA, aEnd, viewT, viewL, viewS, viewF, viewD, pvs, aoAt, aoSub, aoSet, aoPut, foPut, putFo, AO.fz, AO.fz.fzs, PV.isNon, AV.clsAt, keyOf, vdat, PV.dat, PV.dat.dats, viewDat, numP, List.getElem?_cons_zero, List.getElem?_cons_succ, List.getElem?_nil, List.set_cons_zero, List.set_cons_succ, List.map_cons, List.map_nil, List.cons_append, List.nil_append, List.append_nil, List.replicate_succ, List.replicate_zero, List.length_cons, List.length_nil, List.take_zero, List.take_succ_cons, List.take_nil, Nat.reduceAdd, Nat.reduceSub, Nat.reduceLT, Nat.reduceLeDiff, if_true, if_false, reduceIte, Option.map_some, Option.map_none, Option.bind_some, Option.bind_none, Bool.false_eq_true, Bool.not_true, Bool.not_false, List.lookup_cons, List.lookup_nil, Option.some.injEq, exists_eq_left', exists_eq_left, exists_and_left, AO.ins.injEq, AO.lst.injEq, AO.dK.injEq, Nat.zero_add, ite_true, ite_false, List.cons.injEq, AV.pv.injEq, PV.v.injEq, AV.loc.injEq, and_self, bools_map, decide_true, decide_false, true_and, and_true, decide_eq_true_eq, V.str.injEq, V.int.injEq, V.bl.injEq, scalS, scalI, scalB, inV_s, vals_s, vals_s', flat_s, flat_1, inV_b, vals_b, flat_b, pstrs_s, reduceCtorEq, ofS_beq, ofS_eq, String.reduceBEq, String.reduceEq, aFor]
    refine ⟨_, rfl, fun j sa A => ∃ x4 x5 x6 x7 x8 x9 x10 x11 x12 x13, sa = [some (.pv (.tup [.tup (ns.map pNd), .tup (ts.map pTr)])), some (.pv (.tup (ns.map pNd))), some (.pv (.tup (ts.map pTr))), some (.loc 0 []), x4, x5, x6, x7, x8, x9, x10, x11, x12, x13] ∧ A = [.lst ((ns.map fun n => PV.str (needText n)) ++ (ts.take j).map fun t => PV.str (tryText t))], ⟨_, _, _, _, _, _, _, _, _, _, rfl, by rw [List.take_zero, List.map_nil, List.append_nil]⟩, fun _ _ _ _ => trivial, fun j x sa A hx hI => ?_, fun sa A hI => ?_⟩
    · obtain ⟨x4, x5, x6, x7, x8, x9, x10, x11, x12, x13, rfl, rfl⟩ := hI
      rw [List.getElem?_map] at hx
      obtain ⟨t, h1, rfl⟩ := Option.map_eq_some_iff.mp hx
      have ot := ok.tr t (List.mem_of_getElem? h1)
      have q1 := name_len ot.hs
      have q2 := name_len ot.gp
      have k1 : ("/" : Str).length = 1 := rfl
      obtain ⟨hs, hl⟩ := tryw_sum ot
      have sm : ((tryWords t).map (·.length)).sum + (tryWords t).length * (" " : Str).length ≤ 16777216 := by
        have k1 : (" " : Str).length = 1 := rfl
        rw [k1]
        omega
      simp only [aDisp, aPairs, fMulS, fSub, aIsi, aIsiT, tyOf, vty, PV.ty, aCall0D, aJoin, aSeq, aIfS, aTest, aOp, aVar, aC, aCp, aRet, aRetN, aRetZ, aDrop, aNext, aBreak, aCont, aAsg, aAsgN, aGTup, aGCons, aGNil, aName, aUn, aUnN, aOpN, aFz, aTup, aLst, aIList, aIListP, aITup, aIEnum, aIEnumT, aIRng, aIStr, aYes, aCall0, aCall0N, aCall1, aMeth0, aMeth1, aMake, aCons, aNil, aWipe, aNotV, aAndV, aOrV, aIf, aAnd, aOr, aNot, aChain, aDGet, aDIn, aDPut, aApp, aAug, aPar, aSFld, aSFldN, aFld, aFldF, aSlT, aSlL, aRevL, aPO, aPO0, aBook, fIsN, fNotN, fEq, fNe, fI0, fI, fAddS, fAny, fAll, fIxL, fIxT, fIxS, fIn, fSign, fLen, fLenS, fList, fTuple, fInt, fMax2, fCat, fRep, fCatT, fEqD, fNeD, startA, aEnd, viewT, viewL, viewS, viewF, viewD, pvs, aoAt, aoSub, aoSet, aoPut, foPut, putFo, AO.fz, AO.fz.fzs, PV.isNon, AV.clsAt, keyOf, vdat, PV.dat, PV.dat.dats, viewDat, numP, List.getElem?_cons_zero, List.getElem?_cons_succ, List.getElem?_nil, List.set_cons_zero, List.set_cons_succ, List.map_cons, List.map_nil, List.cons_append, List.nil_append, List.append_nil, List.replicate_succ, List.replicate_zero, List.length_cons, List.length_nil, List.take_zero, List.take_succ_cons, List.take_nil, Nat.reduceAdd, Nat.reduceSub, Nat.reduceLT, Nat.reduceLeDiff, if_true, if_false, reduceIte, Option.map_some, Option.map_none, Option.bind_some, Option.bind_none, Bool.false_eq_true, Bool.not_true, Bool.not_false, List.lookup_cons, List.lookup_nil, Option.some.injEq, exists_eq_left', exists_eq_left, exists_and_left, AO.ins.injEq, AO.lst.injEq, AO.dK.injEq, Nat.zero_add, ite_true, ite_false, List.cons.injEq, AV.pv.injEq, PV.v.injEq, AV.loc.injEq, and_self, bools_map, decide_true, decide_false, true_and, and_true, decide_eq_true_eq, V.str.injEq, V.int.injEq, V.bl.injEq, scalS, scalI, scalB, inV_s, vals_s, vals_s', flat_s, flat_1, inV_b, vals_b, flat_b, pstrs_s, reduceCtorEq, ofS_beq, ofS_eq, String.reduceBEq, String.reduceEq, pTr, fStrI, aJoin]
      refine ⟨sz_ok (by omega), sz_ok (by simp only [Str.length_append]; omega), ?_⟩
      refine ⟨t.nd, rfl, rfl, ot.nd, t.ms, rfl, rfl, ot.ms, num_log ot.lo ot.hi, ?_⟩
      have hz : (ns.map (fun n => PV.str (needText n)) ++ (ts.take j).map (fun t => PV.str (tryText t))).length < 100000 := by
        rw [List.length_append, List.length_map, List.length_map, List.length_take]
        have := ok.bk.n3
        have := ok.bk.t3
        omega
      have hs : ns.map (fun n => PV.str (needText n)) ++ (ts.take j).map (fun t => PV.str (tryText t)) ++ [PV.v (V.str (Txt.join " " (tryWords t)))] = ns.map (fun n => PV.str (needText n)) ++ (ts.take (j + 1)).map (fun t => PV.str (tryText t)) := by
        rw [List.take_succ, h1, List.map_append, List.append_assoc]
        rfl
      have hw : ∀ b : Bool, t.ex = b → pstrs (PV.v (V.str (Str.ofString "try")) :: PV.str t.nm :: PV.v (V.str (t.hs ++ Str.ofString "/" ++ t.gp)) :: PV.str (namesTold t.nd) :: PV.str (namesTold t.ms) :: PV.v (V.str (Str.ofString (toString t.tm))) :: (List.replicate (if b = true then (1 : Int) else 0).toNat [PV.v (V.str (Str.ofString "expected"))]).flatten) = some (tryWords t) := by
        intro b e
        unfold tryWords
        rw [e]
        cases b <;> rfl
      cases e : t.ex with
      | false => exact ⟨by decide, by decide, by decide, by decide, tryWords t, hw false e, sm, hz, _, _, _, _, _, _, _, _, _, _, ⟨rfl, rfl, rfl, rfl, rfl, rfl, rfl, rfl, rfl, rfl⟩, hs⟩
      | true => exact ⟨by decide, by decide, by decide, by decide, tryWords t, hw true e, sm, hz, _, _, _, _, _, _, _, _, _, _, ⟨rfl, rfl, rfl, rfl, rfl, rfl, rfl, rfl, rfl, rfl⟩, hs⟩
    · obtain ⟨x4, x5, x6, x7, x8, x9, x10, x11, x12, x13, rfl, rfl⟩ := hI
      rw [List.length_map, List.take_length]
      simp only [aDisp, aPairs, fMulS, fSub, aIsi, aIsiT, tyOf, vty, PV.ty, aCall0D, aJoin, aSeq, aIfS, aTest, aOp, aVar, aC, aCp, aRet, aRetN, aRetZ, aDrop, aNext, aBreak, aCont, aAsg, aAsgN, aGTup, aGCons, aGNil, aName, aUn, aUnN, aOpN, aFz, aTup, aLst, aIList, aIListP, aITup, aIEnum, aIEnumT, aIRng, aIStr, aYes, aCall0, aCall0N, aCall1, aMeth0, aMeth1, aMake, aCons, aNil, aWipe, aNotV, aAndV, aOrV, aIf, aAnd, aOr, aNot, aChain, aDGet, aDIn, aDPut, aApp, aAug, aPar, aSFld, aSFldN, aFld, aFldF, aSlT, aSlL, aRevL, aPO, aPO0, aBook, fIsN, fNotN, fEq, fNe, fI0, fI, fAddS, fAny, fAll, fIxL, fIxT, fIxS, fIn, fSign, fLen, fLenS, fList, fTuple, fInt, fMax2, fCat, fRep, fCatT, fEqD, fNeD, startA, aEnd, viewT, viewL, viewS, viewF, viewD, pvs, aoAt, aoSub, aoSet, aoPut, foPut, putFo, AO.fz, AO.fz.fzs, PV.isNon, AV.clsAt, keyOf, vdat, PV.dat, PV.dat.dats, viewDat, numP, List.getElem?_cons_zero, List.getElem?_cons_succ, List.getElem?_nil, List.set_cons_zero, List.set_cons_succ, List.map_cons, List.map_nil, List.cons_append, List.nil_append, List.append_nil, List.replicate_succ, List.replicate_zero, List.length_cons, List.length_nil, List.take_zero, List.take_succ_cons, List.take_nil, Nat.reduceAdd, Nat.reduceSub, Nat.reduceLT, Nat.reduceLeDiff, if_true, if_false, reduceIte, Option.map_some, Option.map_none, Option.bind_some, Option.bind_none, Bool.false_eq_true, Bool.not_true, Bool.not_false, List.lookup_cons, List.lookup_nil, Option.some.injEq, exists_eq_left', exists_eq_left, exists_and_left, AO.ins.injEq, AO.lst.injEq, AO.dK.injEq, Nat.zero_add, ite_true, ite_false, List.cons.injEq, AV.pv.injEq, PV.v.injEq, AV.loc.injEq, and_self, bools_map, decide_true, decide_false, true_and, and_true, decide_eq_true_eq, V.str.injEq, V.int.injEq, V.bl.injEq, scalS, scalI, scalB, inV_s, vals_s, vals_s', flat_s, flat_1, inV_b, vals_b, flat_b, pstrs_s, reduceCtorEq, ofS_beq, ofS_eq, String.reduceBEq, String.reduceEq, aJoin]
      have e : ns.map (fun n => PV.str (needText n)) ++ ts.map (fun t => PV.str (tryText t)) = (bookLines ns ts).map PV.str := by
        unfold bookLines
        rw [List.map_append, List.map_map, List.map_map]
        rfl
      rw [e]
      exact ⟨bookLines ns ts, pstrs_s _, lines_small ok, hK⟩
end

end TH
namespace TH
open PySem PySem.Spec PyProof.Rows L2
variable [TC : TabC]
/-! ### names, numbers, rows read -/
theorem letter_no {x : Str} (h : isName x = true) {c : Nat} (hc : c ∉ letters.cps.toList) : c ∉ TL.tl x := fun z => by
  unfold isName at h
  simp only [Bool.and_eq_true, List.all_eq_true, decide_eq_true_iff] at h
  exact hc (h.2.1 c z)
theorem comma_no {x : Str} (h : isName x = true) : 44 ∉ TL.tl x := letter_no h (by decide +kernel)
theorem name_ne {x : Str} (h : isName x = true) : TL.tl x ≠ [] := fun z => by
  unfold isName at h
  simp only [Bool.and_eq_true, List.all_eq_true, decide_eq_true_iff] at h
  have h1 := h.1.1
  have : x.length = (TL.tl x).length := by
    show x.cps.size = x.cps.toList.length
    rw [Array.length_toList]
  rw [z] at this
  rw [this] at h1
  exact absurd h1 (by decide)
theorem told_nil : namesTold [] = "-" := rfl
theorem told_cons {x : Str} {t : List Str} (h : isName x = true) : namesTold (x :: t) ≠ "-" := fun z => by
  have e : TL.tl (namesTold (x :: t)) = [45] := by rw [z]; decide +kernel
  unfold namesTold at e
  rw [if_neg (List.cons_ne_nil _ _), TL.join_eq, TL.tl_join] at e
  have h45 : 45 ∉ TL.tl x := letter_no h (by decide +kernel)
  have hne := name_ne h
  cases ex : TL.tl x with
  | nil => exact hne ex
  | cons c r =>
    rw [ex] at h45
    cases t with
    | nil =>
      rw [List.map_cons, List.map_nil, ex] at e
      have e : c :: r = [45] := e
      exact h45 (by rw [e]; exact List.mem_cons_self)
    | cons y u =>
      rw [List.map_cons, List.map_cons, ex] at e
      have e : (c :: r) ++ _ = [45] := e
      injection e with e1 _
      exact h45 (by rw [e1]; exact List.mem_cons_self)
theorem split_told {xs : List Str} (h : NmOk xs) (hne : xs ≠ []) : Txt.split (namesTold xs) "," = xs := by
  unfold namesTold
  rw [if_neg hne]
  exact TL.split_join (s := 44) (S := []) (by decide +kernel) (by decide +kernel) hne fun p hp => comma_no (h.nm p hp)
def ac_nin : AC := fun avs A k => ∃ xs, avs = [.pv (.str (namesTold xs))] ∧ A = [] ∧ NmOk xs ∧ k (.pv (pStrs xs)) []
def ac_num : AC := fun avs A k => ∃ (n : Int), avs = [.pv (.str (toString n)), .pv (.int 4)] ∧ A = [] ∧ 1 ≤ n ∧ n ≤ 4 ∧ k (.pv (.int n)) []
section
variable {P : Program} {w : World} {K : PySem.W.Frag} {mg : Str → Option Value} {base : Heap} {f : Addr} {fd : FuncData}
theorem sc_names_in : FnScope ["word", "names", "name"] ["word"] (defScope s_names_in) := ⟨rfl, rfl, rfl, by decide +kernel, rfl, by decide +kernel, by decide +kernel⟩
theorem fn_nin (F : FnP K "names_in" "names_in" s_names_in f fd) (T : Top K mg) (c_NONE : ∃ u, mg "NONE" = some u ∧ RelV (.str "-") u) (c_name : C8.Cal P w K mg base 1 "is_name" sp_is_name []) : FnOk P w K mg base CX0 2 f fd (["word"] : List Str) (spA K ac_nin) := by
  refine fnA (n0 := 0) F sc_names_in (fun avs A Kc ⟨xs, e, eA, _⟩ => ⟨by rw [e]; rfl, by rw [eA]; rfl⟩) (fun cdv A outer s H E hr => ⟨_, (pss_cons (ps_if (pt_cmpR op_eq (pv 0) (C8.pe_gc rfl c_NONE) (nomark _)) (pss_one (ps_ret (pe_tup pa_nil))) pss_nil) (pss_cons (ps_set (i := 1) sc_names_in.nd rfl (Or.inl rfl) (pe_callTy (call_tuple_of) (by rfl) T.z_tuple (by decide +kernel) (pa_cons (pe_split (pv 0) pe_str) pa_nil (star_Call _ _ _ _)))) (pss_one (ps_ret (pe_ifExp (pt_val (pe_callB (cr_all rfl) (by rfl) T.z_all (by decide +kernel) (pa_cons (pe_lc (own := [("name", 2)]) rfl sc_names_in.nd (pi_tup (pv 1)) (blkOk_by (own := [("name", 2)]) (N := ["word", "names", "name"]) (sc := defScope s_names_in) (by decide +kernel)) (fun _ _ _ _ _ => (pg_name (i := 2) sc_names_in.nd rfl (Or.inl rfl))) (fun _ _ _ _ _ => pts_nil) (fun _ _ _ _ _ => peT (C8.pe_c c_name hr (by first | decide | omega) rfl (pa_cons (pv 2) pa_nil (star_Name _ _)) (he := (star_Name _ _))) (by (try dsimp only [Cx.blk, Cx.nox, cxOf]) <;> rfl))) pa_nil (star_ListComp _ _ _ _)))) (pv 1) pe_non))))),
  (sim_seq (sim_ifS (sim_test (sim_op sim_var sim_c ops_eq)) (sim_ret (sim_tup sim_nil)) sim_next) (sim_seq (sim_asg (sim_call1 (sim_fz (sim_split sim_var sim_c)) uns_tuple) (sim_gname (vs := [0, 1, 2]))) (sim_ret (sim_if (sim_B (sim_call1 (sim_fz (sim_lc (sim_itup sim_var) ng_name sim_yes (sim_call0 le_is_name (sim_cons sim_var sim_nil)))) uns_all)) sim_var sim_c))))⟩) ?_
  rintro avs A Kc ⟨xs, rfl, rfl, hx, hK⟩
  simp only [aDisp, aPairs, fMulS, fSub, aIsi, aIsiT, tyOf, vty, PV.ty, aCall0D, aJoin, aSeq, aIfS, aTest, aOp, aVar, aC, aCp, aRet, aRetN, aRetZ, aDrop, aNext, aBreak, aCont, aAsg, aAsgN, aGTup, aGCons, aGNil, aName, aUn, aUnN, aOpN, aFz, aTup, aLst, aIList, aIListP, aITup, aIEnum, aIEnumT, aIRng, aIStr, aYes, aCall0, aCall0N, aCall1, aMeth0, aMeth1, aMake, aCons, aNil, aWipe, aNotV, aAndV, aOrV, aIf, aAnd, aOr, aNot, aChain, aDGet, aDIn, aDPut, aApp, aAug, aPar, aSFld, aSFldN, aFld, aFldF, aSlT, aSlL, aRevL, aPO, aPO0, aBook, fIsN, fNotN, fEq, fNe, fI0, fI, fAddS, fAny, fAll, fIxL, fIxT, fIxS, fIn, fSign, fLen, fLenS, fList, fTuple, fInt, fMax2, fCat, fRep, fCatT, fEqD, fNeD, startA, aEnd, viewT, viewL, viewS, viewF, viewD, pvs, aoAt, aoSub, aoSet, aoPut, foPut, putFo, AO.fz, AO.fz.fzs, PV.isNon, AV.clsAt, keyOf, vdat, PV.dat, PV.dat.dats, viewDat, numP, List.getElem?_cons_zero, List.getElem?_cons_succ, List.getElem?_nil, List.set_cons_zero, List.set_cons_succ, List.map_cons, List.map_nil, List.cons_append, List.nil_append, List.append_nil, List.replicate_succ, List.replicate_zero, List.length_cons, List.length_nil, List.take_zero, List.take_succ_cons, List.take_nil, Nat.reduceAdd, Nat.reduceSub, Nat.reduceLT, Nat.reduceLeDiff, if_true, if_false, reduceIte, Option.map_some, Option.map_none, Option.bind_some, Option.bind_none, Bool.false_eq_true, Bool.not_true, Bool.not_false, List.lookup_cons, List.lookup_nil, Option.some.injEq, exists_eq_left', exists_eq_left, exists_and_left, AO.ins.injEq, AO.lst.injEq, AO.dK.injEq, Nat.zero_add, ite_true, ite_false, List.cons.injEq, AV.pv.injEq, PV.v.injEq, AV.loc.injEq, and_self, bools_map, decide_true, decide_false, true_and, and_true, decide_eq_true_eq, V.str.injEq, V.int.injEq, V.bl.injEq, scalS, scalI, scalB, inV_s, vals_s, vals_s', flat_s, flat_1, inV_b, vals_b, flat_b, pstrs_s, reduceCtorEq, ofS_beq, ofS_eq, String.reduceBEq, String.reduceEq, aSplit]
  by_cases hne : xs = []
  · subst hne
    rw [if_pos told_nil]
    exact hK
  · have hl := told_len hx
    have hnt : namesTold xs ≠ Str.ofString "-" := by
      cases xs with
      | nil => exact absurd rfl hne
      | cons x t => exact told_cons (hx.nm x List.mem_cons_self)
    rw [if_neg hnt, split_told hx hne]
    refine ⟨by decide +kernel, sz_ok (by omega), ?_⟩
    refine alc_map xs PV.str (fun _ => .bl true) (fun Kc h => by simp only [aDisp, aPairs, fMulS, fSub, aIsi, aIsiT, tyOf, vty, PV.ty, aCall0D, aJoin, aSeq, aIfS, aTest, aOp, aVar, aC, aCp, aRet, aRetN, aRetZ, aDrop, aNext, aBreak, aCont, aAsg, aAsgN, aGTup, aGCons, aGNil, aName, aUn, aUnN, aOpN, aFz, aTup, aLst, aIList, aIListP, aITup, aIEnum, aIEnumT, aIRng, aIStr, aYes, aCall0, aCall0N, aCall1, aMeth0, aMeth1, aMake, aCons, aNil, aWipe, aNotV, aAndV, aOrV, aIf, aAnd, aOr, aNot, aChain, aDGet, aDIn, aDPut, aApp, aAug, aPar, aSFld, aSFldN, aFld, aFldF, aSlT, aSlL, aRevL, aPO, aPO0, aBook, fIsN, fNotN, fEq, fNe, fI0, fI, fAddS, fAny, fAll, fIxL, fIxT, fIxS, fIn, fSign, fLen, fLenS, fList, fTuple, fInt, fMax2, fCat, fRep, fCatT, fEqD, fNeD, startA, aEnd, viewT, viewL, viewS, viewF, viewD, pvs, aoAt, aoSub, aoSet, aoPut, foPut, putFo, AO.fz, AO.fz.fzs, PV.isNon, AV.clsAt, keyOf, vdat, PV.dat, PV.dat.dats, viewDat, numP, List.getElem?_cons_zero, List.getElem?_cons_succ, List.getElem?_nil, List.set_cons_zero, List.set_cons_succ, List.map_cons, List.map_nil, List.cons_append, List.nil_append, List.append_nil, List.replicate_succ, List.replicate_zero, List.length_cons, List.length_nil, List.take_zero, List.take_succ_cons, List.take_nil, Nat.reduceAdd, Nat.reduceSub, Nat.reduceLT, Nat.reduceLeDiff, if_true, if_false, reduceIte, Option.map_some, Option.map_none, Option.bind_some, Option.bind_none, Bool.false_eq_true, Bool.not_true, Bool.not_false, List.lookup_cons, List.lookup_nil, Option.some.injEq, exists_eq_left', exists_eq_left, exists_and_left, AO.ins.injEq, AO.lst.injEq, AO.dK.injEq, Nat.zero_add, ite_true, ite_false, List.cons.injEq, AV.pv.injEq, PV.v.injEq, AV.loc.injEq, and_self, bools_map, decide_true, decide_false, true_and, and_true, decide_eq_true_eq, V.str.injEq, V.int.injEq, V.bl.injEq, scalS, scalI, scalB, inV_s, vals_s, vals_s', flat_s, flat_1, inV_b, vals_b, flat_b, pstrs_s, reduceCtorEq, ofS_beq, ofS_eq, String.reduceBEq, String.reduceEq]; exact ⟨_, rfl, h⟩) trivial (fun y hy N hN => ?_) (by have := hx.few; omega) ?_
    · simp only [aDisp, aPairs, fMulS, fSub, aIsi, aIsiT, tyOf, vty, PV.ty, aCall0D, aJoin, aSeq, aIfS, aTest, aOp, aVar, aC, aCp, aRet, aRetN, aRetZ, aDrop, aNext, aBreak, aCont, aAsg, aAsgN, aGTup, aGCons, aGNil, aName, aUn, aUnN, aOpN, aFz, aTup, aLst, aIList, aIListP, aITup, aIEnum, aIEnumT, aIRng, aIStr, aYes, aCall0, aCall0N, aCall1, aMeth0, aMeth1, aMake, aCons, aNil, aWipe, aNotV, aAndV, aOrV, aIf, aAnd, aOr, aNot, aChain, aDGet, aDIn, aDPut, aApp, aAug, aPar, aSFld, aSFldN, aFld, aFldF, aSlT, aSlL, aRevL, aPO, aPO0, aBook, fIsN, fNotN, fEq, fNe, fI0, fI, fAddS, fAny, fAll, fIxL, fIxT, fIxS, fIn, fSign, fLen, fLenS, fList, fTuple, fInt, fMax2, fCat, fRep, fCatT, fEqD, fNeD, startA, aEnd, viewT, viewL, viewS, viewF, viewD, pvs, aoAt, aoSub, aoSet, aoPut, foPut, putFo, AO.fz, AO.fz.fzs, PV.isNon, AV.clsAt, keyOf, vdat, PV.dat, PV.dat.dats, viewDat, numP, List.getElem?_cons_zero, List.getElem?_cons_succ, List.getElem?_nil, List.set_cons_zero, List.set_cons_succ, List.map_cons, List.map_nil, List.cons_append, List.nil_append, List.append_nil, List.replicate_succ, List.replicate_zero, List.length_cons, List.length_nil, List.take_zero, List.take_succ_cons, List.take_nil, Nat.reduceAdd, Nat.reduceSub, Nat.reduceLT, Nat.reduceLeDiff, if_true, if_false, reduceIte, Option.map_some, Option.map_none, Option.bind_some, Option.bind_none, Bool.false_eq_true, Bool.not_true, Bool.not_false, List.lookup_cons, List.lookup_nil, Option.some.injEq, exists_eq_left', exists_eq_left, exists_and_left, AO.ins.injEq, AO.lst.injEq, AO.dK.injEq, Nat.zero_add, ite_true, ite_false, List.cons.injEq, AV.pv.injEq, PV.v.injEq, AV.loc.injEq, and_self, bools_map, decide_true, decide_false, true_and, and_true, decide_eq_true_eq, V.str.injEq, V.int.injEq, V.bl.injEq, scalS, scalI, scalB, inV_s, vals_s, vals_s', flat_s, flat_1, inV_b, vals_b, flat_b, pstrs_s, reduceCtorEq, ofS_beq, ofS_eq, String.reduceBEq, String.reduceEq, ac_is_name]
      have e := hx.nm y hy
      have h8 := name_len e
      have hN : N (.bl (isName y)) [] := by rw [e]; exact hN
      exact ⟨y, rfl, rfl, by omega, hN⟩
    · simp only [aDisp, aPairs, fMulS, fSub, aIsi, aIsiT, tyOf, vty, PV.ty, aCall0D, aJoin, aSeq, aIfS, aTest, aOp, aVar, aC, aCp, aRet, aRetN, aRetZ, aDrop, aNext, aBreak, aCont, aAsg, aAsgN, aGTup, aGCons, aGNil, aName, aUn, aUnN, aOpN, aFz, aTup, aLst, aIList, aIListP, aITup, aIEnum, aIEnumT, aIRng, aIStr, aYes, aCall0, aCall0N, aCall1, aMeth0, aMeth1, aMake, aCons, aNil, aWipe, aNotV, aAndV, aOrV, aIf, aAnd, aOr, aNot, aChain, aDGet, aDIn, aDPut, aApp, aAug, aPar, aSFld, aSFldN, aFld, aFldF, aSlT, aSlL, aRevL, aPO, aPO0, aBook, fIsN, fNotN, fEq, fNe, fI0, fI, fAddS, fAny, fAll, fIxL, fIxT, fIxS, fIn, fSign, fLen, fLenS, fList, fTuple, fInt, fMax2, fCat, fRep, fCatT, fEqD, fNeD, startA, aEnd, viewT, viewL, viewS, viewF, viewD, pvs, aoAt, aoSub, aoSet, aoPut, foPut, putFo, AO.fz, AO.fz.fzs, PV.isNon, AV.clsAt, keyOf, vdat, PV.dat, PV.dat.dats, viewDat, numP, List.getElem?_cons_zero, List.getElem?_cons_succ, List.getElem?_nil, List.set_cons_zero, List.set_cons_succ, List.map_cons, List.map_nil, List.cons_append, List.nil_append, List.append_nil, List.replicate_succ, List.replicate_zero, List.length_cons, List.length_nil, List.take_zero, List.take_succ_cons, List.take_nil, Nat.reduceAdd, Nat.reduceSub, Nat.reduceLT, Nat.reduceLeDiff, if_true, if_false, reduceIte, Option.map_some, Option.map_none, Option.bind_some, Option.bind_none, Bool.false_eq_true, Bool.not_true, Bool.not_false, List.lookup_cons, List.lookup_nil, Option.some.injEq, exists_eq_left', exists_eq_left, exists_and_left, AO.ins.injEq, AO.lst.injEq, AO.dK.injEq, Nat.zero_add, ite_true, ite_false, List.cons.injEq, AV.pv.injEq, PV.v.injEq, AV.loc.injEq, and_self, bools_map, decide_true, decide_false, true_and, and_true, decide_eq_true_eq, V.str.injEq, V.int.injEq, V.bl.injEq, scalS, scalI, scalB, inV_s, vals_s, vals_s', flat_s, flat_1, inV_b, vals_b, flat_b, pstrs_s, reduceCtorEq, ofS_beq, ofS_eq, String.reduceBEq, String.reduceEq]
      rw [if_pos (by rw [List.all_map]; exact List.all_eq_true.mpr fun _ _ => rfl)]
      exact hK
theorem sc_number_in : FnScope ["word", "most"] ["word", "most"] (defScope s_number_in) := ⟨rfl, rfl, rfl, by decide +kernel, rfl, by decide +kernel, by decide +kernel⟩
theorem fn_num (F : FnP K "number_in" "number_in" s_number_in f fd) (T : Top K mg) (c_FIG : ∃ u, mg "FIGURES" = some u ∧ RelV (.str "123456789") u) : FnOk P w K mg base CX0 1 f fd (["word", "most"] : List Str) (spA K ac_num) := by
  refine fnA (n0 := 0) F sc_number_in (fun avs A Kc ⟨xs, e, eA, _⟩ => ⟨by rw [e]; rfl, by rw [eA]; rfl⟩) (fun cdv A outer s H E hr => ⟨_, (pss_one (ps_ret (pe_ifExp (PW.pt (pw_and (pt_cmpR op_eq (pe_callB (call_len_str) (by rfl) T.z_len PySem.boot_len (pa_cons (pv 0) pa_nil (star_Name _ _))) pe_int (nomark _)) (pw_and (pt_cmpR op_in_str (pv 0) (C8.pe_gc rfl c_FIG) rfl) (pw_and1 (pt_cmpR op_le (pe_callTy (call_int_str) (by rfl) T.z_int (by decide +kernel) (pa_cons (pv 0) pa_nil (star_Name _ _))) (pv 1) (nomark _)))))) (pe_callTy (call_int_str) (by rfl) T.z_int (by decide +kernel) (pa_cons (pv 0) pa_nil (star_Name _ _))) pe_non))),
  (sim_ret (sim_if (sim_and (sim_test (sim_op (sim_call1 sim_var uns_lenS) sim_c ops_eq)) (sim_and (sim_test (sim_op sim_var sim_c ops_sub)) (sim_test (sim_op (sim_call1 sim_var uns_intS) sim_var ops_I0)))) (sim_call1 sim_var uns_intS) sim_c))⟩) ?_
  rintro avs A Kc ⟨n, rfl, rfl, h1, h2, hK⟩
  simp only [aDisp, aPairs, fMulS, fSub, aIsi, aIsiT, tyOf, vty, PV.ty, aCall0D, aJoin, aSeq, aIfS, aTest, aOp, aVar, aC, aCp, aRet, aRetN, aRetZ, aDrop, aNext, aBreak, aCont, aAsg, aAsgN, aGTup, aGCons, aGNil, aName, aUn, aUnN, aOpN, aFz, aTup, aLst, aIList, aIListP, aITup, aIEnum, aIEnumT, aIRng, aIStr, aYes, aCall0, aCall0N, aCall1, aMeth0, aMeth1, aMake, aCons, aNil, aWipe, aNotV, aAndV, aOrV, aIf, aAnd, aOr, aNot, aChain, aDGet, aDIn, aDPut, aApp, aAug, aPar, aSFld, aSFldN, aFld, aFldF, aSlT, aSlL, aRevL, aPO, aPO0, aBook, fIsN, fNotN, fEq, fNe, fI0, fI, fAddS, fAny, fAll, fIxL, fIxT, fIxS, fIn, fSign, fLen, fLenS, fList, fTuple, fInt, fMax2, fCat, fRep, fCatT, fEqD, fNeD, startA, aEnd, viewT, viewL, viewS, viewF, viewD, pvs, aoAt, aoSub, aoSet, aoPut, foPut, putFo, AO.fz, AO.fz.fzs, PV.isNon, AV.clsAt, keyOf, vdat, PV.dat, PV.dat.dats, viewDat, numP, List.getElem?_cons_zero, List.getElem?_cons_succ, List.getElem?_nil, List.set_cons_zero, List.set_cons_succ, List.map_cons, List.map_nil, List.cons_append, List.nil_append, List.append_nil, List.replicate_succ, List.replicate_zero, List.length_cons, List.length_nil, List.take_zero, List.take_succ_cons, List.take_nil, Nat.reduceAdd, Nat.reduceSub, Nat.reduceLT, Nat.reduceLeDiff, if_true, if_false, reduceIte, Option.map_some, Option.map_none, Option.bind_some, Option.bind_none, Bool.false_eq_true, Bool.not_true, Bool.not_false, List.lookup_cons, List.lookup_nil, Option.some.injEq, exists_eq_left', exists_eq_left, exists_and_left, AO.ins.injEq, AO.lst.injEq, AO.dK.injEq, Nat.zero_add, ite_true, ite_false, List.cons.injEq, AV.pv.injEq, PV.v.injEq, AV.loc.injEq, and_self, bools_map, decide_true, decide_false, true_and, and_true, decide_eq_true_eq, V.str.injEq, V.int.injEq, V.bl.injEq, scalS, scalI, scalB, inV_s, vals_s, vals_s', flat_s, flat_1, inV_b, vals_b, flat_b, pstrs_s, reduceCtorEq, ofS_beq, ofS_eq, String.reduceBEq, String.reduceEq, fIntS]
  rcases num_at h1 h2 with rfl | rfl | rfl | rfl
  · exact ⟨by decide +kernel, by rw [if_pos (by decide +kernel), if_pos (by decide +kernel)]; exact ⟨1, by decide +kernel, by decide +kernel, by rw [if_pos (by decide)]; exact ⟨1, by decide +kernel, by decide +kernel, hK⟩⟩⟩
  · exact ⟨by decide +kernel, by rw [if_pos (by decide +kernel), if_pos (by decide +kernel)]; exact ⟨2, by decide +kernel, by decide +kernel, by rw [if_pos (by decide)]; exact ⟨2, by decide +kernel, by decide +kernel, hK⟩⟩⟩
  · exact ⟨by decide +kernel, by rw [if_pos (by decide +kernel), if_pos (by decide +kernel)]; exact ⟨3, by decide +kernel, by decide +kernel, by rw [if_pos (by decide)]; exact ⟨3, by decide +kernel, by decide +kernel, hK⟩⟩⟩
  · exact ⟨by decide +kernel, by rw [if_pos (by decide +kernel), if_pos (by decide +kernel)]; exact ⟨4, by decide +kernel, by decide +kernel, by rw [if_pos (by decide)]; exact ⟨4, by decide +kernel, by decide +kernel, hK⟩⟩⟩
end

end TH
namespace TH
open PySem PySem.Spec PyProof.Rows L2
variable [TC : TabC]
/-! ### rows read -/
def fNeg : aR1 := fun _ x k => match x with
  | .pv (.v (.int i)) => k (.pv (.v (.int (-i))))
  | _ => False
theorem uns_neg {K : PySem.W.Frag} : UnS K fNeg (rU fun i => .int (-i)) := fun {B s x vx} r px {k Q} q h => by
  unfold fNeg at h
  split at h
  · rename_i i
    obtain rfl : vx = .int i := px
    exact ⟨i, rfl, q (.pv (.v (.int (-i)))) _ _ _ r.g0 rfl h⟩
  · exact h.elim
theorem nm_step {x : Str} {k : Rt → Sto → Prop} (h : isName x = true) (hk : k (.pv (.bl true)) []) : ac_is_name [.pv (.str x)] [] k := by
  have h8 := name_len h
  refine ⟨x, rfl, rfl, (show x.length ≤ 100000 by omega), ?_⟩
  show k (.pv (.bl (isName x))) []
  rw [h]
  exact hk
theorem go_on {a b : Prop} (h : b) : if (!true) = true then a else b := h
def needRest (n : Nd) : List Str := [n.nm, n.sc, namesTold n.ot, toString n.ws]
def tryRest (t : Tr) : List Str := ([t.nm, t.hs ++ ("/" : Str) ++ t.gp, namesTold t.nd, namesTold t.ms, toString t.tm] : List Str) ++ List.replicate (if t.ex then 1 else 0) ("expected" : Str)
theorem dep_strs : ∀ xs : List Str, PyData.depthAll (xs.map PyData.str) = 0
  | [] => rfl
  | _ :: t => by
    show max 0 (PyData.depthAll (t.map PyData.str)) = 0
    rw [dep_strs t]
    rfl
theorem shaped_3 {xs ys : List Str} {i : Int} (h1 : ∀ x ∈ xs, PyData.strOk x = true) (h2 : ∀ x ∈ ys, PyData.strOk x = true) : SeqAt.shaped (.tuple [.tuple (xs.map PyData.str), .tuple (ys.map PyData.str), .int i]) = true := by
  have c1 := SeqAt.canLay_of_shaped (shaped_tstrs h1)
  have c2 := SeqAt.canLay_of_shaped (shaped_tstrs h2)
  unfold SeqAt.shaped
  show (((PyData.tuple (xs.map PyData.str)).canLay0 && ((PyData.tuple (ys.map PyData.str)).canLay0 && true)) && decide (max (PyData.depthAll (xs.map PyData.str) + 1) (max (PyData.depthAll (ys.map PyData.str) + 1) (max 0 0)) + 1 ≤ 64)) = true
  rw [c1, c2, dep_strs, dep_strs]
  rfl
theorem count_split {x y : Str} (h : (Txt.split x y).length = 2) : Txt.count x y = 1 := by
  unfold Txt.split at h
  split at h
  · cases h
  · split at h
    · cases h
    · rw [length_partsBetween] at h
      unfold Txt.count
      omega
theorem slash_split {a b : Str} (ha : isName a = true) (hb : isName b = true) : Txt.split (a ++ ("/" : Str) ++ b) "/" = [a, b] := by
  have e : a ++ ("/" : Str) ++ b = Txt.join "/" [a, b] := by rw [TL.join_eq]; rfl
  rw [e]
  refine TL.split_join (s := 47) (S := []) (by decide +kernel) (by decide +kernel) (List.cons_ne_nil _ _) fun p hp => ?_
  simp only [List.mem_cons, List.not_mem_nil, or_false] at hp
  rcases hp with rfl | rfl
  · exact letter_no ha (by decide +kernel)
  · exact letter_no hb (by decide +kernel)
theorem try_last (t : Tr) (h1 : 1 ≤ t.tm) (h2 : t.tm ≤ 4) : ∃ d, Option.map PyData.list (PV.dat.dats (cutP ((tryRest t).map PV.str) (some (-1)) none)) = some d ∧ SeqAt.shaped d = true ∧ d.eqv (.list [.str "expected"]) = t.ex ∧ ((((tryRest t).map PV.str).length : Nat) : Int) = 5 + if t.ex = true then 1 else 0 := by
  unfold tryRest
  cases t.ex with
  | true => exact ⟨.list [.str "expected"], rfl, by decide +kernel, by decide +kernel, rfl⟩
  | false =>
    refine ⟨.list [.str (toString t.tm)], rfl, ?_, ?_, rfl⟩
    · rcases num_at h1 h2 with e | e | e | e <;> rw [e] <;> decide +kernel
    · rcases num_at h1 h2 with e | e | e | e <;> rw [e] <;> decide +kernel
def ac_needin : AC := fun avs A k => ∃ n, avs = [.pv (.lst ((needRest n).map PV.str))] ∧ A = [] ∧ NdOk n ∧ k (.pv (pNd n)) []
def ac_tryin : AC := fun avs A k => ∃ t, avs = [.pv (.lst ((tryRest t).map PV.str))] ∧ A = [] ∧ TtOk t ∧ k (.pv (pTr t)) []
section
variable {P : Program} {w : World} {K : PySem.W.Frag} {mg : Str → Option Value} {base : Heap} {f : Addr} {fd : FuncData}
theorem sc_need_in : FnScope ["words", "others", "ways"] ["words"] (defScope s_need_in) := ⟨rfl, rfl, rfl, by decide +kernel, rfl, by decide +kernel, by decide +kernel⟩
theorem fn_needin (F : FnP K "need_in" "need_in" s_need_in f fd) (T : Top K mg) (c_name : C8.Cal P w K mg base 1 "is_name" sp_is_name []) (c_nin : C8.Cal P w K mg base 2 "names_in" (spA K ac_nin) []) (c_num : C8.Cal P w K mg base 1 "number_in" (spA K ac_num) []) : FnOk P w K mg base CX0 3 f fd (["words"] : List Str) (spA K ac_needin) := by
  refine fnA (n0 := 0) F sc_need_in (fun avs A Kc ⟨n, e, eA, _⟩ => ⟨by rw [e]; rfl, by rw [eA]; rfl⟩) (fun cdv A outer s H E hr => ⟨_, (pss_cons (ps_if (PW.pt (pw_or (pt_cmpR op_ne (pe_callB (call_len_seq) (by rfl) T.z_len PySem.boot_len (pa_cons (pv 0) pa_nil (star_Name _ _))) pe_int (nomark _)) (pw_or (pt_not (pt_val (C8.pe_c c_name hr (by first | decide | omega) rfl (pa_cons (pe_ix ix_list (pv 0) pe_int (fun _ _ => rfl)) pa_nil (star_Subscript _ _ _)) (he := (star_Subscript _ _ _))))) (pw_or1 (pt_cmpR (op_notInK (K := K) rfl) (pe_ix ix_list (pv 0) pe_int (fun _ _ => rfl)) (C8.pe_gc rfl T.c_SCOPES) rfl))))) (pss_one (ps_ret pe_non)) pss_nil) (pss_cons (ps_par (i := 1) (j := 2) (by rfl) sc_need_in.nd rfl rfl (by decide) rfl rfl (pa_cons (C8.pe_c c_nin hr (by first | decide | omega) rfl (pa_cons (pe_ix ix_list (pv 0) pe_int (fun _ _ => rfl)) pa_nil (star_Subscript _ _ _)) (he := (star_Subscript _ _ _))) (pa_cons (C8.pe_c c_num hr (by first | decide | omega) rfl (pa_cons (pe_ix ix_list (pv 0) pe_int (fun _ _ => rfl)) (pa_cons (C8.pe_gc rfl T.c_MOST_WAYS) pa_nil (star_Name _ _)) (star_Subscript _ _ _)) (he := (star_Subscript _ _ _))) pa_nil (star_Call _ _ _ _)) (star_Call _ _ _ _)) (by rfl)) (pss_one (ps_ret (pe_ifExp (PW.pt (pw_or (pt_cmpR op_isN (pv 1) pe_non (nomark _)) (pw_or1 (pt_cmpR op_isN (pv 2) pe_non (nomark _))))) pe_non (pe_tup (pa_cons (pe_ix ix_list (pv 0) pe_int (fun _ _ => rfl)) (pa_cons (pe_ix ix_list (pv 0) pe_int (fun _ _ => rfl)) (pa_cons (pv 1) (pa_cons (pv 2) pa_nil (star_Name _ _)) (star_Name _ _)) (star_Subscript _ _ _)) (star_Subscript _ _ _)))))))),
  (sim_seq (sim_ifS (sim_or (sim_test (sim_op (sim_call1 sim_var uns_len) sim_c ops_ne)) (sim_or (sim_not (sim_B (sim_call0 le_is_name (sim_cons (sim_op sim_var sim_c ops_ixL) sim_nil)))) (sim_test (sim_op (sim_op sim_var sim_c ops_ixL) (sim_cp (p := .tup [.str "run", .str "house", .str "group", .str "try"]) (fun G => ⟨_, _, rfl, T.t_SCOPES G, .cons rfl (.cons rfl (.cons rfl (.cons rfl .nil)))⟩)) ops_in)))) (sim_ret sim_c) sim_next) (sim_seq (sim_par (sim_cons (sim_call0 (SpLe.refl _) (sim_cons (sim_op sim_var sim_c ops_ixL) sim_nil)) (sim_cons (sim_call0 (SpLe.refl _) (sim_cons (sim_op sim_var sim_c ops_ixL) (sim_cons sim_c sim_nil))) sim_nil))) (sim_ret (sim_if (sim_or (sim_test (sim_op sim_var sim_c ops_isN)) (sim_test (sim_op sim_var sim_c ops_isN))) sim_c (sim_tup (sim_cons (sim_op sim_var sim_c ops_ixL) (sim_cons (sim_op sim_var sim_c ops_ixL) (sim_cons sim_var (sim_cons sim_var sim_nil)))))))))⟩) ?_
  rintro avs A Kc ⟨n, rfl, rfl, ok, hK⟩
  have k1 := name_len ok.nm
  simp only [aDisp, aPairs, fMulS, fSub, aIsi, aIsiT, tyOf, vty, PV.ty, aCall0D, aJoin, aSeq, aIfS, aTest, aOp, aVar, aC, aCp, aRet, aRetN, aRetZ, aDrop, aNext, aBreak, aCont, aAsg, aAsgN, aGTup, aGCons, aGNil, aName, aUn, aUnN, aOpN, aFz, aTup, aLst, aIList, aIListP, aITup, aIEnum, aIEnumT, aIRng, aIStr, aYes, aCall0, aCall0N, aCall1, aMeth0, aMeth1, aMake, aCons, aNil, aWipe, aNotV, aAndV, aOrV, aIf, aAnd, aOr, aNot, aChain, aDGet, aDIn, aDPut, aApp, aAug, aPar, aSFld, aSFldN, aFld, aFldF, aSlT, aSlL, aRevL, aPO, aPO0, aBook, fIsN, fNotN, fEq, fNe, fI0, fI, fAddS, fAny, fAll, fIxL, fIxT, fIxS, fIn, fSign, fLen, fLenS, fList, fTuple, fInt, fMax2, fCat, fRep, fCatT, fEqD, fNeD, startA, aEnd, viewT, viewL, viewS, viewF, viewD, pvs, aoAt, aoSub, aoSet, aoPut, foPut, putFo, AO.fz, AO.fz.fzs, PV.isNon, AV.clsAt, keyOf, vdat, PV.dat, PV.dat.dats, viewDat, numP, List.getElem?_cons_zero, List.getElem?_cons_succ, List.getElem?_nil, List.set_cons_zero, List.set_cons_succ, List.map_cons, List.map_nil, List.cons_append, List.nil_append, List.append_nil, List.replicate_succ, List.replicate_zero, List.length_cons, List.length_nil, List.take_zero, List.take_succ_cons, List.take_nil, Nat.reduceAdd, Nat.reduceSub, Nat.reduceLT, Nat.reduceLeDiff, if_true, if_false, reduceIte, Option.map_some, Option.map_none, Option.bind_some, Option.bind_none, Bool.false_eq_true, Bool.not_true, Bool.not_false, List.lookup_cons, List.lookup_nil, Option.some.injEq, exists_eq_left', exists_eq_left, exists_and_left, AO.ins.injEq, AO.lst.injEq, AO.dK.injEq, Nat.zero_add, ite_true, ite_false, List.cons.injEq, AV.pv.injEq, PV.v.injEq, AV.loc.injEq, and_self, bools_map, decide_true, decide_false, true_and, and_true, decide_eq_true_eq, V.str.injEq, V.int.injEq, V.bl.injEq, scalS, scalI, scalB, inV_s, vals_s, vals_s', flat_s, flat_1, inV_b, vals_b, flat_b, pstrs_s, reduceCtorEq, ofS_beq, ofS_eq, String.reduceBEq, String.reduceEq, aPar]
  rw [if_neg (by rw [List.length_map, decide_eq_true (show ((needRest n).length : Int) = 4 from rfl)]; decide)]
  refine ⟨.str n.nm, atI_zero, nm_step ok.nm (go_on ?_)⟩
  refine ⟨.str n.sc, atI_1, scopes4.map V.str, vals_s' scopes4, rfl, flat_s scopes4, ?_⟩
  rw [inV_s, decide_eq_true ok.sc, if_neg (by decide)]
  refine ⟨.str (namesTold n.ot), atI_2, n.ot, rfl, rfl, ok.ot, ?_⟩
  refine ⟨.str (toString n.ws), atI_3, n.ws, rfl, rfl, ok.lo, ok.hi, ?_⟩
  refine ⟨_, rfl, ?_⟩
  rw [if_neg (by decide)]
  refine ⟨_, rfl, ?_⟩
  rw [if_neg (by rw [decide_eq_true_iff]; intro z; cases z)]
  exact ⟨.str n.nm, atI_zero, .str n.sc, atI_1, hK⟩
theorem sc_try_in : FnScope ["words", "is_expected", "house", "group", "others", "marks", "times"] ["words"] (defScope s_try_in) := ⟨rfl, rfl, rfl, by decide +kernel, rfl, by decide +kernel, by decide +kernel⟩
theorem fn_tryin (F : FnP K "try_in" "try_in" s_try_in f fd) (T : Top K mg) (c_name : C8.Cal P w K mg base 1 "is_name" sp_is_name []) (c_nin : C8.Cal P w K mg base 2 "names_in" (spA K ac_nin) []) (c_num : C8.Cal P w K mg base 1 "number_in" (spA K ac_num) []) : FnOk P w K mg base CX0 3 f fd (["words"] : List Str) (spA K ac_tryin) := by
  refine fnA (n0 := 0) F sc_try_in (fun avs A Kc ⟨n, e, eA, _⟩ => ⟨by rw [e]; rfl, by rw [eA]; rfl⟩) (fun cdv A outer s H E hr => ⟨_, (pss_cons (ps_set (i := 1) sc_try_in.nd rfl (Or.inl rfl) (pe_cmpR (op_eqD hr.units) (pe_slice sl_list (pv 0) (po_some (pe_un un_neg pe_int)) po_none) (pe_lst (pa_cons pe_str pa_nil (star_Constant _ _ _))) (nomark _))) (pss_cons (ps_if (PW.pt (pw_or (pt_cmpR op_ne (pe_callB (call_len_seq) (by rfl) T.z_len PySem.boot_len (pa_cons (pv 0) pa_nil (star_Name _ _))) (pe_op op_add pe_int (pe_callTy (call_int1) (by rfl) T.z_int (by decide +kernel) (pa_cons (pv 1) pa_nil (star_Name _ _)))) (nomark _)) (pw_or (pt_not (pt_val (C8.pe_c c_name hr (by first | decide | omega) rfl (pa_cons (pe_ix ix_list (pv 0) pe_int (fun _ _ => rfl)) pa_nil (star_Subscript _ _ _)) (he := (star_Subscript _ _ _))))) (pw_or1 (pt_cmpR op_ne (pe_bm PySem.F.plainAttrs_str PySem.F.slot_str_count PySem.F.type_str_count (mt_count) (pe_ix ix_list (pv 0) pe_int (fun _ _ => rfl)) (pa_cons pe_str pa_nil (star_Constant _ _ _))) pe_int (nomark _)))))) (pss_one (ps_ret pe_non)) pss_nil) (pss_cons (ps_asg (pe_split (pe_ix ix_list (pv 0) pe_int (fun _ _ => rfl)) pe_str) (pg_unl rfl (pgs_cons (pg_name (i := 2) sc_try_in.nd rfl (Or.inl rfl)) (pgs_cons (pg_name (i := 3) sc_try_in.nd rfl (Or.inl rfl)) pgs_nil)))) (pss_cons (ps_par3 (i := 4) (j := 5) (l := 6) (by rfl) sc_try_in.nd rfl rfl rfl (by decide) (by decide) (by decide) rfl rfl rfl (pa_cons (C8.pe_c c_nin hr (by first | decide | omega) rfl (pa_cons (pe_ix ix_list (pv 0) pe_int (fun _ _ => rfl)) pa_nil (star_Subscript _ _ _)) (he := (star_Subscript _ _ _))) (pa_cons (C8.pe_c c_nin hr (by first | decide | omega) rfl (pa_cons (pe_ix ix_list (pv 0) pe_int (fun _ _ => rfl)) pa_nil (star_Subscript _ _ _)) (he := (star_Subscript _ _ _))) (pa_cons (C8.pe_c c_num hr (by first | decide | omega) rfl (pa_cons (pe_ix ix_list (pv 0) pe_int (fun _ _ => rfl)) (pa_cons (C8.pe_gc rfl T.c_MOST_TIMES) pa_nil (star_Name _ _)) (star_Subscript _ _ _)) (he := (star_Subscript _ _ _))) pa_nil (star_Call _ _ _ _)) (star_Call _ _ _ _)) (star_Call _ _ _ _)) (by rfl)) (pss_cons (ps_if (PW.pt (pw_or (pt_not (pt_val (C8.pe_c c_name hr (by first | decide | omega) rfl (pa_cons (pv 2) pa_nil (star_Name _ _)) (he := (star_Name _ _))))) (pw_or (pt_not (pt_val (C8.pe_c c_name hr (by first | decide | omega) rfl (pa_cons (pv 3) pa_nil (star_Name _ _)) (he := (star_Name _ _))))) (pw_or1 (pt_cmpR (op_inTD (by have := hr.un; simp only [cxOf, Cx.nox]; omega)) pe_non (pe_tup (pa_cons (pv 4) (pa_cons (pv 5) (pa_cons (pv 6) pa_nil (star_Name _ _)) (star_Name _ _)) (star_Name _ _))) rfl))))) (pss_one (ps_ret pe_non)) pss_nil) (pss_one (ps_ret (pe_tup (pa_cons (pe_ix ix_list (pv 0) pe_int (fun _ _ => rfl)) (pa_cons (pv 2) (pa_cons (pv 3) (pa_cons (pv 4) (pa_cons (pv 5) (pa_cons (pv 6) (pa_cons (pv 1) pa_nil (star_Name _ _)) (star_Name _ _)) (star_Name _ _)) (star_Name _ _)) (star_Name _ _)) (star_Name _ _)) (star_Subscript _ _ _)))))))))),
  (sim_seq (sim_asg (sim_op (sim_fz (sim_slL sim_var (sim_po (sim_un sim_c uns_neg)) sim_po0)) (sim_fz (sim_lst (sim_cons sim_c sim_nil))) ops_eqD) (sim_gname (vs := [0, 1, 2, 3, 4, 5, 6]))) (sim_seq (sim_ifS (sim_or (sim_test (sim_op (sim_call1 sim_var uns_len) (sim_op sim_c (sim_call1 sim_var uns_int) ops_I0) ops_ne)) (sim_or (sim_not (sim_B (sim_call0 le_is_name (sim_cons (sim_op sim_var sim_c ops_ixL) sim_nil)))) (sim_test (sim_op (sim_count (sim_op sim_var sim_c ops_ixL) sim_c) sim_c ops_ne)))) (sim_ret sim_c) sim_next) (sim_seq (sim_asg (sim_fz (sim_split (sim_op sim_var sim_c ops_ixL) sim_c)) (sim_gunl (n := 2) (sim_gcons (sim_gname (vs := [0, 1, 2, 3, 4, 5, 6])) (sim_gcons (sim_gname (vs := [0, 1, 2, 3, 4, 5, 6])) sim_gnil)))) (sim_seq (sim_par3 (sim_cons (sim_call0 (SpLe.refl _) (sim_cons (sim_op sim_var sim_c ops_ixL) sim_nil)) (sim_cons (sim_call0 (SpLe.refl _) (sim_cons (sim_op sim_var sim_c ops_ixL) sim_nil)) (sim_cons (sim_call0 (SpLe.refl _) (sim_cons (sim_op sim_var sim_c ops_ixL) (sim_cons sim_c sim_nil))) sim_nil)))) (sim_seq (sim_ifS (sim_or (sim_not (sim_B (sim_call0 le_is_name (sim_cons sim_var sim_nil)))) (sim_or (sim_not (sim_B (sim_call0 le_is_name (sim_cons sim_var sim_nil)))) (sim_test (sim_op sim_c (sim_tup (sim_cons sim_var (sim_cons sim_var (sim_cons sim_var sim_nil)))) ops_inTD)))) (sim_ret sim_c) sim_next) (sim_ret (sim_tup (sim_cons (sim_op sim_var sim_c ops_ixL) (sim_cons sim_var (sim_cons sim_var (sim_cons sim_var (sim_cons sim_var (sim_cons sim_var (sim_cons sim_var sim_nil))))))))))))))⟩) ?_
  rintro avs A Kc ⟨t, rfl, rfl, ok, hK⟩
  have k2 := slash_len ok
  have sp := slash_split ok.hs ok.gp
  obtain ⟨d, d1, d2, d3, d4⟩ := try_last t ok.lo ok.hi
  simp only [aDisp, aPairs, fMulS, fSub, aIsi, aIsiT, tyOf, vty, PV.ty, aCall0D, aJoin, aSeq, aIfS, aTest, aOp, aVar, aC, aCp, aRet, aRetN, aRetZ, aDrop, aNext, aBreak, aCont, aAsg, aAsgN, aGTup, aGCons, aGNil, aName, aUn, aUnN, aOpN, aFz, aTup, aLst, aIList, aIListP, aITup, aIEnum, aIEnumT, aIRng, aIStr, aYes, aCall0, aCall0N, aCall1, aMeth0, aMeth1, aMake, aCons, aNil, aWipe, aNotV, aAndV, aOrV, aIf, aAnd, aOr, aNot, aChain, aDGet, aDIn, aDPut, aApp, aAug, aPar, aSFld, aSFldN, aFld, aFldF, aSlT, aSlL, aRevL, aPO, aPO0, aBook, fIsN, fNotN, fEq, fNe, fI0, fI, fAddS, fAny, fAll, fIxL, fIxT, fIxS, fIn, fSign, fLen, fLenS, fList, fTuple, fInt, fMax2, fCat, fRep, fCatT, fEqD, fNeD, startA, aEnd, viewT, viewL, viewS, viewF, viewD, pvs, aoAt, aoSub, aoSet, aoPut, foPut, putFo, AO.fz, AO.fz.fzs, PV.isNon, AV.clsAt, keyOf, vdat, PV.dat, PV.dat.dats, viewDat, numP, List.getElem?_cons_zero, List.getElem?_cons_succ, List.getElem?_nil, List.set_cons_zero, List.set_cons_succ, List.map_cons, List.map_nil, List.cons_append, List.nil_append, List.append_nil, List.replicate_succ, List.replicate_zero, List.length_cons, List.length_nil, List.take_zero, List.take_succ_cons, List.take_nil, Nat.reduceAdd, Nat.reduceSub, Nat.reduceLT, Nat.reduceLeDiff, if_true, if_false, reduceIte, Option.map_some, Option.map_none, Option.bind_some, Option.bind_none, Bool.false_eq_true, Bool.not_true, Bool.not_false, List.lookup_cons, List.lookup_nil, Option.some.injEq, exists_eq_left', exists_eq_left, exists_and_left, AO.ins.injEq, AO.lst.injEq, AO.dK.injEq, Nat.zero_add, ite_true, ite_false, List.cons.injEq, AV.pv.injEq, PV.v.injEq, AV.loc.injEq, and_self, bools_map, decide_true, decide_false, true_and, and_true, decide_eq_true_eq, V.str.injEq, V.int.injEq, V.bl.injEq, scalS, scalI, scalB, inV_s, vals_s, vals_s', flat_s, flat_1, inV_b, vals_b, flat_b, pstrs_s, reduceCtorEq, ofS_beq, ofS_eq, String.reduceBEq, String.reduceEq, aPar, aPar3, aSplit, aCount, fInTD, aGUnl, fNeg]
  refine ⟨d, d1, d2, by decide +kernel, ?_⟩
  rw [d3, if_neg (by rw [decide_eq_true d4]; decide)]
  refine ⟨.str t.nm, atI_nat (i := 0) rfl, nm_step ok.nm (go_on ?_)⟩
  refine ⟨.str (t.hs ++ ("/" : Str) ++ t.gp), atI_nat (i := 1) rfl, ?_⟩
  dsimp only
  rw [if_neg (by rw [count_split (by rw [sp]; rfl)]; decide)]
  refine ⟨.str (t.hs ++ ("/" : Str) ++ t.gp), atI_nat (i := 1) rfl, ?_⟩
  dsimp only
  rw [sp]
  refine ⟨by decide +kernel, sz_ok (by omega), rfl, ?_⟩
  refine ⟨.str (namesTold t.nd), atI_nat (i := 2) rfl, t.nd, rfl, rfl, ok.nd, ?_⟩
  refine ⟨.str (namesTold t.ms), atI_nat (i := 3) rfl, t.ms, rfl, rfl, ok.ms, ?_⟩
  refine ⟨.str (toString t.tm), atI_nat (i := 4) rfl, t.tm, rfl, rfl, ok.lo, ok.hi, ?_⟩
  refine nm_step ok.hs (go_on (nm_step ok.gp (go_on ?_)))
  refine ⟨[.tuple (t.nd.map PyData.str), .tuple (t.ms.map PyData.str), .int t.tm], by rw [dat_strs, dat_strs]; rfl, by decide +kernel, shaped_3 (fun x h => letters_ok (ok.nd.nm x h)) (fun x h => letters_ok (ok.ms.nm x h)), ?_⟩
  rw [if_neg (by intro z; cases z)]
  exact ⟨.str t.nm, atI_nat (i := 0) rfl, hK⟩
end

end TH
namespace TH
open PySem PySem.Spec PyProof.Rows L2
variable [TC : TabC]
/-! ### read -/
theorem joinL_mem {c : Nat} {S : List Nat} : ∀ {ps : List (List Nat)}, c ∈ TL.joinL S ps → c ∈ S ∨ ∃ p ∈ ps, c ∈ p
  | [], h => nomatch h
  | [p], h => .inr ⟨p, List.mem_cons_self, h⟩
  | p :: q :: r, h => by
    have h : c ∈ p ++ (S ++ TL.joinL S (q :: r)) := h
    rcases List.mem_append.mp h with h | h
    · exact .inr ⟨p, List.mem_cons_self, h⟩
    · rcases List.mem_append.mp h with h | h
      · exact .inl h
      · rcases joinL_mem h with h | ⟨u, hu, h⟩
        · exact .inl h
        · exact .inr ⟨u, List.mem_cons_of_mem _ hu, h⟩
theorem join_no {c : Nat} {y : Str} {xs : List Str} (h1 : c ∉ TL.tl y) (h2 : ∀ x ∈ xs, c ∉ TL.tl x) : c ∉ TL.tl (Txt.join y xs) := fun z => by
  rw [TL.join_eq, TL.tl_join] at z
  rcases joinL_mem z with z | ⟨p, hp, z⟩
  · exact h1 z
  · obtain ⟨x, hx, rfl⟩ := List.mem_map.mp hp
    exact h2 x hx z
theorem told_no {c : Nat} {xs : List Str} (h : NmOk xs) (h1 : c ∉ letters.cps.toList) (h2 : c ≠ 44) (h3 : c ≠ 45) : c ∉ TL.tl (namesTold xs) := by
  unfold namesTold
  split
  · intro z
    have z : c ∈ [45] := z
    exact h3 (List.mem_singleton.mp z)
  · exact join_no (fun z => h2 (List.mem_singleton.mp (show c ∈ [44] from z))) fun x hx => letter_no (h.nm x hx) h1
theorem num_no {c : Nat} {i : Int} (h1 : 1 ≤ i) (h2 : i ≤ 4) (hc : c = 10 ∨ c = 32) : c ∉ TL.tl (Str.ofString (toString i)) := by
  rcases num_at h1 h2 with rfl | rfl | rfl | rfl <;> rcases hc with rfl | rfl <;> decide +kernel
theorem scope_no {x : Str} (h : x ∈ scopes4) {c : Nat} (hc : c = 10 ∨ c = 32) : c ∉ TL.tl x := by
  have h := List.all_eq_true.mp (show (scopes4.all fun x => decide (10 ∉ TL.tl x) && decide (32 ∉ TL.tl x)) = true by decide +kernel) x h
  rw [Bool.and_eq_true, decide_eq_true_iff, decide_eq_true_iff] at h
  rcases hc with rfl | rfl
  · exact h.1
  · exact h.2
theorem sep_no {c : Nat} (hc : c = 10 ∨ c = 32) : c ∉ letters.cps.toList ∧ c ≠ 44 ∧ c ≠ 45 ∧ c ≠ 47 := by
  rcases hc with rfl | rfl <;> decide +kernel
theorem needw_no {n : Nd} (h : NdOk n) {c : Nat} (hc : c = 10 ∨ c = 32) : ∀ x ∈ needWords n, c ∉ TL.tl x := fun x hx => by
  obtain ⟨s1, s2, s3, _⟩ := sep_no hc
  unfold needWords at hx
  simp only [List.mem_cons, List.not_mem_nil, or_false] at hx
  rcases hx with rfl | rfl | rfl | rfl | rfl
  · rcases hc with rfl | rfl <;> decide +kernel
  · exact letter_no h.nm s1
  · exact scope_no h.sc hc
  · exact told_no h.ot s1 s2 s3
  · exact num_no h.lo h.hi hc
theorem tryw_no {t : Tr} (h : TtOk t) {c : Nat} (hc : c = 10 ∨ c = 32) : ∀ x ∈ tryWords t, c ∉ TL.tl x := fun x hx => by
  obtain ⟨s1, s2, s3, s4⟩ := sep_no hc
  unfold tryWords at hx
  rcases List.mem_append.mp hx with hx | hx
  · simp only [List.mem_cons, List.not_mem_nil, or_false] at hx
    rcases hx with rfl | rfl | rfl | rfl | rfl | rfl
    · rcases hc with rfl | rfl <;> decide +kernel
    · exact letter_no h.nm s1
    · rw [TL.tl_append, TL.tl_append]
      intro z
      rcases List.mem_append.mp z with z | z
      · rcases List.mem_append.mp z with z | z
        · exact letter_no h.hs s1 z
        · exact s4 (List.mem_singleton.mp (show c ∈ [47] from z))
      · exact letter_no h.gp s1 z
    · exact told_no h.nd s1 s2 s3
    · exact told_no h.ms s1 s2 s3
    · exact num_no h.lo h.hi hc
  · rw [List.eq_of_mem_replicate hx]
    rcases hc with rfl | rfl <;> decide +kernel
theorem need_split {n : Nd} (h : NdOk n) : Txt.split (needText n) " " = needWords n :=
  TL.split_join (s := 32) (S := []) (by decide +kernel) (by decide +kernel) (List.cons_ne_nil _ _) (needw_no h (.inr rfl))
theorem tryw_ne (t : Tr) : tryWords t ≠ [] := by
  unfold tryWords
  exact List.cons_ne_nil _ _
theorem try_split {t : Tr} (h : TtOk t) : Txt.split (tryText t) " " = tryWords t :=
  TL.split_join (s := 32) (S := []) (by decide +kernel) (by decide +kernel) (tryw_ne t) (tryw_no h (.inr rfl))
theorem lines_no {ns : List Nd} {ts : List Tr} (b : BtOk ns ts) : ∀ x ∈ bookLines ns ts, 10 ∉ TL.tl x := fun x hx => by
  rcases List.mem_append.mp hx with h | h
  · obtain ⟨n, hn, rfl⟩ := List.mem_map.mp h
    exact join_no (by decide +kernel) (needw_no (b.nd n hn) (.inl rfl))
  · obtain ⟨t, ht, rfl⟩ := List.mem_map.mp h
    exact join_no (by decide +kernel) (tryw_no (b.tr t ht) (.inl rfl))
theorem text_split {ns : List Nd} {ts : List Tr} (b : BtOk ns ts) (h : bookLines ns ts ≠ []) : Txt.split (bookText ns ts) "\n" = bookLines ns ts :=
  TL.split_join (s := 10) (S := []) (by decide +kernel) (by decide +kernel) h (lines_no b)
theorem joinL_ne {S : List Nat} : ∀ {ps : List (List Nat)}, ps ≠ [] → (∀ p ∈ ps, p ≠ []) → TL.joinL S ps ≠ []
  | [], h, _ => absurd rfl h
  | [p], _, h => h p List.mem_cons_self
  | p :: q :: r, _, h => fun z => h p List.mem_cons_self (List.append_eq_nil_iff.mp (show p ++ (S ++ TL.joinL S (q :: r)) = [] from z)).1
theorem line_ne {ns : List Nd} {ts : List Tr} : ∀ x ∈ bookLines ns ts, TL.tl x ≠ [] := fun x hx => by
  have key : ∀ (w : Str) (ws : List Str), TL.tl w ≠ [] → TL.tl (Txt.join " " (w :: ws)) ≠ [] := fun w ws h => by
    rw [TL.join_eq, TL.tl_join]
    cases ws with
    | nil => exact h
    | cons y u => exact fun z => h (List.append_eq_nil_iff.mp (show TL.tl w ++ _ = [] from z)).1
  rcases List.mem_append.mp hx with h | h
  · obtain ⟨n, hn, rfl⟩ := List.mem_map.mp h
    exact key _ _ (by decide +kernel)
  · obtain ⟨t, ht, rfl⟩ := List.mem_map.mp h
    unfold tryText tryWords
    exact key _ _ (by decide +kernel)
theorem text_ne {ns : List Nd} {ts : List Tr} (h : bookLines ns ts ≠ []) : bookText ns ts ≠ "" := fun z => by
  have e : TL.tl (bookText ns ts) = [] := by rw [z]; decide +kernel
  unfold bookText at e
  rw [TL.join_eq, TL.tl_join] at e
  refine joinL_ne (fun q => h (List.map_eq_nil_iff.mp q)) (fun p hp => ?_) e
  obtain ⟨x, hx, rfl⟩ := List.mem_map.mp hp
  exact line_ne x hx
theorem text_nil {ns : List Nd} {ts : List Tr} (h : bookLines ns ts = []) : bookText ns ts = "" := by
  have : bookText ns ts = Txt.join "\n" (bookLines ns ts) := rfl
  rw [this, h]
  decide +kernel
theorem text_len {ns : List Nd} {ts : List Tr} (b : BtOk ns ts) : (bookText ns ts).length ≤ 16777216 := Nat.le_trans (join_len _ _) (lines_small b)
theorem numP_at : ∀ (xs : List PV) (i j : Nat), (numP i xs)[j]? = (xs[j]?).map fun x => PV.tup [.int ((i + j : Nat) : Int), x]
  | [], _, _ => rfl
  | _ :: _, i, 0 => rfl
  | _ :: t, i, j + 1 => by
    have h := numP_at t (i + 1) j
    rw [show i + 1 + j = i + (j + 1) by omega] at h
    exact h
def ac_read : AC := fun avs A k => ∃ ns ts, avs = [.pv (.str (bookText ns ts))] ∧ A = [] ∧ BtOk ns ts ∧ k (.pv (pRows ns ts)) []
section
variable {P : Program} {w : World} {K : PySem.W.Frag} {mg : Str → Option Value} {base : Heap} {f : Addr} {fd : FuncData}
theorem sc_read : FnScope ["text", "needs", "tries", "place", "line", "first", "rest", "row", "rows"] ["text"] (defScope s_read) := ⟨rfl, rfl, rfl, by decide +kernel, rfl, by decide +kernel, by decide +kernel⟩
theorem fn_read {C : Addr} (F : FnP K "read" "read" s_read f fd) (T : Top K mg) (c_Book : C8.Mak P w K mg base 4 "Book" C (sp_init K C) []) (c_needin : C8.Cal P w K mg base 3 "need_in" (spA K ac_needin) []) (c_tryin : C8.Cal P w K mg base 3 "try_in" (spA K ac_tryin) []) : FnOk P w K mg base CX0 6 f fd (["text"] : List Str) (spA K ac_read) := by
  refine fnA (n0 := 0) F sc_read (fun avs A Kc ⟨ns, ts, e, eA, _⟩ => ⟨by rw [e]; rfl, by rw [eA]; rfl⟩) (fun cdv A outer s H E hr => ⟨_, (pss_cons (ps_par (i := 1) (j := 2) (by rfl) sc_read.nd rfl rfl (by decide) rfl rfl (pa_cons (pe_lst pa_nil) (pa_cons (pe_lst pa_nil) pa_nil (star_List _ _)) (star_List _ _)) (by rfl)) (pss_cons (ps_for PassesOwn.never rfl (pi_enum rfl T.z_enumerate (pa_cons (pe_ifExp (pt_cmpR op_ne (pv 0) pe_str (nomark _)) (pe_split (pv 0) pe_str) (pe_lst pa_nil)) pa_nil (star_IfExp _ _ _ _))) (pg_tup rfl (pgs_cons (pg_name (i := 3) sc_read.nd rfl (Or.inl rfl)) (pgs_cons (pg_name (i := 4) sc_read.nd rfl (Or.inl rfl)) pgs_nil))) (pss_cons (ps_asg (pe_split (pv 4) pe_str) (pg_star rfl (pgs_cons (pg_name (i := 5) sc_read.nd rfl (Or.inl rfl)) (pgs_cons (pg_name (i := 6) sc_read.nd rfl (Or.inl rfl)) pgs_nil)))) (pss_cons (ps_set (i := 7) sc_read.nd rfl (Or.inl rfl) (pe_ifExp (PW.pt (pw_and (pt_cmpR op_eq (pv 5) pe_str (nomark _)) (pw_and1 (pt_cmpR (op_eqD hr.units) (pv 2) (pe_lst pa_nil) (nomark _))))) (C8.pe_c c_needin hr (by first | decide | omega) rfl (pa_cons (pv 6) pa_nil (star_Name _ _)) (he := (star_Name _ _))) (pe_ifExp (pt_cmpR op_eq (pv 5) pe_str (nomark _)) (C8.pe_c c_tryin hr (by first | decide | omega) rfl (pa_cons (pv 6) pa_nil (star_Name _ _)) (he := (star_Name _ _))) pe_non))) (pss_cons (ps_if (pt_cmpR op_isN (pv 7) pe_non (nomark _)) (pss_one ps_never) pss_nil) (pss_one (ps_if (pt_cmpR op_eq (pv 5) pe_str (nomark _)) (pss_one (ps_expr (pe_bm PySem.F.plainAttrs_list PySem.F.slot_list_append PySem.F.type_list_append (mt_append) (pv 1) (pa_cons (pv 7) pa_nil (star_Name _ _))))) (pss_one (ps_expr (pe_bm PySem.F.plainAttrs_list PySem.F.slot_list_append PySem.F.type_list_append (mt_append) (pv 2) (pa_cons (pv 7) pa_nil (star_Name _ _))))))))))) (pss_cons (ps_set (i := 8) sc_read.nd rfl (Or.inl rfl) (pe_tup (pa_cons (pe_callTy (call_tuple_of) (by rfl) T.z_tuple (by decide +kernel) (pa_cons (pv 1) pa_nil (star_Name _ _))) (pa_cons (pe_callTy (call_tuple_of) (by rfl) T.z_tuple (by decide +kernel) (pa_cons (pv 2) pa_nil (star_Name _ _))) pa_nil (star_Call _ _ _ _)) (star_Call _ _ _ _)))) (pss_cons (ps_expr (C8.pe_mk c_Book hr (by first | decide | omega) rfl (pa_cons (pv 8) pa_nil (star_Name _ _)) (he := (star_Name _ _)))) (pss_one (ps_ret (pv 8))))))),
  (sim_seq (sim_parNN (sim_lst sim_nil) (sim_lst sim_nil)) (sim_seq (sim_for (sim_ienum (sim_if (sim_test (sim_op sim_var sim_c ops_ne)) (sim_fz (sim_split sim_var sim_c)) (sim_fz (sim_lst sim_nil)))) (sim_gtup (n := 2) (sim_gcons (sim_gname (vs := [0, 1, 2, 3, 4, 5, 6, 7, 8])) (sim_gcons (sim_gname (vs := [0, 1, 2, 3, 4, 5, 6, 7, 8])) sim_gnil))) (sim_seq (sim_asg (sim_fz (sim_split sim_var sim_c)) (sim_gstar (sim_gcons (sim_gname (vs := [0, 1, 2, 3, 4, 5, 6, 7, 8])) (sim_gcons (sim_gname (vs := [0, 1, 2, 3, 4, 5, 6, 7, 8])) sim_gnil)))) (sim_seq (sim_asg (sim_if (sim_and (sim_test (sim_op sim_var sim_c ops_eq)) (sim_test (sim_op sim_var (sim_fz (sim_lst sim_nil)) ops_eqD))) (sim_call0 (SpLe.refl _) (sim_cons sim_var sim_nil)) (sim_if (sim_test (sim_op sim_var sim_c ops_eq)) (sim_call0 (SpLe.refl _) (sim_cons sim_var sim_nil)) sim_c)) (sim_gname (vs := [0, 1, 2, 3, 4, 5, 6, 7, 8]))) (sim_seq (sim_ifS (sim_test (sim_op sim_var sim_c ops_isN)) sim_never sim_next) (sim_ifS (sim_test (sim_op sim_var sim_c ops_eq)) (sim_drop (sim_app sim_var sim_var)) (sim_drop (sim_app sim_var sim_var))))))) (sim_seq (sim_asg (sim_tup (sim_cons (sim_call1 sim_var uns_tuple) (sim_cons (sim_call1 sim_var uns_tuple) sim_nil))) (sim_gname (vs := [0, 1, 2, 3, 4, 5, 6, 7, 8]))) (sim_seq (sim_drop (sim_book (sim_cons sim_var sim_nil))) (sim_ret sim_var)))))⟩) ?_
  rintro avs A Kc ⟨ns, ts, rfl, rfl, ok, hK⟩
  simp only [aDisp, aPairs, fMulS, fSub, aIsi, aIsiT, tyOf, vty, PV.ty, aCall0D, aJoin, aSeq, aIfS, aTest, aOp, aVar, aC, aCp, aRet, aRetN, aRetZ, aDrop, aNext, aBreak, aCont, aAsg, aAsgN, aGTup, aGCons, aGNil, aName, aUn, aUnN, aOpN, aFz, aTup, aLst, aIList, aIListP, aITup, aIEnum, aIEnumT, aIRng, aIStr, aYes, aCall0, aCall0N, aCall1, aMeth0, aMeth1, aMake, aCons, aNil, aWipe, aNotV, aAndV, aOrV, aIf, aAnd, aOr, aNot, aChain, aDGet, aDIn, aDPut, aApp, aAug, aPar, aSFld, aSFldN, aFld, aFldF, aSlT, aSlL, aRevL, aPO, aPO0, aBook, fIsN, fNotN, fEq, fNe, fI0, fI, fAddS, fAny, fAll, fIxL, fIxT, fIxS, fIn, fSign, fLen, fLenS, fList, fTuple, fInt, fMax2, fCat, fRep, fCatT, fEqD, fNeD, startA, aEnd, viewT, viewL, viewS, viewF, viewD, pvs, aoAt, aoSub, aoSet, aoPut, foPut, putFo, AO.fz, AO.fz.fzs, PV.isNon, AV.clsAt, keyOf, vdat, PV.dat, PV.dat.dats, viewDat, numP, List.getElem?_cons_zero, List.getElem?_cons_succ, List.getElem?_nil, List.set_cons_zero, List.set_cons_succ, List.map_cons, List.map_nil, List.cons_append, List.nil_append, List.append_nil, List.replicate_succ, List.replicate_zero, List.length_cons, List.length_nil, List.take_zero, List.take_succ_cons, List.take_nil, Nat.reduceAdd, Nat.reduceSub, Nat.reduceLT, Nat.reduceLeDiff, if_true, if_false, reduceIte, Option.map_some, Option.map_none, Option.bind_some, Option.bind_none, Bool.false_eq_true, Bool.not_true, Bool.not_false, List.lookup_cons, List.lookup_nil, Option.some.injEq, exists_eq_left', exists_eq_left, exists_and_left, AO.ins.injEq, AO.lst.injEq, AO.dK.injEq, Nat.zero_add, ite_true, ite_false, List.cons.injEq, AV.pv.injEq, PV.v.injEq, AV.loc.injEq, and_self, bools_map, decide_true, decide_false, true_and, and_true, decide_eq_true_eq, V.str.injEq, V.int.injEq, V.bl.injEq, scalS, scalI, scalB, inV_s, vals_s, vals_s', flat_s, flat_1, inV_b, vals_b, flat_b, pstrs_s, reduceCtorEq, ofS_beq, ofS_eq, String.reduceBEq, String.reduceEq, aBook, aFor, aSplit, aGStar, aParNN]
  by_cases hne : bookLines ns ts = []
  · have e1 : ns = [] := List.map_eq_nil_iff.mp (List.append_eq_nil_iff.mp hne).1
    have e2 : ts = [] := List.map_eq_nil_iff.mp (List.append_eq_nil_iff.mp hne).2
    rw [text_nil hne, if_neg (by decide)]
    refine ⟨_, rfl, fun j sa A => ∃ x3 x4 x5 x6 x7 x8, sa = [some (.pv (.str "")), some (.loc 0 []), some (.loc 1 []), x3, x4, x5, x6, x7, x8] ∧ A = [.lst [], .lst []], ⟨_, _, _, _, _, _, rfl, rfl⟩, fun _ _ _ _ => trivial, fun j x sa A hx hI => (by cases hx), fun sa A hI => ?_⟩
    obtain ⟨x3, x4, x5, x6, x7, x8, rfl, rfl⟩ := hI
    simp only [aDisp, aPairs, fMulS, fSub, aIsi, aIsiT, tyOf, vty, PV.ty, aCall0D, aJoin, aSeq, aIfS, aTest, aOp, aVar, aC, aCp, aRet, aRetN, aRetZ, aDrop, aNext, aBreak, aCont, aAsg, aAsgN, aGTup, aGCons, aGNil, aName, aUn, aUnN, aOpN, aFz, aTup, aLst, aIList, aIListP, aITup, aIEnum, aIEnumT, aIRng, aIStr, aYes, aCall0, aCall0N, aCall1, aMeth0, aMeth1, aMake, aCons, aNil, aWipe, aNotV, aAndV, aOrV, aIf, aAnd, aOr, aNot, aChain, aDGet, aDIn, aDPut, aApp, aAug, aPar, aSFld, aSFldN, aFld, aFldF, aSlT, aSlL, aRevL, aPO, aPO0, aBook, fIsN, fNotN, fEq, fNe, fI0, fI, fAddS, fAny, fAll, fIxL, fIxT, fIxS, fIn, fSign, fLen, fLenS, fList, fTuple, fInt, fMax2, fCat, fRep, fCatT, fEqD, fNeD, startA, aEnd, viewT, viewL, viewS, viewF, viewD, pvs, aoAt, aoSub, aoSet, aoPut, foPut, putFo, AO.fz, AO.fz.fzs, PV.isNon, AV.clsAt, keyOf, vdat, PV.dat, PV.dat.dats, viewDat, numP, List.getElem?_cons_zero, List.getElem?_cons_succ, List.getElem?_nil, List.set_cons_zero, List.set_cons_succ, List.map_cons, List.map_nil, List.cons_append, List.nil_append, List.append_nil, List.replicate_succ, List.replicate_zero, List.length_cons, List.length_nil, List.take_zero, List.take_succ_cons, List.take_nil, Nat.reduceAdd, Nat.reduceSub, Nat.reduceLT, Nat.reduceLeDiff, if_true, if_false, reduceIte, Option.map_some, Option.map_none, Option.bind_some, Option.bind_none, Bool.false_eq_true, Bool.not_true, Bool.not_false, List.lookup_cons, List.lookup_nil, Option.some.injEq, exists_eq_left', exists_eq_left, exists_and_left, AO.ins.injEq, AO.lst.injEq, AO.dK.injEq, Nat.zero_add, ite_true, ite_false, List.cons.injEq, AV.pv.injEq, PV.v.injEq, AV.loc.injEq, and_self, bools_map, decide_true, decide_false, true_and, and_true, decide_eq_true_eq, V.str.injEq, V.int.injEq, V.bl.injEq, scalS, scalI, scalB, inV_s, vals_s, vals_s', flat_s, flat_1, inV_b, vals_b, flat_b, pstrs_s, reduceCtorEq, ofS_beq, ofS_eq, String.reduceBEq, String.reduceEq]
    subst e1 e2
    exact ⟨[], [], rfl, ok.bk, hK⟩
  · have hl := lines_small ok
    have htl : (bookText ns ts).length ≤ 300000 := by
      have h1 : (bookText ns ts).length ≤ _ := join_len _ _
      obtain ⟨h2, h3⟩ := lines_len ok
      have h4 := sum_le h2
      have k1 : ("\n" : Str).length = 1 := rfl
      rw [k1] at h1
      have h1 : (bookText ns ts).length ≤ ((bookLines ns ts).map (·.length)).sum + (bookLines ns ts).length * 1 := h1
      omega
    rw [if_pos (by rw [decide_eq_false (text_ne hne)]; rfl), text_split ok hne]
    refine ⟨by decide +kernel, Nat.le_trans (show _ ≤ 300002 by omega) (by decide), _, rfl, fun j sa A => ∃ x3 x4 x5 x6 x7 x8, sa = [some (.pv (.str (bookText ns ts))), some (.loc 0 []), some (.loc 1 []), x3, x4, x5, x6, x7, x8] ∧ A = [.lst ((ns.take j).map pNd), .lst ((ts.take (j - ns.length)).map pTr)], ⟨_, _, _, _, _, _, rfl, by rw [Nat.zero_sub]; rfl⟩, fun _ _ _ _ => trivial, fun j x sa A hx hI => ?_, fun sa A hI => ?_⟩
    · obtain ⟨x3, x4, x5, x6, x7, x8, rfl, rfl⟩ := hI
      rw [numP_at, List.getElem?_map] at hx
      obtain ⟨q, hq, rfl⟩ := Option.map_eq_some_iff.mp hx
      obtain ⟨ln, hln, rfl⟩ := Option.map_eq_some_iff.mp hq
      have l6 := (lines_len ok).1 ln (List.mem_of_getElem? hln)
      by_cases c : j < ns.length
      · unfold bookLines at hln
        rw [List.getElem?_append_left (by rw [List.length_map]; exact c), List.getElem?_map] at hln
        obtain ⟨n, hn, rfl⟩ := Option.map_eq_some_iff.mp hln
        have on := ok.nd n (List.mem_of_getElem? hn)
        rw [show j - ns.length = 0 by omega]
        simp only [aDisp, aPairs, fMulS, fSub, aIsi, aIsiT, tyOf, vty, PV.ty, aCall0D, aJoin, aSeq, aIfS, aTest, aOp, aVar, aC, aCp, aRet, aRetN, aRetZ, aDrop, aNext, aBreak, aCont, aAsg, aAsgN, aGTup, aGCons, aGNil, aName, aUn, aUnN, aOpN, aFz, aTup, aLst, aIList, aIListP, aITup, aIEnum, aIEnumT, aIRng, aIStr, aYes, aCall0, aCall0N, aCall1, aMeth0, aMeth1, aMake, aCons, aNil, aWipe, aNotV, aAndV, aOrV, aIf, aAnd, aOr, aNot, aChain, aDGet, aDIn, aDPut, aApp, aAug, aPar, aSFld, aSFldN, aFld, aFldF, aSlT, aSlL, aRevL, aPO, aPO0, aBook, fIsN, fNotN, fEq, fNe, fI0, fI, fAddS, fAny, fAll, fIxL, fIxT, fIxS, fIn, fSign, fLen, fLenS, fList, fTuple, fInt, fMax2, fCat, fRep, fCatT, fEqD, fNeD, startA, aEnd, viewT, viewL, viewS, viewF, viewD, pvs, aoAt, aoSub, aoSet, aoPut, foPut, putFo, AO.fz, AO.fz.fzs, PV.isNon, AV.clsAt, keyOf, vdat, PV.dat, PV.dat.dats, viewDat, numP, List.getElem?_cons_zero, List.getElem?_cons_succ, List.getElem?_nil, List.set_cons_zero, List.set_cons_succ, List.map_cons, List.map_nil, List.cons_append, List.nil_append, List.append_nil, List.replicate_succ, List.replicate_zero, List.length_cons, List.length_nil, List.take_zero, List.take_succ_cons, List.take_nil, Nat.reduceAdd, Nat.reduceSub, Nat.reduceLT, Nat.reduceLeDiff, if_true, if_false, reduceIte, Option.map_some, Option.map_none, Option.bind_some, Option.bind_none, Bool.false_eq_true, Bool.not_true, Bool.not_false, List.lookup_cons, List.lookup_nil, Option.some.injEq, exists_eq_left', exists_eq_left, exists_and_left, AO.ins.injEq, AO.lst.injEq, AO.dK.injEq, Nat.zero_add, ite_true, ite_false, List.cons.injEq, AV.pv.injEq, PV.v.injEq, AV.loc.injEq, and_self, bools_map, decide_true, decide_false, true_and, and_true, decide_eq_true_eq, V.str.injEq, V.int.injEq, V.bl.injEq, scalS, scalI, scalB, inV_s, vals_s, vals_s', flat_s, flat_1, inV_b, vals_b, flat_b, pstrs_s, reduceCtorEq, ofS_beq, ofS_eq, String.reduceBEq, String.reduceEq]
        rw [need_split on]
        simp only [aDisp, aPairs, fMulS, fSub, aIsi, aIsiT, tyOf, vty, PV.ty, aCall0D, aJoin, aSeq, aIfS, aTest, aOp, aVar, aC, aCp, aRet, aRetN, aRetZ, aDrop, aNext, aBreak, aCont, aAsg, aAsgN, aGTup, aGCons, aGNil, aName, aUn, aUnN, aOpN, aFz, aTup, aLst, aIList, aIListP, aITup, aIEnum, aIEnumT, aIRng, aIStr, aYes, aCall0, aCall0N, aCall1, aMeth0, aMeth1, aMake, aCons, aNil, aWipe, aNotV, aAndV, aOrV, aIf, aAnd, aOr, aNot, aChain, aDGet, aDIn, aDPut, aApp, aAug, aPar, aSFld, aSFldN, aFld, aFldF, aSlT, aSlL, aRevL, aPO, aPO0, aBook, fIsN, fNotN, fEq, fNe, fI0, fI, fAddS, fAny, fAll, fIxL, fIxT, fIxS, fIn, fSign, fLen, fLenS, fList, fTuple, fInt, fMax2, fCat, fRep, fCatT, fEqD, fNeD, startA, aEnd, viewT, viewL, viewS, viewF, viewD, pvs, aoAt, aoSub, aoSet, aoPut, foPut, putFo, AO.fz, AO.fz.fzs, PV.isNon, AV.clsAt, keyOf, vdat, PV.dat, PV.dat.dats, viewDat, numP, List.getElem?_cons_zero, List.getElem?_cons_succ, List.getElem?_nil, List.set_cons_zero, List.set_cons_succ, List.map_cons, List.map_nil, List.cons_append, List.nil_append, List.append_nil, List.replicate_succ, List.replicate_zero, List.length_cons, List.length_nil, List.take_zero, List.take_succ_cons, List.take_nil, Nat.reduceAdd, Nat.reduceSub, Nat.reduceLT, Nat.reduceLeDiff, if_true, if_false, reduceIte, Option.map_some, Option.map_none, Option.bind_some, Option.bind_none, Bool.false_eq_true, Bool.not_true, Bool.not_false, List.lookup_cons, List.lookup_nil, Option.some.injEq, exists_eq_left', exists_eq_left, exists_and_left, AO.ins.injEq, AO.lst.injEq, AO.dK.injEq, Nat.zero_add, ite_true, ite_false, List.cons.injEq, AV.pv.injEq, PV.v.injEq, AV.loc.injEq, and_self, bools_map, decide_true, decide_false, true_and, and_true, decide_eq_true_eq, V.str.injEq, V.int.injEq, V.bl.injEq, scalS, scalI, scalB, inV_s, vals_s, vals_s', flat_s, flat_1, inV_b, vals_b, flat_b, pstrs_s, reduceCtorEq, ofS_beq, ofS_eq, String.reduceBEq, String.reduceEq, needWords]
        refine ⟨by decide +kernel, sz_ok (by omega), .str "need", _, ⟨rfl, rfl⟩, rfl, ?_⟩
        rw [if_pos rfl]
        refine ⟨by decide +kernel, by decide +kernel, ?_⟩
        rw [if_pos (by decide +kernel)]
        refine ⟨n, rfl, rfl, on, ⟨false, rfl, ?_⟩⟩
        rw [if_neg (by decide)]
        simp only [aDisp, aPairs, fMulS, fSub, aIsi, aIsiT, tyOf, vty, PV.ty, aCall0D, aJoin, aSeq, aIfS, aTest, aOp, aVar, aC, aCp, aRet, aRetN, aRetZ, aDrop, aNext, aBreak, aCont, aAsg, aAsgN, aGTup, aGCons, aGNil, aName, aUn, aUnN, aOpN, aFz, aTup, aLst, aIList, aIListP, aITup, aIEnum, aIEnumT, aIRng, aIStr, aYes, aCall0, aCall0N, aCall1, aMeth0, aMeth1, aMake, aCons, aNil, aWipe, aNotV, aAndV, aOrV, aIf, aAnd, aOr, aNot, aChain, aDGet, aDIn, aDPut, aApp, aAug, aPar, aSFld, aSFldN, aFld, aFldF, aSlT, aSlL, aRevL, aPO, aPO0, aBook, fIsN, fNotN, fEq, fNe, fI0, fI, fAddS, fAny, fAll, fIxL, fIxT, fIxS, fIn, fSign, fLen, fLenS, fList, fTuple, fInt, fMax2, fCat, fRep, fCatT, fEqD, fNeD, startA, aEnd, viewT, viewL, viewS, viewF, viewD, pvs, aoAt, aoSub, aoSet, aoPut, foPut, putFo, AO.fz, AO.fz.fzs, PV.isNon, AV.clsAt, keyOf, vdat, PV.dat, PV.dat.dats, viewDat, numP, List.getElem?_cons_zero, List.getElem?_cons_succ, List.getElem?_nil, List.set_cons_zero, List.set_cons_succ, List.map_cons, List.map_nil, List.cons_append, List.nil_append, List.append_nil, List.replicate_succ, List.replicate_zero, List.length_cons, List.length_nil, List.take_zero, List.take_succ_cons, List.take_nil, Nat.reduceAdd, Nat.reduceSub, Nat.reduceLT, Nat.reduceLeDiff, if_true, if_false, reduceIte, Option.map_some, Option.map_none, Option.bind_some, Option.bind_none, Bool.false_eq_true, Bool.not_true, Bool.not_false, List.lookup_cons, List.lookup_nil, Option.some.injEq, exists_eq_left', exists_eq_left, exists_and_left, AO.ins.injEq, AO.lst.injEq, AO.dK.injEq, Nat.zero_add, ite_true, ite_false, List.cons.injEq, AV.pv.injEq, PV.v.injEq, AV.loc.injEq, and_self, bools_map, decide_true, decide_false, true_and, and_true, decide_eq_true_eq, V.str.injEq, V.int.injEq, V.bl.injEq, scalS, scalI, scalB, inV_s, vals_s, vals_s', flat_s, flat_1, inV_b, vals_b, flat_b, pstrs_s, reduceCtorEq, ofS_beq, ofS_eq, String.reduceBEq, String.reduceEq]
        refine ⟨?_, _, _, _, _, _, _, ⟨rfl, rfl, rfl, rfl, rfl, rfl⟩, ?_, ?_⟩
        · rw [List.length_map, List.length_take]
          have := ok.bk.n3
          omega
        · rw [List.take_succ, hn, List.map_append]
          rfl
        · rw [show j + 1 - ns.length = 0 by omega]
          rfl
      · unfold bookLines at hln
        rw [List.getElem?_append_right (by rw [List.length_map]; omega), List.length_map, List.getElem?_map] at hln
        obtain ⟨t, ht, rfl⟩ := Option.map_eq_some_iff.mp hln
        have ot := ok.tr t (List.mem_of_getElem? ht)
        simp only [aDisp, aPairs, fMulS, fSub, aIsi, aIsiT, tyOf, vty, PV.ty, aCall0D, aJoin, aSeq, aIfS, aTest, aOp, aVar, aC, aCp, aRet, aRetN, aRetZ, aDrop, aNext, aBreak, aCont, aAsg, aAsgN, aGTup, aGCons, aGNil, aName, aUn, aUnN, aOpN, aFz, aTup, aLst, aIList, aIListP, aITup, aIEnum, aIEnumT, aIRng, aIStr, aYes, aCall0, aCall0N, aCall1, aMeth0, aMeth1, aMake, aCons, aNil, aWipe, aNotV, aAndV, aOrV, aIf, aAnd, aOr, aNot, aChain, aDGet, aDIn, aDPut, aApp, aAug, aPar, aSFld, aSFldN, aFld, aFldF, aSlT, aSlL, aRevL, aPO, aPO0, aBook, fIsN, fNotN, fEq, fNe, fI0, fI, fAddS, fAny, fAll, fIxL, fIxT, fIxS, fIn, fSign, fLen, fLenS, fList, fTuple, fInt, fMax2, fCat, fRep, fCatT, fEqD, fNeD, startA, aEnd, viewT, viewL, viewS, viewF, viewD, pvs, aoAt, aoSub, aoSet, aoPut, foPut, putFo, AO.fz, AO.fz.fzs, PV.isNon, AV.clsAt, keyOf, vdat, PV.dat, PV.dat.dats, viewDat, numP, List.getElem?_cons_zero, List.getElem?_cons_succ, List.getElem?_nil, List.set_cons_zero, List.set_cons_succ, List.map_cons, List.map_nil, List.cons_append, List.nil_append, List.append_nil, List.replicate_succ, List.replicate_zero, List.length_cons, List.length_nil, List.take_zero, List.take_succ_cons, List.take_nil, Nat.reduceAdd, Nat.reduceSub, Nat.reduceLT, Nat.reduceLeDiff, if_true, if_false, reduceIte, Option.map_some, Option.map_none, Option.bind_some, Option.bind_none, Bool.false_eq_true, Bool.not_true, Bool.not_false, List.lookup_cons, List.lookup_nil, Option.some.injEq, exists_eq_left', exists_eq_left, exists_and_left, AO.ins.injEq, AO.lst.injEq, AO.dK.injEq, Nat.zero_add, ite_true, ite_false, List.cons.injEq, AV.pv.injEq, PV.v.injEq, AV.loc.injEq, and_self, bools_map, decide_true, decide_false, true_and, and_true, decide_eq_true_eq, V.str.injEq, V.int.injEq, V.bl.injEq, scalS, scalI, scalB, inV_s, vals_s, vals_s', flat_s, flat_1, inV_b, vals_b, flat_b, pstrs_s, reduceCtorEq, ofS_beq, ofS_eq, String.reduceBEq, String.reduceEq]
        rw [try_split ot]
        simp only [aDisp, aPairs, fMulS, fSub, aIsi, aIsiT, tyOf, vty, PV.ty, aCall0D, aJoin, aSeq, aIfS, aTest, aOp, aVar, aC, aCp, aRet, aRetN, aRetZ, aDrop, aNext, aBreak, aCont, aAsg, aAsgN, aGTup, aGCons, aGNil, aName, aUn, aUnN, aOpN, aFz, aTup, aLst, aIList, aIListP, aITup, aIEnum, aIEnumT, aIRng, aIStr, aYes, aCall0, aCall0N, aCall1, aMeth0, aMeth1, aMake, aCons, aNil, aWipe, aNotV, aAndV, aOrV, aIf, aAnd, aOr, aNot, aChain, aDGet, aDIn, aDPut, aApp, aAug, aPar, aSFld, aSFldN, aFld, aFldF, aSlT, aSlL, aRevL, aPO, aPO0, aBook, fIsN, fNotN, fEq, fNe, fI0, fI, fAddS, fAny, fAll, fIxL, fIxT, fIxS, fIn, fSign, fLen, fLenS, fList, fTuple, fInt, fMax2, fCat, fRep, fCatT, fEqD, fNeD, startA, aEnd, viewT, viewL, viewS, viewF, viewD, pvs, aoAt, aoSub, aoSet, aoPut, foPut, putFo, AO.fz, AO.fz.fzs, PV.isNon, AV.clsAt, keyOf, vdat, PV.dat, PV.dat.dats, viewDat, numP, List.getElem?_cons_zero, List.getElem?_cons_succ, List.getElem?_nil, List.set_cons_zero, List.set_cons_succ, List.map_cons, List.map_nil, List.cons_append, List.nil_append, List.append_nil, List.replicate_succ, List.replicate_zero, List.length_cons, List.length_nil, List.take_zero, List.take_succ_cons, List.take_nil, Nat.reduceAdd, Nat.reduceSub, Nat.reduceLT, Nat.reduceLeDiff, if_true, if_false, reduceIte, Option.map_some, Option.map_none, Option.bind_some, Option.bind_none, Bool.false_eq_true, Bool.not_true, Bool.not_false, List.lookup_cons, List.lookup_nil, Option.some.injEq, exists_eq_left', exists_eq_left, exists_and_left, AO.ins.injEq, AO.lst.injEq, AO.dK.injEq, Nat.zero_add, ite_true, ite_false, List.cons.injEq, AV.pv.injEq, PV.v.injEq, AV.loc.injEq, and_self, bools_map, decide_true, decide_false, true_and, and_true, decide_eq_true_eq, V.str.injEq, V.int.injEq, V.bl.injEq, scalS, scalI, scalB, inV_s, vals_s, vals_s', flat_s, flat_1, inV_b, vals_b, flat_b, pstrs_s, reduceCtorEq, ofS_beq, ofS_eq, String.reduceBEq, String.reduceEq, tryWords]
        refine ⟨by decide +kernel, sz_ok (by omega), .str "try", _, ⟨rfl, rfl⟩, rfl, ?_⟩
        rw [if_neg (by decide +kernel)]
        refine ⟨rfl, ?_⟩
        rw [if_pos rfl]
        refine ⟨t, ?_, rfl, ot, ⟨false, rfl, ?_⟩⟩
        · unfold tryRest
          rw [List.map_append]
          rfl
        rw [if_neg (by decide)]
        simp only [aDisp, aPairs, fMulS, fSub, aIsi, aIsiT, tyOf, vty, PV.ty, aCall0D, aJoin, aSeq, aIfS, aTest, aOp, aVar, aC, aCp, aRet, aRetN, aRetZ, aDrop, aNext, aBreak, aCont, aAsg, aAsgN, aGTup, aGCons, aGNil, aName, aUn, aUnN, aOpN, aFz, aTup, aLst, aIList, aIListP, aITup, aIEnum, aIEnumT, aIRng, aIStr, aYes, aCall0, aCall0N, aCall1, aMeth0, aMeth1, aMake, aCons, aNil, aWipe, aNotV, aAndV, aOrV, aIf, aAnd, aOr, aNot, aChain, aDGet, aDIn, aDPut, aApp, aAug, aPar, aSFld, aSFldN, aFld, aFldF, aSlT, aSlL, aRevL, aPO, aPO0, aBook, fIsN, fNotN, fEq, fNe, fI0, fI, fAddS, fAny, fAll, fIxL, fIxT, fIxS, fIn, fSign, fLen, fLenS, fList, fTuple, fInt, fMax2, fCat, fRep, fCatT, fEqD, fNeD, startA, aEnd, viewT, viewL, viewS, viewF, viewD, pvs, aoAt, aoSub, aoSet, aoPut, foPut, putFo, AO.fz, AO.fz.fzs, PV.isNon, AV.clsAt, keyOf, vdat, PV.dat, PV.dat.dats, viewDat, numP, List.getElem?_cons_zero, List.getElem?_cons_succ, List.getElem?_nil, List.set_cons_zero, List.set_cons_succ, List.map_cons, List.map_nil, List.cons_append, List.nil_append, List.append_nil, List.replicate_succ, List.replicate_zero, List.length_cons, List.length_nil, List.take_zero, List.take_succ_cons, List.take_nil, Nat.reduceAdd, Nat.reduceSub, Nat.reduceLT, Nat.reduceLeDiff, if_true, if_false, reduceIte, Option.map_some, Option.map_none, Option.bind_some, Option.bind_none, Bool.false_eq_true, Bool.not_true, Bool.not_false, List.lookup_cons, List.lookup_nil, Option.some.injEq, exists_eq_left', exists_eq_left, exists_and_left, AO.ins.injEq, AO.lst.injEq, AO.dK.injEq, Nat.zero_add, ite_true, ite_false, List.cons.injEq, AV.pv.injEq, PV.v.injEq, AV.loc.injEq, and_self, bools_map, decide_true, decide_false, true_and, and_true, decide_eq_true_eq, V.str.injEq, V.int.injEq, V.bl.injEq, scalS, scalI, scalB, inV_s, vals_s, vals_s', flat_s, flat_1, inV_b, vals_b, flat_b, pstrs_s, reduceCtorEq, ofS_beq, ofS_eq, String.reduceBEq, String.reduceEq]
        refine ⟨?_, _, _, _, _, _, _, ⟨rfl, rfl, rfl, rfl, rfl, rfl⟩, ?_, ?_⟩
        · rw [List.length_map, List.length_take]
          have := ok.bk.t3
          omega
        · rw [List.take_of_length_le (by omega), List.take_of_length_le (by omega)]
        · rw [show j + 1 - ns.length = (j - ns.length) + 1 by omega, List.take_succ, ht, List.map_append]
          rfl
    · obtain ⟨x3, x4, x5, x6, x7, x8, rfl, rfl⟩ := hI
      have e1 : (numP 0 ((bookLines ns ts).map PV.str)).length = ns.length + ts.length := by
        rw [numP_len, List.length_map]
        unfold bookLines
        rw [List.length_append, List.length_map, List.length_map]
      rw [e1, List.take_of_length_le (Nat.le_add_right _ _), List.take_of_length_le (by omega)]
      simp only [aDisp, aPairs, fMulS, fSub, aIsi, aIsiT, tyOf, vty, PV.ty, aCall0D, aJoin, aSeq, aIfS, aTest, aOp, aVar, aC, aCp, aRet, aRetN, aRetZ, aDrop, aNext, aBreak, aCont, aAsg, aAsgN, aGTup, aGCons, aGNil, aName, aUn, aUnN, aOpN, aFz, aTup, aLst, aIList, aIListP, aITup, aIEnum, aIEnumT, aIRng, aIStr, aYes, aCall0, aCall0N, aCall1, aMeth0, aMeth1, aMake, aCons, aNil, aWipe, aNotV, aAndV, aOrV, aIf, aAnd, aOr, aNot, aChain, aDGet, aDIn, aDPut, aApp, aAug, aPar, aSFld, aSFldN, aFld, aFldF, aSlT, aSlL, aRevL, aPO, aPO0, aBook, fIsN, fNotN, fEq, fNe, fI0, fI, fAddS, fAny, fAll, fIxL, fIxT, fIxS, fIn, fSign, fLen, fLenS, fList, fTuple, fInt, fMax2, fCat, fRep, fCatT, fEqD, fNeD, startA, aEnd, viewT, viewL, viewS, viewF, viewD, pvs, aoAt, aoSub, aoSet, aoPut, foPut, putFo, AO.fz, AO.fz.fzs, PV.isNon, AV.clsAt, keyOf, vdat, PV.dat, PV.dat.dats, viewDat, numP, List.getElem?_cons_zero, List.getElem?_cons_succ, List.getElem?_nil, List.set_cons_zero, List.set_cons_succ, List.map_cons, List.map_nil, List.cons_append, List.nil_append, List.append_nil, List.replicate_succ, List.replicate_zero, List.length_cons, List.length_nil, List.take_zero, List.take_succ_cons, List.take_nil, Nat.reduceAdd, Nat.reduceSub, Nat.reduceLT, Nat.reduceLeDiff, if_true, if_false, reduceIte, Option.map_some, Option.map_none, Option.bind_some, Option.bind_none, Bool.false_eq_true, Bool.not_true, Bool.not_false, List.lookup_cons, List.lookup_nil, Option.some.injEq, exists_eq_left', exists_eq_left, exists_and_left, AO.ins.injEq, AO.lst.injEq, AO.dK.injEq, Nat.zero_add, ite_true, ite_false, List.cons.injEq, AV.pv.injEq, PV.v.injEq, AV.loc.injEq, and_self, bools_map, decide_true, decide_false, true_and, and_true, decide_eq_true_eq, V.str.injEq, V.int.injEq, V.bl.injEq, scalS, scalI, scalB, inV_s, vals_s, vals_s', flat_s, flat_1, inV_b, vals_b, flat_b, pstrs_s, reduceCtorEq, ofS_beq, ofS_eq, String.reduceBEq, String.reduceEq]
      exact ⟨ns, ts, rfl, ok.bk, hK⟩
end

end TH
namespace TH
open PySem PySem.Spec PyProof.Rows L2
variable [TC : TabC]
/-! ### the law, walked -/
def dNd (n : Nd) : PyData := .tuple [.str n.nm, .str n.sc, .tuple (n.ot.map PyData.str), .int n.ws]
def dTr (t : Tr) : PyData := .tuple [.str t.nm, .str t.hs, .str t.gp, .tuple (t.nd.map PyData.str), .tuple (t.ms.map PyData.str), .int t.tm, .bool t.ex]
def dRows (ns : List Nd) (ts : List Tr) : PyData := .tuple [.tuple (ns.map dNd), .tuple (ts.map dTr)]
theorem dat_tupl {xs : List PV} {ds : List PyData} (h : PV.dat.dats xs = some ds) : (PV.tup xs).dat = some (.tuple ds) := by
  show (PV.dat.dats xs).map PyData.tuple = _
  rw [h]
  rfl
theorem dat_nd (n : Nd) : (pNd n).dat = some (dNd n) := dat_tupl (dats_cons rfl (dats_cons rfl (dats_cons (dat_strs _) (dats_cons rfl rfl))))
theorem dat_tr (t : Tr) : (pTr t).dat = some (dTr t) := dat_tupl (dats_cons rfl (dats_cons rfl (dats_cons rfl (dats_cons (dat_strs _) (dats_cons (dat_strs _) (dats_cons rfl (dats_cons rfl rfl)))))))
theorem dat_rows (ns : List Nd) (ts : List Tr) : (pRows ns ts).dat = some (dRows ns ts) := dat_tupl (dats_cons (dat_tupl (dats_map dat_nd ns)) (dats_cons (dat_tupl (dats_map dat_tr ts)) rfl))
theorem clay_all {α : Type} {f : α → PyData} : ∀ {xs : List α}, (∀ x ∈ xs, (f x).canLay0 = true) → PyData.canLayAll0 (xs.map f) = true
  | [], _ => rfl
  | x :: t, h => by
    show (PyData.canLay0 (f x) && PyData.canLayAll0 (t.map f)) = true
    rw [h x List.mem_cons_self, clay_all fun y hy => h y (List.mem_cons_of_mem _ hy)]
    rfl
theorem dep_all {α : Type} {f : α → PyData} {n : Nat} : ∀ {xs : List α}, (∀ x ∈ xs, (f x).depth ≤ n) → PyData.depthAll (xs.map f) ≤ n
  | [], _ => Nat.zero_le _
  | x :: t, h => Nat.max_le.mpr ⟨h x List.mem_cons_self, dep_all fun y hy => h y (List.mem_cons_of_mem _ hy)⟩
theorem clay_nd {n : Nd} (h : NdOk n) : (dNd n).canLay0 = true := by
  have c := SeqAt.canLay_of_shaped (shaped_tstrs fun x hx => letters_ok (h.ot.nm x hx))
  have s : PyData.strOk n.sc = true := List.all_eq_true.mp (show (scopes4.all PyData.strOk) = true by decide +kernel) _ h.sc
  show (PyData.strOk n.nm && (PyData.strOk n.sc && ((PyData.tuple (n.ot.map PyData.str)).canLay0 && true))) = true
  rw [letters_ok h.nm, s, c]
  rfl
theorem clay_tr {t : Tr} (h : TtOk t) : (dTr t).canLay0 = true := by
  have c := SeqAt.canLay_of_shaped (shaped_tstrs fun x hx => letters_ok (h.nd.nm x hx))
  have d := SeqAt.canLay_of_shaped (shaped_tstrs fun x hx => letters_ok (h.ms.nm x hx))
  show (PyData.strOk t.nm && (PyData.strOk t.hs && (PyData.strOk t.gp && ((PyData.tuple (t.nd.map PyData.str)).canLay0 && ((PyData.tuple (t.ms.map PyData.str)).canLay0 && true))))) = true
  rw [letters_ok h.nm, letters_ok h.hs, letters_ok h.gp, c, d]
  rfl
theorem dep_nd (n : Nd) : (dNd n).depth ≤ 2 := by
  show max 0 (max 0 (max (PyData.depthAll (n.ot.map PyData.str) + 1) (max 0 0))) + 1 ≤ 2
  rw [dep_strs]
  decide
theorem dep_tr (t : Tr) : (dTr t).depth ≤ 2 := by
  show max 0 (max 0 (max 0 (max (PyData.depthAll (t.nd.map PyData.str) + 1) (max (PyData.depthAll (t.ms.map PyData.str) + 1) (max 0 (max 0 0)))))) + 1 ≤ 2
  rw [dep_strs, dep_strs]
  decide
theorem shaped_rows {ns : List Nd} {ts : List Tr} (b : BtOk ns ts) : SeqAt.shaped (dRows ns ts) = true := by
  have h1 := dep_all (f := dNd) (xs := ns) fun x _ => dep_nd x
  have h2 := dep_all (f := dTr) (xs := ts) fun x _ => dep_tr x
  unfold SeqAt.shaped
  show ((PyData.canLayAll0 (ns.map dNd) && (PyData.canLayAll0 (ts.map dTr) && true)) && decide (max (PyData.depthAll (ns.map dNd) + 1) (max (PyData.depthAll (ts.map dTr) + 1) 0) + 1 ≤ 64)) = true
  rw [clay_all fun x hx => clay_nd (b.nd x hx), clay_all fun x hx => clay_tr (b.tr x hx), decide_eq_true (by omega)]
  rfl
theorem ap_tstrs (n : Nat) (xs : List Str) (h : xs.length ≤ 100000) : AP (n + 2) (pStrs xs) := ⟨by rw [List.length_map]; exact h, fun x hx => by
  obtain ⟨z, _, rfl⟩ := List.mem_map.mp hx
  trivial⟩
theorem ap_nd {n : Nd} (h : NdOk n) : AP 3 (pNd n) := by
  refine ⟨(show 4 ≤ 100000 by decide), fun x hx => ?_⟩
  simp only [List.mem_cons, List.not_mem_nil, or_false] at hx
  rcases hx with rfl | rfl | rfl | rfl
  · trivial
  · trivial
  · exact ap_tstrs 0 _ (by have := h.ot.few; omega)
  · trivial
theorem ap_tr {t : Tr} (h : TtOk t) : AP 3 (pTr t) := by
  refine ⟨(show 7 ≤ 100000 by decide), fun x hx => ?_⟩
  simp only [List.mem_cons, List.not_mem_nil, or_false] at hx
  rcases hx with rfl | rfl | rfl | rfl | rfl | rfl | rfl
  · trivial
  · trivial
  · trivial
  · exact ap_tstrs 0 _ (by have := h.nd.few; omega)
  · exact ap_tstrs 0 _ (by have := h.ms.few; omega)
  · trivial
  · trivial
theorem ap_rows {ns : List Nd} {ts : List Tr} (b : BtOk ns ts) : AP 5 (pRows ns ts) := by
  refine ⟨(show 2 ≤ 100000 by decide), fun x hx => ?_⟩
  simp only [List.mem_cons, List.not_mem_nil, or_false] at hx
  have := b.bk.n3
  have := b.bk.t3
  rcases hx with rfl | rfl
  · refine ⟨by rw [List.length_map]; omega, fun x hx => ?_⟩
    obtain ⟨n, hn, rfl⟩ := List.mem_map.mp hx
    exact ap_nd (b.nd n hn)
  · refine ⟨by rw [List.length_map]; omega, fun x hx => ?_⟩
    obtain ⟨t, ht, rfl⟩ := List.mem_map.mp hx
    exact ap_tr (b.tr t ht)
theorem genBt {ns : List Nd} {ts : List Tr} (g : GenN ns) (k : GenT ns ts) : BtOk ns ts := ⟨genBook g k, fun t ht => by
  obtain ⟨i, hi⟩ := List.getElem?_of_mem ht
  have := ms_len (isTry_like.mp (k.is i t hi)) (k.ms t ht)
  omega⟩
section
variable {P : Program} {w : World} {K : PySem.W.Frag} {mg : Str → Option Value} {base : Heap} {f : Addr} {fd : FuncData}
theorem sc_law : FnScope ["_law_script", "_law_h", "_law_turn", "_law_book_here", "_law_text", "_law_row"] ["_law_script"] (defScope s_law) := ⟨rfl, rfl, rfl, by decide +kernel, rfl, by decide +kernel, by decide +kernel⟩
theorem fn_law {k km kb ka kw kr kn kt : Nat} (h1 : km ≤ k) (h2 : kb ≤ k) (h3 : ka ≤ k) (h4 : kw ≤ k) (h5 : kr ≤ k) (h6 : kn ≤ k) (h7 : kt ≤ k) (F : FnP K "law" "law" s_law f fd) (T : Top K mg) (c_mix : C8.Cal P w K mg base km "_law_mix" (sp_mix K) []) (c_book : C8.Cal P w K mg base kb "_law_book" (sp_book K) []) (c_alike : C8.Cal P w K mg base ka "_law_alike" (sp_alike K 6) [])
    (c_written : C8.Cal P w K mg base kw "written" (spA K ac_written) []) (c_read : C8.Cal P w K mg base kr "read" (spA K ac_read) []) (c_lneed : C8.Cal P w K mg base kn "_law_need_text" (spA K ac_ntext) []) (c_ltry : C8.Cal P w K mg base kt "_law_try_text" (spA K ac_ttext) []) : FnOk P w K mg base CX0 (k + 1) f fd ["_law_script"] (sp_law K) := by
  refine FnOk.imp (sp := spA K (ac_law K)) (fnA (n0 := 0) F sc_law (fun avs A Kc ⟨ns, e, eA, _⟩ => ⟨by rw [e]; rfl, by rw [eA]; rfl⟩) (fun cdv A outer s H E hr => ⟨_, (pss_cons (ps_set (i := 1) sc_law.nd rfl (Or.inl rfl) (C8.pe_c c_mix hr (by first | decide | omega) rfl (pa_cons (pv 0) (pa_cons pe_int pa_nil (star_Constant _ _ _)) (star_Name _ _)) (he := (star_Name _ _)))) (pss_cons (ps_for PassesOwn.never rfl (pi_range1 rfl T.z_range (pa_cons pe_int pa_nil (star_Constant _ _ _))) (pg_name (i := 2) sc_law.nd rfl (Or.inl rfl)) (pss_cons (ps_set (i := 3) sc_law.nd rfl (Or.inl rfl) (C8.pe_c c_book hr (by first | decide | omega) rfl (pa_cons (pv 1) (pa_cons pe_int (pa_cons pe_int pa_nil (star_Constant _ _ _)) (star_Constant _ _ _)) (star_Name _ _)) (he := (star_Name _ _)))) (pss_cons (ps_set (i := 4) sc_law.nd rfl (Or.inl rfl) (pe_join pe_str (pe_op op_cat (pe_lc (own := [("_law_row", 5)]) rfl sc_law.nd (pi_tup (pe_ix ix_tup (pv 3) pe_int (fun _ _ => rfl))) (blkOk_by (own := [("_law_row", 5)]) (N := ["_law_script", "_law_h", "_law_turn", "_law_book_here", "_law_text", "_law_row"]) (sc := defScope s_law) (by decide +kernel)) (fun _ _ _ _ _ => (pg_name (i := 5) sc_law.nd rfl (Or.inl rfl))) (fun _ _ _ _ _ => pts_nil) (fun _ _ _ _ _ => peT (C8.pe_c c_lneed hr (by first | decide | omega) rfl (pa_cons (pv 5) pa_nil (star_Name _ _)) (he := (star_Name _ _))) (by (try dsimp only [Cx.blk, Cx.nox, cxOf]) <;> rfl))) (pe_lc (own := [("_law_row", 5)]) rfl sc_law.nd (pi_tup (pe_ix ix_tup (pv 3) pe_int (fun _ _ => rfl))) (blkOk_by (own := [("_law_row", 5)]) (N := ["_law_script", "_law_h", "_law_turn", "_law_book_here", "_law_text", "_law_row"]) (sc := defScope s_law) (by decide +kernel)) (fun _ _ _ _ _ => (pg_name (i := 5) sc_law.nd rfl (Or.inl rfl))) (fun _ _ _ _ _ => pts_nil) (fun _ _ _ _ _ => peT (C8.pe_c c_ltry hr (by first | decide | omega) rfl (pa_cons (pv 5) pa_nil (star_Name _ _)) (he := (star_Name _ _))) (by (try dsimp only [Cx.blk, Cx.nox, cxOf]) <;> rfl)))))) (pss_one (ps_if (PW.pt (pw_or (pt_cmpR op_ne (C8.pe_c c_written hr (by first | decide | omega) rfl (pa_cons (pv 3) pa_nil (star_Name _ _)) (he := (star_Name _ _))) (pv 4) (nomark _)) (pw_or (pt_not (pt_val (C8.pe_c c_alike hr (by first | decide | omega) rfl (pa_cons (C8.pe_c c_read hr (by first | decide | omega) rfl (pa_cons (pv 4) pa_nil (star_Name _ _)) (he := (star_Name _ _))) (pa_cons (pv 3) pa_nil (star_Name _ _)) (star_Call _ _ _ _)) (he := (star_Call _ _ _ _))))) (pw_or1 (pt_cmpR (op_neD hr.units) (C8.pe_c c_read hr (by first | decide | omega) rfl (pa_cons (C8.pe_c c_written hr (by first | decide | omega) rfl (pa_cons (pv 3) pa_nil (star_Name _ _)) (he := (star_Name _ _))) pa_nil (star_Call _ _ _ _)) (he := (star_Call _ _ _ _))) (pv 3) (nomark _)))))) (pss_one (ps_ret pe_bl)) pss_nil))))) (pss_one (ps_ret (pe_and (pe_cmpR (op_eqD hr.units) (C8.pe_c c_read hr (by first | decide | omega) rfl (pa_cons pe_str pa_nil (star_Constant _ _ _)) (he := (star_Constant _ _ _))) (pe_tup (pa_cons (pe_tup pa_nil) (pa_cons (pe_tup pa_nil) pa_nil (star_Tuple _ _ _)) (star_Tuple _ _ _))) (nomark _)) (pe_one (pe_cmpR op_eq (C8.pe_c c_written hr (by first | decide | omega) rfl (pa_cons (pe_tup (pa_cons (pe_tup pa_nil) (pa_cons (pe_tup pa_nil) pa_nil (star_Tuple _ _ _)) (star_Tuple _ _ _))) pa_nil (star_Tuple _ _ _)) (he := (star_Tuple _ _ _))) pe_str (nomark _)))))))),
  (sim_seq (sim_asgN (sim_call0N le_mix (sim_cons sim_var (sim_cons sim_c sim_nil)))) (sim_seq (sim_for (sim_irng sim_c) (sim_gname (vs := [0, 1, 2, 3, 4, 5])) (sim_seq (sim_asg (sim_callH le_lbook (sim_cons sim_var (sim_cons sim_c (sim_cons sim_c sim_nil)))) (sim_gname (vs := [0, 1, 2, 3, 4, 5]))) (sim_seq (sim_asg (sim_join sim_c (sim_fz (sim_opN (sim_fz (sim_lc (sim_itup (sim_op sim_var sim_c ops_ixT)) ng_name sim_yes (sim_call0 (SpLe.refl _) (sim_cons sim_var sim_nil)))) (sim_fz (sim_lc (sim_itup (sim_op sim_var sim_c ops_ixT)) ng_name sim_yes (sim_call0 (SpLe.refl _) (sim_cons sim_var sim_nil)))) opn_cat))) (sim_gname (vs := [0, 1, 2, 3, 4, 5]))) (sim_ifS (sim_or (sim_test (sim_op (sim_call0 (SpLe.refl _) (sim_cons sim_var sim_nil)) sim_var ops_ne)) (sim_or (sim_not (sim_B (sim_call0 le_alike (sim_cons (sim_call0 (SpLe.refl _) (sim_cons sim_var sim_nil)) (sim_cons sim_var sim_nil))))) (sim_test (sim_op (sim_call0 (SpLe.refl _) (sim_cons (sim_call0 (SpLe.refl _) (sim_cons sim_var sim_nil)) sim_nil)) sim_var ops_neD)))) (sim_ret sim_c) sim_next)))) (sim_ret (sim_andV (sim_op (sim_call0 (SpLe.refl _) (sim_cons sim_c sim_nil)) (sim_tup (sim_cons (sim_tup sim_nil) (sim_cons (sim_tup sim_nil) sim_nil))) ops_eqD) (sim_op (sim_call0 (SpLe.refl _) (sim_cons (sim_tup (sim_cons (sim_tup sim_nil) (sim_cons (sim_tup sim_nil) sim_nil))) sim_nil)) sim_c ops_eq)))))⟩) ?_) law_le
  rintro avs A Kc ⟨cells, rfl, rfl, hl, hK⟩
  simp only [aDisp, aPairs, fMulS, fSub, aIsi, aIsiT, tyOf, vty, PV.ty, aCall0D, aJoin, aSeq, aIfS, aTest, aOp, aVar, aC, aCp, aRet, aRetN, aRetZ, aDrop, aNext, aBreak, aCont, aAsg, aAsgN, aGTup, aGCons, aGNil, aName, aUn, aUnN, aOpN, aFz, aTup, aLst, aIList, aIListP, aITup, aIEnum, aIEnumT, aIRng, aIStr, aYes, aCall0, aCall0N, aCall1, aMeth0, aMeth1, aMake, aCons, aNil, aWipe, aNotV, aAndV, aOrV, aIf, aAnd, aOr, aNot, aChain, aDGet, aDIn, aDPut, aApp, aAug, aPar, aSFld, aSFldN, aFld, aFldF, aSlT, aSlL, aRevL, aPO, aPO0, aBook, fIsN, fNotN, fEq, fNe, fI0, fI, fAddS, fAny, fAll, fIxL, fIxT, fIxS, fIn, fSign, fLen, fLenS, fList, fTuple, fInt, fMax2, fCat, fRep, fCatT, fEqD, fNeD, startA, aEnd, viewT, viewL, viewS, viewF, viewD, pvs, aoAt, aoSub, aoSet, aoPut, foPut, putFo, AO.fz, AO.fz.fzs, PV.isNon, AV.clsAt, keyOf, vdat, PV.dat, PV.dat.dats, viewDat, numP, List.getElem?_cons_zero, List.getElem?_cons_succ, List.getElem?_nil, List.set_cons_zero, List.set_cons_succ, List.map_cons, List.map_nil, List.cons_append, List.nil_append, List.append_nil, List.replicate_succ, List.replicate_zero, List.length_cons, List.length_nil, List.take_zero, List.take_succ_cons, List.take_nil, Nat.reduceAdd, Nat.reduceSub, Nat.reduceLT, Nat.reduceLeDiff, if_true, if_false, reduceIte, Option.map_some, Option.map_none, Option.bind_some, Option.bind_none, Bool.false_eq_true, Bool.not_true, Bool.not_false, List.lookup_cons, List.lookup_nil, Option.some.injEq, exists_eq_left', exists_eq_left, exists_and_left, AO.ins.injEq, AO.lst.injEq, AO.dK.injEq, Nat.zero_add, ite_true, ite_false, List.cons.injEq, AV.pv.injEq, PV.v.injEq, AV.loc.injEq, and_self, bools_map, decide_true, decide_false, true_and, and_true, decide_eq_true_eq, V.str.injEq, V.int.injEq, V.bl.injEq, scalS, scalI, scalB, inV_s, vals_s, vals_s', flat_s, flat_1, inV_b, vals_b, flat_b, pstrs_s, reduceCtorEq, ofS_beq, ofS_eq, String.reduceBEq, String.reduceEq, ac_mix, aFor]
  refine ⟨cells, 97, ⟨rfl, rfl⟩, by omega, ⟨by decide, by decide⟩, fun i sa A => ∃ x2 x3 x4 x5, sa = [some (.pv (.rel (rLst K (cells.map rInt)))), some (.loc 0 []), x2, x3, x4, x5] ∧ A = [oDS], ⟨_, _, _, _, rfl, rfl⟩, fun _ _ _ _ => trivial, fun i x sa A hx hI => ?_, fun sa A hI => ?_⟩
  · obtain ⟨x2, x3, x4, x5, rfl, rfl⟩ := hI
    simp only [aDisp, aPairs, fMulS, fSub, aIsi, aIsiT, tyOf, vty, PV.ty, aCall0D, aJoin, aSeq, aIfS, aTest, aOp, aVar, aC, aCp, aRet, aRetN, aRetZ, aDrop, aNext, aBreak, aCont, aAsg, aAsgN, aGTup, aGCons, aGNil, aName, aUn, aUnN, aOpN, aFz, aTup, aLst, aIList, aIListP, aITup, aIEnum, aIEnumT, aIRng, aIStr, aYes, aCall0, aCall0N, aCall1, aMeth0, aMeth1, aMake, aCons, aNil, aWipe, aNotV, aAndV, aOrV, aIf, aAnd, aOr, aNot, aChain, aDGet, aDIn, aDPut, aApp, aAug, aPar, aSFld, aSFldN, aFld, aFldF, aSlT, aSlL, aRevL, aPO, aPO0, aBook, fIsN, fNotN, fEq, fNe, fI0, fI, fAddS, fAny, fAll, fIxL, fIxT, fIxS, fIn, fSign, fLen, fLenS, fList, fTuple, fInt, fMax2, fCat, fRep, fCatT, fEqD, fNeD, startA, aEnd, viewT, viewL, viewS, viewF, viewD, pvs, aoAt, aoSub, aoSet, aoPut, foPut, putFo, AO.fz, AO.fz.fzs, PV.isNon, AV.clsAt, keyOf, vdat, PV.dat, PV.dat.dats, viewDat, numP, List.getElem?_cons_zero, List.getElem?_cons_succ, List.getElem?_nil, List.set_cons_zero, List.set_cons_succ, List.map_cons, List.map_nil, List.cons_append, List.nil_append, List.append_nil, List.replicate_succ, List.replicate_zero, List.length_cons, List.length_nil, List.take_zero, List.take_succ_cons, List.take_nil, Nat.reduceAdd, Nat.reduceSub, Nat.reduceLT, Nat.reduceLeDiff, if_true, if_false, reduceIte, Option.map_some, Option.map_none, Option.bind_some, Option.bind_none, Bool.false_eq_true, Bool.not_true, Bool.not_false, List.lookup_cons, List.lookup_nil, Option.some.injEq, exists_eq_left', exists_eq_left, exists_and_left, AO.ins.injEq, AO.lst.injEq, AO.dK.injEq, Nat.zero_add, ite_true, ite_false, List.cons.injEq, AV.pv.injEq, PV.v.injEq, AV.loc.injEq, and_self, bools_map, decide_true, decide_false, true_and, and_true, decide_eq_true_eq, V.str.injEq, V.int.injEq, V.bl.injEq, scalS, scalI, scalB, inV_s, vals_s, vals_s', flat_s, flat_1, inV_b, vals_b, flat_b, pstrs_s, reduceCtorEq, ofS_beq, ofS_eq, String.reduceBEq, String.reduceEq, ac_lbook]
    refine ⟨10, 10, ⟨rfl, rfl⟩, by decide, by decide, fun ns ts gn gt l1 l2 => ?_⟩
    have bt := genBt gn gt
    refine alc_map (C := fun _ => True) ns pNd (fun n => PV.str (needText n)) (fun Kc h => by simp only [aDisp, aPairs, fMulS, fSub, aIsi, aIsiT, tyOf, vty, PV.ty, aCall0D, aJoin, aSeq, aIfS, aTest, aOp, aVar, aC, aCp, aRet, aRetN, aRetZ, aDrop, aNext, aBreak, aCont, aAsg, aAsgN, aGTup, aGCons, aGNil, aName, aUn, aUnN, aOpN, aFz, aTup, aLst, aIList, aIListP, aITup, aIEnum, aIEnumT, aIRng, aIStr, aYes, aCall0, aCall0N, aCall1, aMeth0, aMeth1, aMake, aCons, aNil, aWipe, aNotV, aAndV, aOrV, aIf, aAnd, aOr, aNot, aChain, aDGet, aDIn, aDPut, aApp, aAug, aPar, aSFld, aSFldN, aFld, aFldF, aSlT, aSlL, aRevL, aPO, aPO0, aBook, fIsN, fNotN, fEq, fNe, fI0, fI, fAddS, fAny, fAll, fIxL, fIxT, fIxS, fIn, fSign, fLen, fLenS, fList, fTuple, fInt, fMax2, fCat, fRep, fCatT, fEqD, fNeD, startA, aEnd, viewT, viewL, viewS, viewF, viewD, pvs, aoAt, aoSub, aoSet, aoPut, foPut, putFo, AO.fz, AO.fz.fzs, PV.isNon, AV.clsAt, keyOf, vdat, PV.dat, PV.dat.dats, viewDat, numP, List.getElem?_cons_zero, List.getElem?_cons_succ, List.getElem?_nil, List.set_cons_zero, List.set_cons_succ, List.map_cons, List.map_nil, List.cons_append, List.nil_append, List.append_nil, List.replicate_succ, List.replicate_zero, List.length_cons, List.length_nil, List.take_zero, List.take_succ_cons, List.take_nil, Nat.reduceAdd, Nat.reduceSub, Nat.reduceLT, Nat.reduceLeDiff, if_true, if_false, reduceIte, Option.map_some, Option.map_none, Option.bind_some, Option.bind_none, Bool.false_eq_true, Bool.not_true, Bool.not_false, List.lookup_cons, List.lookup_nil, Option.some.injEq, exists_eq_left', exists_eq_left, exists_and_left, AO.ins.injEq, AO.lst.injEq, AO.dK.injEq, Nat.zero_add, ite_true, ite_false, List.cons.injEq, AV.pv.injEq, PV.v.injEq, AV.loc.injEq, and_self, bools_map, decide_true, decide_false, true_and, and_true, decide_eq_true_eq, V.str.injEq, V.int.injEq, V.bl.injEq, scalS, scalI, scalB, inV_s, vals_s, vals_s', flat_s, flat_1, inV_b, vals_b, flat_b, pstrs_s, reduceCtorEq, ofS_beq, ofS_eq, String.reduceBEq, String.reduceEq, pRows]; exact ⟨_, atI_zero, _, rfl, h⟩) trivial (fun n hn N hN => by simp only [aDisp, aPairs, fMulS, fSub, aIsi, aIsiT, tyOf, vty, PV.ty, aCall0D, aJoin, aSeq, aIfS, aTest, aOp, aVar, aC, aCp, aRet, aRetN, aRetZ, aDrop, aNext, aBreak, aCont, aAsg, aAsgN, aGTup, aGCons, aGNil, aName, aUn, aUnN, aOpN, aFz, aTup, aLst, aIList, aIListP, aITup, aIEnum, aIEnumT, aIRng, aIStr, aYes, aCall0, aCall0N, aCall1, aMeth0, aMeth1, aMake, aCons, aNil, aWipe, aNotV, aAndV, aOrV, aIf, aAnd, aOr, aNot, aChain, aDGet, aDIn, aDPut, aApp, aAug, aPar, aSFld, aSFldN, aFld, aFldF, aSlT, aSlL, aRevL, aPO, aPO0, aBook, fIsN, fNotN, fEq, fNe, fI0, fI, fAddS, fAny, fAll, fIxL, fIxT, fIxS, fIn, fSign, fLen, fLenS, fList, fTuple, fInt, fMax2, fCat, fRep, fCatT, fEqD, fNeD, startA, aEnd, viewT, viewL, viewS, viewF, viewD, pvs, aoAt, aoSub, aoSet, aoPut, foPut, putFo, AO.fz, AO.fz.fzs, PV.isNon, AV.clsAt, keyOf, vdat, PV.dat, PV.dat.dats, viewDat, numP, List.getElem?_cons_zero, List.getElem?_cons_succ, List.getElem?_nil, List.set_cons_zero, List.set_cons_succ, List.map_cons, List.map_nil, List.cons_append, List.nil_append, List.append_nil, List.replicate_succ, List.replicate_zero, List.length_cons, List.length_nil, List.take_zero, List.take_succ_cons, List.take_nil, Nat.reduceAdd, Nat.reduceSub, Nat.reduceLT, Nat.reduceLeDiff, if_true, if_false, reduceIte, Option.map_some, Option.map_none, Option.bind_some, Option.bind_none, Bool.false_eq_true, Bool.not_true, Bool.not_false, List.lookup_cons, List.lookup_nil, Option.some.injEq, exists_eq_left', exists_eq_left, exists_and_left, AO.ins.injEq, AO.lst.injEq, AO.dK.injEq, Nat.zero_add, ite_true, ite_false, List.cons.injEq, AV.pv.injEq, PV.v.injEq, AV.loc.injEq, and_self, bools_map, decide_true, decide_false, true_and, and_true, decide_eq_true_eq, V.str.injEq, V.int.injEq, V.bl.injEq, scalS, scalI, scalB, inV_s, vals_s, vals_s', flat_s, flat_1, inV_b, vals_b, flat_b, pstrs_s, reduceCtorEq, ofS_beq, ofS_eq, String.reduceBEq, String.reduceEq]; exact ⟨n, rfl, rfl, bt.nd n hn, hN⟩) (by omega) ?_
    dsimp only [AO.fz]
    refine alc_map (C := fun _ => True) ts pTr (fun t => PV.str (tryText t)) (fun Kc h => by simp only [aDisp, aPairs, fMulS, fSub, aIsi, aIsiT, tyOf, vty, PV.ty, aCall0D, aJoin, aSeq, aIfS, aTest, aOp, aVar, aC, aCp, aRet, aRetN, aRetZ, aDrop, aNext, aBreak, aCont, aAsg, aAsgN, aGTup, aGCons, aGNil, aName, aUn, aUnN, aOpN, aFz, aTup, aLst, aIList, aIListP, aITup, aIEnum, aIEnumT, aIRng, aIStr, aYes, aCall0, aCall0N, aCall1, aMeth0, aMeth1, aMake, aCons, aNil, aWipe, aNotV, aAndV, aOrV, aIf, aAnd, aOr, aNot, aChain, aDGet, aDIn, aDPut, aApp, aAug, aPar, aSFld, aSFldN, aFld, aFldF, aSlT, aSlL, aRevL, aPO, aPO0, aBook, fIsN, fNotN, fEq, fNe, fI0, fI, fAddS, fAny, fAll, fIxL, fIxT, fIxS, fIn, fSign, fLen, fLenS, fList, fTuple, fInt, fMax2, fCat, fRep, fCatT, fEqD, fNeD, startA, aEnd, viewT, viewL, viewS, viewF, viewD, pvs, aoAt, aoSub, aoSet, aoPut, foPut, putFo, AO.fz, AO.fz.fzs, PV.isNon, AV.clsAt, keyOf, vdat, PV.dat, PV.dat.dats, viewDat, numP, List.getElem?_cons_zero, List.getElem?_cons_succ, List.getElem?_nil, List.set_cons_zero, List.set_cons_succ, List.map_cons, List.map_nil, List.cons_append, List.nil_append, List.append_nil, List.replicate_succ, List.replicate_zero, List.length_cons, List.length_nil, List.take_zero, List.take_succ_cons, List.take_nil, Nat.reduceAdd, Nat.reduceSub, Nat.reduceLT, Nat.reduceLeDiff, if_true, if_false, reduceIte, Option.map_some, Option.map_none, Option.bind_some, Option.bind_none, Bool.false_eq_true, Bool.not_true, Bool.not_false, List.lookup_cons, List.lookup_nil, Option.some.injEq, exists_eq_left', exists_eq_left, exists_and_left, AO.ins.injEq, AO.lst.injEq, AO.dK.injEq, Nat.zero_add, ite_true, ite_false, List.cons.injEq, AV.pv.injEq, PV.v.injEq, AV.loc.injEq, and_self, bools_map, decide_true, decide_false, true_and, and_true, decide_eq_true_eq, V.str.injEq, V.int.injEq, V.bl.injEq, scalS, scalI, scalB, inV_s, vals_s, vals_s', flat_s, flat_1, inV_b, vals_b, flat_b, pstrs_s, reduceCtorEq, ofS_beq, ofS_eq, String.reduceBEq, String.reduceEq, pRows]; exact ⟨_, atI_1, _, rfl, h⟩) trivial (fun t ht N hN => by simp only [aDisp, aPairs, fMulS, fSub, aIsi, aIsiT, tyOf, vty, PV.ty, aCall0D, aJoin, aSeq, aIfS, aTest, aOp, aVar, aC, aCp, aRet, aRetN, aRetZ, aDrop, aNext, aBreak, aCont, aAsg, aAsgN, aGTup, aGCons, aGNil, aName, aUn, aUnN, aOpN, aFz, aTup, aLst, aIList, aIListP, aITup, aIEnum, aIEnumT, aIRng, aIStr, aYes, aCall0, aCall0N, aCall1, aMeth0, aMeth1, aMake, aCons, aNil, aWipe, aNotV, aAndV, aOrV, aIf, aAnd, aOr, aNot, aChain, aDGet, aDIn, aDPut, aApp, aAug, aPar, aSFld, aSFldN, aFld, aFldF, aSlT, aSlL, aRevL, aPO, aPO0, aBook, fIsN, fNotN, fEq, fNe, fI0, fI, fAddS, fAny, fAll, fIxL, fIxT, fIxS, fIn, fSign, fLen, fLenS, fList, fTuple, fInt, fMax2, fCat, fRep, fCatT, fEqD, fNeD, startA, aEnd, viewT, viewL, viewS, viewF, viewD, pvs, aoAt, aoSub, aoSet, aoPut, foPut, putFo, AO.fz, AO.fz.fzs, PV.isNon, AV.clsAt, keyOf, vdat, PV.dat, PV.dat.dats, viewDat, numP, List.getElem?_cons_zero, List.getElem?_cons_succ, List.getElem?_nil, List.set_cons_zero, List.set_cons_succ, List.map_cons, List.map_nil, List.cons_append, List.nil_append, List.append_nil, List.replicate_succ, List.replicate_zero, List.length_cons, List.length_nil, List.take_zero, List.take_succ_cons, List.take_nil, Nat.reduceAdd, Nat.reduceSub, Nat.reduceLT, Nat.reduceLeDiff, if_true, if_false, reduceIte, Option.map_some, Option.map_none, Option.bind_some, Option.bind_none, Bool.false_eq_true, Bool.not_true, Bool.not_false, List.lookup_cons, List.lookup_nil, Option.some.injEq, exists_eq_left', exists_eq_left, exists_and_left, AO.ins.injEq, AO.lst.injEq, AO.dK.injEq, Nat.zero_add, ite_true, ite_false, List.cons.injEq, AV.pv.injEq, PV.v.injEq, AV.loc.injEq, and_self, bools_map, decide_true, decide_false, true_and, and_true, decide_eq_true_eq, V.str.injEq, V.int.injEq, V.bl.injEq, scalS, scalI, scalB, inV_s, vals_s, vals_s', flat_s, flat_1, inV_b, vals_b, flat_b, pstrs_s, reduceCtorEq, ofS_beq, ofS_eq, String.reduceBEq, String.reduceEq]; exact ⟨t, rfl, rfl, bt.tr t ht, hN⟩) (by omega) ?_
    dsimp only [AO.fz]
    have e : ns.map (fun n => PV.str (needText n)) ++ ts.map (fun t => PV.str (tryText t)) = (bookLines ns ts).map PV.str := by
      unfold bookLines
      rw [List.map_append, List.map_map, List.map_map]
      rfl
    refine ⟨_, rfl, _, rfl, by rw [List.length_map, List.length_map]; omega, bookLines ns ts, by rw [e]; exact pstrs_s _, lines_small bt, ?_⟩
    refine ⟨ns, ts, rfl, rfl, bt, rfl, ?_⟩
    rw [if_neg (by rw [decide_eq_true (show V.str (bookText ns ts) = V.str (Txt.join (Str.ofString "\n") (bookLines ns ts)) from rfl)]; decide)]
    refine ⟨ns, ts, rfl, rfl, bt, ?_⟩
    refine ⟨pRows ns ts, rfl, rfl, ap_rows bt, ?_⟩
    show if (!true) = true then _ else _
    rw [if_neg (by decide)]
    refine ⟨ns, ts, rfl, rfl, bt, ns, ts, rfl, rfl, bt, ?_⟩
    have sh := shaped_rows bt
    refine ⟨dRows ns ts, dat_rows ns ts, dRows ns ts, dat_rows ns ts, sh, sh, ?_⟩
    rw [if_neg (by rw [SeqAt.eqv_refl _ (SeqAt.canLay_of_shaped sh)]; decide)]
    exact ⟨_, _, _, _, ⟨rfl, rfl, rfl, rfl⟩, rfl⟩
  · obtain ⟨x2, x3, x4, x5, rfl, rfl⟩ := hI
    have b0 : BtOk [] [] := ⟨⟨(fun i n h => (by cases h)), (fun n h => (nomatch h)), Nat.zero_le _, (fun i t h => (by cases h)), (fun t h => (nomatch h)), Nat.zero_le _⟩, (fun t h => (nomatch h))⟩
    have t0 : bookText [] [] = "" := text_nil (ns := []) (ts := []) rfl
    refine ⟨[], [], by rw [t0], rfl, b0, ?_⟩
    refine ⟨_, dat_rows [] [], by decide +kernel, by decide +kernel, ?_⟩
    rw [if_pos (by decide +kernel)]
    refine ⟨[], [], rfl, rfl, b0, rfl, ?_⟩
    rw [decide_eq_true (show V.str (bookText [] []) = V.str (Str.ofString "") from congrArg V.str t0)]
    exact hK
end

end TH
namespace TH
open PySem PySem.Spec PyProof.Rows L2
/-! ### the head -/
def fnL : List He.DefD := [⟨("is_name", none), "is_name", "is_name", defArgs s_is_name, defBody s_is_name, defScope s_is_name, [], []⟩,
  ⟨("are_unlike", none), "are_unlike", "are_unlike", defArgs s_are_unlike, defBody s_are_unlike, defScope s_are_unlike, [], []⟩,
  ⟨("Book", some "scope_of"), "scope_of", "Book.scope_of", defArgs s_Book_scope_of, defBody s_Book_scope_of, defScope s_Book_scope_of, [], []⟩,
  ⟨("Book", some "closure"), "closure", "Book.closure", defArgs s_Book_closure, defBody s_Book_closure, defScope s_Book_closure, [], []⟩,
  ⟨("Book", some "is_need"), "is_need", "Book.is_need", defArgs s_Book_is_need, defBody s_Book_is_need, defScope s_Book_is_need, [], []⟩,
  ⟨("Book", some "is_try"), "is_try", "Book.is_try", defArgs s_Book_is_try, defBody s_Book_is_try, defScope s_Book_is_try, [], []⟩,
  ⟨("Book", some "__init__"), "__init__", "Book.__init__", defArgs s_Book___init__, defBody s_Book___init__, defScope s_Book___init__, [], []⟩,
  ⟨("_law_next", none), "_law_next", "_law_next", defArgs s__law_next, defBody s__law_next, defScope s__law_next, [], []⟩,
  ⟨("_law_mix", none), "_law_mix", "_law_mix", defArgs s__law_mix, defBody s__law_mix, defScope s__law_mix, [], []⟩,
  ⟨("_law_alike", none), "_law_alike", "_law_alike", defArgs s__law_alike, defBody s__law_alike, defScope s__law_alike, [], []⟩,
  ⟨("_law_leads", none), "_law_leads", "_law_leads", defArgs s__law_leads, defBody s__law_leads, defScope s__law_leads, [], []⟩,
  ⟨("_law_some", none), "_law_some", "_law_some", defArgs s__law_some, defBody s__law_some, defScope s__law_some, [], []⟩,
  ⟨("_law_book", none), "_law_book", "_law_book", defArgs s__law_book, defBody s__law_book, defScope s__law_book, [], []⟩,
  ⟨("names_told", none), "names_told", "names_told", defArgs s_names_told, defBody s_names_told, defScope s_names_told, [], []⟩,
  ⟨("_law_names", none), "_law_names", "_law_names", defArgs s__law_names, defBody s__law_names, defScope s__law_names, [], []⟩,
  ⟨("_law_need_text", none), "_law_need_text", "_law_need_text", defArgs s__law_need_text, defBody s__law_need_text, defScope s__law_need_text, [], []⟩,
  ⟨("_law_try_text", none), "_law_try_text", "_law_try_text", defArgs s__law_try_text, defBody s__law_try_text, defScope s__law_try_text, [], []⟩,
  ⟨("written", none), "written", "written", defArgs s_written, defBody s_written, defScope s_written, [], []⟩,
  ⟨("names_in", none), "names_in", "names_in", defArgs s_names_in, defBody s_names_in, defScope s_names_in, [], []⟩,
  ⟨("number_in", none), "number_in", "number_in", defArgs s_number_in, defBody s_number_in, defScope s_number_in, [], []⟩,
  ⟨("need_in", none), "need_in", "need_in", defArgs s_need_in, defBody s_need_in, defScope s_need_in, [], []⟩,
  ⟨("try_in", none), "try_in", "try_in", defArgs s_try_in, defBody s_try_in, defScope s_try_in, [], []⟩,
  ⟨("read", none), "read", "read", defArgs s_read, defBody s_read, defScope s_read, [], []⟩,
  ⟨("law", none), "law", "law", defArgs s_law, defBody s_law, defScope s_law, [], []⟩]
def faL : List He.Fa := [.free "len", .free "all", .free "any", .free "set", .free "list", .free "tuple", .free "dict", .free "int", .free "str", .free "max", .free "min", .free "range", .free "enumerate", .free "isinstance", .free "sorted", .free "bool", .int "MOST_SIGNS" 8, .int "MOST_NEEDS" 12, .int "MOST_TRIES" 30, .int "MOST_WAYS" 4, .int "MOST_TIMES" 4, .int "MOST_CASES" 64, .str "LETTERS" "abcdefghijklmnopqrstuvwxyz", .glo "WORDS", .glo "SCOPES", .str "NONE" "-", .str "FIGURES" "123456789", .glo "is_name", .glo "are_unlike", .glo "Book", .cls "Book", .noat "Book" "needs", .noat "Book" "tries", .meth "Book" "scope_of", .meth "Book" "closure", .meth "Book" "is_need", .meth "Book" "is_try", .mkr "Book", .glo "_law_next", .glo "_law_mix", .glo "_law_alike", .glo "_law_leads", .glo "_law_some", .glo "_law_book", .glo "names_told", .glo "_law_names", .glo "_law_need_text", .glo "_law_try_text", .glo "written", .glo "names_in", .glo "number_in", .glo "need_in", .glo "try_in", .glo "read", .glo "law"]
/-- the table x has no dict of its own -/
def bareT (K : PySem.W.Frag) (x : Str) : Bool := match K.lookup (He.ga K x) with
  | some ⟨.type c, none, _, _⟩ => decide (c = "tuple")
  | _ => false
theorem bareT_ok {K : PySem.W.Frag} {x : Str} (h : bareT K x = true) : ∃ o, K.lookup (He.ga K x) = some o ∧ o.cls = .type "tuple" ∧ o.dict = none := by
  unfold bareT at h
  cases e : K.lookup (He.ga K x) with
  | none => rw [e] at h; cases h
  | some o =>
    obtain ⟨oc, od, dt, sl⟩ := o
    rw [e] at h
    cases oc with
    | type c =>
      cases od with
      | none =>
        have h : c = "tuple" := of_decide_eq_true h
        exact ⟨_, rfl, by rw [h], rfl⟩
      | some d => cases h
    | _ => cases h
def exB (K : PySem.W.Frag) : Bool := (He.tupB K "WORDS" [.str "and", .str "or", .str "not"]) && (He.tupB K "SCOPES" [.str "run", .str "house", .str "group", .str "try"]) && bareT K "WORDS" && bareT K "SCOPES"
abbrev R : PySem.W.OpenRow := PySem.W.OpenLaw.row PySem.Challenge.rw_tryhouse_k23_books_written_and_read
def tfL : List He.Defn := []
def csK (K : PySem.W.Frag) : List (Addr × Addr) := tfL.map (He.cT K)
abbrev TCK (K : PySem.W.Frag) : TabC := ⟨(csK K).map (·.2), fun _ _ => ""⟩
abbrev hk : PySem.W.Hook := He.hookX 6 faL fnL [] tfL exB
def ob (s : PySem.W.SharedT) : He.AlX := He.obsX 6 faL fnL [] tfL exB (HandSHeadRun.getT s)
theorem ob_eq (s : PySem.W.SharedT) : ob s = hk.obs s.abs := He.obsX_eq (HandSHeadRun.getT_eq s)
def loose0 : List Str := ["_wall", "TryError", "BadBook", "BadText", "RUN", "HOUSE", "GROUP", "TRY", "SCOPES", "LETTERS", "MOST_SIGNS", "MOST_NEEDS", "MOST_TRIES", "MOST_WAYS", "MOST_TIMES", "MOST_CASES", "WORDS", "is_name", "are_unlike", "Book", "NONE", "FIGURES", "names_told", "written"]
def loose1 : List Str := ["names_in", "number_in", "need_in", "try_in", "read", "_law_mix", "_law_next", "_law_alike", "_law_leads", "_law_some", "_law_book", "_law_names", "_law_need_text", "_law_try_text"]
def looseL : List Str := loose0 ++ loose1
theorem run (w : World) : HandSHeadRun.RunEq R (PySem.W.view R.prog [42]) hk ob 6000 looseL w := by
  intro os
  kernel_rfl
theorem facts {P : Program} {w : World} {K : PySem.W.Frag} {h : Heap} {mg : Str → Option Value} {f : Addr} (X : K.In h) (G : h.Ns mainGlobals mg) (hfa : mg ("law" : Str) = some (.ref f)) (c : He.SaysD faL fnL K) (hx : exB K = true) :
    ∃ fd : FuncData, (∀ (s : Shared) (v : Value), BindsTo s fd ⟨[v], []⟩ [("_law_script", v)]) ∧ ∀ base : Heap, K.In base → base.Ns mainGlobals mg → (∀ p ∈ csK K, LamX.TabB base mg p.1 p.2) → FnOk P w K mg base CX0 8 f fd ["_law_script"] (@sp_law (TCK K) K) := by
  letI TC : TabC := TCK K
  have hx := hx
  simp only [exB, Bool.and_eq_true] at hx
  obtain ⟨⟨⟨x0, x1⟩, x2⟩, x3⟩ := hx
  have T : Top K mg := {
    z_len := He.free_ok X G (c.fact 0 (f := .free "len") rfl)
    z_all := He.free_ok X G (c.fact 1 (f := .free "all") rfl)
    z_any := He.free_ok X G (c.fact 2 (f := .free "any") rfl)
    z_set := He.free_ok X G (c.fact 3 (f := .free "set") rfl)
    z_list := He.free_ok X G (c.fact 4 (f := .free "list") rfl)
    z_tuple := He.free_ok X G (c.fact 5 (f := .free "tuple") rfl)
    z_dict := He.free_ok X G (c.fact 6 (f := .free "dict") rfl)
    z_int := He.free_ok X G (c.fact 7 (f := .free "int") rfl)
    z_str := He.free_ok X G (c.fact 8 (f := .free "str") rfl)
    z_max := He.free_ok X G (c.fact 9 (f := .free "max") rfl)
    z_min := He.free_ok X G (c.fact 10 (f := .free "min") rfl)
    z_range := He.free_ok X G (c.fact 11 (f := .free "range") rfl)
    z_enumerate := He.free_ok X G (c.fact 12 (f := .free "enumerate") rfl)
    z_isinstance := He.free_ok X G (c.fact 13 (f := .free "isinstance") rfl)
    z_sorted := He.free_ok X G (c.fact 14 (f := .free "sorted") rfl)
    z_bool := He.free_ok X G (c.fact 15 (f := .free "bool") rfl)
    c_MOST_SIGNS := by obtain ⟨t, e⟩ := He.int_ok X G (c.fact 16 (f := .int "MOST_SIGNS" 8) rfl); exact ⟨_, e, t, rfl⟩
    c_MOST_NEEDS := by obtain ⟨t, e⟩ := He.int_ok X G (c.fact 17 (f := .int "MOST_NEEDS" 12) rfl); exact ⟨_, e, t, rfl⟩
    c_MOST_TRIES := by obtain ⟨t, e⟩ := He.int_ok X G (c.fact 18 (f := .int "MOST_TRIES" 30) rfl); exact ⟨_, e, t, rfl⟩
    c_MOST_WAYS := by obtain ⟨t, e⟩ := He.int_ok X G (c.fact 19 (f := .int "MOST_WAYS" 4) rfl); exact ⟨_, e, t, rfl⟩
    c_MOST_TIMES := by obtain ⟨t, e⟩ := He.int_ok X G (c.fact 20 (f := .int "MOST_TIMES" 4) rfl); exact ⟨_, e, t, rfl⟩
    c_MOST_CASES := by obtain ⟨t, e⟩ := He.int_ok X G (c.fact 21 (f := .int "MOST_CASES" 64) rfl); exact ⟨_, e, t, rfl⟩
    c_LETTERS := by obtain ⟨t, e⟩ := He.str_ok X G (c.fact 22 (f := .str "LETTERS" "abcdefghijklmnopqrstuvwxyz") rfl); exact ⟨_, e, t, rfl⟩
    c_WORDS := ⟨_, He.glo_ok X G (c.fact 23 (f := .glo "WORDS") rfl), rfl⟩
    t_WORDS := He.tupB_ok x0
    c_SCOPES := ⟨_, He.glo_ok X G (c.fact 24 (f := .glo "SCOPES") rfl), rfl⟩
    t_SCOPES := He.tupB_ok x1
    y_SCOPES := fun _ => .inr (.inl ⟨rfl, bareT_ok x3⟩) }
  obtain ⟨fd0, F0⟩ := c.def_ 0 (d := _) rfl
  obtain ⟨fd1, F1⟩ := c.def_ 1 (d := _) rfl
  obtain ⟨fd2, F2⟩ := c.def_ 2 (d := _) rfl
  obtain ⟨fd3, F3⟩ := c.def_ 3 (d := _) rfl
  obtain ⟨fd4, F4⟩ := c.def_ 4 (d := _) rfl
  obtain ⟨fd5, F5⟩ := c.def_ 5 (d := _) rfl
  obtain ⟨fd6, F6⟩ := c.def_ 6 (d := _) rfl
  obtain ⟨fd7, F7⟩ := c.def_ 7 (d := _) rfl
  obtain ⟨fd8, F8⟩ := c.def_ 8 (d := _) rfl
  obtain ⟨fd9, F9⟩ := c.def_ 9 (d := _) rfl
  obtain ⟨fd10, F10⟩ := c.def_ 10 (d := _) rfl
  obtain ⟨fd11, F11⟩ := c.def_ 11 (d := _) rfl
  obtain ⟨fd12, F12⟩ := c.def_ 12 (d := _) rfl
  obtain ⟨fd13, F13⟩ := c.def_ 13 (d := _) rfl
  obtain ⟨fd14, F14⟩ := c.def_ 14 (d := _) rfl
  obtain ⟨fd15, F15⟩ := c.def_ 15 (d := _) rfl
  obtain ⟨fd16, F16⟩ := c.def_ 16 (d := _) rfl
  obtain ⟨fd17, F17⟩ := c.def_ 17 (d := _) rfl
  obtain ⟨fd18, F18⟩ := c.def_ 18 (d := _) rfl
  obtain ⟨fd19, F19⟩ := c.def_ 19 (d := _) rfl
  obtain ⟨fd20, F20⟩ := c.def_ 20 (d := _) rfl
  obtain ⟨fd21, F21⟩ := c.def_ 21 (d := _) rfl
  obtain ⟨fd22, F22⟩ := c.def_ 22 (d := _) rfl
  obtain ⟨fd23, F23⟩ := c.def_ 23 (d := _) rfl
  have B : TopBook K mg (He.ga K "Book") := ⟨He.cls_ok (c.fact 30 (f := .cls "Book") rfl), He.noat_ok (c.fact 31 (f := .noat "Book" "needs") rfl), He.noat_ok (c.fact 32 (f := .noat "Book" "tries") rfl)⟩
  have c_NONE : ∃ u, mg "NONE" = some u ∧ RelV (.str "-") u := (by obtain ⟨t, e⟩ := He.str_ok X G (c.fact 25 (f := .str "NONE" "-") rfl); exact ⟨_, e, t, rfl⟩)
  have c_FIG : ∃ u, mg "FIGURES" = some u ∧ RelV (.str "123456789") u := (by obtain ⟨t, e⟩ := He.str_ok X G (c.fact 26 (f := .str "FIGURES" "123456789") rfl); exact ⟨_, e, t, rfl⟩)
  have e := hfa.symm.trans (He.glo_ok X G (c.fact 54 (f := .glo "law") rfl))
  cases e
  have b := FunD.bindsA (ps := ["_law_script"]) F23 fun _ _ _ _ _ _ us hl => match us, hl with | [_], _ => rfl
  refine ⟨fd23, fun s v => b s [v] rfl, fun base _ _ hTab => ?_⟩
  have c_is_name : C8.Cal P w K mg base 1 "is_name" sp_is_name [] := ⟨_, fd0, _, [], fn_is_name F0 T, He.glo_ok X G (c.fact 27 (f := .glo "is_name") rfl), F0.kp, (F0.bindsN fun _ _ _ _ _ _ us hl => match us, hl with | [_], _ => rfl), .nil⟩
  have c_are_unlike : C8.Cal P w K mg base 2 "are_unlike" (sp_are_unlike K) [] := ⟨_, fd1, _, [], fn_are_unlike F1 T c_is_name, He.glo_ok X G (c.fact 28 (f := .glo "are_unlike") rfl), F1.kp, (F1.bindsN fun _ _ _ _ _ _ us hl => match us, hl with | [_], _ => rfl), .nil⟩
  have c_scope_of : C8.Met P w K mg base 1 (He.ga K "Book") "scope_of" (sp_scope_of K (He.ga K "Book")) [] := ⟨_, fd2, _, [], He.cls_ok (c.fact 30 (f := .cls "Book") rfl), He.meth_ok (c.fact 33 (f := .meth "Book" "scope_of") rfl), fn_scope_of F2 T B, (F2.bindsN fun _ _ _ _ _ _ us hl => match us, hl with | [_, _], _ => rfl), .nil⟩
  have c_closure : C8.Met P w K mg base 1 (He.ga K "Book") "closure" (sp_closure K (He.ga K "Book")) [] := ⟨_, fd3, _, [], He.cls_ok (c.fact 30 (f := .cls "Book") rfl), He.meth_ok (c.fact 34 (f := .meth "Book" "closure") rfl), fn_closure F3 T B, (F3.bindsN fun _ _ _ _ _ _ us hl => match us, hl with | [_, _], _ => rfl), .nil⟩
  have c_is_need : C8.Met P w K mg base 3 (He.ga K "Book") "is_need" (sp_is_need K (He.ga K "Book")) [] := ⟨_, fd4, _, [], He.cls_ok (c.fact 30 (f := .cls "Book") rfl), He.meth_ok (c.fact 35 (f := .meth "Book" "is_need") rfl), fn_is_need F4 T B c_is_name c_are_unlike c_scope_of, (F4.bindsN fun _ _ _ _ _ _ us hl => match us, hl with | [_, _], _ => rfl), .nil⟩
  have c_is_try : C8.Met P w K mg base 3 (He.ga K "Book") "is_try" (sp_is_try K (He.ga K "Book")) [] := ⟨_, fd5, _, [], He.cls_ok (c.fact 30 (f := .cls "Book") rfl), He.meth_ok (c.fact 36 (f := .meth "Book" "is_try") rfl), fn_is_try F5 T B c_is_name c_are_unlike c_closure, (F5.bindsN fun _ _ _ _ _ _ us hl => match us, hl with | [_, _], _ => rfl), .nil⟩
  have c_Book : C8.Mak P w K mg base 4 "Book" (He.ga K "Book") (sp_init K (He.ga K "Book")) [] := ⟨_, fd6, _, [], He.mkr_ok (c.fact 37 (f := .mkr "Book") rfl), fn_init F6 T B c_is_need c_is_try, He.glo_ok X G (c.fact 29 (f := .glo "Book") rfl), (F6.bindsN fun _ _ _ _ _ _ us hl => match us, hl with | [_, _], _ => rfl), .nil⟩
  have c_next : C8.Cal P w K mg base 1 "_law_next" sp_next [] := ⟨_, fd7, _, [], fn_law_next F7 T, He.glo_ok X G (c.fact 38 (f := .glo "_law_next") rfl), F7.kp, (F7.bindsN fun _ _ _ _ _ _ us hl => match us, hl with | [_, _], _ => rfl), .nil⟩
  have c_mix : C8.Cal P w K mg base 1 "_law_mix" (sp_mix K) [] := ⟨_, fd8, _, [], fn_law_mix F8 T, He.glo_ok X G (c.fact 39 (f := .glo "_law_mix") rfl), F8.kp, (F8.bindsN fun _ _ _ _ _ _ us hl => match us, hl with | [_, _], _ => rfl), .nil⟩
  have c_alike := fun k => (show ∀ k, C8.Cal P w K mg base k "_law_alike" (sp_alike K k) [] from fun k => ⟨_, fd9, ["_law_found", "_law_due"], [], fn_law_alike rfl F9 T (fun k sp o => ⟨_, fd9, ["_law_found", "_law_due"], [], o, He.glo_ok X G (c.fact 40 (f := .glo "_law_alike") rfl), F9.kp, (F9.bindsN fun _ _ _ _ _ _ us hl => match us, hl with | [_, _], _ => rfl), .nil⟩) k, He.glo_ok X G (c.fact 40 (f := .glo "_law_alike") rfl), F9.kp, (F9.bindsN fun _ _ _ _ _ _ us hl => match us, hl with | [_, _], _ => rfl), .nil⟩) k
  have c_leads : C8.Cal P w K mg base 1 "_law_leads" (sp_leads K) [] := ⟨_, fd10, _, [], fn_law_leads F10 T, He.glo_ok X G (c.fact 41 (f := .glo "_law_leads") rfl), F10.kp, (F10.bindsN fun _ _ _ _ _ _ us hl => match us, hl with | [_, _], _ => rfl), .nil⟩
  have c_some : C8.Cal P w K mg base 2 "_law_some" (sp_some K) [] := ⟨_, fd11, _, [], fn_law_some F11 T c_next, He.glo_ok X G (c.fact 42 (f := .glo "_law_some") rfl), F11.kp, (F11.bindsN fun _ _ _ _ _ _ us hl => match us, hl with | [_, _, _], _ => rfl), .nil⟩
  have c_book : C8.Cal P w K mg base 3 "_law_book" (sp_book K) [] := ⟨_, fd12, _, [], fn_law_book F12 T c_next c_some c_leads, He.glo_ok X G (c.fact 43 (f := .glo "_law_book") rfl), F12.kp, (F12.bindsN fun _ _ _ _ _ _ us hl => match us, hl with | [_, _, _], _ => rfl), .nil⟩
  have c_ntold : C8.Cal P w K mg base 1 "names_told" (spA K ac_ntold) [] := ⟨_, fd13, _, [], fn_ntold F13 T c_NONE, He.glo_ok X G (c.fact 44 (f := .glo "names_told") rfl), F13.kp, (F13.bindsN fun _ _ _ _ _ _ us hl => match us, hl with | [_], _ => rfl), .nil⟩
  have c_lnames : C8.Cal P w K mg base 1 "_law_names" (spA K ac_ntold) [] := ⟨_, fd14, _, [], fn_lnames F14 T, He.glo_ok X G (c.fact 45 (f := .glo "_law_names") rfl), F14.kp, (F14.bindsN fun _ _ _ _ _ _ us hl => match us, hl with | [_], _ => rfl), .nil⟩
  have c_lneed : C8.Cal P w K mg base 2 "_law_need_text" (spA K ac_ntext) [] := ⟨_, fd15, _, [], fn_lneed F15 T c_lnames, He.glo_ok X G (c.fact 46 (f := .glo "_law_need_text") rfl), F15.kp, (F15.bindsN fun _ _ _ _ _ _ us hl => match us, hl with | [_], _ => rfl), .nil⟩
  have c_ltry : C8.Cal P w K mg base 2 "_law_try_text" (spA K ac_ttext) [] := ⟨_, fd16, _, [], fn_ltry F16 T c_lnames, He.glo_ok X G (c.fact 47 (f := .glo "_law_try_text") rfl), F16.kp, (F16.bindsN fun _ _ _ _ _ _ us hl => match us, hl with | [_], _ => rfl), .nil⟩
  have c_written : C8.Cal P w K mg base 6 "written" (spA K ac_written) [] := ⟨_, fd17, _, [], fn_written F17 T c_Book c_ntold, He.glo_ok X G (c.fact 48 (f := .glo "written") rfl), F17.kp, (F17.bindsN fun _ _ _ _ _ _ us hl => match us, hl with | [_], _ => rfl), .nil⟩
  have c_nin : C8.Cal P w K mg base 2 "names_in" (spA K ac_nin) [] := ⟨_, fd18, _, [], fn_nin F18 T c_NONE c_is_name, He.glo_ok X G (c.fact 49 (f := .glo "names_in") rfl), F18.kp, (F18.bindsN fun _ _ _ _ _ _ us hl => match us, hl with | [_], _ => rfl), .nil⟩
  have c_num : C8.Cal P w K mg base 1 "number_in" (spA K ac_num) [] := ⟨_, fd19, _, [], fn_num F19 T c_FIG, He.glo_ok X G (c.fact 50 (f := .glo "number_in") rfl), F19.kp, (F19.bindsN fun _ _ _ _ _ _ us hl => match us, hl with | [_, _], _ => rfl), .nil⟩
  have c_needin : C8.Cal P w K mg base 3 "need_in" (spA K ac_needin) [] := ⟨_, fd20, _, [], fn_needin F20 T c_is_name c_nin c_num, He.glo_ok X G (c.fact 51 (f := .glo "need_in") rfl), F20.kp, (F20.bindsN fun _ _ _ _ _ _ us hl => match us, hl with | [_], _ => rfl), .nil⟩
  have c_tryin : C8.Cal P w K mg base 3 "try_in" (spA K ac_tryin) [] := ⟨_, fd21, _, [], fn_tryin F21 T c_is_name c_nin c_num, He.glo_ok X G (c.fact 52 (f := .glo "try_in") rfl), F21.kp, (F21.bindsN fun _ _ _ _ _ _ us hl => match us, hl with | [_], _ => rfl), .nil⟩
  have c_read : C8.Cal P w K mg base 6 "read" (spA K ac_read) [] := ⟨_, fd22, _, [], fn_read F22 T c_Book c_needin c_tryin, He.glo_ok X G (c.fact 53 (f := .glo "read") rfl), F22.kp, (F22.bindsN fun _ _ _ _ _ _ us hl => match us, hl with | [_], _ => rfl), .nil⟩
  exact fn_law (k := 7) (by decide) (by decide) (ka := 6) (by decide) (by decide) (by decide) (by decide) (by decide) F23 T c_mix c_book (c_alike 6) c_written c_read c_lneed c_ltry
end TH
open PySem PySem.W PySem.Calls PyProof.Rows
theorem PySem.Challenge.cw_tryhouse_k23_books_written_and_read_holds : PySem.Challenge.rw_tryhouse_k23_books_written_and_read.Holds := by
  w_on; o_law
  refine HandSHeadRun.head_any (r := OpenLaw.row PySem.Challenge.rw_tryhouse_k23_books_written_and_read) (q := view (OpenLaw.row PySem.Challenge.rw_tryhouse_k23_books_written_and_read).prog [42]) (H := TH.hk) (ob := TH.ob) (M := 6000) (loose := TH.looseL) (d := HandSHeadRun.topDef (OpenLaw.row PySem.Challenge.rw_tryhouse_k23_books_written_and_read).prog 42) (kwd := []) TH.ob_eq
    (by kernel_rfl) (fun s => by kernel_rfl) TH.run (by kernel_rfl) (by kernel_rfl) (by kernel_rfl) (by rfl) (by first | assumption | decide +kernel) (by decide +kernel) ⟨rfl, rfl, rfl, rfl, rfl, by decide +kernel⟩ ?hw ?hc
  case hw => w_witness2
  case hc =>
    refine LamX.walk_ofTsE (l := PySem.Challenge.rw_tryhouse_k23_books_written_and_read) (n := 63) (k := 8) (x := "_law_script") (CX := fun _ => L2.CX0) rfl (by decide) (by kernel_rfl) ⟨rfl, by decide, by decide⟩ ?F (fun _ _ _ _ _ z => z)
    intro w mg fa h Y G hmg0
    obtain ⟨K, KX, c⟩ := Y
    have hmg : mg ("law" : PySem.Str) = some (.ref fa) := by
      have e : (HandSHeadRun.topDef (OpenLaw.row PySem.Challenge.rw_tryhouse_k23_books_written_and_read).prog 42).name = ("law" : PySem.Str) := by kernel_rfl
      rw [← e]
      exact hmg0
    obtain ⟨fd, hb, hF⟩ := TH.facts (P := (PySem.Challenge.rw_tryhouse_k23_books_written_and_read).prog) (w := w) KX G hmg c.t.d c.more
    refine ⟨K, KX, fd, TH.csK K, @TH.sp_law (TH.TCK K) K, fun p hp => ?_, fun p hp => ?_, fun p hp => ?_, hb, fun H a ns hl _ hT hS => ⟨a, ns, rfl, hS, hl, fun P hP => ?_, fun _ => rfl⟩, hF⟩
    · obtain ⟨d, hd, rfl⟩ := List.mem_map.mp hp
      exact c.empty d hd
    · obtain ⟨d, hd, rfl⟩ := List.mem_map.mp hp
      exact c.out d hd
    · obtain ⟨d, hd, rfl⟩ := List.mem_map.mp hp
      exact PySem.W.codeHd_of_K KX (c.hd d hd)
    · obtain ⟨p, hp, rfl⟩ := List.mem_map.mp hP
      exact hT p hp
