import PyProof.Rows.All
import Wide.All
import OpenK.AllK
import Wide.FinOn
import HandS.ForMost
import HandS.Walk
import HandS.Strs
import KE.GoesMore
import HandS.Defaults
import HandS.Codes
import HandS.HeadHook2
import HandS.DictComp
import HandS.Style
import HandS.TupAny
import KE.KRevSl
import HandS.IsInst
import KE.KStateDown
import HandS.Ends
import HandS.Head0
import HandS.Head1
import HandS.Head2
import HandS.HeadEnd
import HandS.HeadHook1
import HandS.HeadHook3
import HandS.HeadHook4
import PySem.Challenge.RW_tryhouse_k02_what_a_try_needs
set_option Elab.async false
set_option linter.all false
set_option maxRecDepth 100000
set_option maxHeartbeats 0
/-! Values told by what is frozen: a heap in two parts, G (what will never change again) within H (all). -/
namespace TH
open PySem L2

/-! ### heaps -/
def IsDct : HO → Prop
  | .dK _ => True
  | .dT _ => True
  | _ => False
/-- the same object, a dict perhaps locked or no longer locked -/
def Lk (o o' : HO) : Prop := o = o' ∨ ∃ u, IsDct u ∧ (o = u ∨ ∃ ob, o = .frz ob u) ∧ (o' = u ∨ ∃ ob, o' = .frz ob u)
theorem Lk.refl (o : HO) : Lk o o := .inl rfl
theorem dct_nofrz {u w : HO} {ob : Obj} (h : IsDct u) (e : u = .frz ob w) : False := by
  subst e
  exact h
theorem lk_core {o u w : HO} (hu : IsDct u) (hw : IsDct w) (a : o = u ∨ ∃ ob, o = .frz ob u) (b : o = w ∨ ∃ ob, o = .frz ob w) : u = w := by
  rcases a with rfl | ⟨o1, rfl⟩
  · rcases b with e | ⟨o2, e⟩
    · exact e
    · exact (dct_nofrz hu e).elim
  · rcases b with e | ⟨o2, e⟩
    · exact (dct_nofrz hw e.symm).elim
    · injection e
theorem Lk.trans {a b c : HO} (h : Lk a b) (k : Lk b c) : Lk a c := by
  rcases h with rfl | ⟨u, hu, h1, h2⟩
  · exact k
  · rcases k with rfl | ⟨w, hw, k1, k2⟩
    · exact .inr ⟨u, hu, h1, h2⟩
    · have e := lk_core hu hw h2 k1
      subst e
      exact .inr ⟨u, hu, h1, k2⟩
theorem Lk.symm {a b : HO} (h : Lk a b) : Lk b a := by
  rcases h with rfl | ⟨u, hu, h1, h2⟩
  · exact .inl rfl
  · exact .inr ⟨u, hu, h2, h1⟩
/-- all of G stands in G', dicts perhaps locked -/
def Le (G G' : Hp) : Prop := ∀ b o, G b = some o → ∃ o', G' b = some o' ∧ Lk o o'
theorem Le.refl (G : Hp) : Le G G := fun b o h => ⟨o, h, .refl o⟩
theorem Le.trans {G1 G2 G3 : Hp} (a : Le G1 G2) (b : Le G2 G3) : Le G1 G3 := fun c o h => by
  obtain ⟨o1, h1, k1⟩ := a c o h
  obtain ⟨o2, h2, k2⟩ := b c o1 h1
  exact ⟨o2, h2, k1.trans k2⟩
theorem Le.of_same {G G' : Hp} (s : Same G G') : Le G G' := fun b o h => ⟨o, s b o h, .refl o⟩
theorem Le.free {G G' : Hp} (s : Le G G') {b : Addr} (h : G' b = none) : G b = none := by
  cases e : G b with
  | none => rfl
  | some o =>
    obtain ⟨o', h', _⟩ := s b o e
    rw [h] at h'
    cases h'
theorem Le.new {G : Hp} {p : Addr} {o : HO} (h : G p = none) : Le G (upd G p o) := fun b u e => ⟨u, by rw [upd_ne (ne_of_none e h)]; exact e, .refl u⟩
theorem Le.upd {G H : Hp} {p : Addr} {o : HO} (s : Le G H) : Le (upd G p o) (upd H p o) := fun b u e => by
  by_cases hb : b = p
  · subst hb
    rw [upd_same] at e ⊢
    exact ⟨u, e, .refl u⟩
  · rw [upd_ne hb] at e ⊢
    exact s b u e
/-- a thing outside of G changes -/
theorem Le.mut {G H : Hp} {p : Addr} {o : HO} (s : Le G H) (h : G p = none) : Le G (L2.upd H p o) := fun b u e => by
  rw [upd_ne (ne_of_none e h)]
  exact s b u e
def NF (u : HO) : Prop := ∀ ob w, u ≠ .frz ob w
theorem nf_lst {xs : List V} : NF (.lst xs) := fun _ _ e => nomatch e
theorem nf_tup {xs : List V} : NF (.tup xs) := fun _ _ e => nomatch e
theorem nf_dK {xs : List (Key × V)} : NF (.dK xs) := fun _ _ e => nomatch e
theorem nf_dT {xs : List (List Key × V)} : NF (.dT xs) := fun _ _ e => nomatch e
theorem nf_ins {C dx : Addr} {fs : List (Str × V)} : NF (.ins C dx fs) := fun _ _ e => nomatch e
theorem Le.rd {G G' : Hp} {a : Addr} {u : HO} (s : Le G G') (n : NF u) (r : Rd G a u) : Rd G' a u := by
  rcases r with h | ⟨ob, h⟩
  · obtain ⟨o', h', k⟩ := s a _ h
    rcases k with rfl | ⟨w, hw, k1, k2⟩
    · exact .inl h'
    · rcases k1 with rfl | ⟨o1, e⟩
      · rcases k2 with rfl | ⟨o2, rfl⟩
        · exact .inl h'
        · exact .inr ⟨o2, h'⟩
      · exact (n _ _ e).elim
  · obtain ⟨o', h', k⟩ := s a _ h
    rcases k with rfl | ⟨w, hw, k1, k2⟩
    · exact .inr ⟨ob, h'⟩
    · rcases k1 with e | ⟨o1, e⟩
      · exact (dct_nofrz hw e.symm).elim
      · injection e with e1 e2
        subst e2
        rcases k2 with rfl | ⟨o2, rfl⟩
        · exact .inl h'
        · exact .inr ⟨o2, h'⟩
/-- what is no dict and no lock stands as it is -/
theorem Le.at {G G' : Hp} {a : Addr} {u : HO} (s : Le G G') (h : G a = some u) (n : NF u) (d : ¬ IsDct u) : G' a = some u := by
  obtain ⟨o', h', k⟩ := s a _ h
  rcases k with rfl | ⟨w, hw, k1, k2⟩
  · exact h'
  · rcases k1 with rfl | ⟨o1, e⟩
    · exact (d hw).elim
    · exact (n _ _ e).elim
theorem Le.ins {G G' : Hp} {a C dx : Addr} {fs : List (Str × V)} (s : Le G G') (h : G a = some (.ins C dx fs)) : G' a = some (.ins C dx fs) := s.at h nf_ins fun z => z
theorem Le.seqL {K : PySem.W.Frag} {G G' : Hp} {a : Addr} {xs : List V} (s : Le G G') (h : SqL K G a xs) : SqL K G' a xs := by
  rcases h with h | h
  · exact .inl (s.rd nf_lst h)
  · exact .inr h
theorem Le.seqT {K : PySem.W.Frag} {G G' : Hp} {a : Addr} {xs : List V} (s : Le G G') (h : SqT K G a xs) : SqT K G' a xs := by
  rcases h with h | h
  · exact .inl (s.rd nf_tup h)
  · exact .inr h

/-- (G, H) grows to (G', H'): what is frozen stays, of the rest all but W; what is newly frozen is new -/
structure Gr (W : List Addr) (G H G' H' : Hp) : Prop where
  gg : Le G G'
  gh : Le G' H'
  hh : ∀ b o, H b = some o → b ∉ W → H' b = some o
  dm : ∀ b, H b ≠ none → H' b ≠ none
  nw : ∀ b, G b = none → G' b ≠ none → H b = none
section
variable {W W' : List Addr} {G H G1 H1 G2 H2 : Hp}
theorem Gr.refl (h : Le G H) : Gr W G H G H := ⟨Le.refl G, h, fun _ _ e _ => e, fun _ e => e, fun b h1 h2 => (h2 h1).elim⟩
theorem Gr.trans (a : Gr W G H G1 H1) (b : Gr W G1 H1 G2 H2) : Gr W G H G2 H2 where
  gg := a.gg.trans b.gg
  gh := b.gh
  hh := fun c o e n => b.hh c o (a.hh c o e n) n
  dm := fun c e => b.dm c (a.dm c e)
  nw := fun c h1 h2 => by
    cases e : G1 c with
    | some o => exact a.nw c h1 (by rw [e]; exact fun z => nomatch z)
    | none =>
      have q := b.nw c e h2
      cases e2 : H c with
      | none => rfl
      | some o => exact absurd q (a.dm c (by rw [e2]; exact fun z => nomatch z))
theorem Gr.mono (a : Gr W G H G1 H1) (s : ∀ b ∈ W, b ∈ W') : Gr W' G H G1 H1 := ⟨a.gg, a.gh, fun b o e n => a.hh b o e fun z => n (s b z), a.dm, a.nw⟩
theorem Gr.nil (a : Gr [] G H G1 H1) : Gr W G H G1 H1 := a.mono fun _ z => nomatch z
theorem Gr.same (a : Gr [] G H G1 H1) : Same H H1 := fun b o e => a.hh b o e fun z => nomatch z
/-- a new thing, frozen at once -/
theorem Gr.new (h : Le G H) {p : Addr} {o : HO} (hp : H p = none) : Gr W G H (upd G p o) (upd H p o) where
  gg := Le.new (h.free hp)
  gh := h.upd
  hh := fun b u e _ => by rw [upd_ne (ne_of_none e hp)]; exact e
  dm := fun b e => by
    by_cases hb : b = p
    · subst hb; exact (e hp).elim
    · rw [upd_ne hb]; exact e
  nw := fun b h1 h2 => by
    by_cases hb : b = p
    · subst hb; exact hp
    · rw [upd_ne hb] at h2; exact (h2 h1).elim
/-- a new thing that may be changed -/
theorem Gr.own (h : Le G H) {p : Addr} {o : HO} (hp : H p = none) : Gr W G H G (upd H p o) where
  gg := Le.refl G
  gh := h.mut (h.free hp)
  hh := fun b u e _ => by rw [upd_ne (ne_of_none e hp)]; exact e
  dm := fun b e => by
    by_cases hb : b = p
    · subst hb; exact (e hp).elim
    · rw [upd_ne hb]; exact e
  nw := fun b h1 h2 => (h2 h1).elim
/-- what came later is changed -/
theorem Gr.put (a : Gr W G H G1 H1) {p : Addr} {o : HO} (hp : H p = none) (hg : G1 p = none) : Gr W G H G1 (upd H1 p o) where
  gg := a.gg
  gh := a.gh.mut hg
  hh := fun b u e n => by rw [upd_ne (ne_of_none e hp)]; exact a.hh b u e n
  dm := fun b e => by
    by_cases hb : b = p
    · subst hb; rw [upd_same]; exact fun z => nomatch z
    · rw [upd_ne hb]; exact a.dm b e
  nw := a.nw
/-- what is of W is changed -/
theorem Gr.putW (a : Gr W G H G1 H1) {p : Addr} {o : HO} (hp : p ∈ W) (hg : G1 p = none) : Gr W G H G1 (upd H1 p o) where
  gg := a.gg
  gh := a.gh.mut hg
  hh := fun b u e n => by rw [upd_ne (show b ≠ p from fun z => n (by rw [z]; exact hp))]; exact a.hh b u e n
  dm := fun b e => by
    by_cases hb : b = p
    · subst hb; rw [upd_same]; exact fun z => nomatch z
    · rw [upd_ne hb]; exact a.dm b e
  nw := a.nw
/-- in two steps, the second one over what came later, too -/
theorem Gr.over {W' : List Addr} (a : Gr W G H G1 H1) (b : Gr W' G1 H1 G2 H2) (h : ∀ p ∈ W', p ∈ W ∨ H p = none) : Gr W G H G2 H2 where
  gg := a.gg.trans b.gg
  gh := b.gh
  hh := fun c o e n => b.hh c o (a.hh c o e n) fun z => by
    rcases h c z with q | q
    · exact n q
    · rw [q] at e; cases e
  dm := fun c e => b.dm c (a.dm c e)
  nw := fun c h1 h2 => by
    cases e : G1 c with
    | some o => exact a.nw c h1 (by rw [e]; exact fun z => nomatch z)
    | none =>
      have q := b.nw c e h2
      cases e2 : H c with
      | none => rfl
      | some o => exact absurd q (a.dm c (by rw [e2]; exact fun z => nomatch z))
/-- what came later is frozen as it stands -/
theorem Gr.fix (a : Gr W G H G1 H1) {p : Addr} {o : HO} (hp : H p = none) (hg : G1 p = none) (h1 : H1 p = some o) : Gr W G H (upd G1 p o) H1 where
  gg := a.gg.trans (Le.new hg)
  gh := fun b u e => by
    by_cases hb : b = p
    · subst hb; rw [upd_same] at e; cases e; exact ⟨_, h1, .refl _⟩
    · rw [upd_ne hb] at e; exact a.gh b u e
  hh := a.hh
  dm := a.dm
  nw := fun b n1 n2 => by
    by_cases hb : b = p
    · subst hb; exact hp
    · rw [upd_ne hb] at n2; exact a.nw b n1 n2
/-- a thing that may be changed and is not of W -/
theorem Gr.loc (a : Gr W G H G1 H1) {p : Addr} {o : HO} (hp : H p = some o) (hg : G p = none) (n : p ∉ W) : H1 p = some o ∧ G1 p = none := by
  refine ⟨a.hh p o hp n, ?_⟩
  cases e : G1 p with
  | none => rfl
  | some u =>
    have q := a.nw p hg (by rw [e]; exact fun z => nomatch z)
    rw [hp] at q
    cases q
theorem Gr.gnone (a : Gr W G H G1 H1) {p : Addr} (hp : H p ≠ none) (hg : G p = none) : G1 p = none := by
  cases e : G1 p with
  | none => rfl
  | some u => exact absurd (a.nw p hg (by rw [e]; exact fun z => nomatch z)) hp
end

/-! ### what is known of a value -/
structure Rl where
  P : Hp → V → Prop
  mono : ∀ {G G' : Hp} {v : V}, Le G G' → P G v → P G' v
def rV (v0 : V) : Rl := ⟨fun _ v => v = v0, fun _ h => h⟩
abbrev rInt (i : Int) : Rl := rV (.int i)
abbrev rStr (x : Str) : Rl := rV (.str x)
abbrev rBl (b : Bool) : Rl := rV (.bl b)
abbrev rNon : Rl := rV .non
abbrev rRef (a : Addr) : Rl := rV (.ref a)
/-- one of a family -/
def rEx {ι : Type} (f : ι → Rl) : Rl := ⟨fun G v => ∃ i, (f i).P G v, fun e ⟨i, h⟩ => ⟨i, (f i).mono e h⟩⟩
def rAnd (p : Prop) (r : Rl) : Rl := ⟨fun G v => p ∧ r.P G v, fun e h => ⟨h.1, r.mono e h.2⟩⟩
/-- pointwise -/
abbrev Al (G : Hp) (rs : List Rl) (vs : List V) : Prop := Paired (fun (r : Rl) v => r.P G v) rs vs
theorem Al.mono {G G' : Hp} (e : Le G G') : ∀ {rs : List Rl} {vs : List V}, Al G rs vs → Al G' rs vs
  | _, _, .nil => .nil
  | _, _, .cons h t => .cons (Rl.mono _ e h) (Al.mono e t)
theorem Al.length {G : Hp} {rs : List Rl} {vs : List V} (h : Al G rs vs) : rs.length = vs.length := Paired.length h
theorem Al.get {G : Hp} : ∀ {rs : List Rl} {vs : List V} {i : Nat} {r : Rl}, Al G rs vs → rs[i]? = some r → ∃ v, vs[i]? = some v ∧ r.P G v
  | _, _, _, _, .nil, e => by simp at e
  | _, _, 0, _, .cons h _, e => by simp at e; subst e; exact ⟨_, rfl, h⟩
  | _, _, i + 1, r, .cons _ t, e => by
    obtain ⟨v, h1, h2⟩ := Al.get (i := i) (r := r) t (by simpa using e)
    exact ⟨v, by simpa using h1, h2⟩
theorem Al.at {G : Hp} : ∀ {rs : List Rl} {vs : List V} {i : Nat} {v : V}, Al G rs vs → vs[i]? = some v → ∃ r, rs[i]? = some r ∧ r.P G v
  | _, _, _, _, .nil, e => by simp at e
  | _, _, 0, _, .cons h _, e => by simp at e; subst e; exact ⟨_, rfl, h⟩
  | _, _, i + 1, v, .cons _ t, e => by
    obtain ⟨r, h1, h2⟩ := Al.at (i := i) (v := v) t (by simpa using e)
    exact ⟨r, by simpa using h1, h2⟩
theorem Al.append {G : Hp} : ∀ {rs ss : List Rl} {vs ws : List V}, Al G rs vs → Al G ss ws → Al G (rs ++ ss) (vs ++ ws)
  | _, _, _, _, .nil, s => s
  | _, _, _, _, .cons r t, s => .cons r (Al.append t s)
theorem Al.take {G : Hp} : ∀ {rs : List Rl} {vs : List V} (n : Nat), Al G rs vs → Al G (rs.take n) (vs.take n)
  | _, _, 0, _ => .nil
  | _, _, _ + 1, .nil => .nil
  | _, _, n + 1, .cons r t => .cons r (Al.take n t)
theorem Al.drop {G : Hp} : ∀ {rs : List Rl} {vs : List V} (n : Nat), Al G rs vs → Al G (rs.drop n) (vs.drop n)
  | _, _, 0, r => r
  | _, _, _ + 1, .nil => .nil
  | _, _, n + 1, .cons _ t => Al.drop n t
theorem Al.reverse {G : Hp} : ∀ {rs : List Rl} {vs : List V}, Al G rs vs → Al G rs.reverse vs.reverse
  | _, _, .nil => .nil
  | _, _, .cons r t => by
    rw [List.reverse_cons, List.reverse_cons]
    exact (Al.reverse t).append (.cons r .nil)
/-- values that are told outright -/
theorem Al.vals {G : Hp} {α : Type} {f : α → V} : ∀ {xs : List α} {vs : List V}, Al G (xs.map fun x => rV (f x)) vs → vs = xs.map f
  | [], _, .nil => rfl
  | x :: xs, _, .cons h t => by
    have h : _ = f x := h
    rw [List.map_cons, ← h, ← Al.vals t]
theorem Al.of_vals {G : Hp} {α : Type} {f : α → V} : ∀ {xs : List α}, Al G (xs.map fun x => rV (f x)) (xs.map f)
  | [] => .nil
  | x :: xs => .cons rfl Al.of_vals
section
variable (K : PySem.W.Frag)
def rTup (rs : List Rl) : Rl := ⟨fun G v => ∃ a vs, v = .ref a ∧ SqT K G a vs ∧ Al G rs vs, fun e ⟨a, vs, h1, h2, h3⟩ => ⟨a, vs, h1, e.seqT h2, h3.mono e⟩⟩
def rLst (rs : List Rl) : Rl := ⟨fun G v => ∃ a vs, v = .ref a ∧ SqL K G a vs ∧ Al G rs vs, fun e ⟨a, vs, h1, h2, h3⟩ => ⟨a, vs, h1, e.seqL h2, h3.mono e⟩⟩
end
/-- a dict's pairs -/
def DAl (G : Hp) (ks : List (Key × Rl)) (vs : List (Key × V)) : Prop := Paired (fun (r : Key × Rl) (v : Key × V) => r.1 = v.1 ∧ r.2.P G v.2) ks vs
theorem DAl.mono {G G' : Hp} (e : Le G G') {ks : List (Key × Rl)} {vs : List (Key × V)} (h : DAl G ks vs) : DAl G' ks vs := L2.Paired.mapP h fun a _ q => ⟨q.1, a.2.mono e q.2⟩
def rDct (ks : List (Key × Rl)) : Rl := ⟨fun G v => ∃ a vs, v = .ref a ∧ Rd G a (.dK vs) ∧ DAl G ks vs, fun e ⟨a, vs, h1, h2, h3⟩ => ⟨a, vs, h1, e.rd nf_dK h2, h3.mono e⟩⟩

/-! ### modes: what may change beside, and what holds of it -/
structure Md where
  W : List Addr
  J : Hp → Prop
  st : ∀ {H H' : Hp}, (∀ b ∈ W, ∀ o, H b = some o → H' b = some o) → J H → J H'
  dom : ∀ {H : Hp}, J H → ∀ b ∈ W, H b ≠ none
def md0 : Md := ⟨[], fun _ => True, fun _ h => h, fun _ _ z => nomatch z⟩
/-- where one stands -/
structure At (M : Md) (G H : Hp) : Prop where
  le : Le G H
  j : M.J H
theorem Gr.at0 {W : List Addr} {G H G1 H1 : Hp} (a : Gr W G H G1 H1) : At md0 G1 H1 := ⟨a.gh, trivial⟩
/-- (G, H) grows, in a mode -/
structure Go (M : Md) (G H G' H' : Hp) : Prop where
  gr : Gr M.W G H G' H'
  j : M.J H'
section
variable {M : Md} {G H G1 H1 G2 H2 : Hp}
theorem Go.at (a : Go M G H G1 H1) : At M G1 H1 := ⟨a.gr.gh, a.j⟩
theorem At.go (a : At M G H) : Go M G H G H := ⟨.refl a.le, a.j⟩
theorem Go.trans (a : Go M G H G1 H1) (b : Go M G1 H1 G2 H2) : Go M G H G2 H2 := ⟨a.gr.trans b.gr, b.j⟩
theorem Go.gg (a : Go M G H G1 H1) : Le G G1 := a.gr.gg
theorem Gr.go {W' : List Addr} (a : Gr [] G H G1 H1) (j : M.J H) : Go M G H G1 H1 := ⟨a.nil, M.st (fun b _ o e => a.hh b o e fun z => nomatch z) j⟩
theorem Go.pure (a : Gr [] G H G1 H1) (j : M.J H) : Go M G H G1 H1 := Gr.go (W' := []) a j
theorem At.new (a : At M G H) {p : Addr} {o : HO} (hp : H p = none) : Go M G H (upd G p o) (upd H p o) := Go.pure (Gr.new a.le hp) a.j
theorem At.own (a : At M G H) {p : Addr} {o : HO} (hp : H p = none) : Go M G H G (upd H p o) := Go.pure (Gr.own a.le hp) a.j
/-- a change outside of W -/
theorem At.put (a : At M G H) {p : Addr} {o : HO} (hg : G p = none) (n : p ∉ M.W) : At M G (upd H p o) :=
  ⟨a.le.mut hg, M.st (fun b hb u e => by rw [upd_ne (show b ≠ p from fun z => n (by rw [← z]; exact hb))]; exact e) a.j⟩
end

/-! ### what an expression gives -/
def Ev (M : Md) (te : TE) (σ : L2.St) (G H : Hp) (r : Rl) : Prop := ∀ G1 H1, Go M G H G1 H1 → ∀ Q : VK, (∀ v G2 H2, Go M G1 H1 G2 H2 → r.P G2 v → Q v H2) → te σ H1 Q
def EvT (M : Md) (tt : TT) (σ : L2.St) (G H : Hp) (B : Bool → Prop) : Prop := ∀ G1 H1, Go M G H G1 H1 → ∀ Q : Bool → Hp → Prop, (∀ b G2 H2, Go M G1 H1 G2 H2 → B b → Q b H2) → tt σ H1 Q
def EvA (M : Md) (ta : TA) (σ : L2.St) (G H : Hp) (rs : List Rl) : Prop := ∀ G1 H1, Go M G H G1 H1 → ∀ Q : List V → Hp → Prop, (∀ vs G2 H2, Go M G1 H1 G2 H2 → Al G2 rs vs → Q vs H2) → ta σ H1 Q
section
variable {K : PySem.W.Frag} {M : Md} {σ : L2.St} {G H G' H' : Hp} {ta tb te tc : TE} {t u : TT} {r s : Rl} {v v0 : V} {i j : Int} {n m : Nat} {rs ss : List Rl}
theorem Ev.mono (h : Ev M te σ G H r) (e : Go M G H G' H') : Ev M te σ G' H' r := fun G1 H1 a Q q => h G1 H1 (e.trans a) Q q
theorem EvT.mono {B : Bool → Prop} (h : EvT M t σ G H B) (e : Go M G H G' H') : EvT M t σ G' H' B := fun G1 H1 a Q q => h G1 H1 (e.trans a) Q q
theorem EvA.mono {ta : TA} (h : EvA M ta σ G H rs) (e : Go M G H G' H') : EvA M ta σ G' H' rs := fun G1 H1 a Q q => h G1 H1 (e.trans a) Q q
theorem Ev.imp (h : Ev M te σ G H r) (k : ∀ G v, r.P G v → s.P G v) : Ev M te σ G H s := fun G1 H1 a Q q => h G1 H1 a Q fun v G2 H2 b p => q v G2 H2 b (k G2 v p)
theorem Ev.of (h : Ev M te σ G H r) (e : r = s) : Ev M te σ G H s := e ▸ h
theorem EvT.of {B B' : Bool → Prop} (h : EvT M t σ G H B) (k : ∀ b, B b → B' b) : EvT M t σ G H B' := fun G1 H1 a Q q => h G1 H1 a Q fun v G2 H2 b p => q v G2 H2 b (k v p)
theorem ev_var {i : Nat} (h : σ[i]? = some (some v)) (p : r.P G v) : Ev M (tVar i) σ G H r := fun G1 H1 a Q q => ⟨v, h, q v G1 H1 a.at.go (r.mono a.gg p)⟩
theorem ev_val {i : Nat} (h : σ[i]? = some (some v)) : Ev M (tVar i) σ G H (rV v) := ev_var h rfl
theorem ev_c : Ev M (tC v) σ G H (rV v) := fun G1 H1 a Q q => q v G1 H1 a.at.go rfl
theorem ea_nil : EvA M tNil σ G H [] := fun G1 H1 a Q q => q [] G1 H1 a.at.go .nil
theorem ea_cons {tr : TA} (h : Ev M te σ G H r) (k : EvA M tr σ G H rs) : EvA M (tCons te tr) σ G H (r :: rs) := fun G1 H1 a Q q =>
  h G1 H1 a _ fun v G2 H2 b p => k G2 H2 (a.trans b) _ fun vs G3 H3 c ps => q (v :: vs) G3 H3 (b.trans c) (.cons (r.mono c.gg p) ps)
/-- a two-place operation on values -/
def RV (M : Md) (op : R2) (r s : Rl) (G H : Hp) (z : Rl) : Prop := ∀ G1 H1 x y, Go M G H G1 H1 → r.P G1 x → s.P G1 y → ∀ Q : VK, (∀ v G2 H2, Go M G1 H1 G2 H2 → z.P G2 v → Q v H2) → op x y H1 Q
theorem ev_op {op : R2} {z : Rl} (ha : Ev M ta σ G H r) (hb : Ev M tb σ G H s) (hr : RV M op r s G H z) : Ev M (tOp op ta tb) σ G H z := fun G1 H1 a Q q =>
  ha G1 H1 a _ fun x G2 H2 b p => hb G2 H2 (a.trans b) _ fun y G3 H3 c p' => hr G3 H3 x y ((a.trans b).trans c) (r.mono c.gg p) p' Q fun v G4 H4 d p'' => q v G4 H4 ((b.trans c).trans d) p''
theorem ev_un {op : V → Hp → VK → Prop} {z : Rl} (ha : Ev M ta σ G H r) (hr : ∀ G1 H1 x, Go M G H G1 H1 → r.P G1 x → ∀ Q : VK, (∀ v G2 H2, Go M G1 H1 G2 H2 → z.P G2 v → Q v H2) → op x H1 Q) : Ev M (tUn op ta) σ G H z := fun G1 H1 a Q q =>
  ha G1 H1 a _ fun x G2 H2 b p => hr G2 H2 x (a.trans b) p Q fun v G4 H4 d p'' => q v G4 H4 (b.trans d) p''
theorem rv_I0 {g : Int → Int → V} : RV M (rI0 g) (rInt i) (rInt j) G H (rV (g i j)) := fun G1 H1 x y a p q Q k => ⟨i, j, p, q, k _ G1 H1 a.at.go rfl⟩
theorem rv_I {C : Int → Int → Prop} {g : Int → Int → V} (hc : C i j) : RV M (rI C g) (rInt i) (rInt j) G H (rV (g i j)) := fun G1 H1 x y a p q Q k => ⟨i, j, p, q, hc, k _ G1 H1 a.at.go rfl⟩
theorem ev_I0 {g : Int → Int → V} (ha : Ev M ta σ G H (rInt i)) (hb : Ev M tb σ G H (rInt j)) : Ev M (tOp (rI0 g) ta tb) σ G H (rV (g i j)) := ev_op ha hb rv_I0
theorem ev_I {C : Int → Int → Prop} {g : Int → Int → V} (ha : Ev M ta σ G H (rInt i)) (hb : Ev M tb σ G H (rInt j)) (hc : C i j) : Ev M (tOp (rI C g) ta tb) σ G H (rV (g i j)) := ev_op ha hb (rv_I hc)
theorem ev_eq {x y : V} (ha : Ev M ta σ G H (rV x)) (hb : Ev M tb σ G H (rV y)) (h : scal x y = true) : Ev M (tOp rEq ta tb) σ G H (rBl (decide (x = y))) :=
  ev_op ha hb fun G1 H1 x' y' a p q Q k => by
    have p : x' = x := p
    have q : y' = y := q
    subst p q
    exact ⟨h, k _ G1 H1 a.at.go rfl⟩
theorem ev_ne {x y : V} (ha : Ev M ta σ G H (rV x)) (hb : Ev M tb σ G H (rV y)) (h : scal x y = true) : Ev M (tOp rNe ta tb) σ G H (rBl (!decide (x = y))) :=
  ev_op ha hb fun G1 H1 x' y' a p q Q k => by
    have p : x' = x := p
    have q : y' = y := q
    subst p q
    exact ⟨h, k _ G1 H1 a.at.go rfl⟩
/-- x[i] of a tuple, of a frozen list -/
theorem ev_ixT (ha : Ev M ta σ G H (rTup K rs)) (hb : Ev M tb σ G H (rInt i)) (h : atI rs i = some r) : Ev M (tOp (rIxT K) ta tb) σ G H r :=
  ev_op ha hb fun G1 H1 x y a p q Q k => by
    obtain ⟨b, vs, rfl, h2, h3⟩ := p
    have q : y = .int i := q
    unfold atI at h
    cases e : ixN rs.length i with
    | none => rw [e] at h; cases h
    | some j =>
      rw [e] at h
      obtain ⟨v, hv, hp⟩ := h3.get (show rs[j]? = some r from h)
      refine ⟨b, vs, i, v, rfl, q, a.at.le.seqT h2, ?_, k v G1 H1 a.at.go hp⟩
      unfold atI
      rw [← h3.length, e]
      exact hv
theorem ev_ixL (ha : Ev M ta σ G H (rLst K rs)) (hb : Ev M tb σ G H (rInt i)) (h : atI rs i = some r) : Ev M (tOp (rIxL K) ta tb) σ G H r :=
  ev_op ha hb fun G1 H1 x y a p q Q k => by
    obtain ⟨b, vs, rfl, h2, h3⟩ := p
    have q : y = .int i := q
    unfold atI at h
    cases e : ixN rs.length i with
    | none => rw [e] at h; cases h
    | some j =>
      rw [e] at h
      obtain ⟨v, hv, hp⟩ := h3.get (show rs[j]? = some r from h)
      refine ⟨b, vs, i, v, rfl, q, a.at.le.seqL h2, ?_, k v G1 H1 a.at.go hp⟩
      unfold atI
      rw [← h3.length, e]
      exact hv
theorem ev_ixS {z : Str} {c : Nat} (ha : Ev M ta σ G H (rStr z)) (hb : Ev M tb σ G H (rInt i)) (hz : z.length ≤ sizeLine) (h : atI z.cps.toList i = some c) : Ev M (tOp rIxS ta tb) σ G H (rStr ⟨#[c]⟩) :=
  ev_op ha hb fun G1 H1 x y a p q Q k => ⟨z, i, c, p, q, hz, h, k _ G1 H1 a.at.go rfl⟩
theorem ev_addS {x y : Str} {op : R2} (ha : Ev M ta σ G H (rStr x)) (hb : Ev M tb σ G H (rStr y)) (hz : x.length + y.length ≤ sizeLine) :
    Ev M (tOp (fun x y H Q => ∃ i j, x = .str i ∧ y = .str j ∧ i.length + j.length ≤ sizeLine ∧ Q (.str (i ++ j)) H) ta tb) σ G H (rStr (x ++ y)) :=
  ev_op ha hb fun G1 H1 x' y' a p q Q k => ⟨x, y, p, q, hz, k _ G1 H1 a.at.go rfl⟩
/-- new tuples, new lists -/
theorem Al.bound {G : Hp} {rs : List Rl} {vs : List V} (h : Al G rs vs) (hl : rs.length ≤ 100000) : vs.length ≤ sizeLine := by
  rw [← h.length]
  exact Nat.le_trans hl (by decide)
theorem ev_tup {ta : TA} (h : EvA M ta σ G H rs) (hl : rs.length ≤ 100000 := by decide) : Ev M (tTup ta) σ G H (rTup K rs) := fun G1 H1 a Q q =>
  h G1 H1 a _ fun vs G2 H2 b ps => ⟨ps.bound hl, fun p hp => by
    have c := b.at.new (o := .tup vs) hp
    exact q _ _ _ (b.trans c) ⟨p, vs, rfl, .of upd_same, ps.mono c.gg⟩⟩
theorem ev_lst {ta : TA} (h : EvA M ta σ G H rs) (hl : rs.length ≤ 100000 := by decide) : Ev M (tLst ta) σ G H (rLst K rs) := fun G1 H1 a Q q =>
  h G1 H1 a _ fun vs G2 H2 b ps => ⟨ps.bound hl, fun p hp => by
    have c := b.at.new (o := .lst vs) hp
    exact q _ _ _ (b.trans c) ⟨p, vs, rfl, .of upd_same, ps.mono c.gg⟩⟩
/-- tests -/
theorem et_test {b : Bool} (h : Ev M te σ G H (rBl b)) : EvT M (tTest te) σ G H (· = b) := fun G1 H1 a Q q => h G1 H1 a _ fun v G2 H2 c p => by
  have p : v = .bl b := p
  exact ⟨b, p, q b G2 H2 c rfl⟩
theorem et_B {b : Bool} (h : Ev M te σ G H (rBl b)) : EvT M (tB te) σ G H (· = b) := fun G1 H1 a Q q => h G1 H1 a _ fun v G2 H2 c p => by
  have p : v = .bl b := p
  exact ⟨b, p, q b G2 H2 c rfl⟩
theorem et_and {a b : Bool} (h1 : EvT M t σ G H (· = a)) (h2 : a = true → EvT M u σ G H (· = b)) : EvT M (tAnd t u) σ G H (· = (a && b)) := fun G1 H1 e Q q => h1 G1 H1 e _ fun c G2 H2 e2 p => by
  subst p
  cases c with
  | true =>
    show u σ H2 Q
    exact h2 rfl G2 H2 (e.trans e2) Q fun d G3 H3 e3 p => q d G3 H3 (e2.trans e3) p
  | false =>
    show Q false H2
    exact q _ G2 H2 e2 rfl
theorem et_or {a b : Bool} (h1 : EvT M t σ G H (· = a)) (h2 : a = false → EvT M u σ G H (· = b)) : EvT M (tOr t u) σ G H (· = (a || b)) := fun G1 H1 e Q q => h1 G1 H1 e _ fun c G2 H2 e2 p => by
  subst p
  cases c with
  | false =>
    show u σ H2 Q
    exact h2 rfl G2 H2 (e.trans e2) Q fun d G3 H3 e3 p => q d G3 H3 (e2.trans e3) p
  | true =>
    show Q true H2
    exact q _ G2 H2 e2 rfl
theorem et_not {a : Bool} (h1 : EvT M t σ G H (· = a)) : EvT M (tNot t) σ G H (· = !a) := fun G1 H1 e Q q => h1 G1 H1 e _ fun c G2 H2 e2 p => q (!c) G2 H2 e2 (by subst p; rfl)
theorem EvT.to {a b : Bool} (h1 : EvT M t σ G H (· = a)) (e : a = b) : EvT M t σ G H (· = b) := e ▸ h1
theorem ev_andV {a b : Bool} (h1 : Ev M ta σ G H (rBl a)) (h2 : a = true → Ev M tb σ G H (rBl b)) : Ev M (tAndV ta tb) σ G H (rBl (a && b)) := fun G1 H1 e Q q => h1 G1 H1 e _ fun c G2 H2 e2 p => by
  have p : c = .bl a := p
  refine ⟨a, p, ?_⟩
  cases a with
  | true =>
    show tb σ H2 Q
    exact h2 rfl G2 H2 (e.trans e2) Q fun d G3 H3 e3 p => q d G3 H3 (e2.trans e3) p
  | false =>
    show Q (.bl false) H2
    exact q _ G2 H2 e2 rfl
theorem ev_orV {a b : Bool} (h1 : Ev M ta σ G H (rBl a)) (h2 : a = false → Ev M tb σ G H (rBl b)) : Ev M (tOrV ta tb) σ G H (rBl (a || b)) := fun G1 H1 e Q q => h1 G1 H1 e _ fun c G2 H2 e2 p => by
  have p : c = .bl a := p
  refine ⟨a, p, ?_⟩
  cases a with
  | false =>
    show tb σ H2 Q
    exact h2 rfl G2 H2 (e.trans e2) Q fun d G3 H3 e3 p => q d G3 H3 (e2.trans e3) p
  | true =>
    show Q (.bl true) H2
    exact q _ G2 H2 e2 rfl
theorem ev_notV {a : Bool} (h1 : Ev M ta σ G H (rBl a)) : Ev M (tNotV ta) σ G H (rBl (!a)) := fun G1 H1 e Q q => h1 G1 H1 e _ fun c G2 H2 e2 p => by
  have p : c = .bl a := p
  exact ⟨a, p, q _ G2 H2 e2 rfl⟩
theorem ev_if {B : Bool → Prop} (h : EvT M t σ G H B) (h1 : B true → Ev M ta σ G H r) (h2 : B false → Ev M tb σ G H r) : Ev M (tIf t ta tb) σ G H r := fun G1 H1 e Q q => h G1 H1 e _ fun c G2 H2 e2 p => by
  cases c with
  | true =>
    show ta σ H2 Q
    exact h1 p G2 H2 (e.trans e2) Q fun d G3 H3 e3 p => q d G3 H3 (e2.trans e3) p
  | false =>
    show tb σ H2 Q
    exact h2 p G2 H2 (e.trans e2) Q fun d G3 H3 e3 p => q d G3 H3 (e2.trans e3) p
end
end TH
/-! len(set(xs)) of texts, any number of them. -/
namespace TH
open PySem PySem.Spec PyProof.Rows L2
/-! ### one of each -/
def ddS (acc : List Str) : List Str → List Str
  | [] => acc
  | x :: r => ddS (if x ∈ acc then acc else acc ++ [x]) r
theorem ddS_snoc : ∀ (l acc : List Str) (x : Str), ddS acc (l ++ [x]) = if x ∈ ddS acc l then ddS acc l else ddS acc l ++ [x]
  | [], acc, x => rfl
  | y :: l, acc, x => ddS_snoc l _ x
theorem ddS_mem : ∀ (l acc : List Str) (x : Str), x ∈ ddS acc l ↔ x ∈ acc ∨ x ∈ l
  | [], acc, x => by simp [ddS]
  | y :: l, acc, x => by
    show x ∈ ddS (if y ∈ acc then acc else acc ++ [y]) l ↔ _
    rw [ddS_mem l]
    by_cases h : y ∈ acc
    · rw [if_pos h]
      constructor
      · rintro (a | a)
        · exact .inl a
        · exact .inr (List.mem_cons_of_mem _ a)
      · rintro (a | a)
        · exact .inl a
        · rcases List.mem_cons.mp a with rfl | a
          · exact .inl h
          · exact .inr a
    · rw [if_neg h]
      simp only [List.mem_append, List.mem_cons]
      constructor
      · rintro ((a | a | a) | a)
        · exact .inl a
        · exact .inr (.inl a)
        · cases a
        · exact .inr (.inr a)
      · rintro (a | a | a)
        · exact .inl (.inl a)
        · exact .inl (.inr (.inl a))
        · exact .inr a
theorem ddS_le : ∀ (l acc : List Str), (ddS acc l).length ≤ acc.length + l.length
  | [], acc => Nat.le_refl _
  | y :: l, acc => by
    have h := ddS_le l (if y ∈ acc then acc else acc ++ [y])
    show (ddS (if y ∈ acc then acc else acc ++ [y]) l).length ≤ _
    by_cases c : y ∈ acc
    · rw [if_pos c] at h ⊢
      rw [List.length_cons]
      omega
    · rw [if_neg c] at h ⊢
      rw [List.length_append, List.length_singleton] at h
      rw [List.length_cons]
      omega
/-- as many as there are: none twice -/
theorem ddS_eq : ∀ (l acc : List Str), (ddS acc l).length = acc.length + l.length ↔ l.Nodup ∧ ∀ x ∈ l, x ∉ acc
  | [], acc => by simp [ddS]
  | y :: l, acc => by
    show (ddS (if y ∈ acc then acc else acc ++ [y]) l).length = _ ↔ _
    by_cases c : y ∈ acc
    · rw [if_pos c]
      have h := ddS_le l acc
      rw [List.length_cons]
      constructor
      · intro e; omega
      · intro ⟨_, e⟩; exact absurd c (e y List.mem_cons_self)
    · rw [if_neg c]
      have ih := ddS_eq l (acc ++ [y])
      rw [List.length_append, List.length_singleton] at ih
      rw [List.length_cons, show acc.length + (l.length + 1) = acc.length + 1 + l.length by omega, ih, List.nodup_cons]
      constructor
      · rintro ⟨h1, h2⟩
        refine ⟨⟨fun m => h2 y m (by simp), h1⟩, fun x hx => ?_⟩
        rcases List.mem_cons.mp hx with rfl | hx
        · exact c
        · exact fun m => h2 x hx (by simp [m])
      · rintro ⟨⟨h1, h2⟩, h3⟩
        refine ⟨h2, fun x hx m => ?_⟩
        rcases List.mem_append.mp m with m | m
        · exact h3 x (List.mem_cons_of_mem _ hx) m
        · rw [List.mem_singleton] at m
          subst m
          exact h1 hx
theorem ddS_nodup (l : List Str) : (ddS [] l).length = l.length ↔ l.Nodup := by
  have h := ddS_eq l []
  simpa using h
/-! ### the set that a list is made into -/
/-- the set at S holds what stands among the first i -/
def HoldsF (P : Program) (w : World) (h : Heap) (S : Addr) (xs : List Str) (i : Nat) : Prop := h.SetOf (PySem.strKind P w) S (fun k => decide (k ∈ xs.take i)) (ddS [] (xs.take i)).length
theorem HoldsF.at {P : Program} {w : World} {h h' : Heap} {S : Addr} {xs : List Str} {i : Nat} (x : HoldsF P w h S xs i) (k : ∀ o, h.get? S = some o → h'.get? S = some o) : HoldsF P w h' S xs i := by
  obtain ⟨o, es, ep, t, ho, rest⟩ := x
  exact ⟨o, es, ep, t, k o ho, rest⟩
section
variable {P : Program} {w : World} {A : Around} {E : Value → Shared → Prop} {s : Shared} {S : Addr} {xs : List Str}
/-- one more is put in -/
theorem put_one {i : Nat} {x : Str} {t : Tok} {Q : Bool → Shared → Prop} (hx : xs[i]? = some x) (hs : HoldsF P w s.heap S xs i) (hb : xs.length < 4000)
    (h : ∀ (b : Bool) (h' : Heap), Heap.SameBut S s.heap h' → HoldsF P w h' S xs (i + 1) → Q b { s with heap := h', toks := s.toks + 1 }) : wpAny (model P w) A (setAdd S (.str x t)) Q E s := by
  have hi : i < xs.length := (List.getElem?_eq_some_iff.mp hx).1
  have e1 : xs.take (i + 1) = xs.take i ++ [x] := by rw [List.take_succ, hx]; rfl
  have hl := ddS_le (xs.take i) []
  have hl2 := List.length_take_le i xs
  unfold setAdd
  refine wpAny_holding (wpAny_bind ((PySem.strKind P w).pyHash (strKind_is _ _ x t) ?_))
  refine wpAny_setAddHashed_of (knd := PySem.strKind P w) (s := { s with toks := s.toks + 1 }) (strKind_is _ _ x t) rfl hs (by
    have : scanBound = 4096 := rfl
    simp only [List.length_nil] at hl
    omega) fun h' sb new => ?_
  refine h _ h' sb ?_
  refine SetOf_congr new (fun k => ?_) ?_
  · rw [e1]
    by_cases c : k ∈ xs.take i
    · simp [c]
    · by_cases d : k = x
      · subst d; simp
      · simp [c, d]
  · rw [e1, ddS_snoc]
    by_cases c : x ∈ xs.take i
    · have c' : x ∈ ddS [] (xs.take i) := (ddS_mem _ _ _).mpr (.inr c)
      rw [if_pos c']
      simp [c]
    · have c' : x ∉ ddS [] (xs.take i) := fun m => by
        rcases (ddS_mem _ _ _).mp m with m | m
        · cases m
        · exact c m
      rw [if_neg c']
      simp [c]
end
section
variable {P : Program} {w : World} {A : Around} {R : Result → Shared → Prop} {I S : Addr} {fp wr : List Addr} {Gg : Array GenState → Array GenState → Prop} {n : Nat} {Pv : Nat → Value → Prop} {St : Nat → Shared → Prop} {xs : List Str}
theorem put_all (Wk : WalksS P w A.in1 I fp wr Gg n Pv St) (nf : S ∉ fp) (en : xs.length = n) (hb : xs.length < 4000) (hv : ∀ i v, Pv i v → ∃ (x : Str) (t : Tok), xs[i]? = some x ∧ v = Value.str x t) :
    ∀ (k i : Nat) (s : Shared), i + k = n → St i s → HoldsF P w s.heap S xs i → (∀ s', Moved (S :: wr) Gg s s' → HoldsF P w s'.heap S xs n → R (.ok (.ret .none)) s') →
      codeAny (model P w) A (.builtin "set.update.loop" ⟨[.ref S, .ref I], []⟩) R s := by
  have nw : S ∉ wr := fun z => nf (Wk.sub _ z)
  intro k
  induction k with
  | zero =>
    intro i s e st hs hR
    obtain rfl : i = n := e
    refine codeAny_builtin PyProof.Rows.F.entry_set_update_loop ?_
    rw [Around.under_plainId PyProof.Rows.F.plain_set_update_loop _]
    refine wpAny_bind (Wk.done s _ _ st fun s1 m1 => ?_)
    exact wpAny_pure (hR s1 (m1.mono fun _ z => List.mem_cons_of_mem _ z) (hs.at fun o q => m1.heap S o nw q))
  | succ k ih =>
    intro i s e st hs hR
    have hlt : i < n := by omega
    refine codeAny_builtin PyProof.Rows.F.entry_set_update_loop ?_
    rw [Around.under_plainId PyProof.Rows.F.plain_set_update_loop _]
    refine wpAny_bind (Wk.item i s _ _ hlt st fun v s1 pv st1 m1 => ?_)
    obtain ⟨x, t, hx, rfl⟩ := hv i v pv
    have hs1 : HoldsF P w s1.heap S xs i := hs.at fun o q => m1.heap S o nw q
    refine wpAny_bind (wpAny_holding (put_one hx hs1 hb fun b h' sb new => ?_))
    have old : ∀ b, b ≠ S → ∀ o, s1.heap.get? b = some o → h'.get? b = some o := fun b hn o q => (sb.2 b hn).trans q
    refine wpAny_pure ⟨plainId_quiet PyProof.Rows.F.plain_set_update_loop _, ih (i + 1) _ (by omega) (Wk.frame _ s1 _ _ st1 (Nat.le_succ _) fun b hb => old b fun z => nf (z ▸ hb)) new fun s2 m2 hs2 => ?_⟩
    exact hR s2 (Moved.trans Wk.gtrans ((m1.mono fun _ z => List.mem_cons_of_mem _ z).then_heap (Nat.le_succ _) fun b o hb q => old b (fun z => hb (z ▸ List.mem_cons_self)) o q) m2) hs2
end
section
variable {P : Program} {w : World} {A : Around} {E : Value → Shared → Prop} {s : Shared}
/-- set(xs) of a list, of a tuple of texts -/
theorem set_of_seq {T : String} {l : Addr} {items : Array Value} {xs : List Str} {Q : Value → Shared → Prop} (hT : T = "list" ∨ T = "tuple") (hh : A.handled = none) (hl : ∃ o, s.heap.get? l = some o ∧ o.cls = .type T ∧ ∃ n, o.data = .seq items n)
    (hv : ∀ (i : Nat) (v : Value), items[i]? = some v → ∃ (x : Str) (t : Tok), xs[i]? = some x ∧ v = Value.str x t) (en : xs.length = items.size) (hb : xs.length < 4000)
    (h : ∀ (h' : Heap) (tk : Nat), HoldsF P w h' s.heap.objs.size xs xs.length → (∀ b o, s.heap.get? b = some o → h'.get? b = some o) → Q (.ref s.heap.objs.size) { s with heap := h', toks := tk }) :
    wpAny (model P w) A (call (.type "set") [.ref l]) Q E s := by
  obtain ⟨c, tl, m1⟩ := PySem.F.called_set.mro
  have m2 := PySem.F.called_set.made
  have m3 := PySem.F.called_set.sub
  have m4 := PySem.F.called_set.notType
  have m5 := PySem.F.called_set.canCreate
  have m6 := PySem.F.typeCall_set_1 (.ref l)
  refine wpAny_call (codeAny_of_tree ?_)
  show wpAny _ _ (callAny (.type "set") _) _ _ _
  refine wpAny_pure ⟨Code.quiet_builtin _ (by decide +kernel), codeAny_builtin PySem.F.entry_type_call ?_⟩
  rw [Around.under_plain (weight_type_call_type "set" [.ref l] []) rfl]
  repeat (any_goals (first | assumption | wp_step))
  refine codeAny_mono (code_set_new_1 (.ref l) (E := E) (Q₁ := fun u s1 => ∃ led : Bool, u = .ref s.heap.objs.size ∧ s1 = { s with heap := s.heap.push { cls := .type "set", dict := none, data := .set #[] 0 (.fresh 0 0 led) } }) fun led => ⟨led, rfl, rfl⟩) fun r s1 hr => ?_
  have hr : ∃ led : Bool, r = .ok (.ret (.ref s.heap.objs.size)) ∧ s1 = { s with heap := s.heap.push { cls := .type "set", dict := none, data := .set #[] 0 (.fresh 0 0 led) } } ∨ ∃ e, r = .error e ∧ E e s1 := by
    cases r with
    | error e => exact ⟨true, .inr ⟨e, rfl, hr⟩⟩
    | ok fl =>
      cases fl with
      | ret u =>
        obtain ⟨led, a, b⟩ := hr
        exact ⟨led, .inl ⟨by rw [a], b⟩⟩
      | _ => exact hr.elim
  obtain ⟨led, ⟨rfl, rfl⟩ | ⟨e, rfl, he⟩⟩ := hr
  rotate_left
  · exact he
  have g0 : (s.heap.push { cls := .type "set", dict := none, data := .set #[] 0 (.fresh 0 0 led) }).get? s.heap.objs.size = some { cls := .type "set", dict := none, data := .set #[] 0 (.fresh 0 0 led) } := Heap.get?_push_size _ rfl
  have tT : Shared.TypeIs { s with heap := s.heap.push { cls := .type "set", dict := none, data := .set #[] 0 (.fresh 0 0 led) } } (.ref s.heap.objs.size) "set" := ⟨_, g0, rfl⟩
  have n1 := PySem.F.called_set.init.lookup
  have n2 := PySem.F.called_set.init.bind (.ref s.heap.objs.size)
  repeat (any_goals (first | assumption | wp_step))
  refine codeAny_mono (codeAny_call_builtin (R := wants (fun r s2 => r = .none ∧ ∃ h' tk, s2 = { s with heap := h', toks := tk } ∧ HoldsF P w h' s.heap.objs.size xs xs.length ∧ ∀ b o, s.heap.get? b = some o → h'.get? b = some o) E)
    PySem.F.called_set.init.plain PySem.F.entry_set_init (check_set_init_1 tT ?_)) fun r2 s2 hr2 => ?_
  · obtain ⟨ol, hol, hcl, nl, hdl⟩ := hl
    obtain ⟨ocls, odict, odata, oslots⟩ := ol
    simp only at hcl hdl
    subst hcl
    subst hdl
    have gl : (s.heap.push { cls := .type "set", dict := none, data := .set #[] 0 (.fresh 0 0 led) }).get? l = some { cls := .type T, dict := odict, data := .seq items nl, slots := oslots } := Heap.get?_push_of_some _ hol
    have s1 : isSubtype (.type T) (.type "set") = pure false := by
      rcases hT with rfl | rfl
      · exact PySem.F.sub_list_set
      · exact PySem.F.sub_tuple_set
    have s2 : isSubtype (.type T) (.type "frozenset") = pure false := by
      rcases hT with rfl | rfl
      · exact PySem.F.sub_list_frozenset
      · exact PySem.F.sub_tuple_frozenset
    have s3 : (Value.type T == Value.type "dict") = false := by
      rcases hT with rfl | rfl
      · decide
      · decide
    unfold Builtin.«set.__init__» noKeywords Builtin.Frozenset.updateFrom
    generalize hPI : pyIter = PI
    wp_walk
    subst hPI
    have l1 : l < s.heap.objs.size := Heap.lt_size hol
    have ln : l ≠ (s.heap.push { cls := .type "set", dict := none, data := .set #[] 0 (.fresh 0 0 led) }).objs.size := by
      rw [Heap.size_push]
      exact Nat.ne_of_lt (Nat.lt_succ_of_lt l1)
    have nf : s.heap.objs.size ∉ [(s.heap.push { cls := .type "set", dict := none, data := .set #[] 0 (.fresh 0 0 led) }).objs.size, l] := fun z => by
      rcases List.mem_cons.mp z with z | z
      · rw [Heap.size_push] at z
        exact absurd z (Nat.ne_of_lt (Nat.lt_succ_self _))
      · exact absurd (List.mem_singleton.mp z) (Nat.ne_of_gt l1)
    have fin : ∀ (it : Obj) (s' : Shared), Moved (s.heap.objs.size :: [(s.heap.push { cls := .type "set", dict := none, data := .set #[] 0 (.fresh 0 0 led) }).objs.size]) (fun a b => b = a) { s with heap := (s.heap.push { cls := .type "set", dict := none, data := .set #[] 0 (.fresh 0 0 led) }).push it } s' → HoldsF P w s'.heap s.heap.objs.size xs items.size →
        ∃ h' tk, s' = { s with heap := h', toks := tk } ∧ HoldsF P w h' s.heap.objs.size xs xs.length ∧ ∀ b o, s.heap.get? b = some o → h'.get? b = some o := fun it s' mv hs => by
      obtain ⟨h', g', d', tk', os'⟩ := s'
      have e1 : g' = s.gens := mv.gens
      have e2 : d' = s.drawn := mv.drawn
      have e3 : os' = s.os := mv.os
      subst e1 e2 e3
      refine ⟨h', tk', rfl, by rw [en]; exact hs, fun b o e => ?_⟩
      have b1 := Heap.lt_size e
      refine mv.heap b o (fun z => ?_) (Heap.get?_push_of_some _ (Heap.get?_push_of_some _ e))
      rcases List.mem_cons.mp z with z | z
      · exact absurd z (Nat.ne_of_lt b1)
      · rw [List.mem_singleton, Heap.size_push] at z
        exact absurd z (Nat.ne_of_lt (Nat.lt_succ_of_lt b1))
    rcases hT with rfl | rfl
    · have gi : (s.heap.push { cls := .type "set", dict := none, data := .set #[] 0 (.fresh 0 0 led) }).IsList l items := ⟨_, gl, rfl, nl, rfl⟩
      refine wpAny_pyIter_list gi (wpAny_bind (wpAny_runValue ?_))
      refine put_all ((Walks.list (by simp [hh]) _ l ln items).toS) nf en hb hv items.size 0 _ (Nat.zero_add _) ⟨⟨_, Heap.get?_push_size _ rfl, rfl, rfl⟩, gi.push _⟩ ?_ fun s' mv hs => ?_
      · exact SetOf_congr ((setObjOf_fresh (knd := PySem.strKind P w) led).setOf (Heap.get?_push_of_some _ g0) (by unfold scanBound; omega)) (fun k => by simp) rfl
      · exact wpAny_pure (wpAny_pure ⟨rfl, fin _ s' mv hs⟩)
    · have gi : (s.heap.push { cls := .type "set", dict := none, data := .set #[] 0 (.fresh 0 0 led) }).IsTuple l items := ⟨_, gl, rfl, nl, rfl⟩
      refine wpAny_pyIter_tuple gi (wpAny_bind (wpAny_runValue ?_))
      refine put_all ((Walks.tuple (by simp [hh]) _ l ln items).toS) nf en hb hv items.size 0 _ (Nat.zero_add _) ⟨⟨_, Heap.get?_push_size _ rfl, rfl, rfl⟩, gi.push _⟩ ?_ fun s' mv hs => ?_
      · exact SetOf_congr ((setObjOf_fresh (knd := PySem.strKind P w) led).setOf (Heap.get?_push_of_some _ g0) (by unfold scanBound; omega)) (fun k => by simp) rfl
      · exact wpAny_pure (wpAny_pure ⟨rfl, fin _ s' mv hs⟩)
  · cases r2 with
    | error e => exact hr2
    | ok fl =>
      cases fl with
      | ret u =>
        obtain ⟨rfl, h', tk, rfl, hs, hk⟩ := hr2
        repeat (any_goals (first | assumption | wp_step))
        exact h h' tk hs hk
      | _ => exact hr2.elim
end
/-- set(xs) of texts: the new set has so many -/
def SetF (P : Program) (w : World) (a : Addr) (xs : List Str) : HO := .ext fun h => HoldsF P w h a xs xs.length
def rSetS (K : PySem.W.Frag) (P : Program) (w : World) : List V → Hp → VK → Prop := fun vs H Q => ∃ (l : Addr) (xs : List Str), vs = [.ref l] ∧ (SqL K H l (xs.map V.str) ∨ SqT K H l (xs.map V.str)) ∧ xs.length < 4000 ∧ ∀ p, H p = none → Q (.ref p) (upd H p (SetF P w p xs))
def rLenSetS (P : Program) (w : World) : List V → Hp → VK → Prop := fun vs H Q => ∃ (a : Addr) (xs : List Str), vs = [.ref a] ∧ H a = some (SetF P w a xs) ∧ xs.length < 4000 ∧ Q (.int ((ddS [] xs).length : Nat)) H
section
variable {X : Cx}
theorem texts_at {xs : List Str} {its : List Value} (r : Vals (xs.map V.str) its) : (∀ (i : Nat) (v : Value), its.toArray[i]? = some v → ∃ (x : Str) (t : Tok), xs[i]? = some x ∧ v = Value.str x t) ∧ xs.length = its.toArray.size := by
  refine ⟨fun i v e => ?_, by rw [List.size_toArray, ← r.length, List.length_map]⟩
  have e' : its[i]? = some v := by rw [← e]; simp
  cases q : (xs.map V.str)[i]? with
  | none => rw [r.none_of q] at e'; cases e'
  | some y =>
    obtain ⟨u, hu, ru⟩ := r.get q
    rw [hu] at e'
    cases e'
    rw [List.getElem?_map] at q
    cases q2 : xs[i]? with
    | none => rw [q2] at q; cases q
    | some x =>
      rw [q2] at q
      cases q
      obtain ⟨t, rfl⟩ := ru
      exact ⟨x, t, rfl, rfl⟩
theorem cr_setS (hc : X.calm = true) : CallR X (.type "set") (rSetS X.K X.prog X.w) := by
  intro pins s σ H vs us Q I r h
  obtain ⟨l, xs, rfl, hq, hb, q⟩ := h
  rw [Vals.ref1 r]
  have fin : ∀ (h' : Heap) (tk : Nat), HoldsF X.prog X.w h' s.heap.objs.size xs xs.length → (∀ b o, s.heap.get? b = some o → h'.get? b = some o) → EP X pins σ Q (.ref s.heap.objs.size) { s with heap := h', toks := tk } := fun h' tk hs hk => by
    obtain ⟨o, es, ep, t, ho, rest⟩ := id hs
    refine ⟨.ref s.heap.objs.size, upd H s.heap.objs.size (SetF X.prog X.w s.heap.objs.size xs), I.laid (t' := tk) hk (Nat.le_refl _) ⟨hs, ⟨o, ho⟩, fun h1 h2 p k => HoldsF.at p k⟩, rfl, q _ (I.hok.fresh (Nat.le_refl _))⟩
  rcases hq with hq | hq
  · obtain ⟨its, rv, pl, hz⟩ := I.list hq
    obtain ⟨t1, t2⟩ := texts_at rv
    exact set_of_seq (.inl rfl) (I.ok.hd hc) pl.isList t1 t2 hb fin
  · obtain ⟨its, rv, pl, hz⟩ := I.tuple hq
    obtain ⟨t1, t2⟩ := texts_at rv
    exact set_of_seq (.inr rfl) (I.ok.hd hc) pl t1 t2 hb fin
theorem cr_lenSetS : CallR X (.builtin "len") (rLenSetS X.prog X.w) := by
  intro pins s σ H vs us Q I r h
  obtain ⟨a, xs, rfl, ha, hb, q⟩ := h
  rw [Vals.ref1 r]
  obtain ⟨o, es, ep, t, ho, hex, hd, _, _, _, hf, hn⟩ := (I.hok a _ ha).1
  have hn : es.size = (ddS [] (xs.take xs.length)).length := hn
  have hl := ddS_le xs []
  rw [List.take_length] at hn
  refine call_len_set ho hex hd hf (by rw [hn]; simp only [List.length_nil] at hl; omega) ⟨.int ((ddS [] xs).length : Nat), H, I.tok _, ⟨_, by rw [hn]⟩, q⟩
end
end TH
/-! A list grown by a tuple; a tuple's items numbered. -/
namespace TH
open PySem PySem.Spec PyProof.Rows L2
/-! ### xs.extend(t), t a tuple -/
theorem extend_tup (l : Addr) (items : Array Value) (n : Nat) (b : Addr) (ts : Array Value) (m : Nat) (dct : Option Addr) (sl : Array (Option Value))
    (ok : ¬ (!items.isEmpty && Builtin.List.listTooLong (items.size + ts.size)) = true) (h1 : items.size ≤ sizeLine) (h2 : items.size + ts.size ≤ sizeLine + 1) :
    Meets (Builtin.«list.extend» ⟨[.ref l, .ref b], []⟩) (fun _ R s => s.heap.get? l = some { cls := .type "list", dict := none, data := .seq items n, slots := #[] } ∧
      s.heap.get? b = some { cls := .type "tuple", dict := dct, data := .seq ts m, slots := sl } ∧
      R (.ok (.ret Value.none)) { s with heap := s.heap.update l (Obj.mapSeq (· ++ ts)) }) :=
  .of_wp fun prog w A R s h => by
    obtain ⟨hp, g, d, tk, os⟩ := s
    obtain ⟨g1, g2, h⟩ := h
    have f1 := PySem.AutoSeq1.sub_list_list
    have z : (items ++ ts).size ≤ sizeLine + 1 := by rw [Array.size_append]; exact h2
    wp_walk using (wpAny_updateSeq g1 rfl (hz := h1) (_hz' := z)), AutoSeq1.wpAny_loadPart' g1, AutoSeq1.wpAny_loadPart' g2
    exact ⟨_, rfl, h⟩
section
variable {X : Cx}
def rExtT (K : PySem.W.Frag) : V → List V → Hp → VK → Prop := fun x vs H Q => ∃ l b xs zs, x = .ref l ∧ vs = [.ref b] ∧ H l = some (.lst xs) ∧ SqT K H b zs ∧ xs.length + zs.length ≤ sizeLine ∧ Q .non (upd H l (.lst (xs ++ zs)))
theorem mt_extT : MtM X "list.extend" (rExtT X.K) := by
  intro pins s σ H x vs v us Q I rx rv h
  obtain ⟨l, b, xs, zs, rfl, rfl, hH, hB, hz, q⟩ := h
  cases rx
  obtain ⟨u, rfl, ru⟩ := rv.one
  cases ru
  obtain ⟨z, its, n, r, hl, e⟩ := I.lstM hH
  obtain ⟨its2, r2, ⟨ob, e2, hc2, m, hd2⟩, hl2⟩ := I.tuple hB
  obtain ⟨oc, od, dt, sl⟩ := ob
  simp only at hc2 hd2
  subst hc2 hd2
  have q2 := r2.length
  have big : its.toArray.size + its2.toArray.size ≤ sizeLine := by rw [List.size_toArray, List.size_toArray]; omega
  have ok : ¬ (!its.toArray.isEmpty && Builtin.List.listTooLong (its.toArray.size + its2.toArray.size)) = true := by
    rw [notLongL big, Bool.and_false]
    exact Bool.false_ne_true
  refine call_meets F.slot_list_extend ⟨_, e, rfl⟩ F.entry_list_extend (F.args_list_extend_2 _ _) (extend_tup l its.toArray n b its2.toArray m od sl ok (by rw [List.size_toArray]; omega) (by omega)) ⟨e, e2, ?_⟩
  refine ⟨.non, _, I.lset (its' := its ++ its2) hH e (by simp) (r.append r2) ?_, rfl, q⟩
  rw [List.length_append]
  omega
end
/-! ### enumerate(t), t a tuple -/
theorem enum_newT (l : Addr) (items : Array Value) (n : Nat) (dct : Option Addr) (sl : Array (Option Value)) :
    Meets (Builtin.«enumerate.__new__» ⟨[.type "enumerate", .ref l], []⟩) (fun _ R s => s.heap.get? l = some { cls := .type "tuple", dict := dct, data := .seq items n, slots := sl } ∧
      R (.ok (.ret (.ref (s.heap.push { cls := .type "tuple_iterator", data := .fields #[.ref l, .int 0 0] }).objs.size)))
        { s with heap := (s.heap.push { cls := .type "tuple_iterator", data := .fields #[.ref l, .int 0 0] }).push { cls := .type "enumerate", data := .fields #[.none, .bool false, .ref s.heap.objs.size, rawInt 0, .none, .none] } }) :=
  .of_wp fun prog w A R s h => by
    obtain ⟨hp, g, d, tk, os⟩ := s
    obtain ⟨g1, h⟩ := h
    have f1 := sub_enumerate
    have gT : Heap.IsTuple (Shared.heap ⟨hp, g, d, tk, os⟩) l items := ⟨_, g1, rfl, n, rfl⟩
    wp_walk using AutoSeq1.wpAny_loadPart' g1
    refine wpAny_stack_any fun st => wpAny_pure ?_
    split
    · rename_i c _ _ _ _ _
      cases (c == Value.type "enumerate")
      · wp_walk using AutoSeq1.wpAny_loadPart' g1, wpAny_pyIter_tuple gT
        exact ⟨_, rfl, h⟩
      · wp_walk using AutoSeq1.wpAny_loadPart' g1, wpAny_pyIter_tuple gT
        exact ⟨_, rfl, h⟩
    · wp_walk using AutoSeq1.wpAny_loadPart' g1, wpAny_pyIter_tuple gT
      exact ⟨_, rfl, h⟩
theorem call_enumT {prog : Program} {w : World} {A : Around} {E : Value → Shared → Prop} {s : Shared} {l : Addr} {items : Array Value} {Q : Value → Shared → Prop} (hT : s.heap.IsTuple l items)
    (h : ∀ h', IsEnum h' (s.heap.objs.size + 1) s.heap.objs.size 0 .none → h'.IsTupleIter s.heap.objs.size l 0 → (∀ b o, s.heap.get? b = some o → h'.get? b = some o) → Q (.ref (s.heap.objs.size + 1)) { s with heap := h' }) :
    wpAny (model prog w) A (call (.type "enumerate") [.ref l]) Q E s := by
  obtain ⟨⟨c, dct, dt, sl⟩, hl, hc, n, hd⟩ := hT
  simp only at hc hd
  subst hc hd
  refine callType_new F.called_enumerate (by decide) (F.typeCall_enumerate_1 _) (F.newCall_enumerate_1 _) (fun obj => F.args_object_init_2 obj _) F.entry_enumerate_new (enum_newT l items n dct sl) ⟨hl, ?_⟩
  have z : (s.heap.push { cls := .type "tuple_iterator", data := .fields #[.ref l, .int 0 0] }).objs.size = s.heap.objs.size + 1 := Heap.size_push ..
  have he : IsEnum ((s.heap.push { cls := .type "tuple_iterator", data := .fields #[.ref l, .int 0 0] }).push { cls := .type "enumerate", data := .fields #[.none, .bool false, .ref s.heap.objs.size, rawInt 0, .none, .none] }) (s.heap.objs.size + 1) s.heap.objs.size 0 .none := by
    have q := Heap.get?_push_size (s.heap.push { cls := .type "tuple_iterator", data := .fields #[.ref l, .int 0 0] }) (o := { cls := .type "enumerate", data := .fields #[.none, .bool false, .ref s.heap.objs.size, rawInt 0, .none, .none] }) rfl
    rw [z] at q
    exact q
  show _ ∧ _
  rw [z]
  exact ⟨⟨_, he, rfl⟩, h _ he ⟨_, Heap.get?_push_of_some _ (Heap.get?_push_size _ rfl), rfl, rfl⟩ fun b o x => Heap.get?_push_of_some _ (Heap.get?_push_of_some _ x)⟩
/-- the tuple at a, each item in a new pair -/
def IteT (K : PySem.W.Frag) (a : Addr) : It :=
  ⟨fun i H => ∃ (xs : List V) (x : V), SqT K H a xs ∧ xs[i]? = some x, fun i H v H' => ∃ T x, v = .ref T ∧ H T = none ∧ H' = upd H T (.tup [.int (i : Nat), x]) ∧ ∀ xs, SqT K H a xs → xs[i]? = some x, fun i H => ∃ xs : List V, SqT K H a xs ∧ xs.length = i⟩
theorem turn_enumT {P : Program} {w : World} {K : PySem.W.Frag} {elts : List Expr} {kk : Nat} {tpos : Pos} (a e it : Addr) :
    Turn P w K (.Tuple elts kk tpos) (IteT K a) [e, it] e (fun i h => (∃ old, IsEnum h e it ((i : Nat) : Int) old) ∧ h.IsTupleIter it a i ∧ e ≠ it ∧ a ≠ it ∧ a ≠ e) where
  mem := by simp
  obj := fun i h st b hb => by
    obtain ⟨⟨old, he⟩, ⟨o, ho, hc, hd⟩, _⟩ := st
    rcases List.mem_cons.mp hb with z | z
    · rw [z]; exact ⟨_, he, fun v q => nomatch q⟩
    · rw [List.mem_singleton.mp z]; exact ⟨o, ho, fun v q => by rw [hd] at q; cases q⟩
  keep := fun i h h' st k => let ⟨⟨old, he⟩, hi, hne⟩ := st; ⟨⟨old, k e (by simp) _ he⟩, hi.at fun o q => k it (by simp) o q, hne⟩
  item := by
    intro X hP hw hK hc i pins s σ H E I hf st hg
    subst hP hw hK
    obtain ⟨⟨old, he⟩, hit, hne, ha1, ha2⟩ := st
    obtain ⟨xs, x, hq, hx⟩ := hg
    obtain ⟨its, rv, p, hz⟩ := I.tuple hq
    obtain ⟨u, hu, ru⟩ := rv.get hx
    have hel : e < s.heap.objs.size := Heap.lt_size he
    have hil : it < s.heap.objs.size := by obtain ⟨_, q, _⟩ := hit; exact Heap.lt_size q
    have hlt : i < its.toArray.size := by simpa using (List.getElem?_eq_some_iff.mp hu).1
    refine wpAny_pyNext_enum_itemD (Draws.tuple (by simp [I.ok.hd hc]) it a ha1 its.toArray) he ⟨hit, p⟩ hlt hne (by simp [hne, Ne.symm ha2]) fun y h' tk hy ho st' hT hsz hk => ?_
    have ey : y = u := by
      have hy : its.toArray[i]? = some y := hy
      rw [List.getElem?_toArray, hu] at hy
      exact (Option.some.inj hy).symm
    subst ey
    refine ⟨_, rfl, wpAny_letOwnedTupleGo_enum (s := { s with heap := h', toks := tk + 1 }) ho fun h'' he' sb => ?_⟩
    have hT2 : h''.get? s.heap.objs.size = some { cls := .type "tuple", data := .seq #[.int i tk, y] } := (sb.2 _ (Nat.ne_of_gt hel)).trans hT
    have new : ObjOk X.prog X.w (upd H s.heap.objs.size (.tup [.int (i : Nat), x])) h'' s.heap.objs.size (.tup [.int (i : Nat), x]) :=
      ⟨by show 2 ≤ sizeLine; decide, [.int i tk, y], .cons ⟨_, rfl⟩ (.cons ru .nil), ⟨_, hT2, rfl, _, rfl⟩⟩
    have I1 : Inv X pins σ (upd H s.heap.objs.size (.tup [.int (i : Nat), x])) { s with heap := h'', toks := tk + 1 } :=
      I.turnedNew (ch := [e, it]) (fun b ob hb q => (sb.2 b (fun z => hb (by simp [z]))).trans (hk b ob (fun z => hb (by simp [z])) (fun z => hb (by simp [z])) q)) hf (Nat.le_refl _) new
    refine ⟨.ref s.heap.objs.size, _, I1, rfl, ⟨_, x, rfl, I.hok.fresh (Nat.le_refl _), rfl, fun ys hy => by rw [I.tuple_inj hy hq]; exact hx⟩, ⟨⟨y, ?_⟩, st'.1.at fun o q => (sb.2 it (Ne.symm hne)).trans q, hne, ha1, ha2⟩, fun b hb => ?_⟩
    · have e1 : ((i + 1 : Nat) : Int) = (i : Int) + 1 := by omega
      rw [e1]; exact he'
    · have hb' : b < s.heap.objs.size := by
        rcases List.mem_cons.mp hb with z | z
        · rw [z]; exact hel
        · rw [List.mem_singleton.mp z]; exact hil
      rw [upd_ne (Nat.ne_of_lt hb')]
      exact (hf b hb).1
  done := by
    intro X hP hw hK hc i pins s σ H E I hf st hg
    subst hP hw hK
    obtain ⟨⟨old, he⟩, hit, hne, ha1, ha2⟩ := st
    obtain ⟨xs, hq, hx⟩ := hg
    obtain ⟨its, rv, p, hz⟩ := I.tuple hq
    obtain ⟨f0, f1, f2, f3, f4, f5⟩ := hf it (by simp)
    have hl := rv.length
    have ei : i = its.toArray.size := by rw [List.size_toArray, ← hl, hx]
    subst ei
    exact wpAny_pyNext_enum_endD (Draws.tuple (by simp [I.ok.hd hc]) it a ha1 its.toArray) he ⟨hit, p⟩ fun h' eb => ⟨rfl, I.turned (t' := s.toks) (fun b o hb q => eb b o hb q) f0 f1 f3 f4 f5⟩
  self := fun A i s Q E st h => let ⟨⟨_, he⟩, _⟩ := st; wpAny_pyIter_enum he h
def iEnumT (K : PySem.W.Frag) (ta : TA) : TI := fun σ H R => ta σ H fun vs H1 => ∃ a xs, vs = [.ref a] ∧ SqT K H1 a xs ∧ R (IteT K a) H1
theorem pi_enumT {X : Cx} {e : Expr} {ta : TA} {p pos tpos : Pos} {elts : List Expr} {kk : Nat} (hg : Gl X "enumerate") (hm : X.mg "enumerate" = none) (ha : PA X [e] ta) (hs : starEach [e] X.env = [(false, eval e X.env)] := by rfl) :
    PI X (.Tuple elts kk tpos) (.Call (.Name "enumerate" p) [e] [] pos) (iEnumT X.K ta) := by
  refine ⟨fun pins s σ H R I h => ?_⟩
  refine Call_ (ld_blt I hg hm boot_enumerate (PyProof.Rows.callWith_type1 (thn (ha.run pos pins s σ H _ I h) fun us s1 ⟨vs, H1, I1, r1, a, xs, ex, hq, q⟩ => ?_) hs rfl))
  subst ex
  rw [Vals.ref1 r1]
  obtain ⟨its, rv, p', hz⟩ := I1.tuple hq
  have al : a < s1.heap.objs.size := p'.lt
  refine call_enumT p' fun h' he hit hk => wpAny_pyIter_enum he ?_
  refine ⟨s1.heap.objs.size + 1, [s1.heap.objs.size + 1, s1.heap.objs.size], _, _, H1, rfl, I1.kept (t' := s1.toks) hk, turn_enumT a (s1.heap.objs.size + 1) s1.heap.objs.size, ⟨⟨.none, he⟩, hit, Nat.succ_ne_self _, Nat.ne_of_lt al, Nat.ne_of_lt (Nat.lt_succ_of_lt al)⟩, fun b hb => ?_, q⟩
  have hle : s1.heap.objs.size ≤ b := by
    rcases List.mem_cons.mp hb with z | z
    · rw [z]; exact Nat.le_succ _
    · rw [List.mem_singleton.mp z]; exact Nat.le_refl _
  exact I1.fpOk hle (I1.hok.fresh hle)
end TH
/-! Readings over (G, H): calls, fields, new things, comprehensions, statements, loops. -/
namespace TH
open PySem L2

/-! ### new things, not yet frozen -/
def EvN (M : Md) (te : TE) (σ : L2.St) (G H : Hp) (φ : Hp → HO → Prop) : Prop := ∀ G1 H1, Go M G H G1 H1 → ∀ Q : VK, (∀ p o G2 H2, Go M G1 H1 G2 H2 → H1 p = none → G2 p = none → H2 p = some o → φ G2 o → Q (.ref p) H2) → te σ H1 Q
/-- a list of these -/
def FL (rs : List Rl) : Hp → HO → Prop := fun G o => ∃ vs, o = .lst vs ∧ Al G rs vs
section
variable {K : PySem.W.Frag} {M : Md} {σ : L2.St} {G H G' H' : Hp} {ta tb te tc : TE} {t u : TT} {r s : Rl} {v v0 : V} {i j : Int} {n m : Nat} {rs ss : List Rl} {φ : Hp → HO → Prop}
theorem EvN.mono (h : EvN M te σ G H φ) (e : Go M G H G' H') : EvN M te σ G' H' φ := fun G1 H1 a Q q => h G1 H1 (e.trans a) Q q
theorem EvN.imp {ψ : Hp → HO → Prop} (h : EvN M te σ G H φ) (k : ∀ G o, φ G o → ψ G o) : EvN M te σ G H ψ := fun G1 H1 a Q q => h G1 H1 a Q fun p o G2 H2 b n1 n2 n3 f => q p o G2 H2 b n1 n2 n3 (k G2 o f)
/-- it is frozen as it stands -/
theorem EvN.fix (h : EvN M te σ G H φ) (k : ∀ G1 G2 p o, φ G1 o → Le G1 G2 → G2 p = some o → r.P G2 (.ref p)) : Ev M te σ G H r := fun G1 H1 a Q q =>
  h G1 H1 a Q fun p o G2 H2 b n1 n2 n3 f => q (.ref p) (upd G2 p o) H2 ⟨b.gr.fix n1 n2 n3, b.j⟩ (k G2 (upd G2 p o) p o f (Le.new n2) upd_same)
theorem EvN.lst (h : EvN M te σ G H (FL rs)) : Ev M te σ G H (rLst K rs) := h.fix fun G1 G2 p o f e g => by
  obtain ⟨vs, rfl, ps⟩ := f
  exact ⟨p, vs, rfl, .of g, ps.mono e⟩
theorem en_lst {ta : TA} (h : EvA M ta σ G H rs) (hl : rs.length ≤ 100000 := by decide) : EvN M (tLst ta) σ G H (FL rs) := fun G1 H1 a Q q =>
  h G1 H1 a _ fun vs G2 H2 b ps => ⟨ps.bound hl, fun p hp => by
    have c := b.at.own (o := .lst vs) hp
    refine q p (.lst vs) G2 _ (b.trans c) ?_ (b.at.le.free hp) upd_same ⟨vs, rfl, ps⟩
    cases e : H1 p with
    | none => rfl
    | some o => exact absurd hp (b.gr.dm p (by rw [e]; exact fun z => nomatch z))⟩
theorem new_back {a : Go M G H G' H'} {p : Addr} (hp : H' p = none) : H p = none := by
  cases e : H p with
  | none => rfl
  | some o => exact absurd hp (a.gr.dm p (by rw [e]; exact fun z => nomatch z))
theorem Go.back (a : Go M G H G' H') {p : Addr} (hp : H' p = none) : H p = none := new_back (a := a) hp
theorem en_dict : EvN M tDNewK σ G H (fun _ o => o = .dK []) := fun G1 H1 a Q q p hp =>
  q p (.dK []) G1 _ (a.at.own hp) hp (a.at.le.free hp) upd_same rfl
/-- list(x) of a frozen list, of a frozen tuple -/
def rSeq (K : PySem.W.Frag) (rs : List Rl) : Rl := ⟨fun G v => ∃ a vs, v = .ref a ∧ (SqL K G a vs ∨ SqT K G a vs) ∧ Al G rs vs, fun e ⟨a, vs, h1, h2, h3⟩ => ⟨a, vs, h1, h2.elim (fun z => .inl (e.seqL z)) (fun z => .inr (e.seqT z)), h3.mono e⟩⟩
theorem rSeq_l {G : Hp} {v : V} (h : (rLst K rs).P G v) : (rSeq K rs).P G v := let ⟨a, vs, h1, h2, h3⟩ := h; ⟨a, vs, h1, .inl h2, h3⟩
theorem rSeq_t {G : Hp} {v : V} (h : (rTup K rs).P G v) : (rSeq K rs).P G v := let ⟨a, vs, h1, h2, h3⟩ := h; ⟨a, vs, h1, .inr h2, h3⟩
theorem Ev.sl (h : Ev M te σ G H (rLst K rs)) : Ev M te σ G H (rSeq K rs) := h.imp fun _ _ => rSeq_l
theorem Ev.st (h : Ev M te σ G H (rTup K rs)) : Ev M te σ G H (rSeq K rs) := h.imp fun _ _ => rSeq_t
theorem ev_one {z : Rl} {rr : List V → Hp → VK → Prop} (h : Ev M ta σ G H r) (hr : ∀ G1 H1 x, Go M G H G1 H1 → r.P G1 x → ∀ Q : VK, (∀ v G2 H2, Go M G1 H1 G2 H2 → z.P G2 v → Q v H2) → rr [x] H1 Q) : Ev M (tCB rr (tCons ta tNil)) σ G H z := fun G1 H1 a Q q =>
  h G1 H1 a _ fun x G2 H2 b p => hr G2 H2 x (a.trans b) p Q fun v G3 H3 c p' => q v G3 H3 (b.trans c) p'
theorem en_one {rr : List V → Hp → VK → Prop} (h : Ev M ta σ G H r) (hr : ∀ G1 H1 x, Go M G H G1 H1 → r.P G1 x → ∀ Q : VK, (∀ p o G2 H2, Go M G1 H1 G2 H2 → H1 p = none → G2 p = none → H2 p = some o → φ G2 o → Q (.ref p) H2) → rr [x] H1 Q) : EvN M (tCB rr (tCons ta tNil)) σ G H φ := fun G1 H1 a Q q =>
  h G1 H1 a _ fun x G2 H2 b p => hr G2 H2 x (a.trans b) p Q fun v o G3 H3 c n1 n2 n3 f => q v o G3 H3 (b.trans c) (b.back n1) n2 n3 f
theorem en_list (h : Ev M ta σ G H (rSeq K rs)) : EvN M (tCB (fun xs H Q => ∃ p ys, xs = [.ref p] ∧ (SqL K H p ys ∨ SqT K H p ys) ∧ ∀ l, H l = none → Q (.ref l) (upd H l (.lst ys))) (tCons ta tNil)) σ G H (FL rs) :=
  en_one h fun G1 H1 x a p Q q => by
    obtain ⟨b, vs, rfl, h2, h3⟩ := p
    exact ⟨b, vs, rfl, h2.elim (fun z => .inl (a.at.le.seqL z)) (fun z => .inr (a.at.le.seqT z)), fun l hl => q l _ G1 _ (a.at.own hl) hl (a.at.le.free hl) upd_same ⟨vs, rfl, h3⟩⟩
/-- tuple(x) -/
theorem ev_tuple (h : Ev M ta σ G H (rSeq K rs)) : Ev M (tCB (fun xs H Q => ∃ p ys, xs = [.ref p] ∧ ((SqL K H p ys ∧ ∀ l, H l = none → Q (.ref l) (upd H l (.tup ys))) ∨ (SqT K H p ys ∧ Q (.ref p) H))) (tCons ta tNil)) σ G H (rTup K rs) :=
  ev_one h fun G1 H1 x a p Q q => by
    obtain ⟨b, vs, rfl, h2, h3⟩ := p
    rcases h2 with h2 | h2
    · refine ⟨b, vs, rfl, .inl ⟨a.at.le.seqL h2, fun l hl => ?_⟩⟩
      have c := a.at.new (o := .tup vs) hl
      exact q _ _ _ c ⟨l, vs, rfl, .of upd_same, h3.mono c.gg⟩
    · exact ⟨b, vs, rfl, .inr ⟨a.at.le.seqT h2, q _ G1 H1 a.at.go ⟨b, vs, rfl, h2, h3⟩⟩⟩
theorem ev_len (h : Ev M ta σ G H (rSeq K rs)) : Ev M (tCB (fun xs H Q => ∃ p ys, xs = [.ref p] ∧ (SqL K H p ys ∨ SqT K H p ys) ∧ Q (.int ys.length) H) (tCons ta tNil)) σ G H (rInt rs.length) :=
  ev_one h fun G1 H1 x a p Q q => by
    obtain ⟨b, vs, rfl, h2, h3⟩ := p
    refine ⟨b, vs, rfl, h2.elim (fun z => .inl (a.at.le.seqL z)) (fun z => .inr (a.at.le.seqT z)), ?_⟩
    rw [← h3.length]
    exact q _ G1 H1 a.at.go rfl
theorem ev_lenS {z : Str} (h : Ev M ta σ G H (rStr z)) (hz : z.length ≤ sizeLine) : Ev M (tCB (fun xs H Q => ∃ z, xs = [.str z] ∧ z.length ≤ sizeLine ∧ Q (.int z.length) H) (tCons ta tNil)) σ G H (rInt z.length) :=
  ev_one h fun G1 H1 x a p Q q => ⟨z, by rw [show x = .str z from p], hz, q _ G1 H1 a.at.go rfl⟩
/-- x in t, of scalars -/
theorem Al.strs {G : Hp} {xs : List Str} {vs : List V} (h : Al G (xs.map rStr) vs) : vs = xs.map V.str := Al.vals h
theorem inV_strs (x : Str) (xs : List Str) : inV (.str x) (xs.map V.str) = decide (x ∈ xs) := by
  unfold inV
  rw [List.any_map, Bool.eq_iff_iff, List.any_eq_true, decide_eq_true_iff]
  constructor
  · rintro ⟨y, hy, e⟩
    have e : (y == x) = true := by simpa [eqV, Function.comp] using e
    rw [← eq_of_beq e]
    exact hy
  · intro hx
    refine ⟨x, hx, ?_⟩
    simp [eqV, Function.comp]
theorem ev_in {neg : Bool} {x : Str} {xs : List Str} (ha : Ev M ta σ G H (rStr x)) (hb : Ev M tb σ G H (rSeq K (xs.map rStr))) : Ev M (tOp (rIn K neg) ta tb) σ G H (rBl (if neg then !decide (x ∈ xs) else decide (x ∈ xs))) :=
  ev_op ha hb fun G1 H1 a b e p q Q k => by
    have p : a = .str x := p
    obtain ⟨l, vs, rfl, h2, h3⟩ := q
    have h4 := h3.strs
    subst h4
    refine ⟨l, _, rfl, h2.elim (fun z => .inl (e.at.le.seqL z)) (fun z => .inr (e.at.le.seqT z)), by rw [p]; rfl, flat_strs xs, ?_⟩
    rw [p, inV_strs]
    exact k _ G1 H1 e.at.go rfl
/-! ### all, any -/
theorem Al.bls {G : Hp} {bs : List Bool} {vs : List V} (h : Al G (bs.map rBl) vs) : vs = bs.map V.bl := Al.vals h
theorem Al.blsX {α : Type} {f : α → Bool} {G : Hp} {xs : List α} {vs : List V} (h : Al G (xs.map fun x => rBl (f x)) vs) : vs = (xs.map f).map V.bl := by
  rw [List.map_map]
  exact Al.vals (f := fun x => V.bl (f x)) h
theorem ev_all {α : Type} {f : α → Bool} {xs : List α} (h : Ev M ta σ G H (rLst K (xs.map fun x => rBl (f x)))) : Ev M (tCB (rAll K) (tCons ta tNil)) σ G H (rBl (xs.all f)) :=
  ev_one h fun G1 H1 x a p Q q => by
    obtain ⟨b, vs, rfl, h2, h3⟩ := p
    have h4 := h3.blsX
    subst h4
    refine ⟨b, xs.map f, rfl, a.at.le.seqL h2, ?_⟩
    rw [List.all_map]
    exact q _ G1 H1 a.at.go rfl
theorem ev_any {α : Type} {f : α → Bool} {xs : List α} (h : Ev M ta σ G H (rLst K (xs.map fun x => rBl (f x)))) : Ev M (tCB (rAny K) (tCons ta tNil)) σ G H (rBl (xs.any f)) :=
  ev_one h fun G1 H1 x a p Q q => by
    obtain ⟨b, vs, rfl, h2, h3⟩ := p
    have h4 := h3.blsX
    subst h4
    refine ⟨b, xs.map f, rfl, a.at.le.seqL h2, ?_⟩
    rw [List.any_map]
    exact q _ G1 H1 a.at.go rfl
/-- len(set(xs)) of texts -/
theorem ev_lenSet {P : Program} {w : World} {xs : List Str} (h : Ev M ta σ G H (rSeq K (xs.map rStr))) (hb : xs.length < 4000) : Ev M (tCB (rLenSetS P w) (tCons (tCB (rSetS K P w) (tCons ta tNil)) tNil)) σ G H (rInt ((ddS [] xs).length : Nat)) := fun G1 H1 a Q q =>
  h G1 H1 a _ fun x G2 H2 b p => by
    obtain ⟨l, vs, rfl, h2, h3⟩ := p
    have h4 := h3.strs
    subst h4
    refine ⟨l, xs, rfl, h2.elim (fun z => .inl (b.at.le.seqL z)) (fun z => .inr (b.at.le.seqT z)), hb, fun p hp => ⟨p, xs, rfl, upd_same, hb, ?_⟩⟩
    exact q _ _ _ (b.trans (b.at.own hp)) rfl
/-! ### calls -/
/-- a def that changes nothing: what it asks, of what it is handed, what it tells -/
def spP {ι : Type} (pre : ι → Hp → Hp → Prop) (args : ι → List Rl) (res : ι → Rl) : Sp := fun vs H Q _ => ∃ (i : ι) (G : Hp), Le G H ∧ pre i G H ∧ Al G (args i) vs ∧ ∀ v G' H', Gr [] G H G' H' → (res i).P G' v → Q v H'
theorem ev_call {ι : Type} {pre : ι → Hp → Hp → Prop} {args : ι → List Rl} {res : ι → Rl} {E : XK} {t : TA} (i : ι) (h : EvA M t σ G H (args i)) (hp : ∀ G1 H1, Go M G H G1 H1 → pre i G1 H1) : Ev M (tCall (spP pre args res) [] E t) σ G H (res i) := fun G1 H1 a Q q =>
  h G1 H1 a _ fun vs G2 H2 b ps => ⟨i, G2, b.at.le, hp G2 H2 (a.trans b), by rw [List.append_nil]; exact ps, fun v G3 H3 c p => q v G3 H3 (b.trans (Go.pure c b.j)) p⟩
/-- an instance of C without an attribute m of its own -/
def InsOf (C : Addr) (m : Str) (r : Rl) : Prop := ∀ G v, r.P G v → ∃ a dx fs, v = .ref a ∧ G a = some (.ins C dx fs) ∧ fs.lookup m = none
theorem ev_meth {ι : Type} {pre : ι → Hp → Hp → Prop} {args : ι → List Rl} {res : ι → Rl} {E : XK} {C : Addr} {m : Str} {t : TA} {rs : List Rl} (i : ι) (h0 : Ev M ta σ G H r) (hi : InsOf C m r) (h : EvA M t σ G H rs) (ea : args i = r :: rs) (hp : ∀ G1 H1, Go M G H G1 H1 → pre i G1 H1) :
    Ev M (tMeth C m (spP pre args res) [] E ta t) σ G H (res i) := fun G1 H1 a Q q =>
  h0 G1 H1 a _ fun x G2 H2 b p => by
    obtain ⟨c, dx, fs, e1, e2, e3⟩ := hi G2 x p
    refine ⟨c, dx, fs, e1, b.at.le.ins e2, e3, ?_⟩
    refine h G2 H2 (a.trans b) _ fun vs G3 H3 d ps => ⟨i, G3, d.at.le, hp G3 H3 ((a.trans b).trans d), ?_, fun v G4 H4 c p => q v G4 H4 ((b.trans d).trans (Go.pure c d.j)) p⟩
    rw [ea, List.append_nil]
    exact .cons (r.mono d.gg p) ps
/-! ### fields -/
def FAl (G : Hp) (fs : List (Str × Rl)) (vs : List (Str × V)) : Prop := Paired (fun (r : Str × Rl) (v : Str × V) => r.1 = v.1 ∧ r.2.P G v.2) fs vs
theorem FAl.mono {G G' : Hp} (e : Le G G') {fs : List (Str × Rl)} {vs : List (Str × V)} (h : FAl G fs vs) : FAl G' fs vs := L2.Paired.mapP h fun a _ q => ⟨q.1, a.2.mono e q.2⟩
theorem FAl.get {G : Hp} {f : Str} : ∀ {fs : List (Str × Rl)} {vs : List (Str × V)} {r : Rl}, FAl G fs vs → fs.lookup f = some r → ∃ v, vs.lookup f = some v ∧ r.P G v
  | _, _, _, .nil, e => by cases e
  | (x, r') :: fs, (y, v') :: vs, r, .cons h t, e => by
    have hxy : x = y := h.1
    have hp : r'.P G v' := h.2
    subst hxy
    rw [List.lookup_cons] at e ⊢
    cases c : f == x with
    | true => rw [c] at e; cases e; exact ⟨v', rfl, hp⟩
    | false => rw [c] at e; exact FAl.get t e
theorem FAl.none {G : Hp} {f : Str} : ∀ {fs : List (Str × Rl)} {vs : List (Str × V)}, FAl G fs vs → fs.lookup f = none → vs.lookup f = none
  | _, _, .nil, e => rfl
  | (x, r') :: fs, (y, v') :: vs, .cons h t, e => by
    have hxy : x = y := h.1
    subst hxy
    rw [List.lookup_cons] at e ⊢
    cases c : f == x with
    | true => rw [c] at e; cases e
    | false => rw [c] at e; exact FAl.none t e
def rIns (C : Addr) (fs : List (Str × Rl)) : Rl := ⟨fun G v => ∃ a dx vs, v = .ref a ∧ G a = some (.ins C dx vs) ∧ FAl G fs vs, fun e ⟨a, dx, vs, h1, h2, h3⟩ => ⟨a, dx, vs, h1, e.ins h2, h3.mono e⟩⟩
theorem insOf {C : Addr} {fs : List (Str × Rl)} {m : Str} (h : fs.lookup m = none) : InsOf C m (rIns C fs) := fun G v ⟨a, dx, vs, h1, h2, h3⟩ => ⟨a, dx, vs, h1, h2, h3.none h⟩
theorem ev_fld {C : Addr} {fs : List (Str × Rl)} {f : Str} (h : Ev M ta σ G H (rIns C fs)) (hf : fs.lookup f = some r) (c : Cls K C) (n : NoAttr K C f) : Ev M (tFld K ta f) σ G H r := fun G1 H1 a Q q =>
  h G1 H1 a _ fun x G2 H2 b p => by
    obtain ⟨d, dx, vs, e1, e2, e3⟩ := p
    obtain ⟨v, e4, e5⟩ := e3.get hf
    exact ⟨d, C, dx, vs, v, e1, b.at.le.ins e2, c, n, e4, q v G2 H2 b e5⟩
/-- a field of a thing that may change -/
theorem ev_fldM {C dx p : Addr} {fs : List (Str × V)} {f : Str} (h : Ev M ta σ G H (rRef p)) (hp : H p = some (.ins C dx fs)) (hW : p ∉ M.W) (hf : fs.lookup f = some v) (hv : r.P G v) (c : Cls K C) (n : NoAttr K C f) : Ev M (tFld K ta f) σ G H r := fun G1 H1 a Q q =>
  h G1 H1 a _ fun x G2 H2 b e => ⟨p, C, dx, fs, v, e, (a.trans b).gr.hh p _ hp hW, c, n, hf, q v G2 H2 b (r.mono (a.trans b).gg hv)⟩
/-! ### dicts, keys texts -/
theorem DAl.get {G : Hp} {k : Key} : ∀ {ks : List (Key × Rl)} {vs : List (Key × V)}, DAl G ks vs → (∀ r, ((ks.find? fun kv => decide (kv.1 = k)).map (·.2)) = some r → ∃ v, valV vs k = some v ∧ r.P G v) ∧ (((ks.find? fun kv => decide (kv.1 = k)).map (·.2)) = none → valV vs k = none)
  | _, _, .nil => ⟨fun r e => (by cases e), fun _ => rfl⟩
  | (x, r') :: ks, (y, v') :: vs, .cons h t => by
    have hxy : x = y := h.1
    have hp : r'.P G v' := h.2
    subst hxy
    unfold valV
    by_cases c : x = k
    · simp only [List.find?_cons, c, decide_true, Option.map_some]
      exact ⟨fun r e => ⟨v', rfl, (by cases e; exact hp)⟩, fun e => (by cases e)⟩
    · simp only [List.find?_cons, c, decide_false]
      have ih := DAl.get (k := k) t
      unfold valV at ih
      exact ih
/-- what is known of a dict by a text -/
def lkD (ks : List (Key × Rl)) (x : Str) : Option Rl := (ks.find? fun kv => decide (kv.1 = Sum.inr x)).map (·.2)
theorem dget_rd {H : Hp} {a : Addr} {vs : List (Key × V)} {k : Key} (e : Rd H a (.dK vs)) : DGet H a (kV k) (valV vs k) := .inl ⟨vs, k, e, rfl, rfl⟩
theorem ev_dget {ks : List (Key × Rl)} {x : Str} (hd : Ev M ta σ G H (rDct ks)) (hk : Ev M tb σ G H (rStr x)) (h : lkD ks x = some r) : Ev M (tDGet ta tb) σ G H r := fun G1 H1 a Q q =>
  hd G1 H1 a _ fun y G2 H2 b p => hk G2 H2 (a.trans b) _ fun z G3 H3 c pz => by
    obtain ⟨d, vs, rfl, e2, e3⟩ := p
    have pz : z = .str x := pz
    subst pz
    obtain ⟨v, e4, e5⟩ := e3.get.1 r h
    refine ⟨d, v, rfl, ?_, q v G3 H3 (b.trans c) (r.mono c.gg e5)⟩
    have := dget_rd (k := .inr x) ((c.gg.trans c.at.le).rd nf_dK e2)
    rw [e4] at this
    exact this
theorem ev_din {ks : List (Key × Rl)} {x : Str} (hk : Ev M tb σ G H (rStr x)) (hd : Ev M ta σ G H (rDct ks)) : Ev M (tDIn tb ta) σ G H (rBl (lkD ks x).isSome) := fun G1 H1 a Q q =>
  hk G1 H1 a _ fun z G2 H2 b pz => hd G2 H2 (a.trans b) _ fun y G3 H3 c p => by
    obtain ⟨d, vs, rfl, e2, e3⟩ := p
    have pz : z = .str x := pz
    subst pz
    refine ⟨d, valV vs (.inr x), rfl, dget_rd (k := .inr x) (c.at.le.rd nf_dK e2), ?_⟩
    have e4 := e3.get (k := .inr x)
    have e5 : (valV vs (.inr x)).isSome = (lkD ks x).isSome := by
      unfold lkD
      cases e : (ks.find? fun kv => decide (kv.1 = Sum.inr x)).map (·.2) with
      | none => rw [e4.2 e]; rfl
      | some r =>
        obtain ⟨v, e6, _⟩ := e4.1 r e
        rw [e6]; rfl
    rw [e5]
    exact q _ G3 H3 (b.trans c) rfl
theorem ev_dnotin {ks : List (Key × Rl)} {x : Str} (hk : Ev M tb σ G H (rStr x)) (hd : Ev M ta σ G H (rDct ks)) : Ev M (tDNotIn tb ta) σ G H (rBl (!(lkD ks x).isSome)) := fun G1 H1 a Q q =>
  hk G1 H1 a _ fun z G2 H2 b pz => hd G2 H2 (a.trans b) _ fun y G3 H3 c p => by
    obtain ⟨d, vs, rfl, e2, e3⟩ := p
    have pz : z = .str x := pz
    subst pz
    refine ⟨d, valV vs (.inr x), rfl, dget_rd (k := .inr x) (c.at.le.rd nf_dK e2), ?_⟩
    have e4 := e3.get (k := .inr x)
    have e5 : (valV vs (.inr x)).isSome = (lkD ks x).isSome := by
      unfold lkD
      cases e : (ks.find? fun kv => decide (kv.1 = Sum.inr x)).map (·.2) with
      | none => rw [e4.2 e]; rfl
      | some r =>
        obtain ⟨v, e6, _⟩ := e4.1 r e
        rw [e6]; rfl
    rw [e5]
    exact q _ G3 H3 (b.trans c) rfl
/-- the same of a dict that may change -/
theorem ev_dinM {d : Addr} {kvs : List (Key × V)} {x : Str} (hk : Ev M tb σ G H (rStr x)) (hd : Ev M ta σ G H (rRef d)) (h : H d = some (.dK kvs)) (hW : d ∉ M.W) : Ev M (tDIn tb ta) σ G H (rBl (valV kvs (.inr x)).isSome) := fun G1 H1 a Q q =>
  hk G1 H1 a _ fun z G2 H2 b pz => hd G2 H2 (a.trans b) _ fun y G3 H3 c p => by
    have pz : z = .str x := pz
    subst pz
    exact ⟨d, valV kvs (.inr x), p, DGet.k (k := .inr x) (((a.trans b).trans c).gr.hh d _ h hW), q _ G3 H3 (b.trans c) rfl⟩
theorem ev_dnotinM {d : Addr} {kvs : List (Key × V)} {x : Str} (hk : Ev M tb σ G H (rStr x)) (hd : Ev M ta σ G H (rRef d)) (h : H d = some (.dK kvs)) (hW : d ∉ M.W) : Ev M (tDNotIn tb ta) σ G H (rBl (!(valV kvs (.inr x)).isSome)) := fun G1 H1 a Q q =>
  hk G1 H1 a _ fun z G2 H2 b pz => hd G2 H2 (a.trans b) _ fun y G3 H3 c p => by
    have pz : z = .str x := pz
    subst pz
    exact ⟨d, valV kvs (.inr x), p, DGet.k (k := .inr x) (((a.trans b).trans c).gr.hh d _ h hW), q _ G3 H3 (b.trans c) rfl⟩
/-- while a frozen dict is locked -/
theorem rd_core {d : Addr} {vs kvs : List (Key × V)} (h : Rd G d (.dK vs)) (le : Le G H) (hH : H d = some (.dK kvs)) : vs = kvs := by
  rcases le.rd nf_dK h with e | ⟨ob, e⟩
  · rw [hH] at e; cases e; rfl
  · rw [hH] at e; cases e
theorem rd_lk {d : Addr} {kvs : List (Key × V)} (h : Rd G d (.dK kvs)) : ∃ o, G d = some o ∧ Lk o (.dK kvs) := by
  rcases h with e | ⟨ob, e⟩
  · exact ⟨_, e, .refl _⟩
  · exact ⟨_, e, .inr ⟨.dK kvs, trivial, .inr ⟨ob, rfl⟩, .inl rfl⟩⟩
theorem ev_lock {d : Addr} {kvs : List (Key × V)} {t : TE} (hG : Rd G d (.dK kvs)) (hH : H d = some (.dK kvs)) (hW : d ∉ M.W)
    (h : ∀ od G1 H1, Go M G H G1 H1 → Le G (upd G1 d (.frz od (.dK kvs))) → (∀ b o, b ≠ d → H b = some o → b ∉ M.W → upd H1 d (.frz od (.dK kvs)) b = some o) → At M (upd G1 d (.frz od (.dK kvs))) (upd H1 d (.frz od (.dK kvs))) →
      Ev M t σ (upd G1 d (.frz od (.dK kvs))) (upd H1 d (.frz od (.dK kvs))) r) : Ev M (tLockE t) σ G H r := fun G1 H1 a Q q => by
  have h1 : H1 d = some (.dK kvs) := a.gr.hh d _ hH hW
  have r1 : Rd G1 d (.dK kvs) := a.gg.rd nf_dK hG
  obtain ⟨o1, g1, k1⟩ := rd_lk r1
  refine ⟨d, .dK kvs, h1, trivial, fun od => ?_⟩
  have lk : Lk (.frz od (.dK kvs)) (.dK kvs) := .inr ⟨.dK kvs, trivial, .inr ⟨od, rfl⟩, .inl rfl⟩
  have hle1 : Le G1 (upd G1 d (.frz od (.dK kvs))) := fun c o e => by
    by_cases hc : c = d
    · subst hc
      rw [g1] at e
      cases e
      exact ⟨_, upd_same, k1.trans lk.symm⟩
    · exact ⟨o, by rw [upd_ne hc]; exact e, .refl o⟩
  have hat : At M (upd G1 d (.frz od (.dK kvs))) (upd H1 d (.frz od (.dK kvs))) := ⟨a.at.le.upd, M.st (fun b hb u e => by rw [upd_ne (show b ≠ d from fun z => hW (z ▸ hb))]; exact e) a.j⟩
  refine h od G1 H1 a (a.gg.trans hle1) (fun b o hb e n => by rw [upd_ne hb]; exact a.gr.hh b o e n) hat _ _ hat.go _ fun v G2 H2 b p => ?_
  have h2 : H2 d = some (.frz od (.dK kvs)) := b.gr.hh d _ upd_same hW
  obtain ⟨o2, g2, k2⟩ := b.gg d _ upd_same
  have up : Le G2 (upd G2 d (.dK kvs)) := fun c o e => by
    by_cases hc : c = d
    · subst hc
      rw [g2] at e
      cases e
      exact ⟨_, upd_same, k2.symm.trans lk⟩
    · exact ⟨o, by rw [upd_ne hc]; exact e, .refl o⟩
  refine ⟨h2, q v (upd G2 d (.dK kvs)) (upd H2 d (.dK kvs)) ⟨⟨fun c o e => ?_, b.at.le.upd, fun c o e n => ?_, fun c e => ?_, fun c n1 n2 => ?_⟩, M.st (fun b' hb u e => by rw [upd_ne (show b' ≠ d from fun z => hW (z ▸ hb))]; exact e) b.j⟩ (r.mono up p)⟩
  · by_cases hc : c = d
    · subst hc
      rw [g1] at e
      cases e
      exact ⟨_, upd_same, k1⟩
    · obtain ⟨o', e1, e2⟩ := b.gg c o (by rw [upd_ne hc]; exact e)
      exact ⟨o', by rw [upd_ne hc]; exact e1, e2⟩
  · by_cases hc : c = d
    · subst hc
      rw [h1] at e
      cases e
      exact upd_same
    · rw [upd_ne hc]
      exact b.gr.hh c o (by rw [upd_ne hc]; exact e) n
  · by_cases hc : c = d
    · subst hc; rw [upd_same]; exact fun z => nomatch z
    · rw [upd_ne hc]
      exact b.gr.dm c (by rw [upd_ne hc]; exact e)
  · by_cases hc : c = d
    · subst hc; rw [g1] at n1; cases n1
    · rw [upd_ne hc] at n2
      have := b.gr.nw c (by rw [upd_ne hc]; exact n1) n2
      rw [upd_ne hc] at this
      exact this
end
end TH
/-! Readings over (G, H): what a loop walks, comprehensions, statements, loops, defs. -/
namespace TH
open PySem PySem.Spec PyProof.Rows L2

/-! ### what is walked -/
structure WalkR (W : List Addr) (J : It) (G0 H0 : Hp) (rs : List Rl) : Prop where
  goes : ∀ i G H, i < rs.length → Gr W G0 H0 G H → J.go i H
  stops : ∀ G H, Gr W G0 H0 G H → J.stop rs.length H
  yields : ∀ i r G H x H', rs[i]? = some r → Gr W G0 H0 G H → J.yld i H x H' → ∃ G', Gr [] G H G' H' ∧ r.P G' x
def Src (M : Md) (W : List Addr) (wi : TI) (σ : L2.St) (G H : Hp) (rs : List Rl) : Prop := ∀ G1 H1, Go M G H G1 H1 → ∀ R : It → Hp → Prop, (∀ J G2 H2, Go M G1 H1 G2 H2 → WalkR W J G2 H2 rs → R J H2) → wi σ H1 R
def numR (K : PySem.W.Frag) : Nat → List Rl → List Rl
  | _, [] => []
  | i, r :: t => rTup K [rInt (i : Nat), r] :: numR K (i + 1) t
theorem numR_len (K : PySem.W.Frag) : ∀ (i : Nat) (rs : List Rl), (numR K i rs).length = rs.length
  | _, [] => rfl
  | i, r :: t => congrArg Nat.succ (numR_len K (i + 1) t)
theorem numR_get (K : PySem.W.Frag) : ∀ (n : Nat) (rs : List Rl) (i : Nat), (numR K n rs)[i]? = (rs[i]?).map fun r => rTup K [rInt ((n + i : Nat) : Int), r]
  | _, [], _ => rfl
  | n, r :: t, 0 => rfl
  | n, r :: t, i + 1 => by
    show (numR K (n + 1) t)[i]? = (t[i]?).map _
    rw [numR_get K (n + 1) t i, show n + 1 + i = n + (i + 1) by omega]
section
variable {K : PySem.W.Frag} {M : Md} {W : List Addr} {σ : L2.St} {G H G' H' : Hp} {ta tb te tc : TE} {t u : TT} {r s : Rl} {v v0 : V} {i j : Int} {n m : Nat} {rs ss : List Rl}
theorem src_tup (h : Ev M te σ G H (rTup K rs)) : Src M W (iTup K te) σ G H rs := fun G1 H1 a R q => h G1 H1 a _ fun x G2 H2 b p => by
  obtain ⟨d, vs, rfl, e2, e3⟩ := p
  have at' : ∀ {G H : Hp}, Gr W G2 H2 G H → SqT K H d vs := fun g => (g.gg.trans g.gh).seqT e2
  refine ⟨d, rfl, ⟨vs, b.at.le.seqT e2⟩, q _ G2 H2 b ⟨fun i G H hi g => ?_, fun G H g => ⟨vs, at' g, by rw [← e3.length]; exact Nat.le_refl _⟩, fun i r G H x H' hr g y => ?_⟩⟩
  · have hi : i < vs.length := by rw [← e3.length]; exact hi
    exact ⟨vs, vs[i], at' g, by simp [hi]⟩
  · obtain ⟨rfl, y⟩ := y
    have hx := y vs (at' g)
    obtain ⟨v, e4, e5⟩ := e3.get hr
    rw [hx] at e4
    cases e4
    exact ⟨G, .refl g.gh, r.mono g.gg e5⟩
theorem src_lst (h : Ev M te σ G H (rLst K rs)) : Src M W (iList K te) σ G H rs := fun G1 H1 a R q => h G1 H1 a _ fun x G2 H2 b p => by
  obtain ⟨d, vs, rfl, e2, e3⟩ := p
  have at' : ∀ {G H : Hp}, Gr W G2 H2 G H → SqL K H d vs := fun g => (g.gg.trans g.gh).seqL e2
  refine ⟨d, rfl, ⟨vs, b.at.le.seqL e2⟩, q _ G2 H2 b ⟨fun i G H hi g => ?_, fun G H g => ⟨vs, at' g, by rw [← e3.length]; exact Nat.le_refl _⟩, fun i r G H x H' hr g y => ?_⟩⟩
  · have hi : i < vs.length := by rw [← e3.length]; exact hi
    exact ⟨vs, vs[i], at' g, by simp [hi]⟩
  · obtain ⟨rfl, y⟩ := y
    have hx := y vs (at' g)
    obtain ⟨v, e4, e5⟩ := e3.get hr
    rw [hx] at e4
    cases e4
    exact ⟨G, .refl g.gh, r.mono g.gg e5⟩
/-- a list that may change, but not while it is walked -/
theorem src_lstM {l : Addr} {xs : List V} (h : Ev M te σ G H (rRef l)) (hl : H l = some (.lst xs)) (h1 : l ∉ M.W) (h2 : l ∉ W) (hx : Al G rs xs) : Src M W (iList K te) σ G H rs := fun G1 H1 a R q => h G1 H1 a _ fun x G2 H2 b p => by
  have p : x = .ref l := p
  subst p
  have g2 : H2 l = some (.lst xs) := (a.trans b).gr.hh l _ hl h1
  have at' : ∀ {G H : Hp}, Gr W G2 H2 G H → SqL K H l xs := fun g => .of (g.hh l _ g2 h2)
  have e3 := hx.mono (a.trans b).gg
  refine ⟨l, rfl, ⟨xs, .of g2⟩, q _ G2 H2 b ⟨fun i G H hi g => ?_, fun G H g => ⟨xs, at' g, by rw [← e3.length]; exact Nat.le_refl _⟩, fun i r G H x H' hr g y => ?_⟩⟩
  · have hi : i < xs.length := by rw [← e3.length]; exact hi
    exact ⟨xs, xs[i], at' g, by simp [hi]⟩
  · obtain ⟨rfl, y⟩ := y
    have hx := y xs (at' g)
    obtain ⟨v, e4, e5⟩ := e3.get hr
    rw [hx] at e4
    cases e4
    exact ⟨G, .refl g.gh, r.mono g.gg e5⟩
theorem src_enumT (h : Ev M te σ G H (rTup K rs)) : Src M W (iEnumT K (tCons te tNil)) σ G H (numR K 0 rs) := fun G1 H1 a R q => h G1 H1 a _ fun x G2 H2 b p => by
  obtain ⟨d, vs, rfl, e2, e3⟩ := p
  have at' : ∀ {G H : Hp}, Gr W G2 H2 G H → SqT K H d vs := fun g => (g.gg.trans g.gh).seqT e2
  refine ⟨d, vs, rfl, b.at.le.seqT e2, q _ G2 H2 b ⟨fun i G H hi g => ?_, fun G H g => ⟨vs, at' g, by rw [← e3.length, numR_len]⟩, fun i r G H x H' hr g y => ?_⟩⟩
  · have hi : i < vs.length := by rw [← e3.length]; rw [numR_len] at hi; exact hi
    exact ⟨vs, vs[i], at' g, by simp [hi]⟩
  · obtain ⟨T, x', rfl, hT, rfl, y⟩ := y
    have hx := y vs (at' g)
    rw [numR_get] at hr
    cases e6 : rs[i]? with
    | none => rw [e6] at hr; cases hr
    | some r0 =>
      rw [e6] at hr
      cases hr
      obtain ⟨v, e4, e5⟩ := e3.get e6
      rw [hx] at e4
      cases e4
      have c := Gr.new (W := []) g.gh (o := .tup [.int (i : Nat), x']) hT
      refine ⟨_, c, T, _, rfl, .of upd_same, .cons ?_ (.cons (r0.mono (g.gg.trans c.gg) e5) .nil)⟩
      show V.int (i : Nat) = V.int ((0 + i : Nat) : Int)
      rw [Nat.zero_add]
theorem src_enum (h : Ev M te σ G H (rLst K rs)) : Src M W (iEnum K (tCons te tNil)) σ G H (numR K 0 rs) := fun G1 H1 a R q => h G1 H1 a _ fun x G2 H2 b p => by
  obtain ⟨d, vs, rfl, e2, e3⟩ := p
  have at' : ∀ {G H : Hp}, Gr W G2 H2 G H → SqL K H d vs := fun g => (g.gg.trans g.gh).seqL e2
  refine ⟨d, vs, rfl, b.at.le.seqL e2, q _ G2 H2 b ⟨fun i G H hi g => ?_, fun G H g => ⟨vs, at' g, by rw [← e3.length, numR_len]; exact Nat.le_refl _⟩, fun i r G H x H' hr g y => ?_⟩⟩
  · have hi : i < vs.length := by rw [← e3.length]; rw [numR_len] at hi; exact hi
    exact ⟨vs, vs[i], at' g, by simp [hi]⟩
  · obtain ⟨T, x', rfl, hT, rfl, y⟩ := y
    have hx := y vs (at' g)
    rw [numR_get] at hr
    cases e6 : rs[i]? with
    | none => rw [e6] at hr; cases hr
    | some r0 =>
      rw [e6] at hr
      cases hr
      obtain ⟨v, e4, e5⟩ := e3.get e6
      rw [hx] at e4
      cases e4
      have c := Gr.new (W := []) g.gh (o := .tup [.int (i : Nat), x']) hT
      refine ⟨_, c, T, _, rfl, .of upd_same, .cons ?_ (.cons (r0.mono (g.gg.trans c.gg) e5) .nil)⟩
      show V.int (i : Nat) = V.int ((0 + i : Nat) : Int)
      rw [Nat.zero_add]
theorem src_rng1 (h : Ev M te σ G H (rInt j)) (hj : -(2 ^ 62) ≤ j ∧ j < 2 ^ 62) : Src M W (iRng1 (tCons te tNil)) σ G H ((List.range j.toNat).map fun i => rInt (i : Nat)) := fun G1 H1 a R q => h G1 H1 a _ fun x G2 H2 b p => by
  have p : x = .int j := p
  subst p
  refine ⟨j, rfl, hj.1, hj.2, q _ G2 H2 b ⟨fun i G H hi g => ?_, fun G H g => ?_, fun i r G H x H' hr g y => ?_⟩⟩
  · show i < j.toNat
    rw [List.length_map, List.length_range] at hi
    exact hi
  · show j.toNat ≤ _
    simp
  · obtain ⟨rfl, y⟩ := y
    rw [List.getElem?_map] at hr
    cases e : (List.range j.toNat)[i]? with
    | none => rw [e] at hr; cases hr
    | some k =>
      rw [e] at hr
      cases hr
      have hk : k = i := by
        have := (List.getElem?_eq_some_iff.mp e).2
        simpa using this.symm
      subst hk
      refine ⟨G, .refl g.gh, ?_⟩
      show x = .int _
      rw [y]
      simp
/-- the keys of a locked dict -/
theorem src_keys {d : Addr} {od : Obj} {kvs : List (Key × V)} (h : Ev M te σ G H (rRef d)) (hl : H d = some (.frz od (.dK kvs))) (h1 : d ∉ M.W) (h2 : d ∉ W) : Src M W (iKeys te) σ G H (kvs.map fun kv => rV (kV kv.1)) := fun G1 H1 a R q => h G1 H1 a _ fun x G2 H2 b p => by
  have p : x = .ref d := p
  subst p
  have g2 : H2 d = some (.frz od (.dK kvs)) := (a.trans b).gr.hh d _ hl h1
  have wk := walk_keys (d := d) (o := od) (kvs := kvs)
  refine ⟨d, od, rfl, .inl ⟨kvs, g2, q _ G2 H2 b ⟨fun i G H hi g => wk.goes i H (by simpa using hi) (g.hh d _ g2 h2), fun G H g => by rw [List.length_map]; exact wk.stops H (g.hh d _ g2 h2), fun i r G H x H' hr g y => ?_⟩⟩⟩
  have hi : i < kvs.length := by
    have := (List.getElem?_eq_some_iff.mp hr).1
    simpa using this
  obtain ⟨rfl, k, v, e1, e2⟩ := wk.yields i H x H' hi (g.hh d _ g2 h2) y
  rw [List.getElem?_map, e1] at hr
  cases hr
  exact ⟨G, .refl g.gh, e2⟩
/-- the signs of a text -/
theorem src_str {z : Str} (h : Ev M te σ G H (rStr z)) : Src M W (iStr te) σ G H (z.cps.toList.map fun c => rStr ⟨#[c]⟩) := fun G1 H1 a R q => h G1 H1 a _ fun x G2 H2 b p => by
  have p : x = .str z := p
  subst p
  have wk := walk_str (z := z)
  refine ⟨z, rfl, q _ G2 H2 b ⟨fun i G H hi g => wk.goes i H (by simpa using hi) trivial, fun G H g => by rw [List.length_map, Array.length_toList]; exact wk.stops H trivial, fun i r G H x H' hr g y => ?_⟩⟩
  have hi : i < z.cps.size := by
    have := (List.getElem?_eq_some_iff.mp hr).1
    simpa using this
  obtain ⟨rfl, c, e1, e2⟩ := wk.yields i H x H' hi trivial y
  rw [List.getElem?_map, Array.getElem?_toList, e1] at hr
  cases hr
  exact ⟨G, .refl g.gh, e2⟩

/-! ### comprehensions -/
theorem notW (j : M.J H) {p : Addr} (hp : H p = none) : p ∉ M.W := fun z => M.dom j p z hp
theorem en_lc {wi : TI} {g : TG} {tt : TT} {vs : List Nat} (hs : Src M M.W wi σ G H rs) (O : Nat → List Rl → Prop) (h0 : O 0 [])
    (body : ∀ i r v G' H', rs[i]? = some r → Go M G H G' H' → r.P G' v → ∃ σ2, (∀ Q : L2.St → Hp → Prop, Q σ2 H' → g v (wipe σ vs) H' Q) ∧ wipe σ2 vs = wipe σ vs ∧ ∃ B : Bool → Prop, EvT M tt σ2 G' H' B ∧
      (B true → ∃ q, Ev M te σ2 G' H' q ∧ ∀ out, O i out → O (i + 1) (out ++ [q])) ∧ (B false → ∀ out, O i out → O (i + 1) out)) (hl : rs.length ≤ 100000 := by decide) :
    EvN M (tLc wi g tt te vs) σ G H (fun G o => ∃ out, O rs.length out ∧ FL out G o) := fun G1 H1 a Q q => hs G1 H1 a _ fun J G2 H2 b wk D hD => by
  have hDW : D ∉ M.W := notW b.j hD
  have hDG : G2 D = none := b.at.le.free hD
  refine ⟨fun i m H' => m = rs.length - i ∧ i ≤ rs.length ∧ ∃ G' out acc, Go M G2 H2 G' H' ∧ G' D = none ∧ H' D = some (.lst acc) ∧ Al G' out acc ∧ O i out ∧ acc.length ≤ i, ⟨rs.length, by simp, Nat.zero_le _, G2, [], [], b.at.own hD, hDG, upd_same, .nil, h0, Nat.le_refl _⟩, ?_⟩
  rintro i m H' ⟨rfl, hi, G', out, acc, g1, g2, g3, g4, g5, g6⟩
  by_cases hlt : i < rs.length
  · refine .inr ⟨wk.goes i G' H' hlt g1.gr, fun H'' => i + 1 ≤ rs.length ∧ ∃ G' out acc, Go M G2 H2 G' H'' ∧ G' D = none ∧ H'' D = some (.lst acc) ∧ Al G' out acc ∧ O (i + 1) out ∧ acc.length ≤ i + 1, fun H'' z => ⟨rs.length - (i + 1), by omega, rfl, z.1, z.2⟩, fun x H'' y => ?_⟩
    obtain ⟨G'', k1, k2⟩ := wk.yields i rs[i] G' H' x H'' (by simp [hlt]) g1.gr y
    have k3 := Go.pure k1 g1.j
    obtain ⟨m1, m2⟩ := k3.gr.loc g3 g2 hDW
    have gA : Go M G H G'' H'' := (a.trans b).trans (g1.trans k3)
    obtain ⟨σ2, b1, b2, B, b3, b4, b5⟩ := body i rs[i] x G'' H'' (by simp [hlt]) gA k2
    refine b1 _ ⟨b2, b3 G'' H'' k3.at.go _ fun c G3 H3 e hB => ?_⟩
    obtain ⟨n1, n2⟩ := e.gr.loc m1 m2 hDW
    cases c with
    | true =>
      show te σ2 H3 _
      obtain ⟨q', b6, b7⟩ := b4 hB
      refine b6 G3 H3 e _ fun y G4 H4 e2 py => ?_
      obtain ⟨n3, n4⟩ := e2.gr.loc n1 n2 hDW
      refine ⟨acc, n3, Nat.lt_of_lt_of_le (show acc.length < 100001 by omega) (by decide), hlt, G4, out ++ [q'], acc ++ [y], ⟨((g1.trans k3).trans (e.trans e2)).gr.put hD n4, (e2.at.put n4 hDW).j⟩, n4, upd_same, ?_, b7 out g5, ?_⟩
      · exact (g4.mono ((k3.trans e).trans e2).gg).append (.cons py .nil)
      · rw [List.length_append, List.length_singleton]
        omega
    | false =>
      show _ ∧ _
      exact ⟨hlt, G3, out, acc, (g1.trans k3).trans e, n2, n1, g4.mono (k3.trans e).gg, b5 hB out g5, by omega⟩
  · have e : i = rs.length := by omega
    subst e
    refine .inl ⟨wk.stops G' H' g1.gr, q D (.lst acc) G' H' (b.trans g1) ?_ g2 g3 ⟨out, g5, acc, rfl, g4⟩⟩
    exact b.back hD
/-- .. the list told outright: q i for those i of which f i is true -/
theorem en_lcF {wi : TI} {g : TG} {tt : TT} {vs : List Nat} (hs : Src M M.W wi σ G H rs) (f : Nat → Bool) (q : Nat → Rl)
    (body : ∀ i r v G' H', rs[i]? = some r → Go M G H G' H' → r.P G' v → ∃ σ2, (∀ Q : L2.St → Hp → Prop, Q σ2 H' → g v (wipe σ vs) H' Q) ∧ wipe σ2 vs = wipe σ vs ∧ EvT M tt σ2 G' H' (· = f i) ∧
      (f i = true → Ev M te σ2 G' H' (q i))) (hl : rs.length ≤ 100000 := by decide) : EvN M (tLc wi g tt te vs) σ G H (FL (((List.range rs.length).filter f).map q)) :=
  (en_lc hs (fun i out => out = ((List.range i).filter f).map q) rfl (fun i r v G' H' h1 h2 h3 => by
    obtain ⟨σ2, b1, b2, b3, b4⟩ := body i r v G' H' h1 h2 h3
    refine ⟨σ2, b1, b2, _, b3, fun e => ⟨q i, b4 e.symm, fun out ho => ?_⟩, fun e out ho => ?_⟩
    · rw [ho, List.range_succ, List.filter_append, List.map_append, List.filter_cons, if_pos e.symm]
      rfl
    · rw [ho, List.range_succ, List.filter_append, List.map_append, List.filter_cons, if_neg (by rw [← e]; decide)]
      exact (List.append_nil _).symm) hl).imp fun G o ⟨out, e, h⟩ => e ▸ h
theorem range_filter_map {α β : Type} (d : α) (xs : List α) (f : α → Bool) (q : α → β) : ((List.range xs.length).filter fun i => f (xs.getD i d)).map (fun i => q (xs.getD i d)) = (xs.filter f).map q := by
  have h : ∀ (n : Nat) (xs : List α), xs.length = n → ((List.range n).filter fun i => f (xs.getD i d)).map (fun i => q (xs.getD i d)) = (xs.filter f).map q := by
    intro n
    induction n with
    | zero => intro xs h; rw [List.length_eq_zero_iff.mp h]; rfl
    | succ n ih =>
      intro xs h
      cases xs with
      | nil => cases h
      | cons x t =>
        have ih := ih t (by simpa using h)
        rw [List.range_succ_eq_map, List.filter_cons]
        have e1 : (fun i => f ((x :: t).getD i d)) ∘ Nat.succ = fun i => f (t.getD i d) := by funext i; simp
        have e2 : (fun i => q ((x :: t).getD i d)) ∘ Nat.succ = fun i => q (t.getD i d) := by funext i; simp
        rw [List.filter_map, e1]
        show List.map _ (if f x = true then _ else _) = _
        by_cases c : f x = true
        · rw [if_pos c, List.map_cons, List.map_map, e2, ih, List.filter_cons, if_pos c]
          simp
        · rw [if_neg c, List.map_map, e2, ih, List.filter_cons, if_neg c]
  exact h _ xs rfl
/-- [e for x in xs if t], over the items of a list of Lean; x at slot j -/
theorem en_lcX {α : Type} {wi : TI} {tt : TT} {vs : List Nat} {j : Nat} {xs : List α} {enc : α → Rl} (hs : Src M M.W wi σ G H (xs.map enc)) (f : α → Bool) (q : α → Rl) (hw : ∀ v, wipe ((wipe σ vs).set j (some v)) vs = wipe σ vs)
    (body : ∀ x v G' H', x ∈ xs → Go M G H G' H' → (enc x).P G' v → EvT M tt ((wipe σ vs).set j (some v)) G' H' (· = f x) ∧ (f x = true → Ev M te ((wipe σ vs).set j (some v)) G' H' (q x))) (hl : xs.length ≤ 100000 := by decide) :
    EvN M (tLc wi (gName j) tt te vs) σ G H (FL ((xs.filter f).map q)) := by
  cases hx : xs with
  | nil =>
    subst hx
    exact en_lcF hs (fun _ => false) (fun _ => rNon) (fun i r v G' H' h => (by simp at h)) (by simp)
  | cons d t =>
    rw [← hx, ← range_filter_map d xs f q]
    have := en_lcF (te := te) (tt := tt) (g := gName j) (vs := vs) hs (fun i => f (xs.getD i d)) (fun i => q (xs.getD i d)) (fun i r v G' H' h1 h2 h3 => by
      rw [List.getElem?_map] at h1
      cases e : xs[i]? with
      | none => rw [e] at h1; cases h1
      | some x =>
        rw [e] at h1
        cases h1
        have ex : xs.getD i d = x := by rw [List.getD_eq_getElem?_getD, e]; rfl
        rw [ex]
        obtain ⟨b1, b2⟩ := body x v G' H' (List.mem_of_getElem? e) h2 h3
        exact ⟨_, fun Q hQ => hQ, hw v, b1, b2⟩) (by simpa using hl)
    rw [List.length_map] at this
    exact this
theorem et_yes : EvT M tYes σ G H (· = true) := fun G1 H1 a Q q => q true G1 H1 a.at.go rfl
/-- [e for x in xs] -/
theorem en_map {α : Type} {wi : TI} {vs : List Nat} {j : Nat} {xs : List α} {enc : α → Rl} (hs : Src M M.W wi σ G H (xs.map enc)) (q : α → Rl) (hw : ∀ v, wipe ((wipe σ vs).set j (some v)) vs = wipe σ vs)
    (body : ∀ x v G' H', x ∈ xs → Go M G H G' H' → (enc x).P G' v → Ev M te ((wipe σ vs).set j (some v)) G' H' (q x)) (hl : xs.length ≤ 100000 := by decide) : EvN M (tLc wi (gName j) tYes te vs) σ G H (FL (xs.map q)) := by
  have := en_lcX (te := te) (tt := tYes) (vs := vs) (j := j) hs (fun _ => true) q hw (fun x v G' H' h1 h2 h3 => ⟨et_yes, fun _ => body x v G' H' h1 h2 h3⟩) hl
  rw [List.filter_eq_self.mpr (fun _ _ => rfl)] at this
  exact this

/-! ### statements -/
variable {D : Ends} {tu tw tz : TS} {g : TG} {φ : Hp → HO → Prop}
theorem s_asg {i : Nat} (h : Ev M te σ G H r) (a : At M G H) (k : ∀ v G' H', Go M G H G' H' → r.P G' v → D.nx (σ.set i (some v)) H') : tAsg te (gName i) D σ H := h G H a.go _ k
theorem q_asg {i : Nat} (h : Ev M te σ G H r) (a : At M G H) (k : ∀ v G' H', Go M G H G' H' → r.P G' v → tz D (σ.set i (some v)) H') : tSeq (tAsg te (gName i)) tz D σ H := h G H a.go _ k
theorem q_asgV {i : Nat} (h : Ev M te σ G H (rV v)) (a : At M G H) (k : ∀ G' H', Go M G H G' H' → tz D (σ.set i (some v)) H') : tSeq (tAsg te (gName i)) tz D σ H := h G H a.go _ fun x G' H' e p => by
  have p : x = v := p
  subst p
  exact k G' H' e
theorem q_asgN {i : Nat} (h : EvN M te σ G H φ) (a : At M G H) (k : ∀ p o G' H', Go M G H G' H' → H p = none → G' p = none → H' p = some o → φ G' o → tz D (σ.set i (some (.ref p))) H') : tSeq (tAsg te (gName i)) tz D σ H := h G H a.go _ k
theorem s_asgN {i : Nat} (h : EvN M te σ G H φ) (a : At M G H) (k : ∀ p o G' H', Go M G H G' H' → H p = none → G' p = none → H' p = some o → φ G' o → D.nx (σ.set i (some (.ref p))) H') : tAsg te (gName i) D σ H := h G H a.go _ k
theorem s_ret (h : Ev M te σ G H r) (a : At M G H) (k : ∀ v G' H', Go M G H G' H' → r.P G' v → D.rt v H') : tRet te D σ H := h G H a.go _ k
theorem s_if {c : TT} {B : Bool → Prop} (h : EvT M c σ G H B) (a : At M G H) (h1 : B true → ∀ G' H', Go M G H G' H' → tu D σ H') (h2 : B false → ∀ G' H', Go M G H G' H' → tw D σ H') : tIfS c tu tw D σ H := h G H a.go _ fun b G' H' e p => by
  cases b with
  | true => exact h1 p G' H' e
  | false => exact h2 p G' H' e
theorem q_if {c : TT} {B : Bool → Prop} (h : EvT M c σ G H B) (a : At M G H) (h1 : B true → ∀ G' H', Go M G H G' H' → tu { D with nx := tz D } σ H') (h2 : B false → ∀ G' H', Go M G H G' H' → tw { D with nx := tz D } σ H') : tSeq (tIfS c tu tw) tz D σ H := s_if (D := { D with nx := tz D }) h a h1 h2
theorem q_when {c : TT} {B : Bool → Prop} (h : EvT M c σ G H B) (a : At M G H) (h1 : B true → ∀ G' H', Go M G H G' H' → tu { D with nx := tz D } σ H') (h2 : B false → ∀ G' H', Go M G H G' H' → tz D σ H') : tSeq (tIfS c tu tNext) tz D σ H := s_if (D := { D with nx := tz D }) h a h1 h2
theorem s_when {c : TT} {B : Bool → Prop} (h : EvT M c σ G H B) (a : At M G H) (h1 : B true → ∀ G' H', Go M G H G' H' → tu D σ H') (h2 : B false → ∀ G' H', Go M G H G' H' → D.nx σ H') : tIfS c tu tNext D σ H := s_if h a h1 h2
/-- a, b, .. = t -/
theorem gc_cons {i : Nat} {v : V} {r : List V} {u : TGs} {Q : L2.St → Hp → Prop} (h : u r (σ.set i (some v)) H Q) : gCons (gName i) u (v :: r) σ H Q := ⟨v, r, rfl, h⟩
theorem gc_nil {Q : L2.St → Hp → Prop} (h : Q σ H) : gNil [] σ H Q := ⟨rfl, h⟩
theorem g_tup {k : Nat} {t : TGs} {v : V} {Q : L2.St → Hp → Prop} (p : (rTup K rs).P G v) (le : Le G H) (hn : rs.length = k) (h : ∀ vs, Al G rs vs → t vs σ H Q) : gTup K k t v σ H Q := by
  obtain ⟨a, vs, rfl, e2, e3⟩ := p
  exact ⟨a, vs, rfl, le.seqT e2, by rw [← e3.length]; exact hn, h vs e3⟩
theorem q_unp {k : Nat} {t : TGs} (h : Ev M te σ G H (rTup K rs)) (a : At M G H) (hn : rs.length = k) (kk : ∀ vs G' H', Go M G H G' H' → Al G' rs vs → t vs σ H' (tz D)) : tSeq (tAsg te (gTup K k t)) tz D σ H :=
  h G H a.go _ fun x G' H' e p => g_tup (Q := tz D) p e.at.le hn fun vs q => kk vs G' H' e q
/-- xs.append(e), of a list that may change -/
theorem s_app {l : Addr} {xs : List V} (ha : Ev M ta σ G H (rRef l)) (h : Ev M te σ G H r) (a : At M G H) (hl : H l = some (.lst xs)) (hg : G l = none) (hW : l ∉ M.W) (hz : xs.length < 100000)
    (k : ∀ v G' H', Go M G H G' H' → r.P G' v → H' l = some (.lst xs) → G' l = none → D.nx σ (upd H' l (.lst (xs ++ [v])))) : tDrop (tBM K "list" rAppend ta (tCons te tNil)) D σ H :=
  ha G H a.go _ fun x G1 H1 e1 p => by
    have p : x = .ref l := p
    subst p
    obtain ⟨n1, n2⟩ := e1.gr.loc hl hg hW
    refine ⟨.inl ⟨rfl, xs, .of n1⟩, h G1 H1 e1 _ fun v G2 H2 e2 pv => ?_⟩
    obtain ⟨n3, n4⟩ := e2.gr.loc n1 n2 hW
    exact ⟨l, xs, v, rfl, rfl, n3, Nat.lt_of_lt_of_le hz (by decide), k v G2 H2 (e1.trans e2) pv n3 n4⟩
theorem q_app {l : Addr} {xs : List V} (ha : Ev M ta σ G H (rRef l)) (h : Ev M te σ G H r) (a : At M G H) (hl : H l = some (.lst xs)) (hg : G l = none) (hW : l ∉ M.W) (hz : xs.length < 100000)
    (k : ∀ v G' H', Go M G H G' H' → r.P G' v → H' l = some (.lst xs) → G' l = none → tz D σ (upd H' l (.lst (xs ++ [v])))) : tSeq (tDrop (tBM K "list" rAppend ta (tCons te tNil))) tz D σ H := s_app (D := { D with nx := tz D }) ha h a hl hg hW hz k
/-- xs.extend(t) -/
theorem s_extT {l : Addr} {xs : List V} (ha : Ev M ta σ G H (rRef l)) (h : Ev M te σ G H (rTup K rs)) (a : At M G H) (hl : H l = some (.lst xs)) (hg : G l = none) (hW : l ∉ M.W) (hz : xs.length + rs.length ≤ 100000)
    (k : ∀ vs G' H', Go M G H G' H' → Al G' rs vs → H' l = some (.lst xs) → G' l = none → D.nx σ (upd H' l (.lst (xs ++ vs)))) : tDrop (tBM K "list" (rExtT K) ta (tCons te tNil)) D σ H :=
  ha G H a.go _ fun x G1 H1 e1 p => by
    have p : x = .ref l := p
    subst p
    obtain ⟨n1, n2⟩ := e1.gr.loc hl hg hW
    refine ⟨.inl ⟨rfl, xs, .of n1⟩, h G1 H1 e1 _ fun v G2 H2 e2 pv => ?_⟩
    obtain ⟨n3, n4⟩ := e2.gr.loc n1 n2 hW
    obtain ⟨b, vs, rfl, q1, q2⟩ := pv
    exact ⟨l, b, xs, vs, rfl, rfl, n3, e2.at.le.seqT q1, by rw [← q2.length]; exact Nat.le_trans hz (by decide), k vs G2 H2 (e1.trans e2) q2 n3 n4⟩
/-- x = xs.pop() -/
theorem q_pop {l : Addr} {xs : List V} {i : Nat} {v : V} (ha : Ev M ta σ G H (rRef l)) (a : At M G H) (hl : H l = some (.lst xs)) (hg : G l = none) (hW : l ∉ M.W) (hv : xs.getLast? = some v)
    (k : ∀ G' H', Go M G H G' H' → H' l = some (.lst xs) → G' l = none → tz D (σ.set i (some v)) (upd H' l (.lst xs.dropLast))) : tSeq (tAsg (tBM0 K "list" rPop ta) (gName i)) tz D σ H :=
  ha G H a.go _ fun x G1 H1 e1 p => by
    have p : x = .ref l := p
    subst p
    obtain ⟨n1, n2⟩ := e1.gr.loc hl hg hW
    exact ⟨.inl ⟨rfl, xs, .of n1⟩, l, xs, v, rfl, rfl, n1, by rw [← List.getLast?_eq_getElem?]; exact hv, k G1 H1 e1 n1 n2⟩
/-- d[k] = e, of a dict that may change -/
theorem q_dput {d : Addr} {kvs : List (Key × V)} {k : Key} (hv : Ev M te σ G H r) (hd : Ev M ta σ G H (rRef d)) (hk : Ev M tb σ G H (rV (kV k))) (a : At M G H) (hl : H d = some (.dK kvs)) (hg : G d = none) (hW : d ∉ M.W) (hz : kvs.length < 100000)
    (kk : ∀ v G' H', Go M G H G' H' → r.P G' v → H' d = some (.dK kvs) → G' d = none → tz D σ (upd H' d (.dK (putK kvs k v)))) : tSeq (sDPut ta tb te) tz D σ H :=
  hv G H a.go _ fun v G1 H1 e1 p => hd G1 H1 e1 _ fun x G2 H2 e2 px => hk G2 H2 (e1.trans e2) _ fun y G3 H3 e3 py => by
    have px : x = .ref d := px
    have py : y = kV k := py
    subst px py
    have e := (e1.trans e2).trans e3
    obtain ⟨n1, n2⟩ := e.gr.loc hl hg hW
    exact ⟨d, _, rfl, DPut.k n1 (Nat.lt_of_lt_of_le hz (by decide)), kk v G3 H3 e (r.mono (e2.trans e3).gg p) n1 n2⟩
theorem s_dput {d : Addr} {kvs : List (Key × V)} {k : Key} (hv : Ev M te σ G H r) (hd : Ev M ta σ G H (rRef d)) (hk : Ev M tb σ G H (rV (kV k))) (a : At M G H) (hl : H d = some (.dK kvs)) (hg : G d = none) (hW : d ∉ M.W) (hz : kvs.length < 100000)
    (kk : ∀ v G' H', Go M G H G' H' → r.P G' v → H' d = some (.dK kvs) → G' d = none → D.nx σ (upd H' d (.dK (putK kvs k v)))) : sDPut ta tb te D σ H :=
  q_dput (D := { D with nx := D.nx }) (tz := fun D => D.nx) hv hd hk a hl hg hW hz kk
/-! ### loops -/
theorem s_for {wi : TI} {tb : TS} (hs : Src M W wi σ G H rs) (a : At M G H) (hW : ∀ b ∈ M.W, b ∈ W) (I : Nat → L2.St → Hp → Hp → Prop) (h0 : ∀ G' H', Go M G H G' H' → I 0 σ G' H')
    (step : ∀ i r v σ' G' H', rs[i]? = some r → r.P G' v → Gr W G H G' H' → M.J H' → I i σ' G' H' → ∀ N : L2.St → Hp → Prop, (∀ σ2 G2 H2, Gr W G' H' G2 H2 → M.J H2 → I (i + 1) σ2 G2 H2 → N σ2 H2) → g v σ' H' fun σ2 H2 => tb { D with nx := N, ct := N, bk := D.nx } σ2 H2)
    (hI : ∀ i r σ' G' H' G'' H'', rs[i]? = some r → Gr [] G' H' G'' H'' → I i σ' G' H' → I i σ' G'' H'')
    (hd : ∀ σ' G' H', Gr W G H G' H' → M.J H' → I rs.length σ' G' H' → D.nx σ' H') : tFor wi g tb D σ H := hs G H a.go _ fun J G2 H2 b wk => by
  have b' : Gr W G H G2 H2 := b.gr.mono hW
  refine ⟨fun i m σ' H' => m = rs.length - i ∧ i ≤ rs.length ∧ ∃ G', Gr W G2 H2 G' H' ∧ M.J H' ∧ I i σ' G' H', ⟨rs.length, by simp, Nat.zero_le _, G2, .refl b.at.le, b.j, h0 G2 H2 b⟩, ?_⟩
  rintro i m σ' H' ⟨rfl, hi, G', g1, g2, g3⟩
  by_cases hlt : i < rs.length
  · refine .inr ⟨wk.goes i G' H' hlt g1, fun σ2 H3 => i + 1 ≤ rs.length ∧ ∃ G', Gr W G2 H2 G' H3 ∧ M.J H3 ∧ I (i + 1) σ2 G' H3, fun σ2 H3 z => ⟨rs.length - (i + 1), by omega, rfl, z.1, z.2⟩, fun x H'' y => ?_⟩
    obtain ⟨G'', k1, k2⟩ := wk.yields i rs[i] G' H' x H'' (by simp [hlt]) g1 y
    have hx : rs[i]? = some rs[i] := by simp [hlt]
    have j2 : M.J H'' := (Go.pure k1 g2).j
    exact step i rs[i] x σ' G'' H'' hx k2 (b'.trans (g1.trans k1.nil)) j2 (hI i rs[i] σ' G' H' G'' H'' hx k1 g3) _ fun σ2 G3 H3 e1 e2 e3 => ⟨hlt, G3, (g1.trans k1.nil).trans e1, e2, e3⟩
  · have e : i = rs.length := by omega
    subst e
    exact .inl ⟨wk.stops G' H' g1, hd σ' G' H' (b'.trans g1) g2 g3⟩
theorem q_for {wi : TI} {tb : TS} (hs : Src M W wi σ G H rs) (a : At M G H) (hW : ∀ b ∈ M.W, b ∈ W) (I : Nat → L2.St → Hp → Hp → Prop) (h0 : ∀ G' H', Go M G H G' H' → I 0 σ G' H')
    (step : ∀ i r v σ' G' H', rs[i]? = some r → r.P G' v → Gr W G H G' H' → M.J H' → I i σ' G' H' → ∀ N : L2.St → Hp → Prop, (∀ σ2 G2 H2, Gr W G' H' G2 H2 → M.J H2 → I (i + 1) σ2 G2 H2 → N σ2 H2) → g v σ' H' fun σ2 H2 => tb { D with nx := N, ct := N, bk := tz D } σ2 H2)
    (hI : ∀ i r σ' G' H' G'' H'', rs[i]? = some r → Gr [] G' H' G'' H'' → I i σ' G' H' → I i σ' G'' H'')
    (hd : ∀ σ' G' H', Gr W G H G' H' → M.J H' → I rs.length σ' G' H' → tz D σ' H') : tSeq (tFor wi g tb) tz D σ H := s_for (D := { D with nx := tz D }) hs a hW I h0 step hI hd
theorem q_while {tc : TT} {tb : TS} (W : List Addr) (hW : ∀ b ∈ M.W, b ∈ W) (I : Nat → L2.St → Hp → Hp → Prop) (m0 : Nat) (a : At M G H) (h0 : I m0 σ G H)
    (step : ∀ m σ' G' H', Gr W G H G' H' → M.J H' → I m σ' G' H' → ∃ B, EvT M tc σ' G' H' B ∧
      (B true → ∀ G1 H1, Go M G' H' G1 H1 → ∀ N : L2.St → Hp → Prop, (∀ m' σ2 G2 H2, m' < m → Gr W G H G2 H2 → M.J H2 → I m' σ2 G2 H2 → N σ2 H2) → tb { D with nx := N, ct := N, bk := tz D } σ' H1) ∧
      (B false → ∀ G1 H1, Go M G' H' G1 H1 → tz D σ' H1)) : tSeq (tWhile tc tb) tz D σ H := by
  refine ⟨fun m σ' H' => ∃ G', Gr W G H G' H' ∧ M.J H' ∧ I m σ' G' H', ⟨m0, G, .refl a.le, a.j, h0⟩, fun m σ' H' ⟨G', g1, g2, g3⟩ => ?_⟩
  obtain ⟨B, h1, h2, h3⟩ := step m σ' G' H' g1 g2 g3
  refine h1 G' H' (At.go ⟨g1.gh, g2⟩) _ fun b G1 H1 e hB => ?_
  cases b with
  | true => exact ⟨_, fun σ2 H2 z => z, h2 hB G1 H1 e _ fun m' σ2 G2 H2 e1 e2 e3 e4 => ⟨m', e1, G2, e2, e3, e4⟩⟩
  | false => exact h3 hB G1 H1 e
end
/-! ### values of a written length -/
section
variable {G : Hp} {vs : List V} {r1 r2 r3 r4 r5 r6 r7 : Rl}
theorem al0 (h : Al G [] vs) : vs = [] := by cases h; rfl
theorem al1 (h : Al G [r1] vs) : ∃ a, vs = [a] ∧ r1.P G a := by
  cases h with | cons h t => cases t; exact ⟨_, rfl, h⟩
theorem al2 (h : Al G [r1, r2] vs) : ∃ a b, vs = [a, b] ∧ r1.P G a ∧ r2.P G b := by
  cases h with | cons h t => obtain ⟨b, rfl, hb⟩ := al1 t; exact ⟨_, b, rfl, h, hb⟩
theorem al3 (h : Al G [r1, r2, r3] vs) : ∃ a b c, vs = [a, b, c] ∧ r1.P G a ∧ r2.P G b ∧ r3.P G c := by
  cases h with | cons h t => obtain ⟨b, c, rfl, hb⟩ := al2 t; exact ⟨_, b, c, rfl, h, hb⟩
theorem al4 (h : Al G [r1, r2, r3, r4] vs) : ∃ a b c d, vs = [a, b, c, d] ∧ r1.P G a ∧ r2.P G b ∧ r3.P G c ∧ r4.P G d := by
  cases h with | cons h t => obtain ⟨b, c, d, rfl, hb⟩ := al3 t; exact ⟨_, b, c, d, rfl, h, hb⟩
theorem al5 (h : Al G [r1, r2, r3, r4, r5] vs) : ∃ a b c d e, vs = [a, b, c, d, e] ∧ r1.P G a ∧ r2.P G b ∧ r3.P G c ∧ r4.P G d ∧ r5.P G e := by
  cases h with | cons h t => obtain ⟨b, c, d, e, rfl, hb⟩ := al4 t; exact ⟨_, b, c, d, e, rfl, h, hb⟩
theorem al6 (h : Al G [r1, r2, r3, r4, r5, r6] vs) : ∃ a b c d e f, vs = [a, b, c, d, e, f] ∧ r1.P G a ∧ r2.P G b ∧ r3.P G c ∧ r4.P G d ∧ r5.P G e ∧ r6.P G f := by
  cases h with | cons h t => obtain ⟨b, c, d, e, f, rfl, hb⟩ := al5 t; exact ⟨_, b, c, d, e, f, rfl, h, hb⟩
theorem al7 (h : Al G [r1, r2, r3, r4, r5, r6, r7] vs) : ∃ a b c d e f g, vs = [a, b, c, d, e, f, g] ∧ r1.P G a ∧ r2.P G b ∧ r3.P G c ∧ r4.P G d ∧ r5.P G e ∧ r6.P G f ∧ r7.P G g := by
  cases h with | cons h t => obtain ⟨b, c, d, e, f, g, rfl, hb⟩ := al6 t; exact ⟨_, b, c, d, e, f, g, rfl, h, hb⟩
end
/-! ### a def that changes nothing -/
section
variable {P : Program} {w : World} {K : PySem.W.Frag} {mg : Str → Option Value} {base : Heap} {x qual : Str} {params : Arguments} {body : List Stmt} {scope : Scope} {dvs : List V} {kws : List (Str × V)} {f : Addr} {fd : FuncData}
theorem fn_pure {ι : Type} {pre : ι → Hp → Hp → Prop} {args : ι → List Rl} {res : ι → Rl} {N ps : List Str} {k : Nat} (F : FunD K x qual params body scope dvs kws f fd) (S : FnScope N ps scope) (hlen : ∀ i, (args i).length = ps.length)
    (hb : ∀ (cdv : Value) (A : Around) (outer : List Env) (s : Shared) (H : Hp) (E : XK), Room k (A.deeper (envOfC qual scope s.heap.objs.size f cdv)) →
      ∃ t, PSs (cxOf CX0 P w K mg base N qual scope f cdv A outer s H E).nox body t ∧ ∀ (i : ι) (G : Hp) (vs : List V) (D : Ends), At md0 G H → pre i G H → Al G (args i) vs →
        (∀ v G' H', Gr [] G H G' H' → (res i).P G' v → D.rt v H') → (∀ σ G' H', Gr [] G H G' H' → (res i).P G' .non → D.nx σ H') → t D (start N vs) H) :
    FnOk P w K mg base CX0 (k + 1) f fd ps (spP pre args res) := by
  refine F.ok S (fun vs H Q E h => ?_) (fun cdv A outer s H vs Q E hr h => ?_)
  · obtain ⟨i, G, h1, h2, h3, h4⟩ := h
    rw [← hlen i]
    exact h3.length.symm
  · obtain ⟨t, ht, hrun⟩ := hb cdv A outer s H E hr
    obtain ⟨i, G, h1, h2, h3, h4⟩ := h
    exact ⟨t, ht.nox, hrun i G vs _ ⟨h1, trivial⟩ h2 h3 (fun v G' H' g p => h4 v G' H' g p) fun σ G' H' g p => h4 .non G' H' g p⟩
end
end TH
/-! More readings: chains, signs, texts' places, what the top holds. -/
namespace TH
open PySem PySem.Spec PyProof.Rows L2
section
variable {K : PySem.W.Frag} {M : Md} {σ : L2.St} {G H G' H' : Hp} {ta tb te tc : TE} {t u : TT} {r s : Rl} {v v0 : V} {i j k : Int} {n m : Nat} {rs ss : List Rl} {a b : Bool}
theorem ev_chain {g g' : Int → Int → Bool} (ha : Ev M ta σ G H (rInt i)) (hb : Ev M tb σ G H (rInt j)) (hc : Ev M tc σ G H (rInt k)) :
    Ev M (tChain (rI0 fun i j => .bl (g i j)) (rI0 fun i j => .bl (g' i j)) ta tb tc) σ G H (rBl (g i j && g' j k)) := fun G1 H1 e Q q =>
  ha G1 H1 e _ fun x G2 H2 e2 px => hb G2 H2 (e.trans e2) _ fun y G3 H3 e3 py => by
    refine ⟨i, j, px, py, g i j, rfl, ?_⟩
    cases c : g i j with
    | true =>
      show tc σ H3 _
      exact hc G3 H3 ((e.trans e2).trans e3) _ fun z G4 H4 e4 pz => ⟨j, k, py, pz, q _ G4 H4 ((e2.trans e3).trans e4) (by rw [c]; rfl)⟩
    | false => exact q _ G3 H3 (e2.trans e3) (by rw [c]; rfl)
theorem ev_eqI (ha : Ev M ta σ G H (rInt i)) (hb : Ev M tb σ G H (rInt j)) : Ev M (tOp rEq ta tb) σ G H (rBl (decide (i = j))) := by
  have := ev_eq ha hb (by rfl)
  rwa [show decide (V.int i = V.int j) = decide (i = j) from decide_eq_decide.mpr ⟨fun e => V.int.inj e, fun e => congrArg _ e⟩] at this
theorem ev_neI (ha : Ev M ta σ G H (rInt i)) (hb : Ev M tb σ G H (rInt j)) : Ev M (tOp rNe ta tb) σ G H (rBl (!decide (i = j))) := by
  have := ev_ne ha hb (by rfl)
  rwa [show decide (V.int i = V.int j) = decide (i = j) from decide_eq_decide.mpr ⟨fun e => V.int.inj e, fun e => congrArg _ e⟩] at this
theorem ev_eqS {x y : Str} (ha : Ev M ta σ G H (rStr x)) (hb : Ev M tb σ G H (rStr y)) : Ev M (tOp rEq ta tb) σ G H (rBl (decide (x = y))) := by
  have := ev_eq ha hb (by rfl)
  rwa [show decide (V.str x = V.str y) = decide (x = y) from decide_eq_decide.mpr ⟨fun e => V.str.inj e, fun e => congrArg _ e⟩] at this
theorem ev_neS {x y : Str} (ha : Ev M ta σ G H (rStr x)) (hb : Ev M tb σ G H (rStr y)) : Ev M (tOp rNe ta tb) σ G H (rBl (!decide (x = y))) := by
  have := ev_ne ha hb (by rfl)
  rwa [show decide (V.str x = V.str y) = decide (x = y) from decide_eq_decide.mpr ⟨fun e => V.str.inj e, fun e => congrArg _ e⟩] at this
/-- one sign in a text -/
theorem ev_sign {c : Nat} {z : Str} (ha : Ev M ta σ G H (rStr ⟨#[c]⟩)) (hb : Ev M tb σ G H (rStr z)) :
    Ev M (tOp (fun x y H Q => ∃ (c : Nat) (z : Str), x = .str ⟨#[c]⟩ ∧ y = .str z ∧ Q (.bl (decide (c ∈ z.cps.toList))) H) ta tb) σ G H (rBl (decide (c ∈ z.cps.toList))) :=
  ev_op ha hb fun G1 H1 x y e p q Q k => ⟨c, z, p, q, k _ G1 H1 e.at.go rfl⟩
/-- a table of the top -/
theorem ev_top {a : Addr} {vs : List V} (h : ∀ H, SqT K H a vs) : Ev M (tC (.ref a)) σ G H (rTup K (vs.map rV)) := fun G1 H1 e Q q => q _ G1 H1 e.at.go ⟨a, vs, rfl, h G1, by
  have : ∀ vs : List V, Al G1 (vs.map rV) vs := fun vs => by
    induction vs with
    | nil => exact .nil
    | cons v t ih => exact .cons rfl ih
  exact this vs⟩
/-- a table of texts -/
theorem ev_topS {a : Addr} (xs : List Str) (h : ∀ H, SqT K H a (xs.map V.str)) : Ev M (tC (.ref a)) σ G H (rTup K (xs.map rStr)) := by
  have := ev_top (M := M) (σ := σ) (G := G) (H := H) h
  rw [List.map_map] at this
  exact this
end
/-! ### lists of texts against the empty one -/
section
variable {K : PySem.W.Frag} {M : Md} {σ : L2.St} {G H G' H' : Hp} {ta tb te tc : TE}
theorem dpAll_strs {H : Hp} : ∀ xs : List Str, DpAll K H (xs.map V.str) (xs.map PyData.str)
  | [] => .nil
  | x :: t => .cons (.str x) (dpAll_strs t)
theorem canAll_strs : ∀ {xs : List Str}, (∀ x ∈ xs, PyData.strOk x = true) → PyData.canLayAll0 (xs.map PyData.str) = true
  | [], _ => rfl
  | x :: t, h => by
    show (PyData.strOk x && PyData.canLayAll0 (t.map PyData.str)) = true
    rw [h x List.mem_cons_self, canAll_strs fun y hy => h y (List.mem_cons_of_mem _ hy)]
    rfl
theorem depthAll_strs : ∀ xs : List Str, PyData.depthAll (xs.map PyData.str) = 0
  | [] => rfl
  | x :: t => by
    show max 0 (PyData.depthAll (t.map PyData.str)) = 0
    rw [depthAll_strs t]
    rfl
theorem shaped_strs {xs : List Str} (h : ∀ x ∈ xs, PyData.strOk x = true) : SeqAt.shaped (.list (xs.map PyData.str)) = true := by
  unfold SeqAt.shaped
  rw [Bool.and_eq_true, decide_eq_true_iff]
  refine ⟨canAll_strs h, ?_⟩
  show PyData.depthAll (xs.map PyData.str) + 1 ≤ 64
  rw [depthAll_strs]
  decide
/-- xs != [] -/
theorem ev_neNil {l : Addr} {xs : List Str} (ha : Ev M ta σ G H (rRef l)) (hl : H l = some (.lst (xs.map V.str))) (hW : l ∉ M.W) (hok : ∀ x ∈ xs, PyData.strOk x = true) : Ev M (tOp (rNeD K) ta (tLst tNil)) σ G H (rBl (!xs.isEmpty)) := fun G1 H1 a Q q =>
  ha G1 H1 a _ fun v G2 H2 b p => by
    have p : v = .ref l := p
    subst p
    refine ⟨(by decide : 0 ≤ sizeLine), fun d hd => ?_⟩
    have c := b.at.new (o := .lst []) hd
    have h3 := ((a.trans b).trans c).gr.hh l _ hl hW
    refine ⟨.list (xs.map PyData.str), .list [], .lst (.of h3) (dpAll_strs xs), .lst (.of upd_same) .nil, shaped_strs hok, by decide +kernel, ?_⟩
    have e : PyData.eqv (.list (xs.map PyData.str)) (.list []) = xs.isEmpty := by cases xs <;> rfl
    rw [e]
    exact q _ _ _ (b.trans c) rfl
end
/-! ### things that may change, frozen while a scalar is reckoned -/
def frzH (ps : List Addr) (G H : Hp) : Hp := fun b => if b ∈ ps then H b else G b
section
variable {K : PySem.W.Frag} {M : Md} {σ : L2.St} {G H G' H' : Hp} {ta tb te tc : TE} {tt : TT}
theorem frzH_in {ps : List Addr} {b : Addr} (h : b ∈ ps) : frzH ps G H b = H b := if_pos h
theorem frzH_out {ps : List Addr} {b : Addr} (h : b ∉ ps) : frzH ps G H b = G b := if_neg h
theorem frzH_le {ps : List Addr} (le : Le G H) : Le (frzH ps G H) H := fun b o e => by
  by_cases h : b ∈ ps
  · rw [frzH_in h] at e; exact ⟨o, e, .refl o⟩
  · rw [frzH_out h] at e; exact le b o e
theorem le_frzH {ps : List Addr} (le : Le G H) : Le G (frzH ps G H) := fun b o e => by
  by_cases h : b ∈ ps
  · rw [frzH_in h]; exact le b o e
  · rw [frzH_out h]; exact ⟨o, e, .refl o⟩
theorem tmp_go {ps : List Addr} (hp : ∀ p ∈ ps, H p ≠ none ∧ p ∉ M.W) (a : Go M G H G' H') : Go M (frzH ps G H) H (frzH ps G' H') H' := by
  have same : ∀ b ∈ ps, H' b = H b := fun b hb => by
    cases e : H b with
    | none => exact absurd e (hp b hb).1
    | some o => exact a.gr.hh b o e (hp b hb).2
  refine ⟨⟨fun b o e => ?_, frzH_le a.at.le, a.gr.hh, a.gr.dm, fun b n1 n2 => ?_⟩, a.j⟩
  · by_cases h : b ∈ ps
    · rw [frzH_in h] at e ⊢
      exact ⟨o, by rw [same b h]; exact e, .refl o⟩
    · rw [frzH_out h] at e ⊢
      exact a.gg b o e
  · by_cases h : b ∈ ps
    · rw [frzH_in h] at n1; exact n1
    · rw [frzH_out h] at n1 n2; exact a.gr.nw b n1 n2
theorem tmp_back {ps : List Addr} {G2 H2 : Hp} (le : Le G H) (b : Go M (frzH ps G H) H G2 H2) : Go M G H G H2 :=
  ⟨⟨Le.refl G, (le_frzH le).trans (b.gg.trans b.at.le), b.gr.hh, b.gr.dm, fun _ h1 h2 => (h2 h1).elim⟩, b.j⟩
theorem ev_tmp {ps : List Addr} {v : V} (hp : ∀ p ∈ ps, H p ≠ none ∧ p ∉ M.W) (h : Ev M te σ (frzH ps G H) H (rV v)) : Ev M te σ G H (rV v) := fun G1 H1 a Q q =>
  h _ _ (tmp_go hp a) Q fun x G2 H2 b p => q x G1 H2 (tmp_back a.at.le b) p
theorem et_tmp {ps : List Addr} {B : Bool → Prop} (hp : ∀ p ∈ ps, H p ≠ none ∧ p ∉ M.W) (h : EvT M tt σ (frzH ps G H) H B) : EvT M tt σ G H B := fun G1 H1 a Q q =>
  h _ _ (tmp_go hp a) Q fun x G2 H2 b p => q x G1 H2 (tmp_back a.at.le b) p
end
/-! ### more statements -/
section
variable {K : PySem.W.Frag} {M : Md} {σ : L2.St} {G H G' H' : Hp} {ta tb te tc : TE} {r : Rl} {D : Ends} {tz : TS}
theorem q_aug {i : Nat} {x y z : V} {op : TIp} (hx : σ[i]? = some (some x)) (h : Ev M te σ G H (rV y)) (a : At M G H) (hop : ∀ H (Q : VK), Q z H → op x y H Q) (k : ∀ G' H', Go M G H G' H' → tz D (σ.set i (some z)) H') : tSeq (tAug i te op) tz D σ H :=
  ⟨x, hx, h G H a.go _ fun v G1 H1 b p => by
    have p : v = y := p
    subst p
    exact hop _ _ (k G1 H1 b)⟩
theorem s_aug {i : Nat} {x y z : V} {op : TIp} (hx : σ[i]? = some (some x)) (h : Ev M te σ G H (rV y)) (a : At M G H) (hop : ∀ H (Q : VK), Q z H → op x y H Q) (k : ∀ G' H', Go M G H G' H' → D.nx (σ.set i (some z)) H') : tAug i te op D σ H :=
  q_aug (D := D) (tz := fun D => D.nx) hx h a hop k
end
/-! ### rules whose reading names the fragment plainly (so that it may stand inside a block) -/
section
variable {X : Cx} {K : PySem.W.Frag}
theorem pe_fldK {e : Expr} {ta : TE} {f : Str} {pos : Pos} (hK : X.K = K) (he : PE X e ta) (hb : attributeBase e f X.env (eval e X.env) = eval e X.env) : PE X (.Attribute e f pos) (tFld K ta f) := hK ▸ pe_fld he hb
theorem peT {e : Expr} {t t' : TE} (h : PE X e t) (q : t = t') : PE X e t' := q ▸ h
theorem ptsT {l : List Expr} {t t' : TT} (h : PTs X l t) (q : t = t') : PTs X l t' := q ▸ h
theorem piT {tg e : Expr} {t t' : TI} (h : PI X tg e t) (q : t = t') : PI X tg e t' := q ▸ h
theorem op_inK (hK : X.K = K) : OpR X (compareOp .In) (rIn K false) := hK ▸ op_in_seq
theorem op_notInK (hK : X.K = K) : OpR X (compareOp .NotIn) (rIn K true) := hK ▸ op_notIn_seq
end
/-! ### what the top of every law holds: built-in names are free, the constants of books -/
structure Top (K : PySem.W.Frag) (mg : Str → Option Value) : Prop where
  z_len : mg "len" = none
  z_all : mg "all" = none
  z_any : mg "any" = none
  z_set : mg "set" = none
  z_list : mg "list" = none
  z_tuple : mg "tuple" = none
  z_dict : mg "dict" = none
  z_int : mg "int" = none
  z_str : mg "str" = none
  z_max : mg "max" = none
  z_min : mg "min" = none
  z_range : mg "range" = none
  z_enumerate : mg "enumerate" = none
  z_isinstance : mg "isinstance" = none
  z_sorted : mg "sorted" = none
  z_bool : mg "bool" = none
  c_LETTERS : ∃ u, mg "LETTERS" = some u ∧ RelV (.str "abcdefghijklmnopqrstuvwxyz") u
  c_MOST_SIGNS : ∃ u, mg "MOST_SIGNS" = some u ∧ RelV (.int 8) u
  c_MOST_NEEDS : ∃ u, mg "MOST_NEEDS" = some u ∧ RelV (.int 12) u
  c_MOST_TRIES : ∃ u, mg "MOST_TRIES" = some u ∧ RelV (.int 30) u
  c_MOST_WAYS : ∃ u, mg "MOST_WAYS" = some u ∧ RelV (.int 4) u
  c_MOST_TIMES : ∃ u, mg "MOST_TIMES" = some u ∧ RelV (.int 4) u
  c_MOST_CASES : ∃ u, mg "MOST_CASES" = some u ∧ RelV (.int 64) u
  c_WORDS : ∃ u, mg "WORDS" = some u ∧ RelV (.ref (He.ga K "WORDS")) u
  t_WORDS : ∀ H, SqT K H (He.ga K "WORDS") [.str "and", .str "or", .str "not"]
  c_SCOPES : ∃ u, mg "SCOPES" = some u ∧ RelV (.ref (He.ga K "SCOPES")) u
  t_SCOPES : ∀ H, SqT K H (He.ga K "SCOPES") [.str "run", .str "house", .str "group", .str "try"]
  y_SCOPES : ∀ H, tyV K "tuple" (.ref (He.ga K "SCOPES")) H
abbrev FnP (K : PySem.W.Frag) (x qual : Str) (st : Stmt) (f : Addr) (fd : FuncData) : Prop := FunD K x qual (defArgs st) (defBody st) (defScope st) [] [] f fd
end TH
/-! A dict comprehension with two fors. -/
namespace TH
open PySem PySem.Spec PyProof.Rows L2
/-- {kx: vx for ta in ia if ca.. for tb in ib if cb..} -/
abbrev DC2 (kx vx ta ia tb ib : Expr) (ca cb : List Expr) (sc : Scope) (pos : Pos) : Expr := .DictComp kx vx [⟨ta, ia, ca, 0⟩, ⟨tb, ib, cb, 0⟩] sc pos
section
variable {prog : Program} {w : World} {A : Around} {R : Result → Shared → Prop} {s : Shared} {kx vx ta ia tb ib : Expr} {ca cb : List Expr} {sc : Scope} {pos : Pos} {it : Value} {D : Addr} {env : Env}
/-- all of these tests hold -/
abbrev tests (env : Env) (cs : List Expr) : Sem Bool := forIn cs true fun c r => if r = true then do { let ok ← isTrue c env (eval c env); pure (ForInStep.yield ok) } else pure (ForInStep.yield r)
abbrev Bad (prog : Program) (w : World) (A : Around) (env : Env) (R : Result → Shared → Prop) : Value → Shared → Prop := notedBy (model prog w) A env fun x u => R (.error x) u
theorem turn_outer : compTurn (DC2 kx vx ta ia tb ib ca cb sc pos) 0 it (.ref D) env = (do
    standAt ia.pos
    match ← pyNext it with
    | none => pure (.done .next)
    | some v =>
      letOwnedTupleGo ta it v
      assign ta env v
      let mut good := true
      for c in ca do
        if good then good ← isTrue c env (eval c env)
      if good then
        let y ← eval ib env
        standAt ib.pos
        let y ← foldedSetIterable ib env y
        let _ ← runOwn (.compStart (DC2 kx vx ta ia tb ib ca cb sc pos) 1 (← holding [y] (pyIter y)) (.ref D) env) env
      again (.compLoop (DC2 kx vx ta ia tb ib ca cb sc pos) 0 it (.ref D) env)) := by rfl
theorem turn_inner : compTurn (DC2 kx vx ta ia tb ib ca cb sc pos) 1 it (.ref D) env = (do
    standAt ib.pos
    match ← pyNext it with
    | none => pure (.done .next)
    | some v =>
      letOwnedTupleGo tb it v
      assign tb env v
      let mut good := true
      for c in cb do
        if good then good ← isTrue c env (eval c env)
      if good then
        (do
          let a ← eval kx env
          let b ← holding [a] (eval vx env)
          standAt { kx.pos with endLine := vx.pos.endLine, endCol := vx.pos.endCol }
          holding [a, b] (dictSet D a b))
      again (.compLoop (DC2 kx vx ta ia tb ib ca cb sc pos) 1 it (.ref D) env)) := by rfl
/-- less by some measure -/
abbrev Less (Iv : Nat → Shared → Prop) (n : Nat) (u : Shared) : Prop := ∃ m, m < n ∧ Iv m u
theorem loop_outer (fold : ∀ x, foldedSetIterable ib env x = pure x) (Iv : Nat → Shared → Prop)
    (turn : ∀ n u, Iv n u → wpAny (model prog w) A (pyNext it) (fun r u1 => match r with
      | none => R (.ok .next) u1
      | some v => wpAny (model prog w) A (letOwnedTupleGo ta it v) (fun _ u2 => wpAny (model prog w) A (assign ta env v) (fun _ u3 => wpAny (model prog w) A (tests env ca) (fun ok u4 =>
          if ok = true then wpAny (model prog w) A (eval ib env) (fun y u5 => wpAny (model prog w) A (pyIter y) (fun j u6 =>
            codeAny (model prog w) A (.compStart (DC2 kx vx ta ia tb ib ca cb sc pos) 1 j (.ref D) env) (fun z u7 => match z with
              | .ok _ => Less Iv n u7
              | .error _ => False) u6) (Bad prog w A env R) u5) (Bad prog w A env R) u4
          else Less Iv n u4) (Bad prog w A env R) u3) (Bad prog w A env R) u2) (Bad prog w A env R) u1) (Bad prog w A env R) u)
    (n : Nat) (h : Iv n s) : codeAny (model prog w) A (.compLoop (DC2 kx vx ta ia tb ib ca cb sc pos) 0 it (.ref D) env) R s := by
  refine codeAny_loop rfl Iv (fun n u hu => ?_) n h
  show wpAny _ A ((compTurn (DC2 kx vx ta ia tb ib ca cb sc pos) 0 it (.ref D) env).onRaise (fun x => do noteFrame x env; theTreesLotGoes x)) _ _ u
  refine wpAny_noted ?_
  rw [turn_outer]
  refine wpAny_bind (wpAny_standAt (wpAny_bind (wpAny_mono (turn n u hu) (fun r u1 k1 => ?_) fun _ _ z => z)))
  cases r with
  | none => exact wpAny_pure k1
  | some v =>
    refine wpAny_bind (wpAny_mono k1 (fun _ u2 k2 => wpAny_bind (wpAny_mono k2 (fun _ u3 k3 => wpAny_bind (wpAny_mono k3 (fun ok u4 k4 => ?_) fun _ _ z => z)) fun _ _ z => z)) fun _ _ z => z)
    cases ok with
    | false => exact wpAny_pure ⟨rfl, k4⟩
    | true =>
      refine wpAny_bind (wpAny_mono k4 (fun y u5 k5 => wpAny_bind (wpAny_standAt (wpAny_bind (wpAny_of_eq (fold y) (wpAny_bind (wpAny_holding (wpAny_mono k5 (fun j u6 k6 => ?_) fun _ _ z => z))))))) fun _ _ z => z)
      refine wpAny_bind (wpAny_runOwn ?_)
      rw [Around.mark_none]
      refine codeAny_mono k6 fun z u7 k7 => ?_
      cases z with
      | error e => exact k7.elim
      | ok f =>
        first
          | exact wpAny_pure ⟨rfl, k7⟩
          | exact wpAny_bind (wpAny_pure (wpAny_pure ⟨rfl, k7⟩))
theorem loop_inner (Iv : Nat → Shared → Prop)
    (turn : ∀ n u, Iv n u → wpAny (model prog w) A (pyNext it) (fun r u1 => match r with
      | none => R (.ok .next) u1
      | some v => wpAny (model prog w) A (letOwnedTupleGo tb it v) (fun _ u2 => wpAny (model prog w) A (assign tb env v) (fun _ u3 => wpAny (model prog w) A (tests env cb) (fun ok u4 =>
          if ok = true then wpAny (model prog w) A (eval kx env) (fun a u5 => wpAny (model prog w) A (eval vx env) (fun b u6 =>
            wpAny (model prog w) A (dictSet D a b) (fun _ u7 => Less Iv n u7) (Bad prog w A env R) u6) (Bad prog w A env R) u5) (Bad prog w A env R) u4
          else Less Iv n u4) (Bad prog w A env R) u3) (Bad prog w A env R) u2) (Bad prog w A env R) u1) (Bad prog w A env R) u)
    (n : Nat) (h : Iv n s) : codeAny (model prog w) A (.compLoop (DC2 kx vx ta ia tb ib ca cb sc pos) 1 it (.ref D) env) R s := by
  refine codeAny_loop rfl Iv (fun n u hu => ?_) n h
  show wpAny _ A ((compTurn (DC2 kx vx ta ia tb ib ca cb sc pos) 1 it (.ref D) env).onRaise (fun x => do noteFrame x env; theTreesLotGoes x)) _ _ u
  refine wpAny_noted ?_
  rw [turn_inner]
  refine wpAny_bind (wpAny_standAt (wpAny_bind (wpAny_mono (turn n u hu) (fun r u1 k1 => ?_) fun _ _ z => z)))
  cases r with
  | none => exact wpAny_pure k1
  | some v =>
    refine wpAny_bind (wpAny_mono k1 (fun _ u2 k2 => wpAny_bind (wpAny_mono k2 (fun _ u3 k3 => wpAny_bind (wpAny_mono k3 (fun ok u4 k4 => ?_) fun _ _ z => z)) fun _ _ z => z)) fun _ _ z => z)
    cases ok with
    | false => exact wpAny_pure ⟨rfl, k4⟩
    | true => exact wpAny_bind (wpAny_bind (wpAny_mono k4 (fun a u5 k5 => wpAny_bind (wpAny_holding (wpAny_mono k5 (fun b u6 k6 => wpAny_bind (wpAny_standAt (wpAny_holding (wpAny_mono k6 (fun _ u7 k7 => wpAny_pure ⟨rfl, k7⟩) fun _ _ z => z)))) fun _ _ z => z))) fun _ _ z => z))
theorem start_inner (h0 : codeAny (model prog w) A (.compLoop (DC2 kx vx ta ia tb ib ca cb sc pos) 1 it (.ref D) env) R s)
    (h : wpAny (model prog w) A (pyIter it) (fun j u => codeAny (model prog w) A (.compLoop (DC2 kx vx ta ia tb ib ca cb sc pos) 1 j (.ref D) env) R u) (Bad prog w A env R) s) :
    codeAny (model prog w) A (.compStart (DC2 kx vx ta ia tb ib ca cb sc pos) 1 it (.ref D) env) R s := by
  refine codeAny_of_tree ?_
  show wpAny _ _ ((compStart (DC2 kx vx ta ia tb ib ca cb sc pos) 1 it (.ref D) env).onRaise (fun x => do noteFrame x env; standAt theWindowsPlace)) _ _ s
  refine wpAny_notedAt ?_
  unfold compStart
  show wpAny _ _ (ask >>= _) _ _ s
  refine wpAny_bind (wpAny_askSetting (wpAny_ite ?_))
  split
  · first
      | exact wpAny_bind (wpAny_pure (wpAny_pure ⟨rfl, h0⟩))
      | exact wpAny_pure ⟨rfl, h0⟩
  · first
      | exact wpAny_bind (wpAny_rule (wpAny_bind (wpAny_standAt (wpAny_bind (wpAny_mono h (fun j u k => wpAny_pure ⟨rfl, k⟩) fun _ _ z => z)))))
      | (refine wpAny_bind (wpAny_rule ?_); show wpAny _ _ (standAt ib.pos >>= _) _ _ s; exact wpAny_bind (wpAny_standAt (wpAny_bind (wpAny_mono h (fun j u k => wpAny_pure ⟨rfl, k⟩) fun _ _ z => z))))
end
section
variable {X : Cx}
/-- its reading: vs the block's names, vb those of the second target -/
def tDc2 (wa : TI) (ga : TG) (qa : TT) (wb : TI) (gb : TG) (qb : TT) (tk tv : TE) (vs vb : List Nat) : TE := fun σ H Q => wa σ H fun J H1 => ∀ D, H1 D = none → ∃ W : Nat → Nat → Hp → Prop, (∃ m, W 0 m (upd H1 D (.dK []))) ∧ ∀ i m H, W i m H →
  (J.stop i H ∧ Q (.ref D) H) ∨ (J.go i H ∧ ∃ Nx : Hp → Prop, (∀ H', Nx H' → ∃ m', m' < m ∧ W (i + 1) m' H') ∧ ∀ x H', J.yld i H x H' → ga x (wipe σ vs) H' fun σ2 H2 => wipe σ2 vs = wipe σ vs ∧ qa σ2 H2 fun b H3 =>
    if b = true then wb σ2 H3 fun J' H4 => ∃ W' : Nat → Nat → Hp → Prop, (∃ m, W' 0 m H4) ∧ ∀ j k H, W' j k H →
      (J'.stop j H ∧ Nx H) ∨ (J'.go j H ∧ ∃ Ny : Hp → Prop, (∀ H', Ny H' → ∃ k', k' < k ∧ W' (j + 1) k' H') ∧ ∀ x H', J'.yld j H x H' → gb x (wipe σ2 vb) H' fun σ3 H5 => wipe σ3 vb = wipe σ2 vb ∧ qb σ3 H5 fun b H6 =>
        if b = true then tk σ3 H6 fun y H7 => tv σ3 H7 fun z H8 => ∃ kvs k, y = kV k ∧ H8 D = some (.dK kvs) ∧ kvs.length < sizeLine ∧ Ny (upd H8 D (.dK (putK kvs k z))) else Ny H6)
    else Nx H3)
/-- a part of the block, whatever the block's heap -/
abbrev AllB (X : Cx) (sc : Scope) (Z : Cx → Prop) : Prop := ∀ (s : Shared) (H : Hp) (C : Addr) (cl : List (Str × Addr)) (fp : List Addr), Z (X.blk s H sc (compEnvC sc cl C X.env) fp)
theorem pe_dc2 {kx vx ta ia tb ib : Expr} {ca cb : List Expr} {sc : Scope} {own : List (Str × Nat)} {vb : List Nat} {pos : Pos} {wa wb : TI} {ga gb : TG} {qa qb : TT} {tk tv : TE} (calm : X.calm = true) (nd : X.N.Nodup) (pia : PI X ta ia wa) (ok : BlkOk X.N X.env.scope sc own) (sub : ∀ i ∈ vb, i ∈ own.map (·.2))
    (pga : AllB X sc fun Y => PG Y ta ga) (pca : AllB X sc fun Y => PTs Y ca qa) (pib : AllB X sc fun Y => PI Y tb ib wb) (pgb : AllB X sc fun Y => PG Y tb gb) (pcb : AllB X sc fun Y => PTs Y cb qb) (pk : AllB X sc fun Y => PE Y kx tk) (pv : AllB X sc fun Y => PE Y vx tv)
    (fa : ∀ x, foldedSetIterable ia X.env x = pure x := by intro _; rfl) (fb : ∀ env x, foldedSetIterable ib env x = pure x := by intro _ _; rfl) : PE X (DC2 kx vx ta ia tb ib ca cb sc pos) (tDc2 wa ga qa wb gb qb tk tv (own.map (·.2)) vb) := by
  refine ⟨fun pins s σ H Q I hyp => ?_⟩
  rw [arm_eval_DictComp]
  have cells : ∀ y ∈ sc.names, y.2 = .free → ∃ c, X.env.cells.lookup y.1 = some c := fun y hy e => (ok.free y hy e).elim (fun k => I.ok.has _ (.inl k)) fun k => I.ok.has _ (.inr k)
  show wpAny (model X.prog X.w) X.A (comprehension (DC2 kx vx ta ia tb ib ca cb sc pos) sc X.env _ newDict false (eval ia X.env) none) _ _ s
  refine wpAny_comprehension_free rfl fa (closure_ok cells) ok.kind (fun y hy e => by rw [ok.uniq y hy, e]) (thn (pia.run pins s σ H _ I hyp) fun xv s1 hx => thn hx fun itv s2 h2 => ?_)
  obtain ⟨it, fp, tn, J, H2, e, I2, T, st2, f2, q⟩ := h2
  subst e
  refine wpAny_newObj_type (newEnv_comp ?_)
  generalize hD : s2.heap.objs.size = D
  obtain ⟨W, ⟨m0, w0⟩, turn⟩ := q D (I2.hok.fresh (Nat.le_of_eq hD))
  generalize hs3 : ({ s2 with heap := s2.heap.push { cls := .type "dict", data := .dict #[] } } : Shared) = s3
  have hp3 : s3.heap = s2.heap.push { cls := .type "dict", data := .dict #[] } := by rw [← hs3]
  have I3 : Inv X pins σ (upd H2 D (.dK [])) s3 := by
    rw [← hs3]
    exact I2.laid (t' := s2.toks) (fun b o e => Heap.get?_push_of_some _ e) (Nat.le_of_eq hD) (by rw [← hD]; exact dk_empty s2.heap I2.big)
  have f3 : ∀ b ∈ fp, FpOk X pins (upd H2 D (.dK [])) b ∧ b < s3.heap.objs.size := fun b hb => by
    obtain ⟨o, e, _⟩ := T.obj _ _ st2 b hb
    have lt := Heap.lt_size e
    exact ⟨⟨by rw [upd_ne (by rw [← hD]; exact Nat.ne_of_lt lt)]; exact (f2 b hb).1, (f2 b hb).2⟩, by rw [hp3, Heap.size_push]; exact Nat.lt_succ_of_lt lt⟩
  have st3 : tn 0 s3.heap := T.keep _ _ _ st2 fun b _ o e => by rw [hp3]; exact Heap.get?_push_of_some _ e
  have I4 := block_start I3 ok nd f3
  show codeAny _ _ (.compStart (DC2 kx vx ta ia tb ib ca cb sc pos) 0 (.ref it) (.ref D) (compEnvC sc (cellsFrom (s3.heap.objs.size + 1) sc.names (cloFrom X.env.cells sc.names [])) s3.heap.objs.size X.env)) (compPost (model X.prog X.w) X.A X.xe none _ (.ref D) s3.heap.objs.size) { s3 with heap := pushCells (s3.heap.push { cls := .type "dict", data := .dict #[] }) sc.names }
  have none3 : ∀ b ∈ fp, (upd H2 D (.dK [])) b = none := fun b hb => (f3 b hb).1.1
  have rga := pga s3 (upd H2 D (.dK [])) s3.heap.objs.size (cellsFrom (s3.heap.objs.size + 1) sc.names (cloFrom X.env.cells sc.names [])) fp
  have rca := pca s3 (upd H2 D (.dK [])) s3.heap.objs.size (cellsFrom (s3.heap.objs.size + 1) sc.names (cloFrom X.env.cells sc.names [])) fp
  have rib := pib s3 (upd H2 D (.dK [])) s3.heap.objs.size (cellsFrom (s3.heap.objs.size + 1) sc.names (cloFrom X.env.cells sc.names [])) fp
  have rgb := pgb s3 (upd H2 D (.dK [])) s3.heap.objs.size (cellsFrom (s3.heap.objs.size + 1) sc.names (cloFrom X.env.cells sc.names [])) fp
  have rcb := pcb s3 (upd H2 D (.dK [])) s3.heap.objs.size (cellsFrom (s3.heap.objs.size + 1) sc.names (cloFrom X.env.cells sc.names [])) fp
  have rk := pk s3 (upd H2 D (.dK [])) s3.heap.objs.size (cellsFrom (s3.heap.objs.size + 1) sc.names (cloFrom X.env.cells sc.names [])) fp
  have rv := pv s3 (upd H2 D (.dK [])) s3.heap.objs.size (cellsFrom (s3.heap.objs.size + 1) sc.names (cloFrom X.env.cells sc.names [])) fp
  generalize hen : compEnvC sc (cellsFrom (s3.heap.objs.size + 1) sc.names (cloFrom X.env.cells sc.names [])) s3.heap.objs.size X.env = en at I4 rga rca rib rgb rcb rk rv ⊢
  have hloc : en.locals = s3.heap.objs.size := by subst hen; rfl
  generalize hH3 : upd H2 D (.dK []) = H3 at I3 I4 rga rca rib rgb rcb rk rv w0 none3 f3
  generalize hs4 : ({ s3 with heap := pushCells (s3.heap.push { cls := .type "dict", data := .dict #[] }) sc.names } : Shared) = s4 at I4 ⊢
  have st4 : tn 0 s4.heap := T.keep _ _ _ st3 fun b _ o e => by rw [← hs4]; exact pushCells_keeps _ _ _ _ (Heap.get?_push_of_some _ e)
  let Y := X.blk s3 H3 sc en fp
  let us := own.map (·.2)
  have okY : ∀ {σ' : L2.St} {H' : Hp} {u : Shared}, Inv Y [] σ' H' u → (∀ b ∈ fp, H' b = none) → ∀ b ∈ fp, FpOk Y [] H' b := fun {σ' H' u} I' hn b hb =>
    ⟨hn b hb, (I'.ok.exf b hb).1, I'.ok.exfs b hb, .inl hb, fun x c e => (I'.ok.exf b hb).2 x c e, fun p hp => absurd (show p ∈ ([] : List (Addr × Obj)) ++ [] from hp) (by simp)⟩
  let Iv : Nat → Shared → Prop := fun n u => ∃ i H', Inv Y [] (wipe σ us) H' u ∧ tn i u.heap ∧ (∀ b ∈ fp, H' b = none) ∧ W i n H'
  have loop : codeAny (model X.prog X.w) X.A (.compLoop (DC2 kx vx ta ia tb ib ca cb sc pos) 0 (.ref it) (.ref D) en) (compPost (model X.prog X.w) X.A X.xe none (EP X pins σ Q) (.ref D) s3.heap.objs.size) s4 := by
    refine loop_outer (fb en) Iv ?_ m0 ⟨0, H3, I4, st4, none3, w0⟩
    rintro n s5 ⟨i, H5, I5, st5, n5, w5⟩
    rcases turn i n H5 w5 with ⟨stop, qq⟩ | ⟨go, Nx, hNx, step⟩
    · refine thnF (T.done Y rfl rfl rfl calm i [] s5 _ H5 (fun _ _ => False) I5 (okY I5 n5) st5 stop) fun r s6 ⟨hr, I6⟩ => ?_
      subst hr
      have I7 : Inv X pins σ H5 s6 := I3.call' (ch := fp) I6.os I6.base I6.hok I6.bare fun b hb => ⟨(f3 b hb).1.2.2.2.1, (f3 b hb).1.2.1, (f3 b hb).1.2.2.2.2.1, (f3 b hb).1.2.2.2.2.2⟩
      have nC : H5 s3.heap.objs.size = none := hloc ▸ (show H5 en.locals = none from I6.free)
      obtain ⟨m, hn, _⟩ := I6.loc
      have hn : s6.heap.Ns s3.heap.objs.size m := hloc ▸ (show s6.heap.Ns en.locals m from hn)
      obtain ⟨g0, g1, g2, g3, g4, g5⟩ := I3.fpOk (Nat.le_refl _) nC
      exact ⟨m, hn, fun h'' sb => ⟨.ref D, H5, I7.turned (t' := s6.toks) (fun b o hb e => (sb.2 b hb).trans e) g0 g1 g3 g4 g5, rfl, qq⟩⟩
    · refine thnF (T.item Y rfl rfl rfl calm i [] s5 _ H5 (fun _ _ => False) I5 (okY I5 n5) st5 go) fun r s6 ⟨u, hr, h6⟩ => ?_
      subst hr
      refine thnF h6 fun _ s7 ⟨x, H7, I7, r7, y7, st7, n7⟩ => ?_
      refine thnF (rga.run _ s7 _ H7 x u _ (I7.pinned (okY I7 n7) (T.obj _ _ st7)) r7 (step x H7 y7)) fun _ s8 ⟨σ8, H8, I8, hw8, q8⟩ => ?_
      refine thnF (rca.run _ s8 σ8 H8 _ I8 q8) fun b s9 ⟨H9, I9, q9⟩ => ?_
      have fin : ∀ {σ9 : L2.St} {u : Shared} {H' : Hp}, Inv Y ([] ++ pinsAt fp s7.heap) σ9 H' u → (wipe σ us).length = σ9.length → (∀ (j : Nat) v, (wipe σ us)[j]? = some (some v) → σ9[j]? = some (some v)) → Nx H' → Less Iv n u := fun {σ9 u H'} I' hl hk nx => by
        obtain ⟨m', hm, w'⟩ := hNx H' nx
        have stay : ∀ b ∈ fp, ∀ o, s7.heap.get? b = some o → u.heap.get? b = some o ∧ H' b = none := fun b hb o e =>
          let z := I'.pin (b, o) (List.mem_append_right _ (List.mem_append_right _ (mem_pinsAt hb e)))
          ⟨z.1, z.2.1⟩
        exact ⟨m', hm, i + 1, H', (I'.unpinned (pins := [])).weak hl hk, T.keep _ _ _ st7 fun b hb o e => (stay b hb o e).1, fun b hb => let ⟨o, e, _⟩ := T.obj _ _ st7 b hb; (stay b hb o e).2, w'⟩
      have len8 : (wipe σ us).length = σ8.length := by rw [← hw8, wipe_length]
      have knows8 : ∀ (j : Nat) v, (wipe σ us)[j]? = some (some v) → σ8[j]? = some (some v) := fun j v e => (wipe_some (hw8 ▸ e)).1
      have knows9 : ∀ (j : Nat) v, (wipe σ us)[j]? = some (some v) → (wipe σ8 vb)[j]? = some (some v) := fun j v e => by
        obtain ⟨e1, e2⟩ := wipe_some (show (wipe σ8 us)[j]? = some (some v) by rw [hw8]; exact e)
        rw [wipe_out fun z => e2 (sub j z)]
        exact e1
      cases b with
      | false => exact fin I9 len8 knows8 (show Nx H9 by simpa using q9)
      | true =>
        rw [if_pos rfl] at q9
        show wpAny _ _ (eval ib en) _ _ s9
        refine thnF (rib.run _ s9 σ8 H9 _ I9 q9) fun xv s10 hx => thnF hx fun itv s11 h11 => ?_
        obtain ⟨jt, fq, tn', J', H11, e1, I11, T', st11, f11, W', ⟨m1, w1⟩, turn'⟩ := h11
        subst e1
        have okZ : ∀ {H' : Hp}, (∀ b ∈ fq, H' b = none) → ∀ b ∈ fq, FpOk Y ([] ++ pinsAt fp s7.heap) H' b := fun hn b hb => ⟨hn b hb, (f11 b hb).2⟩
        let Iw : Nat → Shared → Prop := fun k u => ∃ j H', Inv Y ([] ++ pinsAt fp s7.heap) (wipe σ8 vb) H' u ∧ tn' j u.heap ∧ (∀ b ∈ fq, H' b = none) ∧ W' j k H'
        have inner : codeAny (model X.prog X.w) X.A (.compLoop (DC2 kx vx ta ia tb ib ca cb sc pos) 1 (.ref jt) (.ref D) en) (fun z u => match z with | .ok _ => Less Iv n u | .error _ => False) s11 := by
          refine loop_inner Iw ?_ m1 ⟨0, H11, I11.weak (wipe_length _ _) (fun j v e => (wipe_some e).1), st11, fun b hb => (f11 b hb).1, w1⟩
          rintro k s12 ⟨j, H12, I12, st12, n12, w12⟩
          rcases turn' j k H12 w12 with ⟨stop', nx'⟩ | ⟨go', Ny, hNy, step'⟩
          · refine thnF (T'.done Y rfl rfl rfl calm j _ s12 (wipe σ8 vb) H12 (fun _ _ => False) I12 (okZ n12) st12 stop') fun r s13 ⟨hr, I13⟩ => ?_
            subst hr
            exact fin I13 (len8.trans (wipe_length σ8 vb).symm) knows9 nx'
          · refine thnF (T'.item Y rfl rfl rfl calm j _ s12 (wipe σ8 vb) H12 (fun _ _ => False) I12 (okZ n12) st12 go') fun r s13 ⟨u1, hr, h13⟩ => ?_
            subst hr
            refine thnF h13 fun _ s14 ⟨x1, H14, I14, r14, y14, st14, n14⟩ => ?_
            refine thnF (rgb.run _ s14 (wipe σ8 vb) H14 x1 u1 _ (I14.pinned (okZ n14) (T'.obj _ _ st14)) r14 (step' x1 H14 y14)) fun _ s15 ⟨σ15, H15, I15, hw15, q15⟩ => ?_
            refine thnF (rcb.run _ s15 σ15 H15 _ I15 q15) fun b1 s16 ⟨H16, I16, q16⟩ => ?_
            have fin' : ∀ {u : Shared} {H' : Hp}, Inv Y (([] ++ pinsAt fp s7.heap) ++ pinsAt fq s14.heap) σ15 H' u → Ny H' → Less Iw k u := fun {u H'} I' nx => by
              obtain ⟨m', hm, w'⟩ := hNy H' nx
              have stay : ∀ b ∈ fq, ∀ o, s14.heap.get? b = some o → u.heap.get? b = some o ∧ H' b = none := fun b hb o e =>
                let z := I'.pin (b, o) (List.mem_append_right _ (List.mem_append_right _ (mem_pinsAt hb e)))
                ⟨z.1, z.2.1⟩
              exact ⟨m', hm, j + 1, H', I'.unpinned.weak (by rw [← hw15, wipe_length]) (fun j v e => (wipe_some (hw15 ▸ e)).1), T'.keep _ _ _ st14 fun b hb o e => (stay b hb o e).1, fun b hb => let ⟨o, e, _⟩ := T'.obj _ _ st14 b hb; (stay b hb o e).2, w'⟩
            cases b1 with
            | false => exact fin' I16 (show Ny H16 by simpa using q16)
            | true =>
              rw [if_pos rfl] at q16
              show wpAny _ _ (eval kx en) _ _ s16
              refine thnF (rk.run _ s16 σ15 H16 _ I16 q16) fun z1 s17 ⟨yk, H17, I17, r17, q17⟩ => ?_
              refine thnF (rv.run _ s17 σ15 H17 _ I17 q17) fun z2 s18 ⟨yv, H18, I18, r18, kvs, kk, ek, hD18, hz18, nx⟩ => ?_
              subst ek
              exact d_dictSet (X := Y) I18 hD18 hz18 r17 r18 fun s19 I19 => fin' I19 nx
        exact start_inner inner (T'.self X.A 0 _ _ _ st11 inner)
  exact codeAny_compStart_dict loop (T.self X.A 0 _ _ _ st4 loop)
end
end TH
/-! t[::-1] of a tuple; readings by cases. -/
namespace TH
open PySem PySem.Spec PyProof.Rows L2 HT
theorem adjust_rev (n : Nat) : Builtin.Slice.sliceAdjust none none (-1) (n : Int) = ((n : Int) - 1, -1) := by
  unfold Builtin.Slice.sliceAdjust
  simp
theorem places_rev (n : Nat) : Builtin.Slice.slicePlaces ((n : Int) - 1) (-1) (-1) = n := by
  unfold Builtin.Slice.slicePlaces
  simp
  omega
section
variable {prog : Program} {w : World} {A : Around} {E : Value → Shared → Prop} {s : Shared}
theorem applied_rev {sl : Addr} {vl vu vs : Value} {n : Nat} {Q : Int × Int × Nat → Shared → Prop} (hs : s.heap.IsSliceOf sl vl vu vs) (pl : IsPart vl none) (pu : IsPart vu none) (ps : IsPart vs (some (-1)))
    (h : Q ((n : Int) - 1, -1, n) s) : wpAny (model prog w) A (Builtin.Slice.sliceApplied (.ref sl) (pure (n : Int))) Q E s := by
  obtain ⟨os, hos, hcs, hds⟩ := id hs
  unfold Builtin.Slice.sliceApplied Builtin.Slice.sliceFields
  refine wpAny_bind (wpAny_bind (wpAny_field hos hds (x := vl) rfl (wpAny_bind (wpAny_field hos hds (x := vu) rfl (wpAny_bind (wpAny_field hos hds (x := vs) rfl (wpAny_pure ?_)))))))
  refine wpAny_bind (slicePart_ ps ?_)
  show wpAny _ _ (if ((-1 : Int) == 0) = true then _ else _) _ _ s
  rw [if_neg (by decide)]
  refine wpAny_bind (slicePart_ pl (wpAny_bind (slicePart_ pu (wpAny_bind (wpAny_pure ?_)))))
  show wpAny _ _ (match Builtin.Slice.sliceAdjust none none (-1) (n : Int) with | (lo, hi) => pure (lo, (-1 : Int), Builtin.Slice.slicePlaces lo hi (-1))) _ _ s
  rw [adjust_rev]
  show wpAny _ _ (pure ((n : Int) - 1, (-1 : Int), Builtin.Slice.slicePlaces ((n : Int) - 1) (-1) (-1))) _ _ s
  rw [places_rev]
  exact wpAny_pure h
theorem fm_some {α β : Type} (f : α → Option β) (g : α → β) : ∀ l : List α, (∀ x ∈ l, f x = some (g x)) → l.filterMap f = l.map g
  | [], _ => rfl
  | x :: t, h => by
    rw [List.filterMap_cons, h x List.mem_cons_self, fm_some f g t fun y hy => h y (List.mem_cons_of_mem _ hy)]
    rfl
theorem pick_rev (xs : Array Value) : ((List.range xs.size).filterMap fun (k : Nat) => xs[((xs.size : Int) - 1 + (k : Int) * -1).toNat]?).toArray = xs.toList.reverse.toArray := by
  congr 1
  rw [fm_some _ (fun k => (xs[xs.size - 1 - k]?).getD Value.none) _ fun k hk => by
    have hk := List.mem_range.mp hk
    rw [show ((xs.size : Int) - 1 + (k : Int) * -1).toNat = xs.size - 1 - k by omega, Array.getElem?_eq_getElem (show xs.size - 1 - k < xs.size by omega)]
    rfl]
  refine List.ext_getElem? fun i => ?_
  rw [List.getElem?_map]
  by_cases h : i < xs.size
  · rw [List.getElem?_range h, List.getElem?_reverse (by simpa using h)]
    simp only [Option.map_some, Array.length_toList, Array.getElem?_toList]
    rw [Array.getElem?_eq_getElem (show xs.size - 1 - i < xs.size by omega)]
    rfl
  · rw [List.getElem?_eq_none (by simpa using h), List.getElem?_eq_none (by simpa using h)]
    rfl
theorem getItem_tuple_rev {t sl : Addr} {items : Array Value} {vl vu vs : Value} {Q : Value → Shared → Prop} (ht : IsTup s.heap t items) (hs : s.heap.IsSliceOf sl vl vu vs) (pl : IsPart vl none) (pu : IsPart vu none) (ps : IsPart vs (some (-1)))
    (h : Q (.ref s.heap.objs.size) { s with heap := s.heap.push { cls := .type "tuple", data := .seq items.toList.reverse.toArray } }) (hsz : items.size ≤ sizeLine) : wpAny (model prog w) A (getItem (.ref t) (.ref sl)) Q E s := by
  have fits : sizeOk (.seq items.toList.reverse.toArray) := by
    show items.toList.reverse.toArray.size ≤ sizeLine
    rw [List.size_toArray, List.length_reverse, Array.length_toList]
    exact hsz
  obtain ⟨os, hos, hcs, hds⟩ := id hs
  have kind : s.TypeIs (.ref sl) "slice" := ⟨os, hos, hcs⟩
  unfold getItem
  try with_reducible refine wpAny_holding ?_
  first | refine wpAny_bind (wpAny_pure ?_) | skip
  refine wpAny_bind (wpAny_sequenceKey ht.typeIs (by decide) (wpAny_bind (wpAny_callSpecial?_slot (name := Str.ofString "__getitem__") ht.typeIs PyProof.Rows.slot_tuple_getitem (wpAny_call_entry PyProof.Rows.slot_tuple_getitem ht.typeIs entry_tuple_getitem ?_ (args_tuple_getitem _ _)))))
  show wpAny _ _ (Builtin.Tuple.tupleItemsOf (.ref t) >>= _) _ _ s
  refine wpAny_bind (tupleItemsOf_ ht (wpAny_bind (wpAny_typeOf kind ?_)))
  rw [if_pos (by decide)]
  refine wpAny_bind (applied_rev hs pl pu ps ?_)
  have no : ¬ ((((items.size : Int) - 1) == 0 && (-1 : Int) == 1 && items.size == items.size) = true) := by simp
  show wpAny _ _ (if (((items.size : Int) - 1) == 0 && (-1 : Int) == 1 && items.size == items.size) = true then _ else _) _ _ s
  rw [if_neg no, pick_rev]
  first
    | exact wpAny_bind (m := Builtin.Tuple.tupleExact _) (wpAny_newObj_type (wpAny_pure ⟨_, rfl, wpAny_pure h⟩) fits)
    | exact wpAny_bind (m := Builtin.Tuple.tupleExact _) (wpAny_newObj_type (wpAny_bind (wpAny_pure (wpAny_pure ⟨_, rfl, wpAny_pure h⟩))) fits)
    | exact wpAny_bind (wpAny_bind (m := Builtin.Tuple.tupleExact _) (wpAny_newObj_type (wpAny_pure (wpAny_pure ⟨_, rfl, wpAny_pure h⟩)) fits))
    | exact wpAny_bind (wpAny_bind (m := Builtin.Tuple.tupleExact _) (wpAny_newObj_type (wpAny_pure ⟨_, rfl, wpAny_pure h⟩) fits))
end
section
variable {X : Cx}
def tRevT (K : PySem.W.Frag) (te : TE) : TE := fun σ H Q => te σ H fun x H1 => ∃ a xs, x = .ref a ∧ SqT K H1 a xs ∧ ∀ p, H1 p = none → Q (.ref p) (upd H1 p (.tup xs.reverse))
theorem pe_revT {e : Expr} {te : TE} {k : Nat} {p1 p2 p3 pos : Pos} (he : PE X e te) : PE X (.Subscript e (.Slice none none (some (.UnaryOp .USub (.Constant (.int 1) k p1) p2)) p3) pos) (tRevT X.K te) := by
  refine ⟨fun pins s σ H Q I h => Subscript_ (thn (he.run pins s σ H _ I h) fun v s1 ⟨x, H1, I1, r1, a, xs, ex, hx, q⟩ => ?_)⟩
  subst ex
  cases r1
  have back : PO X (some (.UnaryOp .USub (.Constant (.int 1) k p1) p2)) (tPart (tUn (rU fun i => .int (-i)) (tC (.int 1)))) := po_some (pe_un un_neg pe_int)
  refine wpAny_Slice (thn (po_none.run pins s1 σ H1 (fun o H2 => o = none ∧ H2 = H1) I1 ⟨rfl, rfl⟩) fun vl s2 ⟨l, H2, I2, pl, el, e2⟩ => ?_)
  subst el e2
  refine thn (po_none.run pins s2 σ H2 (fun o H3 => o = none ∧ H3 = H2) I2 ⟨rfl, rfl⟩) fun vu s3 ⟨u, H3, I3, pu, eu, e3⟩ => ?_
  subst eu e3
  refine thn (back.run pins s3 σ H3 (fun o H4 => o = some (-1) ∧ H4 = H3) I3 ⟨1, rfl, -1, rfl, rfl, rfl⟩) fun vs s4 ⟨o, H4, I4, ps, eo, e4⟩ => ?_
  subst eo e4
  have I5 : Inv X pins σ H4 { s4 with heap := s4.heap.push { cls := .type "slice", data := .fields #[vl, vu, vs] } } := I4.kept (t' := s4.toks) fun b ob q => Heap.get?_push_of_some _ q
  obtain ⟨its, r, ht, hz⟩ := I5.tuple hx
  have hlen := r.length
  show wpAny (model X.prog X.w) X.A (subscriptTail e (.Slice none none (some (.UnaryOp .USub (.Constant (.int 1) k p1) p2)) p3) (.ref a) (.ref s4.heap.objs.size)) (EP X pins σ Q) X.xe { s4 with heap := s4.heap.push { cls := .type "slice", data := .fields #[vl, vu, vs] } }
  refine tail_any (ops := [.ref a, .ref s4.heap.objs.size]) ht.typeIs PyProof.Rows.slot_tuple_getitem.lookup ?_ (by with_unfolding_all rfl)
  refine getItem_tuple_rev ht (Heap.IsSliceOf.new _ vl vu vs) pl pu ps ?_ (by rw [List.size_toArray]; omega)
  refine ⟨.ref _, _, I5.laid (t' := s4.toks) (o := .tup xs.reverse) (fun b ob q => Heap.get?_push_of_some _ q) (Nat.le_refl _) ?_, rfl, q _ (I5.hok.fresh (Nat.le_refl _))⟩
  exact ⟨by rw [List.length_reverse]; exact hz, _, r.reverse, IsTup.new _ _⟩
/-- readings by cases -/
def tOr2 (t u : TE) : TE := fun σ H Q => t σ H Q ∨ u σ H Q
theorem pe_or2 {e : Expr} {t u : TE} (h : PE X e t) (k : PE X e u) : PE X e (tOr2 t u) := ⟨fun pins s σ H Q I z => z.elim (h.run pins s σ H Q I) (k.run pins s σ H Q I)⟩
def iOr2 (t u : TI) : TI := fun σ H R => t σ H R ∨ u σ H R
theorem pi_or2 {tg e : Expr} {t u : TI} (h : PI X tg e t) (k : PI X tg e u) : PI X tg e (iOr2 t u) := ⟨fun pins s σ H R I z => z.elim (h.run pins s σ H R I) (k.run pins s σ H R I)⟩
def rOr2 (t u : R2) : R2 := fun x y H Q => t x y H Q ∨ u x y H Q
theorem op_or2 {o : Value → Value → Sem Value} {t u : R2} (h : OpR X o t) (k : OpR X o u) : OpR X o (rOr2 t u) := fun pins s σ H x y v w Q I rx ry z => z.elim (h pins s σ H x y v w Q I rx ry) (k pins s σ H x y v w Q I rx ry)
end
end TH
/-! More readings: a dict of names made by two fors. -/
namespace TH
open PySem PySem.Spec PyProof.Rows L2
/-- a dict whose keys are these names -/
def DK (kvs : List (Key × V)) (L : List Str) : Prop := kvs.length ≤ L.length ∧ ∀ k, (valV kvs (.inr k)).isSome = decide (k ∈ L)
theorem DK.put {kvs : List (Key × V)} {L : List Str} (h : DK kvs L) (y : Str) (v : V) : DK (putK kvs (.inr y) v) (L ++ [y]) := by
  refine ⟨?_, fun k => ?_⟩
  · have := length_putK kvs (.inr y) v
    rw [List.length_append, List.length_singleton]
    have := h.1
    omega
  · by_cases e : k = y
    · subst e
      rw [valV_put, if_pos rfl, decide_eq_true (by simp)]
      rfl
    · rw [valV_put, if_neg (fun z => e (Sum.inr.inj z)), h.2 k]
      exact decide_eq_decide.mpr ⟨fun z => List.mem_append_left _ z, fun z => (List.mem_append.mp z).resolve_right fun z => e (List.mem_singleton.mp z)⟩
section
variable {K : PySem.W.Frag} {M : Md} {σ : L2.St} {G H G' H' : Hp}
theorem en_dc2 {α : Type} {wa wb : TI} {vs vb : List Nat} {i j : Nat} {c : V} {xs : List α} {enc : α → Rl} (ys : α → List Str) (hs : Src M M.W wa σ G H (xs.map enc)) (hwa : ∀ v, wipe ((wipe σ vs).set i (some v)) vs = wipe σ vs) (hwb : ∀ v u, wipe ((wipe ((wipe σ vs).set i (some v)) vb).set j (some u)) vb = wipe ((wipe σ vs).set i (some v)) vb)
    (hj : ∀ v u : V, ((wipe ((wipe σ vs).set i (some v)) vb).set j (some u))[j]? = some (some u))
    (src : ∀ x v D G' H', x ∈ xs → Go M G H G' H' → (enc x).P G' v → Src M (D :: M.W) wb ((wipe σ vs).set i (some v)) G' H' ((ys x).map rStr)) (hl : (xs.flatMap ys).length ≤ 100000) :
    EvN M (tDc2 wa (gName i) tYes wb (gName j) tYes (tVar j) (tC c) vs vb) σ G H (fun _ o => ∃ kvs, o = .dK kvs ∧ DK kvs (xs.flatMap ys)) := fun G1 H1 a Q q => hs G1 H1 a _ fun J G2 H2 b wk D hD => by
  have hDW : D ∉ M.W := notW b.j hD
  have hDG : G2 D = none := b.at.le.free hD
  have hlen : ∀ n, ((xs.take n).flatMap ys).length ≤ 100000 := fun n => by
    have : xs.flatMap ys = (xs.take n).flatMap ys ++ (xs.drop n).flatMap ys := by rw [← List.flatMap_append, List.take_append_drop]
    rw [this, List.length_append] at hl
    omega
  let St : Nat → Hp → Prop := fun n H' => ∃ G' kvs, Go M G2 H2 G' H' ∧ G' D = none ∧ H' D = some (.dK kvs) ∧ DK kvs ((xs.take n).flatMap ys)
  refine ⟨fun n m H' => m = xs.length - n ∧ n ≤ xs.length ∧ St n H', ⟨xs.length, by simp, Nat.zero_le _, G2, [], b.at.own hD, hDG, upd_same, Nat.le_refl _, fun k => by simp [valV]⟩, ?_⟩
  rintro n m H' ⟨rfl, hn, G', kvs, g1, g2, g3, g4⟩
  by_cases hlt : n < xs.length
  · refine .inr ⟨wk.goes n G' H' (by rw [List.length_map]; exact hlt) g1.gr, fun H'' => n + 1 ≤ xs.length ∧ St (n + 1) H'', fun H'' z => ⟨xs.length - (n + 1), by omega, rfl, z.1, z.2⟩, fun x H'' y => ?_⟩
    have hx : (xs.map enc)[n]? = some (enc xs[n]) := by simp [hlt]
    obtain ⟨G'', k1, k2⟩ := wk.yields n (enc xs[n]) G' H' x H'' hx g1.gr y
    have k3 := Go.pure k1 g1.j
    obtain ⟨m1, m2⟩ := k3.gr.loc g3 g2 hDW
    have gA : Go M G H G'' H'' := (a.trans b).trans (g1.trans k3)
    refine ⟨hwa x, ?_⟩
    show wb _ H'' _
    refine src xs[n] x D G'' H'' (by simp) gA k2 G'' H'' k3.at.go _ fun J' G4 H4 b' wk' => ?_
    obtain ⟨m3, m4⟩ := b'.gr.loc m1 m2 hDW
    have gB : Go M G2 H2 G4 H4 := (g1.trans k3).trans b'
    refine ⟨fun t k H5 => k = (ys xs[n]).length - t ∧ t ≤ (ys xs[n]).length ∧ ∃ G5 kvs, Gr (D :: M.W) G4 H4 G5 H5 ∧ M.J H5 ∧ G5 D = none ∧ H5 D = some (.dK kvs) ∧ DK kvs ((xs.take n).flatMap ys ++ (ys xs[n]).take t), ⟨(ys xs[n]).length, by simp, Nat.zero_le _, G4, kvs, .refl b'.at.le, b'.j, m4, m3, by simpa using g4⟩, ?_⟩
    rintro t k H5 ⟨rfl, ht, G5, kvs', p1, p2, p3, p4, p5⟩
    by_cases htl : t < (ys xs[n]).length
    · refine .inr ⟨wk'.goes t G5 H5 (by rw [List.length_map]; exact htl) p1, fun H6 => t + 1 ≤ (ys xs[n]).length ∧ ∃ G6 kvs, Gr (D :: M.W) G4 H4 G6 H6 ∧ M.J H6 ∧ G6 D = none ∧ H6 D = some (.dK kvs) ∧ DK kvs ((xs.take n).flatMap ys ++ (ys xs[n]).take (t + 1)), fun H6 z => ⟨(ys xs[n]).length - (t + 1), by omega, rfl, z.1, z.2⟩, fun x' H6 y' => ?_⟩
      have hy : ((ys xs[n]).map rStr)[t]? = some (rStr (ys xs[n])[t]) := by simp [htl]
      obtain ⟨G6, r1, r2⟩ := wk'.yields t (rStr (ys xs[n])[t]) G5 H5 x' H6 hy p1 y'
      have r2 : x' = .str (ys xs[n])[t] := r2
      subst r2
      obtain ⟨r3, r4⟩ := r1.loc p4 p3 (fun z => nomatch z)
      refine ⟨hwb x _, ?_⟩
      unfold tYes
      simp only [if_true]
      refine ⟨_, hj x _, kvs', .inr (ys xs[n])[t], rfl, r3, ?_, htl, G6, _, (p1.trans r1.nil).putW List.mem_cons_self r4, ?_, r4, upd_same, ?_⟩
      · have h1 := p5.1
        have h2 := hlen (n + 1)
        rw [List.take_add_one, show xs[n]? = some xs[n] by simp [hlt], List.flatMap_append, List.length_append] at h2
        have h3 : ((some xs[n]).toList.flatMap ys).length = (ys xs[n]).length := by simp
        rw [h3] at h2
        rw [List.length_append, List.length_take] at h1
        exact Nat.lt_of_lt_of_le (show kvs'.length < 100001 by omega) (by decide)
      · exact (At.put ⟨r1.gh, (Go.pure r1 p2).j⟩ r4 hDW).j
      · rw [List.take_add_one, show (ys xs[n])[t]? = some (ys xs[n])[t] by simp [htl], ← List.append_assoc]
        exact p5.put _ _
    · have e : t = (ys xs[n]).length := by omega
      subst e
      refine .inl ⟨by have := wk'.stops G5 H5 p1; rwa [List.length_map] at this, hlt, G5, kvs', ⟨gB.gr.over p1 (fun p hp => ?_), p2⟩, p3, p4, ?_⟩
      · rcases List.mem_cons.mp hp with z | z
        · exact .inr (by rw [z]; exact hD)
        · exact .inl z
      · rw [List.take_add_one, show xs[n]? = some xs[n] by simp [hlt], List.flatMap_append, show (some xs[n]).toList.flatMap ys = ys xs[n] by simp]
        rwa [List.take_length] at p5
  · have e : n = xs.length := by omega
    subst e
    refine .inl ⟨by have := wk.stops G' H' g1.gr; rwa [List.length_map] at this, q D (.dK kvs) G' H' (b.trans g1) (b.back hD) g2 g3 ⟨kvs, rfl, ?_⟩⟩
    rwa [List.take_length] at g4
end
end TH
/-! Lists that may change, looked at and written; draws. -/
namespace TH
open PySem PySem.Spec PyProof.Rows L2
section
variable {K : PySem.W.Frag} {M : Md} {σ : L2.St} {G H G' H' : Hp} {ta tb te tc : TE} {t u : TT} {r s : Rl} {v v0 : V} {i j k : Int} {n m : Nat} {rs ss : List Rl} {xs ys : List V} {D : Ends} {tz : TS} {φ ψ : Hp → HO → Prop} {l : Addr}
/-- xs[i] of a list that may change -/
theorem ev_ixM (ha : Ev M ta σ G H (rRef l)) (hl : H l = some (.lst xs)) (hW : l ∉ M.W) (hb : Ev M tb σ G H (rInt i)) (hx : atI xs i = some v) : Ev M (tOp (rIxL K) ta tb) σ G H (rV v) :=
  ev_op ha hb fun G1 H1 x y a p q Q kk => ⟨l, xs, i, v, p, q, .of (a.gr.hh l _ hl hW), hx, kk v G1 H1 a.at.go rfl⟩
theorem ev_lenM (ha : Ev M ta σ G H (rRef l)) (hl : H l = some (.lst xs)) (hW : l ∉ M.W) : Ev M (tCB (fun xs H Q => ∃ p ys, xs = [.ref p] ∧ (SqL K H p ys ∨ SqT K H p ys) ∧ Q (.int ys.length) H) (tCons ta tNil)) σ G H (rInt xs.length) :=
  ev_one ha fun G1 H1 x a p Q q => ⟨l, xs, by rw [show x = .ref l from p], .inl (.of (a.gr.hh l _ hl hW)), q _ G1 H1 a.at.go rfl⟩
/-- xs + ys, a new list; ys is new, too -/
theorem en_catM (ha : Ev M ta σ G H (rRef l)) (hl : H l = some (.lst xs)) (hW : l ∉ M.W) (hb : EvN M tb σ G H (FL (ys.map rV))) (hz : xs.length + ys.length ≤ 100000) : EvN M (tOp rCat ta tb) σ G H (fun _ o => o = .lst (xs ++ ys)) := fun G1 H1 a Q q =>
  ha G1 H1 a _ fun x G2 H2 b px => hb G2 H2 (a.trans b) _ fun d o G3 H3 c n1 n2 n3 fo => by
    have px : x = .ref l := px
    subst px
    obtain ⟨vs, rfl, hv⟩ := fo
    have ev : vs = ys := by
      have : ∀ {ys vs : List V}, Al G3 (ys.map rV) vs → vs = ys := by
        intro ys
        induction ys with
        | nil => intro vs h; cases h; rfl
        | cons y t ih =>
          intro vs h
          cases h with
          | cons p q =>
            have p := (show _ = y from p)
            rw [p, ih q]
      exact this hv
    subst ev
    have h1 := ((a.trans b).trans c).gr.hh l _ hl hW
    refine ⟨l, d, xs, vs, rfl, rfl, h1, n3, Nat.le_trans hz (by decide), fun p hp => ?_⟩
    exact q p (.lst (xs ++ vs)) G3 _ ((b.trans c).trans (c.at.own hp)) ((b.trans c).back hp) (c.at.le.free hp) upd_same rfl
theorem EvN.vals (h : EvN M te σ G H (fun _ o => o = .lst xs)) : Ev M te σ G H (rLst K (xs.map rV)) := EvN.lst (h.imp fun G o e => ⟨xs, e, by
  have : ∀ vs : List V, Al G (vs.map rV) vs := fun vs => by
    induction vs with
    | nil => exact .nil
    | cons v t ih => exact .cons rfl ih
  exact this xs⟩)
theorem ev_max2 (ha : Ev M ta σ G H (rInt i)) (hb : Ev M tb σ G H (rInt j)) : Ev M (tCB (fun xs H Q => ∃ i j, xs = [.int i, .int j] ∧ Q (.int (if j > i then j else i)) H) (tCons ta (tCons tb tNil))) σ G H (rInt (if j > i then j else i)) := fun G1 H1 a Q q =>
  ha G1 H1 a _ fun x G2 H2 b px => hb G2 H2 (a.trans b) _ fun y G3 H3 c py => ⟨i, j, by rw [show x = .int i from px, show y = .int j from py], q _ G3 H3 (b.trans c) rfl⟩
/-- int(i), int(b) -/
theorem ev_int1 (ha : Ev M ta σ G H (rInt i)) : Ev M (tCB (fun xs H Q => (∃ i, xs = [.int i] ∧ Q (.int i) H) ∨ ∃ k, xs = [.bl k] ∧ Q (.int (if k then 1 else 0)) H) (tCons ta tNil)) σ G H (rInt i) :=
  ev_one ha fun G1 H1 x a p Q q => .inl ⟨i, by rw [show x = .int i from p], q _ G1 H1 a.at.go rfl⟩
theorem ev_intB {b : Bool} (ha : Ev M ta σ G H (rBl b)) : Ev M (tCB (fun xs H Q => (∃ i, xs = [.int i] ∧ Q (.int i) H) ∨ ∃ k, xs = [.bl k] ∧ Q (.int (if k then 1 else 0)) H) (tCons ta tNil)) σ G H (rInt (if b then 1 else 0)) :=
  ev_one ha fun G1 H1 x a p Q q => .inr ⟨b, by rw [show x = .bl b from p], q _ G1 H1 a.at.go rfl⟩
/-- xs[i] = e -/
theorem q_setL {j : Nat} (h : Ev M te σ G H r) (ha : Ev M ta σ G H (rRef l)) (hb : Ev M tb σ G H (rInt i)) (a : At M G H) (hl : H l = some (.lst xs)) (hg : G l = none) (hW : l ∉ M.W) (hj : ixN xs.length i = some j)
    (kk : ∀ v G' H', Go M G H G' H' → r.P G' v → H' l = some (.lst xs) → G' l = none → tz D σ (upd H' l (.lst (xs.set j v)))) : tSeq (tAsg te (gSub ta tb rSetL)) tz D σ H :=
  h G H a.go _ fun v G1 H1 e1 pv => ha G1 H1 e1 _ fun x G2 H2 e2 px => hb G2 H2 (e1.trans e2) _ fun y G3 H3 e3 py => by
    have e := (e1.trans e2).trans e3
    obtain ⟨n1, n2⟩ := e.gr.loc hl hg hW
    exact ⟨l, xs, i, j, px, py, n1, hj, kk v G3 H3 e (r.mono (e2.trans e3).gg pv) n1 n2⟩
/-- by a value of which some things are known -/
theorem ev_opX {ι : Type} {op : R2} {f : ι → Rl} {z : Rl} (ha : Ev M ta σ G H r) (hb : Ev M tb σ G H (rEx f)) (hr : ∀ x, RV M op r (f x) G H z) : Ev M (tOp op ta tb) σ G H z :=
  ev_op ha hb fun G1 H1 x y a p ⟨w, q⟩ Q k => hr w G1 H1 x y a p q Q k
end
/-! ### the law's state: a number, the cells, a place -/
def JS (h l : Addr) (H : Hp) : Prop := ∃ (m i : Int) (cells : List Int), H h = some (.lst [.int m, .ref l, .int i]) ∧ H l = some (.lst (cells.map V.int)) ∧ cells.length ≤ 1000
def mdS (h l : Addr) : Md where
  W := [h, l]
  J := JS h l
  st := fun hs ⟨m, i, cells, h1, h2, h3⟩ => ⟨m, i, cells, hs _ (by simp) _ h1, hs _ (by simp) _ h2, h3⟩
  dom := fun ⟨m, i, cells, h1, h2, h3⟩ b hb => by
    rcases List.mem_cons.mp hb with z | z
    · rw [z, h1]; exact fun z => nomatch z
    · rw [List.mem_singleton.mp z, h2]; exact fun z => nomatch z
/-- a draw below n -/
def rDraw (n : Int) : Rl := rEx fun i : { i : Int // 0 ≤ i ∧ i < n } => rInt i.1
def sp_next : Sp := fun vs H Q _ => ∃ (h l : Addr) (n : Int) (G : Hp), vs = [.ref h, .int n] ∧ 1 ≤ n ∧ n < 1073741824 ∧ Le G H ∧ G h = none ∧ G l = none ∧ h ≠ l ∧ JS h l H ∧
  ∀ r G' H', 0 ≤ r → r < n → Gr [h, l] G H G' H' → JS h l H' → Q (.int r) H'
section
variable {M : Md} {σ : L2.St} {G H : Hp} {h l : Addr} {n : Int} {t : TA} {E : XK}
theorem Gr.goS {G' H' : Hp} (a : Gr [h, l] G H G' H') (j : JS h l H') : Go (mdS h l) G H G' H' := ⟨a, j⟩
/-- _law_next(h, n) -/
theorem ev_next (ha : EvA (mdS h l) t σ G H [rRef h, rInt n]) (h0 : G h = none) (l0 : G l = none) (hl : h ≠ l) (hs : JS h l H) (n1 : 1 ≤ n) (n2 : n < 1073741824) : Ev (mdS h l) (tCall sp_next [] E t) σ G H (rDraw n) := fun G1 H1 a Q q =>
  ha G1 H1 a _ fun vs G2 H2 b ps => by
    have e := a.trans b
    cases ps with
    | cons p ps =>
      cases ps with
      | cons p2 ps =>
        cases ps
        have p : _ = V.ref h := p
        have p2 : _ = V.int n := p2
        subst p p2
        have hh : H h ≠ none := (mdS h l).dom hs h (by simp [mdS])
        have hL : H l ≠ none := (mdS h l).dom hs l (by simp [mdS])
        exact ⟨h, l, n, G2, rfl, n1, n2, e.at.le, e.gr.gnone hh h0, e.gr.gnone hL l0, hl, e.j, fun r G3 H3 r0 r1 g j => q _ G3 H3 (b.trans (g.goS j)) ⟨⟨r, r0, r1⟩, rfl⟩⟩
end
/-- the state stands apart from what is frozen -/
structure SS (h l : Addr) (G H : Hp) : Prop where
  h0 : G h = none
  l0 : G l = none
  ne : h ≠ l
  js : JS h l H
section
variable {σ : L2.St} {G H G' H' : Hp} {h l : Addr} {n : Int} {t : TA} {E : XK} {ta te : TE} {u : TT} {W : List Addr}
theorem SS.gr (s : SS h l G H) (g : Gr W G H G' H') (j : JS h l H') : SS h l G' H' :=
  ⟨g.gnone ((mdS h l).dom s.js h (by simp [mdS])) s.h0, g.gnone ((mdS h l).dom s.js l (by simp [mdS])) s.l0, s.ne, j⟩
theorem SS.go (s : SS h l G H) (g : Go (mdS h l) G H G' H') : SS h l G' H' := s.gr g.gr g.j
theorem SS.pure (s : SS h l G H) (g : Gr [] G H G' H') : SS h l G' H' := s.go (Go.pure g s.js)
theorem SS.at (s : SS h l G H) (le : Le G H) : At (mdS h l) G H := ⟨le, s.js⟩
theorem ev_draw (s : SS h l G H) (ha : EvA (mdS h l) t σ G H [rRef h, rInt n]) (n1 : 1 ≤ n) (n2 : n < 1073741824) : Ev (mdS h l) (tCall sp_next [] E t) σ G H (rDraw n) := ev_next ha s.h0 s.l0 s.ne s.js n1 n2
/-- some truth -/
def rAny : Rl := rEx fun b : Bool => rBl b
theorem et_any {M : Md} (h : Ev M te σ G H rAny) : EvT M (tTest te) σ G H (fun _ => True) := fun G1 H1 a Q q => h G1 H1 a _ fun v G2 H2 b ⟨k, e⟩ => ⟨k, e, q k G2 H2 b trivial⟩
theorem ev_drawEq {M : Md} {k : Int} (h : Ev M te σ G H (rDraw n)) (hb : Ev M ta σ G H (rInt k)) : Ev M (tOp rEq te ta) σ G H rAny :=
  ev_op h hb fun G1 H1 x y a ⟨i, p⟩ q Q kk => by
    have p : x = .int i.1 := p
    have q : y = .int k := q
    subst p q
    exact ⟨rfl, kk _ G1 H1 a.at.go ⟨_, rfl⟩⟩
end
end TH
/-! isinstance; plain data. -/
namespace TH
open PySem PySem.Spec PyProof.Rows L2
theorem Al.rev {G : Hp} {rs : List Rl} {vs : List V} (h : Al G rs vs) : Al G rs.reverse vs.reverse := by
  induction h with
  | nil => exact .nil
  | cons p q ih =>
    rw [List.reverse_cons, List.reverse_cons]
    exact ih.append (.cons p .nil)
section
variable {K : PySem.W.Frag} {M : Md} {σ : L2.St} {G H G' H' : Hp} {ta tb te tc : TE} {r s : Rl} {v v0 : V} {i j k : Int} {rs ss : List Rl}
/-- these values are of a built-in type -/
def TyR (K : PySem.W.Frag) (t : String) (r : Rl) : Prop := ∀ G v, r.P G v → TyX K G v (.type t)
theorem ty_str {x : Str} : TyR K "str" (rStr x) := fun G v p => by cases (show v = .str x from p); exact .base (.str x)
theorem ty_int {x : Int} : TyR K "int" (rInt x) := fun G v p => by cases (show v = .int x from p); exact .base (.int x)
theorem ty_bl {x : Bool} : TyR K "bool" (rBl x) := fun G v p => by cases (show v = .bl x from p); exact .base (.bl x)
theorem ty_non : TyR K "NoneType" rNon := fun G v p => by cases (show v = .non from p); exact .base .non
theorem ty_lst : TyR K "list" (rLst K rs) := fun G v ⟨a, vs, e, h, _⟩ => by
  subst e
  rcases h with h | ⟨o, its, n, h1, h2, h3⟩
  · rcases h with h | ⟨ob, h⟩
    · exact .base (.lst h)
    · exact .base (.frz h)
  · exact .kList h1 h2
theorem ty_tup : TyR K "tuple" (rTup K rs) := fun G v ⟨a, vs, e, h, _⟩ => by
  subst e
  rcases h with h | ⟨o, its, n, h1, h2, h3⟩
  · rcases h with h | ⟨ob, h⟩
    · exact .base (.tup h)
    · exact .fTuple h
  · exact .kTuple h1 h2
theorem tyx_le {t : String} (ht : TyR K t r) (le : Le G H) (p : r.P G v) : TyX K H v (.type t) := ht H v (r.mono le p)
/-- isinstance(x, T) -/
theorem ev_isi {t c : String} {b : Bool} (ha : Ev M ta σ G H r) (ht : TyR K t r) (hb : kitB t c = some b) : Ev M (tCB (rIsi K) (tCons ta (tCons (tC (.ty c)) tNil))) σ G H (rBl b) := fun G1 H1 a Q q =>
  ha G1 H1 a _ fun x G2 H2 e p => ⟨x, .ty c, .type t, .type c, b, rfl, .ty c, tyx_le ht e.at.le p, kit_ty hb, q _ G2 H2 e rfl⟩
/-- isinstance(x, (T1, T2)) -/
theorem ev_isiT {t c d : String} {b1 b2 : Bool} (ha : Ev M ta σ G H r) (ht : TyR K t r) (h1 : kitB t c = some b1) (h2 : kitB t d = some b2) : Ev M (tCB (rIsiT K) (tCons ta (tCons (tTup (tCons (tC (.ty c)) (tCons (tC (.ty d)) tNil))) tNil))) σ G H (rBl (b1 || b2)) := fun G1 H1 a Q q =>
  ha G1 H1 a _ fun x G2 H2 e p => ⟨show 2 ≤ sizeLine by decide, fun T hT => by
    have own := e.at.own (o := .tup [.ty c, .ty d]) hT
    refine ⟨x, T, [.ty c, .ty d], .type t, [.type c, .type d], b1 || b2, rfl, upd_same, .cons (.ty c) (.cons (.ty d) .nil), tyx_le ht own.at.le p, ?_, q _ _ _ (e.trans own) rfl⟩
    refine kitAny_cons (kit_ty h1) (fun z => kitAny_cons (kit_ty h2) (fun z2 => ?_) fun z2 => by simp [z2]) fun z => by simp [z]
    rw [z, z2]
    exact kitAny_nil⟩
/-- x is None -/
theorem ev_isN (ha : Ev M ta σ G H r) {b : Bool} (hb : ∀ G v, r.P G v → decide (v = V.non) = b) : Ev M (tOp (fun x y H Q => y = .non ∧ Q (.bl (decide (x = .non))) H) ta (tC .non)) σ G H (rBl b) :=
  ev_op ha (ev_c (v := .non)) fun G1 H1 x y a p q Q k => ⟨q, by rw [hb G1 x p]; exact k _ G1 H1 a.at.go rfl⟩
theorem ev_notN (ha : Ev M ta σ G H r) {b : Bool} (hb : ∀ G v, r.P G v → decide (v = V.non) = b) : Ev M (tOp (fun x y H Q => y = .non ∧ Q (.bl (!decide (x = .non))) H) ta (tC .non)) σ G H (rBl (!b)) :=
  ev_op ha (ev_c (v := .non)) fun G1 H1 x y a p q Q k => ⟨q, by rw [hb G1 x p]; exact k _ G1 H1 a.at.go rfl⟩
theorem nn_ref {t : String} (hn : t ≠ "NoneType") (ht : TyR K t r) : ∀ G v, r.P G v → decide (v = V.non) = false := fun G v p => decide_eq_false fun z => by
  subst z
  have q := ht G _ p
  cases q with
  | base b => cases b; exact hn rfl
/-- t[i] of a list or a tuple -/
theorem ev_ix2 (ha : Ev M ta σ G H (rSeq K rs)) (hb : Ev M tb σ G H (rInt i)) (h : atI rs i = some r) : Ev M (tOp (rIx K) ta tb) σ G H r :=
  ev_op ha hb fun G1 H1 x y a p q Q k => by
    obtain ⟨b, vs, rfl, h2, h3⟩ := p
    have q : y = .int i := q
    subst q
    unfold atI at h
    rw [h3.length] at h
    cases e : ixN vs.length i with
    | none => rw [e] at h; cases h
    | some j =>
      rw [e] at h
      have h : rs[j]? = some r := h
      obtain ⟨v, e1, e2⟩ := h3.get h
      have e3 : atI vs i = some v := by unfold atI; rw [e]; exact e1
      rcases h2 with h2 | h2
      · exact .inl ⟨b, vs, i, v, rfl, rfl, a.at.le.seqL h2, e3, k v G1 H1 a.at.go e2⟩
      · exact .inr (.inl ⟨b, vs, i, v, rfl, rfl, a.at.le.seqT h2, e3, k v G1 H1 a.at.go e2⟩)
/-- a new list, empty, == [] -/
theorem ev_eqNil (ha : EvN M ta σ G H (FL [])) : Ev M (tOp (rEqD K) ta (tLst tNil)) σ G H (rBl true) := fun G1 H1 a Q q =>
  ha G1 H1 a _ fun p o G2 H2 b n1 n2 n3 ⟨vs, e1, e2⟩ => by
    cases e2
    subst e1
    refine ⟨(by decide : 0 ≤ sizeLine), fun d hd => ?_⟩
    have c := b.at.new (o := .lst []) hd
    have h3 : (upd H2 d (.lst [])) p = some (.lst []) := by
      by_cases z : p = d
      · subst z; exact upd_same
      · rw [upd_ne z]; exact n3
    exact ⟨.list [], .list [], .lst (.of h3) .nil, .lst (.of upd_same) .nil, by decide +kernel, by decide +kernel, q _ _ _ (b.trans c) rfl⟩
end
/-! ### more of lists that may change -/
section
variable {K : PySem.W.Frag} {M : Md} {W : List Addr} {σ : L2.St} {G H G' H' : Hp} {ta tb te tc : TE} {r s : Rl} {v v0 : V} {i j k : Int} {rs ss : List Rl} {xs ys : List V} {l : Addr}
theorem EvN.strs {zs : List Str} (h : EvN M te σ G H (FL (zs.map rStr))) : EvN M te σ G H (fun _ o => o = .lst (zs.map V.str)) := h.imp fun G o ⟨vs, e1, e2⟩ => by rw [e1, e2.strs]
/-- a new thing, beside what came later -/
theorem Go.stays (a : Go M G H G' H') (j : M.J H) {p : Addr} {o : HO} (h0 : ∀ b ∈ M.W, b ≠ p) (h1 : H p = some o) (h2 : G p = none) : H' p = some o ∧ G' p = none := a.gr.loc h1 h2 fun z => h0 p z rfl
theorem en_catN (ha : Ev M ta σ G H (rRef l)) (hl : H l = some (.lst xs)) (hW : l ∉ M.W) (hb : EvN M tb σ G H (fun _ o => o = .lst ys)) (hz : xs.length + ys.length ≤ 100000) : EvN M (tOp rCat ta tb) σ G H (fun _ o => o = .lst (xs ++ ys)) := fun G1 H1 a Q q =>
  ha G1 H1 a _ fun x G2 H2 b px => hb G2 H2 (a.trans b) _ fun d o G3 H3 c n1 n2 n3 fo => by
    have px : x = .ref l := px
    subst px fo
    have h1 := ((a.trans b).trans c).gr.hh l _ hl hW
    exact ⟨l, d, xs, ys, rfl, rfl, h1, n3, Nat.le_trans hz (by decide), fun p hp => q p (.lst (xs ++ ys)) G3 _ ((b.trans c).trans (c.at.own hp)) ((b.trans c).back hp) (c.at.le.free hp) upd_same rfl⟩
/-- a new list, some times -/
theorem en_rep (ha : EvN M ta σ G H (fun _ o => o = .lst xs)) (hb : Ev M tb σ G H (rInt k)) (h0 : 0 ≤ k) (hk : k ≤ 1000) (hz : xs.length * k.toNat ≤ 100000) : EvN M (tOp rRep ta tb) σ G H (fun _ o => o = .lst (List.replicate k.toNat xs).flatten) := fun G1 H1 a Q q =>
  ha G1 H1 a _ fun d o G2 H2 b n1 n2 n3 fo => hb G2 H2 (a.trans b) _ fun x G3 H3 c px => by
    have px : x = .int k := px
    subst px fo
    obtain ⟨m1, m2⟩ := c.gr.loc n3 n2 fun z => M.dom a.j d z n1
    exact ⟨d, k, xs, rfl, rfl, m1, by omega, by omega, Nat.le_trans hz (by decide), fun p hp => q p _ G3 _ ((b.trans c).trans (c.at.own hp)) ((b.trans c).back hp) (c.at.le.free hp) upd_same rfl⟩
/-- x in xs, texts, xs may change -/
theorem ev_inM {neg : Bool} {x : Str} {zs : List Str} (ha : Ev M ta σ G H (rStr x)) (hb : Ev M tb σ G H (rRef l)) (hl : H l = some (.lst (zs.map V.str))) (hW : l ∉ M.W) : Ev M (tOp (rIn K neg) ta tb) σ G H (rBl (if neg then !decide (x ∈ zs) else decide (x ∈ zs))) :=
  ev_op ha hb fun G1 H1 a b e p q Q k => by
    have p : a = .str x := p
    have q : b = .ref l := q
    subst p q
    refine ⟨l, _, rfl, .inl (.of (e.gr.hh l _ hl hW)), rfl, flat_strs zs, ?_⟩
    rw [inV_strs]
    exact k _ G1 H1 e.at.go rfl
/-- xs[::-1] -/
theorem ev_revL (h : Ev M te σ G H (rLst K rs)) : Ev M (tRevL K te) σ G H (rLst K rs.reverse) := fun G1 H1 a Q q => h G1 H1 a _ fun x G2 H2 b ⟨d, vs, e, h2, h3⟩ => ⟨d, vs, e, b.at.le.seqL h2, fun p hp => by
  have c := b.at.new (o := .lst vs.reverse) hp
  exact q _ _ _ (b.trans c) ⟨p, _, rfl, .of upd_same, (h3.mono c.gg).rev⟩⟩
theorem ev_revT (h : Ev M te σ G H (rTup K rs)) : Ev M (tRevT K te) σ G H (rTup K rs.reverse) := fun G1 H1 a Q q => h G1 H1 a _ fun x G2 H2 b ⟨d, vs, e, h2, h3⟩ => ⟨d, vs, e, b.at.le.seqT h2, fun p hp => by
  have c := b.at.new (o := .tup vs.reverse) hp
  exact q _ _ _ (b.trans c) ⟨p, _, rfl, .of upd_same, (h3.mono c.gg).rev⟩⟩
theorem seq_cases (h : (rSeq K rs).P G v) : (rLst K rs).P G v ∨ (rTup K rs).P G v := by
  obtain ⟨a, vs, e, h2, h3⟩ := h
  rcases h2 with h2 | h2
  · exact .inl ⟨a, vs, e, h2, h3⟩
  · exact .inr ⟨a, vs, e, h2, h3⟩
/-- what a name holds, a list or a tuple, walked; from its end -/
theorem src_seq {n : Nat} (hn : σ[n]? = some (some v)) (h : (rSeq K rs).P G v) : Src M W (iOr2 (iList K (tVar n)) (iTup K (tVar n))) σ G H rs := by
  rcases seq_cases h with h | h
  · exact fun G1 H1 a R q => .inl (src_lst (ev_var hn h) G1 H1 a R q)
  · exact fun G1 H1 a R q => .inr (src_tup (ev_var hn h) G1 H1 a R q)
theorem src_seqR {n : Nat} (hn : σ[n]? = some (some v)) (h : (rSeq K rs).P G v) : Src M W (iOr2 (iList K (tRevL K (tVar n))) (iTup K (tRevT K (tVar n)))) σ G H rs.reverse := by
  rcases seq_cases h with h | h
  · exact fun G1 H1 a R q => .inl (src_lst (ev_revL (ev_var hn h)) G1 H1 a R q)
  · exact fun G1 H1 a R q => .inr (src_tup (ev_revT (ev_var hn h)) G1 H1 a R q)
end
section
variable {K : PySem.W.Frag} {M : Md} {σ : L2.St} {G H : Hp} {ta : TE}
theorem ev_tupleX {ι : Type} {f : ι → List Rl} (h : Ev M ta σ G H (rEx fun i => rLst K (f i))) : Ev M (tCB (fun xs H Q => ∃ p ys, xs = [.ref p] ∧ ((SqL K H p ys ∧ ∀ l, H l = none → Q (.ref l) (upd H l (.tup ys))) ∨ (SqT K H p ys ∧ Q (.ref p) H))) (tCons ta tNil)) σ G H (rEx fun i => rTup K (f i)) :=
  ev_one h fun G1 H1 x a ⟨i, p⟩ Q q => by
    obtain ⟨b, vs, rfl, h2, h3⟩ := p
    refine ⟨b, vs, rfl, .inl ⟨a.at.le.seqL h2, fun l hl => ?_⟩⟩
    have c := a.at.new (o := .tup vs) hl
    exact q _ _ _ c ⟨i, l, vs, rfl, .of upd_same, h3.mono c.gg⟩
end
/-! ### plain data, by its depth -/
inductive AD (K : PySem.W.Frag) : Nat → Rl → Prop
  | str {n : Nat} (x : Str) : AD K n (rStr x)
  | int {n : Nat} (x : Int) : AD K n (rInt x)
  | bl {n : Nat} (x : Bool) : AD K n (rBl x)
  | non {n : Nat} : AD K n rNon
  | lst {n : Nat} {rs : List Rl} (h : ∀ r ∈ rs, AD K n r) (hl : rs.length ≤ 100000) : AD K (n + 1) (rLst K rs)
  | tup {n : Nat} {rs : List Rl} (h : ∀ r ∈ rs, AD K n r) (hl : rs.length ≤ 100000) : AD K (n + 1) (rTup K rs)
theorem ad_strs {K : PySem.W.Frag} {xs : List Str} (h : xs.length ≤ 100000) : AD K 1 (rLst K (xs.map rStr)) := .lst (fun r hr => by obtain ⟨x, _, e⟩ := List.mem_map.mp hr; rw [← e]; exact .str x) (by rw [List.length_map]; exact h)
theorem ad_strsT {K : PySem.W.Frag} {xs : List Str} (h : xs.length ≤ 100000) : AD K 1 (rTup K (xs.map rStr)) := .tup (fun r hr => by obtain ⟨x, _, e⟩ := List.mem_map.mp hr; rw [← e]; exact .str x) (by rw [List.length_map]; exact h)
/-- _law_alike: two of the same data -/
def sp_alike (K : PySem.W.Frag) : Nat → Sp
  | 0 => fun _ _ _ _ => False
  | n + 1 => spP (ι := { r : Rl // AD K n r }) (fun _ _ _ => True) (fun r => [r.1, r.1]) (fun _ => rBl true)
end TH
/-! Values of which some things are known; places in lists; slices of tuples; pairs stored at once. -/
namespace TH
open PySem PySem.Spec PyProof.Rows L2
section
variable {K : PySem.W.Frag} {M : Md} {W : List Addr} {σ : L2.St} {G H G' H' : Hp} {ta tb te tc : TE} {r s : Rl} {v v0 : V} {i j k n : Int} {rs ss : List Rl} {xs ys : List V} {l : Addr} {D : Ends} {tz : TS} {t : TA}
theorem ev_opR {ι : Type} {op : R2} {f z : ι → Rl} (ha : Ev M ta σ G H r) (hb : Ev M tb σ G H (rEx f)) (hr : ∀ x, RV M op r (f x) G H (z x)) : Ev M (tOp op ta tb) σ G H (rEx z) :=
  ev_op ha hb fun G1 H1 x y a p ⟨w, q⟩ Q k => hr w G1 H1 x y a p q Q fun v G2 H2 b pv => k v G2 H2 b ⟨w, pv⟩
/-- xs[a draw] -/
theorem ev_ixD {m : Nat} (ha : Ev M ta σ G H (rLst K rs)) (hb : Ev M tb σ G H (rDraw (m : Nat))) (hn : rs.length = m) : Ev M (tOp (rIxL K) ta tb) σ G H (rEx fun i : Fin m => rs[i.1]'(by rw [hn]; exact i.2)) :=
  ev_op ha hb fun G1 H1 x y a ⟨d, vs, e, h2, h3⟩ ⟨i, q⟩ Q k => by
    have q : y = .int i.1 := q
    subst e q
    have hi := i.2
    have lt : i.1.toNat < m := by omega
    have hr : rs[i.1.toNat]? = some (rs[i.1.toNat]'(by omega)) := by simp [hn, lt]
    obtain ⟨v, e1, e2⟩ := h3.get hr
    refine ⟨d, vs, i.1, v, rfl, rfl, a.at.le.seqL h2, ?_, k v G1 H1 a.at.go ⟨⟨i.1.toNat, lt⟩, e2⟩⟩
    unfold atI ixN
    rw [if_pos hi.1, if_pos (by rw [← h3.length, hn]; exact hi.2)]
    exact e1
/-- a text's sign by a draw -/
theorem ev_ixSD {m : Nat} {z : Str} (ha : Ev M ta σ G H (rStr z)) (hb : Ev M tb σ G H (rDraw (m : Nat))) (hn : z.cps.toList.length = m) (hm : m ≤ 1000) : Ev M (tOp rIxS ta tb) σ G H (rEx fun i : Fin m => rStr ⟨#[z.cps.toList[i.1]'(by rw [hn]; exact i.2)]⟩) :=
  ev_op ha hb fun G1 H1 x y a p ⟨i, q⟩ Q k => by
    have p : x = .str z := p
    have q : y = .int i.1 := q
    subst p q
    have hi := i.2
    have lt : i.1.toNat < m := by omega
    refine ⟨z, i.1, z.cps.toList[i.1.toNat]'(by omega), rfl, rfl, ?_, ?_, k _ G1 H1 a.at.go ⟨⟨i.1.toNat, lt⟩, rfl⟩⟩
    · have : z.length = m := by rw [← hn]; rfl
      rw [this]
      exact Nat.le_trans hm (by decide)
    · unfold atI ixN
      rw [if_pos hi.1, if_pos (by rw [hn]; exact hi.2)]
      simp [hn, lt]
/-- x + y of texts, y one of some -/
theorem ev_addSX {ι : Type} {x : Str} {f : ι → Str} (ha : Ev M ta σ G H (rStr x)) (hb : Ev M tb σ G H (rEx fun i => rStr (f i))) (hz : ∀ i, x.length + (f i).length ≤ 100000) :
    Ev M (tOp (fun x y H Q => ∃ i j, x = .str i ∧ y = .str j ∧ i.length + j.length ≤ sizeLine ∧ Q (.str (i ++ j)) H) ta tb) σ G H (rEx fun i => rStr (x ++ f i)) :=
  ev_opR ha hb fun i G1 H1 x' y' a p q Q k => ⟨x, f i, p, q, Nat.le_trans (hz i) (by decide), k _ G1 H1 a.at.go rfl⟩
/-- range(e), by e's value -/
theorem q_forV {g : TG} {tb' : TS} (h : Ev M te σ G H r) (a : At M G H) (k : ∀ v G' H', Go M G H G' H' → r.P G' v → tSeq (tFor (iRng1 (tCons (tC v) tNil)) g tb') tz D σ H') : tSeq (tFor (iRng1 (tCons te tNil)) g tb') tz D σ H :=
  h G H a.go _ k
/-- a, b = e1, e2 -/
theorem q_par {i j : Nat} (h : EvA M t σ G H [r, s]) (a : At M G H) (k : ∀ v w G' H', Go M G H G' H' → r.P G' v → s.P G' w → tz D ((σ.set i (some v)).set j (some w)) H') : tSeq (tPar i j t) tz D σ H :=
  h G H a.go _ fun vs G1 H1 e ps => by
    cases ps with
    | cons p ps =>
      cases ps with
      | cons p2 ps =>
        cases ps
        exact ⟨_, _, rfl, k _ _ G1 H1 e p p2⟩
/-- a, b = two new things -/
theorem q_parN {i j : Nat} {φ ψ : Hp → HO → Prop} (h1 : EvN M ta σ G H φ) (h2 : EvN M tb σ G H ψ) (a : At M G H)
    (k : ∀ p q o u G' H', Go M G H G' H' → H p = none → H q = none → p ≠ q → G' p = none → G' q = none → H' p = some o → H' q = some u → (∃ G1, Le G1 G' ∧ φ G1 o) → ψ G' u → tz D ((σ.set i (some (.ref p))).set j (some (.ref q))) H') : tSeq (tPar i j (tCons ta (tCons tb tNil))) tz D σ H :=
  h1 G H a.go _ fun p o G1 H1 e1 n1 n2 n3 f1 => h2 G1 H1 e1 _ fun q u G2 H2 e2 m1 m2 m3 f2 => by
    obtain ⟨n4, n5⟩ := e2.gr.loc n3 n2 fun z => M.dom a.j p z n1
    have ne : p ≠ q := fun z => by subst z; rw [n3] at m1; cases m1
    exact ⟨_, _, rfl, k p q o u G2 H2 (e1.trans e2) n1 (e1.back m1) ne n5 m2 n4 m3 ⟨G1, e2.gg, f1⟩ f2⟩
/-- xs.index(x) of texts -/
theorem ev_index {zs : List Str} {x : Str} {m : Nat} (ha : Ev M ta σ G H (rLst K (zs.map rStr))) (hb : Ev M tb σ G H (rStr x)) (h1 : zs[m]? = some x) (h2 : ∀ k, k < m → zs[k]? ≠ some x) :
    Ev M (tBM K "list" (rIndex K) ta (tCons tb tNil)) σ G H (rInt (m : Nat)) := fun G1 H1 a Q q =>
  ha G1 H1 a _ fun v G2 H2 b ⟨d, vs, e, e2, e3⟩ => by
    subst e
    refine ⟨.inl ⟨rfl, vs, b.at.le.seqL e2⟩, hb G2 H2 (a.trans b) _ fun y G3 H3 c py => ?_⟩
    have py : y = .str x := py
    have e4 := e3.strs
    subst py e4
    refine ⟨d, zs.map V.str, .str x, m, .str x, rfl, rfl, (c.gg.trans c.at.le).seqL e2, rfl, flat_strs zs, by rw [List.getElem?_map, h1]; rfl, by simp [eqV], fun k z' hk hz => ?_, q _ G3 H3 (b.trans c) rfl⟩
    rw [List.getElem?_map] at hz
    cases e : zs[k]? with
    | none => rw [e] at hz; cases hz
    | some y =>
      rw [e] at hz
      cases hz
      have ne : y ≠ x := fun z => h2 k hk (by rw [e, z])
      simp [eqV, ne]
/-- t[lo:hi] of a tuple -/
theorem ev_slT {tl th : TO} {lo hi : Option Int} (ha : Ev M ta σ G H (rTup K rs)) (hl : ∀ H (Q : Option Int → Hp → Prop), Q lo H → tl σ H Q) (hh : ∀ H (Q : Option Int → Hp → Prop), Q hi H → th σ H Q) :
    Ev M (tSl (rSlA K) ta tl th) σ G H (rTup K ((rs.drop (HT.sIx rs.length 0 lo)).take (HT.sIx rs.length rs.length hi - HT.sIx rs.length 0 lo))) := fun G1 H1 a Q q =>
  ha G1 H1 a _ fun v G2 H2 b ⟨d, vs, e, e2, e3⟩ => by
    subst e
    refine hl _ _ (hh _ _ ⟨d, vs, rfl, b.at.le.seqT e2, fun z => ?_, fun z p hp => ?_⟩)
    · refine q _ G2 H2 b ⟨d, vs, rfl, e2, ?_⟩
      rw [← e3.length] at z
      rw [z.1, z.2, List.drop_zero, Nat.sub_zero, List.take_length]
      exact e3
    · have c := b.at.new (o := .tup (cutV vs lo hi)) hp
      have key : ∀ G', Le G2 G' → Al G' ((rs.drop (HT.sIx rs.length 0 lo)).take (HT.sIx rs.length rs.length hi - HT.sIx rs.length 0 lo)) (cutV vs lo hi) := fun G' le => by
        unfold cutV
        rw [← e3.length]
        exact ((e3.mono le).drop _).take _
      exact q _ _ _ (b.trans c) ⟨p, _, rfl, .of upd_same, key _ c.gg⟩
/-- t + u of tuples -/
theorem ev_catT (ha : Ev M ta σ G H (rTup K rs)) (hb : Ev M tb σ G H (rTup K ss)) (hz : rs.length + ss.length ≤ 100000) : Ev M (tOp (rCatA K) ta tb) σ G H (rTup K (rs ++ ss)) :=
  ev_op ha hb fun G1 H1 x y a ⟨d, vs, e, e2, e3⟩ ⟨d', ws, e', e2', e3'⟩ Q k => by
    subst e e'
    refine ⟨d, d', vs, ws, rfl, rfl, a.at.le.seqT e2, a.at.le.seqT e2', by rw [← e3.length, ← e3'.length]; exact Nat.le_trans hz (by decide), fun z => ?_, fun z z2 => ?_, fun z z2 p hp => ?_⟩
    · subst z
      cases e3
      exact k _ G1 H1 a.at.go ⟨d', ws, rfl, e2', e3'⟩
    · subst z2
      cases e3'
      exact k _ G1 H1 a.at.go ⟨d, vs, rfl, e2, by rw [List.append_nil]; exact e3⟩
    · have c := a.at.new (o := .tup (vs ++ ws)) hp
      exact k _ _ _ c ⟨p, _, rfl, .of upd_same, (e3.mono c.gg).append (e3'.mono c.gg)⟩
/-- something known of one part of a tuple -/
theorem tup_ex {ι : Type} {f : ι → Rl} {pre post : List Rl} (h : (rTup K (pre ++ rEx f :: post)).P G v) : ∃ x, (rTup K (pre ++ f x :: post)).P G v := by
  obtain ⟨a, vs, e, h2, h3⟩ := h
  have : ∀ {pre : List Rl} {vs : List V}, Al G (pre ++ rEx f :: post) vs → ∃ x, Al G (pre ++ f x :: post) vs := by
    intro pre
    induction pre with
    | nil =>
      intro vs h
      cases h with
      | cons p q =>
        obtain ⟨x, p⟩ := p
        exact ⟨x, .cons p q⟩
    | cons r t ih =>
      intro vs h
      cases h with
      | cons p q =>
        obtain ⟨x, q⟩ := ih q
        exact ⟨x, .cons p q⟩
  obtain ⟨x, q⟩ := this h3
  exact ⟨x, a, vs, e, h2, q⟩
end
end TH
/-! Lists that were just made, kept as they are; lists of texts compared. -/
namespace TH
open PySem PySem.Spec PyProof.Rows L2
/-- a list that stands in the heap as itself -/
def rLsH (rs : List Rl) : Rl := ⟨fun G v => ∃ a vs, v = .ref a ∧ G a = some (.lst vs) ∧ Al G rs vs, fun e ⟨a, vs, h1, h2, h3⟩ => ⟨a, vs, h1, e.at h2 nf_lst (fun z => z), h3.mono e⟩⟩
section
variable {K : PySem.W.Frag} {M : Md} {W : List Addr} {σ : L2.St} {G H G' H' : Hp} {ta tb te tc : TE} {r s : Rl} {v v0 : V} {i j k n : Int} {rs ss : List Rl} {xs ys : List V} {l : Addr} {D : Ends} {tz : TS} {t : TA}
theorem raw_lst (h : (rLsH rs).P G v) : (rLst K rs).P G v := let ⟨a, vs, h1, h2, h3⟩ := h; ⟨a, vs, h1, .of h2, h3⟩
theorem Ev.raw (h : Ev M te σ G H (rLsH rs)) : Ev M te σ G H (rLst K rs) := h.imp fun _ _ => raw_lst
theorem EvN.lstH (h : EvN M te σ G H (FL rs)) : Ev M te σ G H (rLsH rs) := h.fix fun G1 G2 p o f e g => by
  obtain ⟨vs, rfl, ps⟩ := f
  exact ⟨p, vs, rfl, g, ps.mono e⟩
/-- xs + ys -/
theorem en_catH (ha : Ev M ta σ G H (rLsH rs)) (hb : Ev M tb σ G H (rLsH ss)) (hz : rs.length + ss.length ≤ 100000) : EvN M (tOp rCat ta tb) σ G H (FL (rs ++ ss)) := fun G1 H1 a Q q =>
  ha G1 H1 a _ fun x G2 H2 b ⟨d, vs, e1, e2, e3⟩ => hb G2 H2 (a.trans b) _ fun y G3 H3 c ⟨d', ws, f1, f2, f3⟩ => by
    subst e1 f1
    have h1 := (c.gg.trans c.at.le).at e2 nf_lst (fun z => z)
    have h2 := c.at.le.at f2 nf_lst (fun z => z)
    refine ⟨d, d', vs, ws, rfl, rfl, h1, h2, by rw [← e3.length, ← f3.length]; exact Nat.le_trans hz (by decide), fun p hp => ?_⟩
    exact q p (.lst (vs ++ ws)) G3 _ ((b.trans c).trans (c.at.own hp)) ((b.trans c).back hp) (c.at.le.free hp) upd_same ⟨_, rfl, (e3.mono c.gg).append f3⟩
theorem eqv_strs : ∀ xs ys : List Str, PyData.eqv (.list (xs.map PyData.str)) (.list (ys.map PyData.str)) = decide (xs = ys)
  | [], [] => rfl
  | [], _ :: _ => rfl
  | _ :: _, [] => rfl
  | x :: xs, y :: ys => by
    have ih := eqv_strs xs ys
    have e : PyData.eqv (.list ((x :: xs).map PyData.str)) (.list ((y :: ys).map PyData.str)) = (x == y && PyData.eqv (.list (xs.map PyData.str)) (.list (ys.map PyData.str))) := by rfl
    rw [e, ih]
    by_cases c : x = y
    · subst c
      simp
    · simp [c]
/-- xs != ys, xs == ys of texts -/
theorem ev_neStrs {xs ys : List Str} (ha : Ev M ta σ G H (rLst K (xs.map rStr))) (hb : Ev M tb σ G H (rLst K (ys.map rStr))) (h1 : ∀ x ∈ xs, PyData.strOk x = true) (h2 : ∀ x ∈ ys, PyData.strOk x = true) : Ev M (tOp (rNeD K) ta tb) σ G H (rBl (!decide (xs = ys))) :=
  ev_op ha hb fun G1 H1 x y a ⟨d, vs, e1, e2, e3⟩ ⟨d', ws, f1, f2, f3⟩ Q q => by
    have e4 := e3.strs
    have f4 := f3.strs
    subst e1 f1 e4 f4
    refine ⟨_, _, .lst (a.at.le.seqL e2) (dpAll_strs xs), .lst (a.at.le.seqL f2) (dpAll_strs ys), shaped_strs h1, shaped_strs h2, ?_⟩
    rw [eqv_strs]
    exact q _ G1 H1 a.at.go rfl
theorem ev_eqStrs {xs ys : List Str} (ha : Ev M ta σ G H (rLst K (xs.map rStr))) (hb : Ev M tb σ G H (rLst K (ys.map rStr))) (h1 : ∀ x ∈ xs, PyData.strOk x = true) (h2 : ∀ x ∈ ys, PyData.strOk x = true) : Ev M (tOp (rEqD K) ta tb) σ G H (rBl (decide (xs = ys))) :=
  ev_op ha hb fun G1 H1 x y a ⟨d, vs, e1, e2, e3⟩ ⟨d', ws, f1, f2, f3⟩ Q q => by
    have e4 := e3.strs
    have f4 := f3.strs
    subst e1 f1 e4 f4
    refine ⟨_, _, .lst (a.at.le.seqL e2) (dpAll_strs xs), .lst (a.at.le.seqL f2) (dpAll_strs ys), shaped_strs h1, shaped_strs h2, ?_⟩
    rw [eqv_strs]
    exact q _ G1 H1 a.at.go rfl
end
end TH
namespace TH
open PySem PySem.Spec PyProof.Rows L2
/-- the i-th statement of the text -/
def top (i : Nat) : Stmt := PySem.Challenge.pw_tryhouse_k02_what_a_try_needs.main.body.getD i (.Pass ⟨0, 0, 0, 0⟩)
abbrev s__wall : Stmt := top 0
abbrev s_BadBook___init__ : Stmt := inClass (top 3) 0
abbrev s_is_name : Stmt := top 18
abbrev s_are_unlike : Stmt := top 19
abbrev s_Book___init__ : Stmt := inClass (top 20) 0
abbrev s_Book_scope_of : Stmt := inClass (top 20) 1
abbrev s_Book_is_need : Stmt := inClass (top 20) 2
abbrev s_Book_is_try : Stmt := inClass (top 20) 3
abbrev s_Book_closure : Stmt := inClass (top 20) 4
abbrev s_Book_cases_of : Stmt := inClass (top 20) 5
abbrev s_Book_with_way : Stmt := inClass (top 20) 6
abbrev s_Book_told_case : Stmt := inClass (top 20) 7
abbrev s_Book_place_of : Stmt := inClass (top 20) 8
abbrev s_needed : Stmt := top 21
abbrev s_needless : Stmt := top 22
abbrev s__law_mix : Stmt := top 24
abbrev s__law_next : Stmt := top 25
abbrev s__law_alike : Stmt := top 26
abbrev s__law_leads : Stmt := top 27
abbrev s__law_some : Stmt := top 28
abbrev s__law_book : Stmt := top 29
abbrev s_law : Stmt := top 30
end TH
namespace TH
open PySem PySem.Spec PyProof.Rows L2
def letters : Str := "abcdefghijklmnopqrstuvwxyz"
def words3 : List Str := ["and", "or", "not"]
def scopes4 : List Str := ["run", "house", "group", "try"]
/-- whether a word is a name -/
def isName (x : Str) : Bool := (decide ((1 : Int) ≤ x.length) && decide ((x.length : Int) ≤ 8)) && (x.cps.toList.all (fun c => decide (c ∈ letters.cps.toList)) && !decide (x ∈ words3))
def sp_is_name : Sp := spP (ι := Str) (fun x _ _ => x.length ≤ 100000) (fun x => [rStr x]) (fun x => rBl (isName x))
section
variable {P : Program} {w : World} {K : PySem.W.Frag} {mg : Str → Option Value} {base : Heap} {f : Addr} {fd : FuncData}
theorem sc_is_name : FnScope ["word", "sign"] ["word"] (defScope s_is_name) := ⟨rfl, rfl, rfl, by decide +kernel, rfl, by decide +kernel, by decide +kernel⟩
theorem fn_is_name (F : FnP K "is_name" "is_name" s_is_name f fd) (T : Top K mg) : FnOk P w K mg base CX0 1 f fd ["word"] sp_is_name := by
  refine fn_pure F sc_is_name (fun _ => rfl) fun cdv A outer s H E hr => ⟨_, (pss_one (ps_ret (pe_and (pe_chain op_le op_le pe_int (pe_callB (call_len_str) (by rfl) T.z_len PySem.boot_len (pa_cons (pv 0) pa_nil)) (C8.pe_gc rfl T.c_MOST_SIGNS)) (pe_and (pe_callB (cr_all rfl) (by rfl) T.z_all (by decide +kernel) (pa_cons (pe_lc (own := [("sign", 1)]) rfl sc_is_name.nd (pi_str (pv 0)) (blkOk_by (own := [("sign", 1)]) (N := ["word", "sign"]) (sc := defScope s_is_name) (by decide +kernel)) (fun _ _ _ _ _ => (pg_name (i := 1) sc_is_name.nd rfl (Or.inl rfl))) (fun _ _ _ _ _ => pts_nil) (fun _ _ _ _ _ => peT (pe_cmpR op_in_sign (pv 1) (C8.pe_gc rfl T.c_LETTERS) rfl) (by (try dsimp only [Cx.blk, Cx.nox, cxOf]) <;> rfl))) pa_nil)) (pe_one (pe_cmpR (op_notInK (K := K) rfl) (pv 0) (C8.pe_gc rfl T.c_WORDS) rfl)))))), ?_⟩
  intro x G vs D a pre al hrt hnx
  obtain ⟨v, rfl, hv⟩ := al1 al
  obtain rfl : v = .str x := hv
  have hz : x.length ≤ sizeLine := Nat.le_trans pre (by decide)
  refine s_ret (ev_andV (ev_chain ev_c (ev_lenS (ev_val rfl) hz) ev_c) fun _ => ev_andV (ev_all (EvN.lst (en_map (src_str (ev_val rfl)) (fun c => rBl (decide (c ∈ letters.cps.toList))) (fun _ => rfl) (fun c v G' H' hc g p => ev_sign (ev_var rfl p) ev_c) pre))) fun _ => ?_) a fun v G' H' g p => hrt v G' H' g.gr p
  exact ev_in (neg := true) (ev_val rfl) (ev_top T.t_WORDS).st
end

end TH
namespace TH
open PySem PySem.Spec PyProof.Rows L2
/-- whether names are names, none twice -/
def areUnlike (xs : List Str) : Bool := xs.all isName && decide xs.Nodup
def sp_are_unlike (K : PySem.W.Frag) : Sp := spP (ι := List Str) (fun xs _ _ => xs.length < 4000 ∧ ∀ x ∈ xs, x.length ≤ 100000) (fun xs => [rTup K (xs.map rStr)]) (fun xs => rBl (areUnlike xs))
section
variable {P : Program} {w : World} {K : PySem.W.Frag} {mg : Str → Option Value} {base : Heap} {f : Addr} {fd : FuncData}
theorem sc_are_unlike : FnScope ["names", "name"] ["names"] (defScope s_are_unlike) := ⟨rfl, rfl, rfl, by decide +kernel, rfl, by decide +kernel, by decide +kernel⟩
theorem fn_are_unlike (F : FnP K "are_unlike" "are_unlike" s_are_unlike f fd) (T : Top K mg) (c_is_name : C8.Cal P w K mg base 1 "is_name" sp_is_name []) : FnOk P w K mg base CX0 2 f fd ["names"] (sp_are_unlike K) := by
  refine fn_pure F sc_are_unlike (fun _ => rfl) fun cdv A outer s H E hr => ⟨_, (pss_one (ps_ret (pe_and (pe_callB (cr_all rfl) (by rfl) T.z_all (by decide +kernel) (pa_cons (pe_lc (own := [("name", 1)]) rfl sc_are_unlike.nd (pi_tup (pv 0)) (blkOk_by (own := [("name", 1)]) (N := ["names", "name"]) (sc := defScope s_are_unlike) (by decide +kernel)) (fun _ _ _ _ _ => (pg_name (i := 1) sc_are_unlike.nd rfl (Or.inl rfl))) (fun _ _ _ _ _ => pts_nil) (fun _ _ _ _ _ => peT (C8.pe_c c_is_name hr (by first | decide | omega) rfl (pa_cons (pv 1) pa_nil)) (by (try dsimp only [Cx.blk, Cx.nox, cxOf]) <;> rfl))) pa_nil)) (pe_one (pe_cmpR op_eq (pe_callB cr_lenSetS (by rfl) T.z_len PySem.boot_len (pa_cons (pe_callTy (cr_setS rfl) (by rfl) T.z_set (by decide +kernel) (pa_cons (pv 0) pa_nil)) pa_nil)) (pe_callB (call_len_seq) (by rfl) T.z_len PySem.boot_len (pa_cons (pv 0) pa_nil)) (nomark _)))))), ?_⟩
  intro xs G vs D a ⟨p1, p2⟩ al hrt hnx
  obtain ⟨v, rfl, hv⟩ := al1 al
  have h1 : ∀ {G' H' : Hp}, Go md0 G H G' H' → Ev md0 (tVar 0) (start ["names", "name"] [v]) G' H' (rTup K (xs.map rStr)) := fun g => ev_var rfl (Rl.mono _ g.gg hv)
  refine s_ret (r := rBl (areUnlike xs)) (Ev.of (ev_andV (ev_all (f := isName) (EvN.lst (en_map (src_tup (h1 a.go)) (fun x => rBl (isName x)) (fun _ => rfl) (fun x v G' H' hx g p => ev_call x (ea_cons (ev_var rfl p) ea_nil) fun _ _ _ => p2 x hx) (by omega)))) fun _ => ev_eq (ev_lenSet (h1 a.go).st p1) (ev_len (h1 a.go).st) rfl) ?_) a fun v G' H' g p => hrt v G' H' g.gr p
  have e : decide (V.int ((ddS [] xs).length : Nat) = V.int ((xs.map rStr).length : Nat)) = decide xs.Nodup := by
    rw [List.length_map]
    refine decide_eq_decide.mpr ⟨fun z => (ddS_nodup xs).mp (by injection z; omega), fun z => by rw [(ddS_nodup xs).mpr z]⟩
  rw [e]
  rfl
end

end TH
namespace TH
open PySem PySem.Spec PyProof.Rows L2
/-- a need, a try of a book -/
structure Nd where
  nm : Str
  sc : Str
  ot : List Str
  ws : Int
structure Tr where
  nm : Str
  hs : Str
  gp : Str
  nd : List Str
  ms : List Str
  tm : Int
  ex : Bool
def rNd (K : PySem.W.Frag) (n : Nd) : Rl := rTup K [rStr n.nm, rStr n.sc, rTup K (n.ot.map rStr), rInt n.ws]
def rTr (K : PySem.W.Frag) (t : Tr) : Rl := rTup K [rStr t.nm, rStr t.hs, rStr t.gp, rTup K (t.nd.map rStr), rTup K (t.ms.map rStr), rInt t.tm, rBl t.ex]
/-- a need as a book keeps it -/
def rNeed (K : PySem.W.Frag) (i : Nat) (n : Nd) : Rl := rTup K [rInt i, rStr n.sc, rTup K (n.ot.map rStr), rInt n.ws]
def needsR (K : PySem.W.Frag) : Nat → List Nd → List (Key × Rl)
  | _, [] => []
  | i, n :: t => (Sum.inr n.nm, rNeed K i n) :: needsR K (i + 1) t
/-- a dict at an address -/
def rDctAt (d : Addr) (ks : List (Key × Rl)) : Rl := ⟨fun G v => v = .ref d ∧ (rDct ks).P G v, fun e h => ⟨h.1, (rDct ks).mono e h.2⟩⟩
theorem rDctAt_d {d : Addr} {ks : List (Key × Rl)} {G : Hp} {v : V} (h : (rDctAt d ks).P G v) : (rDct ks).P G v := h.2
theorem rDctAt_r {d : Addr} {ks : List (Key × Rl)} {G : Hp} {v : V} (h : (rDctAt d ks).P G v) : (rRef d).P G v := h.1
/-- a Book, its needs at d -/
def rBook (K : PySem.W.Frag) (C d : Addr) (ns : List Nd) (ts : List Tr) : Rl := rIns C [("needs", rDctAt d (needsR K 0 ns)), ("tries", rLst K (ts.map (rTr K)))]
/-- the first need of a name, and its number -/
def findNd (x : Str) : Nat → List Nd → Option (Nat × Nd)
  | _, [] => none
  | i, n :: t => if n.nm = x then some (i, n) else findNd x (i + 1) t
theorem lk_needs (K : PySem.W.Frag) (x : Str) : ∀ (i : Nat) (ns : List Nd), lkD (needsR K i ns) x = (findNd x i ns).map fun p => rNeed K p.1 p.2
  | _, [] => rfl
  | i, n :: t => by
    have ih := lk_needs K x (i + 1) t
    unfold lkD at ih ⊢
    by_cases h : n.nm = x
    · subst h
      simp [needsR, findNd]
    · have h' : ¬ (Sum.inr n.nm : Key) = Sum.inr x := fun z => h (Sum.inr.inj z)
      simp only [needsR, findNd, List.find?_cons, h', decide_false, h, if_false]
      exact ih
theorem findNd_some {x : Str} : ∀ {i : Nat} {ns : List Nd}, x ∈ ns.map Nd.nm → ∃ j n, findNd x i ns = some (j, n) ∧ n ∈ ns ∧ n.nm = x
  | i, n :: t, h => by
    unfold findNd
    by_cases e : n.nm = x
    · exact ⟨i, n, by rw [if_pos e], List.mem_cons_self, e⟩
    · rw [if_neg e]
      obtain ⟨j, m, h1, h2, h3⟩ := findNd_some (i := i + 1) (ns := t) (by
        rcases List.mem_cons.mp h with z | z
        · exact absurd z.symm e
        · exact z)
      exact ⟨j, m, h1, List.mem_cons_of_mem _ h2, h3⟩
theorem findNd_none {x : Str} : ∀ {i : Nat} {ns : List Nd}, x ∉ ns.map Nd.nm → findNd x i ns = none
  | i, [], _ => rfl
  | i, n :: t, h => by
    unfold findNd
    rw [if_neg fun e => h (by rw [← e]; exact List.mem_cons_self), findNd_none fun m => h (List.mem_cons_of_mem _ m)]
theorem findNd_mem {x : Str} : ∀ {i j : Nat} {ns : List Nd} {n : Nd}, findNd x i ns = some (j, n) → n ∈ ns ∧ n.nm = x ∧ i ≤ j ∧ ns[j - i]? = some n
  | i, j, m :: t, n, h => by
    unfold findNd at h
    by_cases e : m.nm = x
    · rw [if_pos e] at h
      cases h
      exact ⟨List.mem_cons_self, e, Nat.le_refl _, by simp⟩
    · rw [if_neg e] at h
      obtain ⟨h1, h2, h3, h4⟩ := findNd_mem h
      refine ⟨List.mem_cons_of_mem _ h1, h2, by omega, ?_⟩
      rw [show j - i = (j - (i + 1)) + 1 by omega]
      exact h4
def scIx (x : Str) : Nat := scopes4.findIdx (· == x)
/-- what a class has that the top made: no attribute hides a field -/
structure TopBook (K : PySem.W.Frag) (mg : Str → Option Value) (C : Addr) : Prop where
  cl : Cls K C
  n_needs : NoAttr K C "needs"
  n_tries : NoAttr K C "tries"
def sp_scope_of (K : PySem.W.Frag) (C : Addr) : Sp := spP (ι := Addr × List Nd × List Tr × Str) (fun i _ _ => i.2.2.2 ∈ i.2.1.map Nd.nm ∧ ∀ n ∈ i.2.1, n.sc ∈ scopes4) (fun i => [rBook K C i.1 i.2.1 i.2.2.1, rStr i.2.2.2])
  (fun i => rInt (scIx ((findNd i.2.2.2 0 i.2.1).elim "" fun p => p.2.sc) : Nat))
section
variable {P : Program} {w : World} {K : PySem.W.Frag} {mg : Str → Option Value} {base : Heap} {f : Addr} {fd : FuncData} {C : Addr}
variable {M : Md} {σ : L2.St} {G H G' H' : Hp} {ta tb te tc : TE}
theorem scIx_get {x : Str} (h : x ∈ scopes4) : scopes4[scIx x]? = some x ∧ ∀ m, m < scIx x → scopes4[m]? ≠ some x := by
  have h' : x = "run" ∨ x = "house" ∨ x = "group" ∨ x = "try" := by
    have := h
    simp only [scopes4, List.mem_cons, List.not_mem_nil, or_false] at this
    exact this
  rcases h' with rfl | rfl | rfl | rfl
  · decide +kernel
  · decide +kernel
  · decide +kernel
  · decide +kernel
/-- SCOPES.index(x) -/
theorem ev_scIx {x : Str} (hb : Ev M tb σ G H (rStr x)) (T : Top K mg) (hx : x ∈ scopes4) :
    Ev M (tBM K "tuple" (fun x xs H Q => ∃ p, ∃ ys : List Str, ∃ z j, x = .ref p ∧ xs = [.str z] ∧ SqT K H p (ys.map V.str) ∧ ys[j]? = some z ∧ (∀ m, m < j → ys[m]? ≠ some z) ∧ Q (.int (j : Nat)) H) (tC (.ref (He.ga K "SCOPES"))) (tCons tb tNil)) σ G H (rInt (scIx x : Nat)) := fun G1 H1 a Q q =>
  ⟨T.y_SCOPES H1, hb G1 H1 a _ fun v G2 H2 b p => ⟨He.ga K "SCOPES", scopes4, x, scIx x, rfl, by rw [show v = .str x from p], T.t_SCOPES H2, (scIx_get hx).1, (scIx_get hx).2, q _ G2 H2 b rfl⟩⟩
theorem ev_needs {ns : List Nd} {ts : List Tr} {d : Addr} (B : TopBook K mg C) (h : Ev M ta σ G H (rBook K C d ns ts)) : Ev M (tFld K ta "needs") σ G H (rDctAt d (needsR K 0 ns)) := ev_fld h rfl B.cl B.n_needs
theorem ev_tries {ns : List Nd} {ts : List Tr} {d : Addr} (B : TopBook K mg C) (h : Ev M ta σ G H (rBook K C d ns ts)) : Ev M (tFld K ta "tries") σ G H (rLst K (ts.map (rTr K))) := ev_fld h rfl B.cl B.n_tries
/-- self.needs[name] -/
theorem ev_need {ns : List Nd} {ts : List Tr} {d : Addr} {x : Str} {j : Nat} {n : Nd} (B : TopBook K mg C) (h : Ev M ta σ G H (rBook K C d ns ts)) (hk : Ev M tb σ G H (rStr x)) (hx : findNd x 0 ns = some (j, n)) : Ev M (tDGet (tFld K ta "needs") tb) σ G H (rNeed K j n) :=
  ev_dget ((ev_needs B h).imp fun _ _ => rDctAt_d) hk (by rw [lk_needs, hx]; rfl)
theorem sc_Book_scope_of : FnScope ["self", "name"] ["self", "name"] (defScope s_Book_scope_of) := ⟨rfl, rfl, rfl, by decide +kernel, rfl, by decide +kernel, by decide +kernel⟩
theorem fn_scope_of (F : FnP K "scope_of" "Book.scope_of" s_Book_scope_of f fd) (T : Top K mg) (B : TopBook K mg C) : FnOk P w K mg base CX0 1 f fd ["self", "name"] (sp_scope_of K C) := by
  refine fn_pure F sc_Book_scope_of (fun _ => rfl) fun cdv A outer s H E hr => ⟨_, (pss_one (ps_ret (pe_bm PySem.F.plainAttrs_tuple PySem.F.slot_tuple_index PySem.F.type_tuple_index (mt_tup_index) (C8.pe_gc rfl T.c_SCOPES) (pa_cons (pe_ix ix_tup (pe_dget (hu_of hr) (pe_fldK (K := K) rfl (pv 0) rfl) (pv 1) (fun _ _ => rfl)) pe_int (fun _ _ => rfl)) pa_nil)))), ?_⟩
  rintro ⟨d, ns, ts, x⟩ G vs D a ⟨p1, p2⟩ al hrt hnx
  obtain ⟨v, u, rfl, hv, hu⟩ := al2 al
  obtain ⟨j, n, h1, h2, h3⟩ := findNd_some (i := 0) p1
  refine s_ret (ev_scIx (ev_ixT (ev_need B (ev_var rfl hv) (ev_var rfl hu) h1) ev_c rfl) T (p2 n h2)) a fun v G' H' g p => hrt v G' H' g.gr ?_
  show v = _
  rw [h1]
  exact p
end

end TH
namespace TH
open PySem PySem.Spec PyProof.Rows L2
/-! ### what names lead to -/
/-- the needs from the last one on: others of those that are found are found -/
def leadsAcc : List Nd → List Str → List Str
  | [], acc => acc
  | n :: t, acc => leadsAcc t (if n.nm ∈ acc then acc ++ n.ot else acc)
def closureM (ns : List Nd) (names : List Str) : List Str := (ns.map Nd.nm).filter fun x => decide (x ∈ leadsAcc ns.reverse names)
inductive Rch (l : List Nd) (acc : List Str) : Str → Prop
  | base {x : Str} : x ∈ acc → Rch l acc x
  | step {x : Str} {m : Nd} : Rch l acc m.nm → m ∈ l → x ∈ m.ot → Rch l acc x
/-- none of the later needs is an other -/
def RevOk : List Nd → Prop
  | [] => True
  | n :: t => (∀ m ∈ n :: t, n.nm ∉ m.ot) ∧ RevOk t
theorem rch_cons {n : Nd} {t : List Nd} {acc : List Str} (h : ∀ m ∈ n :: t, n.nm ∉ m.ot) {x : Str} : Rch (n :: t) acc x ↔ Rch t (if n.nm ∈ acc then acc ++ n.ot else acc) x := by
  have sub : ∀ y, y ∈ acc → y ∈ (if n.nm ∈ acc then acc ++ n.ot else acc) := fun y hy => by
    split
    · exact List.mem_append_left _ hy
    · exact hy
  constructor
  · intro r
    induction r with
    | base hx => exact .base (sub _ hx)
    | @step x m _ hm hx ih =>
      rcases List.mem_cons.mp hm with e | hm
      · subst e
        have k : ∀ y, Rch t (if m.nm ∈ acc then acc ++ m.ot else acc) y → y = m.nm → m.nm ∈ acc := by
          intro y r e
          cases r with
          | base hy =>
            subst e
            split at hy
            · rename_i q; exact q
            · exact hy
          | step _ hm2 hy =>
            subst e
            exact absurd hy (h _ (List.mem_cons_of_mem _ hm2))
        have q := k _ ih rfl
        exact .base (by rw [if_pos q]; exact List.mem_append_right _ hx)
      · exact .step ih hm hx
  · intro r
    induction r with
    | base hx =>
      split at hx
      · rename_i q
        rcases List.mem_append.mp hx with hx | hx
        · exact .base hx
        · exact .step (.base q) List.mem_cons_self hx
      · exact .base hx
    | step _ hm hx ih => exact .step ih (List.mem_cons_of_mem _ hm) hx
theorem leads_rch : ∀ {l : List Nd} {acc : List Str} {x : Str}, RevOk l → (x ∈ leadsAcc l acc ↔ Rch l acc x)
  | [], acc, x, _ => ⟨.base, fun r => by cases r with | base h => exact h | step _ h _ => cases h⟩
  | n :: t, acc, x, h => by
    rw [rch_cons h.1]
    exact leads_rch h.2
theorem rch_mem {l l' : List Nd} (h : ∀ m, m ∈ l → m ∈ l') {acc : List Str} {x : Str} (r : Rch l acc x) : Rch l' acc x := by
  induction r with
  | base hx => exact .base hx
  | step _ hm hx ih => exact .step ih (h _ hm) hx
/-- names that differ, others ahead -/
def OrdN : List Str → List Nd → Prop
  | _, [] => True
  | seen, n :: t => n.nm ∉ seen ∧ (∀ o ∈ n.ot, o ∈ seen) ∧ OrdN (seen ++ [n.nm]) t
theorem OrdN.fresh : ∀ {seen : List Str} {ns : List Nd}, OrdN seen ns → ∀ n ∈ ns, n.nm ∉ seen
  | seen, n :: t, h, m, hm => by
    rcases List.mem_cons.mp hm with e | hm
    · rw [e]; exact h.1
    · exact fun z => OrdN.fresh h.2.2 m hm (List.mem_append_left _ z)
theorem OrdN.nodup : ∀ {seen : List Str} {ns : List Nd}, OrdN seen ns → (ns.map Nd.nm).Nodup
  | _, [], _ => List.nodup_nil
  | seen, n :: t, h => by
    rw [List.map_cons, List.nodup_cons]
    refine ⟨fun m => ?_, OrdN.nodup h.2.2⟩
    obtain ⟨k, hk, e⟩ := List.mem_map.mp m
    exact OrdN.fresh h.2.2 k hk (by rw [e]; simp)
theorem OrdN.ots : ∀ {seen : List Str} {ns : List Nd}, OrdN seen ns → ∀ n ∈ ns, ∀ o ∈ n.ot, o ∈ seen ∨ o ∈ ns.map Nd.nm
  | seen, n :: t, h, m, hm, o, ho => by
    rcases List.mem_cons.mp hm with e | hm
    · rw [e] at ho; exact .inl (h.2.1 o ho)
    · rcases OrdN.ots h.2.2 m hm o ho with z | z
      · rcases List.mem_append.mp z with z | z
        · exact .inl z
        · rw [List.mem_singleton] at z
          exact .inr (by rw [z]; exact List.mem_cons_self)
      · exact .inr (List.mem_cons_of_mem _ z)
theorem revOk_app : ∀ {l : List Nd} {n : Nd}, RevOk l → (∀ m ∈ l, m.nm ∉ n.ot) → n.nm ∉ n.ot → RevOk (l ++ [n])
  | [], n, _, _, h => ⟨fun m hm => by rw [List.mem_singleton.mp hm]; exact h, trivial⟩
  | k :: t, n, h, h1, h2 => ⟨fun m hm => by
      rcases List.mem_append.mp (show m ∈ (k :: t) ++ [n] from hm) with z | z
      · exact h.1 m z
      · rw [List.mem_singleton.mp z]; exact h1 k List.mem_cons_self, revOk_app h.2 (fun m hm => h1 m (List.mem_cons_of_mem _ hm)) h2⟩
theorem OrdN.rev : ∀ {seen : List Str} {ns : List Nd}, OrdN seen ns → RevOk ns.reverse
  | _, [], _ => trivial
  | seen, n :: t, h => by
    rw [List.reverse_cons]
    exact revOk_app (OrdN.rev h.2.2) (fun m hm z => OrdN.fresh h.2.2 m (List.mem_reverse.mp hm) (List.mem_append_left _ (h.2.1 _ z))) fun z => h.1 (h.2.1 _ z)
theorem closureM_mem {ns : List Nd} {names : List Str} (h : OrdN [] ns) {x : Str} : x ∈ leadsAcc ns.reverse names ↔ Rch ns names x := by
  rw [leads_rch h.rev]
  exact ⟨rch_mem fun m hm => List.mem_reverse.mp hm, rch_mem fun m hm => List.mem_reverse.mpr hm⟩
theorem one_nm : ∀ {ns : List Nd}, (ns.map Nd.nm).Nodup → ∀ {a b : Nd}, a ∈ ns → b ∈ ns → a.nm = b.nm → a = b
  | n :: t, hn, a, b, ha, hb, e => by
    rw [List.map_cons, List.nodup_cons] at hn
    rcases List.mem_cons.mp ha with e1 | ha
    · rcases List.mem_cons.mp hb with e2 | hb
      · rw [e1, e2]
      · exact absurd (by rw [← e1, e]; exact List.mem_map.mpr ⟨b, hb, rfl⟩) hn.1
    · rcases List.mem_cons.mp hb with e2 | hb
      · exact absurd (by rw [← e2, ← e]; exact List.mem_map.mpr ⟨a, ha, rfl⟩) hn.1
      · exact one_nm hn.2 ha hb e
/-- what is found when nothing waits any more is all that is led to -/
theorem found_all {ns : List Nd} {names F : List Str} (h1 : ∀ x ∈ F, Rch ns names x) (h2 : ∀ x ∈ names, x ∈ F) (h3 : ∀ m ∈ ns, m.nm ∈ F → ∀ o ∈ m.ot, o ∈ F) {x : Str} : x ∈ F ↔ Rch ns names x := by
  refine ⟨h1 x, fun r => ?_⟩
  induction r with
  | base hx => exact h2 _ hx
  | step _ hm hx ih => exact h3 _ hm ih _ hx
theorem sub_len : ∀ {l D : List Str}, l.Nodup → (∀ x ∈ l, x ∈ D) → l.length ≤ D.length
  | [], _, _, _ => Nat.zero_le _
  | x :: l, D, hn, hs => by
    obtain ⟨h1, h2⟩ := List.nodup_cons.mp hn
    have hx : x ∈ D := hs x List.mem_cons_self
    have ih := sub_len (l := l) (D := D.erase x) h2 fun y hy => (List.mem_erase_of_ne (show y ≠ x from fun e => h1 (by rw [← e]; exact hy))).2 (hs y (List.mem_cons_of_mem _ hy))
    rw [List.length_erase_of_mem hx] at ih
    have hp : 0 < D.length := List.length_pos_of_mem hx
    rw [List.length_cons]
    omega
/-! ### the walk -/
def trueD (F : List Str) : List (Key × V) := F.map fun x => (Sum.inr x, V.bl true)
theorem valV_true (F : List Str) (x : Str) : (valV (trueD F) (.inr x)).isSome = decide (x ∈ F) := by
  unfold valV trueD
  rw [Option.isSome_map, List.find?_map, Option.isSome_map, Bool.eq_iff_iff, List.find?_isSome, decide_eq_true_iff]
  constructor
  · rintro ⟨y, hy, e⟩
    have e : y = x := by simpa [Function.comp] using e
    exact e ▸ hy
  · intro hx
    exact ⟨x, hx, by simp [Function.comp]⟩
theorem putK_true {F : List Str} {x : Str} (h : x ∉ F) : putK (trueD F) (Sum.inr x) (.bl true) = trueD (F ++ [x]) := by
  have e : valV (trueD F) (Sum.inr x) = none := by
    have := valV_true F x
    rw [decide_eq_false h] at this
    cases q : valV (trueD F) (Sum.inr x) with
    | none => rfl
    | some v => rw [q] at this; cases this
  rw [putK_new _ e]
  unfold trueD
  rw [List.map_append]
  rfl
theorem keysDAl {K : PySem.W.Frag} {G : Hp} : ∀ {i : Nat} {ns : List Nd} {kvs : List (Key × V)}, DAl G (needsR K i ns) kvs → (kvs.map fun kv => rV (kV kv.1)) = (ns.map Nd.nm).map rStr
  | _, [], _, .nil => rfl
  | i, n :: t, (k, v) :: kvs, .cons h r => by
    have e : Sum.inr n.nm = k := h.1
    subst e
    have ih := keysDAl r
    rw [List.map_cons, ih]
    rfl
/-- what a def asks of a book that it walks: names that differ, others ahead, few enough; its dict isn't locked -/
structure BkOk (ns : List Nd) : Prop where
  ord : OrdN [] ns
  few : ns.length ≤ 100
  ots : ∀ n ∈ ns, n.ot.length ≤ 100
  oks : ∀ n ∈ ns, PyData.strOk n.nm = true
  scs : ∀ n ∈ ns, n.sc ∈ scopes4
def Open (d : Addr) (H : Hp) : Prop := ∃ kvs, H d = some (.dK kvs)
def sp_closure (K : PySem.W.Frag) (C : Addr) : Sp := spP (ι := Addr × List Nd × List Tr × List Str) (fun i _ H => BkOk i.2.1 ∧ Open i.1 H ∧ i.2.2.2.length ≤ 100 ∧ ∀ x ∈ i.2.2.2, x ∈ i.2.1.map Nd.nm) (fun i => [rBook K C i.1 i.2.1 i.2.2.1, rTup K (i.2.2.2.map rStr)])
  (fun i => rLst K ((closureM i.2.1 i.2.2.2).map rStr))
section
variable {P : Program} {w : World} {K : PySem.W.Frag} {mg : Str → Option Value} {base : Heap} {f : Addr} {fd : FuncData} {C : Addr}
theorem sc_Book_closure : FnScope ["self", "names", "found", "waiting", "name"] ["self", "names"] (defScope s_Book_closure) := ⟨rfl, rfl, rfl, by decide +kernel, rfl, by decide +kernel, by decide +kernel⟩
theorem fn_closure (F : FnP K "closure" "Book.closure" s_Book_closure f fd) (T : Top K mg) (B : TopBook K mg C) : FnOk P w K mg base CX0 1 f fd ["self", "names"] (sp_closure K C) := by
  refine fn_pure F sc_Book_closure (fun _ => rfl) fun cdv A outer s H E hr => ⟨_, (pss_cons (ps_set (i := 2) sc_Book_closure.nd rfl (Or.inr rfl) pe_dnewK) (pss_cons (ps_set (i := 3) sc_Book_closure.nd rfl (Or.inl rfl) (pe_callTy (call_list_of) (by rfl) T.z_list (by decide +kernel) (pa_cons (pv 1) pa_nil))) (pss_cons (ps_while PassesOwn.never (pt_cmpR (op_neD hr.units) (pv 3) (pe_lst pa_nil) (nomark _)) (pss_cons (ps_set (i := 4) sc_Book_closure.nd rfl (Or.inl rfl) (pe_bm0 PySem.F.plainAttrs_list PySem.F.slot_list_pop PySem.F.type_list_pop (mt_pop) (pv 3))) (pss_one (ps_if (pt_cmp (pc_dnotin (hu_of hr) (pv 4) (pv 2))) (pss_cons (ps_dput (hu_of hr) (pv 2) (pv 4) pe_bl rfl) (pss_one (ps_expr (pe_bm PySem.F.plainAttrs_list PySem.F.slot_list_extend PySem.F.type_list_extend (mt_extT) (pv 3) (pa_cons (pe_ix ix_tup (pe_dget (hu_of hr) (pe_fldK (K := K) rfl (pv 0) rfl) (pv 4) (fun _ _ => rfl)) pe_int (fun _ _ => rfl)) pa_nil))))) pss_nil)))) (pss_one (ps_ret (pe_lock (pe_lc (own := [("name", 4)]) rfl sc_Book_closure.nd (pi_keys (pe_fldK (K := K) rfl (pv 0) rfl)) (blkOk_by (own := [("name", 4)]) (N := ["self", "names", "found", "waiting", "name"]) (sc := defScope s_Book_closure) (by decide +kernel)) (fun _ _ _ _ _ => (pg_name (i := 4) sc_Book_closure.nd rfl (Or.inl rfl))) (fun _ _ _ _ _ => ptsT (pts_one (pt_cmp (pc_din (hu_of hr) (pv 4) (pv 2)))) (by (try dsimp only [Cx.blk, Cx.nox, cxOf]) <;> rfl)) (fun _ _ _ _ _ => peT (pv 4) (by (try dsimp only [Cx.blk, Cx.nox, cxOf]) <;> rfl))))))))), ?_⟩
  rintro ⟨d, ns, ts, names⟩ G vs D a ⟨ok, ⟨kvs, hop⟩, p1, p2⟩ al hrt hnx
  obtain ⟨v, u, rfl, hv, hu⟩ := al2 al
  have hv : (rBook K C d ns ts).P G v := hv
  have hu : (rTup K (names.map rStr)).P G u := hu
  have ok : BkOk ns := ok
  have p1 : names.length ≤ 100 := p1
  have p2 : ∀ x ∈ names, x ∈ ns.map Nd.nm := p2
  have hop : H d = some (.dK kvs) := hop
  -- found = {}; waiting = list(names)
  refine q_asgN en_dict a fun d1 o1 G1 H1 e1 n1 n2 n3 f1 => ?_
  subst f1
  refine q_asgN (en_list (ev_var rfl (Rl.mono _ e1.gg hu)).st) e1.at fun l1 o2 G2 H2 e2 m1 m2 m3 ⟨us, f2, f3⟩ => ?_
  subst f2
  have f4 := f3.strs
  subst f4
  have dl : d1 ≠ l1 := fun z => by subst z; rw [n3] at m1; cases m1
  obtain ⟨n4, n5⟩ := e2.gr.loc n3 n2 (by simp [md0])
  have nd : d1 ≠ d := fun z => by subst z; rw [hop] at n1; cases n1
  have nl : l1 ≠ d := fun z => by subst z; rw [e1.gr.hh _ _ hop (by simp [md0])] at m1; cases m1
  have E0 : Gr [] G H G2 H2 := (e1.trans e2).gr
  -- while waiting != []
  refine q_while [d1, l1] (by simp [md0]) (fun m σ' G' H' => ∃ Fd Wt x, m = 101 * (ns.length - Fd.length) + Wt.length ∧ σ' = [some v, some u, some (.ref d1), some (.ref l1), x] ∧ H' d1 = some (.dK (trueD Fd)) ∧ G' d1 = none ∧ H' l1 = some (.lst (Wt.map V.str)) ∧ G' l1 = none ∧
    Fd.Nodup ∧ (∀ x ∈ Fd, x ∈ ns.map Nd.nm) ∧ (∀ x ∈ Wt, x ∈ ns.map Nd.nm) ∧ (∀ x ∈ Fd, Rch ns names x) ∧ (∀ x ∈ Wt, Rch ns names x) ∧ (∀ x ∈ names, x ∈ Fd ∨ x ∈ Wt) ∧ (∀ m ∈ ns, m.nm ∈ Fd → ∀ o ∈ m.ot, o ∈ Fd ∨ o ∈ Wt) ∧ Wt.length ≤ 100 + 100 * Fd.length)
    (101 * ns.length + names.length) e2.at ⟨[], names, none, by simp, rfl, n4, n5, m3, m2, List.nodup_nil, by simp, p2, by simp, fun x hx => .base hx, fun x hx => .inr hx, by simp, by simpa using p1⟩ ?_
  rintro m σ' G' H' g1 - ⟨Fd, Wt, x0, hm, rfl, i1, i2, i3, i4, i5, i6, i7, i8, i9, i10, i11, i12⟩
  have at' : At md0 G' H' := ⟨g1.gh, trivial⟩
  have hF : Fd.length ≤ ns.length := by
    have := sub_len i5 i6
    rwa [List.length_map] at this
  have hok : ∀ x ∈ Wt, PyData.strOk x = true := fun x hx => by
    obtain ⟨n, hn, e⟩ := List.mem_map.mp (i7 x hx)
    rw [← e]; exact ok.oks n hn
  refine ⟨_, et_test (ev_neNil (ev_val rfl) i3 (by simp [md0]) hok), fun hB G3 H3 g3 N hN => ?_, fun hB G3 H3 g3 => ?_⟩
  · -- name = waiting.pop()
    obtain ⟨Wt', x, rfl⟩ : ∃ Wt' x, Wt = Wt' ++ [x] := by
      rcases List.eq_nil_or_concat Wt with e | ⟨Wt', x, e⟩
      · subst e; cases hB
      · exact ⟨Wt', x, by rw [e, List.concat_eq_append]⟩
    obtain ⟨j1, j2⟩ := g3.gr.loc i1 i2 (by simp [md0])
    obtain ⟨j3, j4⟩ := g3.gr.loc i3 i4 (by simp [md0])
    have hx : x ∈ ns.map Nd.nm := i7 x (by simp)
    refine q_pop (v := .str x) (ev_val rfl) g3.at j3 j4 (by simp [md0]) (by simp) fun G4 H4 g4 k1 k2 => ?_
    obtain ⟨k3, k4⟩ := g4.gr.loc j1 j2 (by simp [md0])
    have el : (((Wt' ++ [x]).map V.str).dropLast) = Wt'.map V.str := by simp
    rw [el]
    have q1 : Gr [d1, l1] G2 H2 G4 (upd H4 l1 (.lst (Wt'.map V.str))) := (g1.trans (g3.trans g4).gr.nil).putW (by simp) k2
    have at4 : At md0 G4 (upd H4 l1 (.lst (Wt'.map V.str))) := ⟨q1.gh, trivial⟩
    have h1 : (upd H4 l1 (.lst (Wt'.map V.str))) d1 = some (.dK (trueD Fd)) := by rw [upd_ne dl]; exact k3
    -- if name not in found
    refine s_when (et_B (ev_dnotinM (ev_val rfl) (ev_val rfl) h1 (by simp [md0]))) at4 (fun hB2 G5 H5 g5 => ?_) fun hB2 G5 H5 g5 => ?_
    · have hxF : x ∉ Fd := by
        have := hB2
        rw [valV_true] at this
        simpa using this.symm
      obtain ⟨r1, r2⟩ := g5.gr.loc h1 k4 (by simp [md0])
      obtain ⟨r3, r4⟩ := g5.gr.loc (p := l1) upd_same k2 (by simp [md0])
      refine q_dput (k := .inr x) (r := rBl true) ev_c (ev_val rfl) (ev_val rfl) g5.at r1 r2 (by simp [md0]) (by unfold trueD; rw [List.length_map]; have := ok.few; omega) fun vt G6 H6 g6 pv s1 s2 => ?_
      have pv : vt = .bl true := pv
      subst pv
      rw [putK_true hxF]
      obtain ⟨s3, s4⟩ := g6.gr.loc r3 r4 (by simp [md0])
      have q2 : Gr [d1, l1] G2 H2 G6 (upd H6 d1 (.dK (trueD (Fd ++ [x])))) := (q1.trans (g5.trans g6).gr.nil).putW (by simp) s2
      have at6 : At md0 G6 (upd H6 d1 (.dK (trueD (Fd ++ [x])))) := ⟨q2.gh, trivial⟩
      obtain ⟨j, n, t1, t2, t3⟩ := findNd_some (i := 0) hx
      have hvB : (rBook K C d ns ts).P G6 v := Rl.mono _ (E0.gg.trans q2.gg) hv
      have hlen : (trueD Fd).length = Fd.length := by unfold trueD; rw [List.length_map]
      refine s_extT (rs := n.ot.map rStr) (ev_val rfl) (ev_ixT (ev_need B (ev_var rfl hvB) (ev_val rfl) t1) ev_c rfl) at6 (by rw [upd_ne (Ne.symm dl)]; exact s3) s4 (by simp [md0]) (by
        have b1 := ok.ots n t2
        have b2 := ok.few
        simp only [List.length_map, List.length_append, List.length_singleton] at i12 ⊢
        omega) fun ws G7 H7 g7 pw w1 w2 => ?_
      have pw' := pw.strs
      subst pw'
      obtain ⟨w3, w4⟩ := g7.gr.loc (p := d1) upd_same s2 (by simp [md0])
      have q3 : Gr [d1, l1] G2 H2 G7 (upd H7 l1 (.lst (Wt'.map V.str ++ n.ot.map V.str))) := (q2.trans g7.gr.nil).putW (by simp) w2
      refine hN (101 * (ns.length - (Fd ++ [x]).length) + (Wt' ++ n.ot).length) _ G7 _ ?_ q3 trivial ⟨Fd ++ [x], Wt' ++ n.ot, some (.str x), rfl, rfl, by rw [upd_ne dl]; exact w3, w4, by rw [upd_same, List.map_append], w2, ?_, ?_, ?_, ?_, ?_, ?_, ?_, ?_⟩
      · have b1 := ok.ots n t2
        have b3 : (Fd ++ [x]).length ≤ ns.length := by
          have := sub_len (l := Fd ++ [x]) (D := ns.map Nd.nm) (List.nodup_append.mpr ⟨i5, by simp, fun a ha b hb e => by rw [List.mem_singleton] at hb; subst hb; exact hxF (e ▸ ha)⟩) (fun y hy => by
            rcases List.mem_append.mp hy with z | z
            · exact i6 y z
            · rw [List.mem_singleton.mp z]; exact hx)
          rwa [List.length_map] at this
        simp only [List.length_append, List.length_singleton] at hm b3 ⊢
        omega
      · exact List.nodup_append.mpr ⟨i5, by simp, fun a ha b hb e => by rw [List.mem_singleton] at hb; subst hb; exact hxF (e ▸ ha)⟩
      · intro y hy
        rcases List.mem_append.mp hy with z | z
        · exact i6 y z
        · rw [List.mem_singleton.mp z]; exact hx
      · intro y hy
        rcases List.mem_append.mp hy with z | z
        · exact i7 y (List.mem_append_left _ z)
        · rcases ok.ord.ots n t2 y z with q | q
          · exact nomatch q
          · exact q
      · intro y hy
        rcases List.mem_append.mp hy with z | z
        · exact i8 y z
        · rw [List.mem_singleton.mp z]; exact i9 x (by simp)
      · intro y hy
        rcases List.mem_append.mp hy with z | z
        · exact i9 y (List.mem_append_left _ z)
        · exact .step (by rw [t3]; exact i9 x (by simp)) t2 z
      · intro y hy
        rcases i10 y hy with z | z
        · exact .inl (List.mem_append_left _ z)
        · rcases List.mem_append.mp z with z | z
          · exact .inr (List.mem_append_left _ z)
          · exact .inl (List.mem_append_right _ z)
      · intro k hk hkF o ho
        rcases List.mem_append.mp hkF with z | z
        · rcases i11 k hk z o ho with q | q
          · exact .inl (List.mem_append_left _ q)
          · rcases List.mem_append.mp q with q | q
            · exact .inr (List.mem_append_left _ q)
            · exact .inl (List.mem_append_right _ q)
        · have e : k = n := one_nm ok.ord.nodup hk t2 (by rw [List.mem_singleton.mp z, t3])
          subst e
          exact .inr (List.mem_append_right _ ho)
      · have b1 := ok.ots n t2
        simp only [List.length_append, List.length_singleton] at i12 ⊢
        omega
    · have hxF : x ∈ Fd := by
        have := hB2
        rw [valV_true] at this
        simpa using this.symm
      obtain ⟨r1, r2⟩ := g5.gr.loc h1 k4 (by simp [md0])
      obtain ⟨r3, r4⟩ := g5.gr.loc (p := l1) upd_same k2 (by simp [md0])
      refine hN (101 * (ns.length - Fd.length) + Wt'.length) _ G5 H5 (by simp only [List.length_append, List.length_singleton] at hm; omega) (q1.trans g5.gr.nil) trivial ⟨Fd, Wt', some (.str x), rfl, rfl, r1, r2, r3, r4, i5, i6, fun y hy => i7 y (List.mem_append_left _ hy), i8, fun y hy => i9 y (List.mem_append_left _ hy), fun y hy => ?_, fun k hk hkF o ho => ?_, ?_⟩
      · rcases i10 y hy with z | z
        · exact .inl z
        · rcases List.mem_append.mp z with z | z
          · exact .inr z
          · exact .inl (by rw [List.mem_singleton.mp z]; exact hxF)
      · rcases i11 k hk hkF o ho with z | z
        · exact .inl z
        · rcases List.mem_append.mp z with z | z
          · exact .inr z
          · exact .inl (by rw [List.mem_singleton.mp z]; exact hxF)
      · simp only [List.length_append, List.length_singleton] at i12
        omega
  · -- return [..]
    have hW : Wt = [] := by
      cases Wt with
      | nil => rfl
      | cons y t => cases hB
    subst hW
    have g4 : Gr [] G H G3 H3 := (E0.over g1 (fun p hp => .inr (by
      rcases List.mem_cons.mp hp with z | z
      · rw [z]; exact n1
      · rw [List.mem_singleton.mp z]; exact e1.back m1))).trans g3.gr
    have hd3 : H3 d = some (.dK kvs) := g4.hh d _ hop (fun z => nomatch z)
    have hvB : (rBook K C d ns ts).P G3 v := Rl.mono _ g4.gg hv
    obtain ⟨bp, bdx, bvs, rfl, hb1, hb2⟩ := id hvB
    obtain ⟨nv, hn1, hnd, na, nvs, hne, hn4, hn5⟩ := hb2.get (f := "needs") rfl
    obtain rfl : d = na := by rw [hnd] at hne; injection hne
    have ekv := rd_core hn4 g4.gh hd3
    subst ekv
    obtain ⟨j1, j2⟩ := g3.gr.loc i1 i2 (by simp [md0])
    have fin : ∀ x, (x ∈ Fd ↔ x ∈ leadsAcc ns.reverse names) := fun x => by
      rw [closureM_mem ok.ord]
      exact found_all i8 (fun x hx => (i10 x hx).resolve_right (fun z => nomatch z)) (fun m hm hmF o ho => (i11 m hm hmF o ho).resolve_right (fun z => nomatch z))
    refine s_ret (r := rLst K ((closureM ns names).map rStr)) (ev_lock hn4 hd3 (by simp [md0]) fun od G5 H5 g5 hle hkeep hat => ?_) g3.at fun v' G' H' g p => hrt v' G' H' (g4.trans g.gr) p
    have hvL : (rBook K C d ns ts).P (upd G5 d (.frz od (.dK nvs))) (.ref bp) := Rl.mono _ hle hvB
    have hdL : (upd H5 d (.frz od (.dK nvs))) d1 = some (.dK (trueD Fd)) := hkeep d1 _ nd j1 (by simp [md0])
    have ek := keysDAl hn5
    have src : Src md0 md0.W (iKeys (tFld K (tVar 0) "needs")) [some (.ref bp), some u, some (.ref d1), some (.ref l1), x0] (upd G5 d (.frz od (.dK nvs))) (upd H5 d (.frz od (.dK nvs))) ((ns.map Nd.nm).map rStr) := by
      rw [← ek]
      exact src_keys ((ev_needs B (ev_var rfl hvL)).imp fun _ _ => rDctAt_r) upd_same (by simp [md0]) (by simp [md0])
    refine EvN.lst ?_
    have := en_lcX (tt := tB (tDIn (tVar 4) (tVar 2))) (te := tVar 4) (vs := [4]) (j := 4) src (fun x => decide (x ∈ Fd)) rStr (fun _ => rfl) (fun x vx G6 H6 hx g6 px => ⟨?_, fun _ => ev_var rfl px⟩) (by rw [List.length_map]; have := ok.few; omega)
    · have e : (ns.map Nd.nm).filter (fun x => decide (x ∈ Fd)) = closureM ns names := by
        unfold closureM
        refine List.filter_congr fun x _ => ?_
        exact decide_eq_decide.mpr (fin x)
      rw [e] at this
      exact this
    · have h2 := g6.gr.hh d1 _ hdL (by simp [md0])
      have := ev_dinM (M := md0) (G := G6) (σ := (wipe [some (V.ref bp), some u, some (.ref d1), some (.ref l1), x0] [4]).set 4 (some vx)) (x := x) (ta := tVar 2) (tb := tVar 4) (ev_var rfl px) (ev_val rfl) h2 (by simp [md0])
      rw [valV_true] at this
      exact et_B this
end

end TH
namespace TH
open PySem PySem.Spec PyProof.Rows L2
/-! ### the rows of a book -/
def isNeed (ns : List Nd) (n : Nd) : Bool :=
  if !isName n.nm || (decide (n.nm ∈ ns.map Nd.nm) || (!decide (n.sc ∈ scopes4) || !(decide ((1 : Int) ≤ n.ws) && decide (n.ws ≤ 4)))) then false
  else if !areUnlike n.ot || !(n.ot.all fun o => decide (o ∈ ns.map Nd.nm)) then false
  else n.ot.all fun o => decide (((scIx ((findNd o 0 ns).elim "" fun p => p.2.sc) : Nat) : Int) ≤ (scIx n.sc : Nat))
theorem lk_some (K : PySem.W.Frag) (ns : List Nd) (x : Str) : (lkD (needsR K 0 ns) x).isSome = decide (x ∈ ns.map Nd.nm) := by
  rw [lk_needs]
  by_cases h : x ∈ ns.map Nd.nm
  · obtain ⟨j, n, e, _⟩ := findNd_some (i := 0) h
    rw [e, decide_eq_true h]
    rfl
  · rw [findNd_none h, decide_eq_false h]
    rfl
/-- texts short enough for the machine -/
def NdFit (n : Nd) : Prop := n.nm.length ≤ 100000 ∧ n.ot.length < 4000 ∧ ∀ o ∈ n.ot, o.length ≤ 100000
def sp_is_need (K : PySem.W.Frag) (C : Addr) : Sp := spP (ι := Addr × List Nd × List Tr × Nd) (fun i _ _ => (∀ n ∈ i.2.1, n.sc ∈ scopes4) ∧ NdFit i.2.2.2) (fun i => [rBook K C i.1 i.2.1 i.2.2.1, rNd K i.2.2.2]) (fun i => rBl (isNeed i.2.1 i.2.2.2))
section
variable {P : Program} {w : World} {K : PySem.W.Frag} {mg : Str → Option Value} {base : Heap} {f : Addr} {fd : FuncData} {C : Addr}
theorem sc_Book_is_need : FnScope ["self", "row", "name", "scope", "others", "ways", "other"] ["self", "row"] (defScope s_Book_is_need) := ⟨rfl, rfl, rfl, by decide +kernel, rfl, by decide +kernel, by decide +kernel⟩
theorem fn_is_need (F : FnP K "is_need" "Book.is_need" s_Book_is_need f fd) (T : Top K mg) (B : TopBook K mg C) (c_is_name : C8.Cal P w K mg base 1 "is_name" sp_is_name []) (c_are_unlike : C8.Cal P w K mg base 2 "are_unlike" (sp_are_unlike K) []) (c_scope_of : C8.Met P w K mg base 1 C "scope_of" (sp_scope_of K C) []) :
    FnOk P w K mg base CX0 3 f fd ["self", "row"] (sp_is_need K C) := by
  refine fn_pure F sc_Book_is_need (fun _ => rfl) fun cdv A outer s H E hr => ⟨_, (pss_cons (ps_asg (pv 1) (pg_tup rfl (pgs_cons (pg_name (i := 2) sc_Book_is_need.nd rfl (Or.inl rfl)) (pgs_cons (pg_name (i := 3) sc_Book_is_need.nd rfl (Or.inr rfl)) (pgs_cons (pg_name (i := 4) sc_Book_is_need.nd rfl (Or.inl rfl)) (pgs_cons (pg_name (i := 5) sc_Book_is_need.nd rfl (Or.inl rfl)) pgs_nil)))))) (pss_cons (ps_if (PW.pt (pw_or (pt_not (pt_val (C8.pe_c c_is_name hr (by first | decide | omega) rfl (pa_cons (pv 2) pa_nil)))) (pw_or (pt_cmp (pc_din (hu_of hr) (pv 2) (pe_fldK (K := K) rfl (pv 0) rfl))) (pw_or (pt_cmpR (op_notInK (K := K) rfl) (pv 3) (C8.pe_gc rfl T.c_SCOPES) rfl) (pw_or1 (pt_not (pt_chain op_le op_le pe_int (pv 5) (C8.pe_gc rfl T.c_MOST_WAYS)))))))) (pss_one (ps_ret pe_bl)) pss_nil) (pss_cons (ps_if (PW.pt (pw_or (pt_not (pt_val (C8.pe_c c_are_unlike hr (by first | decide | omega) rfl (pa_cons (pv 4) pa_nil)))) (pw_or1 (pt_not (pt_val (pe_callB (cr_all rfl) (by rfl) T.z_all (by decide +kernel) (pa_cons (pe_lc (own := [("other", 6)]) rfl sc_Book_is_need.nd (pi_tup (pv 4)) (blkOk_by (own := [("other", 6)]) (N := ["self", "row", "name", "scope", "others", "ways", "other"]) (sc := defScope s_Book_is_need) (by decide +kernel)) (fun _ _ _ _ _ => (pg_name (i := 6) sc_Book_is_need.nd rfl (Or.inl rfl))) (fun _ _ _ _ _ => pts_nil) (fun _ _ _ _ _ => peT (pe_cmp (pc_din (hu_of hr) (pv 6) (pe_fldK (K := K) rfl (pv 0) rfl))) (by (try dsimp only [Cx.blk, Cx.nox, cxOf]) <;> rfl))) pa_nil))))))) (pss_one (ps_ret pe_bl)) pss_nil) (pss_one (ps_ret (pe_callB (cr_all rfl) (by rfl) T.z_all (by decide +kernel) (pa_cons (pe_lc (own := [("other", 6)]) rfl sc_Book_is_need.nd (pi_tup (pv 4)) (blkOk_by (own := [("other", 6)]) (N := ["self", "row", "name", "scope", "others", "ways", "other"]) (sc := defScope s_Book_is_need) (by decide +kernel)) (fun _ _ _ _ _ => (pg_name (i := 6) sc_Book_is_need.nd rfl (Or.inl rfl))) (fun _ _ _ _ _ => pts_nil) (fun _ _ _ _ _ => peT (pe_cmpR op_le (C8.pe_mt c_scope_of hr (by first | decide | omega) (pv 0) (pa_cons (pv 6) pa_nil)) (pe_bm PySem.F.plainAttrs_tuple PySem.F.slot_tuple_index PySem.F.type_tuple_index (mt_tup_index) (C8.pe_gc rfl T.c_SCOPES) (pa_cons (pv 3) pa_nil)) (nomark _)) (by (try dsimp only [Cx.blk, Cx.nox, cxOf]) <;> rfl))) pa_nil))))))), ?_⟩
  rintro ⟨d, ns, ts, n⟩ G vs D a ⟨p1, p2⟩ al hrt hnx
  obtain ⟨v, u, rfl, hv, hu⟩ := al2 al
  have hv : (rBook K C d ns ts).P G v := hv
  have hu : (rNd K n).P G u := hu
  have p1 : ∀ n ∈ ns, n.sc ∈ scopes4 := p1
  obtain ⟨p2, p3, p4⟩ : NdFit n := p2
  have hrt : ∀ b G' H', isNeed ns n = b → Gr [] G H G' H' → D.rt (.bl b) H' := fun b G' H' e g => hrt _ G' H' g (by rw [← e]; rfl)
  -- name, scope, others, ways = row
  refine q_unp (K := K) (ev_var rfl hu) a rfl fun vs G1 H1 e1 ps => ?_
  obtain ⟨v1, v2, v3, v4, rfl, q1, q2, q3, q4⟩ := al4 ps
  obtain rfl : v1 = .str n.nm := q1
  obtain rfl : v2 = .str n.sc := q2
  obtain rfl : v4 = .int n.ws := q4
  refine gc_cons (gc_cons (gc_cons (gc_cons (gc_nil ?_))))
  have hv1 : (rBook K C d ns ts).P G1 v := Rl.mono _ e1.gg hv
  have q3 : (rTup K (n.ot.map rStr)).P G1 v3 := q3
  have hin : ∀ {G' H' : Hp} {te : TE} {σ : L2.St} {x : Str}, Go md0 G1 H1 G' H' → Ev md0 te σ G' H' (rStr x) → σ[0]? = some (some v) → Ev md0 (tDIn te (tFld K (tVar 0) "needs")) σ G' H' (rBl (decide (x ∈ ns.map Nd.nm))) := fun {G' H' te σ x} g hk h0 => by
    have := ev_din hk ((ev_needs B (ev_var (G := G') h0 (Rl.mono _ g.gg hv1))).imp fun _ _ => rDctAt_d)
    rw [lk_some] at this
    exact this
  refine q_when (et_or (et_not (et_B (ev_call (E := E0) n.nm (ea_cons (ev_val rfl) ea_nil) fun _ _ _ => p2))) fun _ => et_or (et_B (hin e1.at.go (ev_val rfl) rfl)) fun _ => et_or (et_test (ev_in (neg := true) (ev_val rfl) (ev_topS scopes4 T.t_SCOPES).st)) fun _ => et_not (et_test (ev_chain ev_c (ev_val rfl) ev_c))) e1.at (fun hB G2 H2 e2 => ?_) fun hB G2 H2 e2 => ?_
  · refine s_ret (r := rBl false) ev_c e2.at fun x G3 H3 e3 p => ?_
    obtain rfl : x = .bl false := p
    refine hrt false G3 H3 ?_ (e1.trans (e2.trans e3)).gr
    exact if_pos hB.symm
  · have c1 : ¬ ((!isName n.nm || (decide (n.nm ∈ ns.map Nd.nm) || (!decide (n.sc ∈ scopes4) || !(decide ((1 : Int) ≤ n.ws) && decide (n.ws ≤ 4))))) = true) := fun z => by
      have hB : false = (!isName n.nm || (decide (n.nm ∈ ns.map Nd.nm) || (!decide (n.sc ∈ scopes4) || !(decide ((1 : Int) ≤ n.ws) && decide (n.ws ≤ 4))))) := hB
      rw [z] at hB
      cases hB
    have hsc : n.sc ∈ scopes4 := by
      simp only [Bool.or_eq_true, Bool.not_eq_true', decide_eq_false_iff_not, not_or, Bool.not_eq_false, Classical.not_not] at c1
      exact c1.2.2.1
    have q3' : (rTup K (n.ot.map rStr)).P G2 v3 := Rl.mono _ e2.gg q3
    refine q_when (et_or (et_not (et_B (ev_call (E := E0) n.ot (ea_cons (ev_var rfl q3') ea_nil) fun _ _ _ => ⟨p3, p4⟩))) fun _ => et_not (et_B (ev_all (f := fun o => decide (o ∈ ns.map Nd.nm)) (EvN.lst (en_map (src_tup (K := K) (ev_var rfl q3')) _ (fun _ => rfl) (fun x vx G' H' hx g p => hin (e2.trans g) (ev_var rfl p) rfl) (by omega)))))) e2.at (fun hB G3 H3 e3 => ?_) fun hB G3 H3 e3 => ?_
    · refine s_ret (r := rBl false) ev_c e3.at fun x G4 H4 e4 p => ?_
      obtain rfl : x = .bl false := p
      refine hrt false G4 H4 ?_ (e1.trans (e2.trans (e3.trans e4))).gr
      exact (if_neg c1).trans (if_pos hB.symm)
    · have c2 : ¬ ((!areUnlike n.ot || !(n.ot.all fun o => decide (o ∈ ns.map Nd.nm))) = true) := fun z => by
        have hB : false = (!areUnlike n.ot || !(n.ot.all fun o => decide (o ∈ ns.map Nd.nm))) := hB
        rw [z] at hB
        cases hB
      have hot : ∀ o ∈ n.ot, o ∈ ns.map Nd.nm := by
        simp only [Bool.or_eq_true, Bool.not_eq_true', not_or, Bool.not_eq_false, List.all_eq_true, decide_eq_true_iff] at c2
        exact c2.2
      have q3'' : (rTup K (n.ot.map rStr)).P G3 v3 := Rl.mono _ e3.gg q3'
      refine s_ret (ev_all (f := fun o => decide (((scIx ((findNd o 0 ns).elim "" fun p => p.2.sc) : Nat) : Int) ≤ (scIx n.sc : Nat))) (EvN.lst (en_map (src_tup (K := K) (ev_var rfl q3'')) _ (fun _ => rfl) (fun x vx G' H' hx g p => ?_) (by omega)))) e3.at fun x G4 H4 e4 p => ?_
      · exact ev_I0 (g := fun i j => .bl (decide (i ≤ j))) (ev_meth (E := E0) (d, ns, ts, x) (ev_var rfl (Rl.mono _ ((e2.trans e3).trans g).gg hv1)) (insOf (by rfl)) (ea_cons (ev_var rfl p) ea_nil) rfl fun _ _ _ => ⟨hot x hx, p1⟩) (ev_scIx (ev_val rfl) T hsc)
      · have p : x = .bl _ := p
        subst p
        refine hrt _ G4 H4 ?_ (e1.trans (e2.trans (e3.trans e4))).gr
        exact (if_neg c1).trans (if_neg c2)
end

end TH
namespace TH
open PySem PySem.Spec PyProof.Rows L2
/-! ### the tries of a book -/
def waysOf (ns : List Nd) (x : Str) : Int := (findNd x 0 ns).elim 1 fun p => p.2.ws
def manyOf (ns : List Nd) (names : List Str) : Int := (closureM ns names).foldl (fun m x => m * waysOf ns x) 1
def isTry (ns : List Nd) (ts : List Tr) (t : Tr) : Bool :=
  if !([t.nm, t.hs, t.gp].all isName) || decide (t.nm ∈ ts.map Tr.nm) then false
  else if !areUnlike t.nd || !(t.nd.all fun o => decide (o ∈ ns.map Nd.nm)) then false
  else if !areUnlike t.ms || !(decide ((1 : Int) ≤ t.tm) && decide (t.tm ≤ 4)) then false
  else decide (manyOf ns t.nd ≤ 64)
def TrFit (t : Tr) : Prop := (∀ x ∈ [t.nm, t.hs, t.gp], x.length ≤ 100000) ∧ (t.nd.length ≤ 100 ∧ ∀ o ∈ t.nd, o.length ≤ 100000) ∧ t.ms.length < 4000 ∧ ∀ o ∈ t.ms, o.length ≤ 100000
structure WsOk (ns : List Nd) : Prop where
  lo : ∀ n ∈ ns, (1 : Int) ≤ n.ws
  hi : ∀ n ∈ ns, n.ws ≤ 4
theorem mem_closureM {ns : List Nd} {names : List Str} {x : Str} (h : x ∈ closureM ns names) : x ∈ ns.map Nd.nm := (List.mem_filter.mp h).1
def sp_is_try (K : PySem.W.Frag) (C : Addr) : Sp := spP (ι := Addr × List Nd × List Tr × Tr) (fun i _ H => (BkOk i.2.1 ∧ WsOk i.2.1) ∧ Open i.1 H ∧ i.2.2.1.length ≤ 100 ∧ TrFit i.2.2.2) (fun i => [rBook K C i.1 i.2.1 i.2.2.1, rTr K i.2.2.2]) (fun i => rBl (isTry i.2.1 i.2.2.1 i.2.2.2))
section
variable {P : Program} {w : World} {K : PySem.W.Frag} {mg : Str → Option Value} {base : Heap} {f : Addr} {fd : FuncData} {C : Addr}
variable {M : Md} {σ : L2.St} {G H : Hp} {ta tb : TE}
/-- other in self.needs -/
theorem ev_inNeeds {ns : List Nd} {ts : List Tr} {d : Addr} {x : Str} (B : TopBook K mg C) (h : Ev M ta σ G H (rBook K C d ns ts)) (hk : Ev M tb σ G H (rStr x)) : Ev M (tDIn tb (tFld K ta "needs")) σ G H (rBl (decide (x ∈ ns.map Nd.nm))) := by
  have := ev_din hk ((ev_needs B h).imp fun _ _ => rDctAt_d)
  rw [lk_some] at this
  exact this
theorem Open.go {d : Addr} {G' H' : Hp} {W : List Addr} (h : Open d H) (g : Gr W G H G' H') (n : d ∉ W) : Open d H' := by
  obtain ⟨kvs, e⟩ := h
  exact ⟨kvs, g.hh d _ e n⟩
/-- names of the tries -/
theorem ev_names {α : Type} {xs : List α} {enc : α → Rl} {q : α → Str} {te : TE} (h : EvN M te σ G H (FL (xs.map fun x => rStr (q x)))) : Ev M te σ G H (rSeq K ((xs.map q).map rStr)) := by
  rw [List.map_map]
  exact (EvN.lst (K := K) h).imp fun _ _ => rSeq_l
theorem sc_Book_is_try : FnScope ["self", "row", "name", "house", "group", "others", "marks", "times", "is_expected", "many", "need", "word", "one", "other"] ["self", "row"] (defScope s_Book_is_try) := ⟨rfl, rfl, rfl, by decide +kernel, rfl, by decide +kernel, by decide +kernel⟩
theorem fn_is_try (F : FnP K "is_try" "Book.is_try" s_Book_is_try f fd) (T : Top K mg) (B : TopBook K mg C) (c_is_name : C8.Cal P w K mg base 1 "is_name" sp_is_name []) (c_are_unlike : C8.Cal P w K mg base 2 "are_unlike" (sp_are_unlike K) []) (c_closure : C8.Met P w K mg base 1 C "closure" (sp_closure K C) []) :
    FnOk P w K mg base CX0 3 f fd ["self", "row"] (sp_is_try K C) := by
  refine fn_pure F sc_Book_is_try (fun _ => rfl) fun cdv A outer s H E hr => ⟨_, (pss_cons (ps_asg (pv 1) (pg_tup rfl (pgs_cons (pg_name (i := 2) sc_Book_is_try.nd rfl (Or.inl rfl)) (pgs_cons (pg_name (i := 3) sc_Book_is_try.nd rfl (Or.inl rfl)) (pgs_cons (pg_name (i := 4) sc_Book_is_try.nd rfl (Or.inl rfl)) (pgs_cons (pg_name (i := 5) sc_Book_is_try.nd rfl (Or.inl rfl)) (pgs_cons (pg_name (i := 6) sc_Book_is_try.nd rfl (Or.inl rfl)) (pgs_cons (pg_name (i := 7) sc_Book_is_try.nd rfl (Or.inl rfl)) (pgs_cons (pg_name (i := 8) sc_Book_is_try.nd rfl (Or.inl rfl)) pgs_nil))))))))) (pss_cons (ps_if (PW.pt (pw_or (pt_not (pt_val (pe_callB (cr_all rfl) (by rfl) T.z_all (by decide +kernel) (pa_cons (pe_lc (own := [("word", 11)]) rfl sc_Book_is_try.nd (pi_tup (pe_tup (pa_cons (pv 2) (pa_cons (pv 3) (pa_cons (pv 4) pa_nil))))) (blkOk_by (own := [("word", 11)]) (N := ["self", "row", "name", "house", "group", "others", "marks", "times", "is_expected", "many", "need", "word", "one", "other"]) (sc := defScope s_Book_is_try) (by decide +kernel)) (fun _ _ _ _ _ => (pg_name (i := 11) sc_Book_is_try.nd rfl (Or.inl rfl))) (fun _ _ _ _ _ => pts_nil) (fun _ _ _ _ _ => peT (C8.pe_c c_is_name hr (by first | decide | omega) rfl (pa_cons (pv 11) pa_nil)) (by (try dsimp only [Cx.blk, Cx.nox, cxOf]) <;> rfl))) pa_nil)))) (pw_or1 (pt_cmpR (op_inK (K := K) rfl) (pv 2) (pe_lc (own := [("one", 12)]) rfl sc_Book_is_try.nd (pi_list (pe_fldK (K := K) rfl (pv 0) rfl)) (blkOk_by (own := [("one", 12)]) (N := ["self", "row", "name", "house", "group", "others", "marks", "times", "is_expected", "many", "need", "word", "one", "other"]) (sc := defScope s_Book_is_try) (by decide +kernel)) (fun _ _ _ _ _ => (pg_name (i := 12) sc_Book_is_try.nd rfl (Or.inl rfl))) (fun _ _ _ _ _ => pts_nil) (fun _ _ _ _ _ => peT (pe_ix ix_tup (pv 12) pe_int (fun _ _ => rfl)) (by (try dsimp only [Cx.blk, Cx.nox, cxOf]) <;> rfl))) rfl)))) (pss_one (ps_ret pe_bl)) pss_nil) (pss_cons (ps_if (PW.pt (pw_or (pt_not (pt_val (C8.pe_c c_are_unlike hr (by first | decide | omega) rfl (pa_cons (pv 5) pa_nil)))) (pw_or1 (pt_not (pt_val (pe_callB (cr_all rfl) (by rfl) T.z_all (by decide +kernel) (pa_cons (pe_lc (own := [("other", 13)]) rfl sc_Book_is_try.nd (pi_tup (pv 5)) (blkOk_by (own := [("other", 13)]) (N := ["self", "row", "name", "house", "group", "others", "marks", "times", "is_expected", "many", "need", "word", "one", "other"]) (sc := defScope s_Book_is_try) (by decide +kernel)) (fun _ _ _ _ _ => (pg_name (i := 13) sc_Book_is_try.nd rfl (Or.inl rfl))) (fun _ _ _ _ _ => pts_nil) (fun _ _ _ _ _ => peT (pe_cmp (pc_din (hu_of hr) (pv 13) (pe_fldK (K := K) rfl (pv 0) rfl))) (by (try dsimp only [Cx.blk, Cx.nox, cxOf]) <;> rfl))) pa_nil))))))) (pss_one (ps_ret pe_bl)) pss_nil) (pss_cons (ps_if (PW.pt (pw_or (pt_not (pt_val (C8.pe_c c_are_unlike hr (by first | decide | omega) rfl (pa_cons (pv 6) pa_nil)))) (pw_or1 (pt_not (pt_chain op_le op_le pe_int (pv 7) (C8.pe_gc rfl T.c_MOST_TIMES)))))) (pss_one (ps_ret pe_bl)) pss_nil) (pss_cons (ps_set (i := 9) sc_Book_is_try.nd rfl (Or.inl rfl) pe_int) (pss_cons (ps_for PassesOwn.never rfl (pi_list (C8.pe_mt c_closure hr (by first | decide | omega) (pv 0) (pa_cons (pv 5) pa_nil))) (pg_name (i := 10) sc_Book_is_try.nd rfl (Or.inl rfl)) (pss_one (ps_aug (i := 9) sc_Book_is_try.nd rfl (Or.inl rfl) (pe_ix ix_tup (pe_dget (hu_of hr) (pe_fldK (K := K) rfl (pv 0) rfl) (pv 10) (fun _ _ => rfl)) pe_int (fun _ _ => rfl)) iop_mul))) (pss_one (ps_ret (pe_cmpR op_le (pv 9) (C8.pe_gc rfl T.c_MOST_CASES) (nomark _)))))))))), ?_⟩
  rintro ⟨d, ns, ts, n⟩ G vs D a ⟨⟨ok, wk⟩, hop, p1, p2⟩ al hrt hnx
  obtain ⟨v, u, rfl, hv, hu⟩ := al2 al
  have hv : (rBook K C d ns ts).P G v := hv
  have hu : (rTr K n).P G u := hu
  have ok : BkOk ns := ok
  have wk : WsOk ns := wk
  have hop : Open d H := hop
  have p1 : ts.length ≤ 100 := p1
  obtain ⟨p2, ⟨p3, p4⟩, p5, p6⟩ : TrFit n := p2
  have hrt : ∀ b G' H', isTry ns ts n = b → Gr [] G H G' H' → D.rt (.bl b) H' := fun b G' H' e g => hrt _ G' H' g (by rw [← e]; rfl)
  -- name, house, group, others, marks, times, is_expected = row
  refine q_unp (K := K) (ev_var rfl hu) a rfl fun vs G1 H1 e1 ps => ?_
  obtain ⟨v1, v2, v3, v4, v5, v6, v7, rfl, q1, q2, q3, q4, q5, q6, q7⟩ := al7 ps
  obtain rfl : v1 = .str n.nm := q1
  obtain rfl : v2 = .str n.hs := q2
  obtain rfl : v3 = .str n.gp := q3
  obtain rfl : v6 = .int n.tm := q6
  refine gc_cons (gc_cons (gc_cons (gc_cons (gc_cons (gc_cons (gc_cons (gc_nil ?_)))))))
  have hv1 : (rBook K C d ns ts).P G1 v := Rl.mono _ e1.gg hv
  have q4 : (rTup K (n.nd.map rStr)).P G1 v4 := q4
  have q5 : (rTup K (n.ms.map rStr)).P G1 v5 := q5
  refine q_when (et_or (et_not (et_B (ev_all (f := isName) (EvN.lst (en_map (xs := [n.nm, n.hs, n.gp]) (enc := rStr) (src_tup (K := K) (ev_tup (ea_cons (ev_val rfl) (ea_cons (ev_val rfl) (ea_cons (ev_val rfl) ea_nil))) (show 3 ≤ 100000 by decide))) _ (fun _ => rfl)
    (fun x vx G' H' hx g p => ev_call (E := E0) x (ea_cons (ev_var rfl p) ea_nil) fun _ _ _ => p2 x hx) (show 3 ≤ 100000 by decide)))))) fun _ => et_test (ev_in (ev_val rfl) (ev_names (enc := rTr K) (q := Tr.nm) (en_map (src_lst (ev_tries B (ev_var rfl hv1))) _ (fun _ => rfl) (fun x vx G' H' hx g p => ev_ixT (ev_var rfl p) ev_c rfl) (by omega))))) e1.at (fun hB G2 H2 e2 => ?_) fun hB G2 H2 e2 => ?_
  · refine s_ret (r := rBl false) ev_c e2.at fun x G3 H3 e3 p => ?_
    obtain rfl : x = .bl false := p
    exact hrt false G3 H3 (if_pos hB.symm) (e1.trans (e2.trans e3)).gr
  · have c1 : ¬ ((!([n.nm, n.hs, n.gp].all isName) || decide (n.nm ∈ ts.map Tr.nm)) = true) := fun z => by
      have hB : false = (!([n.nm, n.hs, n.gp].all isName) || decide (n.nm ∈ ts.map Tr.nm)) := hB
      rw [z] at hB
      cases hB
    have q4' : (rTup K (n.nd.map rStr)).P G2 v4 := Rl.mono _ e2.gg q4
    have q5' : (rTup K (n.ms.map rStr)).P G2 v5 := Rl.mono _ e2.gg q5
    refine q_when (et_or (et_not (et_B (ev_call (E := E0) n.nd (ea_cons (ev_var rfl q4') ea_nil) fun _ _ _ => ⟨show n.nd.length < 4000 by omega, p4⟩))) fun _ => et_not (et_B (ev_all (f := fun o => decide (o ∈ ns.map Nd.nm)) (EvN.lst (en_map (src_tup (K := K) (ev_var rfl q4')) _ (fun _ => rfl) (fun x vx G' H' hx g p => ev_inNeeds B (ev_var rfl (Rl.mono _ (e2.trans g).gg hv1)) (ev_var rfl p)) (by omega)))))) e2.at (fun hB G3 H3 e3 => ?_) fun hB G3 H3 e3 => ?_
    · refine s_ret (r := rBl false) ev_c e3.at fun x G4 H4 e4 p => ?_
      obtain rfl : x = .bl false := p
      exact hrt false G4 H4 ((if_neg c1).trans (if_pos hB.symm)) (e1.trans (e2.trans (e3.trans e4))).gr
    · have c2 : ¬ ((!areUnlike n.nd || !(n.nd.all fun o => decide (o ∈ ns.map Nd.nm))) = true) := fun z => by
        have hB : false = (!areUnlike n.nd || !(n.nd.all fun o => decide (o ∈ ns.map Nd.nm))) := hB
        rw [z] at hB
        cases hB
      have hnd : ∀ o ∈ n.nd, o ∈ ns.map Nd.nm := by
        simp only [Bool.or_eq_true, Bool.not_eq_true', not_or, Bool.not_eq_false, List.all_eq_true, decide_eq_true_iff] at c2
        exact c2.2
      have q5'' : (rTup K (n.ms.map rStr)).P G3 v5 := Rl.mono _ e3.gg q5'
      refine q_when (et_or (et_not (et_B (ev_call (E := E0) n.ms (ea_cons (ev_var rfl q5'') ea_nil) fun _ _ _ => ⟨p5, p6⟩))) fun _ => et_not (et_test (ev_chain ev_c (ev_val rfl) ev_c))) e3.at (fun hB G4 H4 e4 => ?_) fun hB G4 H4 e4 => ?_
      · refine s_ret (r := rBl false) ev_c e4.at fun x G5 H5 e5 p => ?_
        obtain rfl : x = .bl false := p
        exact hrt false G5 H5 ((if_neg c1).trans ((if_neg c2).trans (if_pos hB.symm))) (e1.trans (e2.trans (e3.trans (e4.trans e5)))).gr
      · have c3 : ¬ ((!areUnlike n.ms || !(decide ((1 : Int) ≤ n.tm) && decide (n.tm ≤ 4))) = true) := fun z => by
          have hB : false = (!areUnlike n.ms || !(decide ((1 : Int) ≤ n.tm) && decide (n.tm ≤ 4))) := hB
          rw [z] at hB
          cases hB
        -- many = 1
        refine q_asgV (v := .int 1) ev_c e4.at fun G5 H5 e5 => ?_
        have g5 : Go md0 G1 H1 G5 H5 := e2.trans (e3.trans (e4.trans e5))
        have q4'' : (rTup K (n.nd.map rStr)).P G5 v4 := Rl.mono _ g5.gg q4
        -- for need in self.closure(others)
        refine q_for (W := []) (src_lst (ev_meth (E := E0) (d, ns, ts, n.nd) (ev_var rfl (Rl.mono _ g5.gg hv1)) (insOf (by rfl)) (ea_cons (ev_var rfl q4'') ea_nil) rfl fun G' H' g => ⟨ok, hop.go (e1.trans (g5.trans g)).gr (by simp [md0]), p3, hnd⟩)) e5.at (by simp [md0])
          (fun i σ' _ _ => ∃ x, σ' = [some v, some u, some (.str n.nm), some (.str n.hs), some (.str n.gp), some v4, some v5, some (.int n.tm), some v7, some (.int (((closureM ns n.nd).take i).foldl (fun m x => m * waysOf ns x) 1)), x, none, none, none])
          (fun _ _ _ => ⟨none, rfl⟩) (fun i r vx σ' G6 H6 hi hp g6 j6 hI N hN => ?_) (fun _ _ _ _ _ _ _ _ _ h => h) fun σ' G6 H6 g6 j6 hI => ?_
        · obtain ⟨x0, rfl⟩ := hI
          rw [List.getElem?_map, Option.map_eq_some_iff] at hi
          obtain ⟨x, hi, rfl⟩ := hi
          have hxm : x ∈ closureM ns n.nd := List.mem_of_getElem? hi
          obtain ⟨j, m, t1, t2, t3⟩ := findNd_some (i := 0) (mem_closureM hxm)
          have b1 := wk.lo m t2
          have b2 := wk.hi m t2
          have hvB : (rBook K C d ns ts).P G6 v := Rl.mono _ (g5.gg.trans g6.gg) hv1
          have px : vx = .str x := hp
          subst px
          refine s_aug (i := 9) (x := .int _) (y := .int m.ws) (z := .int _) rfl (ev_ixT (ev_need B (ev_var rfl hvB) (ev_val rfl) t1) ev_c rfl) ⟨g6.gh, j6⟩ (fun H Q q => ⟨_, _, rfl, rfl, .inr ⟨by omega, by omega⟩, q⟩) fun G7 H7 g7 => hN _ G7 H7 g7.gr trivial ⟨some (.str x), ?_⟩
          have e : ((closureM ns n.nd).take (i + 1)).foldl (fun m x => m * waysOf ns x) 1 = ((closureM ns n.nd).take i).foldl (fun m x => m * waysOf ns x) 1 * m.ws := by
            rw [List.take_add_one, hi]
            show ((closureM ns n.nd).take i ++ [x]).foldl _ 1 = _
            rw [List.foldl_append]
            show _ * waysOf ns x = _
            unfold waysOf
            rw [t1]
            rfl
          rw [e]
          rfl
        · obtain ⟨x0, rfl⟩ := hI
          rw [List.length_map, List.take_length]
          refine s_ret (ev_I0 (g := fun i j => .bl (decide (i ≤ j))) (ev_val rfl) ev_c) ⟨g6.gh, j6⟩ fun x G7 H7 e7 p => ?_
          obtain rfl : x = .bl _ := p
          exact hrt _ G7 H7 ((if_neg c1).trans ((if_neg c2).trans (if_neg c3))) ((e1.trans g5).gr.trans (g6.trans e7.gr))
end

end TH
namespace TH
open PySem PySem.Spec PyProof.Rows L2
/-! ### a valid book -/
structure BookOk (ns : List Nd) (ts : List Tr) : Prop where
  n1 : ∀ i n, ns[i]? = some n → isNeed (ns.take i) n = true
  n2 : ∀ n ∈ ns, NdFit n
  n3 : ns.length ≤ 12
  t1 : ∀ i t, ts[i]? = some t → isTry ns (ts.take i) t = true
  t2 : ∀ t ∈ ts, TrFit t
  t3 : ts.length ≤ 30
/-- what a need that is one is like -/
structure NdLike (seen : List Nd) (n : Nd) : Prop where
  nm : isName n.nm = true
  nw : n.nm ∉ seen.map Nd.nm
  sc : n.sc ∈ scopes4
  lo : (1 : Int) ≤ n.ws
  hi : n.ws ≤ 4
  un : areUnlike n.ot = true
  ot : ∀ o ∈ n.ot, o ∈ seen.map Nd.nm
  le : ∀ o ∈ n.ot, scIx ((findNd o 0 seen).elim "" fun p => p.2.sc) ≤ scIx n.sc
theorem isNeed_like {seen : List Nd} {n : Nd} : isNeed seen n = true ↔ NdLike seen n := by
  unfold isNeed
  constructor
  · intro h
    split at h
    · cases h
    · rename_i c1
      split at h
      · cases h
      · rename_i c2
        simp only [Bool.or_eq_true, Bool.not_eq_true', Bool.and_eq_true, decide_eq_true_iff, decide_eq_false_iff_not, not_or, Bool.not_eq_false, Classical.not_not, Bool.and_eq_false_iff, not_and, List.all_eq_true] at c1 c2 h
        obtain ⟨a1, a2, a3, a4, a5⟩ := c1
        exact ⟨a1, a2, a3, a4, a5, c2.1, c2.2, fun o ho => by have := h o ho; omega⟩
  · rintro ⟨a1, a2, a3, a4, a5, a6, a7, a8⟩
    rw [if_neg (by simp [a1, a2, a3, a4, a5]), if_neg (by simpa [a6] using a7), List.all_eq_true]
    intro o ho
    have := a8 o ho
    simpa using this
theorem BookOk.like {ns : List Nd} {ts : List Tr} (b : BookOk ns ts) {i : Nat} {n : Nd} (h : ns[i]? = some n) : NdLike (ns.take i) n := isNeed_like.mp (b.n1 i n h)
theorem areUnlike_nodup {xs : List Str} (h : areUnlike xs = true) : xs.Nodup := by
  unfold areUnlike at h
  rw [Bool.and_eq_true, decide_eq_true_iff] at h
  exact h.2
theorem areUnlike_names {xs : List Str} (h : areUnlike xs = true) : ∀ x ∈ xs, isName x = true := by
  unfold areUnlike at h
  rw [Bool.and_eq_true, List.all_eq_true] at h
  exact h.1
theorem ordN_of {ns : List Nd} (h : ∀ i n, ns[i]? = some n → NdLike (ns.take i) n) : ∀ m k, k + m = ns.length → OrdN ((ns.take k).map Nd.nm) (ns.drop k)
  | 0, k, e => by rw [List.drop_of_length_le (by omega)]; trivial
  | m + 1, k, e => by
    have hk : k < ns.length := by omega
    rw [List.drop_eq_getElem_cons hk]
    have q := h k ns[k] (by simp [hk])
    refine ⟨q.nw, q.ot, ?_⟩
    have ih := ordN_of h m (k + 1) (by omega)
    rw [List.take_add_one, List.map_append] at ih
    simpa [hk] using ih
theorem letters_ok {x : Str} (h : isName x = true) : PyData.strOk x = true := by
  unfold isName at h
  simp only [Bool.and_eq_true] at h
  have h2 := h.2.1
  rw [List.all_eq_true] at h2
  have k : ∀ c ∈ letters.cps.toList, c < 0x110000 := by decide +kernel
  show x.cps.all (· < 0x110000) = true
  rw [← Array.all_toList, List.all_eq_true]
  intro c hc
  exact decide_eq_true (k c (of_decide_eq_true (h2 c hc)))
theorem name_len {x : Str} (h : isName x = true) : x.length ≤ 8 := by
  unfold isName at h
  simp only [Bool.and_eq_true, decide_eq_true_iff] at h
  omega
theorem take_in {α : Type} {l : List α} {i : Nat} {x : α} (h : x ∈ l.take i) : x ∈ l := List.mem_of_mem_take h
theorem BookOk.bk {ns : List Nd} {ts : List Tr} (b : BookOk ns ts) : BkOk ns := by
  have hl : ∀ n ∈ ns, ∃ i, NdLike (ns.take i) n := fun n hn => by
    obtain ⟨i, hi⟩ := List.getElem?_of_mem hn
    exact ⟨i, b.like hi⟩
  refine ⟨?_, by have := b.n3; omega, fun n hn => ?_, fun n hn => ?_, fun n hn => ?_⟩
  · have := ordN_of (fun i n h => b.like h) ns.length 0 (by omega)
    exact this
  · obtain ⟨i, q⟩ := hl n hn
    have h1 := sub_len (areUnlike_nodup q.un) q.ot
    rw [List.length_map, List.length_take] at h1
    have := b.n3
    omega
  · obtain ⟨i, q⟩ := hl n hn
    exact letters_ok q.nm
  · obtain ⟨i, q⟩ := hl n hn
    exact q.sc
theorem BookOk.ws {ns : List Nd} {ts : List Tr} (b : BookOk ns ts) : WsOk ns := by
  have hl : ∀ n ∈ ns, ∃ i, NdLike (ns.take i) n := fun n hn => by
    obtain ⟨i, hi⟩ := List.getElem?_of_mem hn
    exact ⟨i, b.like hi⟩
  exact ⟨fun n hn => let ⟨i, q⟩ := hl n hn; q.lo, fun n hn => let ⟨i, q⟩ := hl n hn; q.hi⟩
def rRows (K : PySem.W.Frag) (ns : List Nd) (ts : List Tr) : Rl := rTup K [rTup K (ns.map (rNd K)), rTup K (ts.map (rTr K))]
theorem needsR_app (K : PySem.W.Frag) : ∀ (i : Nat) (ns : List Nd) (n : Nd), needsR K i (ns ++ [n]) = needsR K i ns ++ [(Sum.inr n.nm, rNeed K (i + ns.length) n)]
  | i, [], n => rfl
  | i, m :: t, n => by
    show (Sum.inr m.nm, rNeed K i m) :: needsR K (i + 1) (t ++ [n]) = _
    rw [needsR_app K (i + 1) t n, List.length_cons, show i + 1 + t.length = i + (t.length + 1) by omega]
    rfl
theorem needsR_len (K : PySem.W.Frag) : ∀ (i : Nat) (ns : List Nd), (needsR K i ns).length = ns.length
  | i, [] => rfl
  | i, m :: t => by
    show (needsR K (i + 1) t).length + 1 = t.length + 1
    rw [needsR_len]
theorem DAl.app {G : Hp} : ∀ {ks : List (Key × Rl)} {vs : List (Key × V)} {k : Key} {r : Rl} {v : V}, DAl G ks vs → r.P G v → DAl G (ks ++ [(k, r)]) (vs ++ [(k, v)])
  | _, _, _, _, _, .nil, h => .cons ⟨rfl, h⟩ .nil
  | _, _, _, _, _, .cons a t, h => .cons a (DAl.app t h)
theorem DAl.len {G : Hp} {ks : List (Key × Rl)} {vs : List (Key × V)} (h : DAl G ks vs) : vs.length = ks.length := by
  induction h with
  | nil => rfl
  | cons _ _ ih => rw [List.length_cons, List.length_cons, ih]
theorem Al.app {G : Hp} : ∀ {rs : List Rl} {vs : List V} {r : Rl} {v : V}, Al G rs vs → r.P G v → Al G (rs ++ [r]) (vs ++ [v])
  | _, _, _, _, .nil, h => .cons h .nil
  | _, _, _, _, .cons a t, h => .cons a (Al.app t h)
/-- the book in the making, frozen as it stands -/
theorem book_frz {K : PySem.W.Frag} {C p dx d l : Addr} {G H : Hp} {ns : List Nd} {ts : List Tr} {kvs : List (Key × V)} {xs : List V} (le : Le G H) (hp : H p = some (.ins C dx [("needs", .ref d), ("tries", .ref l)])) (hd : H d = some (.dK kvs)) (hl : H l = some (.lst xs))
    (h1 : DAl G (needsR K 0 ns) kvs) (h2 : Al G (ts.map (rTr K)) xs) : (rBook K C d ns ts).P (frzH [p, d, l] G H) (.ref p) := by
  have up := le_frzH (ps := [p, d, l]) le
  refine ⟨p, dx, _, rfl, by rw [frzH_in (by simp)]; exact hp, .cons ⟨rfl, rfl, d, kvs, rfl, .inl (by rw [frzH_in (by simp)]; exact hd), h1.mono up⟩ (.cons ⟨rfl, l, xs, rfl, .of (by rw [frzH_in (by simp)]; exact hl), h2.mono up⟩ .nil)⟩
/-! ### e.f = a thing -/
section
variable {K : PySem.W.Frag} {M : Md} {σ : L2.St} {G H : Hp} {ta te : TE} {D : Ends} {tz : TS} {φ : Hp → HO → Prop} {C dx p : Addr} {fs : List (Str × V)} {f : Str}
theorem q_fldN (h : EvN M te σ G H φ) (ha : Ev M ta σ G H (rRef p)) (a : At M G H) (hp : H p = some (.ins C dx fs)) (hg : G p = none) (hW : p ∉ M.W) (c : Cls K C) (n : NoAttr K C f) (hz : fs.length < 1000) (mono : ∀ G1 G2 o, Le G1 G2 → φ G1 o → φ G2 o)
    (k : ∀ d o G' H', Go M G H G' H' → H d = none → G' d = none → H' d = some o → φ G' o → H' p = some (.ins C dx fs) → G' p = none → tz D σ (upd H' p (.ins C dx (putF f (.ref d) fs)))) : tSeq (sFld K ta te f) tz D σ H :=
  h G H a.go _ fun d o G1 H1 e1 n1 n2 n3 fo => by
    refine ha G1 H1 e1 _ fun x G2 H2 e2 px => ?_
    have px : x = .ref p := px
    subst px
    obtain ⟨m1, m2⟩ := (e1.trans e2).gr.loc hp hg hW
    have hdW : d ∉ M.W := fun z => M.dom a.j d z n1
    obtain ⟨m3, m4⟩ := e2.gr.loc n3 n2 hdW
    exact ⟨p, C, dx, fs, rfl, m1, c, n, hz, k d o G2 H2 (e1.trans e2) n1 m4 m3 (mono _ _ _ e2.gg fo) m1 m2⟩
end
/-! ### what a try of a book is like -/
structure TrLike (ns : List Nd) (seen : List Tr) (t : Tr) : Prop where
  nm : ∀ x ∈ [t.nm, t.hs, t.gp], isName x = true
  nw : t.nm ∉ seen.map Tr.nm
  un : areUnlike t.nd = true
  nd : ∀ o ∈ t.nd, o ∈ ns.map Nd.nm
  ms : areUnlike t.ms = true
  lo : (1 : Int) ≤ t.tm
  hi : t.tm ≤ 4
  mn : manyOf ns t.nd ≤ 64
theorem isTry_like {ns : List Nd} {seen : List Tr} {t : Tr} : isTry ns seen t = true ↔ TrLike ns seen t := by
  unfold isTry
  constructor
  · intro h
    split at h
    · cases h
    · rename_i c1
      split at h
      · cases h
      · rename_i c2
        split at h
        · cases h
        · rename_i c3
          simp only [Bool.or_eq_true, Bool.not_eq_true', Bool.and_eq_true, decide_eq_true_iff, decide_eq_false_iff_not, not_or, Bool.not_eq_false, Classical.not_not, Bool.and_eq_false_iff, not_and, List.all_eq_true] at c1 c2 c3 h
          exact ⟨c1.1, c1.2, c2.1, c2.2, c3.1, c3.2.1, c3.2.2, h⟩
  · rintro ⟨a1, a2, a3, a4, a5, a6, a7, a8⟩
    rw [if_neg (by simpa [a2] using a1), if_neg (by simpa [a3] using a4), if_neg (by simp [a5, a6, a7])]
    exact decide_eq_true a8
theorem BookOk.likeT {ns : List Nd} {ts : List Tr} (b : BookOk ns ts) {i : Nat} {t : Tr} (h : ts[i]? = some t) : TrLike ns (ts.take i) t := isTry_like.mp (b.t1 i t h)
theorem BookOk.likeM {ns : List Nd} {ts : List Tr} (b : BookOk ns ts) {t : Tr} (h : t ∈ ts) : ∃ seen, TrLike ns seen t := by
  obtain ⟨i, hi⟩ := List.getElem?_of_mem h
  exact ⟨_, b.likeT hi⟩
theorem TrLike.few {ns : List Nd} {seen : List Tr} {t : Tr} (q : TrLike ns seen t) : t.nd.length ≤ ns.length := by
  have := sub_len (areUnlike_nodup q.un) q.nd
  rwa [List.length_map] at this

end TH
namespace TH
open PySem PySem.Spec PyProof.Rows L2
/-! ### Book.__init__ -/
def sp_init (K : PySem.W.Frag) (C : Addr) : Sp := fun vs H Q _ => ∃ (ns : List Nd) (ts : List Tr) (G H0 : Hp) (p dx : Addr) (v : V), vs = [.ref p, v] ∧ H = upd (upd H0 dx (.own p)) p (.ins C dx []) ∧ H0 p = none ∧ H0 dx = none ∧ dx ≠ p ∧ Le G H0 ∧ BookOk ns ts ∧ (rRows K ns ts).P G v ∧
  ∀ d G' H', Gr [] G H0 G' H' → (rBook K C d ns ts).P G' (.ref p) → Open d H' → Q .non H'
section
variable {P : Program} {w : World} {K : PySem.W.Frag} {mg : Str → Option Value} {base : Heap} {f : Addr} {fd : FuncData} {C : Addr}
theorem sc_Book___init__ : FnScope ["self", "rows", "needs", "tries", "number", "row", "name", "scope", "others", "ways"] ["self", "rows"] (defScope s_Book___init__) := ⟨rfl, rfl, rfl, by decide +kernel, rfl, by decide +kernel, by decide +kernel⟩
theorem fn_init (F : FnP K "__init__" "Book.__init__" s_Book___init__ f fd) (T : Top K mg) (B : TopBook K mg C) (c_is_need : C8.Met P w K mg base 3 C "is_need" (sp_is_need K C) []) (c_is_try : C8.Met P w K mg base 3 C "is_try" (sp_is_try K C) []) : FnOk P w K mg base CX0 4 f fd ["self", "rows"] (sp_init K C) := by
  refine F.ok sc_Book___init__ (fun vs H Q E h => ?_) fun cdv A outer s H vs Q E hr h => ?_
  · obtain ⟨ns, ts, G, H0, p, dx, v, e, _⟩ := h
    rw [e]
    rfl
  suffices hs : ∃ t, PSs (cxOf CX0 P w K mg base ["self", "rows", "needs", "tries", "number", "row", "name", "scope", "others", "ways"] "Book.__init__" (defScope s_Book___init__) f cdv A outer s H E).nox (defBody s_Book___init__) t ∧ t { nx := fun _ H' => Q .non H', rt := Q } (L2.start ["self", "rows", "needs", "tries", "number", "row", "name", "scope", "others", "ways"] vs) H by
    obtain ⟨t, h1, h2⟩ := hs
    exact ⟨t, h1.nox, h2⟩
  refine ⟨_, (pss_cons (ps_fld (pv 0) pe_dnewK rfl) (pss_cons (ps_fld (pv 0) (pe_lst pa_nil) rfl) (pss_cons (ps_asg (pv 1) (pg_tup rfl (pgs_cons (pg_name (i := 2) sc_Book___init__.nd rfl (Or.inl rfl)) (pgs_cons (pg_name (i := 3) sc_Book___init__.nd rfl (Or.inl rfl)) pgs_nil)))) (pss_cons (ps_for PassesOwn.never rfl (pi_enumT rfl T.z_enumerate (pa_cons (pv 2) pa_nil)) (pg_tup rfl (pgs_cons (pg_name (i := 4) sc_Book___init__.nd rfl (Or.inl rfl)) (pgs_cons (pg_name (i := 5) sc_Book___init__.nd rfl (Or.inl rfl)) pgs_nil))) (pss_cons (ps_if (PW.pt (pw_or (pt_cmpR op_eq (pv 4) (C8.pe_gc rfl T.c_MOST_NEEDS) (nomark _)) (pw_or1 (pt_not (pt_val (C8.pe_mt c_is_need hr (by first | decide | omega) (pv 0) (pa_cons (pv 5) pa_nil))))))) (pss_one ps_never) pss_nil) (pss_cons (ps_asg (pv 5) (pg_tup rfl (pgs_cons (pg_name (i := 6) sc_Book___init__.nd rfl (Or.inl rfl)) (pgs_cons (pg_name (i := 7) sc_Book___init__.nd rfl (Or.inl rfl)) (pgs_cons (pg_name (i := 8) sc_Book___init__.nd rfl (Or.inl rfl)) (pgs_cons (pg_name (i := 9) sc_Book___init__.nd rfl (Or.inl rfl)) pgs_nil)))))) (pss_one (ps_dput (hu_of hr) (pe_fldK (K := K) rfl (pv 0) rfl) (pv 6) (pe_tup (pa_cons (pv 4) (pa_cons (pv 7) (pa_cons (pe_callTy (call_tuple_of) (by rfl) T.z_tuple (by decide +kernel) (pa_cons (pv 8) pa_nil)) (pa_cons (pv 9) pa_nil))))) rfl))))) (pss_one (ps_for PassesOwn.never rfl (pi_enumT rfl T.z_enumerate (pa_cons (pv 3) pa_nil)) (pg_tup rfl (pgs_cons (pg_name (i := 4) sc_Book___init__.nd rfl (Or.inl rfl)) (pgs_cons (pg_name (i := 5) sc_Book___init__.nd rfl (Or.inl rfl)) pgs_nil))) (pss_cons (ps_if (PW.pt (pw_or (pt_cmpR op_eq (pv 4) (C8.pe_gc rfl T.c_MOST_TRIES) (nomark _)) (pw_or1 (pt_not (pt_val (C8.pe_mt c_is_try hr (by first | decide | omega) (pv 0) (pa_cons (pv 5) pa_nil))))))) (pss_one ps_never) pss_nil) (pss_one (ps_expr (pe_bm PySem.F.plainAttrs_list PySem.F.slot_list_append PySem.F.type_list_append (mt_append) (pe_fldK (K := K) rfl (pv 0) rfl) (pa_cons (pe_callTy (call_tuple_of) (by rfl) T.z_tuple (by decide +kernel) (pa_cons (pv 5) pa_nil)) pa_nil))))))))))), ?_⟩
  obtain ⟨ns, ts, G, H0, p, dx, v, rfl, rfl, hp0, hdx0, hne, le, bk, hv, hQ⟩ := h
  have hp1 : (upd H0 dx (.own p)) p = none := by rw [upd_ne (Ne.symm hne)]; exact hp0
  have g0 : Gr [] G H0 G (upd (upd H0 dx (.own p)) p (.ins C dx [])) := (Gr.own le hdx0).trans (Gr.own (Gr.own (W := []) le hdx0).gh hp1)
  have a0 : At md0 G (upd (upd H0 dx (.own p)) p (.ins C dx [])) := ⟨g0.gh, trivial⟩
  have hG : G p = none := le.free hp0
  have hp : (upd (upd H0 dx (.own p)) p (.ins C dx [])) p = some (.ins C dx []) := upd_same
  generalize (upd (upd H0 dx (.own p)) p (.ins C dx [])) = H at *
  -- self.needs = {}; self.tries = []
  refine q_fldN en_dict (ev_val rfl) a0 hp hG (by simp [md0]) B.cl B.n_needs (by simp) (fun _ _ _ _ h => h) fun d o G1 H1 e1 n1 n2 n3 fo n4 n5 => ?_
  subst fo
  have pd : p ≠ d := fun z => by subst z; rw [hp] at n1; cases n1
  have q1 : Gr [p] G H G1 (upd H1 p (.ins C dx [("needs", .ref d)])) := e1.gr.nil.putW (by simp) n5
  have a1 : At md0 G1 (upd H1 p (.ins C dx [("needs", .ref d)])) := ⟨q1.gh, trivial⟩
  have hd1 : (upd H1 p (.ins C dx [("needs", .ref d)])) d = some (.dK []) := by rw [upd_ne (Ne.symm pd)]; exact n3
  refine q_fldN (en_lst ea_nil) (ev_val rfl) a1 upd_same n5 (by simp [md0]) B.cl B.n_tries (show 1 < 1000 by decide) (fun _ _ _ e ⟨vs, h1, h2⟩ => ⟨vs, h1, h2.mono e⟩) fun l o G2 H2 e2 m1 m2 m3 fo m4 m5 => ?_
  obtain ⟨_, rfl, fo⟩ := fo
  cases fo
  have pl : p ≠ l := fun z => by subst z; rw [upd_same] at m1; cases m1
  have dl : d ≠ l := fun z => by
    subst z
    have e : (upd H1 p (.ins C dx [("needs", .ref d)])) d = none := m1
    rw [hd1] at e
    cases e
  obtain ⟨m6, m7⟩ := e2.gr.loc hd1 n2 (by simp [md0])
  have q2 : Gr [p] G H G2 (upd H2 p (.ins C dx [("needs", .ref d), ("tries", .ref l)])) := (q1.trans e2.gr.nil).putW (by simp) m5
  have k1 : (upd H2 p (.ins C dx [("needs", .ref d), ("tries", .ref l)])) p = some (.ins C dx [("needs", .ref d), ("tries", .ref l)]) := upd_same
  have k2 : (upd H2 p (.ins C dx [("needs", .ref d), ("tries", .ref l)])) d = some (.dK []) := by rw [upd_ne (Ne.symm pd)]; exact m6
  have k3 : (upd H2 p (.ins C dx [("needs", .ref d), ("tries", .ref l)])) l = some (.lst []) := by rw [upd_ne (Ne.symm pl)]; exact m3
  show tSeq _ _ _ _ (upd H2 p (.ins C dx [("needs", .ref d), ("tries", .ref l)]))
  have hd0 : H d = none := n1
  have hl0 : H l = none := by
    have : H1 l = none := by rw [upd_ne (Ne.symm pl)] at m1; exact m1
    exact e1.back this
  generalize (upd H2 p (.ins C dx [("needs", .ref d), ("tries", .ref l)])) = H3 at *
  have a3 : At md0 G2 H3 := ⟨q2.gh, trivial⟩
  -- needs, tries = rows
  refine q_unp (K := K) (rs := [rTup K (ns.map (rNd K)), rTup K (ts.map (rTr K))]) (ev_var rfl (Rl.mono _ q2.gg hv)) a3 rfl fun vs G4 H4 e4 ps => ?_
  obtain ⟨vn, vt, rfl, hn, ht⟩ := al2 ps
  refine gc_cons (gc_cons (gc_nil ?_))
  obtain ⟨k4, k5⟩ := e4.gr.loc k1 m5 (by simp [md0])
  obtain ⟨k6, k7⟩ := e4.gr.loc k2 m7 (by simp [md0])
  obtain ⟨k8, k9⟩ := e4.gr.loc k3 m2 (by simp [md0])
  have q4 : Gr [p] G H G4 H4 := q2.trans e4.gr.nil
  -- for number, row in enumerate(needs)
  refine q_for (W := [d]) (src_enumT (K := K) (ev_var rfl hn)) e4.at (by simp [md0]) (fun i σ' G' H' => ∃ kvs x1 x2 x3 x4 x5 x6, σ' = [some (.ref p), some v, some vn, some vt, x1, x2, x3, x4, x5, x6] ∧ H' p = some (.ins C dx [("needs", .ref d), ("tries", .ref l)]) ∧ G' p = none ∧ H' d = some (.dK kvs) ∧ G' d = none ∧
      H' l = some (.lst []) ∧ G' l = none ∧ DAl G' (needsR K 0 (ns.take i)) kvs) (fun G' H' e => ?_) (fun i r vr σ' G5 H5 hi hr5 g5 j5 hI N hN => ?_) (fun i r σ' G' H' G'' H'' _ g hI => ?_) fun σ' G5 H5 g5 j5 hI => ?_
  · obtain ⟨h1, h2⟩ := e.gr.loc k4 k5 (by simp [md0])
    obtain ⟨h3, h4⟩ := e.gr.loc k6 k7 (by simp [md0])
    obtain ⟨h5, h6⟩ := e.gr.loc k8 k9 (by simp [md0])
    exact ⟨[], none, none, none, none, none, none, rfl, h1, h2, h3, h4, h5, h6, .nil⟩
  · -- the body
    obtain ⟨kvs, x1, x2, x3, x4, x5, x6, rfl, i1, i2, i3, i4, i5, i6, i7⟩ := hI
    rw [numR_get, List.getElem?_map] at hi
    cases hn2 : ns[i]? with
    | none => rw [hn2] at hi; cases hi
    | some n =>
    rw [hn2] at hi
    obtain rfl : rTup K [rInt ((0 + i : Nat) : Int), rNd K n] = r := by simpa using hi
    rw [Nat.zero_add] at hr5
    have hlt : i < ns.length := (List.getElem?_eq_some_iff.mp hn2).1
    have hn12 := bk.n3
    have hmem : n ∈ ns := List.mem_of_getElem? hn2
    have lk := bk.like hn2
    refine g_tup hr5 g5.gh rfl fun vs ps => ?_
    obtain ⟨vi, vr', rfl, hvi, hvr⟩ := al2 ps
    obtain rfl : vi = .int (i : Nat) := hvi
    refine gc_cons (gc_cons (gc_nil ?_))
    have a5 : At md0 G5 H5 := ⟨g5.gh, trivial⟩
    refine q_when (B := fun b => b = (decide ((i : Int) = 12) || !isNeed (ns.take i) n)) (et_tmp (ps := [p, d, l]) (by simp [md0, i1, i3, i5]) ?_) a5 (fun hB => ?_) fun hB G6 H6 e6 => ?_
    · have fz := book_frz (K := K) (ts := []) (ns := ns.take i) a5.le i1 i3 i5 i7 .nil
      refine et_or (et_test (ev_eqI (ev_val rfl) ev_c)) fun _ => et_not (et_B (ev_meth (E := E0) (d, ns.take i, [], n) (ev_var rfl fz) (insOf (by rfl)) (ea_cons (ev_var rfl (Rl.mono _ (le_frzH a5.le) hvr)) ea_nil) rfl fun _ _ _ => ⟨fun m hm => (bk.bk).scs m (take_in hm), bk.n2 n hmem⟩))
    · rw [bk.n1 i n hn2] at hB
      have : ¬ ((i : Int) = 12) := by omega
      rw [decide_eq_false this] at hB
      cases hB
    -- name, scope, others, ways = row
    obtain ⟨b1, b2⟩ := e6.gr.loc i1 i2 (by simp [md0])
    obtain ⟨b3, b4⟩ := e6.gr.loc i3 i4 (by simp [md0])
    obtain ⟨b5, b6⟩ := e6.gr.loc i5 i6 (by simp [md0])
    refine q_unp (K := K) (rs := [rStr n.nm, rStr n.sc, rTup K (n.ot.map rStr), rInt n.ws]) (ev_var rfl (Rl.mono _ e6.gg hvr)) e6.at rfl fun vs G7 H7 e7 ps => ?_
    obtain ⟨v1, v2, v3, v4, rfl, r1, r2, r3, r4⟩ := al4 ps
    obtain rfl : v1 = .str n.nm := r1
    obtain rfl : v2 = .str n.sc := r2
    obtain rfl : v4 = .int n.ws := r4
    refine gc_cons (gc_cons (gc_cons (gc_cons (gc_nil ?_))))
    obtain ⟨c1, c2⟩ := e7.gr.loc b1 b2 (by simp [md0])
    obtain ⟨c3, c4⟩ := e7.gr.loc b3 b4 (by simp [md0])
    obtain ⟨c5, c6⟩ := e7.gr.loc b5 b6 (by simp [md0])
    have hfew : kvs.length = i := by
      rw [i7.len, needsR_len, List.length_take]
      omega
    refine s_dput (k := .inr n.nm) (r := rNeed K i n) (ev_tup (ea_cons (ev_val rfl) (ea_cons (ev_val rfl) (ea_cons (ev_tuple (ev_var rfl r3).st) (ea_cons (ev_val rfl) ea_nil)))) (show 4 ≤ 100000 by decide)) (ev_fldM (r := rRef d) (ev_val rfl) c1 (by simp [md0]) rfl rfl B.cl B.n_needs) (ev_val rfl) e7.at c3 c4 (by simp [md0]) (by omega) fun vt' G8 H8 e8 pv d1 d2 => ?_
    obtain ⟨d3, d4⟩ := e8.gr.loc c1 c2 (by simp [md0])
    obtain ⟨d5, d6⟩ := e8.gr.loc c5 c6 (by simp [md0])
    have hnew : valV kvs (.inr n.nm) = none := by
      refine (i7.get (k := .inr n.nm)).2 ?_
      show lkD (needsR K 0 (ns.take i)) n.nm = none
      rw [lk_needs, findNd_none lk.nw]
      rfl
    have g8 : Gr [] G5 H5 G8 H8 := (e6.trans (e7.trans e8)).gr
    refine hN _ G8 _ (g8.nil.putW (by simp) d2) trivial ⟨putK kvs (.inr n.nm) vt', _, _, _, _, _, _, rfl, by rw [upd_ne pd]; exact d3, d4, upd_same, d2, by rw [upd_ne (Ne.symm dl)]; exact d5, d6, ?_⟩
    rw [putK_new _ hnew, List.take_add_one, hn2]
    show DAl G8 (needsR K 0 (ns.take i ++ [n])) _
    rw [needsR_app, List.length_take, show 0 + min i ns.length = i by omega]
    exact (i7.mono g8.gg).app pv
  · obtain ⟨kvs, x1, x2, x3, x4, x5, x6, rfl, i1, i2, i3, i4, i5, i6, i7⟩ := hI
    obtain ⟨h1, h2⟩ := g.loc i1 i2 (by simp)
    obtain ⟨h3, h4⟩ := g.loc i3 i4 (by simp)
    obtain ⟨h5, h6⟩ := g.loc i5 i6 (by simp)
    exact ⟨kvs, x1, x2, x3, x4, x5, x6, rfl, h1, h2, h3, h4, h5, h6, i7.mono g.gg⟩
  -- for number, row in enumerate(tries)
  obtain ⟨kvs, x1, x2, x3, x4, x5, x6, rfl, i1, i2, i3, i4, i5, i6, i7⟩ := hI
  rw [numR_len, List.length_map, List.take_length] at i7
  have a5 : At md0 G5 H5 := ⟨g5.gh, trivial⟩
  refine s_for (W := [l]) (src_enumT (K := K) (ev_var rfl (Rl.mono _ g5.gg ht))) a5 (by simp [md0]) (fun i σ' G' H' => ∃ xs x1 x2 y3 y4 y5 y6, σ' = [some (.ref p), some v, some vn, some vt, x1, x2, y3, y4, y5, y6] ∧ H' p = some (.ins C dx [("needs", .ref d), ("tries", .ref l)]) ∧ G' p = none ∧ H' d = some (.dK kvs) ∧ G' d = none ∧
      H' l = some (.lst xs) ∧ G' l = none ∧ Al G' ((ts.take i).map (rTr K)) xs) (fun G' H' e => ?_) (fun i r vr σ' G6 H6 hi hr6 g6 j6 hI N hN => ?_) (fun i r σ' G' H' G'' H'' _ g hI => ?_) fun σ' G6 H6 g6 j6 hI => ?_
  · obtain ⟨h1, h2⟩ := e.gr.loc i1 i2 (by simp [md0])
    obtain ⟨h3, h4⟩ := e.gr.loc i3 i4 (by simp [md0])
    obtain ⟨h5, h6⟩ := e.gr.loc i5 i6 (by simp [md0])
    exact ⟨[], x1, x2, x3, x4, x5, x6, rfl, h1, h2, h3, h4, h5, h6, .nil⟩
  · obtain ⟨xs, x1, x2, y3, y4, y5, y6, rfl, z1, z2, z3, z4, z5, z6, z7⟩ := hI
    rw [numR_get, List.getElem?_map] at hi
    cases hn2 : ts[i]? with
    | none => rw [hn2] at hi; cases hi
    | some t =>
    rw [hn2] at hi
    obtain rfl : rTup K [rInt ((0 + i : Nat) : Int), rTr K t] = r := by simpa using hi
    rw [Nat.zero_add] at hr6
    have hlt : i < ts.length := (List.getElem?_eq_some_iff.mp hn2).1
    have ht30 := bk.t3
    have hmem : t ∈ ts := List.mem_of_getElem? hn2
    refine g_tup hr6 g6.gh rfl fun vs ps => ?_
    obtain ⟨vi, vr', rfl, hvi, hvr⟩ := al2 ps
    obtain rfl : vi = .int (i : Nat) := hvi
    refine gc_cons (gc_cons (gc_nil ?_))
    have a6 : At md0 G6 H6 := ⟨g6.gh, trivial⟩
    have i7' := i7.mono g6.gg
    refine q_when (B := fun b => b = (decide ((i : Int) = 30) || !isTry ns (ts.take i) t)) (et_tmp (ps := [p, d, l]) (by simp [md0, z1, z3, z5]) ?_) a6 (fun hB => ?_) fun hB G7 H7 e7 => ?_
    · have fz := book_frz (K := K) (ts := ts.take i) (ns := ns) a6.le z1 z3 z5 i7' z7
      refine et_or (et_test (ev_eqI (ev_val rfl) ev_c)) fun _ => et_not (et_B (ev_meth (E := E0) (d, ns, ts.take i, t) (ev_var rfl fz) (insOf (by rfl)) (ea_cons (ev_var rfl (Rl.mono _ (le_frzH a6.le) hvr)) ea_nil) rfl fun G' H' g => ⟨⟨bk.bk, bk.ws⟩, Open.go ⟨kvs, z3⟩ g.gr (by simp [md0]), by rw [List.length_take]; omega, bk.t2 t hmem⟩))
    · rw [bk.t1 i t hn2] at hB
      have : ¬ ((i : Int) = 30) := by omega
      rw [decide_eq_false this] at hB
      cases hB
    obtain ⟨b1, b2⟩ := e7.gr.loc z1 z2 (by simp [md0])
    obtain ⟨b3, b4⟩ := e7.gr.loc z3 z4 (by simp [md0])
    obtain ⟨b5, b6⟩ := e7.gr.loc z5 z6 (by simp [md0])
    have hfew : xs.length = i := by
      rw [← z7.length, List.length_map, List.length_take]
      omega
    refine s_app (r := rTr K t) (ev_fldM (r := rRef l) (ev_val rfl) b1 (by simp [md0]) rfl rfl B.cl B.n_tries) (ev_tuple (ev_var rfl (Rl.mono _ e7.gg hvr)).st) e7.at b5 b6 (by simp [md0]) (by omega) fun vt' G8 H8 e8 pv d1 d2 => ?_
    obtain ⟨d3, d4⟩ := e8.gr.loc b1 b2 (by simp [md0])
    obtain ⟨d5, d6⟩ := e8.gr.loc b3 b4 (by simp [md0])
    have g8 : Gr [] G6 H6 G8 H8 := (e7.trans e8).gr
    refine hN _ G8 _ (g8.nil.putW (by simp) d2) trivial ⟨xs ++ [vt'], _, _, _, _, _, _, rfl, by rw [upd_ne pl]; exact d3, d4, by rw [upd_ne dl]; exact d5, d6, upd_same, d2, ?_⟩
    rw [List.take_add_one, hn2]
    show Al G8 ((ts.take i ++ [t]).map (rTr K)) _
    rw [List.map_append]
    exact (z7.mono g8.gg).app pv
  · obtain ⟨xs, x1, x2, y3, y4, y5, y6, rfl, z1, z2, z3, z4, z5, z6, z7⟩ := hI
    obtain ⟨h1, h2⟩ := g.loc z1 z2 (by simp)
    obtain ⟨h3, h4⟩ := g.loc z3 z4 (by simp)
    obtain ⟨h5, h6⟩ := g.loc z5 z6 (by simp)
    exact ⟨xs, x1, x2, y3, y4, y5, y6, rfl, h1, h2, h3, h4, h5, h6, z7.mono g.gg⟩
  -- all is made
  obtain ⟨xs, x1, x2, y3, y4, y5, y6, rfl, z1, z2, z3, z4, z5, z6, z7⟩ := hI
  rw [numR_len, List.length_map, List.take_length] at z7
  have hd00 : H0 d = none := by
    cases e : H0 d with
    | none => rfl
    | some o => exact absurd hd0 (g0.dm d (by rw [e]; exact fun z => nomatch z))
  have hl00 : H0 l = none := by
    cases e : H0 l with
    | none => rfl
    | some o => exact absurd hl0 (g0.dm l (by rw [e]; exact fun z => nomatch z))
  have gA : Gr [] G H0 G6 H6 := ((g0.over q4 (by simp [hp0])).over g5 (by simp [hd00])).over g6 (by simp [hl00])
  have i7' := i7.mono g6.gg
  have gB := gA.fix hd00 z4 z3
  have gC := gB.fix (p := l) (o := .lst xs) hl00 (by rw [upd_ne (Ne.symm dl)]; exact z6) z5
  have gD := gC.fix (p := p) (o := .ins C dx [("needs", .ref d), ("tries", .ref l)]) hp0 (by rw [upd_ne pl, upd_ne pd]; exact z2) z1
  have up : Le G6 (upd (upd (upd G6 d (.dK kvs)) l (.lst xs)) p (.ins C dx [("needs", .ref d), ("tries", .ref l)])) := ((Le.new z4).trans (Le.new (by rw [upd_ne (Ne.symm dl)]; exact z6))).trans (Le.new (by rw [upd_ne pl, upd_ne pd]; exact z2))
  refine hQ d _ _ gD ⟨p, dx, _, rfl, upd_same, .cons ⟨rfl, rfl, d, kvs, rfl, .inl ?_, i7'.mono up⟩ (.cons ⟨rfl, l, xs, rfl, .of ?_, z7.mono up⟩ .nil)⟩ ⟨kvs, z3⟩
  · rw [upd_ne (Ne.symm pd), upd_ne dl, upd_same]
  · rw [upd_ne (Ne.symm pl), upd_same]
end

end TH
namespace TH
open PySem PySem.Spec PyProof.Rows L2
/-! ### needed -/
def otOf (ns : List Nd) (x : Str) : List Str := (findNd x 0 ns).elim [] fun p => p.2.ot
/-- what a try, a need needs -/
def neededM (ns : List Nd) (ts : List Tr) (x : Str) : List Str :=
  match ts.find? fun t => decide (t.nm = x) with
  | some t => closureM ns t.nd
  | none => if x ∈ ns.map Nd.nm then closureM ns (otOf ns x) else []
theorem BookOk.ot_ok {ns : List Nd} {ts : List Tr} (b : BookOk ns ts) {n : Nd} (h : n ∈ ns) : n.ot.length ≤ 100 ∧ ∀ o ∈ n.ot, o ∈ ns.map Nd.nm := by
  refine ⟨b.bk.ots n h, fun o ho => ?_⟩
  obtain ⟨i, hi⟩ := List.getElem?_of_mem h
  have := (b.like hi).ot o ho
  rw [List.map_take] at this
  exact take_in this
section
variable {K : PySem.W.Frag} {M : Md} {σ : L2.St} {G H : Hp} {ta te : TE} {D : Ends} {tz : TS} {C : Addr}
/-- book = Book(rows) -/
theorem q_book {i : Nat} {ns : List Nd} {ts : List Tr} {E : XK} (h : Ev M te σ G H (rRows K ns ts)) (bk : BookOk ns ts) (a : At M G H) (k : ∀ v d G' H', Go M G H G' H' → (rBook K C d ns ts).P G' v → Open d H' → tz D (σ.set i (some v)) H') :
    tSeq (tAsg (tMake C (sp_init K C) [] E (tCons te tNil)) (gName i)) tz D σ H :=
  h G H a.go _ fun v G1 H1 e1 p x dx hx hdx hne => ⟨ns, ts, G1, H1, x, dx, v, by simp, rfl, hx, hdx, hne, e1.at.le, bk, p, fun d G' H' g q o => ⟨rfl, k _ d G' H' (e1.trans (Go.pure g e1.j)) q o⟩⟩
end
def sp_needed (K : PySem.W.Frag) : Sp := spP (ι := List Nd × List Tr × Str) (fun i _ _ => BookOk i.1 i.2.1) (fun i => [rRows K i.1 i.2.1, rStr i.2.2]) (fun i => rLst K ((neededM i.1 i.2.1 i.2.2).map rStr))
section
variable {P : Program} {w : World} {K : PySem.W.Frag} {mg : Str → Option Value} {base : Heap} {f : Addr} {fd : FuncData} {C : Addr}
theorem sc_needed : FnScope ["rows", "name", "book", "row"] ["rows", "name"] (defScope s_needed) := ⟨rfl, rfl, rfl, by decide +kernel, rfl, by decide +kernel, by decide +kernel⟩
theorem fn_needed (F : FnP K "needed" "needed" s_needed f fd) (T : Top K mg) (B : TopBook K mg C) (c_Book : C8.Mak P w K mg base 4 "Book" C (sp_init K C) []) (c_closure : C8.Met P w K mg base 1 C "closure" (sp_closure K C) []) : FnOk P w K mg base CX0 6 f fd ["rows", "name"] (sp_needed K) := by
  refine fn_pure F sc_needed (fun _ => rfl) fun cdv A outer s H E hr => ⟨_, (pss_cons (ps_set (i := 2) sc_needed.nd rfl (Or.inl rfl) (C8.pe_mk c_Book hr (by first | decide | omega) rfl (pa_cons (pv 0) pa_nil))) (pss_cons (ps_for PassesOwn.never rfl (pi_list (pe_fldK (K := K) rfl (pv 2) rfl)) (pg_name (i := 3) sc_needed.nd rfl (Or.inl rfl)) (pss_one (ps_if (pt_cmpR op_eq (pe_ix ix_tup (pv 3) pe_int (fun _ _ => rfl)) (pv 1) (nomark _)) (pss_one (ps_ret (C8.pe_mt c_closure hr (by first | decide | omega) (pv 2) (pa_cons (pe_ix ix_tup (pv 3) pe_int (fun _ _ => rfl)) pa_nil)))) pss_nil))) (pss_one (ps_ret (pe_ifExp (pt_cmp (pc_din (hu_of hr) (pv 1) (pe_fldK (K := K) rfl (pv 2) rfl))) (C8.pe_mt c_closure hr (by first | decide | omega) (pv 2) (pa_cons (pe_ix ix_tup (pe_dget (hu_of hr) (pe_fldK (K := K) rfl (pv 2) rfl) (pv 1) (fun _ _ => rfl)) pe_int (fun _ _ => rfl)) pa_nil)) (pe_lst pa_nil)))))), ?_⟩
  rintro ⟨ns, ts, x⟩ G vs D a bk al hrt hnx
  obtain ⟨v, u, rfl, hv, hu⟩ := al2 al
  have hv : (rRows K ns ts).P G v := hv
  obtain rfl : u = .str x := hu
  have bk : BookOk ns ts := bk
  refine q_book (K := K) (ev_var rfl hv) bk a fun vb d G1 H1 e1 hb ho => ?_
  refine q_for (W := []) (src_lst (ev_tries B (ev_var rfl hb))) e1.at (by simp [md0]) (fun i σ' _ _ => (∃ y, σ' = [some v, some (.str x), some vb, y]) ∧ ∀ t ∈ ts.take i, t.nm ≠ x) (fun _ _ _ => ⟨⟨_, rfl⟩, by simp⟩) (fun i r vr σ' G2 H2 hi hr2 g2 j2 hI N hN => ?_) (fun _ _ _ _ _ _ _ _ _ h => h) fun σ' G2 H2 g2 j2 hI => ?_
  · obtain ⟨⟨y, rfl⟩, hno⟩ := hI
    rw [List.getElem?_map, Option.map_eq_some_iff] at hi
    obtain ⟨t, hi, rfl⟩ := hi
    have a2 : At md0 G2 H2 := ⟨g2.gh, trivial⟩
    have hb2 := Rl.mono _ g2.gg hb
    refine s_when (et_test (ev_eqS (x := t.nm) (ev_ixT (ev_var rfl hr2) ev_c rfl) (ev_val rfl))) a2 (fun hB G3 H3 e3 => ?_) fun hB G3 H3 e3 => ?_
    · have et : t.nm = x := of_decide_eq_true hB.symm
      have ht : t ∈ ts := List.mem_of_getElem? hi
      obtain ⟨seen, lk⟩ := bk.likeM ht
      have b12 := bk.n3
      have bf := lk.few
      have hfind : ts.find? (fun t => decide (t.nm = x)) = some t := by
        rw [← List.take_append_drop i ts, List.find?_append, List.drop_eq_getElem_cons (List.getElem?_eq_some_iff.mp hi).1, (List.getElem?_eq_some_iff.mp hi).2]
        rw [List.find?_eq_none.mpr (fun z hz => by simpa using hno z hz), List.find?_cons, decide_eq_true et]
        rfl
      refine s_ret (ev_meth (E := E0) (d, ns, ts, t.nd) (ev_var rfl (Rl.mono _ e3.gg hb2)) (insOf (by rfl)) (ea_cons (ev_ixT (ev_var rfl (Rl.mono _ e3.gg hr2)) ev_c rfl) ea_nil) rfl fun G' H' g => ⟨bk.bk, ho.go (g2.trans (e3.trans g).gr) (by simp [md0]), show t.nd.length ≤ 100 by omega, lk.nd⟩) e3.at fun vr' G4 H4 e4 p => ?_
      refine hrt vr' G4 H4 (e1.gr.trans (g2.trans (e3.trans e4).gr)) ?_
      show (rLst K ((neededM ns ts x).map rStr)).P G4 vr'
      unfold neededM
      rw [hfind]
      exact p
    · refine hN _ G3 H3 e3.gr trivial ⟨⟨_, rfl⟩, fun z hz => ?_⟩
      rw [List.take_add_one, hi] at hz
      rcases List.mem_append.mp hz with hz | hz
      · exact hno z hz
      · rw [List.mem_singleton.mp hz]
        exact fun e => by
          have hB : false = decide (t.nm = x) := hB
          rw [decide_eq_true e] at hB
          cases hB
  · obtain ⟨⟨y, rfl⟩, hno⟩ := hI
    rw [List.length_map, List.take_length] at hno
    have a2 : At md0 G2 H2 := ⟨g2.gh, trivial⟩
    have hb2 := Rl.mono _ g2.gg hb
    have hfind : ts.find? (fun t => decide (t.nm = x)) = none := List.find?_eq_none.mpr (fun z hz => by simpa using hno z hz)
    refine s_ret (r := rLst K ((neededM ns ts x).map rStr)) (ev_if (B := fun b => b = decide (x ∈ ns.map Nd.nm)) (et_B (ev_inNeeds B (ev_var rfl hb2) (ev_val rfl))) (fun hB => ?_) fun hB => ?_) a2 fun vr' G4 H4 e4 p => hrt vr' G4 H4 (e1.gr.trans (g2.trans e4.gr)) p
    · have hx : x ∈ ns.map Nd.nm := of_decide_eq_true hB.symm
      obtain ⟨j, n, h1, h2, h3⟩ := findNd_some (i := 0) hx
      have b12 := bk.ot_ok h2
      have := ev_meth (M := md0) (E := E0) (C := C) (m := "closure") (σ := [some v, some (.str x), some vb, y]) (G := G2) (H := H2) (pre := fun (i : Addr × List Nd × List Tr × List Str) _ H => BkOk i.2.1 ∧ Open i.1 H ∧ i.2.2.2.length ≤ 100 ∧ ∀ x ∈ i.2.2.2, x ∈ i.2.1.map Nd.nm)
        (args := fun i => [rBook K C i.1 i.2.1 i.2.2.1, rTup K (i.2.2.2.map rStr)]) (res := fun i => rLst K ((closureM i.2.1 i.2.2.2).map rStr)) (d, ns, ts, n.ot) (ev_var (i := 2) rfl hb2) (insOf (by rfl)) (ea_cons (ev_ixT (i := 2) (ev_need B (ev_var (i := 2) rfl hb2) (ev_val (i := 1) rfl) h1) ev_c rfl) ea_nil) rfl
        fun G' H' g => ⟨bk.bk, ho.go (g2.trans g.gr) (by simp [md0]), b12.1, b12.2⟩
      refine Ev.imp this fun G' z p => ?_
      show (rLst K ((neededM ns ts x).map rStr)).P G' z
      unfold neededM
      rw [hfind, show (match (none : Option Tr) with | some t => closureM ns t.nd | none => if x ∈ ns.map Nd.nm then closureM ns (otOf ns x) else []) = closureM ns n.ot by
        show (if x ∈ ns.map Nd.nm then closureM ns (otOf ns x) else []) = _
        rw [if_pos hx]
        unfold otOf
        rw [h1]
        rfl]
      exact p
    · have hx : x ∉ ns.map Nd.nm := fun z => by
        have hB : false = decide (x ∈ ns.map Nd.nm) := hB
        rw [decide_eq_true z] at hB
        cases hB
      refine (ev_lst (K := K) ea_nil).imp fun G' z p => ?_
      unfold neededM
      rw [hfind]
      show (rLst K ((if x ∈ ns.map Nd.nm then closureM ns (otOf ns x) else []).map rStr)).P G' z
      rw [if_neg hx]
      exact p
end

end TH
namespace TH
open PySem PySem.Spec PyProof.Rows L2
/-! ### needless -/
def needlessM (ns : List Nd) (ts : List Tr) : List Str := (ns.map Nd.nm).filter fun x => !decide (x ∈ ts.flatMap fun t => closureM ns t.nd)
def sp_needless (K : PySem.W.Frag) : Sp := spP (ι := List Nd × List Tr) (fun i _ _ => BookOk i.1 i.2) (fun i => [rRows K i.1 i.2]) (fun i => rLst K ((needlessM i.1 i.2).map rStr))
theorem flat_len {α β : Type} (f : α → List β) (k : Nat) : ∀ xs : List α, (∀ x ∈ xs, (f x).length ≤ k) → (xs.flatMap f).length ≤ xs.length * k
  | [], _ => Nat.zero_le _
  | x :: t, h => by
    have ih := flat_len f k t fun y hy => h y (List.mem_cons_of_mem _ hy)
    have := h x List.mem_cons_self
    rw [List.flatMap_cons, List.length_append, List.length_cons, Nat.succ_mul]
    omega
theorem closureM_len (ns : List Nd) (names : List Str) : (closureM ns names).length ≤ ns.length := by
  unfold closureM
  refine Nat.le_trans (List.length_filter_le _ _) ?_
  rw [List.length_map]
  exact Nat.le_refl _
section
variable {K : PySem.W.Frag} {mg : Str → Option Value} {M : Md} {σ : L2.St} {G H : Hp} {ta tb te : TE} {C : Addr} {tt : TT}
/-- [name for name in book.needs if ..]: a filter of the book's names -/
theorem ev_bookNames {ns : List Nd} {ts : List Tr} {d bp : Addr} {i j : Nat} {vs : List Nat} (B : TopBook K mg C) (hn : ns.length ≤ 100) (hv : (rBook K C d ns ts).P G (.ref bp)) (ho : Open d H) (hW : d ∉ M.W) (le : Le G H) (hi : σ[i]? = some (some (.ref bp))) (f : Str → Bool) (hw : ∀ v, wipe ((wipe σ vs).set j (some v)) vs = wipe σ vs) (hj : ∀ v : V, ((wipe σ vs).set j (some v))[j]? = some (some v))
    (body : ∀ x G' H', x ∈ ns.map Nd.nm → Le G G' → (∀ b o, b ≠ d → H b = some o → b ∉ M.W → H' b = some o) → EvT M tt ((wipe σ vs).set j (some (.str x))) G' H' (· = f x)) :
    Ev M (tLockE (tLc (iKeys (tFld K (tVar i) "needs")) (gName j) tt (tVar j) vs)) σ G H (rLst K (((ns.map Nd.nm).filter f).map rStr)) := by
  obtain ⟨kvs, hop⟩ := ho
  obtain ⟨bp', bdx, bvs, e, hb1, hb2⟩ := id hv
  cases e
  obtain ⟨nv, hn1, hnd, na, nvs, hne, hn4, hn5⟩ := hb2.get (f := "needs") rfl
  obtain rfl : d = na := by rw [hnd] at hne; injection hne
  have ekv := rd_core hn4 le hop
  subst ekv
  refine ev_lock hn4 hop hW fun od G5 H5 g5 hle hkeep hat => ?_
  have hvL : (rBook K C d ns ts).P (upd G5 d (.frz od (.dK nvs))) (.ref bp) := Rl.mono _ hle hv
  have ek := keysDAl hn5
  have src : Src M M.W (iKeys (tFld K (tVar i) "needs")) σ (upd G5 d (.frz od (.dK nvs))) (upd H5 d (.frz od (.dK nvs))) ((ns.map Nd.nm).map rStr) := by
    rw [← ek]
    exact src_keys ((ev_needs B (ev_var hi hvL)).imp fun _ _ => rDctAt_r) upd_same hW hW
  refine EvN.lst (en_lcX (enc := rStr) src f rStr hw (fun x vx G6 H6 hx g6 px => ?_) (by rw [List.length_map]; omega))
  have px' : vx = .str x := px
  subst px'
  exact ⟨body x G6 H6 hx (hle.trans g6.gg) fun b o hb e n => g6.gr.hh b o (hkeep b o hb e n) n, fun _ => ev_var (hj _) px⟩
end
section
variable {P : Program} {w : World} {K : PySem.W.Frag} {mg : Str → Option Value} {base : Heap} {f : Addr} {fd : FuncData} {C : Addr}
theorem sc_needless : FnScope ["rows", "book", "used", "row", "name"] ["rows"] (defScope s_needless) := ⟨rfl, rfl, rfl, by decide +kernel, rfl, by decide +kernel, by decide +kernel⟩
theorem fn_needless (F : FnP K "needless" "needless" s_needless f fd) (T : Top K mg) (B : TopBook K mg C) (c_Book : C8.Mak P w K mg base 4 "Book" C (sp_init K C) []) (c_closure : C8.Met P w K mg base 1 C "closure" (sp_closure K C) []) : FnOk P w K mg base CX0 6 f fd ["rows"] (sp_needless K) := by
  refine fn_pure F sc_needless (fun _ => rfl) fun cdv A outer s H E hr => ⟨_, (pss_cons (ps_set (i := 1) sc_needless.nd rfl (Or.inr rfl) (C8.pe_mk c_Book hr (by first | decide | omega) rfl (pa_cons (pv 0) pa_nil))) (pss_cons (ps_set (i := 2) sc_needless.nd rfl (Or.inr rfl) (pe_dc2 (own := [("row", 3), ("name", 4)]) (vb := [4]) rfl sc_needless.nd (pi_list (pe_fldK (K := K) rfl (pv 1) rfl)) (blkOk_by (own := [("row", 3), ("name", 4)]) (N := ["rows", "book", "used", "row", "name"]) (sc := defScope s_needless) (by decide +kernel)) (by decide) (fun _ _ _ _ _ => (pg_name (i := 3) sc_needless.nd rfl (Or.inl rfl))) (fun _ _ _ _ _ => pts_nil) (fun _ _ _ _ _ => piT (pi_list (C8.pe_mt c_closure hr (by first | decide | omega) (pv 1) (pa_cons (pe_ix ix_tup (pv 3) pe_int (fun _ _ => rfl)) pa_nil))) (by (try dsimp only [Cx.blk, Cx.nox, cxOf]) <;> rfl)) (fun _ _ _ _ _ => (pg_name (i := 4) sc_needless.nd rfl (Or.inl rfl))) (fun _ _ _ _ _ => pts_nil) (fun _ _ _ _ _ => peT (pv 4) (by (try dsimp only [Cx.blk, Cx.nox, cxOf]) <;> rfl)) (fun _ _ _ _ _ => peT pe_bl (by (try dsimp only [Cx.blk, Cx.nox, cxOf]) <;> rfl)))) (pss_one (ps_ret (pe_lock (pe_lc (own := [("name", 4)]) rfl sc_needless.nd (pi_keys (pe_fldK (K := K) rfl (pv 1) rfl)) (blkOk_by (own := [("name", 4)]) (N := ["rows", "book", "used", "row", "name"]) (sc := defScope s_needless) (by decide +kernel)) (fun _ _ _ _ _ => (pg_name (i := 4) sc_needless.nd rfl (Or.inl rfl))) (fun _ _ _ _ _ => ptsT (pts_one (pt_cmp (pc_dnotin (hu_of hr) (pv 4) (pv 2)))) (by (try dsimp only [Cx.blk, Cx.nox, cxOf]) <;> rfl)) (fun _ _ _ _ _ => peT (pv 4) (by (try dsimp only [Cx.blk, Cx.nox, cxOf]) <;> rfl)))))))), ?_⟩
  rintro ⟨ns, ts⟩ G vs D a bk al hrt hnx
  obtain ⟨v, rfl, hv⟩ := al1 al
  have hv : (rRows K ns ts).P G v := hv
  have bk : BookOk ns ts := bk
  have b12 := bk.n3
  have b30 := bk.t3
  refine q_book (K := K) (ev_var rfl hv) bk a fun vb d G1 H1 e1 hb ho => ?_
  obtain ⟨bp, _, _, rfl, _⟩ := id hb
  have hfl : (ts.flatMap fun t => closureM ns t.nd).length ≤ 100000 := by
    have := flat_len (fun t : Tr => closureM ns t.nd) 12 ts fun t _ => by have := closureM_len ns t.nd; omega
    omega
  refine q_asgN (en_dc2 (xs := ts) (enc := rTr K) (fun t => closureM ns t.nd) (src_lst (ev_tries B (ev_var rfl hb))) (fun _ => rfl) (fun _ _ => rfl) (fun _ _ => rfl) (fun t vt D' G2 H2 ht g2 pt => ?_) hfl) e1.at fun u o G2 H2 e2 n1 n2 n3 ⟨kvs, f1, f2⟩ => ?_
  · obtain ⟨seen, lk⟩ := bk.likeM ht
    have bf := lk.few
    exact src_lst (ev_meth (E := E0) (d, ns, ts, t.nd) (ev_var rfl (Rl.mono _ g2.gg hb)) (insOf (by rfl)) (ea_cons (ev_ixT (ev_var rfl pt) ev_c rfl) ea_nil) rfl fun G' H' g => ⟨bk.bk, ho.go (g2.trans g).gr (by simp [md0]), show t.nd.length ≤ 100 by omega, lk.nd⟩)
  · subst f1
    have du : u ≠ d := fun z => by
      subst z
      obtain ⟨k, e⟩ := ho
      rw [e] at n1
      cases n1
    refine s_ret (ev_bookNames B (by omega) (Rl.mono _ e2.gg hb) (ho.go e2.gr (by simp [md0])) (by simp [md0]) e2.at.le rfl (fun x => !decide (x ∈ ts.flatMap fun t : Tr => closureM ns t.nd)) (fun _ => rfl) (fun _ => rfl) fun x G' H' hx hle hkeep => ?_) e2.at fun v' G' H' g p => hrt v' G' H' (e1.trans (e2.trans g)).gr p
    have := ev_dnotinM (M := md0) (ta := tVar 2) (tb := tVar 4) (σ := [some v, some (.ref bp), some (.ref u), none, some (.str x)]) (G := G') (H := H') (x := x) (ev_val rfl) (ev_val (v := .ref u) rfl) (hkeep u _ du n3 (by simp [md0])) (by simp [md0])
    rw [f2.2 x] at this
    exact et_B this
end

end TH
namespace TH
open PySem PySem.Spec PyProof.Rows L2
/-! ### draws -/
theorem ixN_mod {n : Nat} {i : Int} (h : 0 < n) : ixN n (i % (n : Int)) = some (i % (n : Int)).toNat := by
  have h1 : 0 ≤ i % (n : Int) := Int.emod_nonneg _ (by omega)
  have h2 : i % (n : Int) < n := Int.emod_lt_of_pos _ (by omega)
  unfold ixN
  rw [if_pos h1, if_pos h2]
section
variable {P : Program} {w : World} {K : PySem.W.Frag} {mg : Str → Option Value} {base : Heap} {f : Addr} {fd : FuncData}
theorem sc__law_next : FnScope ["_law_h", "_law_many", "_law_cell"] ["_law_h", "_law_many"] (defScope s__law_next) := ⟨rfl, rfl, rfl, by decide +kernel, rfl, by decide +kernel, by decide +kernel⟩
theorem fn_law_next (F : FnP K "_law_next" "_law_next" s__law_next f fd) (T : Top K mg) : FnOk P w K mg base CX0 1 f fd ["_law_h", "_law_many"] sp_next := by
  refine F.ok sc__law_next (fun vs H Q E h => ?_) fun cdv A outer s H vs Q E hr h => ?_
  · obtain ⟨h, l, n, G, e, _⟩ := h
    rw [e]
    rfl
  suffices hs : ∃ t, PSs (cxOf CX0 P w K mg base ["_law_h", "_law_many", "_law_cell"] "_law_next" (defScope s__law_next) f cdv A outer s H E).nox (defBody s__law_next) t ∧ t { nx := fun _ H' => Q .non H', rt := Q } (L2.start ["_law_h", "_law_many", "_law_cell"] vs) H by
    obtain ⟨t, h1, h2⟩ := hs
    exact ⟨t, h1.nox, h2⟩
  refine ⟨_, (pss_cons (ps_set (i := 2) sc__law_next.nd rfl (Or.inl rfl) (pe_ix ix_list (pe_op op_cat (pe_ix ix_list (pv 0) pe_int (fun _ _ => rfl)) (pe_lst (pa_cons pe_int pa_nil))) (pe_op op_mod (pe_ix ix_list (pv 0) pe_int (fun _ _ => rfl)) (pe_callB (call_max2 rfl) (by rfl) T.z_max (by decide +kernel) (pa_cons pe_int (pa_cons (pe_callB (call_len_seq) (by rfl) T.z_len PySem.boot_len (pa_cons (pe_ix ix_list (pv 0) pe_int (fun _ _ => rfl)) pa_nil)) pa_nil)))) (fun _ _ => rfl))) (pss_cons (ps_if (pt_cmpR op_ge (pv 2) (pe_op op_pow pe_int pe_int) (nomark _)) (pss_cons (ps_asg (pe_op op_fdiv (pv 2) (pv 1)) (pg_sub (pe_ix ix_list (pv 0) pe_int (fun _ _ => rfl)) (pe_op op_mod (pe_ix ix_list (pv 0) pe_int (fun _ _ => rfl)) (pe_callB (call_len_seq) (by rfl) T.z_len PySem.boot_len (pa_cons (pe_ix ix_list (pv 0) pe_int (fun _ _ => rfl)) pa_nil))) set_list)) (pss_one (ps_ret (pe_op op_mod (pv 2) (pv 1))))) pss_nil) (pss_cons (ps_asg (pe_op op_mod (pe_op op_add (pe_op op_add (pe_op op_mul (pe_ix ix_list (pv 0) pe_int (fun _ _ => rfl)) pe_int) (pe_op op_mul (pv 2) pe_int)) pe_int) pe_int) (pg_sub (pv 0) pe_int set_list)) (pss_cons (ps_asg (pe_op op_add (pe_ix ix_list (pv 0) pe_int (fun _ _ => rfl)) pe_int) (pg_sub (pv 0) pe_int set_list)) (pss_one (ps_ret (pe_op op_mod (pe_op op_fdiv (pe_ix ix_list (pv 0) pe_int (fun _ _ => rfl)) pe_int) (pv 1)))))))), ?_⟩
  obtain ⟨h, l, n, G, rfl, n1, n2, le, hh, hl, hne, ⟨m, i, cells, j1, j2, j3⟩, hQ⟩ := h
  have a0 : At md0 G H := ⟨le, trivial⟩
  have J : ∀ {G' H' : Hp} {m i : Int} {cells : List Int}, H' h = some (.lst [.int m, .ref l, .int i]) → H' l = some (.lst (cells.map V.int)) → cells.length ≤ 1000 → JS h l H' := fun h1 h2 h3 => ⟨_, _, _, h1, h2, h3⟩
  -- the cell
  have hidx : ∃ c, atI ((cells.map V.int) ++ [V.int 0]) (i % (if ((cells.map V.int).length : Int) > 1 then ((cells.map V.int).length : Int) else 1)) = some (.int c) ∧ (c ≥ 10 ^ 18 → cells ≠ []) := by
    by_cases hc : cells = []
    · subst hc
      refine ⟨0, ?_, fun z => absurd z (by decide)⟩
      show atI [V.int 0] (i % 1) = _
      rw [Int.emod_one]
      rfl
    · have hp : 0 < cells.length := List.length_pos_iff.mpr hc
      have e : (if ((cells.map V.int).length : Int) > 1 then ((cells.map V.int).length : Int) else 1) = (cells.length : Int) := by
        rw [List.length_map]
        split <;> omega
      rw [e]
      have h1 : 0 ≤ i % (cells.length : Int) := Int.emod_nonneg _ (by omega)
      have h2 : i % (cells.length : Int) < cells.length := Int.emod_lt_of_pos _ (by omega)
      refine ⟨cells[(i % (cells.length : Int)).toNat]'(by omega), ?_, fun _ => hc⟩
      unfold atI ixN
      rw [if_pos h1, if_pos (by simp; omega)]
      show ((cells.map V.int) ++ [V.int 0])[_]? = _
      rw [List.getElem?_append_left (by simp; omega), List.getElem?_map, List.getElem?_eq_getElem (by omega)]
      rfl
  obtain ⟨c, hc1, hc2⟩ := hidx
  have mx : (0 : Int) < (if ((cells.map V.int).length : Int) > 1 then ((cells.map V.int).length : Int) else 1) := by split <;> omega
  refine q_asgV (v := .int c) (ev_ixL (K := K) (EvN.vals (xs := (cells.map V.int) ++ [V.int 0]) (en_catM (ys := [V.int 0]) (ev_ixM (K := K) (ev_val rfl) j1 (by simp [md0]) ev_c rfl) j2 (by simp [md0]) (en_lst (ea_cons ev_c ea_nil) (show 1 ≤ 100000 by decide)) (by simp; omega)))
    (ev_I (ev_ixM (K := K) (v := .int i) (ev_val rfl) j1 (by simp [md0]) ev_c rfl) (ev_max2 ev_c (ev_lenM (K := K) (ev_ixM (K := K) (ev_val rfl) j1 (by simp [md0]) ev_c rfl) j2 (by simp [md0]))) mx) ?_) a0 fun G1 H1 e1 => ?_
  · unfold atI at hc1 ⊢
    rw [List.length_map]
    cases e : ixN ((cells.map V.int) ++ [V.int 0]).length (i % (if ((cells.map V.int).length : Int) > 1 then ((cells.map V.int).length : Int) else 1)) with
    | none => rw [e] at hc1; cases hc1
    | some j =>
      rw [e] at hc1
      show (((cells.map V.int) ++ [V.int 0]).map rV)[j]? = _
      rw [List.getElem?_map]
      have hc1 : ((cells.map V.int) ++ [V.int 0])[j]? = some (.int c) := hc1
      rw [hc1]
      rfl
  obtain ⟨k1, k2⟩ := e1.gr.loc j1 hh (by simp [md0])
  obtain ⟨k3, k4⟩ := e1.gr.loc j2 hl (by simp [md0])
  refine q_when (et_test (ev_I0 (g := fun i j => .bl (decide (i ≥ j))) (ev_val (v := .int c) rfl) (ev_I (g := fun i j => .int (i ^ j.toNat)) ev_c ev_c ⟨by decide, by decide, by decide⟩))) e1.at (fun hB G2 H2 e2 => ?_) fun hB G2 H2 e2 => ?_
  · have big : c ≥ 10 ^ 18 := of_decide_eq_true hB.symm
    have hp : 0 < cells.length := List.length_pos_iff.mpr (hc2 big)
    obtain ⟨k5, k6⟩ := e2.gr.loc k1 k2 (by simp [md0])
    obtain ⟨k7, k8⟩ := e2.gr.loc k3 k4 (by simp [md0])
    refine q_setL (r := rInt (c / n)) (i := i % (cells.length : Int)) (ev_I (ev_val rfl) (ev_val rfl) ⟨by omega, n2⟩) (ev_ixM (K := K) (v := .ref l) (ev_val rfl) k5 (by simp [md0]) ev_c rfl) ?_ e2.at k7 k8 (by simp [md0]) (j := (i % (cells.length : Int)).toNat) ?_ fun v G3 H3 e3 pv m1 m2 => ?_
    · have := ev_I (M := md0) (σ := [some (.ref h), some (.int n), some (.int c)]) (G := G2) (H := H2) (C := fun _ j => 0 < j) (g := fun i j => .int (i % j)) (ta := tOp (rIxL K) (tVar 0) (tC (.int 2))) (ev_ixM (K := K) (v := .int i) (ev_val rfl) k5 (by simp [md0]) ev_c rfl) (ev_lenM (K := K) (ev_ixM (K := K) (v := .ref l) (ev_val (i := 0) rfl) k5 (by simp [md0]) (ev_c (v := .int 1)) rfl) k7 (by simp [md0])) (by simp; omega)
      rw [List.length_map] at this
      exact this
    · rw [List.length_map]
      exact ixN_mod hp
    · obtain rfl : v = .int (c / n) := pv
      have g3 : Gr [] G H G3 H3 := (e1.trans (e2.trans e3)).gr
      have g4 : Gr [h, l] G H G3 (upd H3 l (.lst ((cells.map V.int).set (i % (cells.length : Int)).toNat (.int (c / n))))) := g3.nil.putW (by simp) m2
      have a4 : At md0 G3 (upd H3 l (.lst ((cells.map V.int).set (i % (cells.length : Int)).toNat (.int (c / n))))) := ⟨g4.gh, trivial⟩
      obtain ⟨k9, k10⟩ := e3.gr.loc k5 k6 (by simp [md0])
      refine s_ret (ev_I (g := fun i j => .int (i % j)) (ev_val (v := .int c) rfl) (ev_val (v := .int n) rfl) (by show 0 < n; omega)) a4 fun v G5 H5 e5 p => ?_
      obtain rfl : v = .int (c % n) := p
      refine hQ _ G5 H5 (Int.emod_nonneg _ (by omega)) (Int.emod_lt_of_pos _ (by omega)) (g4.trans e5.gr.nil) ⟨m, i, cells.set (i % (cells.length : Int)).toNat (c / n), ?_, ?_, by rw [List.length_set]; exact j3⟩
      · exact e5.gr.hh h _ (by rw [upd_ne hne]; exact k9) (by simp [md0])
      · refine e5.gr.hh l _ ?_ (by simp [md0])
        rw [upd_same, List.map_set]
  · obtain ⟨k5, k6⟩ := e2.gr.loc k1 k2 (by simp [md0])
    obtain ⟨k7, k8⟩ := e2.gr.loc k3 k4 (by simp [md0])
    refine q_setL (r := rInt ((m * 48271 + c * 69621 + 11) % 2147483647)) (i := 0) (ev_I (ev_I0 (ev_I0 (ev_I (ev_ixM (K := K) (v := .int m) (ev_val rfl) k5 (by simp [md0]) ev_c rfl) ev_c (.inr ⟨by decide, by decide⟩)) (ev_I (ev_val rfl) ev_c (.inr ⟨by decide, by decide⟩))) ev_c) ev_c (by decide)) (ev_val rfl) ev_c e2.at k5 k6 (by simp [md0]) (j := 0) rfl fun v G3 H3 e3 pv m1 m2 => ?_
    obtain rfl : v = .int ((m * 48271 + c * 69621 + 11) % 2147483647) := pv
    generalize (m * 48271 + c * 69621 + 11) % 2147483647 = mm
    have g3 : Gr [] G H G3 H3 := (e1.trans (e2.trans e3)).gr
    have g4 : Gr [h, l] G H G3 (upd H3 h (.lst [.int mm, .ref l, .int i])) := g3.nil.putW (by simp) m2
    have a4 : At md0 G3 (upd H3 h (.lst [.int mm, .ref l, .int i])) := ⟨g4.gh, trivial⟩
    obtain ⟨k9, k10⟩ := e3.gr.loc k7 k8 (by simp [md0])
    show tSeq _ _ _ _ (upd H3 h (.lst [.int mm, .ref l, .int i]))
    refine q_setL (r := rInt (i + 1)) (i := 2) (ev_I0 (ev_ixM (K := K) (v := .int i) (ev_val rfl) upd_same (by simp [md0]) ev_c rfl) ev_c) (ev_val rfl) ev_c a4 upd_same m2 (by simp [md0]) (j := 2) rfl fun v G5 H5 e5 pv m3 m4 => ?_
    obtain rfl : v = .int (i + 1) := pv
    have g6 : Gr [h, l] G H G5 (upd H5 h (.lst [.int mm, .ref l, .int (i + 1)])) := (g4.trans e5.gr.nil).putW (by simp) m4
    have a6 : At md0 G5 (upd H5 h (.lst [.int mm, .ref l, .int (i + 1)])) := ⟨g6.gh, trivial⟩
    have k11 := e5.gr.hh l _ (show upd H3 h (.lst [.int mm, .ref l, .int i]) l = _ by rw [upd_ne (Ne.symm hne)]; exact k9) (by simp [md0])
    show tRet _ _ _ (upd H5 h (.lst [.int mm, .ref l, .int (i + 1)]))
    refine s_ret (r := rInt (mm / 7 % n)) (ev_I (ev_I (ev_ixM (K := K) (v := .int mm) (ev_val rfl) upd_same (by simp [md0]) ev_c rfl) ev_c ⟨by decide, by decide⟩) (ev_val rfl) (by show 0 < n; omega)) a6 fun v G7 H7 e7 p => ?_
    obtain rfl : v = .int (mm / 7 % n) := p
    refine hQ _ G7 H7 (Int.emod_nonneg _ (by omega)) (Int.emod_lt_of_pos _ (by omega)) (g6.trans e7.gr.nil) ⟨mm, i + 1, cells, ?_, ?_, j3⟩
    · exact e7.gr.hh h _ upd_same (by simp [md0])
    · exact e7.gr.hh l _ (by rw [upd_ne (Ne.symm hne)]; exact k11) (by simp [md0])
end

end TH
namespace TH
open PySem PySem.Spec PyProof.Rows L2
/-! ### the state made -/
def sp_mix (K : PySem.W.Frag) : Sp := fun vs H Q _ => ∃ (v : V) (seed : Int) (cells : List Int) (G : Hp), vs = [v, .int seed] ∧ cells.length ≤ 1000 ∧ Le G H ∧ (rLst K (cells.map rInt)).P G v ∧
  ∀ h l G' H', Gr [] G H G' H' → H h = none → G' h = none → G' l = none → h ≠ l → JS h l H' → Q (.ref h) H'
section
variable {K : PySem.W.Frag} {σ : L2.St} {G H : Hp} {D : Ends} {tz : TS} {E : XK} {t : TA} {v : V}
/-- h = _law_mix(script, seed): from here on the law draws -/
theorem q_mix {i : Nat} {seed : Int} {cells : List Int} (ha : EvA md0 t σ G H [rLst K (cells.map rInt), rInt seed]) (hc : cells.length ≤ 1000) (a : At md0 G H)
    (k : ∀ h l G' H', Gr [] G H G' H' → SS h l G' H' → tz D (σ.set i (some (.ref h))) H') : tSeq (tAsg (tCall (sp_mix K) [] E t) (gName i)) tz D σ H :=
  ha G H a.go _ fun vs G1 H1 e ps => by
    obtain ⟨v1, v2, rfl, p1, p2⟩ := al2 ps
    obtain rfl : v2 = .int seed := p2
    exact ⟨v1, seed, cells, G1, rfl, hc, e.at.le, p1, fun h l G2 H2 g _ n1 n2 ne j => k h l G2 H2 (e.gr.trans g) ⟨n1, n2, ne, j⟩⟩
end
section
variable {P : Program} {w : World} {K : PySem.W.Frag} {mg : Str → Option Value} {base : Heap} {f : Addr} {fd : FuncData}
theorem sc__law_mix : FnScope ["_law_script", "_law_seed", "_law_mixed", "_law_cell"] ["_law_script", "_law_seed"] (defScope s__law_mix) := ⟨rfl, rfl, rfl, by decide +kernel, rfl, by decide +kernel, by decide +kernel⟩
theorem fn_law_mix (F : FnP K "_law_mix" "_law_mix" s__law_mix f fd) (T : Top K mg) : FnOk P w K mg base CX0 1 f fd ["_law_script", "_law_seed"] (sp_mix K) := by
  refine F.ok sc__law_mix (fun vs H Q E h => ?_) fun cdv A outer s H vs Q E hr h => ?_
  · obtain ⟨v, seed, cells, G, e, _⟩ := h
    rw [e]
    rfl
  suffices hs : ∃ t, PSs (cxOf CX0 P w K mg base ["_law_script", "_law_seed", "_law_mixed", "_law_cell"] "_law_mix" (defScope s__law_mix) f cdv A outer s H E).nox (defBody s__law_mix) t ∧ t { nx := fun _ H' => Q .non H', rt := Q } (L2.start ["_law_script", "_law_seed", "_law_mixed", "_law_cell"] vs) H by
    obtain ⟨t, h1, h2⟩ := hs
    exact ⟨t, h1.nox, h2⟩
  refine ⟨_, (pss_cons (ps_set (i := 2) sc__law_mix.nd rfl (Or.inl rfl) (pv 1)) (pss_cons (ps_for PassesOwn.never rfl (pi_list (pv 0)) (pg_name (i := 3) sc__law_mix.nd rfl (Or.inl rfl)) (pss_one (ps_set (i := 2) sc__law_mix.nd rfl (Or.inl rfl) (pe_op op_mod (pe_op op_add (pe_op op_add (pe_op op_mul (pv 2) pe_int) (pe_op op_mod (pv 3) pe_int)) pe_int) pe_int)))) (pss_one (ps_ret (pe_lst (pa_cons (pv 2) (pa_cons (pe_callTy (call_list_of) (by rfl) T.z_list (by decide +kernel) (pa_cons (pv 0) pa_nil)) (pa_cons pe_int pa_nil)))))))), ?_⟩
  obtain ⟨v, seed, cells, G, rfl, hc, le, hv, hQ⟩ := h
  have a0 : At md0 G H := ⟨le, trivial⟩
  refine q_asgV (v := .int seed) (ev_val rfl) a0 fun G1 H1 e1 => ?_
  refine q_for (W := []) (src_lst (K := K) (ev_var rfl (Rl.mono _ e1.gg hv))) e1.at (by simp [md0]) (fun i σ' _ _ => ∃ (m : Int) (x : Option V), σ' = [some v, some (.int seed), some (.int m), x]) (fun _ _ _ => ⟨seed, none, rfl⟩) (fun i r vr σ' G2 H2 hi hr2 g2 j2 hI N hN => ?_) (fun _ _ _ _ _ _ _ _ _ h => h) fun σ' G2 H2 g2 j2 hI => ?_
  · obtain ⟨m, x, rfl⟩ := hI
    rw [List.getElem?_map, Option.map_eq_some_iff] at hi
    obtain ⟨c, hi, rfl⟩ := hi
    obtain rfl : vr = .int c := hr2
    refine s_asg (r := rInt ((m * 48271 + c % 2147483629 + 1) % 2147483647)) (ev_I (ev_I0 (ev_I0 (ev_I (ev_val rfl) ev_c (.inr ⟨by decide, by decide⟩)) (ev_I (ev_val rfl) ev_c (by decide))) ev_c) ev_c (by decide)) ⟨g2.gh, j2⟩ fun v' G3 H3 e3 pv => ?_
    obtain rfl : v' = .int _ := pv
    exact hN _ G3 H3 e3.gr trivial ⟨_, _, rfl⟩
  · obtain ⟨m, x, rfl⟩ := hI
    have hv2 : (rLst K (cells.map rInt)).P G2 v := Rl.mono _ (e1.gg.trans g2.gg) hv
    have a2 : At md0 G2 H2 := ⟨g2.gh, trivial⟩
    show tLst _ _ H2 _
    refine ⟨_, rfl, en_list (K := K) (ev_var (i := 0) rfl hv2).sl G2 H2 a2.go _ fun l o G3 H3 e3 n1 n2 n3 ⟨vs, f1, f2⟩ => ⟨show 3 ≤ sizeLine by decide, fun h hh => ?_⟩⟩
    subst f1
    have f3 : vs = cells.map V.int := Al.vals f2
    subst f3
    have g3 : Gr [] G H G3 H3 := (e1.gr.trans g2).trans e3.gr
    have hl : h ≠ l := fun z => by subst z; rw [n3] at hh; cases hh
    refine hQ h l G3 (upd H3 h (.lst [.int m, .ref l, .int 0])) (g3.trans (e3.at.own hh).gr) ((Gr.go g3 trivial (M := md0) (W' := [])).back hh) (e3.at.le.free hh) n2 hl ⟨m, 0, cells, upd_same, ?_, hc⟩
    rw [upd_ne (Ne.symm hl)]
    exact n3
end

end TH
namespace TH
open PySem PySem.Spec PyProof.Rows L2
/-! ### _law_alike -/
section
variable {P : Program} {w : World} {K : PySem.W.Frag} {mg : Str → Option Value} {base : Heap} {f : Addr} {fd : FuncData}
theorem sc__law_alike : FnScope ["_law_found", "_law_due", "_law_k"] ["_law_found", "_law_due"] (defScope s__law_alike) := ⟨rfl, rfl, rfl, by decide +kernel, rfl, by decide +kernel, by decide +kernel⟩
theorem fn_law_alike {ps : List Str} (hps : ps = (["_law_found", "_law_due"] : List Str)) (F : FnP K "_law_alike" "_law_alike" s__law_alike f fd) (T : Top K mg) (W : ∀ k sp, FnOk P w K mg base CX0 k f fd ps sp → C8.Cal P w K mg base k "_law_alike" sp []) : ∀ n, FnOk P w K mg base CX0 n f fd ps (sp_alike K n)
  | 0 => ⟨fun _ _ _ _ h => False.elim h, fun _ _ _ _ _ _ _ _ _ _ _ _ _ h => False.elim h⟩
  | n + 1 => by
    have c_alike := W n _ (fn_law_alike hps F T W n)
    subst hps
    refine fn_pure F sc__law_alike (fun _ => rfl) fun cdv A outer s H E hr => ⟨_, (pss_cons (ps_if (pt_val (pe_callB (call_isiT) (by rfl) T.z_isinstance (by decide +kernel) (pa_cons (pv 1) (pa_cons (pe_tup (pa_cons (pe_bltn (v := .ty "tuple") rfl T.z_tuple (by decide +kernel) rfl) (pa_cons (pe_bltn (v := .ty "list") rfl T.z_list (by decide +kernel) rfl) pa_nil))) pa_nil)))) (pss_cons (ps_if (PW.pt (pw_or (pt_not (pt_val (pe_callB (call_isiT) (by rfl) T.z_isinstance (by decide +kernel) (pa_cons (pv 0) (pa_cons (pe_tup (pa_cons (pe_bltn (v := .ty "tuple") rfl T.z_tuple (by decide +kernel) rfl) (pa_cons (pe_bltn (v := .ty "list") rfl T.z_list (by decide +kernel) rfl) pa_nil))) pa_nil))))) (pw_or1 (pt_cmpR op_ne (pe_callB (call_isi) (by rfl) T.z_isinstance (by decide +kernel) (pa_cons (pv 0) (pa_cons (pe_bltn (v := .ty "list") rfl T.z_list (by decide +kernel) rfl) pa_nil))) (pe_callB (call_isi) (by rfl) T.z_isinstance (by decide +kernel) (pa_cons (pv 1) (pa_cons (pe_bltn (v := .ty "list") rfl T.z_list (by decide +kernel) rfl) pa_nil))) (nomark _))))) (pss_one (ps_ret pe_bl)) pss_nil) (pss_cons (ps_if (pt_cmpR op_ne (pe_callB (call_len_seq) (by rfl) T.z_len PySem.boot_len (pa_cons (pv 0) pa_nil)) (pe_callB (call_len_seq) (by rfl) T.z_len PySem.boot_len (pa_cons (pv 1) pa_nil)) (nomark _)) (pss_one (ps_ret pe_bl)) pss_nil) (pss_one (ps_ret (pe_cmpR (op_eqD hr.units) (pe_lc (own := [("_law_k", 2)]) rfl sc__law_alike.nd (pi_range1 rfl T.z_range (pa_cons (pe_callB (call_len_seq) (by rfl) T.z_len PySem.boot_len (pa_cons (pv 1) pa_nil)) pa_nil)) (blkOk_by (own := [("_law_k", 2)]) (N := ["_law_found", "_law_due", "_law_k"]) (sc := defScope s__law_alike) (by decide +kernel)) (fun _ _ _ _ _ => (pg_name (i := 2) sc__law_alike.nd rfl (Or.inl rfl))) (fun _ _ _ _ _ => ptsT (pts_one (pt_not (pt_val (C8.pe_c c_alike hr (by first | decide | omega) rfl (pa_cons (pe_ix ix_seq (pv 0) (pv 2) (fun _ _ => rfl)) (pa_cons (pe_ix ix_seq (pv 1) (pv 2) (fun _ _ => rfl)) pa_nil)))))) (by (try dsimp only [Cx.blk, Cx.nox, cxOf]) <;> rfl)) (fun _ _ _ _ _ => peT (pv 2) (by (try dsimp only [Cx.blk, Cx.nox, cxOf]) <;> rfl))) (pe_lst pa_nil) (nomark _)))))) pss_nil) (pss_cons (ps_if (PW.pt (pw_or (pt_cmpR op_isN (pv 1) pe_non (nomark _)) (pw_or1 (pt_val (pe_callB (call_isi) (by rfl) T.z_isinstance (by decide +kernel) (pa_cons (pv 1) (pa_cons (pe_bltn (v := .ty "str") rfl T.z_str (by decide +kernel) rfl) pa_nil))))))) (pss_one (ps_ret (pe_and (pe_cmpR op_eq (pv 0) (pv 1) (nomark _)) (pe_one (pe_cmpR op_eq (pe_callB (call_isi) (by rfl) T.z_isinstance (by decide +kernel) (pa_cons (pv 0) (pa_cons (pe_bltn (v := .ty "str") rfl T.z_str (by decide +kernel) rfl) pa_nil))) (pe_callB (call_isi) (by rfl) T.z_isinstance (by decide +kernel) (pa_cons (pv 1) (pa_cons (pe_bltn (v := .ty "str") rfl T.z_str (by decide +kernel) rfl) pa_nil))) (nomark _)))))) pss_nil) (pss_one (ps_ret (pe_and (pe_callB (call_isi) (by rfl) T.z_isinstance (by decide +kernel) (pa_cons (pv 0) (pa_cons (pe_bltn (v := .ty "int") rfl T.z_int (by decide +kernel) rfl) pa_nil))) (pe_and (pe_cmpR op_eq (pe_callB (call_isi) (by rfl) T.z_isinstance (by decide +kernel) (pa_cons (pv 0) (pa_cons (pe_bltn (v := .ty "bool") rfl T.z_bool (by decide +kernel) rfl) pa_nil))) (pe_callB (call_isi) (by rfl) T.z_isinstance (by decide +kernel) (pa_cons (pv 1) (pa_cons (pe_bltn (v := .ty "bool") rfl T.z_bool (by decide +kernel) rfl) pa_nil))) (nomark _)) (pe_one (pe_cmpR op_eq (pv 0) (pv 1) (nomark _))))))))), ?_⟩
    rintro ⟨r, hd⟩ G vs D a - al hrt hnx
    obtain ⟨x, y, rfl, hx, hy⟩ := al2 al
    have hx : r.P G x := hx
    have hy : r.P G y := hy
    have hrt : ∀ G' H', Gr [] G H G' H' → D.rt (.bl true) H' := fun G' H' g => hrt _ G' H' g rfl
    have done : ∀ {te : TE} {σ : L2.St} {G1 H1 : Hp}, Go md0 G H G1 H1 → Ev md0 te σ G1 H1 (rBl true) → tRet te D σ H1 := fun e h => s_ret h e.at fun v G' H' g p => by
      obtain rfl : v = .bl true := p
      exact hrt G' H' (e.trans g).gr
    have cs : (∃ (t : String) (rs : List Rl) (b1 b2 bL : Bool), TyR K t r ∧ kitB t "tuple" = some b1 ∧ kitB t "list" = some b2 ∧ (b1 || b2) = true ∧ kitB t "list" = some bL ∧ (∀ G v, r.P G v → (rSeq K rs).P G v) ∧ (∀ q ∈ rs, ∃ m, n = m + 1 ∧ AD K m q) ∧ rs.length ≤ 100000) ∨
        (∃ z, r = rStr z) ∨ r = rNon ∨ (∃ z, r = rInt z) ∨ ∃ z, r = rBl z := by
      cases hd with
      | @lst m rs h hl => exact .inl ⟨"list", rs, false, true, true, ty_lst, by decide +kernel, by decide +kernel, rfl, by decide +kernel, fun _ _ => rSeq_l, fun q hq => ⟨m, rfl, h q hq⟩, hl⟩
      | @tup m rs h hl => exact .inl ⟨"tuple", rs, true, false, false, ty_tup, by decide +kernel, by decide +kernel, rfl, by decide +kernel, fun _ _ => rSeq_t, fun q hq => ⟨m, rfl, h q hq⟩, hl⟩
      | str z => exact .inr (.inl ⟨z, rfl⟩)
      | non => exact .inr (.inr (.inl rfl))
      | int z => exact .inr (.inr (.inr (.inl ⟨z, rfl⟩)))
      | bl z => exact .inr (.inr (.inr (.inr ⟨z, rfl⟩)))
    rcases cs with ⟨t, rs, b1, b2, bL, ty, k1, k2, k3, k4, sq, hel, hlen⟩ | ⟨z, rfl⟩ | rfl | ⟨z, rfl⟩ | ⟨z, rfl⟩
    · -- all items
      refine q_if (B := fun b => b = true) ?_ a (fun _ G1 H1 e1 => ?_) fun hB => by cases hB
      · rw [← k3]
        exact et_B (ev_isiT (K := K) (ev_var rfl hy) ty k1 k2)
      · have hx1 := Rl.mono _ e1.gg hx
        have hy1 := Rl.mono _ e1.gg hy
        refine q_when (B := fun b => b = false) (et_or (a := false) (b := false) (et_not (a := true) ?_) fun _ => et_test ((ev_ne (x := .bl bL) (y := .bl bL) (ev_isi (K := K) (ev_var rfl hx1) ty k4) (ev_isi (K := K) (ev_var rfl hy1) ty k4) (by rfl)).imp fun _ _ p => by rwa [decide_eq_true rfl] at p)) e1.at (fun hB => by cases hB) fun _ G2 H2 e2 => ?_
        · rw [← k3]
          exact et_B (ev_isiT (K := K) (ev_var rfl hx1) ty k1 k2)
        have hx2 := sq _ _ (Rl.mono _ e2.gg hx1)
        have hy2 := sq _ _ (Rl.mono _ e2.gg hy1)
        refine q_when (B := fun b => b = false) (et_test ((ev_neI (ev_len (ev_var rfl hx2)) (ev_len (ev_var rfl hy2))).imp fun _ _ p => by rwa [decide_eq_true rfl] at p)) e2.at (fun hB => by cases hB) fun _ G3 H3 e3 => ?_
        have hx3 := Rl.mono _ e3.gg hx2
        have hy3 := Rl.mono _ e3.gg hy2
        refine done (e1.trans (e2.trans e3)) (ev_eqNil ?_)
        have := en_lcX (M := md0) (G := G3) (H := H3) (tt := tNot (tB (tCall (sp_alike K n) [] E0 (tCons (tOp (rIx K) (tVar 0) (tVar 2)) (tCons (tOp (rIx K) (tVar 1) (tVar 2)) tNil))))) (te := tVar 2) (vs := [2]) (j := 2) (enc := fun i : Nat => rInt (i : Nat)) (σ := [some x, some y, none]) (src_rng1 (ev_len (K := K) (ev_var (i := 1) rfl hy3)) ⟨by omega, by omega⟩)
          (fun _ => false) (fun i => rInt (i : Nat)) (fun _ => rfl) (fun i vi G4 H4 hi g4 pi => ⟨?_, fun z => by cases z⟩) (by rw [List.length_range]; omega)
        · rw [List.filter_eq_nil_iff.mpr (by simp)] at this
          exact this
        · have hi : i < rs.length := by have := List.mem_range.mp hi; omega
          obtain ⟨m, em, had⟩ := hel rs[i] (by simp)
          subst em
          have at1 : atI rs (i : Nat) = some rs[i] := by
            unfold atI ixN
            rw [if_pos (by omega), if_pos (by omega)]
            simp [hi]
          exact et_not (a := true) (et_B (ev_call (E := E0) (⟨rs[i], had⟩ : { r : Rl // AD K m r }) (ea_cons (ev_ix2 (ev_var rfl (Rl.mono _ g4.gg hx3)) (ev_var rfl pi) at1) (ea_cons (ev_ix2 (ev_var rfl (Rl.mono _ g4.gg hy3)) (ev_var rfl pi) at1) ea_nil)) fun _ _ _ => trivial))
    · refine q_when (et_B (ev_isiT (K := K) (b1 := false) (b2 := false) (ev_var rfl hy) ty_str (by decide +kernel) (by decide +kernel))) a (fun hB => by cases hB) fun hB G1 H1 e1 => ?_
      have hx1 := Rl.mono _ e1.gg hx
      have hy1 := Rl.mono _ e1.gg hy
      refine q_if (et_or (et_test (ev_isN (ev_var rfl hy1) (nn_ref (K := K) (by decide) ty_str))) fun _ => et_B (ev_isi (K := K) (b := true) (ev_var rfl hy1) ty_str (by decide +kernel))) e1.at (fun hB G2 H2 e2 => ?_) fun hB => by cases hB
      have hx2 := Rl.mono _ e2.gg hx1
      have hy2 := Rl.mono _ e2.gg hy1
      refine done (e1.trans e2) (ev_andV (a := true) (b := true) ((ev_eqS (ev_var rfl hx2) (ev_var rfl hy2)).imp fun _ _ p => by rwa [decide_eq_true rfl] at p) fun _ => (ev_eq (x := .bl true) (y := .bl true) (ev_isi (K := K) (b := true) (ev_var rfl hx2) ty_str (by decide +kernel)) (ev_isi (K := K) (b := true) (ev_var rfl hy2) ty_str (by decide +kernel)) (by rfl)))
    · refine q_when (et_B (ev_isiT (K := K) (b1 := false) (b2 := false) (ev_var rfl hy) ty_non (by decide +kernel) (by decide +kernel))) a (fun hB => by cases hB) fun hB G1 H1 e1 => ?_
      have hx1 := Rl.mono _ e1.gg hx
      have hy1 := Rl.mono _ e1.gg hy
      refine q_if (B := fun b => b = true) (et_or (a := true) (b := true) (et_test (ev_isN (ev_var rfl hy1) (fun G v p => by cases (show v = .non from p); rfl))) fun z => by cases z) e1.at (fun hB G2 H2 e2 => ?_) fun hB => by cases hB
      have hx2 := Rl.mono _ e2.gg hx1
      have hy2 := Rl.mono _ e2.gg hy1
      refine done (e1.trans e2) (ev_andV (a := true) (b := true) (ev_eq (x := .non) (y := .non) (ev_var rfl hx2) (ev_var rfl hy2) (by rfl)) fun _ => (ev_eq (x := .bl false) (y := .bl false) (ev_isi (K := K) (b := false) (ev_var rfl hx2) ty_non (by decide +kernel)) (ev_isi (K := K) (b := false) (ev_var rfl hy2) ty_non (by decide +kernel)) (by rfl)))
    · refine q_when (et_B (ev_isiT (K := K) (b1 := false) (b2 := false) (ev_var rfl hy) ty_int (by decide +kernel) (by decide +kernel))) a (fun hB => by cases hB) fun hB G1 H1 e1 => ?_
      have hx1 := Rl.mono _ e1.gg hx
      have hy1 := Rl.mono _ e1.gg hy
      refine q_if (B := fun b => b = false) (et_or (a := false) (b := false) (et_test (ev_isN (ev_var rfl hy1) (nn_ref (K := K) (by decide) ty_int))) fun _ => et_B (ev_isi (K := K) (b := false) (ev_var rfl hy1) ty_int (by decide +kernel))) e1.at (fun hB => by cases hB) fun hB G2 H2 e2 => ?_
      have hx2 := Rl.mono _ e2.gg hx1
      have hy2 := Rl.mono _ e2.gg hy1
      refine done (e1.trans e2) (ev_andV (a := true) (b := true) (ev_isi (K := K) (b := true) (ev_var rfl hx2) ty_int (by decide +kernel)) fun _ => ev_andV (a := true) (b := true) (ev_eq (x := .bl false) (y := .bl false) (ev_isi (K := K) (b := false) (ev_var rfl hx2) ty_int (by decide +kernel)) (ev_isi (K := K) (b := false) (ev_var rfl hy2) ty_int (by decide +kernel)) (by rfl)) fun _ => (ev_eqI (ev_var rfl hx2) (ev_var rfl hy2)).imp fun _ _ p => by rwa [decide_eq_true rfl] at p)
    · refine q_when (et_B (ev_isiT (K := K) (b1 := false) (b2 := false) (ev_var rfl hy) ty_bl (by decide +kernel) (by decide +kernel))) a (fun hB => by cases hB) fun hB G1 H1 e1 => ?_
      have hx1 := Rl.mono _ e1.gg hx
      have hy1 := Rl.mono _ e1.gg hy
      refine q_if (B := fun b => b = false) (et_or (a := false) (b := false) (et_test (ev_isN (ev_var rfl hy1) (nn_ref (K := K) (by decide) ty_bl))) fun _ => et_B (ev_isi (K := K) (b := false) (ev_var rfl hy1) ty_bl (by decide +kernel))) e1.at (fun hB => by cases hB) fun hB G2 H2 e2 => ?_
      have hx2 := Rl.mono _ e2.gg hx1
      have hy2 := Rl.mono _ e2.gg hy1
      refine done (e1.trans e2) (ev_andV (a := true) (b := true) (ev_isi (K := K) (b := true) (ev_var rfl hx2) ty_bl (by decide +kernel)) fun _ => ev_andV (a := true) (b := true) (ev_eq (x := .bl true) (y := .bl true) (ev_isi (K := K) (b := true) (ev_var rfl hx2) ty_bl (by decide +kernel)) (ev_isi (K := K) (b := true) (ev_var rfl hy2) ty_bl (by decide +kernel)) (by rfl)) fun _ => (ev_eq (x := .bl z) (y := .bl z) (ev_var rfl hx2) (ev_var rfl hy2) (by rfl)).imp fun _ _ p => by rwa [decide_eq_true rfl] at p)
end

end TH
namespace TH
open PySem PySem.Spec PyProof.Rows L2
/-! ### _law_leads -/
theorem leads_len : ∀ (l : List Nd) (acc : List Str) (k : Nat), (∀ n ∈ l, n.ot.length ≤ k) → (leadsAcc l acc).length ≤ acc.length + l.length * k
  | [], acc, k, _ => by simp [leadsAcc]
  | n :: t, acc, k, h => by
    have ih := leads_len t (if n.nm ∈ acc then acc ++ n.ot else acc) k fun m hm => h m (List.mem_cons_of_mem _ hm)
    have h1 := h n List.mem_cons_self
    have h2 : (if n.nm ∈ acc then acc ++ n.ot else acc).length ≤ acc.length + k := by
      split
      · rw [List.length_append]; omega
      · omega
    show (leadsAcc t (if n.nm ∈ acc then acc ++ n.ot else acc)).length ≤ _
    rw [List.length_cons, Nat.succ_mul]
    omega
theorem leads_app : ∀ (l : List Nd) (n : Nd) (acc : List Str), leadsAcc (l ++ [n]) acc = if n.nm ∈ leadsAcc l acc then leadsAcc l acc ++ n.ot else leadsAcc l acc
  | [], n, acc => rfl
  | m :: t, n, acc => leads_app t n (if m.nm ∈ acc then acc ++ m.ot else acc)
structure LdFit (ns : List Nd) (names : List Str) : Prop where
  n1 : ns.length ≤ 100
  n2 : names.length ≤ 100
  n3 : ∀ n ∈ ns, n.ot.length ≤ 100
def sp_leads (K : PySem.W.Frag) : Sp := spP (ι := List Nd × List Str) (fun i _ _ => LdFit i.1 i.2) (fun i => [rSeq K (i.1.map (rNd K)), rSeq K (i.2.map rStr)]) (fun i => rLsH ((closureM i.1 i.2).map rStr))
section
variable {P : Program} {w : World} {K : PySem.W.Frag} {mg : Str → Option Value} {base : Heap} {f : Addr} {fd : FuncData}
theorem sc__law_leads : FnScope ["_law_needs", "_law_names", "_law_found", "_law_name", "_law_scope", "_law_others", "_law_ways", "_law_row"] ["_law_needs", "_law_names"] (defScope s__law_leads) := ⟨rfl, rfl, rfl, by decide +kernel, rfl, by decide +kernel, by decide +kernel⟩
theorem fn_law_leads (F : FnP K "_law_leads" "_law_leads" s__law_leads f fd) (T : Top K mg) : FnOk P w K mg base CX0 1 f fd (["_law_needs", "_law_names"] : List Str) (sp_leads K) := by
  refine fn_pure F sc__law_leads (fun _ => rfl) fun cdv A outer s H E hr => ⟨_, (pss_cons (ps_set (i := 2) sc__law_leads.nd rfl (Or.inr rfl) (pe_callTy (call_list_of) (by rfl) T.z_list (by decide +kernel) (pa_cons (pv 1) pa_nil))) (pss_cons (ps_for PassesOwn.never rfl (pi_or2 (pi_list (pe_revL (pv 0))) (pi_tup (pe_revT (pv 0)))) (pg_tup rfl (pgs_cons (pg_name (i := 3) sc__law_leads.nd rfl (Or.inl rfl)) (pgs_cons (pg_name (i := 4) sc__law_leads.nd rfl (Or.inl rfl)) (pgs_cons (pg_name (i := 5) sc__law_leads.nd rfl (Or.inl rfl)) (pgs_cons (pg_name (i := 6) sc__law_leads.nd rfl (Or.inl rfl)) pgs_nil))))) (pss_one (ps_set (i := 2) sc__law_leads.nd rfl (Or.inr rfl) (pe_op op_cat (pv 2) (pe_op op_rep (pe_callTy (call_list_of) (by rfl) T.z_list (by decide +kernel) (pa_cons (pv 5) pa_nil)) (pe_callTy (call_int1) (by rfl) T.z_int (by decide +kernel) (pa_cons (pe_cmpR (op_inK (K := K) rfl) (pv 3) (pv 2) rfl) pa_nil))))))) (pss_one (ps_ret (pe_lc (own := [("_law_row", 7)]) rfl sc__law_leads.nd (pi_or2 (pi_list (pv 0)) (pi_tup (pv 0))) (blkOk_by (own := [("_law_row", 7)]) (N := ["_law_needs", "_law_names", "_law_found", "_law_name", "_law_scope", "_law_others", "_law_ways", "_law_row"]) (sc := defScope s__law_leads) (by decide +kernel)) (fun _ _ _ _ _ => (pg_name (i := 7) sc__law_leads.nd rfl (Or.inl rfl))) (fun _ _ _ _ _ => ptsT (pts_one (pt_cmpR (op_inK (K := K) rfl) (pe_ix ix_tup (pv 7) pe_int (fun _ _ => rfl)) (pv 2) rfl)) (by (try dsimp only [Cx.blk, Cx.nox, cxOf]) <;> rfl)) (fun _ _ _ _ _ => peT (pe_ix ix_tup (pv 7) pe_int (fun _ _ => rfl)) (by (try dsimp only [Cx.blk, Cx.nox, cxOf]) <;> rfl))))))), ?_⟩
  rintro ⟨ns, names⟩ G vs D a ok al hrt hnx
  obtain ⟨v, u, rfl, hv, hu⟩ := al2 al
  have hv : (rSeq K (ns.map (rNd K))).P G v := hv
  have hu : (rSeq K (names.map rStr)).P G u := hu
  obtain ⟨o1, o2, o3⟩ : LdFit ns names := ok
  refine q_asgN (EvN.strs (en_list (K := K) (ev_var rfl hu))) a fun l0 o G1 H1 e1 n1 n2 n3 f1 => ?_
  subst f1
  refine q_for (W := []) (src_seqR (K := K) rfl (Rl.mono _ e1.gg hv)) e1.at (by simp [md0]) (fun i σ' G' H' => ∃ l x1 x2 x3 x4, σ' = [some v, some u, some (.ref l), x1, x2, x3, x4, none] ∧ H' l = some (.lst ((leadsAcc (ns.reverse.take i) names).map V.str)) ∧ G' l = none) (fun G' H' e => ?_) (fun i r vr σ' G2 H2 hi hr2 g2 j2 hI N hN => ?_) (fun i r σ' G' H' G'' H'' _ g ⟨l, x1, x2, x3, x4, h1, h2, h3⟩ => ?_) fun σ' G2 H2 g2 j2 hI => ?_
  · obtain ⟨h1, h2⟩ := e.gr.loc n3 n2 (by simp [md0])
    exact ⟨l0, none, none, none, none, rfl, h1, h2⟩
  · obtain ⟨l, x1, x2, x3, x4, rfl, k1, k2⟩ := hI
    rw [← List.map_reverse, List.getElem?_map, Option.map_eq_some_iff] at hi
    obtain ⟨n, hi, rfl⟩ := hi
    have hm : n ∈ ns := List.mem_reverse.mp (List.mem_of_getElem? hi)
    have a2 : At md0 G2 H2 := ⟨g2.gh, trivial⟩
    refine g_tup (rs := [rStr n.nm, rStr n.sc, rTup K (n.ot.map rStr), rInt n.ws]) hr2 a2.le rfl fun vs ps => ?_
    obtain ⟨v1, v2, v3, v4, rfl, q1, q2, q3, q4⟩ := al4 ps
    obtain rfl : v1 = .str n.nm := q1
    refine gc_cons (gc_cons (gc_cons (gc_cons (gc_nil ?_))))
    have hlen : (leadsAcc (ns.reverse.take i) names).length ≤ 10100 := by
      have h1 := leads_len (ns.reverse.take i) names 100 fun m hm => o3 m (List.mem_reverse.mp (take_in hm))
      have h2 : (ns.reverse.take i).length ≤ 100 := by rw [List.length_take, List.length_reverse]; omega
      have h3 : (ns.reverse.take i).length * 100 ≤ 100 * 100 := Nat.mul_le_mul_right _ h2
      omega
    have ho := o3 n hm
    have hin := ev_inM (K := K) (M := md0) (neg := false) (ta := tVar 3) (tb := tVar 2) (σ := [some v, some u, some (.ref l), some (.str n.nm), some v2, some v3, some v4, none]) (G := G2) (H := H2) (x := n.nm) (ev_val rfl) (ev_val (v := .ref l) rfl) k1 (by simp [md0])
    have hk := ev_intB hin
    generalize hkk : (if (if false = true then !decide (n.nm ∈ leadsAcc (ns.reverse.take i) names) else decide (n.nm ∈ leadsAcc (ns.reverse.take i) names)) = true then (1 : Int) else 0) = kk at hk
    have hk2 : (kk = 1 ∧ n.nm ∈ leadsAcc (ns.reverse.take i) names) ∨ (kk = 0 ∧ n.nm ∉ leadsAcc (ns.reverse.take i) names) := by
      subst hkk
      by_cases c : n.nm ∈ leadsAcc (ns.reverse.take i) names
      · exact .inl ⟨by simp [c], c⟩
      · exact .inr ⟨by simp [c], c⟩
    refine s_asgN (en_catN (ev_val (v := .ref l) rfl) k1 (by simp [md0]) (en_rep (EvN.strs (en_list (K := K) (ev_var rfl q3).st)) hk ?_ ?_ ?_) ?_) a2 fun l2 o G3 H3 e3 m1 m2 m3 f3 => ?_
    · rcases hk2 with ⟨e, _⟩ | ⟨e, _⟩ <;> subst e <;> decide
    · rcases hk2 with ⟨e, _⟩ | ⟨e, _⟩ <;> subst e <;> decide
    · rw [List.length_map]
      rcases hk2 with ⟨e, _⟩ | ⟨e, _⟩
      · rw [e]; simp; omega
      · rw [e]; simp
    · rw [List.length_map, List.length_flatten, List.map_replicate, List.sum_replicate_nat, List.length_map]
      rcases hk2 with ⟨e, _⟩ | ⟨e, _⟩
      · rw [e]; simp; omega
      · rw [e]; simp; omega
    · subst f3
      refine hN _ G3 H3 e3.gr trivial ⟨l2, _, _, _, _, rfl, ?_, m2⟩
      rw [m3, List.take_add_one, hi]
      show some (HO.lst _) = some (HO.lst ((leadsAcc (ns.reverse.take i ++ [n]) names).map V.str))
      rw [leads_app]
      rcases hk2 with ⟨e, c⟩ | ⟨e, c⟩
      · rw [e]; simp [c]
      · rw [e]; simp [c]
  · obtain ⟨h4, h5⟩ := g.loc h2 h3 (by simp)
    exact ⟨l, x1, x2, x3, x4, h1, h4, h5⟩
  · obtain ⟨l, x1, x2, x3, x4, rfl, k1, k2⟩ := hI
    have a2 : At md0 G2 H2 := ⟨g2.gh, trivial⟩
    rw [List.length_reverse, List.length_map, show ns.reverse.take ns.length = ns.reverse by rw [← List.length_reverse, List.take_length]] at k1
    refine s_ret (EvN.lstH (en_lcX (enc := rNd K) (src_seq (K := K) rfl (Rl.mono _ (e1.gg.trans g2.gg) hv)) (fun n => decide (n.nm ∈ leadsAcc ns.reverse names)) (fun n => rStr n.nm) (fun _ => rfl) (fun n vn G3 H3 hn g3 pn => ⟨?_, fun _ => ev_ixT (ev_var rfl pn) ev_c rfl⟩) (by omega))) a2 fun v' G' H' g p => hrt v' G' H' (e1.gr.trans (g2.trans g.gr)) ?_
    · exact et_test (ev_inM (K := K) (neg := false) (ev_ixT (ev_var rfl pn) ev_c rfl) (ev_val (v := .ref l) rfl) (g3.gr.hh l _ k1 (by simp [md0])) (by simp [md0]))
    · have e : (ns.filter fun n => decide (n.nm ∈ leadsAcc ns.reverse names)).map (fun n => rStr n.nm) = (closureM ns names).map rStr := by
        unfold closureM
        rw [List.filter_map, List.map_map]
        rfl
      rw [e] at p
      exact p
end

end TH
namespace TH
open PySem PySem.Spec PyProof.Rows L2
/-! ### _law_some -/
/-- some of these, in some order -/
structure SubP (ys xs : List Str) : Prop where
  mem : ∀ y ∈ ys, y ∈ xs
  nd : xs.Nodup → ys.Nodup
  le : ys.length ≤ xs.length
def sp_some (K : PySem.W.Frag) : Sp := fun vs H Q _ => ∃ (h l : Addr) (n : Int) (xs : List Str) (v : V) (G : Hp), vs = [.ref h, v, .int n] ∧ 1 ≤ n ∧ n < 1073741824 ∧ Le G H ∧ SS h l G H ∧ (rLst K (xs.map rStr)).P G v ∧ xs.length ≤ 100000 ∧
  ∀ ys v' G' H', SubP ys xs → Gr [h, l] G H G' H' → JS h l H' → (rTup K (ys.map rStr)).P G' v' → Q v' H'
section
variable {K : PySem.W.Frag} {σ : L2.St} {G H : Hp} {h l : Addr} {n : Int} {t : TA} {E : XK}
theorem ev_some {xs : List Str} (s : SS h l G H) (ha : EvA (mdS h l) t σ G H [rRef h, rLst K (xs.map rStr), rInt n]) (hx : xs.length ≤ 100000) (n1 : 1 ≤ n) (n2 : n < 1073741824) :
    Ev (mdS h l) (tCall (sp_some K) [] E t) σ G H (rEx fun ys : { ys : List Str // SubP ys xs } => rTup K (ys.1.map rStr)) := fun G1 H1 a Q q =>
  ha G1 H1 a _ fun vs G2 H2 b ps => by
    obtain ⟨v1, v2, v3, rfl, p1, p2, p3⟩ := al3 ps
    obtain rfl : v1 = .ref h := p1
    obtain rfl : v3 = .int n := p3
    exact ⟨h, l, n, xs, v2, G2, rfl, n1, n2, b.at.le, s.go (a.trans b), p2, hx, fun ys v' G3 H3 hs g j p => q v' G3 H3 (b.trans (g.goS j)) ⟨⟨ys, hs⟩, p⟩⟩
end
section
variable {P : Program} {w : World} {K : PySem.W.Frag} {mg : Str → Option Value} {base : Heap} {f : Addr} {fd : FuncData}
theorem sc__law_some : FnScope ["_law_h", "_law_names", "_law_often", "_law_found", "_law_name"] ["_law_h", "_law_names", "_law_often"] (defScope s__law_some) := ⟨rfl, rfl, rfl, by decide +kernel, rfl, by decide +kernel, by decide +kernel⟩
theorem fn_law_some (F : FnP K "_law_some" "_law_some" s__law_some f fd) (T : Top K mg) (c_next : C8.Cal P w K mg base 1 "_law_next" sp_next []) : FnOk P w K mg base CX0 2 f fd (["_law_h", "_law_names", "_law_often"] : List Str) (sp_some K) := by
  refine F.ok sc__law_some (fun vs H Q E h => ?_) fun cdv A outer s H vs Q E hr h => ?_
  · obtain ⟨h, l, n, xs, v, G, e, _⟩ := h
    rw [e]
    rfl
  suffices hs : ∃ t, PSs (cxOf CX0 P w K mg base (["_law_h", "_law_names", "_law_often", "_law_found", "_law_name"] : List Str) "_law_some" (defScope s__law_some) f cdv A outer s H E).nox (defBody s__law_some) t ∧ t { nx := fun _ H' => Q .non H', rt := Q } (L2.start (["_law_h", "_law_names", "_law_often", "_law_found", "_law_name"] : List Str) vs) H by
    obtain ⟨t, h1, h2⟩ := hs
    exact ⟨t, h1.nox, h2⟩
  refine ⟨_, (pss_cons (ps_setLc (i := 3) (own := [("_law_name", 4)]) rfl sc__law_some.nd rfl rfl (sw_true rfl rfl rfl (by decide +kernel)) (pi_list (pv 1)) (blkOk_by (own := [("_law_name", 4)]) (N := ["_law_h", "_law_names", "_law_often", "_law_found", "_law_name"]) (sc := defScope s__law_some) (by decide +kernel)) (fun _ _ _ _ _ => (pg_name (i := 4) sc__law_some.nd rfl (Or.inl rfl))) (fun _ _ _ _ _ => ptsT (pts_one (pt_cmpR op_eq (C8.pe_c c_next hr (by first | decide | omega) rfl (pa_cons (pv 0) (pa_cons (pv 2) pa_nil))) pe_int (nomark _))) (by (try dsimp only [Cx.blk, Cx.nox, cxOf]) <;> rfl)) (fun _ _ _ _ _ => peT (pv 4) (by (try dsimp only [Cx.blk, Cx.nox, cxOf]) <;> rfl))) (pss_one (ps_ret (pe_callTy (call_tuple_of) (by rfl) T.z_tuple (by decide +kernel) (pa_cons (pe_ifExp (pt_cmpR op_eq (C8.pe_c c_next hr (by first | decide | omega) rfl (pa_cons (pv 0) (pa_cons pe_int pa_nil))) pe_int (nomark _)) (pe_revL (pv 3)) (pv 3)) pa_nil))))), ?_⟩
  obtain ⟨h, l, n, xs, v, G, rfl, n1, n2, le, ss, hv, hx, hQ⟩ := h
  have a0 : At (mdS h l) G H := ss.at le
  refine q_asg (EvN.fix (r := rEx fun ys : { ys : List Str // SubP ys xs } => rLst K (ys.1.map rStr)) (en_lc (src_lst (K := K) (ev_var rfl hv)) (fun i out => ∃ ys : List Str, out = ys.map rStr ∧ ys.Sublist (xs.take i)) ⟨[], rfl, List.nil_sublist _⟩
    (fun i r vr G1 H1 hi g1 hp => ?_) (by rw [List.length_map]; exact hx)) fun G1 G2 p o ⟨out, ⟨ys, e1, e2⟩, vs, e3, e4⟩ le2 hg => ?_) a0 fun v1 G1 H1 e1 ⟨ys, py⟩ => ?_
  · rw [List.getElem?_map, Option.map_eq_some_iff] at hi
    obtain ⟨x, hi, rfl⟩ := hi
    obtain rfl : vr = .str x := hp
    refine ⟨_, fun Q hQ => hQ, rfl, fun _ => True, et_any (ev_drawEq (ev_draw (l := l) (ss.go g1) (ea_cons (ev_val rfl) (ea_cons (ev_val rfl) ea_nil)) n1 n2) ev_c), fun _ => ⟨rStr x, ev_val rfl, fun out ⟨ys, e1, e2⟩ => ⟨ys ++ [x], by rw [e1, List.map_append]; rfl, ?_⟩⟩, fun _ out ⟨ys, e1, e2⟩ => ⟨ys, e1, ?_⟩⟩
    · rw [List.take_add_one, hi]
      exact e2.append (List.Sublist.refl [x])
    · rw [List.take_add_one]
      exact e2.trans (List.sublist_append_left _ _)
  · rw [List.length_map, List.take_length] at e2
    subst e1 e3
    exact ⟨⟨ys, fun y hy => e2.subset hy, fun hn => e2.nodup hn, e2.length_le⟩, p, vs, rfl, .of hg, e4.mono le2⟩
  · have ss1 := ss.go e1
    have py : (rLst K (ys.1.map rStr)).P G1 v1 := py
    refine s_ret (ev_tupleX (K := K) (f := fun ys : { ys : List Str // SubP ys xs } => ys.1.map rStr) (ev_if (et_any (ev_drawEq (ev_draw (l := l) ss1 (ea_cons (ev_val rfl) (ea_cons ev_c ea_nil)) (by decide) (by decide)) ev_c)) (fun _ => (ev_revL (ev_var rfl py)).imp fun G' z p => ?_) fun _ => (ev_var rfl py).imp fun G' z p => ⟨ys, p⟩)) e1.at fun v2 G2 H2 e2 ⟨zs, pz⟩ => hQ zs.1 v2 G2 H2 zs.2 (e1.trans e2).gr (e1.trans e2).j pz
    rw [← List.map_reverse] at p
    exact ⟨⟨ys.1.reverse, fun y hy => ys.2.mem y (List.mem_reverse.mp hy), fun hn => (List.reverse_perm ys.1).nodup_iff.mpr (ys.2.nd hn), by rw [List.length_reverse]; exact ys.2.le⟩, p⟩
end

end TH
namespace TH
open PySem PySem.Spec PyProof.Rows L2
/-! ### the books that the laws draw -/
def nName (i : Nat) : Str := ⟨#[110, 97 + i]⟩
def tName (i : Nat) : Str := ⟨#[116, 97 + i]⟩
abbrev hNames : List Str := ["ha", "hb", "hc"]
abbrev gNames : List Str := ["ga", "gb"]
abbrev mNames : List Str := ["fast", "slow", "db"]
structure GenN (ns : List Nd) : Prop where
  is : ∀ i n, ns[i]? = some n → isNeed (ns.take i) n = true
  nm : ∀ i n, ns[i]? = some n → n.nm = nName i
  ws : ∀ n ∈ ns, n.ws = 1 ∨ n.ws = 2 ∨ n.ws = 3
  le : ns.length ≤ 12
structure GenT (ns : List Nd) (ts : List Tr) : Prop where
  is : ∀ i t, ts[i]? = some t → isTry ns (ts.take i) t = true
  nm : ∀ i t, ts[i]? = some t → t.nm = tName i
  hs : ∀ t ∈ ts, t.hs ∈ hNames
  gp : ∀ t ∈ ts, t.gp ∈ gNames
  ms : ∀ t ∈ ts, ∀ m ∈ t.ms, m ∈ mNames
  tm : ∀ t ∈ ts, t.tm = 1 ∨ t.tm = 2 ∨ t.tm = 4
  mn : ∀ t ∈ ts, manyOf ns t.nd < 13
  le : ts.length ≤ 10
theorem nName_is : ∀ i : Fin 12, isName (nName i) = true := by decide +kernel
theorem tName_is : ∀ i : Fin 10, isName (tName i) = true := by decide +kernel
theorem nName_inj {i j : Nat} (h : nName i = nName j) : i = j := by
  have h := congrArg (fun x : Str => x.cps.toList) h
  simp only [nName] at h
  injection h with _ h
  injection h with h
  omega
theorem tName_inj {i j : Nat} (h : tName i = tName j) : i = j := by
  have h := congrArg (fun x : Str => x.cps.toList) h
  simp only [tName] at h
  injection h with _ h
  injection h with h
  omega
theorem isName_fit {x : Str} (h : isName x = true) : x.length ≤ 100000 := Nat.le_trans (name_len h) (by decide)
theorem NdLike.fit {seen : List Nd} {n : Nd} (q : NdLike seen n) (h : seen.length ≤ 1000) : NdFit n := by
  refine ⟨isName_fit q.nm, ?_, fun o ho => isName_fit (areUnlike_names q.un o ho)⟩
  have := sub_len (areUnlike_nodup q.un) q.ot
  rw [List.length_map] at this
  omega
theorem hg_names : (∀ x ∈ hNames ++ (gNames ++ mNames), isName x = true) := by decide +kernel
theorem ms_len {t : Tr} {ns : List Nd} {seen : List Tr} (q : TrLike ns seen t) (h : ∀ m ∈ t.ms, m ∈ mNames) : t.ms.length ≤ 3 := sub_len (areUnlike_nodup q.ms) h
theorem GenT.fit {ns : List Nd} {ts : List Tr} (g : GenT ns ts) (hn : ns.length ≤ 100) {t : Tr} (ht : t ∈ ts) : TrFit t := by
  obtain ⟨i, hi⟩ := List.getElem?_of_mem ht
  have q := isTry_like.mp (g.is i t hi)
  have f := q.few
  refine ⟨fun x hx => isName_fit (q.nm x hx), ⟨by omega, fun o ho => isName_fit (areUnlike_names q.un o ho)⟩, ?_, fun o ho => isName_fit (areUnlike_names q.ms o ho)⟩
  have := ms_len q (g.ms t ht)
  omega
theorem genBook {ns : List Nd} {ts : List Tr} (g : GenN ns) (k : GenT ns ts) : BookOk ns ts where
  n1 := g.is
  n2 := fun n hn => by
    obtain ⟨i, hi⟩ := List.getElem?_of_mem hn
    have := g.le
    exact (isNeed_like.mp (g.is i n hi)).fit (by rw [List.length_take]; omega)
  n3 := g.le
  t1 := k.is
  t2 := fun t ht => k.fit (by have := g.le; omega) ht
  t3 := by have := k.le; omega
theorem GenN.snoc {ns : List Nd} {n : Nd} (g : GenN ns) (h : isNeed ns n = true) (nm : n.nm = nName ns.length) (ws : n.ws = 1 ∨ n.ws = 2 ∨ n.ws = 3) (le : ns.length < 12) : GenN (ns ++ [n]) := by
  have at' : ∀ i m, (ns ++ [n])[i]? = some m → (i < ns.length ∧ ns[i]? = some m) ∨ (i = ns.length ∧ m = n) := fun i m e => by
    by_cases c : i < ns.length
    · rw [List.getElem?_append_left c] at e
      exact .inl ⟨c, e⟩
    · rw [List.getElem?_append_right (by omega)] at e
      have : i - ns.length = 0 := by
        cases q : i - ns.length with
        | zero => rfl
        | succ k => rw [q] at e; cases e
      rw [this] at e
      cases e
      exact .inr ⟨by omega, rfl⟩
  refine ⟨fun i m e => ?_, fun i m e => ?_, fun m hm => ?_, by rw [List.length_append]; exact le⟩
  · rcases at' i m e with ⟨c, e1⟩ | ⟨c, e1⟩
    · rw [List.take_append_of_le_length (by omega)]
      exact g.is i m e1
    · subst c e1
      rw [List.take_append_of_le_length (Nat.le_refl _), List.take_length]
      exact h
  · rcases at' i m e with ⟨c, e1⟩ | ⟨c, e1⟩
    · exact g.nm i m e1
    · subst c e1
      exact nm
  · rcases List.mem_append.mp hm with z | z
    · exact g.ws m z
    · rw [List.mem_singleton.mp z]; exact ws
theorem GenT.snoc {ns : List Nd} {ts : List Tr} {t : Tr} (g : GenT ns ts) (h : isTry ns ts t = true) (nm : t.nm = tName ts.length) (hs : t.hs ∈ hNames) (gp : t.gp ∈ gNames) (ms : ∀ m ∈ t.ms, m ∈ mNames) (tm : t.tm = 1 ∨ t.tm = 2 ∨ t.tm = 4) (mn : manyOf ns t.nd < 13) (le : ts.length < 10) : GenT ns (ts ++ [t]) := by
  have at' : ∀ i m, (ts ++ [t])[i]? = some m → (i < ts.length ∧ ts[i]? = some m) ∨ (i = ts.length ∧ m = t) := fun i m e => by
    by_cases c : i < ts.length
    · rw [List.getElem?_append_left c] at e
      exact .inl ⟨c, e⟩
    · rw [List.getElem?_append_right (by omega)] at e
      have : i - ts.length = 0 := by
        cases q : i - ts.length with
        | zero => rfl
        | succ k => rw [q] at e; cases e
      rw [this] at e
      cases e
      exact .inr ⟨by omega, rfl⟩
  have mem : ∀ {P : Tr → Prop}, (∀ m ∈ ts, P m) → P t → ∀ m ∈ ts ++ [t], P m := fun h1 h2 m hm => by
    rcases List.mem_append.mp hm with z | z
    · exact h1 m z
    · rw [List.mem_singleton.mp z]; exact h2
  refine ⟨fun i m e => ?_, fun i m e => ?_, mem g.hs hs, mem g.gp gp, mem g.ms ms, mem g.tm tm, mem g.mn mn, by rw [List.length_append]; exact le⟩
  · rcases at' i m e with ⟨c, e1⟩ | ⟨c, e1⟩
    · rw [List.take_append_of_le_length (by omega)]
      exact g.is i m e1
    · subst c e1
      rw [List.take_append_of_le_length (Nat.le_refl _), List.take_length]
      exact h
  · rcases at' i m e with ⟨c, e1⟩ | ⟨c, e1⟩
    · exact g.nm i m e1
    · subst c e1
      exact nm
/-- a drawn need is one -/
theorem drawn_need {ns : List Nd} {n : Nd} {wide : Nat} (g : GenN ns) (le : ns.length < 12) (nm : n.nm = nName ns.length) (hw : wide < 4) (sc : scopes4[wide]? = some n.sc) (ws : n.ws = 1 ∨ n.ws = 2 ∨ n.ws = 3)
    (ot : SubP n.ot ((ns.filter fun m => decide (((scIx m.sc : Nat) : Int) ≤ wide)).map Nd.nm)) : isNeed ns n = true := by
  have nodup : (ns.map Nd.nm).Nodup := by
    have : ∀ i n, ns[i]? = some n → NdLike (ns.take i) n := fun i n h => isNeed_like.mp (g.is i n h)
    exact (ordN_of this ns.length 0 (by omega)).nodup
  have names : ∀ m ∈ ns, isName m.nm = true := fun m hm => by
    obtain ⟨i, hi⟩ := List.getElem?_of_mem hm
    exact (isNeed_like.mp (g.is i m hi)).nm
  have scn : scIx n.sc = wide := by
    have : ∀ w : Fin 4, scIx (scopes4[w.1]'w.2) = w.1 := by decide +kernel
    have e := this ⟨wide, hw⟩
    rw [List.getElem?_eq_getElem (by exact hw)] at sc
    rw [← Option.some.inj sc]
    exact e
  have sub : ∀ o ∈ n.ot, ∃ m ∈ ns, m.nm = o ∧ scIx m.sc ≤ wide := fun o ho => by
    obtain ⟨m, hm, e⟩ := List.mem_map.mp (ot.mem o ho)
    obtain ⟨h1, h2⟩ := List.mem_filter.mp hm
    have h2 := of_decide_eq_true h2
    exact ⟨m, h1, e, by omega⟩
  refine isNeed_like.mpr ⟨?_, fun z => ?_, List.mem_of_getElem? sc, ?_, ?_, ?_, fun o ho => ?_, fun o ho => ?_⟩
  · rw [nm]; exact nName_is ⟨ns.length, le⟩
  · obtain ⟨m, hm, e⟩ := List.mem_map.mp z
    obtain ⟨i, hi⟩ := List.getElem?_of_mem hm
    rw [g.nm i m hi, nm] at e
    have := nName_inj e
    have := (List.getElem?_eq_some_iff.mp hi).1
    omega
  · omega
  · omega
  · unfold areUnlike
    rw [Bool.and_eq_true, decide_eq_true_iff, List.all_eq_true]
    refine ⟨fun o ho => ?_, ot.nd ?_⟩
    · obtain ⟨m, hm, e, _⟩ := sub o ho
      rw [← e]; exact names m hm
    · exact (List.filter_sublist.map Nd.nm).nodup nodup
  · obtain ⟨m, hm, e, _⟩ := sub o ho
    exact List.mem_map.mpr ⟨m, hm, e⟩
  · obtain ⟨m, hm, e, hl⟩ := sub o ho
    obtain ⟨j, m', h1, h2, h3⟩ := findNd_some (i := 0) (List.mem_map.mpr ⟨m, hm, e⟩)
    rw [h1, scn]
    have : m' = m := one_nm nodup h2 hm (by rw [h3, e])
    rw [this]
    exact hl
theorem closureM_nil (ns : List Nd) : closureM ns [] = [] := by
  have : ∀ l : List Nd, leadsAcc l [] = [] := fun l => by
    induction l with
    | nil => rfl
    | cons n t ih =>
      show leadsAcc t (if n.nm ∈ ([] : List Str) then [] ++ n.ot else []) = []
      rw [if_neg (fun z => nomatch z)]
      exact ih
  unfold closureM
  rw [this]
  exact List.filter_eq_nil_iff.mpr (fun x _ => by simp)
theorem drawn_try {ns : List Nd} {ts : List Tr} {t : Tr} (g : GenN ns) (k : GenT ns ts) (le : ts.length < 10) (nm : t.nm = tName ts.length) (hs : t.hs ∈ hNames) (gp : t.gp ∈ gNames) (nd : SubP t.nd (ns.map Nd.nm)) (ms : SubP t.ms mNames) (tm : t.tm = 1 ∨ t.tm = 2 ∨ t.tm = 4) (mn : manyOf ns t.nd < 13) : isTry ns ts t = true := by
  have nodup : (ns.map Nd.nm).Nodup := by
    have : ∀ i n, ns[i]? = some n → NdLike (ns.take i) n := fun i n h => isNeed_like.mp (g.is i n h)
    exact (ordN_of this ns.length 0 (by omega)).nodup
  have names : ∀ x ∈ ns.map Nd.nm, isName x = true := fun x hx => by
    obtain ⟨m, hm, e⟩ := List.mem_map.mp hx
    obtain ⟨i, hi⟩ := List.getElem?_of_mem hm
    rw [← e]
    exact (isNeed_like.mp (g.is i m hi)).nm
  refine isTry_like.mpr ⟨fun x hx => ?_, fun z => ?_, ?_, nd.mem, ?_, by omega, by omega, by omega⟩
  · simp only [List.mem_cons, List.not_mem_nil, or_false] at hx
    rcases hx with e | e | e
    · rw [e, nm]; exact tName_is ⟨ts.length, le⟩
    · rw [e]; exact hg_names _ (List.mem_append_left _ hs)
    · rw [e]; exact hg_names _ (List.mem_append_right _ (List.mem_append_left _ gp))
  · obtain ⟨m, hm, e⟩ := List.mem_map.mp z
    obtain ⟨i, hi⟩ := List.getElem?_of_mem hm
    rw [k.nm i m hi, nm] at e
    have := tName_inj e
    have := (List.getElem?_eq_some_iff.mp hi).1
    omega
  · unfold areUnlike
    rw [Bool.and_eq_true, decide_eq_true_iff, List.all_eq_true]
    exact ⟨fun o ho => names o (nd.mem o ho), nd.nd nodup⟩
  · unfold areUnlike
    rw [Bool.and_eq_true, decide_eq_true_iff, List.all_eq_true]
    exact ⟨fun o ho => hg_names o (List.mem_append_right _ (List.mem_append_right _ (ms.mem o ho))), ms.nd (by decide +kernel)⟩
theorem GenN.nil : GenN [] := by
  refine ⟨fun i n z => ?_, fun i n z => ?_, fun n z => (nomatch z), by decide⟩
  · simp at z
  · simp at z
theorem GenT.nil (ns : List Nd) : GenT ns [] := by
  refine ⟨fun i n z => ?_, fun i n z => ?_, fun n z => (nomatch z), fun n z => (nomatch z), fun n z => (nomatch z), fun n z => (nomatch z), fun n z => (nomatch z), by decide⟩
  · simp at z
  · simp at z

end TH
namespace TH
open PySem PySem.Spec PyProof.Rows L2
/-! ### _law_book, walked -/
def sp_book (K : PySem.W.Frag) : Sp := fun vs H Q _ => ∃ (h l : Addr) (a b : Nat) (G : Hp), vs = [.ref h, .int (a : Nat), .int (b : Nat)] ∧ a ≤ 12 ∧ b ≤ 10 ∧ Le G H ∧ SS h l G H ∧
  ∀ ns ts v' G' H', GenN ns → GenT ns ts → ns.length ≤ a → ts.length ≤ b → Gr [h, l] G H G' H' → JS h l H' → (rRows K ns ts).P G' v' → Q v' H'
/-- what is drawn -/
def Drawn (a b : Nat) (p : List Nd × List Tr) : Prop := GenN p.1 ∧ GenT p.1 p.2 ∧ p.1.length ≤ a ∧ p.2.length ≤ b
section
variable {K : PySem.W.Frag} {σ : L2.St} {G H : Hp} {h l : Addr} {n : Int} {t : TA} {E : XK}
theorem ev_drawBook {a b : Nat} (s : SS h l G H) (ha : EvA (mdS h l) t σ G H [rRef h, rInt (a : Nat), rInt (b : Nat)]) (h1 : a ≤ 12) (h2 : b ≤ 10) :
    Ev (mdS h l) (tCall (sp_book K) [] E t) σ G H (rEx fun p : { p : List Nd × List Tr // Drawn a b p } => rRows K p.1.1 p.1.2) := fun G1 H1 e Q q =>
  ha G1 H1 e _ fun vs G2 H2 f ps => by
    obtain ⟨v1, v2, v3, rfl, p1, p2, p3⟩ := al3 ps
    obtain rfl : v1 = .ref h := p1
    obtain rfl : v2 = .int (a : Nat) := p2
    obtain rfl : v3 = .int (b : Nat) := p3
    exact ⟨h, l, a, b, G2, rfl, h1, h2, f.at.le, s.go (e.trans f), fun ns ts v' G3 H3 g1 g2 g3 g4 g j p => q v' G3 H3 (f.trans (g.goS j)) ⟨⟨(ns, ts), g1, g2, g3, g4⟩, p⟩⟩
end
theorem sub3 {h l x b : Addr} (hb : b ∈ [h, l]) : b ∈ [h, l, x] := by
  rcases List.mem_cons.mp hb with z | z
  · rw [z]; exact List.mem_cons_self
  · rw [List.mem_singleton.mp z]; exact List.mem_cons_of_mem _ List.mem_cons_self
theorem nLet : ∀ i : Fin 12, atI ("abcdefghijkl" : Str).cps.toList ((i.1 : Nat) : Int) = some (97 + i.1) ∧ ("n" : Str) ++ (⟨#[97 + i.1]⟩ : Str) = nName i.1 := by decide +kernel
theorem tLet : ∀ i : Fin 10, atI ("abcdefghij" : Str).cps.toList ((i.1 : Nat) : Int) = some (97 + i.1) ∧ ("t" : Str) ++ (⟨#[97 + i.1]⟩ : Str) = tName i.1 := by decide +kernel
theorem hLet : ∀ i : Fin 3, ("h" : Str) ++ (⟨#[("abc" : Str).cps.toList[i.1]'(by have := i.2; exact this)]⟩ : Str) ∈ hNames := by decide +kernel
theorem gLet : ∀ i : Fin 2, ("g" : Str) ++ (⟨#[("ab" : Str).cps.toList[i.1]'(by have := i.2; exact this)]⟩ : Str) ∈ gNames := by decide +kernel
theorem tm4 : ∀ i : Fin 4, ∃ tm : Int, (tm = 1 ∨ tm = 2 ∨ tm = 4) ∧ (([rInt 1, rInt 1, rInt 2, rInt 4] : List Rl)[i.1]'(by exact i.2)) = rInt tm
  | ⟨0, _⟩ => ⟨1, .inl rfl, rfl⟩
  | ⟨1, _⟩ => ⟨1, .inl rfl, rfl⟩
  | ⟨2, _⟩ => ⟨2, .inr (.inl rfl), rfl⟩
  | ⟨3, _⟩ => ⟨4, .inr (.inr rfl), rfl⟩
theorem filter_ways {ns : List Nd} {x : Str} {j : Nat} {m : Nd} (h : findNd x 0 ns = some (j, m)) : atI ((ns.filter fun n => decide (n.nm = x)).map fun n => rInt n.ws) 0 = some (rInt m.ws) := by
  have : ∀ {i : Nat} {ns : List Nd}, findNd x i ns = some (j, m) → ∃ t, ns.filter (fun n => decide (n.nm = x)) = m :: t := by
    intro i ns
    induction ns generalizing i with
    | nil => intro h; cases h
    | cons n t ih =>
      intro h
      unfold findNd at h
      by_cases c : n.nm = x
      · rw [if_pos c] at h
        cases h
        exact ⟨_, by rw [List.filter_cons, if_pos (decide_eq_true c)]⟩
      · rw [if_neg c] at h
        rw [List.filter_cons, if_neg (by simpa using c)]
        exact ih h
  obtain ⟨t, e⟩ := this h
  rw [e]
  unfold atI ixN
  rw [if_pos (by omega), if_pos (by rw [List.map_cons, List.length_cons]; omega)]
  rfl
section
variable {P : Program} {w : World} {K : PySem.W.Frag} {mg : Str → Option Value} {base : Heap} {f : Addr} {fd : FuncData}
theorem sc__law_book : FnScope ["_law_h", "_law_many_needs", "_law_many_tries", "_law_scopes", "_law_needs", "_law_tries", "_law_k", "_law_wide", "_law_others", "_law_ways", "_law_house", "_law_group", "_law_names", "_law_marks", "_law_row", "_law_many", "_law_name", "_law_need"] ["_law_h", "_law_many_needs", "_law_many_tries"] (defScope s__law_book) := ⟨rfl, rfl, rfl, by decide +kernel, rfl, by decide +kernel, by decide +kernel⟩
theorem fn_law_book (F : FnP K "_law_book" "_law_book" s__law_book f fd) (T : Top K mg) (c_next : C8.Cal P w K mg base 1 "_law_next" sp_next []) (c_some : C8.Cal P w K mg base 2 "_law_some" (sp_some K) []) (c_leads : C8.Cal P w K mg base 1 "_law_leads" (sp_leads K) []) : FnOk P w K mg base CX0 3 f fd (["_law_h", "_law_many_needs", "_law_many_tries"] : List Str) (sp_book K) := by
  refine F.ok sc__law_book (fun vs H Q E h => ?_) fun cdv A outer s H vs Q E hr h => ?_
  · obtain ⟨h, l, a, b, G, e, _⟩ := h
    rw [e]
    rfl
  suffices hs : ∃ t, PSs (cxOf CX0 P w K mg base (["_law_h", "_law_many_needs", "_law_many_tries", "_law_scopes", "_law_needs", "_law_tries", "_law_k", "_law_wide", "_law_others", "_law_ways", "_law_house", "_law_group", "_law_names", "_law_marks", "_law_row", "_law_many", "_law_name", "_law_need"] : List Str) "_law_book" (defScope s__law_book) f cdv A outer s H E).nox (defBody s__law_book) t ∧ t { nx := fun _ H' => Q .non H', rt := Q } (L2.start (["_law_h", "_law_many_needs", "_law_many_tries", "_law_scopes", "_law_needs", "_law_tries", "_law_k", "_law_wide", "_law_others", "_law_ways", "_law_house", "_law_group", "_law_names", "_law_marks", "_law_row", "_law_many", "_law_name", "_law_need"] : List Str) vs) H by
    obtain ⟨t, h1, h2⟩ := hs
    exact ⟨t, h1.nox, h2⟩
  refine ⟨_, (pss_cons (ps_set (i := 3) sc__law_book.nd rfl (Or.inr rfl) (pe_lst (pa_cons pe_str (pa_cons pe_str (pa_cons pe_str (pa_cons pe_str pa_nil)))))) (pss_cons (ps_par (i := 4) (j := 5) (by rfl) sc__law_book.nd rfl rfl (by decide) rfl rfl (pa_cons (pe_lst pa_nil) (pa_cons (pe_lst pa_nil) pa_nil)) (by rfl)) (pss_cons (ps_for PassesOwn.never rfl (pi_range1 rfl T.z_range (pa_cons (C8.pe_c c_next hr (by first | decide | omega) rfl (pa_cons (pv 0) (pa_cons (pe_op op_add (pv 1) pe_int) pa_nil))) pa_nil)) (pg_name (i := 6) sc__law_book.nd rfl (Or.inl rfl)) (pss_cons (ps_set (i := 7) sc__law_book.nd rfl (Or.inr rfl) (C8.pe_c c_next hr (by first | decide | omega) rfl (pa_cons (pv 0) (pa_cons pe_int pa_nil)))) (pss_cons (ps_setLc (i := 8) (own := [("_law_row", 14)]) rfl sc__law_book.nd rfl rfl (sw_true rfl rfl rfl (by decide +kernel)) (pi_list (pv 4)) (blkOk_by (own := [("_law_row", 14)]) (N := ["_law_h", "_law_many_needs", "_law_many_tries", "_law_scopes", "_law_needs", "_law_tries", "_law_k", "_law_wide", "_law_others", "_law_ways", "_law_house", "_law_group", "_law_names", "_law_marks", "_law_row", "_law_many", "_law_name", "_law_need"]) (sc := defScope s__law_book) (by decide +kernel)) (fun _ _ _ _ _ => (pg_name (i := 14) sc__law_book.nd rfl (Or.inl rfl))) (fun _ _ _ _ _ => ptsT (pts_one (pt_cmpR op_le (pe_bm PySem.F.plainAttrs_list PySem.F.slot_list_index PySem.F.type_list_index (mt_index) (pv 3) (pa_cons (pe_ix ix_tup (pv 14) pe_int (fun _ _ => rfl)) pa_nil)) (pv 7) (nomark _))) (by (try dsimp only [Cx.blk, Cx.nox, cxOf]) <;> rfl)) (fun _ _ _ _ _ => peT (pe_ix ix_tup (pv 14) pe_int (fun _ _ => rfl)) (by (try dsimp only [Cx.blk, Cx.nox, cxOf]) <;> rfl))) (pss_cons (ps_set (i := 9) sc__law_book.nd rfl (Or.inl rfl) (pe_ix ix_list (pe_lst (pa_cons pe_int (pa_cons pe_int (pa_cons pe_int (pa_cons pe_int (pa_cons pe_int pa_nil)))))) (C8.pe_c c_next hr (by first | decide | omega) rfl (pa_cons (pv 0) (pa_cons pe_int pa_nil))) (fun _ _ => rfl))) (pss_one (ps_expr (pe_bm PySem.F.plainAttrs_list PySem.F.slot_list_append PySem.F.type_list_append (mt_append) (pv 4) (pa_cons (pe_tup (pa_cons (pe_op op_add_str pe_str (pe_ix ix_str pe_str (pv 6) (fun _ _ => rfl))) (pa_cons (pe_ix ix_list (pv 3) (pv 7) (fun _ _ => rfl)) (pa_cons (C8.pe_c c_some hr (by first | decide | omega) rfl (pa_cons (pv 0) (pa_cons (pv 8) (pa_cons pe_int pa_nil)))) (pa_cons (pv 9) pa_nil))))) pa_nil)))))))) (pss_cons (ps_for PassesOwn.never rfl (pi_range1 rfl T.z_range (pa_cons (C8.pe_c c_next hr (by first | decide | omega) rfl (pa_cons (pv 0) (pa_cons (pe_op op_add (pv 2) pe_int) pa_nil))) pa_nil)) (pg_name (i := 6) sc__law_book.nd rfl (Or.inl rfl)) (pss_cons (ps_par (i := 10) (j := 11) (by rfl) sc__law_book.nd rfl rfl (by decide) rfl rfl (pa_cons (pe_op op_add_str pe_str (pe_ix ix_str pe_str (C8.pe_c c_next hr (by first | decide | omega) rfl (pa_cons (pv 0) (pa_cons pe_int pa_nil))) (fun _ _ => rfl))) (pa_cons (pe_op op_add_str pe_str (pe_ix ix_str pe_str (C8.pe_c c_next hr (by first | decide | omega) rfl (pa_cons (pv 0) (pa_cons pe_int pa_nil))) (fun _ _ => rfl))) pa_nil)) (by rfl)) (pss_cons (ps_set (i := 12) sc__law_book.nd rfl (Or.inl rfl) (C8.pe_c c_some hr (by first | decide | omega) rfl (pa_cons (pv 0) (pa_cons (pe_lc (own := [("_law_row", 14)]) rfl sc__law_book.nd (pi_list (pv 4)) (blkOk_by (own := [("_law_row", 14)]) (N := ["_law_h", "_law_many_needs", "_law_many_tries", "_law_scopes", "_law_needs", "_law_tries", "_law_k", "_law_wide", "_law_others", "_law_ways", "_law_house", "_law_group", "_law_names", "_law_marks", "_law_row", "_law_many", "_law_name", "_law_need"]) (sc := defScope s__law_book) (by decide +kernel)) (fun _ _ _ _ _ => (pg_name (i := 14) sc__law_book.nd rfl (Or.inl rfl))) (fun _ _ _ _ _ => pts_nil) (fun _ _ _ _ _ => peT (pe_ix ix_tup (pv 14) pe_int (fun _ _ => rfl)) (by (try dsimp only [Cx.blk, Cx.nox, cxOf]) <;> rfl))) (pa_cons pe_int pa_nil))))) (pss_cons (ps_set (i := 13) sc__law_book.nd rfl (Or.inl rfl) (C8.pe_c c_some hr (by first | decide | omega) rfl (pa_cons (pv 0) (pa_cons (pe_lst (pa_cons pe_str (pa_cons pe_str (pa_cons pe_str pa_nil)))) (pa_cons pe_int pa_nil))))) (pss_cons (ps_set (i := 14) sc__law_book.nd rfl (Or.inl rfl) (pe_tup (pa_cons (pe_op op_add_str pe_str (pe_ix ix_str pe_str (pv 6) (fun _ _ => rfl))) (pa_cons (pv 10) (pa_cons (pv 11) (pa_cons (pv 12) (pa_cons (pv 13) (pa_cons (pe_ix ix_list (pe_lst (pa_cons pe_int (pa_cons pe_int (pa_cons pe_int (pa_cons pe_int pa_nil))))) (C8.pe_c c_next hr (by first | decide | omega) rfl (pa_cons (pv 0) (pa_cons pe_int pa_nil))) (fun _ _ => rfl)) (pa_cons (pe_cmpR op_eq (C8.pe_c c_next hr (by first | decide | omega) rfl (pa_cons (pv 0) (pa_cons pe_int pa_nil))) pe_int (nomark _)) pa_nil))))))))) (pss_cons (ps_set (i := 15) sc__law_book.nd rfl (Or.inl rfl) pe_int) (pss_cons (ps_for PassesOwn.never rfl (pi_list (C8.pe_c c_leads hr (by first | decide | omega) rfl (pa_cons (pv 4) (pa_cons (pv 12) pa_nil)))) (pg_name (i := 16) sc__law_book.nd rfl (Or.inr rfl)) (pss_one (ps_set (i := 15) sc__law_book.nd rfl (Or.inl rfl) (pe_op op_mul (pv 15) (pe_ix ix_list (pe_lc (own := [("_law_need", 17)]) rfl sc__law_book.nd (pi_list (pv 4)) (blkOk_by (own := [("_law_need", 17)]) (N := ["_law_h", "_law_many_needs", "_law_many_tries", "_law_scopes", "_law_needs", "_law_tries", "_law_k", "_law_wide", "_law_others", "_law_ways", "_law_house", "_law_group", "_law_names", "_law_marks", "_law_row", "_law_many", "_law_name", "_law_need"]) (sc := defScope s__law_book) (by decide +kernel)) (fun _ _ _ _ _ => (pg_name (i := 17) sc__law_book.nd rfl (Or.inl rfl))) (fun _ _ _ _ _ => ptsT (pts_one (pt_cmpR op_eq (pe_ix ix_tup (pv 17) pe_int (fun _ _ => rfl)) (pv 16) (nomark _))) (by (try dsimp only [Cx.blk, Cx.nox, cxOf]) <;> rfl)) (fun _ _ _ _ _ => peT (pe_ix ix_tup (pv 17) pe_int (fun _ _ => rfl)) (by (try dsimp only [Cx.blk, Cx.nox, cxOf]) <;> rfl))) pe_int (fun _ _ => rfl)))))) (pss_one (ps_expr (pe_bm PySem.F.plainAttrs_list PySem.F.slot_list_append PySem.F.type_list_append (mt_append) (pv 5) (pa_cons (pe_ifExp (pt_cmpR op_lt (pv 15) pe_int (nomark _)) (pv 14) (pe_op op_catA (pe_op op_catA (pe_slice sl_tupA (pv 14) po_none (po_some pe_int)) (pe_tup (pa_cons (pe_tup pa_nil) pa_nil))) (pe_slice sl_tupA (pv 14) (po_some pe_int) po_none))) pa_nil))))))))))) (pss_one (ps_ret (pe_tup (pa_cons (pe_callTy (call_tuple_of) (by rfl) T.z_tuple (by decide +kernel) (pa_cons (pv 4) pa_nil)) (pa_cons (pe_callTy (call_tuple_of) (by rfl) T.z_tuple (by decide +kernel) (pa_cons (pv 5) pa_nil)) pa_nil))))))))), ?_⟩
  obtain ⟨h, l, a, b, G, rfl, ha, hb, le, ss, hQ⟩ := h
  have a0 : At (mdS h l) G H := ss.at le
  -- the scopes, the two lists
  refine q_asg (ev_lst (K := K) (rs := scopes4.map rStr) (ea_cons ev_c (ea_cons ev_c (ea_cons ev_c (ea_cons ev_c ea_nil)))) (show 4 ≤ 100000 by decide)) a0 fun vsc G1 H1 e1 psc => ?_
  refine q_parN (en_lst ea_nil) (en_lst ea_nil) e1.at fun ln lt on ot' G2 H2 e2 n1 n2 n3 n4 n5 n6 n7 fn' ft' => ?_
  obtain ⟨G1', -, vn, rfl, fn2⟩ := fn'
  obtain ⟨vt, rfl, ft2⟩ := ft'
  cases fn2
  cases ft2
  have sd : ∀ x ∈ [h, l], H1 x ≠ none := fun x hx => (mdS h l).dom e1.j x hx
  have lnW : ln ∉ (mdS h l).W := fun z => sd ln z n1
  have ltW : lt ∉ (mdS h l).W := fun z => sd lt z n2
  have ln0 : H ln = none := e1.back n1
  have lt0 : H lt = none := e1.back n2
  have g12 := e1.trans e2
  have ss2 := ss.go g12
  have pscs : (rLst K (scopes4.map rStr)).P G2 vsc := Rl.mono _ e2.gg psc
  -- the needs
  refine q_forV (ev_draw (n := (a : Int) + 1) ss2 (ea_cons (ev_val rfl) (ea_cons (ev_I0 (ev_val rfl) ev_c) ea_nil)) (by omega) (by omega)) e2.at fun v0 G3 H3 e3 ⟨na, p0⟩ => ?_
  obtain ⟨na, na0, na1⟩ := na
  obtain rfl : v0 = .int na := p0
  have ss3 := ss2.go e3
  obtain ⟨n8, n9⟩ := e3.gr.loc n6 n4 lnW
  obtain ⟨n10, n11⟩ := e3.gr.loc n7 n5 ltW
  refine q_for (W := [h, l, ln]) (src_rng1 (ev_c (v := .int na)) ⟨by omega, by omega⟩) e3.at (fun b hb => sub3 hb) (fun k σ' G' H' => ∃ ns xs x6 x7 x8 x9, σ' = [some (.ref h), some (.int (a : Nat)), some (.int (b : Nat)), some vsc, some (.ref ln), some (.ref lt), x6, x7, x8, x9, none, none, none, none, none, none, none, none] ∧ ns.length = k ∧ GenN ns ∧
      H' ln = some (.lst xs) ∧ G' ln = none ∧ Al G' (ns.map (rNd K)) xs ∧ H' lt = some (.lst []) ∧ G' lt = none) (fun G' H' e => ?_) (fun k r vr σ' G4 H4 hi hr4 g4 j4 hI N hN => ?_) (fun k r σ' G' H' G'' H'' _ g ⟨ns, xs, x6, x7, x8, x9, z1, z2, z3, z4, z5, z6, z7, z8⟩ => ?_) fun σ' G4 H4 g4 j4 hI => ?_
  · obtain ⟨h1, h2⟩ := e.gr.loc n8 n9 lnW
    obtain ⟨h3, h4⟩ := e.gr.loc n10 n11 ltW
    exact ⟨[], [], none, none, none, none, rfl, rfl, GenN.nil, h1, h2, .nil, h3, h4⟩
  · obtain ⟨ns, xs, x6, x7, x8, x9, rfl, z2, z3, z4, z5, z6, z7, z8⟩ := hI
    rw [List.getElem?_map, Option.map_eq_some_iff] at hi
    obtain ⟨k', hi, rfl⟩ := hi
    obtain ⟨hk1, hk2⟩ : k < na.toNat ∧ k' = k := by
      have h1 := (List.getElem?_eq_some_iff.mp hi).1
      rw [List.length_range] at h1
      rw [List.getElem?_range h1] at hi
      exact ⟨h1, by cases hi; rfl⟩
    subst hk2
    obtain rfl : vr = .int (k' : Nat) := hr4
    have hk12 : k' < 12 := by omega
    have ss4 := ss3.gr g4 j4
    have a4 := ss4.at g4.gh
    have psc4 : (rLst K (scopes4.map rStr)).P G4 vsc := Rl.mono _ (e3.gg.trans g4.gg) pscs
    -- _law_wide
    refine q_asg (ev_draw (n := 4) ss4 (ea_cons (ev_val rfl) (ea_cons ev_c ea_nil)) (by decide) (by decide)) a4 fun v7 G5 H5 e5 ⟨⟨wd, w0, w1⟩, p7⟩ => ?_
    obtain rfl : v7 = .int wd := p7
    obtain ⟨wn, rfl⟩ : ∃ wn : Nat, wd = wn := ⟨wd.toNat, by omega⟩
    have hwn : wn < 4 := by omega
    have ss5 := ss4.go e5
    obtain ⟨c1, c2⟩ := e5.gr.loc z4 z5 lnW
    -- _law_others
    have hscs : ∀ m ∈ ns, m.sc ∈ scopes4 := fun m hm => by
      obtain ⟨i, hi⟩ := List.getElem?_of_mem hm
      exact (isNeed_like.mp (z3.is i m hi)).sc
    refine q_asg (r := rLst K (((ns.filter fun m => decide (((scIx m.sc : Nat) : Int) ≤ (wn : Nat))).map Nd.nm).map rStr)) (Ev.of (EvN.lst (K := K) (en_lcX (enc := rNd K) (src_lstM (K := K) (ev_val rfl) c1 lnW lnW (z6.mono e5.gg)) (fun m => decide (((scIx m.sc : Nat) : Int) ≤ (wn : Nat))) (fun m => rStr m.nm) (fun _ => rfl)
      (fun m vm G' H' hm g pm => ⟨et_test (ev_I0 (g := fun i j => .bl (decide (i ≤ j))) (ev_index (K := K) (zs := scopes4) (ev_var rfl (Rl.mono _ (e5.gg.trans g.gg) psc4)) (ev_ixT (ev_var rfl pm) ev_c rfl) (scIx_get (hscs m hm)).1 (scIx_get (hscs m hm)).2) (ev_val rfl)), fun _ => ev_ixT (ev_var rfl pm) ev_c rfl⟩) (by omega))) (by rw [List.map_map]; rfl)) e5.at fun v8 G6 H6 e6 p8 => ?_
    have ss6 := ss5.go e6
    -- _law_ways
    refine q_asg (ev_ixD (K := K) (m := 5) (rs := [rInt 1, rInt 1, rInt 1, rInt 2, rInt 3]) (ev_lst (ea_cons ev_c (ea_cons ev_c (ea_cons ev_c (ea_cons ev_c (ea_cons ev_c ea_nil))))) (show 5 ≤ 100000 by decide)) (ev_draw (n := 5) ss6 (ea_cons (ev_val rfl) (ea_cons ev_c ea_nil)) (by decide) (by decide)) rfl) e6.at fun v9 G7 H7 e7 ⟨wi, p9⟩ => ?_
    obtain ⟨ws, rfl, hws⟩ : ∃ ws : Int, v9 = .int ws ∧ (ws = 1 ∨ ws = 2 ∨ ws = 3) := by
      have : ∀ i : Fin 5, ∀ v, (([rInt 1, rInt 1, rInt 1, rInt 2, rInt 3] : List Rl)[i.1]'(by exact i.2)).P G7 v → ∃ ws : Int, v = .int ws ∧ (ws = 1 ∨ ws = 2 ∨ ws = 3) := fun i v p => by
        match i, p with
        | ⟨0, _⟩, p => exact ⟨1, p, .inl rfl⟩
        | ⟨1, _⟩, p => exact ⟨1, p, .inl rfl⟩
        | ⟨2, _⟩, p => exact ⟨1, p, .inl rfl⟩
        | ⟨3, _⟩, p => exact ⟨2, p, .inr (.inl rfl)⟩
        | ⟨4, _⟩, p => exact ⟨3, p, .inr (.inr rfl)⟩
      exact this wi v9 p9
    have ss7 := ss6.go e7
    obtain ⟨c3, c4⟩ := (e6.trans e7).gr.loc c1 c2 lnW
    have p8' := Rl.mono _ e7.gg p8
    have psc7 := Rl.mono _ ((e5.trans e6).trans e7).gg psc4
    obtain ⟨nl1, nl2⟩ := nLet ⟨k', hk12⟩
    obtain ⟨sc, hsc⟩ : ∃ sc, scopes4[wn]? = some sc := ⟨scopes4[wn]'(by exact hwn), List.getElem?_eq_getElem (by exact hwn)⟩
    have hxs : xs.length < 100000 := by rw [← z6.length, List.length_map]; omega
    refine s_app (r := rTup K ([rStr (nName k'), rStr sc] ++ (rEx fun ys : { ys : List Str // SubP ys ((ns.filter fun m => decide (((scIx m.sc : Nat) : Int) ≤ (wn : Nat))).map Nd.nm) } => rTup K (ys.1.map rStr)) :: [rInt ws])) (ev_val rfl) (ev_tup (ea_cons ((ev_addS (op := fun _ _ _ _ => True) (x := "n") (y := ⟨#[97 + k']⟩) ev_c (ev_ixS (z := "abcdefghijkl") ev_c (ev_val rfl) (show 12 ≤ sizeLine by decide) nl1) (show 2 ≤ sizeLine by decide)).of (by rw [nl2])) (ea_cons (ev_ixL (K := K) (rs := scopes4.map rStr) (ev_var rfl psc7) (ev_val rfl) ?_) (ea_cons (ev_some ss7 (ea_cons (ev_val rfl) (ea_cons (ev_var rfl p8') (ea_cons ev_c ea_nil))) (by
        rw [List.length_map]
        have := List.length_filter_le (fun m : Nd => decide (((scIx m.sc : Nat) : Int) ≤ (wn : Nat))) ns
        omega) (by decide) (by decide)) (ea_cons (ev_val rfl) ea_nil)))) (show 4 ≤ 100000 by decide)) e7.at c3 c4 lnW hxs fun vv G8 H8 e8 pv d1 d2 => ?_
    · unfold atI ixN
      rw [if_pos (by omega), if_pos (by rw [List.length_map]; show ((wn : Nat) : Int) < ((4 : Nat) : Int); omega)]
      show (scopes4.map rStr)[wn]? = _
      rw [List.getElem?_map, hsc]
      rfl
    · obtain ⟨⟨ys, hys⟩, pv⟩ := tup_ex pv
      have g8 : Gr [h, l] G4 H4 G8 H8 := (e5.trans (e6.trans (e7.trans e8))).gr
      have g8' : Gr [h, l, ln] G4 H4 G8 H8 := g8.mono fun b hb => sub3 hb
      obtain ⟨d3, d4⟩ := g8.loc z7 z8 ltW
      have hn : isNeed ns ⟨nName k', sc, ys, ws⟩ = true := drawn_need z3 (by omega) (by rw [z2]) hwn hsc hws hys
      refine hN _ G8 _ (g8'.putW (by simp) d2) (At.put e8.at d2 lnW).j ⟨ns ++ [⟨nName k', sc, ys, ws⟩], xs ++ [vv], _, _, _, _, rfl, by rw [List.length_append, z2]; rfl, z3.snoc hn (by rw [z2]) hws (by omega), upd_same, d2, ?_, by rw [upd_ne (Ne.symm n3)]; exact d3, d4⟩
      rw [List.map_append]
      exact (z6.mono g8.gg).app pv
  · obtain ⟨h4, h5⟩ := g.loc z4 z5 (by simp)
    obtain ⟨h6, h7⟩ := g.loc z7 z8 (by simp)
    exact ⟨ns, xs, x6, x7, x8, x9, z1, z2, z3, h4, h5, z6.mono g.gg, h6, h7⟩
  -- the needs stay as they are
  obtain ⟨ns, xs, x6, x7, x8, x9, rfl, z2, z3, z4, z5, z6, z7, z8⟩ := hI
  rw [List.length_map, List.length_range] at z2
  have hna : ns.length ≤ a := by omega
  have gA : Gr [h, l] G H G4 H4 := (g12.trans e3).gr.over g4 fun p hp => by
    simp only [List.mem_cons, List.not_mem_nil, or_false] at hp
    rcases hp with z | z | z
    · exact .inl (by rw [z]; simp [mdS])
    · exact .inl (by rw [z]; simp [mdS])
    · exact .inr (by rw [z]; exact ln0)
  have gB := gA.fix ln0 z5 z4
  have z6' : (rLst K (ns.map (rNd K))).P (upd G4 ln (.lst xs)) (.ref ln) := ⟨ln, xs, rfl, .of upd_same, z6.mono (Le.new z5)⟩
  have z8' : (upd G4 ln (.lst xs)) lt = none := by rw [upd_ne (Ne.symm n3)]; exact z8
  generalize upd G4 ln (.lst xs) = G5 at gB z6' z8'
  have ss5 : SS h l G5 H4 := ss.gr gB j4
  have a5 := ss5.at gB.gh
  -- the tries
  refine q_forV (ev_draw (n := (b : Int) + 1) ss5 (ea_cons (ev_val rfl) (ea_cons (ev_I0 (ev_val rfl) ev_c) ea_nil)) (by omega) (by omega)) a5 fun v0 G6 H6 e6 ⟨nb, p0⟩ => ?_
  obtain ⟨nb, nb0, nb1⟩ := nb
  obtain rfl : v0 = .int nb := p0
  have ss6 := ss5.go e6
  obtain ⟨m1, m2⟩ := e6.gr.loc z7 z8' ltW
  have z6'' := Rl.mono _ e6.gg z6'
  refine q_for (W := [h, l, lt]) (src_rng1 (ev_c (v := .int nb)) ⟨by omega, by omega⟩) e6.at (fun b hb => sub3 hb) (fun k σ' G' H' => ∃ ts xs x6 x10 x11 x12 x13 x14 x15 x16, σ' = [some (.ref h), some (.int (a : Nat)), some (.int (b : Nat)), some vsc, some (.ref ln), some (.ref lt), x6, x7, x8, x9, x10, x11, x12, x13, x14, x15, x16, none] ∧ ts.length = k ∧ GenT ns ts ∧
      H' lt = some (.lst xs) ∧ G' lt = none ∧ Al G' (ts.map (rTr K)) xs) (fun G' H' e => ?_) (fun k r vr σ' G7 H7 hi hr7 g7 j7 hI N hN => ?_) (fun k r σ' G' H' G'' H'' _ g ⟨ts, xs, x6, x10, x11, x12, x13, x14, x15, x16, y1, y2, y3, y4, y5, y6⟩ => ?_) fun σ' G7 H7 g7 j7 hI => ?_
  · obtain ⟨h1, h2⟩ := e.gr.loc m1 m2 ltW
    exact ⟨[], [], _, none, none, none, none, none, none, none, rfl, rfl, GenT.nil ns, h1, h2, .nil⟩
  · obtain ⟨ts, txs, y6, x10, x11, x12, x13, x14, x15, x16, rfl, y2, y3, y4, y5, y7⟩ := hI
    rw [List.getElem?_map, Option.map_eq_some_iff] at hi
    obtain ⟨k', hi, rfl⟩ := hi
    obtain ⟨hk1, hk2⟩ : k < nb.toNat ∧ k' = k := by
      have h1 := (List.getElem?_eq_some_iff.mp hi).1
      rw [List.length_range] at h1
      rw [List.getElem?_range h1] at hi
      exact ⟨h1, by cases hi; rfl⟩
    subst hk2
    obtain rfl : vr = .int (k' : Nat) := hr7
    have hk10 : k' < 10 := by omega
    have ss7 := ss6.gr g7 j7
    have a7 := ss7.at g7.gh
    have hnd7 := Rl.mono _ g7.gg z6''
    -- house, group
    refine q_par (ea_cons (ev_addSX (x := "h") ev_c (ev_ixSD (m := 3) (z := "abc") ev_c (ev_draw (n := 3) ss7 (ea_cons (ev_val rfl) (ea_cons ev_c ea_nil)) (by decide) (by decide)) rfl (by decide)) (fun _ => show 2 ≤ 100000 by decide)) (ea_cons (ev_addSX (x := "g") ev_c (ev_ixSD (m := 2) (z := "ab") ev_c (ev_draw (n := 2) ss7 (ea_cons (ev_val rfl) (ea_cons ev_c ea_nil)) (by decide) (by decide)) rfl (by decide)) (fun _ => show 2 ≤ 100000 by decide)) ea_nil)) a7 fun vh vg G8 H8 e8 ⟨ih, ph⟩ ⟨ig, pg⟩ => ?_
    obtain ⟨hs, rfl, hhs⟩ : ∃ hs : Str, vh = .str hs ∧ hs ∈ hNames := ⟨_, ph, hLet ih⟩
    obtain ⟨gp, rfl, hgp⟩ : ∃ gp : Str, vg = .str gp ∧ gp ∈ gNames := ⟨_, pg, gLet ig⟩
    have ss8 := ss7.go e8
    have hnd8 := Rl.mono _ e8.gg hnd7
    have z3l := z3.le
    -- names, marks
    refine q_asg (ev_some (K := K) (xs := ns.map Nd.nm) ss8 (ea_cons (ev_val rfl) (ea_cons (Ev.of (EvN.lst (K := K) (en_map (enc := rNd K) (src_lst (ev_var rfl hnd8)) (fun m => rStr m.nm) (fun _ => rfl) (fun m vm G' H' hm g pm => ev_ixT (ev_var rfl pm) ev_c rfl) (by omega))) (by rw [List.map_map]; rfl)) (ea_cons ev_c ea_nil))) (by rw [List.length_map]; omega) (by decide) (by decide)) e8.at fun vn G9 H9 e9 ⟨⟨nds, hnds⟩, pn⟩ => ?_
    have pn : (rTup K (nds.map rStr)).P G9 vn := pn
    have ss9 := ss8.go e9
    refine q_asg (ev_some (K := K) (xs := mNames) ss9 (ea_cons (ev_val rfl) (ea_cons (ev_lst (K := K) (rs := mNames.map rStr) (ea_cons ev_c (ea_cons ev_c (ea_cons ev_c ea_nil))) (show 3 ≤ 100000 by decide)) (ea_cons ev_c ea_nil))) (show 3 ≤ 100000 by decide) (by decide) (by decide)) e9.at fun vm G10 H10 e10 ⟨⟨mks, hmks⟩, pm⟩ => ?_
    have pm : (rTup K (mks.map rStr)).P G10 vm := pm
    have ss10 := ss9.go e10
    obtain ⟨tl1, tl2⟩ := tLet ⟨k', hk10⟩
    -- the row
    refine q_asg (r := rTup K ([rStr (tName k'), rStr hs, rStr gp, rTup K (nds.map rStr), rTup K (mks.map rStr)] ++ (rEx fun i : Fin 4 => ([rInt 1, rInt 1, rInt 2, rInt 4] : List Rl)[i.1]'(by exact i.2)) :: [rAny])) (ev_tup (ea_cons ((ev_addS (op := fun _ _ _ _ => True) (x := "t") (y := ⟨#[97 + k']⟩) ev_c (ev_ixS (z := "abcdefghij") ev_c (ev_val rfl) (show 10 ≤ sizeLine by decide) tl1) (show 2 ≤ sizeLine by decide)).of (by rw [tl2])) (ea_cons (ev_val rfl) (ea_cons (ev_val rfl) (ea_cons (ev_var rfl (Rl.mono _ e10.gg pn)) (ea_cons (ev_var rfl pm)
      (ea_cons (ev_ixD (K := K) (m := 4) (rs := [rInt 1, rInt 1, rInt 2, rInt 4]) (ev_lst (ea_cons ev_c (ea_cons ev_c (ea_cons ev_c (ea_cons ev_c ea_nil)))) (show 4 ≤ 100000 by decide)) (ev_draw (n := 4) ss10 (ea_cons (ev_val rfl) (ea_cons ev_c ea_nil)) (by decide) (by decide)) rfl)
      (ea_cons (ev_drawEq (ev_draw (n := 6) ss10 (ea_cons (ev_val rfl) (ea_cons ev_c ea_nil)) (by decide) (by decide)) ev_c) ea_nil))))))) (show 7 ≤ 100000 by decide)) e10.at fun vr G11 H11 e11 pr => ?_
    obtain ⟨it, pr⟩ := tup_ex pr
    obtain ⟨ex, pr⟩ := tup_ex (pre := [rStr (tName k'), rStr hs, rStr gp, rTup K (nds.map rStr), rTup K (mks.map rStr), _]) (post := []) pr
    obtain ⟨tm, htm, e4⟩ := tm4 it
    rw [e4] at pr
    have pr : (rTr K ⟨tName k', hs, gp, nds, mks, tm, ex⟩).P G11 vr := pr
    have ss11 := ss10.go e11
    have g811 : Go (mdS h l) G8 H8 G11 H11 := e9.trans (e10.trans e11)
    -- how many cases
    have bk := z3
    have hbk : BkOk ns := (genBook z3 (GenT.nil ns)).bk
    have hws : WsOk ns := (genBook z3 (GenT.nil ns)).ws
    have hndsl : nds.length ≤ 12 := by have := hnds.le; rw [List.length_map] at this; omega
    refine q_asgV (v := .int 1) ev_c e11.at fun G12 H12 e12 => ?_
    have hnd12 := Rl.mono _ (g811.trans e12).gg hnd8
    have pn12 := Rl.mono _ (e10.trans (e11.trans e12)).gg pn
    refine q_for (W := [h, l]) (src_lst (K := K) (Ev.raw (ev_call (E := E0) (ns, nds) (ea_cons (ev_var rfl (rSeq_l hnd12)) (ea_cons (ev_var rfl (rSeq_t pn12)) ea_nil)) fun G' H' g => ⟨show ns.length ≤ 100 by omega, show nds.length ≤ 100 by omega, hbk.ots⟩))) e12.at (fun b hb => hb)
      (fun i σ' _ _ => ∃ x, σ' = [some (.ref h), some (.int (a : Nat)), some (.int (b : Nat)), some vsc, some (.ref ln), some (.ref lt), some (.int (k' : Nat)), x7, x8, x9, some (.str hs), some (.str gp), some vn, some vm, some vr, some (.int (((closureM ns nds).take i).foldl (fun m x => m * waysOf ns x) 1)), x, none])
      (fun _ _ _ => ⟨_, rfl⟩) (fun i r vx σ' G13 H13 hi hp g13 j13 hI N' hN' => ?_) (fun _ _ _ _ _ _ _ _ _ h => h) fun σ' G13 H13 g13 j13 hI => ?_
    · obtain ⟨x0, rfl⟩ := hI
      rw [List.getElem?_map, Option.map_eq_some_iff] at hi
      obtain ⟨x, hi, rfl⟩ := hi
      have hxm : x ∈ closureM ns nds := List.mem_of_getElem? hi
      obtain ⟨j, m, t1, t2, t3⟩ := findNd_some (i := 0) (mem_closureM hxm)
      have b1 := hws.lo m t2
      have b2 := hws.hi m t2
      obtain rfl : vx = .str x := hp
      have hnd13 := Rl.mono _ g13.gg hnd12
      refine s_asg (r := rInt (((closureM ns nds).take (i + 1)).foldl (fun m x => m * waysOf ns x) 1)) (Ev.of (ev_I (g := fun i j => .int (i * j)) (ev_val rfl) (ev_ixL (K := K) (i := 0) (EvN.lst (en_lcX (enc := rNd K) (src_lst (ev_var rfl hnd13)) (fun n => decide (n.nm = x)) (fun n => rInt n.ws) (fun _ => rfl) (fun n vn' G' H' hn g pn' => ⟨et_test (ev_eqS (ev_ixT (ev_var rfl pn') ev_c rfl) (ev_val rfl)), fun _ => ev_ixT (ev_var rfl pn') ev_c rfl⟩) (by omega))) ev_c (filter_ways t1)) (.inr ⟨by omega, by omega⟩)) ?_) ⟨g13.gh, j13⟩ fun vv G14 H14 e14 pv => ?_
      · have e : ((closureM ns nds).take (i + 1)).foldl (fun m x => m * waysOf ns x) 1 = ((closureM ns nds).take i).foldl (fun m x => m * waysOf ns x) 1 * m.ws := by
          rw [List.take_add_one, hi]
          show ((closureM ns nds).take i ++ [x]).foldl _ 1 = _
          rw [List.foldl_append]
          show _ * waysOf ns x = _
          unfold waysOf
          rw [t1]
          rfl
        rw [e]
      · obtain rfl : vv = .int _ := pv
        exact hN' _ G14 H14 e14.gr e14.j ⟨some (.str x), rfl⟩
    · obtain ⟨x0, rfl⟩ := hI
      rw [List.length_map, List.take_length]
      have hmany : ((closureM ns nds).foldl (fun m x => m * waysOf ns x) 1) = manyOf ns nds := rfl
      rw [hmany]
      have a13 : At (mdS h l) G13 H13 := ⟨g13.gh, j13⟩
      have g713 : Gr [h, l] G7 H7 G13 H13 := (e8.trans (g811.trans e12)).gr.trans g13
      obtain ⟨q1, q2⟩ := g713.loc y4 y5 ltW
      have pr13 := Rl.mono _ (e12.gg.trans g13.gg) pr
      have hl : txs.length < 100000 := by
        rw [← y7.length, List.length_map]
        omega
      let t : Tr := ⟨tName k', hs, gp, nds, mks, tm, ex⟩
      let t' : Tr := if manyOf ns nds < 13 then t else { t with nd := [] }
      refine s_app (r := rTr K t') (ev_val rfl) (ev_if (B := fun b => b = decide (manyOf ns nds < 13)) (et_test (ev_I0 (g := fun i j => .bl (decide (i < j))) (ev_val rfl) ev_c)) (fun hB => ?_) fun hB => ?_) a13 q1 q2 ltW hl fun vv G14 H14 e14 pv d1 d2 => ?_
      · have c : manyOf ns nds < 13 := of_decide_eq_true hB.symm
        exact (ev_var rfl pr13).imp fun G' v p => by
          show (rTr K (if manyOf ns nds < 13 then t else { t with nd := [] })).P G' v
          rw [if_pos c]
          exact p
      · have c : ¬ manyOf ns nds < 13 := fun z => by
          have hB : false = decide (manyOf ns nds < 13) := hB
          rw [decide_eq_true z] at hB
          cases hB
        have row : (rTup K [rStr (tName k'), rStr hs, rStr gp, rTup K (nds.map rStr), rTup K (mks.map rStr), rInt tm, rBl ex]).P G13 vr := pr13
        refine (ev_catT (K := K) (ss := [rTup K (mks.map rStr), rInt tm, rBl ex]) (ev_catT (rs := [rStr (tName k'), rStr hs, rStr gp]) (ss := [rTup K []]) (ev_slT (lo := none) (hi := some 3) (ev_var rfl row) (fun _ _ q => q) (fun _ _ q => ⟨3, rfl, q⟩)) (ev_tup (ea_cons (ev_tup ea_nil (show 0 ≤ 100000 by decide)) ea_nil) (show 1 ≤ 100000 by decide)) (show 4 ≤ 100000 by decide)) (ev_slT (lo := some 4) (hi := none) (ev_var rfl row) (fun _ _ q => ⟨4, rfl, q⟩) (fun _ _ q => q)) (show 7 ≤ 100000 by decide)).imp fun G' v p => ?_
        show (rTr K (if manyOf ns nds < 13 then t else { t with nd := [] })).P G' v
        rw [if_neg c]
        exact p
      · have g714 : Gr [h, l] G7 H7 G14 H14 := g713.trans e14.gr
        have ht' : t'.nm = tName k' ∧ t'.hs = hs ∧ t'.gp = gp ∧ t'.ms = mks ∧ t'.tm = tm ∧ SubP t'.nd (ns.map Nd.nm) ∧ manyOf ns t'.nd < 13 := by
          show (if manyOf ns nds < 13 then t else { t with nd := [] }).nm = _ ∧ _
          simp only [t']
          by_cases c : manyOf ns nds < 13
          · simp only [if_pos c]
            exact ⟨rfl, rfl, rfl, rfl, rfl, hnds, c⟩
          · simp only [if_neg c]
            refine ⟨rfl, rfl, rfl, rfl, rfl, ⟨fun y hy => (nomatch hy), fun _ => List.nodup_nil, Nat.zero_le _⟩, ?_⟩
            unfold manyOf
            rw [closureM_nil]
            show (1 : Int) < 13
            decide
        obtain ⟨t1, t2, t3, t4, t5, t6, t7⟩ := ht'
        have nm : t'.nm = tName ts.length := by rw [y2]; exact t1
        have it : isTry ns ts t' = true := drawn_try z3 y3 (by omega) nm (by rw [t2]; exact hhs) (by rw [t3]; exact hgp) t6 (by rw [t4]; exact hmks) (by rw [t5]; exact htm) t7
        refine hN _ G14 _ ((g714.mono fun b hb => sub3 hb).putW (by simp) d2) (At.put e14.at d2 ltW).j ⟨ts ++ [t'], txs ++ [vv], _, _, _, _, _, _, _, _, rfl, by rw [List.length_append, y2]; rfl, y3.snoc it nm (by rw [t2]; exact hhs) (by rw [t3]; exact hgp) (by rw [t4]; exact hmks.mem) (by rw [t5]; exact htm) t7 (by omega), upd_same, d2, ?_⟩
        rw [List.map_append]
        exact (y7.mono g714.gg).app pv
  · obtain ⟨h4, h5⟩ := g.loc y4 y5 (by simp)
    exact ⟨ts, xs, x6, x10, x11, x12, x13, x14, x15, x16, y1, y2, y3, h4, h5, y6.mono g.gg⟩
  -- both as tuples
  obtain ⟨ts, txs, y6, x10, x11, x12, x13, x14, x15, x16, rfl, y2, y3, y4, y5, y7⟩ := hI
  rw [List.length_map, List.length_range] at y2
  have gC : Gr [h, l] G H G7 H7 := (gB.trans e6.gr).over g7 fun p hp => by
    simp only [List.mem_cons, List.not_mem_nil, or_false] at hp
    rcases hp with z | z | z
    · exact .inl (by rw [z]; simp)
    · exact .inl (by rw [z]; simp)
    · exact .inr (by rw [z]; exact lt0)
  have gD := gC.fix lt0 y5 y4
  have y8 : (rLst K (ts.map (rTr K))).P (upd G7 lt (.lst txs)) (.ref lt) := ⟨lt, txs, rfl, .of upd_same, y7.mono (Le.new y5)⟩
  have hnd := Rl.mono _ (g7.gg.trans (Le.new (o := .lst txs) y5)) z6''
  generalize upd G7 lt (.lst txs) = G8 at gD y8 hnd
  refine s_ret (r := rRows K ns ts) (ev_tup (ea_cons (ev_tuple (ev_var rfl (rSeq_l hnd))) (ea_cons (ev_tuple (ev_var rfl (rSeq_l y8))) ea_nil)) (show 2 ≤ 100000 by decide)) ((ss.gr gD j7).at gD.gh) fun v' G9 H9 e9 p => hQ ns ts v' G9 H9 z3 y3 hna (by omega) (gD.trans e9.gr) e9.j p
end

end TH
namespace TH
open PySem PySem.Spec PyProof.Rows L2
/-! ### plain laws of drawn books -/
theorem GenN.nodup {ns : List Nd} (g : GenN ns) : (ns.map Nd.nm).Nodup := by
  have : ∀ i n, ns[i]? = some n → NdLike (ns.take i) n := fun i n h => isNeed_like.mp (g.is i n h)
  exact (ordN_of this ns.length 0 (by omega)).nodup
theorem GenN.bk {ns : List Nd} (g : GenN ns) : BkOk ns := (genBook g (GenT.nil ns)).bk
theorem GenT.uniq {ns : List Nd} {ts : List Tr} (g : GenT ns ts) {a b : Tr} (ha : a ∈ ts) (hb : b ∈ ts) (e : a.nm = b.nm) : a = b := by
  obtain ⟨i, hi⟩ := List.getElem?_of_mem ha
  obtain ⟨j, hj⟩ := List.getElem?_of_mem hb
  rw [g.nm i a hi, g.nm j b hj] at e
  have := tName_inj e
  subst this
  rw [hi] at hj
  exact Option.some.inj hj
theorem find_try {ts : List Tr} {t : Tr} (ht : t ∈ ts) (u : ∀ a ∈ ts, a.nm = t.nm → a = t) : ts.find? (fun a => decide (a.nm = t.nm)) = some t := by
  cases e : ts.find? (fun a => decide (a.nm = t.nm)) with
  | none =>
    have := List.find?_eq_none.mp e t ht
    simp at this
  | some a =>
    have h1 := List.mem_of_find?_eq_some e
    have h2 := List.find?_some e
    rw [u a h1 (of_decide_eq_true h2)]
theorem needed_try {ns : List Nd} {ts : List Tr} (k : GenT ns ts) {t : Tr} (ht : t ∈ ts) : neededM ns ts t.nm = closureM ns t.nd := by
  unfold neededM
  rw [find_try ht fun a ha e => k.uniq ha ht e]
theorem nt_ne : ∀ i j : Nat, nName i ≠ tName j := fun i j e => by
  have h := congrArg (fun x : Str => x.cps.toList) e
  simp only [nName, tName] at h
  injection h with h _
  omega
theorem GenN.nm' {ns : List Nd} (g : GenN ns) {n : Nd} (h : n ∈ ns) : ∃ i, i < 12 ∧ n.nm = nName i := by
  obtain ⟨i, hi⟩ := List.getElem?_of_mem h
  have := (List.getElem?_eq_some_iff.mp hi).1
  have := g.le
  exact ⟨i, by omega, g.nm i n hi⟩
theorem GenT.nm' {ns : List Nd} {ts : List Tr} (g : GenT ns ts) {n : Tr} (h : n ∈ ts) : ∃ i, i < 10 ∧ n.nm = tName i := by
  obtain ⟨i, hi⟩ := List.getElem?_of_mem h
  have := (List.getElem?_eq_some_iff.mp hi).1
  have := g.le
  exact ⟨i, by omega, g.nm i n hi⟩
theorem findNd_of {ns : List Nd} (hn : (ns.map Nd.nm).Nodup) {n : Nd} (h : n ∈ ns) : ∃ j, findNd n.nm 0 ns = some (j, n) := by
  obtain ⟨j, m, h1, h2, h3⟩ := findNd_some (i := 0) (List.mem_map.mpr ⟨n, h, rfl⟩)
  rw [one_nm hn h2 h h3] at h1
  exact ⟨j, h1⟩
theorem needed_need {ns : List Nd} {ts : List Tr} (g : GenN ns) (k : GenT ns ts) {n : Nd} (h : n ∈ ns) : neededM ns ts n.nm = closureM ns n.ot := by
  have e : ts.find? (fun a => decide (a.nm = n.nm)) = none := List.find?_eq_none.mpr fun t ht z => by
    obtain ⟨i, _, h1⟩ := g.nm' h
    obtain ⟨j, _, h2⟩ := k.nm' ht
    exact nt_ne i j (by rw [← h1, ← h2]; exact (of_decide_eq_true z).symm)
  unfold neededM
  rw [e]
  show (if n.nm ∈ ns.map Nd.nm then closureM ns (otOf ns n.nm) else []) = _
  rw [if_pos (List.mem_map.mpr ⟨n, h, rfl⟩)]
  obtain ⟨j, h1⟩ := findNd_of g.nodup h
  unfold otOf
  rw [h1]
  rfl
theorem needed_no {ns : List Nd} {ts : List Tr} {x : Str} (h1 : x ∉ ns.map Nd.nm) (h2 : ∀ t ∈ ts, t.nm ≠ x) : neededM ns ts x = [] := by
  have e : ts.find? (fun a => decide (a.nm = x)) = none := List.find?_eq_none.mpr fun t ht z => h2 t ht (of_decide_eq_true z)
  unfold neededM
  rw [e]
  exact if_neg h1
theorem no_n : ∀ i : Fin 12, nName i.1 ≠ "zz" ∧ nName i.1 ≠ "tz" := by decide +kernel
theorem no_t : ∀ i : Fin 10, tName i.1 ≠ "zz" ∧ tName i.1 ≠ "tz" := by decide +kernel
theorem snoc_at {α : Type} {Z : List α → α → Prop} {l : List α} {x : α} (h : ∀ i n, l[i]? = some n → Z (l.take i) n) (hx : Z l x) : ∀ i n, (l ++ [x])[i]? = some n → Z ((l ++ [x]).take i) n := fun i n e => by
  by_cases c : i < l.length
  · rw [List.getElem?_append_left c] at e
    rw [List.take_append_of_le_length (by omega)]
    exact h i n e
  · rw [List.getElem?_append_right (by omega)] at e
    have z : i - l.length = 0 := by
      cases q : i - l.length with
      | zero => rfl
      | succ k => rw [q] at e; cases e
    rw [z] at e
    cases e
    have : i = l.length := by omega
    subst this
    rw [List.take_append_of_le_length (Nat.le_refl _), List.take_length]
    exact hx
theorem leads_mem : ∀ {l : List Nd} {acc : List Str} {x : Str}, x ∈ leadsAcc l acc → x ∈ acc ∨ ∃ n ∈ l, x ∈ n.ot
  | [], acc, x, h => .inl h
  | n :: t, acc, x, h => by
    have h : x ∈ leadsAcc t (if n.nm ∈ acc then acc ++ n.ot else acc) := h
    rcases leads_mem h with z | ⟨m, hm, z⟩
    · split at z
      · rcases List.mem_append.mp z with z | z
        · exact .inl z
        · exact .inr ⟨n, List.mem_cons_self, z⟩
      · exact .inl z
    · exact .inr ⟨m, List.mem_cons_of_mem _ hm, z⟩
theorem leads_stay : ∀ {l : List Nd} {acc : List Str}, (∀ m ∈ l, m.nm ∉ acc) → leadsAcc l acc = acc
  | [], _, _ => rfl
  | n :: t, acc, h => by
    show leadsAcc t (if n.nm ∈ acc then acc ++ n.ot else acc) = acc
    rw [if_neg (h n List.mem_cons_self)]
    exact leads_stay fun m hm => h m (List.mem_cons_of_mem _ hm)
/-- a need behind all, to which nothing leads -/
theorem closure_snoc {ns : List Nd} {x : Nd} {names : List Str} (h1 : x.nm ∉ names) (h2 : ∀ n ∈ ns, x.nm ∉ n.ot) : closureM (ns ++ [x]) names = closureM ns names := by
  unfold closureM
  rw [List.reverse_append]
  show List.filter (fun y => decide (y ∈ leadsAcc ns.reverse (if x.nm ∈ names then names ++ x.ot else names))) _ = _
  rw [if_neg h1, List.map_append, List.filter_append]
  have e : ([x].map Nd.nm).filter (fun y => decide (y ∈ leadsAcc ns.reverse names)) = [] := List.filter_eq_nil_iff.mpr fun y hy z => by
    have hy : y = x.nm := List.mem_singleton.mp hy
    subst hy
    rcases leads_mem (of_decide_eq_true z) with z | ⟨m, hm, z⟩
    · exact h1 z
    · exact h2 m (List.mem_reverse.mp hm) z
  rw [e, List.append_nil]
theorem closure_one {ns : List Nd} {x : Nd} (ho : x.ot = []) (h1 : x.nm ∉ ns.map Nd.nm) : closureM (ns ++ [x]) [x.nm] = [x.nm] := by
  unfold closureM
  rw [List.reverse_append]
  show List.filter (fun y => decide (y ∈ leadsAcc ns.reverse (if x.nm ∈ [x.nm] then [x.nm] ++ x.ot else [x.nm]))) _ = _
  rw [if_pos List.mem_cons_self, ho, List.append_nil, leads_stay (fun m hm z => h1 (List.mem_map.mpr ⟨m, List.mem_reverse.mp hm, List.mem_singleton.mp z⟩)), List.map_append, List.filter_append]
  have e : (ns.map Nd.nm).filter (fun y => decide (y ∈ [x.nm])) = [] := List.filter_eq_nil_iff.mpr fun y hy z => h1 (by rw [← List.mem_singleton.mp (of_decide_eq_true z)]; exact hy)
  rw [e]
  simp
theorem findNd_app {x : Str} : ∀ {i : Nat} {ns : List Nd} (y : Nd), x ∈ ns.map Nd.nm → findNd x i (ns ++ [y]) = findNd x i ns
  | i, n :: t, y, h => by
    show (if n.nm = x then some (i, n) else findNd x (i + 1) (t ++ [y])) = if n.nm = x then some (i, n) else findNd x (i + 1) t
    by_cases c : n.nm = x
    · rw [if_pos c, if_pos c]
    · rw [if_neg c, if_neg c]
      refine findNd_app y ?_
      rcases List.mem_cons.mp h with z | z
      · exact absurd z.symm c
      · exact z
theorem many_snoc {ns : List Nd} {x : Nd} {names : List Str} (h1 : x.nm ∉ names) (h2 : ∀ n ∈ ns, x.nm ∉ n.ot) : manyOf (ns ++ [x]) names = manyOf ns names := by
  unfold manyOf
  rw [closure_snoc h1 h2]
  have : ∀ (l : List Str) (a : Int), (∀ y ∈ l, y ∈ ns.map Nd.nm) → l.foldl (fun m y => m * waysOf (ns ++ [x]) y) a = l.foldl (fun m y => m * waysOf ns y) a := by
    intro l
    induction l with
    | nil => intro a _; rfl
    | cons y t ih =>
      intro a h
      rw [List.foldl_cons, List.foldl_cons]
      have e : waysOf (ns ++ [x]) y = waysOf ns y := by
        unfold waysOf
        rw [findNd_app x (h y List.mem_cons_self)]
      rw [e]
      exact ih _ fun z hz => h z (List.mem_cons_of_mem _ hz)
  exact this _ _ fun y hy => mem_closureM hy

end TH
namespace TH
open PySem PySem.Spec PyProof.Rows L2
/-! ### a need and a try of the same name put behind -/
def xNd : Nd := ⟨"tz", "run", [], 1⟩
def xTr : Tr := ⟨"tz", "h", "g", ["tz"], [], 1, false⟩
theorem both_ok {ns : List Nd} {ts : List Tr} (g : GenN ns) (k : GenT ns ts) (h1 : ns.length ≤ 11) : BookOk (ns ++ [xNd]) (ts ++ [xTr]) := by
  have hx : xNd.nm ∉ ns.map Nd.nm := fun z => by
    obtain ⟨n, hn, e⟩ := List.mem_map.mp z
    obtain ⟨i, hi, e2⟩ := g.nm' hn
    exact (no_n ⟨i, hi⟩).2 (e2.symm.trans e)
  have hots : ∀ n ∈ ns, xNd.nm ∉ n.ot := fun n hn z => hx (((genBook g (GenT.nil ns)).ot_ok hn).2 _ z)
  have b := genBook g k
  have l1 : isNeed ns xNd = true := isNeed_like.mpr ⟨by decide +kernel, hx, by decide +kernel, by decide, by decide, by decide +kernel, fun o ho => (nomatch ho), fun o ho => (nomatch ho)⟩
  have nn : ∀ x ∈ ns.map Nd.nm, x ∈ (ns ++ [xNd]).map Nd.nm := fun x hx => by rw [List.map_append]; exact List.mem_append_left _ hx
  have one : closureM (ns ++ [xNd]) [("tz" : Str)] = [("tz" : Str)] := closure_one (x := xNd) rfl hx
  have l2 : isTry (ns ++ [xNd]) ts xTr = true := isTry_like.mpr ⟨by decide +kernel, fun z => by
      obtain ⟨n, hn, e⟩ := List.mem_map.mp z
      obtain ⟨i, hi, e2⟩ := k.nm' hn
      exact (no_t ⟨i, hi⟩).2 (e2.symm.trans e), by decide +kernel, fun o ho => by
      have ho : o = "tz" := List.mem_singleton.mp ho
      rw [ho, List.map_append]
      exact List.mem_append_right _ List.mem_cons_self, by decide +kernel, by decide, by decide, by
      unfold manyOf
      show (closureM (ns ++ [xNd]) [("tz" : Str)]).foldl _ 1 ≤ 64
      rw [one]
      show (1 : Int) * waysOf (ns ++ [xNd]) "tz" ≤ 64
      obtain ⟨j, m, e1, e2, e3⟩ := findNd_some (x := "tz") (i := 0) (ns := ns ++ [xNd]) (by rw [List.map_append]; exact List.mem_append_right _ List.mem_cons_self)
      unfold waysOf
      rw [e1]
      show (1 : Int) * m.ws ≤ 64
      rcases List.mem_append.mp e2 with z | z
      · rcases g.ws m z with q | q | q <;> omega
      · rw [List.mem_singleton.mp z]; decide⟩
  have ks : ∀ i t, ts[i]? = some t → isTry (ns ++ [xNd]) (ts.take i) t = true := fun i t e => by
    obtain ⟨a1, a2, a3, a4, a5, a6, a7, a8⟩ := isTry_like.mp (k.is i t e)
    exact isTry_like.mpr ⟨a1, a2, a3, fun o ho => nn o (a4 o ho), a5, a6, a7, by rw [many_snoc (fun z => hx (a4 _ z)) hots]; exact a8⟩
  refine ⟨snoc_at (Z := fun l n => isNeed l n = true) g.is l1, fun n hn => ?_, by rw [List.length_append]; exact Nat.succ_le_succ h1, snoc_at (Z := fun l t => isTry (ns ++ [xNd]) l t = true) ks l2, fun t ht => ?_, by rw [List.length_append]; have := k.le; show ts.length + 1 ≤ 30; omega⟩
  · rcases List.mem_append.mp hn with z | z
    · exact b.n2 n z
    · rw [List.mem_singleton.mp z]
      exact ⟨by decide +kernel, by decide, fun o ho => (nomatch ho)⟩
  · rcases List.mem_append.mp ht with z | z
    · exact b.t2 t z
    · rw [List.mem_singleton.mp z]
      exact ⟨by decide +kernel, by decide +kernel, by decide, fun o ho => (nomatch ho)⟩
theorem both_tz {ns : List Nd} {ts : List Tr} (g : GenN ns) (k : GenT ns ts) : neededM (ns ++ [xNd]) (ts ++ [xTr]) "tz" = [("tz" : Str)] := by
  have hx : xNd.nm ∉ ns.map Nd.nm := fun z => by
    obtain ⟨n, hn, e⟩ := List.mem_map.mp z
    obtain ⟨i, hi, e2⟩ := g.nm' hn
    exact (no_n ⟨i, hi⟩).2 (e2.symm.trans e)
  have e : (ts ++ [xTr]).find? (fun a => decide (a.nm = ("tz" : Str))) = some xTr := by
    rw [List.find?_append, List.find?_eq_none.mpr fun t ht z => by
      obtain ⟨i, hi, e2⟩ := k.nm' ht
      exact (no_t ⟨i, hi⟩).2 (e2.symm.trans (of_decide_eq_true z))]
    rfl
  unfold neededM
  rw [e]
  exact closure_one (x := xNd) rfl hx

end TH
namespace TH
open PySem PySem.Spec PyProof.Rows L2
/-! ### the law, walked -/
def sp_law (K : PySem.W.Frag) : Sp := fun vs H Q _ => ∃ (a : Addr) (ns : List Int), vs = [.ref a] ∧ SqL K H a (ns.map V.int) ∧ ns.length ≤ 63 ∧ ∀ H', Q (.bl true) H'
theorem cells_al {G : Hp} : ∀ ns : List Int, Al G (ns.map rInt) (ns.map V.int)
  | [] => .nil
  | n :: t => .cons rfl (cells_al t)
section
variable {P : Program} {w : World} {K : PySem.W.Frag} {mg : Str → Option Value} {base : Heap} {f : Addr} {fd : FuncData}
theorem sc_law : FnScope ["_law_script", "_law_h", "_law_turn", "_law_book_here", "_law_used", "_law_row", "_law_due", "_law_both"] ["_law_script"] (defScope s_law) := ⟨rfl, rfl, rfl, by decide +kernel, rfl, by decide +kernel, by decide +kernel⟩
theorem fn_law (F : FnP K "law" "law" s_law f fd) (T : Top K mg) (c_mix : C8.Cal P w K mg base 1 "_law_mix" (sp_mix K) []) (c_book : C8.Cal P w K mg base 3 "_law_book" (sp_book K) []) (c_leads : C8.Cal P w K mg base 1 "_law_leads" (sp_leads K) [])
    (c_alike : C8.Cal P w K mg base 2 "_law_alike" (sp_alike K 2) []) (c_needed : C8.Cal P w K mg base 6 "needed" (sp_needed K) []) (c_needless : C8.Cal P w K mg base 6 "needless" (sp_needless K) []) : FnOk P w K mg base CX0 7 f fd ["_law_script"] (sp_law K) := by
  refine F.ok sc_law (fun vs H Q E h => ?_) fun cdv A outer s H vs Q E hr h => ?_
  · obtain ⟨a, ns, e, _⟩ := h
    rw [e]
    rfl
  suffices hs : ∃ t, PSs (cxOf CX0 P w K mg base (["_law_script", "_law_h", "_law_turn", "_law_book_here", "_law_used", "_law_row", "_law_due", "_law_both"] : List Str) "law" (defScope s_law) f cdv A outer s H E).nox (defBody s_law) t ∧ t { nx := fun _ H' => Q .non H', rt := Q } (L2.start (["_law_script", "_law_h", "_law_turn", "_law_book_here", "_law_used", "_law_row", "_law_due", "_law_both"] : List Str) vs) H by
    obtain ⟨t, h1, h2⟩ := hs
    exact ⟨t, h1.nox, h2⟩
  refine ⟨_, (pss_cons (ps_set (i := 1) sc_law.nd rfl (Or.inl rfl) (C8.pe_c c_mix hr (by first | decide | omega) rfl (pa_cons (pv 0) (pa_cons pe_int pa_nil)))) (pss_cons (ps_for PassesOwn.never rfl (pi_range1 rfl T.z_range (pa_cons pe_int pa_nil)) (pg_name (i := 2) sc_law.nd rfl (Or.inl rfl)) (pss_cons (ps_set (i := 3) sc_law.nd rfl (Or.inl rfl) (C8.pe_c c_book hr (by first | decide | omega) rfl (pa_cons (pv 1) (pa_cons pe_int (pa_cons pe_int pa_nil))))) (pss_cons (ps_set (i := 4) sc_law.nd rfl (Or.inr rfl) (pe_lst pa_nil)) (pss_cons (ps_for PassesOwn.never rfl (pi_tup (pe_ix ix_tup (pv 3) pe_int (fun _ _ => rfl))) (pg_name (i := 5) sc_law.nd rfl (Or.inl rfl)) (pss_cons (ps_set (i := 6) sc_law.nd rfl (Or.inl rfl) (C8.pe_c c_leads hr (by first | decide | omega) rfl (pa_cons (pe_ix ix_tup (pv 3) pe_int (fun _ _ => rfl)) (pa_cons (pe_ix ix_tup (pv 5) pe_int (fun _ _ => rfl)) pa_nil)))) (pss_cons (ps_set (i := 4) sc_law.nd rfl (Or.inr rfl) (pe_op op_cat (pv 4) (pv 6))) (pss_one (ps_if (pt_not (pt_val (C8.pe_c c_alike hr (by first | decide | omega) rfl (pa_cons (C8.pe_c c_needed hr (by first | decide | omega) rfl (pa_cons (pv 3) (pa_cons (pe_ix ix_tup (pv 5) pe_int (fun _ _ => rfl)) pa_nil))) (pa_cons (pv 6) pa_nil))))) (pss_one (ps_ret pe_bl)) pss_nil))))) (pss_cons (ps_for PassesOwn.never rfl (pi_tup (pe_ix ix_tup (pv 3) pe_int (fun _ _ => rfl))) (pg_name (i := 5) sc_law.nd rfl (Or.inl rfl)) (pss_one (ps_if (pt_not (pt_val (C8.pe_c c_alike hr (by first | decide | omega) rfl (pa_cons (C8.pe_c c_needed hr (by first | decide | omega) rfl (pa_cons (pv 3) (pa_cons (pe_ix ix_tup (pv 5) pe_int (fun _ _ => rfl)) pa_nil))) (pa_cons (C8.pe_c c_leads hr (by first | decide | omega) rfl (pa_cons (pe_ix ix_tup (pv 3) pe_int (fun _ _ => rfl)) (pa_cons (pe_ix ix_tup (pv 5) pe_int (fun _ _ => rfl)) pa_nil))) pa_nil))))) (pss_one (ps_ret pe_bl)) pss_nil))) (pss_cons (ps_setLc (i := 6) (own := [("_law_row", 5)]) rfl sc_law.nd rfl rfl (sw_true rfl rfl rfl (by decide +kernel)) (pi_tup (pe_ix ix_tup (pv 3) pe_int (fun _ _ => rfl))) (blkOk_by (own := [("_law_row", 5)]) (N := ["_law_script", "_law_h", "_law_turn", "_law_book_here", "_law_used", "_law_row", "_law_due", "_law_both"]) (sc := defScope s_law) (by decide +kernel)) (fun _ _ _ _ _ => (pg_name (i := 5) sc_law.nd rfl (Or.inl rfl))) (fun _ _ _ _ _ => ptsT (pts_one (pt_cmpR (op_notInK (K := K) rfl) (pe_ix ix_tup (pv 5) pe_int (fun _ _ => rfl)) (pv 4) rfl)) (by (try dsimp only [Cx.blk, Cx.nox, cxOf]) <;> rfl)) (fun _ _ _ _ _ => peT (pe_ix ix_tup (pv 5) pe_int (fun _ _ => rfl)) (by (try dsimp only [Cx.blk, Cx.nox, cxOf]) <;> rfl))) (pss_cons (ps_if (PW.pt (pw_or (pt_not (pt_val (C8.pe_c c_alike hr (by first | decide | omega) rfl (pa_cons (C8.pe_c c_needless hr (by first | decide | omega) rfl (pa_cons (pv 3) pa_nil)) (pa_cons (pv 6) pa_nil))))) (pw_or1 (pt_cmpR (op_neD hr.units) (C8.pe_c c_needed hr (by first | decide | omega) rfl (pa_cons (pv 3) (pa_cons pe_str pa_nil))) (pe_lst pa_nil) (nomark _))))) (pss_one (ps_ret pe_bl)) pss_nil) (pss_cons (ps_set (i := 7) sc_law.nd rfl (Or.inl rfl) (pe_tup (pa_cons (pe_op op_catA (pe_ix ix_tup (pv 3) pe_int (fun _ _ => rfl)) (pe_tup (pa_cons (pe_tup (pa_cons pe_str (pa_cons pe_str (pa_cons (pe_tup pa_nil) (pa_cons pe_int pa_nil))))) pa_nil))) (pa_cons (pe_op op_catA (pe_ix ix_tup (pv 3) pe_int (fun _ _ => rfl)) (pe_tup (pa_cons (pe_tup (pa_cons pe_str (pa_cons pe_str (pa_cons pe_str (pa_cons (pe_tup (pa_cons pe_str pa_nil)) (pa_cons (pe_tup pa_nil) (pa_cons pe_int (pa_cons pe_bl pa_nil)))))))) pa_nil))) pa_nil)))) (pss_one (ps_if (pt_cmpR (op_neD hr.units) (C8.pe_c c_needed hr (by first | decide | omega) rfl (pa_cons (pv 7) (pa_cons pe_str pa_nil))) (pe_lst (pa_cons pe_str pa_nil)) (nomark _)) (pss_one (ps_ret pe_bl)) pss_nil)))))))))) (pss_one (ps_ret pe_bl)))), ?_⟩
  obtain ⟨la, cells, rfl, hS, hlen, hQ⟩ := h
  have a0 : At md0 H H := ⟨Le.refl H, trivial⟩
  have hv : (rLst K (cells.map rInt)).P H (.ref la) := ⟨la, _, rfl, hS, cells_al cells⟩
  refine q_mix (K := K) (ea_cons (ev_var rfl hv) (ea_cons ev_c ea_nil)) (by omega) a0 fun h l G1 H1 g1 ss1 => ?_
  have a1 := ss1.at g1.gh
  refine q_for (W := [h, l]) (src_rng1 (ev_c (v := .int 4)) ⟨by decide, by decide⟩) a1 (fun b hb => hb) (fun i σ' _ _ => ∃ x2 x3 x4 x5 x6 x7, σ' = [some (.ref la), some (.ref h), x2, x3, x4, x5, x6, x7]) (fun _ _ _ => ⟨_, _, _, _, _, _, rfl⟩) (fun i r vr σ' G2 H2 hi hr2 g2 j2 hI N hN => ?_) (fun _ _ _ _ _ _ _ _ _ h => h) fun σ' G2 H2 g2 j2 hI => ?_
  · obtain ⟨x2, x3, x4, x5, x6, x7, rfl⟩ := hI
    have ss2 := ss1.gr g2 j2
    have a2 := ss2.at g2.gh
    refine q_asg (ev_drawBook (K := K) (a := 10) (b := 8) ss2 (ea_cons (ev_val rfl) (ea_cons ev_c (ea_cons ev_c ea_nil))) (by decide) (by decide)) a2 fun vb G3 H3 e3 ⟨⟨⟨ns, ts⟩, gn, gt, hn10, ht8⟩, pb⟩ => ?_
    have gn : GenN ns := gn
    have gt : GenT ns ts := gt
    have hn10 : ns.length ≤ 10 := hn10
    have ht8 : ts.length ≤ 8 := ht8
    have pb : (rRows K ns ts).P G3 vb := pb
    have bok := genBook gn gt
    have ldfit : ∀ names : List Str, names.length ≤ 100 → LdFit ns names := fun names h => ⟨by omega, h, gn.bk.ots⟩
    have cl12 : ∀ names, (closureM ns names).length ≤ 12 := fun names => by have := closureM_len ns names; omega
    have cl : ∀ names, (closureM ns names).length ≤ 100000 := fun names => by have := cl12 names; omega
    -- used = []
    refine q_asg (r := rLsH (([] : List Str).map rStr)) (EvN.lstH (en_lst ea_nil)) e3.at fun vu G4 H4 e4 pu => ?_
    have pb4 := Rl.mono _ e4.gg pb
    -- for row in book_here[1]
    refine q_for (W := [h, l]) (src_tup (K := K) (ev_ixT (ev_var rfl pb4) ev_c rfl)) e4.at (fun b hb => hb) (fun i σ' G' _ => ∃ vu x5 x6, σ' = [some (.ref la), some (.ref h), some vr, some vb, some vu, x5, x6, x7] ∧ (rLsH (((ts.take i).flatMap fun t : Tr => closureM ns t.nd).map rStr)).P G' vu) (fun G' H' e => ⟨vu, x5, x6, rfl, Rl.mono _ e.gg pu⟩) (fun i r vt σ' G5 H5 hi hr5 g5 j5 hI N' hN' => ?_)
      (fun i r σ' G' H' G'' H'' _ g ⟨vu, x5, x6, e, p⟩ => ⟨vu, x5, x6, e, Rl.mono _ g.gg p⟩) fun σ' G5 H5 g5 j5 hI => ?_
    · obtain ⟨vu, x5, x6, rfl, pu⟩ := hI
      rw [List.getElem?_map, Option.map_eq_some_iff] at hi
      obtain ⟨t, hi, rfl⟩ := hi
      have ht : t ∈ ts := List.mem_of_getElem? hi
      obtain ⟨seen, lk⟩ := bok.likeM ht
      have bf := lk.few
      have a5 : At (mdS h l) G5 H5 := ⟨g5.gh, j5⟩
      have pb5 := Rl.mono _ g5.gg pb4
      refine q_asg (ev_call (E := E0) (ns, t.nd) (ea_cons ((ev_ixT (ev_var rfl pb5) ev_c rfl).st) (ea_cons ((ev_ixT (ev_var rfl hr5) ev_c rfl).st) ea_nil)) fun _ _ _ => ldfit t.nd (by omega)) a5 fun vd G6 H6 e6 pd => ?_
      have pd : (rLsH ((closureM ns t.nd).map rStr)).P G6 vd := pd
      have hl1 : ((ts.take i).flatMap fun t : Tr => closureM ns t.nd).length ≤ 1000 := by
        have := flat_len (fun t : Tr => closureM ns t.nd) 12 (ts.take i) fun t _ => cl12 t.nd
        have h2 : (ts.take i).length ≤ 8 := by rw [List.length_take]; omega
        omega
      refine q_asg (EvN.lstH (en_catH (ev_var rfl (Rl.mono _ e6.gg pu)) (ev_var rfl pd) (by rw [List.length_map, List.length_map]; have := cl12 t.nd; omega))) e6.at fun vu' G7 H7 e7 pu' => ?_
      have pb7 := Rl.mono _ (e6.trans e7).gg pb5
      have hr7 := Rl.mono _ (e6.trans e7).gg hr5
      have pd7 := Rl.mono _ e7.gg pd
      refine s_when (B := fun b => b = false) (et_not (a := true) (et_B (ev_call (E := E0) (⟨rLst K ((closureM ns t.nd).map rStr), ad_strs (cl _)⟩ : { r : Rl // AD K 1 r }) (ea_cons ((ev_call (E := E0) (ns, ts, t.nm) (ea_cons (ev_var rfl pb7) (ea_cons (ev_ixT (ev_var rfl hr7) ev_c rfl) ea_nil)) fun _ _ _ => bok).of (by
          show rLst K ((neededM ns ts t.nm).map rStr) = _
          rw [needed_try gt ht])) (ea_cons (ev_var rfl pd7).raw ea_nil)) fun _ _ _ => trivial))) e7.at (fun hB => by cases hB) fun _ G8 H8 e8 => ?_
      refine hN' _ G8 H8 (e6.trans (e7.trans e8)).gr (e6.trans (e7.trans e8)).j ⟨vu', _, _, rfl, ?_⟩
      rw [List.take_add_one, hi, List.flatMap_append, List.map_append]
      have e : (some t).toList.flatMap (fun t => closureM ns t.nd) = closureM ns t.nd := by simp
      rw [e]
      exact Rl.mono _ e8.gg pu'
    · obtain ⟨vu, x5, x6, rfl, pu⟩ := hI
      rw [List.length_map, List.take_length] at pu
      have pb5 := Rl.mono _ g5.gg pb4
      have a5 : At (mdS h l) G5 H5 := ⟨g5.gh, j5⟩
      -- for row in book_here[0]
      refine q_for (W := [h, l]) (src_tup (K := K) (ev_ixT (ev_var rfl pb5) ev_c rfl)) a5 (fun b hb => hb) (fun i σ' _ _ => ∃ x5, σ' = [some (.ref la), some (.ref h), some vr, some vb, some vu, x5, x6, x7]) (fun _ _ _ => ⟨_, rfl⟩) (fun i r vn σ' G6 H6 hi hr6 g6 j6 hI N' hN' => ?_) (fun _ _ _ _ _ _ _ _ _ h => h) fun σ' G6 H6 g6 j6 hI => ?_
      · obtain ⟨x5, rfl⟩ := hI
        rw [List.getElem?_map, Option.map_eq_some_iff] at hi
        obtain ⟨n, hi, rfl⟩ := hi
        have hn : n ∈ ns := List.mem_of_getElem? hi
        have b12 := bok.ot_ok hn
        have pb6 := Rl.mono _ g6.gg pb5
        refine s_when (B := fun b => b = false) (et_not (a := true) (et_B (ev_call (E := E0) (⟨rLst K ((closureM ns n.ot).map rStr), ad_strs (cl _)⟩ : { r : Rl // AD K 1 r }) (ea_cons ((ev_call (E := E0) (ns, ts, n.nm) (ea_cons (ev_var rfl pb6) (ea_cons (ev_ixT (ev_var rfl hr6) ev_c rfl) ea_nil)) fun _ _ _ => bok).of (by
            show rLst K ((neededM ns ts n.nm).map rStr) = _
            rw [needed_need gn gt hn])) (ea_cons (Ev.raw (ev_call (E := E0) (ns, n.ot) (ea_cons ((ev_ixT (ev_var rfl pb6) ev_c rfl).st) (ea_cons ((ev_ixT (ev_var rfl hr6) ev_c rfl).st) ea_nil)) fun _ _ _ => ldfit n.ot b12.1)) ea_nil)) fun _ _ _ => trivial))) ⟨g6.gh, j6⟩ (fun hB => by cases hB) fun _ G8 H8 e8 => hN' _ G8 H8 e8.gr e8.j ⟨_, rfl⟩
      · obtain ⟨x5, rfl⟩ := hI
        have a6 : At (mdS h l) G6 H6 := ⟨g6.gh, j6⟩
        have pb6 := Rl.mono _ g6.gg pb5
        have pu6 := Rl.mono _ g6.gg pu
        -- due
        refine q_asg (EvN.lst (K := K) (en_lcX (enc := rNd K) (src_tup (K := K) (ev_ixT (ev_var rfl pb6) ev_c rfl)) (fun n => !decide (n.nm ∈ ts.flatMap fun t : Tr => closureM ns t.nd)) (fun n => rStr n.nm) (fun _ => rfl) (fun n vn G' H' hn g pn => ⟨et_test (ev_in (K := K) (neg := true) (ev_ixT (ev_var rfl pn) ev_c rfl) (ev_var rfl (Rl.mono _ g.gg pu6)).raw.sl), fun _ => ev_ixT (ev_var rfl pn) ev_c rfl⟩) (by omega))) a6 fun vd G7 H7 e7 pd => ?_
        have hless : ((ns.filter fun n => !decide (n.nm ∈ ts.flatMap fun t : Tr => closureM ns t.nd)).map fun n => rStr n.nm) = (needlessM ns ts).map rStr := by
          unfold needlessM
          rw [List.filter_map, List.map_map]
          rfl
        rw [hless] at pd
        have pb7 := Rl.mono _ e7.gg pb6
        have hnl : (needlessM ns ts).length ≤ 100000 := by
          unfold needlessM
          have := List.length_filter_le (fun x => !decide (x ∈ ts.flatMap fun t : Tr => closureM ns t.nd)) (ns.map Nd.nm)
          rw [List.length_map] at this
          omega
        have zz : neededM ns ts "zz" = [] := needed_no (fun z => by
          obtain ⟨n, hn, e⟩ := List.mem_map.mp z
          obtain ⟨i, hi, e2⟩ := gn.nm' hn
          exact (no_n ⟨i, hi⟩).1 (e2.symm.trans e)) fun t ht e => by
          obtain ⟨i, hi, e2⟩ := gt.nm' ht
          exact (no_t ⟨i, hi⟩).1 (e2.symm.trans e)
        refine q_when (B := fun b => b = false) (et_or (a := false) (b := false) (et_not (a := true) (et_B (ev_call (E := E0) (⟨rLst K ((needlessM ns ts).map rStr), ad_strs hnl⟩ : { r : Rl // AD K 1 r }) (ea_cons (ev_call (E := E0) (ns, ts) (ea_cons (ev_var rfl pb7) ea_nil) fun _ _ _ => bok) (ea_cons (ev_var rfl pd) ea_nil)) fun _ _ _ => trivial))) fun _ => et_test ((ev_neStrs (K := K) (xs := []) (ys := []) ((ev_call (E := E0) (ns, ts, ("zz" : Str)) (ea_cons (ev_var rfl pb7) (ea_cons ev_c ea_nil)) fun _ _ _ => bok).of (by
            show rLst K ((neededM ns ts "zz").map rStr) = _
            rw [zz])) (ev_lst ea_nil) (fun _ z => (nomatch z)) fun _ z => (nomatch z)).imp fun _ _ p => p)) e7.at (fun hB => by cases hB) fun _ G8 H8 e8 => ?_
        have pb8 := Rl.mono _ e8.gg pb7
        -- both
        refine q_asg (r := rRows K (ns ++ [xNd]) (ts ++ [xTr])) ((ev_tup (K := K) (ea_cons (ev_catT (K := K) (ev_ixT (ev_var rfl pb8) ev_c rfl) (ev_tup (K := K) (rs := [rNd K xNd]) (ea_cons (ev_tup (K := K) (ea_cons ev_c (ea_cons ev_c (ea_cons (ev_tup (K := K) ea_nil (show 0 ≤ 100000 by decide)) (ea_cons ev_c ea_nil)))) (show 4 ≤ 100000 by decide)) ea_nil) (show 1 ≤ 100000 by decide)) (by rw [List.length_map]; show ns.length + 1 ≤ 100000; omega))
            (ea_cons (ev_catT (K := K) (ev_ixT (ev_var rfl pb8) ev_c rfl) (ev_tup (K := K) (rs := [rTr K xTr]) (ea_cons (ev_tup (K := K) (ea_cons ev_c (ea_cons ev_c (ea_cons ev_c (ea_cons (ev_tup (K := K) (ea_cons ev_c ea_nil) (show 1 ≤ 100000 by decide)) (ea_cons (ev_tup (K := K) ea_nil (show 0 ≤ 100000 by decide)) (ea_cons ev_c (ea_cons ev_c ea_nil))))))) (show 7 ≤ 100000 by decide)) ea_nil) (show 1 ≤ 100000 by decide)) (by rw [List.length_map]; show ts.length + 1 ≤ 100000; omega)) ea_nil)) (show 2 ≤ 100000 by decide)).of (by
            unfold rRows
            rw [List.map_append, List.map_append]
            rfl)) e8.at fun vbo G9 H9 e9 pbo => ?_
        refine s_when (B := fun b => b = false) (et_test ((ev_neStrs (K := K) (xs := [("tz" : Str)]) (ys := [("tz" : Str)]) ((ev_call (E := E0) (ns ++ [xNd], ts ++ [xTr], ("tz" : Str)) (ea_cons (ev_var rfl pbo) (ea_cons ev_c ea_nil)) fun _ _ _ => both_ok gn gt (by omega)).of (by
            show rLst K ((neededM (ns ++ [xNd]) (ts ++ [xTr]) "tz").map rStr) = _
            rw [both_tz gn gt])) (ev_lst (ea_cons ev_c ea_nil) (show 1 ≤ 100000 by decide)) (by decide +kernel) (by decide +kernel)).imp fun _ _ p => by rwa [decide_eq_true rfl] at p)) e9.at (fun hB => by cases hB) fun _ G10 H10 e10 => ?_
        exact hN _ G10 H10 ((e3.trans e4).gr.trans (g5.trans (g6.trans (e7.trans (e8.trans (e9.trans e10))).gr))) e10.j ⟨_, _, _, _, _, _, rfl⟩
  · obtain ⟨x2, x3, x4, x5, x6, x7, rfl⟩ := hI
    refine s_ret (r := rBl true) ev_c (ss1.gr g2 j2 |>.at g2.gh) fun v G3 H3 e3 p => ?_
    obtain rfl : v = .bl true := p
    exact hQ H3
end

end TH
namespace TH
open PySem PySem.Spec PyProof.Rows L2
/-! ### the head -/
def fnL : List He.DefD := [⟨("is_name", none), "is_name", "is_name", defArgs s_is_name, defBody s_is_name, defScope s_is_name, [], []⟩,
  ⟨("are_unlike", none), "are_unlike", "are_unlike", defArgs s_are_unlike, defBody s_are_unlike, defScope s_are_unlike, [], []⟩,
  ⟨("Book", some "scope_of"), "scope_of", "Book.scope_of", defArgs s_Book_scope_of, defBody s_Book_scope_of, defScope s_Book_scope_of, [], []⟩,
  ⟨("Book", some "closure"), "closure", "Book.closure", defArgs s_Book_closure, defBody s_Book_closure, defScope s_Book_closure, [], []⟩,
  ⟨("Book", some "is_need"), "is_need", "Book.is_need", defArgs s_Book_is_need, defBody s_Book_is_need, defScope s_Book_is_need, [], []⟩,
  ⟨("Book", some "is_try"), "is_try", "Book.is_try", defArgs s_Book_is_try, defBody s_Book_is_try, defScope s_Book_is_try, [], []⟩,
  ⟨("Book", some "__init__"), "__init__", "Book.__init__", defArgs s_Book___init__, defBody s_Book___init__, defScope s_Book___init__, [], []⟩,
  ⟨("needed", none), "needed", "needed", defArgs s_needed, defBody s_needed, defScope s_needed, [], []⟩,
  ⟨("needless", none), "needless", "needless", defArgs s_needless, defBody s_needless, defScope s_needless, [], []⟩,
  ⟨("_law_next", none), "_law_next", "_law_next", defArgs s__law_next, defBody s__law_next, defScope s__law_next, [], []⟩,
  ⟨("_law_mix", none), "_law_mix", "_law_mix", defArgs s__law_mix, defBody s__law_mix, defScope s__law_mix, [], []⟩,
  ⟨("_law_alike", none), "_law_alike", "_law_alike", defArgs s__law_alike, defBody s__law_alike, defScope s__law_alike, [], []⟩,
  ⟨("_law_leads", none), "_law_leads", "_law_leads", defArgs s__law_leads, defBody s__law_leads, defScope s__law_leads, [], []⟩,
  ⟨("_law_some", none), "_law_some", "_law_some", defArgs s__law_some, defBody s__law_some, defScope s__law_some, [], []⟩,
  ⟨("_law_book", none), "_law_book", "_law_book", defArgs s__law_book, defBody s__law_book, defScope s__law_book, [], []⟩,
  ⟨("law", none), "law", "law", defArgs s_law, defBody s_law, defScope s_law, [], []⟩]
def faL : List He.Fa := [.free "len", .free "all", .free "any", .free "set", .free "list", .free "tuple", .free "dict", .free "int", .free "str", .free "max", .free "min", .free "range", .free "enumerate", .free "isinstance", .free "sorted", .free "bool", .int "MOST_SIGNS" 8, .int "MOST_NEEDS" 12, .int "MOST_TRIES" 30, .int "MOST_WAYS" 4, .int "MOST_TIMES" 4, .int "MOST_CASES" 64, .str "LETTERS" "abcdefghijklmnopqrstuvwxyz", .glo "WORDS", .glo "SCOPES", .glo "is_name", .glo "are_unlike", .glo "Book", .cls "Book", .noat "Book" "needs", .noat "Book" "tries", .meth "Book" "scope_of", .meth "Book" "closure", .meth "Book" "is_need", .meth "Book" "is_try", .mkr "Book", .glo "needed", .glo "needless", .glo "_law_next", .glo "_law_mix", .glo "_law_alike", .glo "_law_leads", .glo "_law_some", .glo "_law_book", .glo "law"]
/-- the table x has no dict of its own -/
def bareT (K : PySem.W.Frag) (x : Str) : Bool := match K.lookup (He.ga K x) with
  | some ⟨.type c, none, _, _⟩ => decide (c = "tuple")
  | _ => false
theorem bareT_ok {K : PySem.W.Frag} {x : Str} (h : bareT K x = true) : ∃ o, K.lookup (He.ga K x) = some o ∧ o.cls = .type "tuple" ∧ o.dict = none := by
  unfold bareT at h
  cases e : K.lookup (He.ga K x) with
  | none => rw [e] at h; cases h
  | some o =>
    obtain ⟨oc, od, dt, sl⟩ := o
    rw [e] at h
    cases oc with
    | type c =>
      cases od with
      | none =>
        have h : c = "tuple" := of_decide_eq_true h
        exact ⟨_, rfl, by rw [h], rfl⟩
      | some d => cases h
    | _ => cases h
def exB (K : PySem.W.Frag) : Bool := (He.tupB K "WORDS" [.str "and", .str "or", .str "not"]) && (He.tupB K "SCOPES" [.str "run", .str "house", .str "group", .str "try"]) && bareT K "WORDS" && bareT K "SCOPES"
abbrev R : PySem.W.OpenRow := PySem.W.OpenLaw.row PySem.Challenge.rw_tryhouse_k02_what_a_try_needs
abbrev hk : PySem.W.Hook := He.hookX 6 faL fnL [] [] exB
def ob (s : PySem.W.SharedT) : He.AlX := He.obsX 6 faL fnL [] [] exB (HandSHeadRun.getT s)
theorem ob_eq (s : PySem.W.SharedT) : ob s = hk.obs s.abs := He.obsX_eq (HandSHeadRun.getT_eq s)
def looseL : List Str := ["_wall", "TryError", "BadBook", "RUN", "HOUSE", "GROUP", "TRY", "SCOPES", "LETTERS", "MOST_SIGNS", "MOST_NEEDS", "MOST_TRIES", "MOST_WAYS", "MOST_TIMES", "MOST_CASES", "WORDS", "is_name", "are_unlike", "Book", "needed", "needless", "_law_mix", "_law_next", "_law_alike", "_law_leads", "_law_some", "_law_book"]
theorem run (w : World) : HandSHeadRun.RunEq R (PySem.W.view R.prog [30]) hk ob 6000 looseL w := by
  intro os
  kernel_rfl
theorem facts {P : Program} {w : World} {K : PySem.W.Frag} {h : Heap} {mg : Str → Option Value} {f : Addr} (X : K.In h) (G : h.Ns mainGlobals mg) (hfa : mg ("law" : Str) = some (.ref f)) (c : He.SaysD faL fnL K) (hx : exB K = true) :
    ∃ fd : FuncData, (∀ (s : Shared) (v : Value), BindsTo s fd ⟨[v], []⟩ [("_law_script", v)]) ∧ ∀ base : Heap, K.In base → base.Ns mainGlobals mg → FnOk P w K mg base CX0 7 f fd ["_law_script"] (sp_law K) := by
  have hx := hx
  simp only [exB, Bool.and_eq_true] at hx
  obtain ⟨⟨⟨x0, x1⟩, x2⟩, x3⟩ := hx
  have T : Top K mg := {
    z_len := He.free_ok X G (c.fact 0 (f := .free "len") rfl)
    z_all := He.free_ok X G (c.fact 1 (f := .free "all") rfl)
    z_any := He.free_ok X G (c.fact 2 (f := .free "any") rfl)
    z_set := He.free_ok X G (c.fact 3 (f := .free "set") rfl)
    z_list := He.free_ok X G (c.fact 4 (f := .free "list") rfl)
    z_tuple := He.free_ok X G (c.fact 5 (f := .free "tuple") rfl)
    z_dict := He.free_ok X G (c.fact 6 (f := .free "dict") rfl)
    z_int := He.free_ok X G (c.fact 7 (f := .free "int") rfl)
    z_str := He.free_ok X G (c.fact 8 (f := .free "str") rfl)
    z_max := He.free_ok X G (c.fact 9 (f := .free "max") rfl)
    z_min := He.free_ok X G (c.fact 10 (f := .free "min") rfl)
    z_range := He.free_ok X G (c.fact 11 (f := .free "range") rfl)
    z_enumerate := He.free_ok X G (c.fact 12 (f := .free "enumerate") rfl)
    z_isinstance := He.free_ok X G (c.fact 13 (f := .free "isinstance") rfl)
    z_sorted := He.free_ok X G (c.fact 14 (f := .free "sorted") rfl)
    z_bool := He.free_ok X G (c.fact 15 (f := .free "bool") rfl)
    c_MOST_SIGNS := by obtain ⟨t, e⟩ := He.int_ok X G (c.fact 16 (f := .int "MOST_SIGNS" 8) rfl); exact ⟨_, e, t, rfl⟩
    c_MOST_NEEDS := by obtain ⟨t, e⟩ := He.int_ok X G (c.fact 17 (f := .int "MOST_NEEDS" 12) rfl); exact ⟨_, e, t, rfl⟩
    c_MOST_TRIES := by obtain ⟨t, e⟩ := He.int_ok X G (c.fact 18 (f := .int "MOST_TRIES" 30) rfl); exact ⟨_, e, t, rfl⟩
    c_MOST_WAYS := by obtain ⟨t, e⟩ := He.int_ok X G (c.fact 19 (f := .int "MOST_WAYS" 4) rfl); exact ⟨_, e, t, rfl⟩
    c_MOST_TIMES := by obtain ⟨t, e⟩ := He.int_ok X G (c.fact 20 (f := .int "MOST_TIMES" 4) rfl); exact ⟨_, e, t, rfl⟩
    c_MOST_CASES := by obtain ⟨t, e⟩ := He.int_ok X G (c.fact 21 (f := .int "MOST_CASES" 64) rfl); exact ⟨_, e, t, rfl⟩
    c_LETTERS := by obtain ⟨t, e⟩ := He.str_ok X G (c.fact 22 (f := .str "LETTERS" "abcdefghijklmnopqrstuvwxyz") rfl); exact ⟨_, e, t, rfl⟩
    c_WORDS := ⟨_, He.glo_ok X G (c.fact 23 (f := .glo "WORDS") rfl), rfl⟩
    t_WORDS := He.tupB_ok x0
    c_SCOPES := ⟨_, He.glo_ok X G (c.fact 24 (f := .glo "SCOPES") rfl), rfl⟩
    t_SCOPES := He.tupB_ok x1
    y_SCOPES := fun _ => .inr (.inl ⟨rfl, bareT_ok x3⟩) }
  obtain ⟨fd0, F0⟩ := c.def_ 0 (d := _) rfl
  obtain ⟨fd1, F1⟩ := c.def_ 1 (d := _) rfl
  obtain ⟨fd2, F2⟩ := c.def_ 2 (d := _) rfl
  obtain ⟨fd3, F3⟩ := c.def_ 3 (d := _) rfl
  obtain ⟨fd4, F4⟩ := c.def_ 4 (d := _) rfl
  obtain ⟨fd5, F5⟩ := c.def_ 5 (d := _) rfl
  obtain ⟨fd6, F6⟩ := c.def_ 6 (d := _) rfl
  obtain ⟨fd7, F7⟩ := c.def_ 7 (d := _) rfl
  obtain ⟨fd8, F8⟩ := c.def_ 8 (d := _) rfl
  obtain ⟨fd9, F9⟩ := c.def_ 9 (d := _) rfl
  obtain ⟨fd10, F10⟩ := c.def_ 10 (d := _) rfl
  obtain ⟨fd11, F11⟩ := c.def_ 11 (d := _) rfl
  obtain ⟨fd12, F12⟩ := c.def_ 12 (d := _) rfl
  obtain ⟨fd13, F13⟩ := c.def_ 13 (d := _) rfl
  obtain ⟨fd14, F14⟩ := c.def_ 14 (d := _) rfl
  obtain ⟨fd15, F15⟩ := c.def_ 15 (d := _) rfl
  have B : TopBook K mg (He.ga K "Book") := ⟨He.cls_ok (c.fact 28 (f := .cls "Book") rfl), He.noat_ok (c.fact 29 (f := .noat "Book" "needs") rfl), He.noat_ok (c.fact 30 (f := .noat "Book" "tries") rfl)⟩
  have e := hfa.symm.trans (He.glo_ok X G (c.fact 44 (f := .glo "law") rfl))
  cases e
  have b := FunD.bindsA (ps := ["_law_script"]) F15 fun _ _ _ _ _ _ us hl => match us, hl with | [_], _ => rfl
  refine ⟨fd15, fun s v => b s [v] rfl, fun base _ _ => ?_⟩
  have c_is_name : C8.Cal P w K mg base 1 "is_name" sp_is_name [] := ⟨_, fd0, _, [], fn_is_name F0 T, He.glo_ok X G (c.fact 25 (f := .glo "is_name") rfl), F0.kp, (F0.bindsN fun _ _ _ _ _ _ us hl => match us, hl with | [_], _ => rfl), .nil⟩
  have c_are_unlike : C8.Cal P w K mg base 2 "are_unlike" (sp_are_unlike K) [] := ⟨_, fd1, _, [], fn_are_unlike F1 T c_is_name, He.glo_ok X G (c.fact 26 (f := .glo "are_unlike") rfl), F1.kp, (F1.bindsN fun _ _ _ _ _ _ us hl => match us, hl with | [_], _ => rfl), .nil⟩
  have c_scope_of : C8.Met P w K mg base 1 (He.ga K "Book") "scope_of" (sp_scope_of K (He.ga K "Book")) [] := ⟨_, fd2, _, [], He.cls_ok (c.fact 28 (f := .cls "Book") rfl), He.meth_ok (c.fact 31 (f := .meth "Book" "scope_of") rfl), fn_scope_of F2 T B, (F2.bindsN fun _ _ _ _ _ _ us hl => match us, hl with | [_, _], _ => rfl), .nil⟩
  have c_closure : C8.Met P w K mg base 1 (He.ga K "Book") "closure" (sp_closure K (He.ga K "Book")) [] := ⟨_, fd3, _, [], He.cls_ok (c.fact 28 (f := .cls "Book") rfl), He.meth_ok (c.fact 32 (f := .meth "Book" "closure") rfl), fn_closure F3 T B, (F3.bindsN fun _ _ _ _ _ _ us hl => match us, hl with | [_, _], _ => rfl), .nil⟩
  have c_is_need : C8.Met P w K mg base 3 (He.ga K "Book") "is_need" (sp_is_need K (He.ga K "Book")) [] := ⟨_, fd4, _, [], He.cls_ok (c.fact 28 (f := .cls "Book") rfl), He.meth_ok (c.fact 33 (f := .meth "Book" "is_need") rfl), fn_is_need F4 T B c_is_name c_are_unlike c_scope_of, (F4.bindsN fun _ _ _ _ _ _ us hl => match us, hl with | [_, _], _ => rfl), .nil⟩
  have c_is_try : C8.Met P w K mg base 3 (He.ga K "Book") "is_try" (sp_is_try K (He.ga K "Book")) [] := ⟨_, fd5, _, [], He.cls_ok (c.fact 28 (f := .cls "Book") rfl), He.meth_ok (c.fact 34 (f := .meth "Book" "is_try") rfl), fn_is_try F5 T B c_is_name c_are_unlike c_closure, (F5.bindsN fun _ _ _ _ _ _ us hl => match us, hl with | [_, _], _ => rfl), .nil⟩
  have c_Book : C8.Mak P w K mg base 4 "Book" (He.ga K "Book") (sp_init K (He.ga K "Book")) [] := ⟨_, fd6, _, [], He.mkr_ok (c.fact 35 (f := .mkr "Book") rfl), fn_init F6 T B c_is_need c_is_try, He.glo_ok X G (c.fact 27 (f := .glo "Book") rfl), (F6.bindsN fun _ _ _ _ _ _ us hl => match us, hl with | [_, _], _ => rfl), .nil⟩
  have c_needed : C8.Cal P w K mg base 6 "needed" (sp_needed K) [] := ⟨_, fd7, _, [], fn_needed F7 T B c_Book c_closure, He.glo_ok X G (c.fact 36 (f := .glo "needed") rfl), F7.kp, (F7.bindsN fun _ _ _ _ _ _ us hl => match us, hl with | [_, _], _ => rfl), .nil⟩
  have c_needless : C8.Cal P w K mg base 6 "needless" (sp_needless K) [] := ⟨_, fd8, _, [], fn_needless F8 T B c_Book c_closure, He.glo_ok X G (c.fact 37 (f := .glo "needless") rfl), F8.kp, (F8.bindsN fun _ _ _ _ _ _ us hl => match us, hl with | [_], _ => rfl), .nil⟩
  have c_next : C8.Cal P w K mg base 1 "_law_next" sp_next [] := ⟨_, fd9, _, [], fn_law_next F9 T, He.glo_ok X G (c.fact 38 (f := .glo "_law_next") rfl), F9.kp, (F9.bindsN fun _ _ _ _ _ _ us hl => match us, hl with | [_, _], _ => rfl), .nil⟩
  have c_mix : C8.Cal P w K mg base 1 "_law_mix" (sp_mix K) [] := ⟨_, fd10, _, [], fn_law_mix F10 T, He.glo_ok X G (c.fact 39 (f := .glo "_law_mix") rfl), F10.kp, (F10.bindsN fun _ _ _ _ _ _ us hl => match us, hl with | [_, _], _ => rfl), .nil⟩
  have c_alike := fun k => (show ∀ k, C8.Cal P w K mg base k "_law_alike" (sp_alike K k) [] from fun k => ⟨_, fd11, ["_law_found", "_law_due"], [], fn_law_alike rfl F11 T (fun k sp o => ⟨_, fd11, ["_law_found", "_law_due"], [], o, He.glo_ok X G (c.fact 40 (f := .glo "_law_alike") rfl), F11.kp, (F11.bindsN fun _ _ _ _ _ _ us hl => match us, hl with | [_, _], _ => rfl), .nil⟩) k, He.glo_ok X G (c.fact 40 (f := .glo "_law_alike") rfl), F11.kp, (F11.bindsN fun _ _ _ _ _ _ us hl => match us, hl with | [_, _], _ => rfl), .nil⟩) k
  have c_leads : C8.Cal P w K mg base 1 "_law_leads" (sp_leads K) [] := ⟨_, fd12, _, [], fn_law_leads F12 T, He.glo_ok X G (c.fact 41 (f := .glo "_law_leads") rfl), F12.kp, (F12.bindsN fun _ _ _ _ _ _ us hl => match us, hl with | [_, _], _ => rfl), .nil⟩
  have c_some : C8.Cal P w K mg base 2 "_law_some" (sp_some K) [] := ⟨_, fd13, _, [], fn_law_some F13 T c_next, He.glo_ok X G (c.fact 42 (f := .glo "_law_some") rfl), F13.kp, (F13.bindsN fun _ _ _ _ _ _ us hl => match us, hl with | [_, _, _], _ => rfl), .nil⟩
  have c_book : C8.Cal P w K mg base 3 "_law_book" (sp_book K) [] := ⟨_, fd14, _, [], fn_law_book F14 T c_next c_some c_leads, He.glo_ok X G (c.fact 43 (f := .glo "_law_book") rfl), F14.kp, (F14.bindsN fun _ _ _ _ _ _ us hl => match us, hl with | [_, _, _], _ => rfl), .nil⟩
  exact fn_law F15 T c_mix c_book c_leads (c_alike 2) c_needed c_needless
end TH
open PySem PySem.W PySem.Calls PyProof.Rows
theorem PySem.Challenge.cw_tryhouse_k02_what_a_try_needs_holds : PySem.Challenge.rw_tryhouse_k02_what_a_try_needs.Holds := by
  w_on; o_law
  refine HandSHeadRun.head_any (r := OpenLaw.row PySem.Challenge.rw_tryhouse_k02_what_a_try_needs) (q := view (OpenLaw.row PySem.Challenge.rw_tryhouse_k02_what_a_try_needs).prog [30]) (H := TH.hk) (ob := TH.ob) (M := 6000) (loose := TH.looseL) (d := HandSHeadRun.topDef (OpenLaw.row PySem.Challenge.rw_tryhouse_k02_what_a_try_needs).prog 30) (kwd := []) TH.ob_eq
    (by kernel_rfl) (fun s => by kernel_rfl) TH.run (by kernel_rfl) (by kernel_rfl) (by kernel_rfl) (by rfl) (by first | assumption | decide +kernel) (by decide +kernel) ⟨rfl, rfl, rfl, rfl, rfl, by decide +kernel⟩ ?hw ?hc
  case hw => w_witness2
  case hc =>
    refine L2.walk_ofE (l := PySem.Challenge.rw_tryhouse_k02_what_a_try_needs) (n := 63) (k := 7) (x := "_law_script") (CX := L2.CX0) rfl (by decide) (by kernel_rfl) ⟨rfl, by decide, by decide⟩ ?F (fun _ _ _ _ z => z)
    intro w mg fa h Y G hmg0
    obtain ⟨K, KX, c⟩ := Y
    have hmg : mg ("law" : PySem.Str) = some (.ref fa) := by
      have e : (HandSHeadRun.topDef (OpenLaw.row PySem.Challenge.rw_tryhouse_k02_what_a_try_needs).prog 30).name = ("law" : PySem.Str) := by kernel_rfl
      rw [← e]
      exact hmg0
    obtain ⟨fd, hb, hF⟩ := TH.facts (P := (PySem.Challenge.rw_tryhouse_k02_what_a_try_needs).prog) (w := w) KX G hmg c.t.d c.more
    exact ⟨K, fd, TH.sp_law K, KX, hb, fun H a ns hl _ hS => ⟨a, ns, rfl, hS, hl, fun _ => rfl⟩, hF⟩
