import PyProof.Rows.All
import Wide.All
import OpenK.AllK
import Wide.FinOn
import HandS.ForMost
import HandS.Flow
import HandS.IsInst
import HandS.TupAny
import HandS.SortInts
import HandS.Style
import HandS.WideBits
import HandS.Conv
import HandS.Zip
import HandS.Deep
import KE.GoesMore
import HandS.Defaults
import HandS.NoneIn
import PyProof.Rows.SeqMore
import HandS.DictComp
import PySem.Challenge.RW_twoshown_k47_main_tables_of_two_parts
set_option Elab.async false
set_option linter.all false
set_option maxRecDepth 100000
set_option maxHeartbeats 4000000
/-! PDCore: the program's values as plain trees; slots hold trees or cells of their own; what a state stands for. -/
namespace PD
open PySem PySem.Spec PyProof.Rows L2

abbrev D := PyData
abbrev St := L2.St

/-! ### heaps -/
theorem same_rd {H H' : Hp} {a : Addr} {u : HO} (e : Same H H') (h : Rd H a u) : Rd H' a u := by
  rcases h with h | ⟨o, h⟩
  · exact .inl (e _ _ h)
  · exact .inr ⟨o, e _ _ h⟩
theorem same_sqt {K : PySem.W.Frag} {H H' : Hp} {a : Addr} {xs : List V} (e : Same H H') (h : SqT K H a xs) : SqT K H' a xs := by
  rcases h with h | h
  · exact .inl (same_rd e h)
  · exact .inr h
mutual
theorem dp_mono {K : PySem.W.Frag} {H H' : Hp} (e : Same H H') : ∀ {v : V} {d : D}, Dp K H v d → Dp K H' v d
  | _, _, .non => .non
  | _, _, .bl b => .bl b
  | _, _, .int i => .int i
  | _, _, .str x => .str x
  | _, _, .lst h a => .lst (e.seq h) (dpAll_mono e a)
  | _, _, .tup h a => .tup (same_sqt e h) (dpAll_mono e a)
theorem dpAll_mono {K : PySem.W.Frag} {H H' : Hp} (e : Same H H') : ∀ {vs : List V} {ds : List D}, DpAll K H vs ds → DpAll K H' vs ds
  | _, _, .nil => .nil
  | _, _, .cons h t => .cons (dp_mono e h) (dpAll_mono e t)
end
end PD
namespace L2
open PySem PySem.Spec PyProof.Rows
section
variable {K : PySem.W.Frag} {H G : Hp}
theorem DpAll.len : ∀ {vs : List V} {ds : List PyData}, DpAll K H vs ds → vs.length = ds.length
  | _, _, .nil => rfl
  | _, _, .cons _ t => by rw [List.length_cons, List.length_cons, DpAll.len t]
theorem DpAll.get : ∀ {vs : List V} {ds : List PyData} {i : Nat} {d : PyData}, DpAll K H vs ds → ds[i]? = some d → ∃ v, vs[i]? = some v ∧ Dp K H v d
  | _, _, _, _, .nil, e => by simp at e
  | _, _, 0, _, .cons r _, e => by simp at e; subst e; exact ⟨_, rfl, r⟩
  | _, _, i + 1, d, .cons _ t, e => by
    obtain ⟨v, h1, h2⟩ := DpAll.get (i := i) (d := d) t (by simpa using e)
    exact ⟨v, by simpa using h1, h2⟩
theorem DpAll.app : ∀ {vs : List V} {ds : List PyData} {ws : List V} {es : List PyData}, DpAll K H vs ds → DpAll K H ws es → DpAll K H (vs ++ ws) (ds ++ es)
  | _, _, _, _, .nil, s => s
  | _, _, _, _, .cons r t, s => .cons r (DpAll.app t s)
theorem DpAll.one {v : V} {d : PyData} (h : Dp K H v d) : DpAll K H [v] [d] := .cons h .nil
theorem DpAll.set {v : V} {d : PyData} (r : Dp K H v d) : ∀ {vs : List V} {ds : List PyData} (i : Nat), DpAll K H vs ds → DpAll K H (vs.set i v) (ds.set i d)
  | _, _, _, .nil => .nil
  | _, _, 0, .cons _ t => .cons r t
  | _, _, i + 1, .cons q t => .cons q (DpAll.set r i t)
theorem DpAll.drop : ∀ {vs : List V} {ds : List PyData} (n : Nat), DpAll K H vs ds → DpAll K H (vs.drop n) (ds.drop n)
  | _, _, 0, r => r
  | _, _, _ + 1, .nil => .nil
  | _, _, n + 1, .cons _ t => DpAll.drop n t
theorem DpAll.take : ∀ {vs : List V} {ds : List PyData} (n : Nat), DpAll K H vs ds → DpAll K H (vs.take n) (ds.take n)
  | _, _, 0, _ => .nil
  | _, _, _ + 1, .nil => .nil
  | _, _, n + 1, .cons r t => .cons r (DpAll.take n t)
theorem DpAll.eraseIdx : ∀ {vs : List V} {ds : List PyData} (n : Nat), DpAll K H vs ds → DpAll K H (vs.eraseIdx n) (ds.eraseIdx n)
  | _, _, _, .nil => .nil
  | _, _, 0, .cons _ t => t
  | _, _, n + 1, .cons r t => .cons r (DpAll.eraseIdx n t)
theorem DpAll.ints : ∀ {vs : List V} {ns : List Int}, DpAll K H vs (ns.map .int) → vs = ns.map V.int
  | _, [], .nil => rfl
  | _, n :: ns, .cons r t => by
    cases r
    rw [DpAll.ints t]
    rfl
theorem DpAll.ofInts : ∀ (ns : List Int), DpAll K H (ns.map V.int) (ns.map .int)
  | [] => .nil
  | n :: ns => .cons (.int n) (DpAll.ofInts ns)
theorem DpAll.bools : ∀ {vs : List V} {ns : List Bool}, DpAll K H vs (ns.map .bool) → vs = ns.map V.bl
  | _, [], .nil => rfl
  | _, n :: ns, .cons r t => by
    cases r
    rw [DpAll.bools t]
    rfl
theorem DpAll.reverse : ∀ {vs : List V} {ds : List PyData}, DpAll K H vs ds → DpAll K H vs.reverse ds.reverse
  | _, _, .nil => .nil
  | _, _, .cons r t => by
    rw [List.reverse_cons, List.reverse_cons]
    exact (DpAll.reverse t).app (.one r)
end

end L2
namespace PD
open PySem PySem.Spec PyProof.Rows L2
/-- the heap and what is plain of it grow -/
structure Gr (G H G' H' : Hp) : Prop where
  g : Same G G'
  h : Same H H'
  s : Same G' H'
  f : ∀ b o, H b = some o → G' b = G b
theorem Gr.refl {G H : Hp} (s : Same G H) : Gr G H G H := ⟨Same.refl _, Same.refl _, s, fun _ _ _ => rfl⟩
theorem same_new {H : Hp} {p : Addr} {o : HO} (h : H p = none) : Same H (upd H p o) := fun b x e => by
  rw [upd_ne (ne_of_none e h)]
  exact e
theorem same_none {G H : Hp} {p : Addr} (s : Same G H) (h : H p = none) : G p = none := s.free h
theorem Gr.new {G H : Hp} {p : Addr} {o : HO} (s : Same G H) (h : H p = none) : Gr G H (upd G p o) (upd H p o) :=
  ⟨same_new (same_none s h), same_new h, fun b x e => by
    by_cases hb : b = p
    · subst hb; rw [upd_same] at e ⊢; exact e
    · rw [upd_ne hb] at e ⊢; exact s _ _ e,
   fun b x e => by rw [upd_ne (ne_of_none e h)]⟩
/-- a new object that is not (yet) plain -/
theorem Gr.newH {G H : Hp} {p : Addr} {o : HO} (s : Same G H) (h : H p = none) : Gr G H G (upd H p o) :=
  ⟨Same.refl _, same_new h, fun b x e => same_new h _ _ (s _ _ e), fun _ _ _ => rfl⟩
theorem Gr.trans {G H G1 H1 G2 H2 : Hp} (a : Gr G H G1 H1) (b : Gr G1 H1 G2 H2) : Gr G H G2 H2 :=
  ⟨a.g.trans b.g, a.h.trans b.h, b.s, fun c o e => (b.f c o (a.h _ _ e)).trans (a.f c o e)⟩

/-! ### slots -/
inductive Cel where
  | lst (ds : List D)
  | dK (kvs : List (Key × D))
  | dT (kvs : List (List Key × D))
inductive SV where
  | val (d : D)
  | own (c : Cel)
  | bor (c : Cel)
abbrev Slots := List (Option SV)
def HoldsC (K : PySem.W.Frag) (G : Hp) : HO → Cel → Prop
  | .lst vs, .lst ds => DpAll K G vs ds
  | .dK kvs, .dK es => Paired (fun (p : Key × V) (q : Key × D) => p.1 = q.1 ∧ Dp K G p.2 q.2) kvs es
  | .dT kvs, .dT es => Paired (fun (p : List Key × V) (q : List Key × D) => p.1 = q.1 ∧ Dp K G p.2 q.2) kvs es
  | _, _ => False
theorem paired_mono {α β : Type} {P Q : α → β → Prop} (h : ∀ a b, P a b → Q a b) : ∀ {xs : List α} {ys : List β}, Paired P xs ys → Paired Q xs ys
  | _, _, .nil => .nil
  | _, _, .cons r t => .cons (h _ _ r) (paired_mono h t)
theorem HoldsC.mono {K : PySem.W.Frag} {G G' : Hp} (e : Same G G') {o : HO} {c : Cel} (h : HoldsC K G o c) : HoldsC K G' o c := by
  cases o <;> cases c <;> first | exact h.elim | skip
  · exact dpAll_mono e h
  · exact paired_mono (fun _ _ q => ⟨q.1, dp_mono e q.2⟩) h
  · exact paired_mono (fun _ _ q => ⟨q.1, dp_mono e q.2⟩) h
theorem HoldsC.list {K : PySem.W.Frag} {G : Hp} {o : HO} {ds : List D} (h : HoldsC K G o (.lst ds)) : ∃ vs, o = .lst vs ∧ DpAll K G vs ds := by
  cases o <;> first | exact h.elim | exact ⟨_, rfl, h⟩

/-- what stood at the entry: the heap, what was plain of it, what may be changed, what may be made plain -/
structure Fz where
  H0 : Hp
  G0 : Hp
  B : Addr → Prop
  F : Addr → Prop

def IsCell (S : Slots) (i : Nat) : Prop := ∃ c, S[i]? = some (some (SV.own c)) ∨ S[i]? = some (some (SV.bor c))

structure RS (K : PySem.W.Frag) (Z : Fz) (S : Slots) (σ : St) (H G : Hp) : Prop where
  sub : Same G H
  len : S.length = σ.length
  keep : ∀ b o, Z.H0 b = some o → ¬ Z.B b → ¬ Z.F b → H b = some o
  there : ∀ b o, Z.H0 b = some o → ∃ o', H b = some o'
  gkeep : Same Z.G0 G
  gfree : ∀ b o, Z.H0 b = some o → Z.G0 b = none → ¬ Z.F b → G b = none
  vals : ∀ (i : Nat) (d : D), S[i]? = some (some (SV.val d)) → ∃ v, σ[i]? = some (some v) ∧ Dp K G v d
  owns : ∀ (i : Nat) (c : Cel), S[i]? = some (some (SV.own c)) → ∃ a o, σ[i]? = some (some (V.ref a)) ∧ H a = some o ∧ G a = none ∧ (Z.H0 a = none ∨ Z.F a) ∧ HoldsC K G o c
  bors : ∀ (i : Nat) (c : Cel), S[i]? = some (some (SV.bor c)) → ∃ a o, σ[i]? = some (some (V.ref a)) ∧ H a = some o ∧ G a = none ∧ Z.B a ∧ HoldsC K G o c
  sep : ∀ (i j : Nat) (a : Addr), IsCell S i → IsCell S j → σ[i]? = some (some (V.ref a)) → σ[j]? = some (some (V.ref a)) → i = j

section
variable {K : PySem.W.Frag} {Z : Fz} {S : Slots} {σ : St} {H G H' G' : Hp}
theorem RS.gr (R : RS K Z S σ H G) (g : Gr G H G' H') : RS K Z S σ H' G' where
  sub := g.s
  len := R.len
  keep := fun b o e n m => g.h _ _ (R.keep b o e n m)
  there := fun b o e => let ⟨o', h⟩ := R.there b o e; ⟨o', g.h _ _ h⟩
  gkeep := R.gkeep.trans g.g
  gfree := fun b o e n m => by
    obtain ⟨o', h⟩ := R.there b o e
    rw [g.f b o' h]
    exact R.gfree b o e n m
  vals := fun i d e => let ⟨v, h1, h2⟩ := R.vals i d e; ⟨v, h1, dp_mono g.g h2⟩
  owns := fun i c e => let ⟨a, o, h1, h2, h3, h4, h5⟩ := R.owns i c e; ⟨a, o, h1, g.h _ _ h2, by rw [g.f a o h2]; exact h3, h4, h5.mono g.g⟩
  bors := fun i c e => let ⟨a, o, h1, h2, h3, h4, h5⟩ := R.bors i c e; ⟨a, o, h1, g.h _ _ h2, by rw [g.f a o h2]; exact h3, h4, h5.mono g.g⟩
  sep := R.sep
theorem RS.cell (R : RS K Z S σ H G) {i : Nat} (h : IsCell S i) : ∃ a o c, σ[i]? = some (some (V.ref a)) ∧ H a = some o ∧ G a = none ∧ HoldsC K G o c ∧ (S[i]? = some (some (SV.own c)) ∨ S[i]? = some (some (SV.bor c))) := by
  obtain ⟨c, h | h⟩ := h
  · obtain ⟨a, o, h1, h2, h3, _, h5⟩ := R.owns i c h
    exact ⟨a, o, c, h1, h2, h3, h5, .inl h⟩
  · obtain ⟨a, o, h1, h2, h3, _, h5⟩ := R.bors i c h
    exact ⟨a, o, c, h1, h2, h3, h5, .inr h⟩

theorem getq_set {α : Type} {l : List α} {i j : Nat} {x y : α} (h : (l.set i x)[j]? = some y) : (j = i ∧ x = y ∧ i < l.length) ∨ (j ≠ i ∧ l[j]? = some y) := by
  by_cases e : j = i
  · subst e
    by_cases hl : j < l.length
    · rw [List.getElem?_set_self hl] at h
      exact .inl ⟨rfl, Option.some.inj h, hl⟩
    · rw [List.getElem?_eq_none (by rw [List.length_set]; omega)] at h
      cases h
  · rw [List.getElem?_set_ne (Ne.symm e)] at h
    exact .inr ⟨e, h⟩
theorem isCell_set {S : Slots} {i j : Nat} {x : Option SV} (h : IsCell (S.set i x) j) : (j = i ∧ ∃ c, x = some (SV.own c) ∨ x = some (SV.bor c)) ∨ (j ≠ i ∧ IsCell S j) := by
  obtain ⟨c, h | h⟩ := h
  · rcases getq_set h with ⟨a, b, _⟩ | ⟨a, b⟩
    · exact .inl ⟨a, c, .inl b⟩
    · exact .inr ⟨a, c, .inl b⟩
  · rcases getq_set h with ⟨a, b, _⟩ | ⟨a, b⟩
    · exact .inl ⟨a, c, .inr b⟩
    · exact .inr ⟨a, c, .inr b⟩
theorem setq {σ : St} {i j : Nat} {v w : Option V} (e : j ≠ i) (h : σ[j]? = some w) : (σ.set i v)[j]? = some w := by
  rw [List.getElem?_set_ne (Ne.symm e)]; exact h

/-- a value is stored -/
theorem RS.set (R : RS K Z S σ H G) {i : Nat} {v : V} {d : D} (hd : Dp K G v d) : RS K Z (S.set i (some (SV.val d))) (σ.set i (some v)) H G where
  sub := R.sub
  len := by rw [List.length_set, List.length_set]; exact R.len
  keep := R.keep
  there := R.there
  gkeep := R.gkeep
  gfree := R.gfree
  vals := fun j e h => by
    rcases getq_set h with ⟨a, b, hl⟩ | ⟨a, b⟩
    · cases b
      subst a
      exact ⟨v, List.getElem?_set_self (by rw [← R.len]; exact hl), hd⟩
    · obtain ⟨w, h1, h2⟩ := R.vals j e b
      exact ⟨w, setq a h1, h2⟩
  owns := fun j c h => by
    rcases getq_set h with ⟨a, b, hl⟩ | ⟨a, b⟩
    · cases b
    · obtain ⟨w, o, h1, h2⟩ := R.owns j c b
      exact ⟨w, o, setq a h1, h2⟩
  bors := fun j c h => by
    rcases getq_set h with ⟨a, b, hl⟩ | ⟨a, b⟩
    · cases b
    · obtain ⟨w, o, h1, h2⟩ := R.bors j c b
      exact ⟨w, o, setq a h1, h2⟩
  sep := fun j k a hj hk e1 e2 => by
    rcases isCell_set hj with ⟨_, c, x | x⟩ | ⟨nj, cj⟩
    · cases x
    · cases x
    · rcases isCell_set hk with ⟨_, c, x | x⟩ | ⟨nk, ck⟩
      · cases x
      · cases x
      · rw [List.getElem?_set_ne (Ne.symm nj)] at e1
        rw [List.getElem?_set_ne (Ne.symm nk)] at e2
        exact R.sep j k a cj ck e1 e2
/-- a slot is forgotten -/
theorem RS.wipe1 (R : RS K Z S σ H G) (i : Nat) : RS K Z (S.set i none) (σ.set i none) H G where
  sub := R.sub
  len := by rw [List.length_set, List.length_set]; exact R.len
  keep := R.keep
  there := R.there
  gkeep := R.gkeep
  gfree := R.gfree
  vals := fun j e h => by
    rcases getq_set h with ⟨a, b, hl⟩ | ⟨a, b⟩
    · cases b
    · obtain ⟨w, h1, h2⟩ := R.vals j e b
      exact ⟨w, setq a h1, h2⟩
  owns := fun j c h => by
    rcases getq_set h with ⟨a, b, hl⟩ | ⟨a, b⟩
    · cases b
    · obtain ⟨w, o, h1, h2⟩ := R.owns j c b
      exact ⟨w, o, setq a h1, h2⟩
  bors := fun j c h => by
    rcases getq_set h with ⟨a, b, hl⟩ | ⟨a, b⟩
    · cases b
    · obtain ⟨w, o, h1, h2⟩ := R.bors j c b
      exact ⟨w, o, setq a h1, h2⟩
  sep := fun j k a hj hk e1 e2 => by
    rcases isCell_set hj with ⟨_, c, x | x⟩ | ⟨nj, cj⟩
    · cases x
    · cases x
    · rcases isCell_set hk with ⟨_, c, x | x⟩ | ⟨nk, ck⟩
      · cases x
      · cases x
      · rw [List.getElem?_set_ne (Ne.symm nj)] at e1
        rw [List.getElem?_set_ne (Ne.symm nk)] at e2
        exact R.sep j k a cj ck e1 e2
/-- a slot of S alone is forgotten (its cell too) -/
theorem RS.drop1 (R : RS K Z S σ H G) (i : Nat) : RS K Z (S.set i none) σ H G where
  sub := R.sub
  len := by rw [List.length_set]; exact R.len
  keep := R.keep
  there := R.there
  gkeep := R.gkeep
  gfree := R.gfree
  vals := fun j e h => by
    rcases getq_set h with ⟨a, b, hl⟩ | ⟨a, b⟩
    · cases b
    · exact R.vals j e b
  owns := fun j c h => by
    rcases getq_set h with ⟨a, b, hl⟩ | ⟨a, b⟩
    · cases b
    · exact R.owns j c b
  bors := fun j c h => by
    rcases getq_set h with ⟨a, b, hl⟩ | ⟨a, b⟩
    · cases b
    · exact R.bors j c b
  sep := fun j k a hj hk e1 e2 => by
    rcases isCell_set hj with ⟨_, c, x | x⟩ | ⟨nj, cj⟩
    · cases x
    · cases x
    · rcases isCell_set hk with ⟨_, c, x | x⟩ | ⟨nk, ck⟩
      · cases x
      · cases x
      · exact R.sep j k a cj ck e1 e2
/-- a fresh cell -/
structure Fresh (K : PySem.W.Frag) (Z : Fz) (S : Slots) (σ : St) (H G : Hp) (a : Addr) (c : Cel) : Prop where
  at_ : ∃ o, H a = some o ∧ HoldsC K G o c
  gn : G a = none
  new : Z.H0 a = none ∨ Z.F a
  sep : ∀ (i : Nat), IsCell S i → σ[i]? ≠ some (some (V.ref a))
theorem RS.setOwn (R : RS K Z S σ H G) {i : Nat} {a : Addr} {c : Cel} (f : Fresh K Z S σ H G a c) : RS K Z (S.set i (some (SV.own c))) (σ.set i (some (.ref a))) H G where
  sub := R.sub
  len := by rw [List.length_set, List.length_set]; exact R.len
  keep := R.keep
  there := R.there
  gkeep := R.gkeep
  gfree := R.gfree
  vals := fun j e h => by
    rcases getq_set h with ⟨a, b, hl⟩ | ⟨a, b⟩
    · cases b
    · obtain ⟨w, h1, h2⟩ := R.vals j e b
      exact ⟨w, setq a h1, h2⟩
  owns := fun j e h => by
    rcases getq_set h with ⟨x, b, hl⟩ | ⟨x, b⟩
    · cases b
      subst x
      obtain ⟨o, h1, h2⟩ := f.at_
      exact ⟨a, o, List.getElem?_set_self (by rw [← R.len]; exact hl), h1, f.gn, f.new, h2⟩
    · obtain ⟨w, o, h1, h2⟩ := R.owns j e b
      exact ⟨w, o, setq x h1, h2⟩
  bors := fun j c h => by
    rcases getq_set h with ⟨a, b, hl⟩ | ⟨a, b⟩
    · cases b
    · obtain ⟨w, o, h1, h2⟩ := R.bors j c b
      exact ⟨w, o, setq a h1, h2⟩
  sep := fun j k b hj hk e1 e2 => by
    rcases isCell_set hj with ⟨xj, _⟩ | ⟨nj, cj⟩
    · rcases isCell_set hk with ⟨xk, _⟩ | ⟨nk, ck⟩
      · rw [xj, xk]
      · subst xj
        rw [List.getElem?_set_ne (Ne.symm nk)] at e2
        rcases getq_set e1 with ⟨_, q, _⟩ | ⟨q, _⟩
        · cases q
          exact absurd e2 (f.sep k ck)
        · exact absurd rfl q
    · rw [List.getElem?_set_ne (Ne.symm nj)] at e1
      rcases isCell_set hk with ⟨xk, _⟩ | ⟨nk, ck⟩
      · subst xk
        rcases getq_set e2 with ⟨_, q, _⟩ | ⟨q, _⟩
        · cases q
          exact absurd e1 (f.sep j cj)
        · exact absurd rfl q
      · rw [List.getElem?_set_ne (Ne.symm nk)] at e2
        exact R.sep j k b cj ck e1 e2
/-- a cell's list is made plain -/
theorem RS.plain (R : RS K Z S σ H G) {a : Addr} {ds : List D} (h : ∃ vs, H a = some (.lst vs) ∧ DpAll K G vs ds) (gn : G a = none) (hn : Z.H0 a = none ∨ Z.F a) (hs : ∀ (i : Nat), IsCell S i → σ[i]? ≠ some (some (V.ref a))) :
    ∃ G', RS K Z S σ H G' ∧ Same G G' ∧ Dp K G' (.ref a) (.list ds) := by
  obtain ⟨vs, h1, h2⟩ := h
  have sg : Same G (upd G a (.lst vs)) := same_new gn
  refine ⟨upd G a (.lst vs), ⟨fun b o e => ?_, R.len, R.keep, R.there, R.gkeep.trans sg, fun b o e n m => ?_, fun j d e => ?_, fun j c e => ?_, fun j c e => ?_, R.sep⟩, sg, .lst (SqL.of upd_same) (dpAll_mono sg h2)⟩
  · by_cases hb : b = a
    · subst hb; rw [upd_same] at e; cases e; exact h1
    · rw [upd_ne hb] at e; exact R.sub _ _ e
  · by_cases hb : b = a
    · subst hb
      rcases hn with hn | hn
      · rw [hn] at e; cases e
      · exact absurd hn m
    · rw [upd_ne hb]; exact R.gfree b o e n m
  · obtain ⟨v, q1, q2⟩ := R.vals j d e
    exact ⟨v, q1, dp_mono sg q2⟩
  · obtain ⟨b, o, q1, q2, q3, q4, q5⟩ := R.owns j c e
    have hb : b ≠ a := fun z => hs j ⟨c, .inl e⟩ (z ▸ q1)
    exact ⟨b, o, q1, q2, by rw [upd_ne hb]; exact q3, q4, q5.mono sg⟩
  · obtain ⟨b, o, q1, q2, q3, q4, q5⟩ := R.bors j c e
    have hb : b ≠ a := fun z => hs j ⟨c, .inr e⟩ (z ▸ q1)
    exact ⟨b, o, q1, q2, by rw [upd_ne hb]; exact q3, q4, q5.mono sg⟩
theorem dropcell (R : RS K Z S σ H G) {i : Nat} {a : Addr} (hi : IsCell S i) (e : σ[i]? = some (some (V.ref a))) : ∀ (j : Nat), IsCell (S.set i none) j → σ[j]? ≠ some (some (V.ref a)) := fun j hj q => by
  rcases isCell_set hj with ⟨_, c, x | x⟩ | ⟨nj, cj⟩
  · cases x
  · cases x
  · exact nj (R.sep j i a cj hi q e)
theorem set_set_none {S : Slots} {i : Nat} {x : Option SV} : (S.set i none).set i x = S.set i x := by rw [List.set_set]
theorem set_get_self {σ : St} {i : Nat} {v : Option V} (h : σ[i]? = some v) : σ.set i v = σ := by
  apply List.ext_getElem?
  intro j
  by_cases e : j = i
  · subst e
    rw [List.getElem?_set_self (List.getElem?_eq_some_iff.mp h).1, h]
  · rw [List.getElem?_set_ne (Ne.symm e)]
/-- an own list read as a value: it is plain from now on -/
theorem RS.freeze (R : RS K Z S σ H G) {i : Nat} {ds : List D} (h : S[i]? = some (some (SV.own (.lst ds)))) :
    ∃ v G', σ[i]? = some (some v) ∧ RS K Z (S.set i (some (SV.val (.list ds)))) σ H G' ∧ Same G G' ∧ Dp K G' v (.list ds) := by
  obtain ⟨a, o, h1, h2, h3, h4, h5⟩ := R.owns i _ h
  obtain ⟨vs, rfl, h6⟩ := h5.list
  obtain ⟨G', R', s, d⟩ := (R.drop1 i).plain ⟨vs, h2, h6⟩ h3 h4 (dropcell R ⟨_, .inl h⟩ h1)
  refine ⟨.ref a, G', h1, ?_, s, d⟩
  have q := R'.set (i := i) d
  rw [set_set_none, set_get_self h1] at q
  exact q
/-- a cell's object is changed -/
theorem RS.upd (R : RS K Z S σ H G) {i : Nat} {a : Addr} {o : HO} {c c' : Cel} {k : Cel → SV} (hk : k = .own ∨ k = .bor) (h : S[i]? = some (some (k c))) (ha : σ[i]? = some (some (V.ref a))) (ho : HoldsC K G o c') :
    RS K Z (S.set i (some (k c'))) σ (L2.upd H a o) G := by
  have hc : IsCell S i := by rcases hk with rfl | rfl; exact ⟨c, .inl h⟩; exact ⟨c, .inr h⟩
  obtain ⟨b, o1, c1, q1, q2, q3, q4, q5⟩ := R.cell hc
  have eb : b = a := by rw [ha] at q1; cases q1; rfl
  subst eb
  have other : ∀ j b', j ≠ i → IsCell S j → σ[j]? = some (some (V.ref b')) → b' ≠ b := fun j b' nj cj e z => nj (R.sep j i b cj hc (z ▸ e) ha)
  have hi : i < S.length := (List.getElem?_eq_some_iff.mp h).1
  refine ⟨fun c1 x e => ?_, by rw [List.length_set]; exact R.len, fun c1 x e n m => ?_, fun c1 x e => ?_, R.gkeep, R.gfree, fun j d e => ?_, fun j d e => ?_, fun j d e => ?_, fun j l x hj hl e1 e2 => ?_⟩
  · have nb : c1 ≠ b := fun z => by rw [z, q3] at e; cases e
    rw [upd_ne nb]; exact R.sub _ _ e
  · have nb : c1 ≠ b := fun z => by
      subst z
      rcases hk with rfl | rfl
      · obtain ⟨a', _, w1, _, _, w4, _⟩ := R.owns i c h
        rw [ha] at w1; cases w1
        rcases w4 with w4 | w4
        · rw [e] at w4; cases w4
        · exact m w4
      · obtain ⟨a', _, w1, _, _, w4, _⟩ := R.bors i c h
        rw [ha] at w1; cases w1
        exact n w4
    rw [upd_ne nb]; exact R.keep _ _ e n m
  · by_cases nb : c1 = b
    · exact ⟨o, by rw [nb, upd_same]⟩
    · rw [upd_ne nb]; exact R.there _ _ e
  · rcases getq_set e with ⟨x, y, _⟩ | ⟨x, y⟩
    · rcases hk with rfl | rfl <;> cases y
    · exact R.vals j d y
  · rcases getq_set e with ⟨x, y, _⟩ | ⟨x, y⟩
    · rcases hk with rfl | rfl
      · cases y
        subst x
        obtain ⟨a', _, w1, _, w3, w4, _⟩ := R.owns j c h
        rw [ha] at w1; cases w1
        exact ⟨b, o, ha, upd_same, w3, w4, ho⟩
      · cases y
    · obtain ⟨a', o', w1, w2, w3, w4, w5⟩ := R.owns j d y
      exact ⟨a', o', w1, by rw [upd_ne (other j a' x ⟨d, .inl y⟩ w1)]; exact w2, w3, w4, w5⟩
  · rcases getq_set e with ⟨x, y, _⟩ | ⟨x, y⟩
    · rcases hk with rfl | rfl
      · cases y
      · cases y
        subst x
        obtain ⟨a', _, w1, _, w3, w4, _⟩ := R.bors j c h
        rw [ha] at w1; cases w1
        exact ⟨b, o, ha, upd_same, w3, w4, ho⟩
    · obtain ⟨a', o', w1, w2, w3, w4, w5⟩ := R.bors j d y
      exact ⟨a', o', w1, by rw [upd_ne (other j a' x ⟨d, .inr y⟩ w1)]; exact w2, w3, w4, w5⟩
  · have back : ∀ j, IsCell (S.set i (some (k c'))) j → IsCell S j := fun j hj => by
      rcases isCell_set hj with ⟨x, _⟩ | ⟨_, x⟩
      · rw [x]; exact hc
      · exact x
    exact R.sep j l x (back j hj) (back l hl) e1 e2

/-! ### another entry: what stands now -/
def Fz.now (S : Slots) (σ : St) (H G : Hp) : Fz := ⟨H, G, fun a => ∃ (i : Nat) (c : Cel), S[i]? = some (some (SV.bor c)) ∧ σ[i]? = some (some (V.ref a)), fun a => ∃ (i : Nat) (c : Cel), S[i]? = some (some (SV.own c)) ∧ σ[i]? = some (some (V.ref a))⟩
theorem RS.now (R : RS K Z S σ H G) : RS K (Fz.now S σ H G) S σ H G where
  sub := R.sub
  len := R.len
  keep := fun b o e _ _ => e
  there := fun b o e => ⟨o, e⟩
  gkeep := Same.refl _
  gfree := fun b o e n _ => n
  vals := R.vals
  owns := fun i c e => let ⟨a, o, h1, h2, h3, _, h5⟩ := R.owns i c e; ⟨a, o, h1, h2, h3, .inr ⟨i, c, e, h1⟩, h5⟩
  bors := fun i c e => let ⟨a, o, h1, h2, h3, _, h5⟩ := R.bors i c e; ⟨a, o, h1, h2, h3, ⟨i, c, e, h1⟩, h5⟩
  sep := R.sep
theorem RS.nowF (R : RS K Z S σ H G) {a : Addr} (h : (Fz.now S σ H G).F a) : Z.H0 a = none ∨ Z.F a := by
  obtain ⟨i, c, e, h1⟩ := h
  obtain ⟨a', _, w1, _, _, w4, _⟩ := R.owns i c e
  rw [h1] at w1; cases w1
  exact w4
theorem RS.nowB (R : RS K Z S σ H G) {a : Addr} (h : (Fz.now S σ H G).B a) : Z.B a := by
  obtain ⟨i, c, e, h1⟩ := h
  obtain ⟨a', _, w1, _, _, w4, _⟩ := R.bors i c e
  rw [h1] at w1; cases w1
  exact w4
theorem RS.back {S' : Slots} {σ' : St} (R : RS K Z S σ H G) (R' : RS K (Fz.now S σ H G) S' σ' H' G') : RS K Z S' σ' H' G' where
  sub := R'.sub
  len := R'.len
  keep := fun b o e n m => R'.keep b o (R.keep b o e n m) (fun z => n (R.nowB z)) fun z => by
    rcases R.nowF z with z | z
    · rw [e] at z; cases z
    · exact m z
  there := fun b o e => let ⟨o', h⟩ := R.there b o e; R'.there b o' h
  gkeep := R.gkeep.trans R'.gkeep
  gfree := fun b o e n m => by
    obtain ⟨o', h⟩ := R.there b o e
    refine R'.gfree b o' h (R.gfree b o e n m) fun z => ?_
    rcases R.nowF z with z | z
    · rw [e] at z; cases z
    · exact m z
  vals := R'.vals
  owns := fun i c e => by
    obtain ⟨a, o, h1, h2, h3, h4, h5⟩ := R'.owns i c e
    refine ⟨a, o, h1, h2, h3, ?_, h5⟩
    rcases h4 with h4 | h4
    · left
      cases q : Z.H0 a with
      | none => rfl
      | some x =>
        obtain ⟨o', z⟩ := R.there a x q
        have z' : H a = none := h4
        rw [z'] at z; cases z
    · exact R.nowF h4
  bors := fun i c e => by
    obtain ⟨a, o, h1, h2, h3, h4, h5⟩ := R'.bors i c e
    exact ⟨a, o, h1, h2, h3, R.nowB h4, h5⟩
  sep := R'.sep
/-- what stands beside the cells is kept -/
theorem RS.kept {S' : Slots} {σ' : St} (R : RS K Z S σ H G) (R' : RS K (Fz.now S σ H G) S' σ' H' G') {p : Addr} {o : HO} (hp : H p = some o) (hg : G p = none) (hs : ∀ (i : Nat), IsCell S i → σ[i]? ≠ some (some (V.ref p))) : H' p = some o ∧ G' p = none := by
  have nB : ¬ (Fz.now S σ H G).B p := fun ⟨i, c, e, h⟩ => hs i ⟨c, .inr e⟩ h
  have nF : ¬ (Fz.now S σ H G).F p := fun ⟨i, c, e, h⟩ => hs i ⟨c, .inl e⟩ h
  exact ⟨R'.keep p o hp nB nF, R'.gfree p o hp hg nF⟩
end
end PD

/-! PDExpr: expressions as functions on slots. -/
namespace PD
open PySem PySem.Spec PyProof.Rows L2

theorem PE.imp {X : Cx} {e : Expr} {t t' : TE} (h : PE X e t) (w : ∀ σ H Q, t' σ H Q → t σ H Q) : PE X e t' := ⟨fun pins s σ H Q I q => h.run pins s σ H Q I (w _ _ _ q)⟩
theorem PT.imp {X : Cx} {e : Expr} {t t' : TT} (h : PT X e t) (w : ∀ σ H Q, t' σ H Q → t σ H Q) : PT X e t' := ⟨fun pins s σ H Q I q => h.run pins s σ H Q I (w _ _ _ q)⟩
theorem PW.imp {X : Cx} {e : Expr} {t t' : TT} (h : PW X e t) (w : ∀ σ H Q, t' σ H Q → t σ H Q) : PW X e t' := ⟨fun wh pins s σ H Q I q => h.run wh pins s σ H Q I (w _ _ _ q)⟩
theorem PA.imp {X : Cx} {e : List Expr} {t t' : TA} (h : PA X e t) (w : ∀ σ H Q, t' σ H Q → t σ H Q) : PA X e t' := ⟨fun pos pins s σ H Q I q => h.run pos pins s σ H Q I (w _ _ _ q)⟩
theorem PI.imp {X : Cx} {tg e : Expr} {t t' : TI} (h : PI X tg e t) (w : ∀ σ H Q, t' σ H Q → t σ H Q) : PI X tg e t' := ⟨fun pins s σ H Q I q => h.run pins s σ H Q I (w _ _ _ q)⟩
theorem PS.imp {X : Cx} {st : Stmt} {t t' : TS} (h : PS X st t) (w : ∀ D σ H, t' D σ H → t D σ H) : PS X st t' := ⟨fun pins s σ H D I q => h.run pins s σ H D I (w _ _ _ q)⟩
theorem PSs.imp {X : Cx} {st : List Stmt} {t t' : TS} (h : PSs X st t) (w : ∀ D σ H, t' D σ H → t D σ H) : PSs X st t' := ⟨fun pins s σ H D I q => h.run pins s σ H D I (w _ _ _ q)⟩
theorem PG.imp {X : Cx} {tg : Expr} {t t' : TG} (h : PG X tg t) (w : ∀ v σ H Q, t' v σ H Q → t v σ H Q) : PG X tg t' := ⟨fun pins s σ H v u Q I r q => h.run pins s σ H v u Q I r (w _ _ _ _ q)⟩
theorem PO.imp {X : Cx} {e : Option Expr} {t t' : TO} (h : PO X e t) (w : ∀ σ H Q, t' σ H Q → t σ H Q) : PO X e t' := ⟨fun pins s σ H Q I q => h.run pins s σ H Q I (w _ _ _ q)⟩

/-! ### the functions on slots -/
abbrev M (α : Type) := Slots → Option (α × Slots)
def bnd {α β : Type} (m : M α) (f : α → M β) : M β := fun S => (m S).bind fun p => f p.1 p.2
def mret {α : Type} (a : α) : M α := fun S => some (a, S)
theorem bnd_some {α β : Type} {m : M α} {f : α → M β} {S : Slots} {r : β × Slots} (h : bnd m f S = some r) : ∃ a S', m S = some (a, S') ∧ f a S' = some r := by
  unfold bnd at h
  obtain ⟨⟨a, S'⟩, h1, h2⟩ := Option.bind_eq_some_iff.mp h
  exact ⟨a, S', h1, h2⟩
theorem bnd_eq {α β : Type} {m : M α} {f : α → M β} {S S' : Slots} {a : α} (h : m S = some (a, S')) : bnd m f S = f a S' := by
  unfold bnd
  rw [h]
  rfl
abbrev ME := M D
abbrev MT := M Bool
abbrev MA := M (List D)
abbrev ML := M Cel
/-- an operand: a value, or a slot that is read when it is used -/
inductive Rf where
  | d (d : D)
  | s (i : Nat)
abbrev MO := M Rf
abbrev MOs := M (List Rf)
def celD : Cel → Option D
  | .lst ds => some (.list ds)
  | _ => none
def slotD : Option (Option SV) → Option D
  | some (some (.val d)) => some d
  | some (some (.own c)) => celD c
  | some (some (.bor c)) => celD c
  | _ => none
def rs : Rf → Slots → Option D
  | .d d, _ => some d
  | .s i, S => slotD S[i]?
def rss : List Rf → Slots → Option (List D)
  | [], _ => some []
  | r :: l, S => (rs r S).bind fun d => (rss l S).bind fun ds => some (d :: ds)

section
variable (K : PySem.W.Frag)
def OpV (G : Hp) (σ : St) (v : V) : Rf → Prop
  | .d d => Dp K G v d
  | .s i => σ[i]? = some (some v)
def OpVs (G : Hp) (σ : St) : List V → List Rf → Prop := Paired (fun v r => OpV K G σ v r)
def tM (m : ME) : TE := fun σ H Q => ∃ Z S G d S', RS K Z S σ H G ∧ m S = some (d, S') ∧ ∀ v H' G', RS K Z S' σ H' G' → Same G G' → Dp K G' v d → Q v H'
def tO (m : MO) : TE := fun σ H Q => ∃ Z S G r S', RS K Z S σ H G ∧ m S = some (r, S') ∧ ∀ v H' G', RS K Z S' σ H' G' → Same G G' → OpV K G' σ v r → Q v H'
def tL (m : ML) : TE := fun σ H Q => ∃ Z S G c S', RS K Z S σ H G ∧ m S = some (c, S') ∧ ∀ a H' G', RS K Z S' σ H' G' → Same G G' → Fresh K Z S' σ H' G' a c → Q (.ref a) H'
def tT (m : MT) : TT := fun σ H Q => ∃ Z S G b S', RS K Z S σ H G ∧ m S = some (b, S') ∧ ∀ H' G', RS K Z S' σ H' G' → Same G G' → Q b H'
def tA (m : MA) : TA := fun σ H Q => ∃ Z S G ds S', RS K Z S σ H G ∧ m S = some (ds, S') ∧ ∀ vs H' G', RS K Z S' σ H' G' → Same G G' → DpAll K G' vs ds → Q vs H'
def tAO (m : MOs) : TA := fun σ H Q => ∃ Z S G rs S', RS K Z S σ H G ∧ m S = some (rs, S') ∧ ∀ vs H' G', RS K Z S' σ H' G' → Same G G' → OpVs K G' σ vs rs → Q vs H'
/-- plain, or a list whose items are plain -/
def DpT (G H : Hp) (v : V) (d : D) : Prop := Dp K G v d ∨ ∃ a vs ds, v = .ref a ∧ d = .list ds ∧ H a = some (.lst vs) ∧ DpAll K G vs ds
def DpTs (G H : Hp) : List V → List D → Prop := Paired (fun v d => DpT K G H v d)
end
section
variable {K : PySem.W.Frag} {Z : Fz} {S S' : Slots} {σ : St} {H G H' G' : Hp}
theorem OpV.mono {v : V} {r : Rf} (e : Same G G') (h : OpV K G σ v r) : OpV K G' σ v r := by
  cases r with
  | d d => exact dp_mono e h
  | s i => exact h
theorem OpVs.mono {vs : List V} {rs : List Rf} (e : Same G G') (h : OpVs K G σ vs rs) : OpVs K G' σ vs rs := paired_mono (fun _ _ q => q.mono e) h
theorem DpT.dp {v : V} {d : D} (s : Same G H) (h : DpT K G H v d) : Dp K H v d := by
  rcases h with h | ⟨a, vs, ds, rfl, rfl, h1, h2⟩
  · exact dp_mono s h
  · exact .lst (SqL.of h1) (dpAll_mono s h2)
theorem rs_ok {v : V} {r : Rf} {d : D} (R : RS K Z S σ H G) (o : OpV K G σ v r) (e : rs r S = some d) : DpT K G H v d := by
  cases r with
  | d x => cases e; exact .inl o
  | s i =>
    have e : slotD S[i]? = some d := e
    have o : σ[i]? = some (some v) := o
    unfold slotD at e
    split at e
    · cases e
      rename_i q
      obtain ⟨w, h1, h2⟩ := R.vals i _ q
      rw [o] at h1; cases h1
      exact .inl h2
    · rename_i c q
      obtain ⟨a, x, h1, h2, h3, _, h5⟩ := R.owns i _ q
      rw [o] at h1; cases h1
      cases c <;> simp only [celD] at e <;> try cases e
      obtain ⟨vs, rfl, h6⟩ := h5.list
      exact .inr ⟨a, vs, _, rfl, rfl, h2, h6⟩
    · rename_i c q
      obtain ⟨a, x, h1, h2, h3, _, h5⟩ := R.bors i _ q
      rw [o] at h1; cases h1
      cases c <;> simp only [celD] at e <;> try cases e
      obtain ⟨vs, rfl, h6⟩ := h5.list
      exact .inr ⟨a, vs, _, rfl, rfl, h2, h6⟩
    · cases e
theorem rss_ok : ∀ {vs : List V} {l : List Rf} {ds : List D}, RS K Z S σ H G → OpVs K G σ vs l → rss l S = some ds → DpTs K G H vs ds
  | _, _, _, _, .nil, e => by cases e; exact .nil
  | _, _, _, R, .cons o t, e => by
    obtain ⟨d, h1, h2⟩ := Option.bind_eq_some_iff.mp e
    obtain ⟨ds, h3, h4⟩ := Option.bind_eq_some_iff.mp h2
    cases h4
    exact .cons (rs_ok R o h1) (rss_ok R t h3)
end

/-! ### names, constants -/
/-- a name whose slot is a plain value (an own list becomes plain) -/
def eName (i : Nat) : ME := fun S => match S[i]? with
  | some (some (.val d)) => some (d, S)
  | some (some (.own (.lst ds))) => some (.list ds, S.set i (some (.val (.list ds))))
  | _ => none
def oName (i : Nat) : MO := fun S => match S[i]? with
  | some (some _) => some (.s i, S)
  | _ => none
def oVal (m : ME) : MO := bnd m fun d => mret (.d d)
def eC (d : D) : ME := mret d
/-- a value that becomes plain -/
def eFrz (m : ML) : ME := bnd m fun c S => (celD c).map fun d => (d, S)
section
variable {X : Cx} {e a b c : Expr} {pos : Pos} {m ma mb : ME} {oa ob : MO}
theorem de_name {i : Nat} {x : Str} (hN : X.N[i]? = some x) (hv : Vis X.env.scope x) (hd : (x == ("__debug__" : Str)) = false := by decide) (hcd : (x == ("__classdict__" : Str)) = false := by decide) : PE X (.Name x pos) (tM X.K (eName i)) := by
  refine PE.imp (pe_var hN hv hd hcd) fun σ H Q h => ?_
  obtain ⟨Z, S, G, d, S', R, e, q⟩ := h
  unfold eName at e
  split at e
  · rename_i d' hs
    cases e
    obtain ⟨v, h1, h2⟩ := R.vals i _ hs
    exact ⟨v, h1, q v H G R (Same.refl _) h2⟩
  · rename_i ds hs
    cases e
    obtain ⟨v, G', h1, R', s, h2⟩ := R.freeze hs
    exact ⟨v, h1, q v H G' R' s h2⟩
  · cases e
theorem do_name {i : Nat} {x : Str} (hN : X.N[i]? = some x) (hv : Vis X.env.scope x) (hd : (x == ("__debug__" : Str)) = false := by decide) (hcd : (x == ("__classdict__" : Str)) = false := by decide) : PE X (.Name x pos) (tO X.K (oName i)) := by
  refine PE.imp (pe_var hN hv hd hcd) fun σ H Q h => ?_
  obtain ⟨Z, S, G, d, S', R, e, q⟩ := h
  unfold oName at e
  split at e
  · rename_i c hs
    cases e
    cases c with
    | val d =>
      obtain ⟨v, h1, h2⟩ := R.vals i _ hs
      exact ⟨v, h1, q v H G R (Same.refl _) h1⟩
    | own c =>
      obtain ⟨a, x, h1, h2⟩ := R.owns i _ hs
      exact ⟨_, h1, q _ H G R (Same.refl _) h1⟩
    | bor c =>
      obtain ⟨a, x, h1, h2⟩ := R.bors i _ hs
      exact ⟨_, h1, q _ H G R (Same.refl _) h1⟩
  · cases e
theorem do_val (h : PE X e (tM X.K m)) : PE X e (tO X.K (oVal m)) := by
  refine PE.imp h fun σ H Q h => ?_
  obtain ⟨Z, S, G, d, S', R, e, q⟩ := h
  obtain ⟨d', S1, e1, e2⟩ := bnd_some e
  cases e2
  exact ⟨Z, S, G, d', S', R, e1, fun v H' G' R' s h => q v H' G' R' s h⟩
theorem tM_C {K : PySem.W.Frag} {v : V} {d : D} (h : ∀ G, Dp K G v d) : ∀ σ H Q, tM K (eC d) σ H Q → tC v σ H Q := fun σ H Q ⟨Z, S, G, d', S', R, e, q⟩ => by
  cases e
  exact q v H G R (Same.refl _) (h G)
theorem de_int {i : Int} {j} : PE X (.Constant (.int i) j pos) (tM X.K (eC (.int i))) := PE.imp pe_int (tM_C fun _ => .int i)
theorem de_bool {i : Bool} {j} : PE X (.Constant (.bool i) j pos) (tM X.K (eC (.bool i))) := PE.imp pe_bl (tM_C fun _ => .bl i)
theorem de_none {j} : PE X (.Constant .none j pos) (tM X.K (eC .none)) := PE.imp pe_non (tM_C fun _ => .non)
theorem de_str {x : Str} {j} : PE X (.Constant (.str x) j pos) (tM X.K (eC (.str x))) := PE.imp pe_str (tM_C fun _ => .str x)
/-- a module's number or text -/
theorem de_globI {x : Str} {i : Int} {t : Tok} (hg : Gl X x) (hm : X.mg x = some (.int i t)) (hd : (x == ("__debug__" : Str)) = false := by decide) : PE X (.Name x pos) (tM X.K (eC (.int i))) := PE.imp (pe_glob (v := V.int i) hg hm ⟨t, rfl⟩ hd) (tM_C fun _ => .int i)
theorem de_globS {x y : Str} {t : Tok} (hg : Gl X x) (hm : X.mg x = some (.str y t)) (hd : (x == ("__debug__" : Str)) = false := by decide) : PE X (.Name x pos) (tM X.K (eC (.str y))) := PE.imp (pe_glob (v := V.str y) hg hm ⟨t, rfl⟩ hd) (tM_C fun _ => .str y)
theorem de_frz {l : ML} (h : PE X e (tL X.K l)) : PE X e (tM X.K (eFrz l)) := by
  refine PE.imp h fun σ H Q h => ?_
  obtain ⟨Z, S, G, d, S', R, e, q⟩ := h
  obtain ⟨c, S1, e1, e2⟩ := bnd_some e
  cases c with
  | lst ds =>
    cases e2
    refine ⟨Z, S, G, _, S', R, e1, fun a H' G' R' s f => ?_⟩
    obtain ⟨o, h1, h2⟩ := f.at_
    obtain ⟨vs, rfl, h3⟩ := h2.list
    obtain ⟨G2, R2, s2, h4⟩ := R'.plain ⟨vs, h1, h3⟩ f.gn f.new f.sep
    exact q _ H' G2 R2 (s.trans s2) h4
  | dK _ => cases e2
  | dT _ => cases e2
end

/-! ### two operands -/
section
variable (K : PySem.W.Frag)
def Ad2 (r : R2) (f : D → D → Option D) : Prop :=
  ∀ (G H : Hp) (x y : V) (d e z : D) (Q : VK), Same G H → DpT K G H x d → DpT K G H y e → f d e = some z → (∀ v H' G', Gr G H G' H' → Dp K G' v z → Q v H') → r x y H Q
/-- the answer a new list -/
def Ad2L (r : R2) (f : D → D → Option (List D)) : Prop :=
  ∀ (G H : Hp) (x y : V) (d e : D) (z : List D) (Q : VK), Same G H → DpT K G H x d → DpT K G H y e → f d e = some z → (∀ a vs, H a = none → DpAll K G vs z → Q (.ref a) (upd H a (.lst vs))) → r x y H Q
def Ad1 (r : V → Hp → VK → Prop) (f : D → Option D) : Prop :=
  ∀ (G H : Hp) (x : V) (d z : D) (Q : VK), Same G H → DpT K G H x d → f d = some z → (∀ v H' G', Gr G H G' H' → Dp K G' v z → Q v H') → r x H Q
def AdN (r : List V → Hp → VK → Prop) (f : List D → Option D) : Prop :=
  ∀ (G H : Hp) (xs : List V) (ds : List D) (z : D) (Q : VK), Same G H → DpTs K G H xs ds → f ds = some z → (∀ v H' G', Gr G H G' H' → Dp K G' v z → Q v H') → r xs H Q
def AdNL (r : List V → Hp → VK → Prop) (f : List D → Option (List D)) : Prop :=
  ∀ (G H : Hp) (xs : List V) (ds : List D) (z : List D) (Q : VK), Same G H → DpTs K G H xs ds → f ds = some z → (∀ a vs, H a = none → DpAll K G vs z → Q (.ref a) (upd H a (.lst vs))) → r xs H Q
end
def op2 (f : D → D → Option D) (x y : Rf) : ME := fun S => (rs x S).bind fun d => (rs y S).bind fun e => (f d e).map fun z => (z, S)
def op2L (f : D → D → Option (List D)) (x y : Rf) : ML := fun S => (rs x S).bind fun d => (rs y S).bind fun e => (f d e).map fun z => (.lst z, S)
def op1 (f : D → Option D) (x : Rf) : ME := fun S => (rs x S).bind fun d => (f d).map fun z => (z, S)
def opN (f : List D → Option D) (x : List Rf) : ME := fun S => (rss x S).bind fun d => (f d).map fun z => (z, S)
def opNL (f : List D → Option (List D)) (x : List Rf) : ML := fun S => (rss x S).bind fun d => (f d).map fun z => (.lst z, S)
theorem op2_some {f : D → D → Option D} {x y : Rf} {S S' : Slots} {z : D} (h : op2 f x y S = some (z, S')) : S' = S ∧ ∃ d e, rs x S = some d ∧ rs y S = some e ∧ f d e = some z := by
  obtain ⟨d, h1, h2⟩ := Option.bind_eq_some_iff.mp h
  obtain ⟨e, h3, h4⟩ := Option.bind_eq_some_iff.mp h2
  obtain ⟨w, h5, h6⟩ := Option.map_eq_some_iff.mp h4
  cases h6
  exact ⟨rfl, d, e, h1, h3, h5⟩
theorem op2L_some {f : D → D → Option (List D)} {x y : Rf} {S S' : Slots} {z : Cel} (h : op2L f x y S = some (z, S')) : S' = S ∧ ∃ d e w, z = .lst w ∧ rs x S = some d ∧ rs y S = some e ∧ f d e = some w := by
  obtain ⟨d, h1, h2⟩ := Option.bind_eq_some_iff.mp h
  obtain ⟨e, h3, h4⟩ := Option.bind_eq_some_iff.mp h2
  obtain ⟨w, h5, h6⟩ := Option.map_eq_some_iff.mp h4
  cases h6
  exact ⟨rfl, d, e, w, rfl, h1, h3, h5⟩
theorem op1_some {f : D → Option D} {x : Rf} {S S' : Slots} {z : D} (h : op1 f x S = some (z, S')) : S' = S ∧ ∃ d, rs x S = some d ∧ f d = some z := by
  obtain ⟨d, h1, h2⟩ := Option.bind_eq_some_iff.mp h
  obtain ⟨w, h5, h6⟩ := Option.map_eq_some_iff.mp h2
  cases h6
  exact ⟨rfl, d, h1, h5⟩
theorem opN_some {f : List D → Option D} {x : List Rf} {S S' : Slots} {z : D} (h : opN f x S = some (z, S')) : S' = S ∧ ∃ d, rss x S = some d ∧ f d = some z := by
  obtain ⟨d, h1, h2⟩ := Option.bind_eq_some_iff.mp h
  obtain ⟨w, h5, h6⟩ := Option.map_eq_some_iff.mp h2
  cases h6
  exact ⟨rfl, d, h1, h5⟩
theorem opNL_some {f : List D → Option (List D)} {x : List Rf} {S S' : Slots} {z : Cel} (h : opNL f x S = some (z, S')) : S' = S ∧ ∃ d w, z = .lst w ∧ rss x S = some d ∧ f d = some w := by
  obtain ⟨d, h1, h2⟩ := Option.bind_eq_some_iff.mp h
  obtain ⟨w, h5, h6⟩ := Option.map_eq_some_iff.mp h2
  cases h6
  exact ⟨rfl, d, w, rfl, h1, h5⟩
def eBin (f : D → D → Option D) (a b : MO) : ME := bnd a fun x => bnd b fun y => op2 f x y
def lBin (f : D → D → Option (List D)) (a b : MO) : ML := bnd a fun x => bnd b fun y => op2L f x y
def eUn (f : D → Option D) (a : MO) : ME := bnd a fun x => op1 f x
def eFn (f : List D → Option D) (as : MOs) : ME := bnd as fun x => opN f x
def lFn (f : List D → Option (List D)) (as : MOs) : ML := bnd as fun x => opNL f x
/-- a fresh list at a new place -/
theorem fresh_new {K : PySem.W.Frag} {Z : Fz} {S : Slots} {σ : St} {H G : Hp} {a : Addr} {vs : List V} {ds : List D} (R : RS K Z S σ H G) (hn : H a = none) (h : DpAll K G vs ds) :
    RS K Z S σ (upd H a (.lst vs)) G ∧ Fresh K Z S σ (upd H a (.lst vs)) G a (.lst ds) := by
  have g : Gr G H G (upd H a (.lst vs)) := Gr.newH R.sub hn
  refine ⟨R.gr g, ⟨_, upd_same, h⟩, same_none R.sub hn, ?_, fun i hi e => ?_⟩
  · left
    cases q : Z.H0 a with
    | none => rfl
    | some x =>
      obtain ⟨o', z⟩ := R.there a x q
      rw [hn] at z; cases z
  · obtain ⟨b, o, c, h1, h2, _⟩ := R.cell hi
    rw [e] at h1; cases h1
    rw [hn] at h2; cases h2
section
variable {X : Cx} {e a b c : Expr} {es : List Expr} {pos : Pos} {m ma mb : ME} {oa ob : MO} {os : MOs}
theorem tO2 {K : PySem.W.Frag} {r : R2} {f : D → D → Option D} (ad : Ad2 K r f) : ∀ σ H Q, tM K (eBin f oa ob) σ H Q → tOp r (tO K oa) (tO K ob) σ H Q := fun σ H Q h => by
  obtain ⟨Z, S, G, z, S', R, e, q⟩ := h
  obtain ⟨x, S1, e1, e⟩ := bnd_some e
  obtain ⟨y, S2, e2, e⟩ := bnd_some e
  obtain ⟨rfl, d, d', h1, h2, h3⟩ := op2_some e
  refine ⟨Z, S, G, x, S1, R, e1, fun v H1 G1 R1 s1 o1 => ⟨Z, S1, G1, y, _, R1, e2, fun u H2 G2 R2 s2 o2 => ?_⟩⟩
  exact ad G2 H2 v u d d' z Q R2.sub (rs_ok R2 (o1.mono s2) h1) (rs_ok R2 o2 h2) h3 fun w H3 G3 g k => q w H3 G3 (R2.gr g) (s1.trans (s2.trans g.g)) k
theorem tO2L {K : PySem.W.Frag} {r : R2} {f : D → D → Option (List D)} (ad : Ad2L K r f) : ∀ σ H Q, tL K (lBin f oa ob) σ H Q → tOp r (tO K oa) (tO K ob) σ H Q := fun σ H Q h => by
  obtain ⟨Z, S, G, z, S', R, e, q⟩ := h
  obtain ⟨x, S1, e1, e⟩ := bnd_some e
  obtain ⟨y, S2, e2, e⟩ := bnd_some e
  obtain ⟨rfl, d, d', w, rfl, h1, h2, h3⟩ := op2L_some e
  refine ⟨Z, S, G, x, S1, R, e1, fun v H1 G1 R1 s1 o1 => ⟨Z, S1, G1, y, _, R1, e2, fun u H2 G2 R2 s2 o2 => ?_⟩⟩
  refine ad G2 H2 v u d d' w Q R2.sub (rs_ok R2 (o1.mono s2) h1) (rs_ok R2 o2 h2) h3 fun a vs hn k => ?_
  obtain ⟨R3, f3⟩ := fresh_new R2 hn k
  exact q a _ G2 R3 (s1.trans s2) f3
theorem de_bin {op : Operator} {r : R2} {f : D → D → Option D} (ho : OpR X (binaryOp op) r) (ad : Ad2 X.K r f) (ha : PE X a (tO X.K oa)) (hb : PE X b (tO X.K ob)) : PE X (.BinOp a op b pos) (tM X.K (eBin f oa ob)) :=
  PE.imp (pe_op ho ha hb) (tO2 ad)
theorem dl_bin {op : Operator} {r : R2} {f : D → D → Option (List D)} (ho : OpR X (binaryOp op) r) (ad : Ad2L X.K r f) (ha : PE X a (tO X.K oa)) (hb : PE X b (tO X.K ob)) : PE X (.BinOp a op b pos) (tL X.K (lBin f oa ob)) :=
  PE.imp (pe_op ho ha hb) (tO2L ad)
theorem de_cmp {op : CmpOp} {r : R2} {f : D → D → Option D} (ho : OpR X (compareOp op) r) (ad : Ad2 X.K r f) (ha : PE X a (tO X.K oa)) (hb : PE X b (tO X.K ob)) (hm : behindInMarks op b = false) : PE X (.Compare a [op] [b] pos) (tM X.K (eBin f oa ob)) :=
  PE.imp (pe_cmpR ho ha hb hm) (tO2 ad)
theorem de_un {op : UnaryOp} {r : V → Hp → VK → Prop} {f : D → Option D} (ho : UnR X (unaryOp op) r) (ad : Ad1 X.K r f) (ha : PE X a (tO X.K oa)) : PE X (.UnaryOp op a pos) (tM X.K (eUn f oa)) := by
  refine PE.imp (pe_un ho ha) fun σ H Q h => ?_
  obtain ⟨Z, S, G, z, S', R, e, q⟩ := h
  obtain ⟨x, S1, e1, e⟩ := bnd_some e
  obtain ⟨rfl, d, h1, h3⟩ := op1_some e
  refine ⟨Z, S, G, x, _, R, e1, fun v H1 G1 R1 s1 o1 => ?_⟩
  exact ad G1 H1 v d z Q R1.sub (rs_ok R1 o1 h1) h3 fun w H3 G3 g k => q w H3 G3 (R1.gr g) (s1.trans g.g) k

/-! ### arguments -/
def oNil : MOs := mret []
def oCons (a : MO) (as : MOs) : MOs := bnd a fun x => bnd as fun xs => mret (x :: xs)
def aNil : MA := mret []
def aCons (a : ME) (as : MA) : MA := bnd a fun x => bnd as fun xs => mret (x :: xs)
theorem dos_nil : PA X [] (tAO X.K oNil) := PA.imp pa_nil fun σ H Q ⟨Z, S, G, ds, S', R, e, q⟩ => by cases e; exact q [] H G R (Same.refl _) .nil
theorem dos_cons (ha : PE X e (tO X.K oa)) (hr : PA X es (tAO X.K os)) (hs : starEach (e :: es) X.env = (false, eval e X.env) :: starEach es X.env := by rfl) : PA X (e :: es) (tAO X.K (oCons oa os)) := by
  refine PA.imp (pa_cons ha hr hs) fun σ H Q h => ?_
  obtain ⟨Z, S, G, ds, S', R, e, q⟩ := h
  obtain ⟨x, S1, e1, e⟩ := bnd_some e
  obtain ⟨xs, S2, e2, e⟩ := bnd_some e
  cases e
  exact ⟨Z, S, G, x, S1, R, e1, fun v H1 G1 R1 s1 o1 => ⟨Z, S1, G1, xs, _, R1, e2, fun vs H2 G2 R2 s2 o2 => q _ H2 G2 R2 (s1.trans s2) (.cons (o1.mono s2) o2)⟩⟩
variable {as : MA}
theorem da_nil : PA X [] (tA X.K aNil) := PA.imp pa_nil fun σ H Q ⟨Z, S, G, ds, S', R, e, q⟩ => by cases e; exact q [] H G R (Same.refl _) .nil
theorem da_cons (ha : PE X e (tM X.K m)) (hr : PA X es (tA X.K as)) (hs : starEach (e :: es) X.env = (false, eval e X.env) :: starEach es X.env := by rfl) : PA X (e :: es) (tA X.K (aCons m as)) := by
  refine PA.imp (pa_cons ha hr hs) fun σ H Q h => ?_
  obtain ⟨Z, S, G, ds, S', R, e, q⟩ := h
  obtain ⟨x, S1, e1, e⟩ := bnd_some e
  obtain ⟨xs, S2, e2, e⟩ := bnd_some e
  cases e
  exact ⟨Z, S, G, x, S1, R, e1, fun v H1 G1 R1 s1 o1 => ⟨Z, S1, G1, xs, _, R1, e2, fun vs H2 G2 R2 s2 o2 => q _ H2 G2 R2 (s1.trans s2) (.cons (dp_mono s2 o1) o2)⟩⟩

/-! ### displays -/
def eTup (as : MA) : ME := bnd as fun ds S => if ds.length ≤ 1000000 then some (.tuple ds, S) else none
def lLst (as : MA) : ML := bnd as fun ds S => if ds.length ≤ 1000000 then some (.lst ds, S) else none
theorem size_ok {n : Nat} (h : n ≤ 1000000) : n ≤ sizeLine := Nat.le_trans h (by decide)
theorem de_tup {x1} (h : PA X es (tA X.K as)) : PE X (.Tuple es x1 pos) (tM X.K (eTup as)) := by
  refine PE.imp (pe_tup h) fun σ H Q h => ?_
  obtain ⟨Z, S, G, d, S', R, e, q⟩ := h
  obtain ⟨ds, S1, e1, e⟩ := bnd_some e
  split at e
  · rename_i hl
    cases e
    refine ⟨Z, S, G, ds, _, R, e1, fun vs H1 G1 R1 s1 k => ⟨size_ok (by rw [k.len]; exact hl), fun p hp => ?_⟩⟩
    have g := Gr.new (o := .tup vs) R1.sub hp
    exact q _ _ _ (R1.gr g) (s1.trans g.g) (.tup (SqT.of upd_same) (dpAll_mono g.g k))
  · cases e
theorem dl_lst (h : PA X es (tA X.K as)) : PE X (.List es pos) (tL X.K (lLst as)) := by
  refine PE.imp (pe_lst h) fun σ H Q h => ?_
  obtain ⟨Z, S, G, d, S', R, e, q⟩ := h
  obtain ⟨ds, S1, e1, e⟩ := bnd_some e
  split at e
  · rename_i hl
    cases e
    refine ⟨Z, S, G, ds, _, R, e1, fun vs H1 G1 R1 s1 k => ⟨size_ok (by rw [k.len]; exact hl), fun p hp => ?_⟩⟩
    obtain ⟨R2, f2⟩ := fresh_new R1 hp k
    exact q p _ G1 R2 s1 f2
  · cases e

/-! ### built-in functions and types by name -/
variable {x : Str} {p : Pos} {id T : String} {r : List V → Hp → VK → Prop}
theorem tFn {K : PySem.W.Frag} {f : List D → Option D} (ad : AdN K r f) : ∀ σ H Q, tM K (eFn f os) σ H Q → tCB r (tAO K os) σ H Q := fun σ H Q h => by
  obtain ⟨Z, S, G, z, S', R, e, q⟩ := h
  obtain ⟨xs, S1, e1, e⟩ := bnd_some e
  obtain ⟨rfl, d, h1, h3⟩ := opN_some e
  exact ⟨Z, S, G, xs, _, R, e1, fun vs H1 G1 R1 s1 o1 => ad G1 H1 vs d z Q R1.sub (rss_ok R1 o1 h1) h3 fun w H3 G3 g k => q w H3 G3 (R1.gr g) (s1.trans g.g) k⟩
theorem tFnL {K : PySem.W.Frag} {f : List D → Option (List D)} (ad : AdNL K r f) : ∀ σ H Q, tL K (lFn f os) σ H Q → tCB r (tAO K os) σ H Q := fun σ H Q h => by
  obtain ⟨Z, S, G, z, S', R, e, q⟩ := h
  obtain ⟨xs, S1, e1, e⟩ := bnd_some e
  obtain ⟨rfl, d, w, rfl, h1, h3⟩ := opNL_some e
  refine ⟨Z, S, G, xs, _, R, e1, fun vs H1 G1 R1 s1 o1 => ad G1 H1 vs d w Q R1.sub (rss_ok R1 o1 h1) h3 fun a vs' hn k => ?_⟩
  obtain ⟨R2, f2⟩ := fresh_new R1 hn k
  exact q a _ G1 R2 s1 f2
theorem de_callB {f : List D → Option D} (hc : CallR X (.builtin id) r) (ad : AdN X.K r f) (hg : Gl X x) (hm : X.mg x = none) (hv : bootBuiltins x = some (.builtin id)) (ha : PA X (e :: es) (tAO X.K os)) (hn : x ≠ "__name__" := by decide) (hdb : (x == ("__debug__" : Str)) = false := by decide)
    (he : starEach (e :: es) X.env = (false, eval e X.env) :: starEach es X.env := by rfl) (hpl : (backTo pos (starEach es X.env)).any (·.1) = false := by rfl) : PE X (.Call (.Name x p) (e :: es) [] pos) (tM X.K (eFn f os)) :=
  PE.imp (pe_callB hc hg hm hv ha hn hdb he hpl) (tFn ad)
theorem de_callTy {f : List D → Option D} (hc : CallR X (.type T) r) (ad : AdN X.K r f) (hg : Gl X x) (hm : X.mg x = none) (hv : bootBuiltins x = some (.type T)) (ha : PA X (e :: es) (tAO X.K os)) (hn : x ≠ "__name__" := by decide) (hdb : (x == ("__debug__" : Str)) = false := by decide)
    (he : starEach (e :: es) X.env = (false, eval e X.env) :: starEach es X.env := by rfl) (hpl : (backTo pos (starEach es X.env)).any (·.1) = false := by rfl) : PE X (.Call (.Name x p) (e :: es) [] pos) (tM X.K (eFn f os)) :=
  PE.imp (pe_callTy hc hg hm hv ha hn hdb he hpl) (tFn ad)
theorem dl_callB {f : List D → Option (List D)} (hc : CallR X (.builtin id) r) (ad : AdNL X.K r f) (hg : Gl X x) (hm : X.mg x = none) (hv : bootBuiltins x = some (.builtin id)) (ha : PA X (e :: es) (tAO X.K os)) (hn : x ≠ "__name__" := by decide) (hdb : (x == ("__debug__" : Str)) = false := by decide)
    (he : starEach (e :: es) X.env = (false, eval e X.env) :: starEach es X.env := by rfl) (hpl : (backTo pos (starEach es X.env)).any (·.1) = false := by rfl) : PE X (.Call (.Name x p) (e :: es) [] pos) (tL X.K (lFn f os)) :=
  PE.imp (pe_callB hc hg hm hv ha hn hdb he hpl) (tFnL ad)
theorem dl_callTy {f : List D → Option (List D)} (hc : CallR X (.type T) r) (ad : AdNL X.K r f) (hg : Gl X x) (hm : X.mg x = none) (hv : bootBuiltins x = some (.type T)) (ha : PA X (e :: es) (tAO X.K os)) (hn : x ≠ "__name__" := by decide) (hdb : (x == ("__debug__" : Str)) = false := by decide)
    (he : starEach (e :: es) X.env = (false, eval e X.env) :: starEach es X.env := by rfl) (hpl : (backTo pos (starEach es X.env)).any (·.1) = false := by rfl) : PE X (.Call (.Name x p) (e :: es) [] pos) (tL X.K (lFn f os)) :=
  PE.imp (pe_callTy hc hg hm hv ha hn hdb he hpl) (tFnL ad)

/-! ### tests -/
def tOf (m : ME) : MT := bnd m fun d S => match d with
  | .bool b => some (b, S)
  | _ => none
theorem tOf_some {m : ME} {S S' : Slots} {b : Bool} (h : tOf m S = some (b, S')) : m S = some (.bool b, S') := by
  obtain ⟨d, S1, e1, e⟩ := bnd_some h
  split at e
  · cases e; exact e1
  · cases e
theorem tB_of {K : PySem.W.Frag} : ∀ σ H (Q : Bool → Hp → Prop), tT K (tOf m) σ H Q → tB (tM K m) σ H Q := fun σ H Q ⟨Z, S, G, b, S', R, e, q⟩ =>
  ⟨Z, S, G, _, S', R, tOf_some e, fun v H' G' R' s k => by
    cases k
    exact ⟨b, rfl, q H' G' R' s⟩⟩
/-- an expression that gives a truth value, as a test -/
theorem dt_val (h : PE X e (tM X.K m)) (he : ∀ whole, isTrue e X.env whole = (do let v ← whole; standAt e.pos; holding [v] (truthy v)) := by intro _; rfl) : PT X e (tT X.K (tOf m)) :=
  PT.imp (pt_val h he) tB_of
theorem dt_cmp {op : CmpOp} {r : R2} {f : D → D → Option D} (ho : OpR X (compareOp op) r) (ad : Ad2 X.K r f) (ha : PE X a (tO X.K oa)) (hb : PE X b (tO X.K ob)) (hm : behindInMarks op b = false) : PT X (.Compare a [op] [b] pos) (tT X.K (tOf (eBin f oa ob))) := by
  refine PT.imp (pt_cmpR ho ha hb hm) fun σ H Q h => ?_
  exact tO2 ad σ H _ (by
    obtain ⟨Z, S, G, b, S', R, e, q⟩ := h
    exact ⟨Z, S, G, _, S', R, tOf_some e, fun v H' G' R' s k => by cases k; exact ⟨b, rfl, q H' G' R' s⟩⟩)
def truD : D → Option Bool
  | .none => some false
  | .bool b => some b
  | .int i => some (i != 0)
  | .str s => if s.length ≤ 1000000 then some (s.length != 0) else none
  | .list ds => some (!ds.isEmpty)
  | .tuple ds => some (!ds.isEmpty)
  | _ => none
def mTru (a : MO) : MT := bnd a fun x S => (rs x S).bind fun d => (truD d).map fun b => (b, S)
end
end PD

/-! PDExpr2: tests, and / or, chains, subscripts, slices, calls of the program's own defs. -/
namespace PD
open PySem PySem.Spec PyProof.Rows L2

section
variable {K : PySem.W.Frag} {Z : Fz} {S S' : Slots} {σ : St} {H G H' G' : Hp}
theorem truV_of {v : V} {d : D} {b : Bool} (s : Same G H) (h : DpT K G H v d) (e : truD d = some b) : TruV K v H b := by
  have hh := h.dp s
  cases hh with
  | non => cases e; rfl
  | bl b => cases e; rfl
  | int i => cases e; rfl
  | str x =>
    have e' : (if x.length ≤ 1000000 then some (x.length != 0) else none) = some b := e
    split at e'
    · rename_i hl
      cases e'
      refine ⟨size_ok hl, ?_⟩
      by_cases hz : x.length = 0
      · simp [hz]
      · have h1 : (x.length != 0) = true := bne_iff_ne.mpr hz
        have h2 : ((x.length : Int) != 0) = true := bne_iff_ne.mpr (by omega)
        rw [h1, h2]
    · cases e'
  | lst hl ha =>
    cases e
    refine .inl ⟨_, hl, ?_⟩
    cases ha <;> rfl
  | tup hl ha =>
    cases e
    refine .inr (.inl ⟨_, hl, ?_⟩)
    cases ha <;> rfl
end
section
variable {X : Cx} {e a b c : Expr} {rest es : List Expr} {pos : Pos} {m ma mb mc : ME} {oa ob oc : MO} {ta tb : MT} {os : MOs}
theorem dt_tru (ha : PE X a (tO X.K oa)) (he : ∀ whole, isTrue a X.env whole = (do let v ← whole; standAt a.pos; holding [v] (truthy v)) := by intro _; rfl) : PT X a (tT X.K (mTru oa)) := by
  refine PT.imp (pt_truth ha he) fun σ H Q h => ?_
  obtain ⟨Z, S, G, b, S', R, e, q⟩ := h
  obtain ⟨x, S1, e1, e⟩ := bnd_some e
  obtain ⟨d, h1, h2⟩ := Option.bind_eq_some_iff.mp e
  obtain ⟨w, h3, h4⟩ := Option.map_eq_some_iff.mp h2
  cases h4
  exact ⟨Z, S, G, x, _, R, e1, fun v H1 G1 R1 s1 o1 => ⟨b, truV_of R1.sub (rs_ok R1 o1 h1) h3, q H1 G1 R1 s1⟩⟩

/-! ### and, or, not -/
def mAnd (a b : MT) : MT := bnd a fun x => if x = true then b else mret false
def mOr (a b : MT) : MT := bnd a fun x => if x = true then mret true else b
def mNot (a : MT) : MT := bnd a fun x => mret (!x)
theorem dw_and1 (ha : PT X a (tT X.K ta)) : PW X (.BoolOp .And [a] pos) (tT X.K ta) := pw_and1 ha
theorem dw_or1 (ha : PT X a (tT X.K ta)) : PW X (.BoolOp .Or [a] pos) (tT X.K ta) := pw_or1 ha
theorem dw_and (ha : PT X a (tT X.K ta)) (hb : PW X (.BoolOp .And (b :: rest) pos) (tT X.K tb)) : PW X (.BoolOp .And (a :: b :: rest) pos) (tT X.K (mAnd ta tb)) := by
  refine PW.imp (pw_and ha hb) fun σ H Q h => ?_
  obtain ⟨Z, S, G, b, S', R, e, q⟩ := h
  obtain ⟨x, S1, e1, e⟩ := bnd_some e
  refine ⟨Z, S, G, x, S1, R, e1, fun H1 G1 R1 s1 => ?_⟩
  cases x with
  | true =>
    rw [if_pos rfl]
    exact ⟨Z, S1, G1, b, S', R1, e, fun H2 G2 R2 s2 => q H2 G2 R2 (s1.trans s2)⟩
  | false =>
    cases e
    rw [if_neg Bool.false_ne_true]
    exact q H1 G1 R1 s1
theorem dw_or (ha : PT X a (tT X.K ta)) (hb : PW X (.BoolOp .Or (b :: rest) pos) (tT X.K tb)) : PW X (.BoolOp .Or (a :: b :: rest) pos) (tT X.K (mOr ta tb)) := by
  refine PW.imp (pw_or ha hb) fun σ H Q h => ?_
  obtain ⟨Z, S, G, b, S', R, e, q⟩ := h
  obtain ⟨x, S1, e1, e⟩ := bnd_some e
  refine ⟨Z, S, G, x, S1, R, e1, fun H1 G1 R1 s1 => ?_⟩
  cases x with
  | true =>
    cases e
    rw [if_pos rfl]
    exact q H1 G1 R1 s1
  | false =>
    rw [if_neg Bool.false_ne_true]
    exact ⟨Z, S1, G1, b, S', R1, e, fun H2 G2 R2 s2 => q H2 G2 R2 (s1.trans s2)⟩
theorem dt_not (ha : PT X a (tT X.K ta)) : PT X (.UnaryOp .Not a pos) (tT X.K (mNot ta)) := by
  refine PT.imp (pt_not ha) fun σ H Q h => ?_
  obtain ⟨Z, S, G, b, S', R, e, q⟩ := h
  obtain ⟨x, S1, e1, e⟩ := bnd_some e
  cases e
  exact ⟨Z, S, G, x, _, R, e1, fun H1 G1 R1 s1 => q H1 G1 R1 s1⟩
/-- as values; all but the last are truth values -/
def eAnd (a b : ME) : ME := bnd (tOf a) fun x => if x = true then b else mret (.bool false)
def eOr (a b : ME) : ME := bnd (tOf a) fun x => if x = true then mret (.bool true) else b
def eNot (a : ME) : ME := bnd (tOf a) fun x => mret (.bool (!x))
theorem de_one {op} (h : PE X a (tM X.K m)) : PE X (.BoolOp op [a] pos) (tM X.K m) := pe_one h
theorem de_and (ha : PE X a (tM X.K ma)) (hb : PE X (.BoolOp .And (b :: rest) pos) (tM X.K mb)) : PE X (.BoolOp .And (a :: b :: rest) pos) (tM X.K (eAnd ma mb)) := by
  refine PE.imp (pe_and ha hb) fun σ H Q h => ?_
  obtain ⟨Z, S, G, b, S', R, e, q⟩ := h
  obtain ⟨x, S1, e1, e⟩ := bnd_some e
  refine ⟨Z, S, G, _, S1, R, tOf_some e1, fun v H1 G1 R1 s1 k => ?_⟩
  cases k
  refine ⟨x, rfl, ?_⟩
  cases x with
  | true =>
    rw [if_pos rfl]
    exact ⟨Z, S1, G1, b, S', R1, e, fun v H2 G2 R2 s2 k => q v H2 G2 R2 (s1.trans s2) k⟩
  | false =>
    cases e
    rw [if_neg Bool.false_ne_true]
    exact q _ H1 G1 R1 s1 (.bl _)
theorem de_or (ha : PE X a (tM X.K ma)) (hb : PE X (.BoolOp .Or (b :: rest) pos) (tM X.K mb)) : PE X (.BoolOp .Or (a :: b :: rest) pos) (tM X.K (eOr ma mb)) := by
  refine PE.imp (pe_or ha hb) fun σ H Q h => ?_
  obtain ⟨Z, S, G, b, S', R, e, q⟩ := h
  obtain ⟨x, S1, e1, e⟩ := bnd_some e
  refine ⟨Z, S, G, _, S1, R, tOf_some e1, fun v H1 G1 R1 s1 k => ?_⟩
  cases k
  refine ⟨x, rfl, ?_⟩
  cases x with
  | true =>
    cases e
    rw [if_pos rfl]
    exact q _ H1 G1 R1 s1 (.bl _)
  | false =>
    rw [if_neg Bool.false_ne_true]
    exact ⟨Z, S1, G1, b, S', R1, e, fun v H2 G2 R2 s2 k => q v H2 G2 R2 (s1.trans s2) k⟩
theorem de_not (ha : PE X a (tM X.K ma)) : PE X (.UnaryOp .Not a pos) (tM X.K (eNot ma)) := by
  refine PE.imp (pe_not ha) fun σ H Q h => ?_
  obtain ⟨Z, S, G, b, S', R, e, q⟩ := h
  obtain ⟨x, S1, e1, e⟩ := bnd_some e
  cases e
  refine ⟨Z, S, G, _, _, R, tOf_some e1, fun v H1 G1 R1 s1 k => ?_⟩
  cases k
  exact ⟨x, rfl, q _ H1 G1 R1 s1 (.bl _)⟩
def eIf (t : MT) (a b : ME) : ME := bnd t fun x => if x = true then a else b
def lIf (t : MT) (a b : ML) : ML := bnd t fun x => if x = true then a else b
theorem de_ifExp {t : Expr} (ht : PT X t (tT X.K ta)) (ha : PE X a (tM X.K ma)) (hb : PE X b (tM X.K mb)) : PE X (.IfExp t a b pos) (tM X.K (eIf ta ma mb)) := by
  refine PE.imp (pe_ifExp ht ha hb) fun σ H Q h => ?_
  obtain ⟨Z, S, G, b, S', R, e, q⟩ := h
  obtain ⟨x, S1, e1, e⟩ := bnd_some e
  refine ⟨Z, S, G, x, S1, R, e1, fun H1 G1 R1 s1 => ?_⟩
  cases x with
  | true =>
    rw [if_pos rfl]
    exact ⟨Z, S1, G1, b, S', R1, e, fun v H2 G2 R2 s2 k => q v H2 G2 R2 (s1.trans s2) k⟩
  | false =>
    rw [if_neg Bool.false_ne_true]
    exact ⟨Z, S1, G1, b, S', R1, e, fun v H2 G2 R2 s2 k => q v H2 G2 R2 (s1.trans s2) k⟩

/-! ### chains of two -/
def chain2 (f : D → D → Option D) (y : Rf) (c : MO) : D → ME
  | .bool true => bnd c fun w => op2 f y w
  | .bool false => mret (.bool false)
  | _ => fun _ => none
def eChain (f f' : D → D → Option D) (a b c : MO) : ME := bnd a fun x => bnd b fun y => bnd (op2 f x y) fun z => chain2 f' y c z
theorem tChain2 {op op' : CmpOp} {r r' : R2} {f f' : D → D → Option D} (ad : Ad2 X.K r f) (ad' : Ad2 X.K r' f') : ∀ σ H Q, tM X.K (eChain f f' oa ob oc) σ H Q → tChain r r' (tO X.K oa) (tO X.K ob) (tO X.K oc) σ H Q := fun σ H Q h => by
  obtain ⟨Z, S, G, z, S', R, e, q⟩ := h
  obtain ⟨x, S1, e1, e⟩ := bnd_some e
  obtain ⟨y, S2, e2, e⟩ := bnd_some e
  obtain ⟨k, S3, e3, e5⟩ := bnd_some e
  obtain ⟨rfl, d, d', h1, h2, h3⟩ := op2_some e3
  refine ⟨Z, S, G, x, S1, R, e1, fun v H1 G1 R1 s1 o1 => ⟨Z, S1, G1, y, _, R1, e2, fun u H2 G2 R2 s2 o2 => ?_⟩⟩
  refine ad G2 H2 v u d d' k _ R2.sub (rs_ok R2 (o1.mono s2) h1) (rs_ok R2 o2 h2) h3 fun w H3 G3 g kd => ?_
  unfold chain2 at e5
  split at e5
  · cases kd
    refine ⟨true, rfl, ?_⟩
    rw [if_pos rfl]
    obtain ⟨c', S4, e4, e6⟩ := bnd_some e5
    obtain ⟨rfl, d2, d3, h4, h5, h6⟩ := op2_some e6
    refine ⟨Z, _, G3, c', _, R2.gr g, e4, fun t H4 G4 R4 s4 o4 => ?_⟩
    exact ad' G4 H4 u t d2 d3 z Q R4.sub (rs_ok R4 (o2.mono (g.g.trans s4)) h4) (rs_ok R4 o4 h5) h6 fun w' H5 G5 g5 k5 => q w' H5 G5 (R4.gr g5) (s1.trans (s2.trans (g.g.trans (s4.trans g5.g)))) k5
  · cases kd
    cases e5
    refine ⟨false, rfl, ?_⟩
    rw [if_neg Bool.false_ne_true]
    exact q _ H3 G3 (R2.gr g) (s1.trans (s2.trans g.g)) (.bl _)
  · cases e5
theorem de_chain {op op' : CmpOp} {r r' : R2} {f f' : D → D → Option D} (ho : OpR X (compareOp op) r) (ho' : OpR X (compareOp op') r') (ad : Ad2 X.K r f) (ad' : Ad2 X.K r' f') (ha : PE X a (tO X.K oa)) (hb : PE X b (tO X.K ob)) (hc : PE X c (tO X.K oc))
    (hm : lastMarks [op, op'] [b, c] = false := by with_unfolding_all rfl) : PE X (.Compare a [op, op'] [b, c] pos) (tM X.K (eChain f f' oa ob oc)) :=
  PE.imp (pe_chain ho ho' ha hb hc hm) (tChain2 (op := op) (op' := op') ad ad')
theorem dt_chain {op op' : CmpOp} {r r' : R2} {f f' : D → D → Option D} (ho : OpR X (compareOp op) r) (ho' : OpR X (compareOp op') r') (ad : Ad2 X.K r f) (ad' : Ad2 X.K r' f') (ha : PE X a (tO X.K oa)) (hb : PE X b (tO X.K ob)) (hc : PE X c (tO X.K oc))
    (hm : lastMarks [op, op'] [b, c] = false := by with_unfolding_all rfl) : PT X (.Compare a [op, op'] [b, c] pos) (tT X.K (tOf (eChain f f' oa ob oc))) := by
  refine PT.imp (pt_chain ho ho' ha hb hc hm) fun σ H Q h => ?_
  exact tChain2 (op := op) (op' := op') ad ad' σ H _ (by
    obtain ⟨Z, S, G, b, S', R, e, q⟩ := h
    exact ⟨Z, S, G, _, S', R, tOf_some e, fun v H' G' R' s k => by cases k; exact ⟨b, rfl, q H' G' R' s⟩⟩)

/-! ### subscripts -/
def atD : D → D → Option D
  | .list ds, .int i => atI ds i
  | .tuple ds, .int i => atI ds i
  | _, _ => none
theorem atI_dp {K : PySem.W.Frag} {G : Hp} {vs : List V} {ds : List D} {i : Int} {d : D} (h : DpAll K G vs ds) (e : atI ds i = some d) : ∃ v, atI vs i = some v ∧ Dp K G v d := by
  unfold atI at e ⊢
  rw [h.len]
  obtain ⟨j, h1, h2⟩ := Option.bind_eq_some_iff.mp e
  obtain ⟨v, h3, h4⟩ := h.get h2
  exact ⟨v, by rw [h1]; exact h3, h4⟩
theorem ad_at {K : PySem.W.Frag} : Ad2 K (rIx K) atD := fun G H x y d e z Q s hx hy hf q => by
  have hy := hy.dp s
  rcases hx with hx | ⟨a, vs, ds, rfl, rfl, h1, h2⟩
  · cases hx with
    | lst hl ha =>
      cases hy <;> first | cases hf | skip
      obtain ⟨v, h3, h4⟩ := atI_dp ha hf
      exact .inl ⟨_, _, _, v, rfl, rfl, s.seq hl, h3, q v H G (Gr.refl s) h4⟩
    | tup hl ha =>
      cases hy <;> first | cases hf | skip
      obtain ⟨v, h3, h4⟩ := atI_dp ha hf
      exact .inr (.inl ⟨_, _, _, v, rfl, rfl, same_sqt s hl, h3, q v H G (Gr.refl s) h4⟩)
    | _ => cases hy <;> cases hf
  · cases hy <;> first | cases hf | skip
    obtain ⟨v, h3, h4⟩ := atI_dp h2 hf
    exact .inl ⟨_, _, _, v, rfl, rfl, SqL.of h1, h3, q v H G (Gr.refl s) h4⟩
theorem de_ix (ha : PE X a (tO X.K oa)) (hb : PE X b (tO X.K ob)) (hs : PlainIx b := by intro _ _; rfl) : PE X (.Subscript a b pos) (tM X.K (eBin atD oa ob)) :=
  PE.imp (pe_ix ix_seq ha hb hs) (tO2 ad_at)

/-! ### slices -/
def mNoPart : M (Option Int) := mret none
def mPart (a : ME) : M (Option Int) := bnd a fun d S => match d with
  | .int i => some (some i, S)
  | _ => none
def tPO (K : PySem.W.Frag) (m : M (Option Int)) : TO := fun σ H Q => ∃ Z S G o S', RS K Z S σ H G ∧ m S = some (o, S') ∧ ∀ H' G', RS K Z S' σ H' G' → Same G G' → Q o H'
theorem dp_none : PO X none (tPO X.K mNoPart) := PO.imp po_none fun σ H Q ⟨Z, S, G, o, S', R, e, q⟩ => by cases e; exact q H G R (Same.refl _)
theorem dp_some (h : PE X e (tM X.K m)) : PO X (some e) (tPO X.K (mPart m)) := by
  refine PO.imp (po_some h) fun σ H Q ⟨Z, S, G, o, S', R, e, q⟩ => ?_
  obtain ⟨d, S1, e1, e⟩ := bnd_some e
  split at e
  · cases e
    exact ⟨Z, S, G, _, _, R, e1, fun v H1 G1 R1 s1 k => by cases k; exact ⟨_, rfl, q H1 G1 R1 s1⟩⟩
  · cases e
def cutD (xs : List D) (lo hi : Option Int) : List D := (xs.drop (HT.sIx xs.length 0 lo)).take (HT.sIx xs.length xs.length hi - HT.sIx xs.length 0 lo)
theorem cut_dp {K : PySem.W.Frag} {G : Hp} {vs : List V} {ds : List D} {lo hi : Option Int} (h : DpAll K G vs ds) : DpAll K G (cutV vs lo hi) (cutD ds lo hi) := by
  unfold cutV cutD
  rw [h.len]
  exact (h.drop _).take _
/-- a list's slice: a new list -/
def lCut (a : MO) (lo hi : M (Option Int)) : ML := bnd a fun x => bnd lo fun l => bnd hi fun h S => match rs x S with
  | some (.list ds) => some (.lst (cutD ds l h), S)
  | _ => none
/-- a tuple's slice -/
def eCut (a : MO) (lo hi : M (Option Int)) : ME := bnd a fun x => bnd lo fun l => bnd hi fun h S => match rs x S with
  | some (.tuple ds) => some (.tuple (cutD ds l h), S)
  | _ => none
variable {lo hi : Option Expr} {ml mh : M (Option Int)} {p2 : Pos}
theorem dl_cut (ha : PE X a (tO X.K oa)) (hl : PO X lo (tPO X.K ml)) (hh : PO X hi (tPO X.K mh)) : PE X (.Subscript a (.Slice lo hi none p2) pos) (tL X.K (lCut oa ml mh)) := by
  refine PE.imp (pe_slice sl_list ha hl hh) fun σ H Q ⟨Z, S, G, o, S', R, e, q⟩ => ?_
  obtain ⟨x, S1, e1, e⟩ := bnd_some e
  obtain ⟨l, S2, e2, e⟩ := bnd_some e
  obtain ⟨h, S3, e3, e⟩ := bnd_some e
  split at e
  · rename_i ds hr
    cases e
    refine ⟨Z, S, G, x, S1, R, e1, fun v H1 G1 R1 s1 o1 => ⟨Z, S1, G1, l, S2, R1, e2, fun H2 G2 R2 s2 => ⟨Z, S2, G2, h, _, R2, e3, fun H3 G3 R3 s3 => ?_⟩⟩⟩
    rcases rs_ok R3 (o1.mono (s2.trans s3)) hr with k | ⟨a', vs, ds', rfl, z, h1, h2⟩
    · cases k with
      | lst hl ha =>
        refine ⟨_, _, rfl, R3.sub.seq hl, fun p hp => ?_⟩
        obtain ⟨R4, f4⟩ := fresh_new R3 hp (cut_dp ha)
        exact q p _ G3 R4 (s1.trans (s2.trans s3)) f4
    · cases z
      refine ⟨_, _, rfl, SqL.of h1, fun p hp => ?_⟩
      obtain ⟨R4, f4⟩ := fresh_new R3 hp (cut_dp h2)
      exact q p _ G3 R4 (s1.trans (s2.trans s3)) f4
  · cases e
theorem cutD_whole {ds : List D} {lo hi : Option Int} (h : HT.sIx ds.length 0 lo = 0 ∧ HT.sIx ds.length ds.length hi = ds.length) : cutD ds lo hi = ds := by
  unfold cutD
  rw [h.1, h.2, List.drop_zero, Nat.sub_zero, List.take_length]
theorem de_cut (ha : PE X a (tO X.K oa)) (hl : PO X lo (tPO X.K ml)) (hh : PO X hi (tPO X.K mh)) : PE X (.Subscript a (.Slice lo hi none p2) pos) (tM X.K (eCut oa ml mh)) := by
  refine PE.imp (pe_slice sl_tupA ha hl hh) fun σ H Q ⟨Z, S, G, o, S', R, e, q⟩ => ?_
  obtain ⟨x, S1, e1, e⟩ := bnd_some e
  obtain ⟨l, S2, e2, e⟩ := bnd_some e
  obtain ⟨h, S3, e3, e⟩ := bnd_some e
  split at e
  · rename_i ds hr
    cases e
    refine ⟨Z, S, G, x, S1, R, e1, fun v H1 G1 R1 s1 o1 => ⟨Z, S1, G1, l, S2, R1, e2, fun H2 G2 R2 s2 => ⟨Z, S2, G2, h, _, R2, e3, fun H3 G3 R3 s3 => ?_⟩⟩⟩
    rcases rs_ok R3 (o1.mono (s2.trans s3)) hr with k | ⟨a', vs, ds', rfl, z, h1, h2⟩
    · cases k with
      | tup hl ha =>
        refine ⟨_, _, rfl, same_sqt R3.sub hl, fun hw => ?_, fun hw p hp => ?_⟩
        · rw [ha.len] at hw
          rw [cutD_whole hw] at q
          exact q _ _ G3 R3 (s1.trans (s2.trans s3)) (.tup hl ha)
        · exact q _ _ _ (R3.gr (Gr.new R3.sub hp)) (s1.trans (s2.trans (s3.trans (Gr.new R3.sub hp).g))) (.tup (SqT.of upd_same) (dpAll_mono (Gr.new R3.sub hp).g (cut_dp ha)))
    · cases z
  · cases e
end

/-! ### calls of the program's own defs -/
def Res (K : PySem.W.Frag) (H H' G' : Hp) (v : V) : SV → Prop
  | .val d => Dp K G' v d
  | .own c => ∃ a o, v = .ref a ∧ H a = none ∧ H' a = some o ∧ G' a = none ∧ HoldsC K G' o c
  | .bor _ => False
/-- a def of plain arguments -/
def spP (K : PySem.W.Frag) (F : List D → Option SV) : Sp := fun vs H Q _ => ∃ G ds r, Same G H ∧ DpAll K G vs ds ∧ F ds = some r ∧ ∀ v H' G', Gr G H G' H' → Res K H H' G' v r → Q v H'
/-- a def whose first argument is a cell that it may change -/
def spB (K : PySem.W.Frag) (F : Cel → List D → Option (SV × Cel)) : Sp := fun vs H Q _ => ∃ G a o c ws ds r c', vs = .ref a :: ws ∧ Same G H ∧ H a = some o ∧ G a = none ∧ HoldsC K G o c ∧ DpAll K G ws ds ∧ F c ds = some (r, c') ∧
  ∀ v H' G' o', (∀ b u, b ≠ a → H b = some u → H' b = some u) → Same G G' → Same G' H' → (∀ b u, H b = some u → G' b = G b) → H' a = some o' → HoldsC K G' o' c' → Res K H H' G' v r → Q v H'
def ResS (K : PySem.W.Frag) (Z : Fz) (S : Slots) (σ : St) (H G : Hp) (v : V) : SV → Prop
  | .val d => Dp K G v d
  | .own c => ∃ a, v = .ref a ∧ Fresh K Z S σ H G a c
  | .bor _ => False
def tSV (K : PySem.W.Frag) (m : M SV) : TE := fun σ H Q => ∃ Z S G r S', RS K Z S σ H G ∧ m S = some (r, S') ∧ ∀ v H' G', RS K Z S' σ H' G' → Same G G' → ResS K Z S' σ H' G' v r → Q v H'
def eSV (m : M SV) : ME := bnd m fun r S => match r with
  | .val d => some (d, S)
  | .own (.lst ds) => some (.list ds, S)
  | _ => none
def lSV (m : M SV) : ML := bnd m fun r S => match r with
  | .own c => some (c, S)
  | _ => none
def mCall (F : List D → Option SV) (as : MA) : M SV := bnd as fun ds S => (F ds).map fun r => (r, S)
def callB (F : Cel → List D → Option (SV × Cel)) (i : Nat) (ds : List D) : M SV := fun S => match S[i]? with
  | some (some (.own c)) => (F c ds).map fun p => (p.1, S.set i (some (.own p.2)))
  | some (some (.bor c)) => (F c ds).map fun p => (p.1, S.set i (some (.bor p.2)))
  | _ => none
def mCallB (F : Cel → List D → Option (SV × Cel)) (i : Nat) (as : MA) : M SV := fun S => match S[i]? with
  | some (some _) => bnd as (fun ds => callB F i ds) S
  | _ => none
section
variable {K : PySem.W.Frag} {Z : Fz} {S S' : Slots} {σ : St} {H G H' G' : Hp}
theorem RS.assigned (R : RS K Z S σ H G) {i : Nat} {c : SV} (h : S[i]? = some (some c)) : ∃ v, σ[i]? = some (some v) := by
  cases c with
  | val d => obtain ⟨v, h1, _⟩ := R.vals i _ h; exact ⟨v, h1⟩
  | own c => obtain ⟨a, o, h1, _⟩ := R.owns i _ h; exact ⟨_, h1⟩
  | bor c => obtain ⟨a, o, h1, _⟩ := R.bors i _ h; exact ⟨_, h1⟩
theorem RS.res (R : RS K Z S σ H G) (g : Gr G H G' H') {v : V} {r : SV} (h : Res K H H' G' v r) : RS K Z S σ H' G' ∧ ResS K Z S σ H' G' v r := by
  have R' := R.gr g
  refine ⟨R', ?_⟩
  cases r with
  | val d => exact h
  | own c =>
    obtain ⟨a, o, rfl, h1, h2, h3, h4⟩ := h
    refine ⟨a, rfl, ⟨o, h2, h4⟩, h3, ?_, fun i hi e => ?_⟩
    · left
      cases q : Z.H0 a with
      | none => rfl
      | some x =>
        obtain ⟨o', z⟩ := R.there a x q
        rw [h1] at z; cases z
    · obtain ⟨b, o, c, w1, w2, _⟩ := R.cell hi
      rw [e] at w1; cases w1
      rw [h1] at w2; cases w2
  | bor _ => exact h.elim
theorem RS.mut (R : RS K Z S σ H G) {i : Nat} {a : Addr} {o o' : HO} {c c' : Cel} {k : Cel → SV} (hk : k = .own ∨ k = .bor) (h : S[i]? = some (some (k c))) (ha : σ[i]? = some (some (.ref a))) (hH : H a = some o) (hG : G a = none)
    (h1 : ∀ b u, b ≠ a → H b = some u → H' b = some u) (h2 : Same G G') (h3 : Same G' H') (h4 : ∀ b u, H b = some u → G' b = G b) (h5 : H' a = some o') (h6 : HoldsC K G' o' c') : RS K Z (S.set i (some (k c'))) σ H' G' := by
  have ga : G' a = none := (h4 a o hH).trans hG
  have g : Gr G H G' (L2.upd H' a o) := ⟨h2, fun b u e => ?_, fun b u e => ?_, h4⟩
  · have R1 := (R.gr g).upd hk h ha h6
    have e : L2.upd (L2.upd H' a o) a o' = H' := by
      rw [upd_upd]
      funext b
      by_cases hb : b = a
      · rw [hb, upd_same, h5]
      · rw [upd_ne hb]
    rw [e] at R1
    exact R1
  · by_cases hb : b = a
    · rw [hb] at e ⊢
      rw [hH] at e; cases e
      exact upd_same
    · rw [upd_ne hb]; exact h1 b u hb e
  · have hb : b ≠ a := fun z => by rw [z, ga] at e; cases e
    rw [upd_ne hb]; exact h3 b u e
theorem RS.resM (R : RS K Z S σ H G) {a : Addr} {i : Nat} {x : SV} (ha : σ[i]? = some (some (.ref a))) (hc : IsCell S i) {v : V} {r : SV} (h1 : Res K H H' G' v r) : ResS K Z (S.set i (some x)) σ H' G' v r := by
  cases r with
  | val d => exact h1
  | own c =>
    obtain ⟨b, o, rfl, w1, w2, w3, w4⟩ := h1
    refine ⟨b, rfl, ⟨o, w2, w4⟩, w3, ?_, fun j hj e => ?_⟩
    · left
      cases q : Z.H0 b with
      | none => rfl
      | some x =>
        obtain ⟨o', z⟩ := R.there b x q
        rw [w1] at z; cases z
    · have hj' : IsCell S j := by
        rcases isCell_set hj with ⟨z, _⟩ | ⟨_, z⟩
        · rw [z]; exact hc
        · exact z
      obtain ⟨b', o, c, q1, q2, _⟩ := R.cell hj'
      rw [e] at q1; cases q1
      rw [w1] at q2; cases q2
  | bor _ => exact h1.elim
end
section
variable {X : Cx} {e : Expr} {es : List Expr} {pos p : Pos} {as : MA} {m : M SV} {k : Nat} {f : Addr} {fd : FuncData} {ps : List Str} {x : Str}
theorem de_sv (h : PE X e (tSV X.K m)) : PE X e (tM X.K (eSV m)) := by
  refine PE.imp h fun σ H Q ⟨Z, S, G, d, S', R, e, q⟩ => ?_
  obtain ⟨r, S1, e1, e⟩ := bnd_some e
  split at e
  · cases e
    exact ⟨Z, S, G, _, _, R, e1, fun v H1 G1 R1 s1 k => q v H1 G1 R1 s1 k⟩
  · cases e
    refine ⟨Z, S, G, _, _, R, e1, fun v H1 G1 R1 s1 k => ?_⟩
    obtain ⟨a, rfl, f⟩ := k
    obtain ⟨o, h1, h2⟩ := f.at_
    obtain ⟨vs, rfl, h3⟩ := h2.list
    obtain ⟨G2, R2, s2, h4⟩ := R1.plain ⟨vs, h1, h3⟩ f.gn f.new f.sep
    exact q _ H1 G2 R2 (s1.trans s2) h4
  · cases e
theorem dl_sv (h : PE X e (tSV X.K m)) : PE X e (tL X.K (lSV m)) := by
  refine PE.imp h fun σ H Q ⟨Z, S, G, d, S', R, e, q⟩ => ?_
  obtain ⟨r, S1, e1, e⟩ := bnd_some e
  split at e
  · cases e
    refine ⟨Z, S, G, _, _, R, e1, fun v H1 G1 R1 s1 k => ?_⟩
    obtain ⟨a, rfl, f⟩ := k
    exact q a H1 G1 R1 s1 f
  · cases e
theorem dsv_call {F : List D → Option SV} (FO : FnOk X.prog X.w X.K X.mg X.base CX0 k f fd ps (spP X.K F)) (hr : Room k X.A) (hg : Gl X x) (hm : X.mg x = some (.ref f)) (hk : PySem.W.keepIn X.K (.ref f) = true) (hb : Binds X.K fd ps [])
    (ha : PA X (e :: es) (tA X.K as)) (hdb : (x == ("__debug__" : Str)) = false := by decide) (he : starEach (e :: es) X.env = (false, eval e X.env) :: starEach es X.env := by rfl) (hpl : (backTo pos (starEach es X.env)).any (·.1) = false := by rfl) :
    PE X (.Call (.Name x p) (e :: es) [] pos) (tSV X.K (mCall F as)) := by
  refine PE.imp (pe_call FO hr hg hm hk hb .nil pass0 ha hdb he hpl) fun σ H Q ⟨Z, S, G, d, S', R, e, q⟩ => ?_
  obtain ⟨ds, S1, e1, e⟩ := bnd_some e
  obtain ⟨r, h1, h2⟩ := Option.map_eq_some_iff.mp e
  cases h2
  refine ⟨Z, S, G, ds, _, R, e1, fun vs H1 G1 R1 s1 k => ?_⟩
  show spP X.K F (vs ++ []) H1 Q E0
  rw [List.append_nil]
  refine ⟨G1, ds, _, R1.sub, k, h1, fun v H2 G2 g w => ?_⟩
  obtain ⟨R2, w2⟩ := R1.res g w
  exact q v H2 G2 R2 (s1.trans g.g) w2
def tAB (K : PySem.W.Frag) (i : Nat) (as : MA) : TA := fun σ H Q => ∃ Z S G ds S' v, RS K Z S σ H G ∧ as S = some (ds, S') ∧ σ[i]? = some (some v) ∧ ∀ vs H' G', RS K Z S' σ H' G' → Same G G' → DpAll K G' vs ds → Q (v :: vs) H'
theorem dab {i : Nat} {y : Str} {p1 : Pos} (hN : X.N[i]? = some y) (hv : Vis X.env.scope y) (hr : PA X es (tA X.K as)) (hs : starEach (.Name y p1 :: es) X.env = (false, eval (.Name y p1) X.env) :: starEach es X.env := by rfl)
    (hd : (y == ("__debug__" : Str)) = false := by decide) (hcd : (y == ("__classdict__" : Str)) = false := by decide) : PA X (.Name y p1 :: es) (tAB X.K i as) := by
  refine PA.imp (pa_cons (pe_var hN hv hd hcd) hr hs) fun σ H Q ⟨Z, S, G, ds, S', v, R, e, hv, q⟩ => ?_
  exact ⟨v, hv, Z, S, G, ds, S', R, e, fun vs H1 G1 R1 s1 k => q vs H1 G1 R1 s1 k⟩
theorem dsv_callB {F : Cel → List D → Option (SV × Cel)} {i : Nat} (FO : FnOk X.prog X.w X.K X.mg X.base CX0 k f fd ps (spB X.K F)) (hr : Room k X.A) (hg : Gl X x) (hm : X.mg x = some (.ref f)) (hk : PySem.W.keepIn X.K (.ref f) = true) (hb : Binds X.K fd ps [])
    (ha : PA X (e :: es) (tAB X.K i as)) (hdb : (x == ("__debug__" : Str)) = false := by decide) (he : starEach (e :: es) X.env = (false, eval e X.env) :: starEach es X.env := by rfl) (hpl : (backTo pos (starEach es X.env)).any (·.1) = false := by rfl) :
    PE X (.Call (.Name x p) (e :: es) [] pos) (tSV X.K (mCallB F i as)) := by
  refine PE.imp (pe_call FO hr hg hm hk hb .nil pass0 ha hdb he hpl) fun σ H Q ⟨Z, S, G, d, S', R, e, q⟩ => ?_
  unfold mCallB at e
  split at e
  · rename_i c0 hS0
    obtain ⟨v, hv⟩ := R.assigned hS0
    obtain ⟨ds, S1, e1, e⟩ := bnd_some e
    refine ⟨Z, S, G, ds, S1, v, R, e1, hv, fun vs H1 G1 R1 s1 kd => ?_⟩
    show spB X.K F ((v :: vs) ++ []) H1 Q E0
    rw [List.append_nil]
    have main : ∀ (k : Cel → SV) (c : Cel), (k = .own ∨ k = .bor) → S1[i]? = some (some (k c)) → (F c ds).map (fun p => (p.1, S1.set i (some (k p.2)))) = some (d, S') → spB X.K F (v :: vs) H1 Q E0 := fun k c hk hS e => by
      obtain ⟨⟨r, c'⟩, h1, h2⟩ := Option.map_eq_some_iff.mp e
      cases h2
      have hc1 : IsCell S1 i := by rcases hk with rfl | rfl; exact ⟨c, .inl hS⟩; exact ⟨c, .inr hS⟩
      obtain ⟨a, o, c1, w1, w2, w3, w4, w5⟩ := R1.cell hc1
      have ec : c1 = c := by
        rcases hk with rfl | rfl <;> rcases w5 with w5 | w5 <;> (rw [hS] at w5; cases w5) <;> rfl
      subst ec
      rw [w1] at hv
      cases hv
      refine ⟨G1, a, o, c1, vs, ds, _, c', rfl, R1.sub, w2, w3, w4, kd, h1, fun v H2 G2 o' k1 k2 k3 k4 k5 k6 k7 => ?_⟩
      exact q v H2 G2 (R1.mut hk hS w1 w2 w3 k1 k2 k3 k4 k5 k6) (s1.trans k2) (R1.resM w1 hc1 k7)
    unfold callB at e
    split at e
    · exact main .own _ (.inl rfl) (by assumption) e
    · exact main .bor _ (.inr rfl) (by assumption) e
    · cases e
  · cases e
end
end PD

/-! PDStmt: statements, targets, loops, comprehensions as functions on slots. -/
namespace PD
open PySem PySem.Spec PyProof.Rows L2

inductive Out where
  | nx | bk | ct
  | rt (r : SV)
abbrev MS := M Out
def EndS (K : PySem.W.Frag) (Z : Fz) (S' : Slots) (G : Hp) (D : Ends) : Out → Prop
  | .nx => ∀ σ' H' G', RS K Z S' σ' H' G' → Same G G' → D.nx σ' H'
  | .bk => ∀ σ' H' G', RS K Z S' σ' H' G' → Same G G' → D.bk σ' H'
  | .ct => ∀ σ' H' G', RS K Z S' σ' H' G' → Same G G' → D.ct σ' H'
  | .rt r => ∀ v σ' H' G', RS K Z S' σ' H' G' → Same G G' → ResS K Z S' σ' H' G' v r → D.rt v H'
theorem EndS.back {K : PySem.W.Frag} {Z : Fz} {S' : Slots} {G G1 : Hp} {D : Ends} (s : Same G G1) : ∀ {o : Out}, EndS K Z S' G D o → EndS K Z S' G1 D o
  | .nx, h => fun σ' H' G' R s1 => h σ' H' G' R (s.trans s1)
  | .bk, h => fun σ' H' G' R s1 => h σ' H' G' R (s.trans s1)
  | .ct, h => fun σ' H' G' R s1 => h σ' H' G' R (s.trans s1)
  | .rt r, h => fun v σ' H' G' R s1 k => h v σ' H' G' R (s.trans s1) k
def tS (K : PySem.W.Frag) (m : MS) : TS := fun D σ H => ∃ Z S G o S', RS K Z S σ H G ∧ m S = some (o, S') ∧ EndS K Z S' G D o

/-! ### blocks -/
def sSkip : MS := mret .nx
def sSeq (a b : MS) : MS := bnd a fun o => match o with
  | .nx => b
  | o => mret o
section
variable {X : Cx} {st : Stmt} {rest body : List Stmt} {a b : MS} {e : Expr} {m : ME} {l : ML} {t : MT} {pos : Pos}
theorem dss_nil : PSs X [] (tS X.K sSkip) := PSs.imp pss_nil fun D σ H ⟨Z, S, G, o, S', R, e, q⟩ => by
  cases e
  exact q σ H G R (Same.refl _)
theorem dss_one (h : PS X st (tS X.K a)) : PSs X [st] (tS X.K a) := pss_one h
theorem dss_cons (h1 : PS X st (tS X.K a)) (h2 : PSs X rest (tS X.K b)) : PSs X (st :: rest) (tS X.K (sSeq a b)) := by
  refine PSs.imp (pss_cons h1 h2) fun D σ H ⟨Z, S, G, o, S', R, e, q⟩ => ?_
  obtain ⟨o1, S1, e1, e2⟩ := bnd_some e
  refine ⟨Z, S, G, o1, S1, R, e1, ?_⟩
  cases o1 with
  | nx => exact fun σ' H' G' R' s => ⟨Z, S1, G', o, S', R', e2, q.back s⟩
  | bk => cases e2; exact q
  | ct => cases e2; exact q
  | rt r => cases e2; exact q
/-- the code behind a statement that leaves for sure -/
theorem dss_stop {rest : List Stmt} (h1 : PS X st (tS X.K a)) (hn : ∀ S S', a S ≠ some (.nx, S')) : PSs X (st :: rest) (tS X.K a) := by
  refine PSs.imp (pss_cons h1 (pss_never (sts := rest))) fun D σ H ⟨Z, S, G, o, S', R, e, q⟩ => ?_
  refine ⟨Z, S, G, o, S', R, e, ?_⟩
  cases o with
  | nx => exact absurd e (hn _ _)
  | bk => exact q
  | ct => exact q
  | rt r => exact q

/-! ### small statements -/
theorem ds_pass : PS X (.Pass pos) (tS X.K sSkip) := PS.imp ps_pass fun D σ H ⟨Z, S, G, o, S', R, e, q⟩ => by
  cases e
  exact q σ H G R (Same.refl _)
theorem ds_break : PS X (.Break pos) (tS X.K (mret .bk)) := PS.imp ps_break fun D σ H ⟨Z, S, G, o, S', R, e, q⟩ => by
  cases e
  exact q σ H G R (Same.refl _)
theorem ds_continue : PS X (.Continue pos) (tS X.K (mret .ct)) := PS.imp ps_continue fun D σ H ⟨Z, S, G, o, S', R, e, q⟩ => by
  cases e
  exact q σ H G R (Same.refl _)
/-- a statement that is never reached -/
def sNever : MS := fun _ => none
theorem ds_never : PS X st (tS X.K sNever) := PS.imp ps_never fun D σ H ⟨Z, S, G, o, S', R, e, q⟩ => by cases e
theorem dss_never {sts : List Stmt} : PSs X sts (tS X.K sNever) := PSs.imp pss_never fun D σ H ⟨Z, S, G, o, S', R, e, q⟩ => by cases e
def sExpr (m : ME) : MS := bnd m fun _ => mret .nx
theorem ds_expr (he : PE X e (tM X.K m)) (hs : swapsWith e none pos.line X.env = pure false := by rfl) : PS X (.Expr e pos) (tS X.K (sExpr m)) := by
  refine PS.imp (ps_expr he hs) fun D σ H ⟨Z, S, G, o, S', R, e, q⟩ => ?_
  obtain ⟨d, S1, e1, e2⟩ := bnd_some e
  cases e2
  exact ⟨Z, S, G, d, _, R, e1, fun v H' G' R' s k => q σ H' G' R' s⟩
def sRetV (m : ME) : MS := bnd m fun d => mret (.rt (.val d))
def sRetL (l : ML) : MS := bnd l fun c => mret (.rt (.own c))
def sRetN : MS := mret (.rt (.val .none))
theorem ds_retV (he : PE X e (tM X.K m)) : PS X (.Return (some e) pos) (tS X.K (sRetV m)) := by
  refine PS.imp (ps_ret he) fun D σ H ⟨Z, S, G, o, S', R, e, q⟩ => ?_
  obtain ⟨d, S1, e1, e2⟩ := bnd_some e
  cases e2
  exact ⟨Z, S, G, d, _, R, e1, fun v H' G' R' s k => q v σ H' G' R' s k⟩
theorem ds_retL (he : PE X e (tL X.K l)) : PS X (.Return (some e) pos) (tS X.K (sRetL l)) := by
  refine PS.imp (ps_ret he) fun D σ H ⟨Z, S, G, o, S', R, e, q⟩ => ?_
  obtain ⟨d, S1, e1, e2⟩ := bnd_some e
  cases e2
  exact ⟨Z, S, G, d, _, R, e1, fun a H' G' R' s k => q _ σ H' G' R' s ⟨a, rfl, k⟩⟩
theorem ds_retN : PS X (.Return none pos) (tS X.K sRetN) := PS.imp ps_retN fun D σ H ⟨Z, S, G, o, S', R, e, q⟩ => by
  cases e
  exact q .non σ H G R (Same.refl _) .non
/-- whatever a call hands back -/
def sRetS (m : M SV) : MS := bnd m fun r => mret (.rt r)
theorem ds_retS {m : M SV} (he : PE X e (tSV X.K m)) : PS X (.Return (some e) pos) (tS X.K (sRetS m)) := by
  refine PS.imp (ps_ret he) fun D σ H ⟨Z, S, G, o, S', R, e, q⟩ => ?_
  obtain ⟨d, S1, e1, e2⟩ := bnd_some e
  cases e2
  exact ⟨Z, S, G, d, _, R, e1, fun v H' G' R' s k => q v σ H' G' R' s k⟩
/-- an own cell handed on -/
def lTake (i : Nat) : ML := fun S => match S[i]? with
  | some (some (.own c)) => some (c, S.set i none)
  | _ => none
theorem dl_take {i : Nat} {x : Str} (hN : X.N[i]? = some x) (hv : Vis X.env.scope x) (hd : (x == ("__debug__" : Str)) = false := by decide) (hcd : (x == ("__classdict__" : Str)) = false := by decide) : PE X (.Name x pos) (tL X.K (lTake i)) := by
  refine PE.imp (pe_var hN hv hd hcd) fun σ H Q ⟨Z, S, G, c, S', R, e, q⟩ => ?_
  unfold lTake at e
  split at e
  · rename_i c' hs
    cases e
    obtain ⟨a, o, h1, h2, h3, h4, h5⟩ := R.owns i _ hs
    exact ⟨_, h1, q a H G (R.drop1 i) (Same.refl _) ⟨⟨o, h2, h5⟩, h3, h4, dropcell R ⟨_, .inl hs⟩ h1⟩⟩
  · cases e
def sIf (t : MT) (a b : MS) : MS := bnd t fun x => if x = true then a else b
theorem ds_if {c : Expr} {p r : List Stmt} (hc : PT X c (tT X.K t)) (ha : PSs X p (tS X.K a)) (hb : PSs X r (tS X.K b)) : PS X (.If c p r pos) (tS X.K (sIf t a b)) := by
  refine PS.imp (ps_if hc ha hb) fun D σ H ⟨Z, S, G, o, S', R, e, q⟩ => ?_
  obtain ⟨x, S1, e1, e2⟩ := bnd_some e
  refine ⟨Z, S, G, x, S1, R, e1, fun H1 G1 R1 s1 => ?_⟩
  cases x with
  | true => rw [if_pos rfl]; exact ⟨Z, S1, G1, o, S', R1, e2, q.back s1⟩
  | false => rw [if_neg Bool.false_ne_true]; exact ⟨Z, S1, G1, o, S', R1, e2, q.back s1⟩

/-! ### name = e -/
def sSetV (i : Nat) (m : ME) : MS := bnd m fun d S => some (.nx, S.set i (some (.val d)))
def sSetL (i : Nat) (l : ML) : MS := bnd l fun c S => some (.nx, S.set i (some (.own c)))
theorem tsetV {i : Nat} {te : TE} {K : PySem.W.Frag} (w : ∀ σ H Q, tM K m σ H Q → te σ H Q) : ∀ D σ H, tS K (sSetV i m) D σ H → tAsg te (gName i) D σ H := fun D σ H ⟨Z, S, G, o, S', R, e, q⟩ => by
  obtain ⟨d, S1, e1, e2⟩ := bnd_some e
  cases e2
  exact w σ H _ ⟨Z, S, G, d, _, R, e1, fun v H' G' R' s k => q _ H' G' (R'.set k) s⟩
theorem tsetL {i : Nat} {te : TE} {K : PySem.W.Frag} (w : ∀ σ H Q, tL K l σ H Q → te σ H Q) : ∀ D σ H, tS K (sSetL i l) D σ H → tAsg te (gName i) D σ H := fun D σ H ⟨Z, S, G, o, S', R, e, q⟩ => by
  obtain ⟨d, S1, e1, e2⟩ := bnd_some e
  cases e2
  exact w σ H _ ⟨Z, S, G, d, _, R, e1, fun v H' G' R' s k => q _ H' G' (R'.setOwn k) s⟩
theorem ds_setV {i : Nat} {x : Str} {pos' : Pos} (hN : X.N.Nodup) (hi : X.N[i]? = some x) (hx : Loc X.env.scope x) (he : PE X e (tM X.K m)) (hs : swapsWith e (some (.Name x pos')) pos.line X.env = pure false := by rfl) (hf : X.fn x = true ∨ X.env.scope.names.lookup x = some .local := by first | exact .inl rfl | exact .inr rfl | assumption) :
    PS X (.Assign [.Name x pos'] e pos) (tS X.K (sSetV i m)) := PS.imp (ps_set hN hi hx he hs hf) (tsetV fun _ _ _ h => h)
theorem ds_setL {i : Nat} {x : Str} {pos' : Pos} (hN : X.N.Nodup) (hi : X.N[i]? = some x) (hx : Loc X.env.scope x) (he : PE X e (tL X.K l)) (hs : swapsWith e (some (.Name x pos')) pos.line X.env = pure false := by rfl) (hf : X.fn x = true ∨ X.env.scope.names.lookup x = some .local := by first | exact .inl rfl | exact .inr rfl | assumption) :
    PS X (.Assign [.Name x pos'] e pos) (tS X.K (sSetL i l)) := PS.imp (ps_set hN hi hx he hs hf) (tsetL fun _ _ _ h => h)
/-- name = f(..): what the call hands back, a cell of its own or a plain value -/
def setSV (i : Nat) : SV → MS
  | .val d => fun S => some (.nx, S.set i (some (.val d)))
  | .own c => fun S => some (.nx, S.set i (some (.own c)))
  | .bor _ => fun _ => none
def sSetS (i : Nat) (m : M SV) : MS := bnd m fun r => setSV i r
theorem ds_setS {i : Nat} {x : Str} {pos' : Pos} {m : M SV} (hN : X.N.Nodup) (hi : X.N[i]? = some x) (hx : Loc X.env.scope x) (he : PE X e (tSV X.K m)) (hs : swapsWith e (some (.Name x pos')) pos.line X.env = pure false := by rfl) (hf : X.fn x = true ∨ X.env.scope.names.lookup x = some .local := by first | exact .inl rfl | exact .inr rfl | assumption) :
    PS X (.Assign [.Name x pos'] e pos) (tS X.K (sSetS i m)) := by
  refine PS.imp (ps_set hN hi hx he hs hf) fun D σ H ⟨Z, S, G, o, S', R, e, q⟩ => ?_
  obtain ⟨d, S1, e1, e2⟩ := bnd_some e
  refine ⟨Z, S, G, d, S1, R, e1, fun v H' G' R' s k => ?_⟩
  cases d with
  | val d => cases e2; exact q _ H' G' (R'.set k) s
  | own c => cases e2; obtain ⟨a, rfl, f⟩ := k; exact q _ H' G' (R'.setOwn f) s
  | bor c => exact k.elim

/-! ### targets -/
abbrev MG := D → Slots → Option Slots
abbrev MGs := List D → Slots → Option Slots
def tG (K : PySem.W.Frag) (is : List Nat) (g : MG) : TG := fun v σ H Q => ∃ Z S G d S', RS K Z S σ H G ∧ Dp K G v d ∧ g d S = some S' ∧ ∀ σ' H' G', RS K Z S' σ' H' G' → Same G G' → (∀ vs : List Nat, (∀ i ∈ is, i ∈ vs) → wipe σ' vs = wipe σ vs) → Q σ' H'
def tGs (K : PySem.W.Frag) (is : List Nat) (g : MGs) : TGs := fun vs σ H Q => ∃ Z S G ds S', RS K Z S σ H G ∧ DpAll K G vs ds ∧ g ds S = some S' ∧ ∀ σ' H' G', RS K Z S' σ' H' G' → Same G G' → (∀ vs : List Nat, (∀ i ∈ is, i ∈ vs) → wipe σ' vs = wipe σ vs) → Q σ' H'
theorem wipe_set {σ : St} {i : Nat} {v : Option V} : ∀ {vs : List Nat}, i ∈ vs → wipe (σ.set i v) vs = wipe σ vs
  | w :: vs, h => by
    unfold wipe
    by_cases e : i = w
    · subst e
      by_cases hm : i ∈ vs
      · rw [wipe_set hm]
      · have : ∀ (vs : List Nat) (σ : St), i ∉ vs → wipe (σ.set i v) vs = (wipe σ vs).set i v := by
          intro vs
          induction vs with
          | nil => intro σ _; rfl
          | cons u vs ih =>
            intro σ hu
            unfold wipe
            rw [ih σ (fun z => hu (List.mem_cons_of_mem _ z)), List.set_comm _ _ (fun z => hu (by rw [z]; exact List.mem_cons_self))]
        rw [this vs σ hm, List.set_set]
    · rcases List.mem_cons.mp h with z | z
      · exact absurd z e
      · rw [wipe_set z]
def gN (i : Nat) : MG := fun d S => some (S.set i (some (.val d)))
theorem dg_name {i : Nat} {x : Str} (hN : X.N.Nodup) (hi : X.N[i]? = some x) (hx : Loc X.env.scope x) (hf : X.fn x = true ∨ X.env.scope.names.lookup x = some .local := by first | exact .inl rfl | exact .inr rfl | assumption) : PG X (.Name x pos) (tG X.K [i] (gN i)) := by
  refine PG.imp (pg_name hN hi hx hf) fun v σ H Q ⟨Z, S, G, d, S', R, k, e, q⟩ => ?_
  cases e
  exact q _ H G (R.set k) (Same.refl _) fun vs h => wipe_set (h i (by simp))
def gsNil : MGs := fun ds S => match ds with
  | [] => some S
  | _ => none
def gsCons (g : MG) (gs : MGs) : MGs := fun ds S => match ds with
  | d :: ds => (g d S).bind fun S1 => gs ds S1
  | [] => none
theorem dgs_nil : PGs X [] (tGs X.K [] gsNil) := ⟨fun pins s σ H vs us Q I r ⟨Z, S, G, ds, S', R, k, e, q⟩ => by
  unfold gsNil at e
  split at e
  · cases e
    cases k
    exact (pgs_nil (X := X)).run pins s σ H [] us Q I r ⟨rfl, q σ H G R (Same.refl _) fun _ _ => rfl⟩
  · cases e⟩
theorem dgs_cons {tg : Expr} {es : List Expr} {g : MG} {gs : MGs} {is js : List Nat} (h1 : PG X tg (tG X.K is g)) (h2 : PGs X es (tGs X.K js gs)) (hs : (assignEach (tg :: es) X.env).map (·.2) = assign tg X.env :: (assignEach es X.env).map (·.2) := by rfl) :
    PGs X (tg :: es) (tGs X.K (is ++ js) (gsCons g gs)) := ⟨fun pins s σ H vs us Q I r ⟨Z, S, G, ds, S', R, k, e, q⟩ => by
  unfold gsCons at e
  split at e
  · rename_i d ds
    obtain ⟨S1, e1, e2⟩ := Option.bind_eq_some_iff.mp e
    cases k with
    | cons k1 k2 =>
      refine (pgs_cons h1 h2 hs).run pins s σ H _ us Q I r ⟨_, _, rfl, Z, S, G, d, S1, R, k1, e1, fun σ1 H1 G1 R1 s1 w1 => ⟨Z, S1, G1, ds, S', R1, dpAll_mono s1 k2, e2, fun σ2 H2 G2 R2 s2 w2 => q σ2 H2 G2 R2 (s1.trans s2) fun vs h => ?_⟩⟩
      rw [w2 vs fun i hi => h i (List.mem_append_right _ hi), w1 vs fun i hi => h i (List.mem_append_left _ hi)]
  · cases e⟩
def gT (n : Nat) (gs : MGs) : MG := fun d S => match d with
  | .tuple ds => if ds.length = n then gs ds S else none
  | _ => none
theorem dg_tup {es : List Expr} {k : Nat} {n : Nat} {gs : MGs} {is : List Nat} (hc : X.calm = true) (h : PGs X es (tGs X.K is gs)) (hn : (assignEach es X.env).length = n := by rfl) (hst : (assignEach es X.env).findIdx? (·.1) = none := by rfl) :
    PG X (.Tuple es k pos) (tG X.K is (gT n gs)) := by
  refine PG.imp (pg_tup hc h hn hst) fun v σ H Q ⟨Z, S, G, d, S', R, kd, e, q⟩ => ?_
  unfold gT at e
  split at e
  · split at e
    · rename_i hl
      cases kd with
      | tup hs ha => exact ⟨_, _, rfl, same_sqt R.sub hs, by rw [ha.len]; exact hl, Z, S, G, _, S', R, ha, e, q⟩
    · cases e
  · cases e
/-- x[i] = .., x a name of an own list -/
def ixS (j : Nat) (d : D) (p : D × Slots) : Option Slots := match p.1, p.2[j]? with
  | .int k, some (some (.own (.lst ds))) => (ixN ds.length k).map fun n => p.2.set j (some (.own (.lst (ds.set n d))))
  | .int k, some (some (.bor (.lst ds))) => (ixN ds.length k).map fun n => p.2.set j (some (.bor (.lst (ds.set n d))))
  | _, _ => none
def gIx (j : Nat) (i : ME) : MG := fun d S => match S[j]? with
  | some (some _) => (i S).bind (ixS j d)
  | _ => none
theorem dg_ix {j : Nat} {x : Str} {px : Pos} {i : Expr} (hN : X.N[j]? = some x) (hv : Vis X.env.scope x) (hi : PE X i (tM X.K m)) (hd : (x == ("__debug__" : Str)) = false := by decide) (hcd : (x == ("__classdict__" : Str)) = false := by decide)
    (ha : ∀ v, assign (.Subscript (.Name x px) i pos) X.env v = (do
      let ov ← holding [v] (eval (.Name x px) X.env)
      let iv ← holding [v, ov] (eval i X.env)
      standAt pos
      holding [v, ov, iv] (setItem ov iv v)
      release [v, ov, iv] []) := by intro _; rfl) : PG X (.Subscript (.Name x px) i pos) (tG X.K [] (gIx j m)) := by
  refine PG.imp (pg_sub (pe_var hN hv hd hcd) hi set_list ha) fun v σ H Q ⟨Z, S, G, d, S', R, kd, e, q⟩ => ?_
  unfold gIx at e
  split at e
  · rename_i c0 hS0
    obtain ⟨w, hw⟩ := R.assigned hS0
    obtain ⟨⟨z, S1⟩, e1, e2⟩ := Option.bind_eq_some_iff.mp e
    have go : ∀ (k : Cel → SV) (ds : List D) (n : Nat) (kk : Int), (k = .own ∨ k = .bor) → z = .int kk → S1[j]? = some (some (k (.lst ds))) → ixN ds.length kk = some n → S' = S1.set j (some (k (.lst (ds.set n d)))) → gSub (tVar j) (tM X.K m) rSetL v σ H Q := fun k ds n kk hk hz hS hn hS' => by
      subst hz hS'
      refine ⟨w, hw, Z, S, G, _, S1, R, e1, fun iv H1 G1 R1 s1 ki => ?_⟩
      cases ki
      have hc1 : IsCell S1 j := by rcases hk with rfl | rfl; exact ⟨_, .inl hS⟩; exact ⟨_, .inr hS⟩
      obtain ⟨a, o, c1, w1, w2, w3, w4, w5⟩ := R1.cell hc1
      have ec : c1 = .lst ds := by
        rcases hk with rfl | rfl <;> rcases w5 with w5 | w5 <;> (rw [hS] at w5; cases w5) <;> rfl
      subst ec
      rw [hw] at w1
      cases w1
      obtain ⟨vs, rfl, h6⟩ := w4.list
      refine ⟨a, vs, kk, n, rfl, rfl, w2, by rw [h6.len]; exact hn, ?_⟩
      exact q σ _ G1 (R1.upd hk hS hw (DpAll.set (dp_mono s1 kd) n h6)) s1 fun _ _ => rfl
    unfold ixS at e2
    split at e2
    · obtain ⟨n, h1, h2⟩ := Option.map_eq_some_iff.mp e2
      exact go .own _ n _ (.inl rfl) (by assumption) (by assumption) h1 h2.symm
    · obtain ⟨n, h1, h2⟩ := Option.map_eq_some_iff.mp e2
      exact go .bor _ n _ (.inr rfl) (by assumption) (by assumption) h1 h2.symm
    · cases e2
  · cases e
/-- target = e -/
def sAsg (g : MG) (m : ME) : MS := bnd m fun d S => (g d S).map fun S' => (.nx, S')
theorem ds_asg {tg : Expr} {g : MG} {is : List Nat} (he : PE X e (tM X.K m)) (hg : PG X tg (tG X.K is g)) (hs : swapsWithSole [tg] e pos.line X.env = pure false := by rfl) (hw : swappedStores [tg] e X.env = pure none := by rfl)
    (h1 : (assignEach [tg] X.env).map (·.2) = [assign tg X.env] := by rfl) : PS X (.Assign [tg] e pos) (tS X.K (sAsg g m)) := by
  refine PS.imp (ps_asg he hg hs hw h1) fun D σ H ⟨Z, S, G, o, S', R, e, q⟩ => ?_
  obtain ⟨d, S1, e1, e2⟩ := bnd_some e
  obtain ⟨S2, e3, e4⟩ := Option.map_eq_some_iff.mp e2
  cases e4
  exact ⟨Z, S, G, d, S1, R, e1, fun v H1 G1 R1 s1 k => ⟨Z, S1, G1, d, _, R1, k, e3, fun σ2 H2 G2 R2 s2 _ => q σ2 H2 G2 R2 (s1.trans s2)⟩⟩
end
end PD

/-! PDLoop: parallel stores, op=, while, for, comprehensions. -/
namespace PD
open PySem PySem.Spec PyProof.Rows L2
section
variable {X : Cx} {st : Stmt} {rest body : List Stmt} {a b : MS} {e : Expr} {m : ME} {l : ML} {t : MT} {as : MA} {pos : Pos}

/-! ### a, b = x, y -/
def sPar (i j : Nat) (as : MA) : MS := bnd as fun ds S => match ds with
  | [d, e] => some (.nx, (S.set i (some (.val d))).set j (some (.val e)))
  | _ => none
def sPar3 (i j k : Nat) (as : MA) : MS := bnd as fun ds S => match ds with
  | [d, e, f] => some (.nx, ((S.set i (some (.val d))).set j (some (.val e))).set k (some (.val f)))
  | _ => none
theorem ds_par {i j : Nat} {x y : Str} {a b : Expr} {px py pt : Pos} {kt k2 pt2} (hc : X.calm = true) (hN : X.N.Nodup) (hi : X.N[i]? = some x) (hj : X.N[j]? = some y) (hij : i ≠ j)
    (hx : X.env.scope.names.lookup x = some .local) (hy : X.env.scope.names.lookup y = some .local) (ha : PA X [a, b] (tA X.K as))
    (hw : swappedStores [.Tuple [.Name x px, .Name y py] kt pt] (.Tuple [a, b] k2 pt2) X.env = pure (some [x, y]) := by rfl)
    (hs : swapsWithSole [.Tuple [.Name x px, .Name y py] kt pt] (.Tuple [a, b] k2 pt2) pos.line X.env = pure false := by rfl) :
    PS X (.Assign [.Tuple [.Name x px, .Name y py] kt pt] (.Tuple [a, b] k2 pt2) pos) (tS X.K (sPar i j as)) := by
  refine PS.imp (ps_par hc hN hi hj hij hx hy ha hw hs) fun D σ H ⟨Z, S, G, o, S', R, e, q⟩ => ?_
  obtain ⟨ds, S1, e1, e2⟩ := bnd_some e
  split at e2
  · cases e2
    refine ⟨Z, S, G, _, S1, R, e1, fun vs H1 G1 R1 s1 k => ?_⟩
    cases k with
    | cons k1 k => cases k with
      | cons k2 k => cases k; exact ⟨_, _, rfl, q _ H1 G1 ((R1.set k1).set k2) s1⟩
  · cases e2
theorem ds_par3 {i j k : Nat} {x y z : Str} {a b c : Expr} {px py pz pt : Pos} {kt k2 pt2} (h : PS X (.Assign [.Tuple [.Name x px, .Name y py, .Name z pz] kt pt] (.Tuple [a, b, c] k2 pt2) pos) (tPar3 i j k (tA X.K as))) :
    PS X (.Assign [.Tuple [.Name x px, .Name y py, .Name z pz] kt pt] (.Tuple [a, b, c] k2 pt2) pos) (tS X.K (sPar3 i j k as)) := by
  refine PS.imp h fun D σ H ⟨Z, S, G, o, S', R, e, q⟩ => ?_
  obtain ⟨ds, S1, e1, e2⟩ := bnd_some e
  split at e2
  · cases e2
    refine ⟨Z, S, G, _, S1, R, e1, fun vs H1 G1 R1 s1 k => ?_⟩
    cases k with
    | cons k1 k => cases k with
      | cons k2 k => cases k with
        | cons k3 k => cases k; exact ⟨_, _, _, rfl, q _ H1 G1 (((R1.set k1).set k2).set k3) s1⟩
  · cases e2
/-- xs, b = [..], y: a new list of its own, then a value -/
def sParL (i j : Nat) (l : ML) (m : ME) : MS := bnd l fun c => bnd m fun d S => some (.nx, (S.set i (some (.own c))).set j (some (.val d)))
theorem ds_parL {i j : Nat} {x y : Str} {a b : Expr} {px py pt : Pos} {kt k2 pt2} (hc : X.calm = true) (hN : X.N.Nodup) (hi : X.N[i]? = some x) (hj : X.N[j]? = some y) (hij : i ≠ j)
    (hx : X.env.scope.names.lookup x = some .local) (hy : X.env.scope.names.lookup y = some .local) (ha : PE X a (tL X.K l)) (hb : PE X b (tM X.K m))
    (hs1 : starEach [a, b] X.env = (false, eval a X.env) :: starEach [b] X.env := by rfl) (hs2 : starEach [b] X.env = (false, eval b X.env) :: starEach [] X.env := by rfl)
    (hw : swappedStores [.Tuple [.Name x px, .Name y py] kt pt] (.Tuple [a, b] k2 pt2) X.env = pure (some [x, y]) := by rfl)
    (hs : swapsWithSole [.Tuple [.Name x px, .Name y py] kt pt] (.Tuple [a, b] k2 pt2) pos.line X.env = pure false := by rfl) :
    PS X (.Assign [.Tuple [.Name x px, .Name y py] kt pt] (.Tuple [a, b] k2 pt2) pos) (tS X.K (sParL i j l m)) := by
  refine PS.imp (ps_par hc hN hi hj hij hx hy (pa_cons ha (pa_cons hb pa_nil hs2) hs1) hw hs) fun D σ H ⟨Z, S, G, o, S', R, e, q⟩ => ?_
  obtain ⟨c, S1, e1, e2⟩ := bnd_some e
  obtain ⟨d, S2, e3, e4⟩ := bnd_some e2
  cases e4
  refine ⟨Z, S, G, c, S1, R, e1, fun a H1 G1 R1 s1 f => ⟨_, S1, G1, d, S2, R1.now, e3, fun v H2 G2 R2 s2 k => ⟨_, _, rfl, ?_⟩⟩⟩
  obtain ⟨o, h1, h2⟩ := f.at_
  obtain ⟨k1, k2⟩ := R1.kept R2 h1 f.gn f.sep
  have R3 := R1.back R2
  have sepB : ∀ (i : Nat), IsCell S2 i → σ[i]? ≠ some (some (V.ref a)) := fun n hn en => by
    obtain ⟨c', hc' | hc'⟩ := hn
    · obtain ⟨a', _, w1, _, _, w4, _⟩ := R2.owns n c' hc'
      rw [en] at w1; cases w1
      rcases w4 with w4 | ⟨i', c2, w5, w6⟩
      · rw [show (Fz.now S1 σ H1 G1).H0 a = H1 a from rfl, h1] at w4; cases w4
      · exact f.sep i' ⟨c2, .inl w5⟩ w6
    · obtain ⟨a', _, w1, _, _, w4, _⟩ := R2.bors n c' hc'
      rw [en] at w1; cases w1
      obtain ⟨i', c2, w5, w6⟩ := w4
      exact f.sep i' ⟨c2, .inr w5⟩ w6
  have R4 := R3.setOwn (i := i) (c := c) ⟨⟨o, k1, h2.mono s2⟩, k2, f.new, sepB⟩
  exact q _ H2 G2 (R4.set k) (s1.trans s2)

/-- x, y = [..], e through a pair of the heap -/
theorem ds_tupL {i j : Nat} {x y : Str} {a b : Expr} {px py pt : Pos} {kt k2 pt2} (hc : X.calm = true) (hN : X.N.Nodup) (hi : X.N[i]? = some x) (hj : X.N[j]? = some y) (hij : i ≠ j)
    (hx : Loc X.env.scope x) (hy : Loc X.env.scope y) (hfx : X.fn x = true ∨ X.env.scope.names.lookup x = some .local) (hfy : X.fn y = true ∨ X.env.scope.names.lookup y = some .local) (ha : PE X a (tL X.K l)) (hb : PE X b (tM X.K m))
    (hs1 : starEach [a, b] X.env = (false, eval a X.env) :: starEach [b] X.env := by rfl) (hs2 : starEach [b] X.env = (false, eval b X.env) :: starEach [] X.env := by rfl)
    (hg1 : (assignEach [.Name x px, .Name y py] X.env).map (·.2) = assign (.Name x px) X.env :: (assignEach [.Name y py] X.env).map (·.2) := by rfl) (hg2 : (assignEach [.Name y py] X.env).map (·.2) = assign (.Name y py) X.env :: (assignEach [] X.env).map (·.2) := by rfl)
    (hn : (assignEach [.Name x px, .Name y py] X.env).length = 2 := by rfl) (hst : (assignEach [.Name x px, .Name y py] X.env).findIdx? (·.1) = none := by rfl)
    (hs : swapsWithSole [.Tuple [.Name x px, .Name y py] kt pt] (.Tuple [a, b] k2 pt2) pos.line X.env = pure false := by rfl) (hw : swappedStores [.Tuple [.Name x px, .Name y py] kt pt] (.Tuple [a, b] k2 pt2) X.env = pure none := by rfl)
    (h1 : (assignEach [.Tuple [.Name x px, .Name y py] kt pt] X.env).map (·.2) = [assign (.Tuple [.Name x px, .Name y py] kt pt) X.env] := by rfl) :
    PS X (.Assign [.Tuple [.Name x px, .Name y py] kt pt] (.Tuple [a, b] k2 pt2) pos) (tS X.K (sParL i j l m)) := by
  refine PS.imp (ps_asg (pe_tup (pa_cons ha (pa_cons hb pa_nil hs2) hs1)) (pg_tup hc (pgs_cons (pg_name hN hi hx hfx) (pgs_cons (pg_name hN hj hy hfy) pgs_nil hg2) hg1) hn hst) hs hw h1) fun D σ H ⟨Z, S, G, o, S', R, e, q⟩ => ?_
  obtain ⟨c, S1, e1, e2⟩ := bnd_some e
  obtain ⟨d, S2, e3, e4⟩ := bnd_some e2
  cases e4
  refine ⟨Z, S, G, c, S1, R, e1, fun a H1 G1 R1 s1 f => ⟨_, S1, G1, d, S2, R1.now, e3, fun v H2 G2 R2 s2 k => ⟨(by show 2 ≤ sizeLine; decide), fun p hp => ⟨p, _, rfl, .inl (.inl upd_same), rfl, _, _, rfl, _, _, rfl, rfl, ?_⟩⟩⟩⟩
  obtain ⟨o, h1, h2⟩ := f.at_
  obtain ⟨k1, k2⟩ := R1.kept R2 h1 f.gn f.sep
  have R3 := R1.back R2
  have sepB : ∀ (i : Nat), IsCell S2 i → σ[i]? ≠ some (some (V.ref a)) := fun n hn en => by
    obtain ⟨c', hc' | hc'⟩ := hn
    · obtain ⟨a', _, w1, _, _, w4, _⟩ := R2.owns n c' hc'
      rw [en] at w1; cases w1
      rcases w4 with w4 | ⟨i', c2, w5, w6⟩
      · rw [show (Fz.now S1 σ H1 G1).H0 a = H1 a from rfl, h1] at w4; cases w4
      · exact f.sep i' ⟨c2, .inl w5⟩ w6
    · obtain ⟨a', _, w1, _, _, w4, _⟩ := R2.bors n c' hc'
      rw [en] at w1; cases w1
      obtain ⟨i', c2, w5, w6⟩ := w4
      exact f.sep i' ⟨c2, .inr w5⟩ w6
  have R4 := R3.setOwn (i := i) (c := c) ⟨⟨o, k1, h2.mono s2⟩, k2, f.new, sepB⟩
  have R5 := R4.set (i := j) k
  exact q _ _ G2 (R5.gr (Gr.newH R5.sub hp)) (s1.trans s2)
/-! ### name op= e -/
def sAug (f : D → D → Option D) (i : Nat) (m : MO) : MS := bnd (eBin f (oName i) m) fun d S => some (.nx, S.set i (some (.val d)))
theorem ds_aug {i : Nat} {x : Str} {op : Operator} {r : R2} {f : D → D → Option D} {pos' : Pos} {mo : MO} (hN : X.N.Nodup) (hi : X.N[i]? = some x) (hx : Loc X.env.scope x) (he : PE X e (tO X.K mo)) (ho : OpR X (inplaceOp op) r) (ad : Ad2 X.K r f)
    (hf : X.fn x = true ∨ X.env.scope.names.lookup x = some .local := by first | exact .inl rfl | exact .inr rfl | assumption) : PS X (.AugAssign (.Name x pos') op e pos) (tS X.K (sAug f i mo)) := by
  refine PS.imp (ps_aug (ti := r) hN hi hx he ho hf) fun D σ H ⟨Z, S, G, o, S', R, e, q⟩ => ?_
  obtain ⟨d, S3, e1, e5⟩ := bnd_some e
  cases e5
  obtain ⟨x1, S1, e2, e3⟩ := bnd_some e1
  obtain ⟨y, S2, e4, e6⟩ := bnd_some e3
  obtain ⟨rfl, d1, d2, h1, h2, h3⟩ := op2_some e6
  unfold oName at e2
  split at e2
  · rename_i c hs
    cases e2
    obtain ⟨v, hv⟩ := R.assigned hs
    refine ⟨v, hv, Z, S, G, y, _, R, e4, fun u H1 G1 R1 s1 k => ?_⟩
    exact ad G1 H1 v u d1 d2 d _ R1.sub (rs_ok (v := v) (r := .s i) R1 hv h1) (rs_ok R1 k h2) h3 fun w H3 G3 g kd => q _ H3 G3 ((R1.gr g).set kd) (s1.trans g.g)
  · cases e2

/-! ### while -/
def whileN : Nat → MT → MS → MS
  | 0, _, _ => fun _ => none
  | n + 1, c, b => bnd c fun t => if t = true then (bnd b fun o => match o with
    | .nx => whileN n c b
    | .ct => whileN n c b
    | .bk => mret .nx
    | .rt r => mret (.rt r)) else mret .nx
theorem ds_while {n : Nat} {c : Expr} (hp : PassesOwn (model X.prog X.w) X.A X.env X.xe) (hc : PT X c (tT X.K t)) (hb : PSs X body (tS X.K b)) : PS X (.While c body [] pos) (tS X.K (whileN n t b)) := by
  refine PS.imp (ps_while hp hc hb) fun D σ H ⟨Z, S, G, o, S', R, e, q⟩ => ?_
  refine ⟨fun n σ H => ∃ S1 G1, RS X.K Z S1 σ H G1 ∧ Same G G1 ∧ whileN n t b S1 = some (o, S'), ⟨n, S, G, R, Same.refl _, e⟩, ?_⟩
  rintro n σ H ⟨S1, G1, R1, s1, e1⟩
  cases n with
  | zero => cases e1
  | succ n =>
    obtain ⟨x, S2, e2, e3⟩ := bnd_some e1
    refine ⟨Z, S1, G1, x, S2, R1, e2, fun H2 G2 R2 s2 => ?_⟩
    cases x with
    | false =>
      cases e3
      rw [if_neg Bool.false_ne_true]
      exact q σ H2 G2 R2 (s1.trans s2)
    | true =>
      rw [if_pos rfl] at e3 ⊢
      obtain ⟨o3, S3, e4, e5⟩ := bnd_some e3
      refine ⟨fun σ' H' => ∃ S1 G1, RS X.K Z S1 σ' H' G1 ∧ Same G G1 ∧ whileN n t b S1 = some (o, S'), fun σ' H' h => ⟨n, Nat.lt_succ_self _, h⟩, Z, S2, G2, o3, S3, R2, e4, ?_⟩
      cases o3 with
      | nx => exact fun σ' H' G' R' s' => ⟨S3, G', R', s1.trans (s2.trans s'), e5⟩
      | ct => exact fun σ' H' G' R' s' => ⟨S3, G', R', s1.trans (s2.trans s'), e5⟩
      | bk => cases e5; exact fun σ' H' G' R' s' => q σ' H' G' R' (s1.trans (s2.trans s'))
      | rt r => cases e5; exact fun v σ' H' G' R' s' k => q v σ' H' G' R' (s1.trans (s2.trans s')) k

/-! ### what is walked -/
def Walks (K : PySem.W.Frag) (G : Hp) (J : It) (ds : List D) : Prop := ∀ G1 H1 (i : Nat), Same G G1 → Same G1 H1 →
  (∀ d, ds[i]? = some d → J.go i H1 ∧ ∀ x H', J.yld i H1 x H' → ∃ G', Gr G1 H1 G' H' ∧ Dp K G' x d) ∧ (ds.length ≤ i → J.stop i H1)
def tI (K : PySem.W.Frag) (m : MA) : TI := fun σ H R => ∃ Z S G ds S', RS K Z S σ H G ∧ m S = some (ds, S') ∧ ∀ J H' G', RS K Z S' σ H' G' → Same G G' → Walks K G' J ds → R J H'
def forL (g : MG) (b : MS) : List D → MS
  | [] => mret .nx
  | d :: ds => fun S => (g d S).bind fun S1 => (bnd b fun o => match o with
    | .nx => forL g b ds
    | .ct => forL g b ds
    | .bk => mret .nx
    | .rt r => mret (.rt r)) S1
def sFor (it : MA) (g : MG) (b : MS) : MS := bnd it fun ds => forL g b ds
theorem ds_for {tg iter : Expr} {it : MA} {g : MG} {is : List Nat} (hp : PassesOwn (model X.prog X.w) X.A X.env X.xe) (hc : X.calm = true) (hi : PI X tg iter (tI X.K it)) (hg : PG X tg (tG X.K is g)) (hb : PSs X body (tS X.K b))
    (hs : ∀ x, foldedSetIterable iter X.env x = pure x := by intro _; rfl) : PS X (.For tg iter body [] pos) (tS X.K (sFor it g b)) := by
  refine PS.imp (ps_for hp hc hi hg hb hs) fun D σ H ⟨Z, S, G, o, S', R, e, q⟩ => ?_
  obtain ⟨ds, S1, e1, e2⟩ := bnd_some e
  refine ⟨Z, S, G, ds, S1, R, e1, fun J H1 G1 R1 s1 w => ?_⟩
  refine ⟨fun i m σ H => ∃ S2 G2, RS X.K Z S2 σ H G2 ∧ Same G1 G2 ∧ i ≤ ds.length ∧ m = ds.length - i ∧ forL g b (ds.drop i) S2 = some (o, S'), ⟨_, S1, G1, R1, Same.refl _, Nat.zero_le _, rfl, by rw [List.drop_zero]; exact e2⟩, ?_⟩
  rintro i m σ H ⟨S2, G2, R2, s2, hi, rfl, e3⟩
  obtain ⟨w1, w2⟩ := w G2 H i s2 R2.sub
  by_cases hl : i < ds.length
  · obtain ⟨go, yl⟩ := w1 ds[i] (List.getElem?_eq_getElem hl)
    rw [List.drop_eq_getElem_cons hl] at e3
    obtain ⟨S3, e4, e5⟩ := Option.bind_eq_some_iff.mp e3
    obtain ⟨o4, S4, e6, e7⟩ := bnd_some e5
    refine .inr ⟨go, fun σ' H' => ∃ S2 G2, RS X.K Z S2 σ' H' G2 ∧ Same G1 G2 ∧ forL g b (ds.drop (i + 1)) S2 = some (o, S'), fun σ' H' ⟨S5, G5, R5, s5, e8⟩ => ⟨ds.length - (i + 1), by omega, S5, G5, R5, s5, hl, rfl, e8⟩, fun x H' y => ?_⟩
    obtain ⟨G3, gr, kd⟩ := yl x H' y
    refine ⟨Z, S2, G3, ds[i], S3, R2.gr gr, kd, e4, fun σ4 H4 G4 R4 s4 _ => ⟨Z, S3, G4, o4, S4, R4, e6, ?_⟩⟩
    have ss : Same G1 G4 := s2.trans (gr.g.trans s4)
    cases o4 with
    | nx => exact fun σ' H' G' R' s' => ⟨S4, G', R', ss.trans s', e7⟩
    | ct => exact fun σ' H' G' R' s' => ⟨S4, G', R', ss.trans s', e7⟩
    | bk => cases e7; exact fun σ' H' G' R' s' => q σ' H' G' R' (s1.trans (ss.trans s'))
    | rt r => cases e7; exact fun v σ' H' G' R' s' k => q v σ' H' G' R' (s1.trans (ss.trans s')) k
  · refine .inl ⟨w2 (by omega), ?_⟩
    rw [List.drop_eq_nil_of_le (by omega)] at e3
    cases e3
    exact q σ H G2 R2 (s1.trans s2)

/-! the sources -/
def iSeq (m : ME) : MA := bnd m fun d S => match d with
  | .list ds => some (ds, S)
  | _ => none
def iTupD (m : ME) : MA := bnd m fun d S => match d with
  | .tuple ds => some (ds, S)
  | _ => none
def rangeD (lo hi : Int) : List D := (List.range (hi - lo).toNat).map fun (k : Nat) => .int (lo + (k : Int))
theorem di_list {tg : Expr} (h : PE X e (tM X.K m)) : PI X tg e (tI X.K (iSeq m)) := by
  refine PI.imp (pi_list h) fun σ H Q ⟨Z, S, G, ds, S', R, e, q⟩ => ?_
  obtain ⟨d, S1, e1, e2⟩ := bnd_some e
  split at e2
  · cases e2
    refine ⟨Z, S, G, _, _, R, e1, fun v H1 G1 R1 s1 k => ?_⟩
    cases k with
    | lst hl ha =>
      refine ⟨_, rfl, ⟨_, R1.sub.seq hl⟩, q _ H1 G1 R1 s1 fun G2 H2 i s2 s3 => ⟨fun d hd => ?_, fun hi => ⟨_, s3.seq (s2.seq hl), by rw [ha.len]; exact hi⟩⟩⟩
      obtain ⟨v, h1, h2⟩ := ha.get hd
      refine ⟨⟨_, v, s3.seq (s2.seq hl), h1⟩, fun x H' ⟨e, y⟩ => ?_⟩
      subst e
      have := y _ (s3.seq (s2.seq hl))
      rw [h1] at this
      cases this
      exact ⟨G2, Gr.refl s3, dp_mono s2 h2⟩
  · cases e2
theorem di_tup {tg : Expr} (h : PE X e (tM X.K m)) : PI X tg e (tI X.K (iTupD m)) := by
  refine PI.imp (pi_tup h) fun σ H Q ⟨Z, S, G, ds, S', R, e, q⟩ => ?_
  obtain ⟨d, S1, e1, e2⟩ := bnd_some e
  split at e2
  · cases e2
    refine ⟨Z, S, G, _, _, R, e1, fun v H1 G1 R1 s1 k => ?_⟩
    cases k with
    | tup hl ha =>
      refine ⟨_, rfl, ⟨_, same_sqt R1.sub hl⟩, q _ H1 G1 R1 s1 fun G2 H2 i s2 s3 => ⟨fun d hd => ?_, fun hi => ⟨_, same_sqt s3 (same_sqt s2 hl), by rw [ha.len]; exact hi⟩⟩⟩
      obtain ⟨v, h1, h2⟩ := ha.get hd
      refine ⟨⟨_, v, same_sqt s3 (same_sqt s2 hl), h1⟩, fun x H' ⟨e, y⟩ => ?_⟩
      subst e
      have := y _ (same_sqt s3 (same_sqt s2 hl))
      rw [h1] at this
      cases this
      exact ⟨G2, Gr.refl s3, dp_mono s2 h2⟩
  · cases e2
theorem rangeD_get {lo hi : Int} {i : Nat} {d : D} (h : (rangeD lo hi)[i]? = some d) : i < (hi - lo).toNat ∧ d = .int (lo + i) := by
  unfold rangeD at h
  rw [List.getElem?_map] at h
  obtain ⟨k, h1, h2⟩ := Option.map_eq_some_iff.mp h
  obtain ⟨h3, h4⟩ := List.getElem?_eq_some_iff.mp h1
  rw [List.getElem_range] at h4
  rw [List.length_range] at h3
  subst h4
  exact ⟨h3, h2.symm⟩
theorem range_walks {K : PySem.W.Frag} {G : Hp} {lo hi : Int} : Walks K G (Itr lo (hi - lo).toNat) (rangeD lo hi) := fun G1 H1 i s1 s2 => ⟨fun d hd => by
    obtain ⟨h1, rfl⟩ := rangeD_get hd
    exact ⟨h1, fun x H' ⟨e, y⟩ => by subst e; subst y; exact ⟨G1, Gr.refl s2, .int _⟩⟩, fun hi => by
    unfold rangeD at hi
    rw [List.length_map, List.length_range] at hi
    exact hi⟩
def iRange1 (os : MOs) : MA := bnd os fun rs S => match rss rs S with
  | some [.int j] => if -(2 ^ 62) ≤ j ∧ j < 2 ^ 62 then some (rangeD 0 j, S) else none
  | _ => none
def iRange2 (os : MOs) : MA := bnd os fun rs S => match rss rs S with
  | some [.int i, .int j] => if -(2 ^ 62) ≤ i ∧ i < 2 ^ 62 ∧ -(2 ^ 62) ≤ j ∧ j < 2 ^ 62 then some (rangeD i j, S) else none
  | _ => none
theorem dpT_int {K : PySem.W.Frag} {G H : Hp} {v : V} {i : Int} (h : DpT K G H v (.int i)) : v = .int i := by
  rcases h with h | ⟨_, _, _, _, z, _⟩
  · cases h; rfl
  · cases z
theorem dpTs_ints1 {K : PySem.W.Frag} {G H : Hp} {vs : List V} {i : Int} (h : DpTs K G H vs [.int i]) : vs = [.int i] := by
  cases h with
  | cons a b => cases b; rw [dpT_int a]
theorem dpTs_ints2 {K : PySem.W.Frag} {G H : Hp} {vs : List V} {i j : Int} (h : DpTs K G H vs [.int i, .int j]) : vs = [.int i, .int j] := by
  cases h with
  | cons a b => cases b with
    | cons b c => cases c; rw [dpT_int a, dpT_int b]
theorem di_range1 {tg ea : Expr} {p : Pos} {os : MOs} (hg : Gl X "range") (hm : X.mg "range" = none) (ha : PA X [ea] (tAO X.K os)) (hs : starEach [ea] X.env = [(false, eval ea X.env)] := by rfl) : PI X tg (.Call (.Name "range" p) [ea] [] pos) (tI X.K (iRange1 os)) := by
  refine PI.imp (pi_range1 hg hm ha hs) fun σ H Q ⟨Z, S, G, ds, S', R, e, q⟩ => ?_
  obtain ⟨rs, S1, e1, e2⟩ := bnd_some e
  split at e2
  · rename_i j hr
    split at e2
    · rename_i hb
      cases e2
      refine ⟨Z, S, G, rs, _, R, e1, fun vs H1 G1 R1 s1 k => ⟨j, dpTs_ints1 (rss_ok R1 k hr), hb.1, hb.2, ?_⟩⟩
      have w := range_walks (K := X.K) (G := G1) (lo := 0) (hi := j)
      rw [Int.sub_zero] at w
      exact q _ H1 G1 R1 s1 w
    · cases e2
  · cases e2
theorem di_range2 {tg ea eb : Expr} {p : Pos} {os : MOs} (hg : Gl X "range") (hm : X.mg "range" = none) (ha : PA X [ea, eb] (tAO X.K os)) (hs : starEach [ea, eb] X.env = [(false, eval ea X.env), (false, eval eb X.env)] := by rfl) (hs2 : starEach [eb] X.env = [(false, eval eb X.env)] := by rfl) :
    PI X tg (.Call (.Name "range" p) [ea, eb] [] pos) (tI X.K (iRange2 os)) := by
  refine PI.imp (pi_range2 hg hm ha hs hs2) fun σ H Q ⟨Z, S, G, ds, S', R, e, q⟩ => ?_
  obtain ⟨rs, S1, e1, e2⟩ := bnd_some e
  split at e2
  · rename_i i j hr
    split at e2
    · rename_i hb
      cases e2
      exact ⟨Z, S, G, rs, _, R, e1, fun vs H1 G1 R1 s1 k => ⟨i, j, dpTs_ints2 (rss_ok R1 k hr), hb, q _ H1 G1 R1 s1 range_walks⟩⟩
    · cases e2
  · cases e2

/-! ### comprehensions -/
def wipeS (S : Slots) : List Nat → Slots
  | [] => S
  | v :: vs => (wipeS S vs).set v none
def backS (S0 : Slots) (S : Slots) : List Nat → Slots
  | [] => S
  | v :: vs => (backS S0 S vs).set v (S0[v]?.getD none)
/-- the slots hold no cell -/
def noCells (S : Slots) (vs : List Nat) : Bool := vs.all fun v => match S[v]? with
  | some (some (.own _)) => false
  | some (some (.bor _)) => false
  | _ => true
def compL (g : MG) (t : MT) (m : ME) (vs : List Nat) : List D → MA
  | [] => mret []
  | d :: ds => fun S => (g d S).bind fun S1 => (bnd t fun b => if b = true then (bnd m fun y S2 => (compL g t m vs ds (wipeS S2 vs)).map fun p => (y :: p.1, p.2)) else fun S2 => compL g t m vs ds (wipeS S2 vs)) S1
def lComp (it : MA) (g : MG) (t : MT) (m : ME) (vs : List Nat) : ML := bnd it fun ds S => if ds.length ≤ 1000000 ∧ noCells S vs = true then (compL g t m vs ds (wipeS S vs)).map fun p => (.lst p.1, backS S p.2 vs) else none
end
end PD

/-! PDComp: list comprehensions as functions on slots. -/
namespace PD
open PySem PySem.Spec PyProof.Rows L2
section
variable {K : PySem.W.Frag} {Z : Fz} {S S' S1 S2 : Slots} {σ σ' : St} {H G H' G' H1 G1 : Hp}
theorem wipeS_get {c : SV} {j : Nat} : ∀ {vs : List Nat}, (wipeS S vs)[j]? = some (some c) → S[j]? = some (some c) ∧ j ∉ vs
  | [], h => ⟨h, by simp⟩
  | v :: vs, h => by
    rcases getq_set (show ((wipeS S vs).set v none)[j]? = _ from h) with ⟨_, e, _⟩ | ⟨n, e⟩
    · cases e
    · obtain ⟨h1, h2⟩ := wipeS_get e
      exact ⟨h1, by simp only [List.mem_cons, not_or]; exact ⟨n, h2⟩⟩
theorem backS_get {S0 : Slots} {c : SV} {j : Nat} : ∀ {vs : List Nat}, (backS S0 S vs)[j]? = some (some c) → (j ∈ vs ∧ S0[j]? = some (some c)) ∨ (j ∉ vs ∧ S[j]? = some (some c))
  | [], h => .inr ⟨by simp, h⟩
  | v :: vs, h => by
    rcases getq_set (show ((backS S0 S vs).set v (S0[v]?.getD none))[j]? = _ from h) with ⟨rfl, e, _⟩ | ⟨n, e⟩
    · refine .inl ⟨List.mem_cons_self, ?_⟩
      cases q : S0[j]? with
      | none => rw [q] at e; cases e
      | some x => rw [q] at e; exact congrArg some e
    · rcases backS_get e with ⟨h1, h2⟩ | ⟨h1, h2⟩
      · exact .inl ⟨List.mem_cons_of_mem _ h1, h2⟩
      · exact .inr ⟨by simp only [List.mem_cons, not_or]; exact ⟨n, h1⟩, h2⟩
theorem backS_len {S0 : Slots} : ∀ {vs : List Nat}, (backS S0 S vs).length = S.length
  | [] => rfl
  | v :: vs => by show ((backS S0 S vs).set v _).length = _; rw [List.length_set]; exact backS_len
theorem wipe_wipe : ∀ (vs : List Nat), wipe (wipe σ vs) vs = wipe σ vs := fun vs => by
  have key : ∀ (us : List Nat), (∀ i ∈ us, i ∈ vs) → wipe (wipe σ vs) us = wipe σ vs := by
    intro us
    induction us with
    | nil => intro _; rfl
    | cons u us ih =>
      intro h
      show (wipe (wipe σ vs) us).set u none = wipe σ vs
      rw [ih fun i hi => h i (List.mem_cons_of_mem _ hi)]
      have hu : ∀ (vs : List Nat), u ∈ vs → (wipe σ vs).set u none = wipe σ vs := by
        intro vs
        induction vs with
        | nil => intro z; cases z
        | cons w ws ih =>
          intro z
          show ((wipe σ ws).set w none).set u none = (wipe σ ws).set w none
          by_cases e : u = w
          · subst e; rw [List.set_set]
          · rcases List.mem_cons.mp z with z | z
            · exact absurd z e
            · rw [List.set_comm _ _ (Ne.symm e), ih z]
      exact hu vs (h u List.mem_cons_self)
  exact key vs fun _ h => h
theorem RS.wipes (R : RS K Z S σ H G) : ∀ vs : List Nat, RS K Z (wipeS S vs) (wipe σ vs) H G
  | [] => R
  | v :: vs => (RS.wipes R vs).wipe1 v
theorem isCell_wipe {vs : List Nat} {j : Nat} (h : IsCell (wipeS S vs) j) : IsCell S j ∧ j ∉ vs := by
  obtain ⟨c, h | h⟩ := h
  · exact ⟨⟨c, .inl (wipeS_get h).1⟩, (wipeS_get h).2⟩
  · exact ⟨⟨c, .inr (wipeS_get h).1⟩, (wipeS_get h).2⟩
theorem noCells_not {vs : List Nat} (h : noCells S vs = true) {j : Nat} (hj : j ∈ vs) : ¬ IsCell S j := fun ⟨c, hc⟩ => by
  have q := List.all_eq_true.mp h j hj
  rcases hc with hc | hc <;> rw [hc] at q <;> cases q
/-- an object that is no cell is changed -/
theorem RS.updFree (R : RS K Z S σ H G) {p : Addr} {o o' : HO} (h : H p = some o) (hg : G p = none) (hz : Z.H0 p = none) (hs : ∀ (i : Nat), IsCell S i → σ[i]? ≠ some (some (V.ref p))) : RS K Z S σ (L2.upd H p o') G where
  sub := fun b x e => by
    have nb : b ≠ p := fun z => by rw [z, hg] at e; cases e
    rw [upd_ne nb]; exact R.sub _ _ e
  len := R.len
  keep := fun b x e n m => by
    have nb : b ≠ p := fun z => by rw [z, hz] at e; cases e
    rw [upd_ne nb]; exact R.keep _ _ e n m
  there := fun b x e => by
    have nb : b ≠ p := fun z => by rw [z, hz] at e; cases e
    rw [upd_ne nb]; exact R.there _ _ e
  gkeep := R.gkeep
  gfree := R.gfree
  vals := R.vals
  owns := fun i c e => by
    obtain ⟨a, o, h1, h2, h3⟩ := R.owns i c e
    exact ⟨a, o, h1, by rw [upd_ne (fun z : a = p => hs i ⟨c, .inl e⟩ (z ▸ h1))]; exact h2, h3⟩
  bors := fun i c e => by
    obtain ⟨a, o, h1, h2, h3⟩ := R.bors i c e
    exact ⟨a, o, h1, by rw [upd_ne (fun z : a = p => hs i ⟨c, .inr e⟩ (z ▸ h1))]; exact h2, h3⟩
  sep := R.sep
theorem RS.updF (R : RS K Z S σ H G) {p : Addr} {o o' : HO} (h : H p = some o) (hg : G p = none) (hz : Z.F p) (hs : ∀ (i : Nat), IsCell S i → σ[i]? ≠ some (some (V.ref p))) : RS K Z S σ (L2.upd H p o') G where
  sub := fun b x e => by
    have nb : b ≠ p := fun z => by rw [z, hg] at e; cases e
    rw [upd_ne nb]; exact R.sub _ _ e
  len := R.len
  keep := fun b x e n m => by
    have nb : b ≠ p := fun z => m (by rw [z]; exact hz)
    rw [upd_ne nb]; exact R.keep _ _ e n m
  there := fun b x e => by
    by_cases nb : b = p
    · exact ⟨o', by rw [nb, upd_same]⟩
    · rw [upd_ne nb]; exact R.there _ _ e
  gkeep := R.gkeep
  gfree := R.gfree
  vals := R.vals
  owns := fun i c e => by
    obtain ⟨a, o, h1, h2, h3⟩ := R.owns i c e
    exact ⟨a, o, h1, by rw [upd_ne (fun z : a = p => hs i ⟨c, .inl e⟩ (z ▸ h1))]; exact h2, h3⟩
  bors := fun i c e => by
    obtain ⟨a, o, h1, h2, h3⟩ := R.bors i c e
    exact ⟨a, o, h1, by rw [upd_ne (fun z : a = p => hs i ⟨c, .inr e⟩ (z ▸ h1))]; exact h2, h3⟩
  sep := R.sep
theorem RS.sepNow (R : RS K Z S σ H G) (R' : RS K (Fz.now S σ H G) S' σ' H' G') {p : Addr} {o : HO} (hp : H p = some o) (hs : ∀ (i : Nat), IsCell S i → σ[i]? ≠ some (some (V.ref p))) : ∀ (i : Nat), IsCell S' i → σ'[i]? ≠ some (some (V.ref p)) := fun n hn en => by
  obtain ⟨c', hc' | hc'⟩ := hn
  · obtain ⟨a', _, w1, _, _, w4, _⟩ := R'.owns n c' hc'
    rw [en] at w1; cases w1
    rcases w4 with w4 | ⟨i', c2, w5, w6⟩
    · rw [show (Fz.now S σ H G).H0 p = H p from rfl, hp] at w4; cases w4
    · exact hs i' ⟨c2, .inl w5⟩ w6
  · obtain ⟨a', _, w1, _, _, w4, _⟩ := R'.bors n c' hc'
    rw [en] at w1; cases w1
    obtain ⟨i', c2, w5, w6⟩ := w4
    exact hs i' ⟨c2, .inr w5⟩ w6
/-- behind a block: its own slots as they were -/
theorem RS.backs {vs : List Nat} (R0 : RS K Z S1 σ H1 G1) (R : RS K Z S2 (wipe σ vs) H G) (s : Same G1 G) (nc : noCells S1 vs = true) : RS K Z (backS S1 S2 vs) σ H G where
  sub := R.sub
  len := by rw [backS_len, R.len, wipe_length]
  keep := R.keep
  there := R.there
  gkeep := R.gkeep
  gfree := R.gfree
  vals := fun i d e => by
    rcases backS_get e with ⟨_, h⟩ | ⟨_, h⟩
    · obtain ⟨v, h1, h2⟩ := R0.vals i d h
      exact ⟨v, h1, dp_mono s h2⟩
    · obtain ⟨v, h1, h2⟩ := R.vals i d h
      exact ⟨v, (wipe_some h1).1, h2⟩
  owns := fun i c e => by
    rcases backS_get e with ⟨hi, h⟩ | ⟨_, h⟩
    · exact absurd ⟨c, .inl h⟩ (noCells_not nc hi)
    · obtain ⟨a, o, h1, h2⟩ := R.owns i c h
      exact ⟨a, o, (wipe_some h1).1, h2⟩
  bors := fun i c e => by
    rcases backS_get e with ⟨hi, h⟩ | ⟨_, h⟩
    · exact absurd ⟨c, .inr h⟩ (noCells_not nc hi)
    · obtain ⟨a, o, h1, h2⟩ := R.bors i c h
      exact ⟨a, o, (wipe_some h1).1, h2⟩
  sep := fun i j a hi hj e1 e2 => by
    have back : ∀ n, IsCell (backS S1 S2 vs) n → IsCell S2 n ∧ n ∉ vs := fun n hn => by
      obtain ⟨c, h | h⟩ := hn
      · rcases backS_get h with ⟨hi, h⟩ | ⟨hi, h⟩
        · exact absurd ⟨c, .inl h⟩ (noCells_not nc hi)
        · exact ⟨⟨c, .inl h⟩, hi⟩
      · rcases backS_get h with ⟨hi, h⟩ | ⟨hi, h⟩
        · exact absurd ⟨c, .inr h⟩ (noCells_not nc hi)
        · exact ⟨⟨c, .inr h⟩, hi⟩
    obtain ⟨i1, i2⟩ := back i hi
    obtain ⟨j1, j2⟩ := back j hj
    exact R.sep i j a i1 j1 (by rw [wipe_out i2]; exact e1) (by rw [wipe_out j2]; exact e2)
theorem isCell_backS {vs : List Nat} (nc : noCells S1 vs = true) {n : Nat} (hn : IsCell (backS S1 S2 vs) n) : IsCell S2 n ∧ n ∉ vs := by
  obtain ⟨c, h | h⟩ := hn
  · rcases backS_get h with ⟨hi, h⟩ | ⟨hi, h⟩
    · exact absurd ⟨c, .inl h⟩ (noCells_not nc hi)
    · exact ⟨⟨c, .inl h⟩, hi⟩
  · rcases backS_get h with ⟨hi, h⟩ | ⟨hi, h⟩
    · exact absurd ⟨c, .inr h⟩ (noCells_not nc hi)
    · exact ⟨⟨c, .inr h⟩, hi⟩
/-- a comprehension's reading -/
theorem tComp {it : MA} {g : MG} {t : MT} {m : ME} {vs is : List Nat} (his : ∀ i ∈ is, i ∈ vs) : ∀ σ H Q, tL K (lComp it g t m vs) σ H Q → tLc (tI K it) (tG K is g) (tT K t) (tM K m) vs σ H Q := by
  intro σ H Q ⟨Z, S, G, c, S', R, e, q⟩
  obtain ⟨ds, S1, e1, e2⟩ := bnd_some e
  split at e2
  · rename_i hc
    obtain ⟨hlen, nc⟩ := hc
    obtain ⟨⟨rs, S2⟩, e3, e4⟩ := Option.map_eq_some_iff.mp e2
    cases e4
    refine ⟨Z, S, G, ds, S1, R, e1, fun J H1 G1 R1 s1 w A hA => ?_⟩
    have hz : Z.H0 A = none := by
      cases q : Z.H0 A with
      | none => rfl
      | some x =>
        obtain ⟨o', z⟩ := R1.there A x q
        rw [hA] at z; cases z
    let N : Nat → Hp → Prop := fun i H => ∃ S3 G3 acc accd rest, RS K Z S3 (wipe σ vs) H G3 ∧ Same G1 G3 ∧ H A = some (.lst acc) ∧ G3 A = none ∧ DpAll K G3 acc accd ∧ accd.length ≤ i ∧ compL g t m vs (ds.drop i) S3 = some (rest, S2) ∧ accd ++ rest = rs ∧ ∀ (n : Nat), IsCell S3 n → (wipe σ vs)[n]? ≠ some (some (V.ref A))
    refine ⟨fun i n H => i ≤ ds.length ∧ n = ds.length - i ∧ N i H, ⟨ds.length, Nat.zero_le _, rfl, wipeS S1 vs, G1, [], [], rs, ?_⟩, ?_⟩
    · have g := Gr.newH (o := .lst []) R1.sub hA
      refine ⟨(R1.gr g).wipes vs, Same.refl _, upd_same, same_none R1.sub hA, .nil, Nat.le_refl _, by rw [List.drop_zero]; exact e3, rfl, fun n hn e => ?_⟩
      obtain ⟨h1, h2⟩ := isCell_wipe hn
      obtain ⟨b, o, c, w1, w2, _⟩ := R1.cell h1
      rw [wipe_out h2] at e
      rw [e] at w1; cases w1
      rw [hA] at w2; cases w2
    · rintro i n H ⟨hi, rfl, S3, G3, acc, accd, rest, R3, s3, hAc, hG3, kd, hal, ec, eapp, sep3⟩
      obtain ⟨w1, w2⟩ := w G3 H i s3 R3.sub
      by_cases hl : i < ds.length
      · obtain ⟨go, yl⟩ := w1 ds[i] (List.getElem?_eq_getElem hl)
        rw [List.drop_eq_getElem_cons hl] at ec
        obtain ⟨S4, e5, e6⟩ := Option.bind_eq_some_iff.mp ec
        obtain ⟨b, S5, e7, e8⟩ := bnd_some e6
        refine .inr ⟨go, N (i + 1), fun H' hN => ⟨ds.length - (i + 1), by omega, hl, rfl, hN⟩, fun x H' y => ?_⟩
        obtain ⟨G4, gr, kx⟩ := yl x H' y
        have R4 := R3.gr gr
        have hA4 : H' A = some (.lst acc) := gr.h _ _ hAc
        have hG4 : G4 A = none := (gr.f A _ hAc).trans hG3
        refine ⟨_, S3, G4, ds[i], S4, R4.now, kx, e5, fun σ2 H2 G5 R5 s5 hw => ?_⟩
        have hw2 : wipe σ2 vs = wipe σ vs := (hw vs his).trans (wipe_wipe vs)
        refine ⟨hw2, _, S4, G5, b, S5, R5, e7, fun H3 G6 R6 s6 => ?_⟩
        -- the turn's end
        have fin : ∀ {S6 : Slots} {H4 G7 : Hp} {acc' : List V} {accd' rest' : List D}, RS K (Fz.now S3 (wipe σ vs) H' G4) S6 σ2 H4 G7 → Same G3 G7 → DpAll K G7 acc' accd' → accd'.length ≤ i + 1 → compL g t m vs (ds.drop (i + 1)) (wipeS S6 vs) = some (rest', S2) → accd' ++ rest' = rs → N (i + 1) (L2.upd H4 A (.lst acc')) := fun {S6 H4 G7 acc' accd' rest'} R7 s7 k7 l7 c7 a7 => by
          obtain ⟨k1, k2⟩ := R4.kept R7 hA4 hG4 sep3
          have sp := R4.sepNow R7 hA4 sep3
          have R8 := (R4.back R7).updFree (o' := .lst acc') k1 k2 hz sp
          have R9 := R8.wipes vs
          rw [hw2] at R9
          refine ⟨wipeS S6 vs, G7, acc', accd', rest', R9, s3.trans s7, upd_same, k2, k7, l7, c7, a7, fun n hn e => ?_⟩
          obtain ⟨h1, h2⟩ := isCell_wipe hn
          rw [← hw2, wipe_out h2] at e
          exact sp n h1 e
        cases b with
        | true =>
          rw [if_pos rfl] at e8
          show tM K m σ2 H3 _
          obtain ⟨y, S6, e9, e10⟩ := bnd_some e8
          obtain ⟨⟨rest', S7⟩, e11, e12⟩ := Option.map_eq_some_iff.mp e10
          cases e12
          refine ⟨_, S5, G6, y, S6, R6, e9, fun v H4 G7 R7 s7 k => ?_⟩
          have ss : Same G3 G7 := gr.g.trans (s5.trans (s6.trans s7))
          obtain ⟨k1, k2⟩ := R4.kept R7 hA4 hG4 sep3
          refine ⟨acc, k1, Nat.lt_of_le_of_lt (by rw [kd.len]; exact hal) (Nat.lt_of_lt_of_le hl (size_ok hlen)), ?_⟩
          exact fin R7 ss ((dpAll_mono ss kd).app (.one k)) (by rw [List.length_append]; simp; omega) e11 (by rw [List.append_assoc]; exact eapp)
        | false =>
          rw [if_neg Bool.false_ne_true] at e8
          show N (i + 1) H3
          have ss : Same G3 G6 := gr.g.trans (s5.trans s6)
          obtain ⟨k1, k2⟩ := R4.kept R6 hA4 hG4 sep3
          have z := fin R6 ss (dpAll_mono ss kd) (by omega) e8 eapp
          have eu : L2.upd H3 A (.lst acc) = H3 := by
            funext b
            by_cases hb : b = A
            · rw [hb, upd_same, k1]
            · rw [upd_ne hb]
          rw [eu] at z
          exact z
      · refine .inl ⟨w2 (by omega), ?_⟩
        rw [List.drop_eq_nil_of_le (by omega)] at ec
        cases ec
        rw [List.append_nil] at eapp
        subst eapp
        refine q A H G3 (R1.backs R3 s3 nc) (s1.trans s3) ⟨⟨_, hAc, kd⟩, hG3, .inl hz, fun n hn e => ?_⟩
        obtain ⟨h1, h2⟩ := isCell_backS nc hn
        exact sep3 n h1 (by rw [wipe_out h2]; exact e)
  · cases e2
end
theorem PTs.imp {X : Cx} {e : List Expr} {t t' : TT} (h : PTs X e t) (w : ∀ σ H Q, t' σ H Q → t σ H Q) : PTs X e t' := ⟨fun pins s σ H Q I q => h.run pins s σ H Q I (w _ _ _ q)⟩
section
variable {X : Cx} {pos : Pos} {t : MT} {m : ME}
theorem dts_nil : PTs X [] (tT X.K (mret true)) := PTs.imp pts_nil fun σ H Q ⟨Z, S, G, b, S', R, e, q⟩ => by cases e; exact q H G R (Same.refl _)
theorem dts_one {c : Expr} (h : PT X c (tT X.K t)) : PTs X [c] (tT X.K t) := pts_one h
theorem dl_comp {elt tg iter : Expr} {ifs : List Expr} {scope : Scope} {own : List (Str × Nat)} {it : MA} {g : MG} {is : List Nat} (hc : X.calm = true) (hN : X.N.Nodup) (hi : PI X tg iter (tI X.K it)) (ok : BlkOk X.N X.env.scope scope own)
    (hg : ∀ (s : Shared) (H : Hp) (C : Addr) (cl : List (Str × Addr)) (fp : List Addr), PG (X.blk s H scope (compEnvC scope cl C X.env) fp) tg (tG X.K is g)) (ht : ∀ (s : Shared) (H : Hp) (C : Addr) (cl : List (Str × Addr)) (fp : List Addr), PTs (X.blk s H scope (compEnvC scope cl C X.env) fp) ifs (tT X.K t))
    (he : ∀ (s : Shared) (H : Hp) (C : Addr) (cl : List (Str × Addr)) (fp : List Addr), PE (X.blk s H scope (compEnvC scope cl C X.env) fp) elt (tM X.K m)) (his : ∀ i ∈ is, i ∈ own.map (·.2) := by decide) (hs : ∀ x, foldedSetIterable iter X.env x = pure x := by intro _; rfl) :
    PE X (.ListComp elt [⟨tg, iter, ifs, 0⟩] scope pos) (tL X.K (lComp it g t m (own.map (·.2)))) :=
  PE.imp (pe_lc hc hN hi ok hg ht he hs) (tComp his)
theorem ds_setComp {i : Nat} {y : Str} {py spos : Pos} {elt tg iter : Expr} {ifs : List Expr} {scope : Scope} {own : List (Str × Nat)} {it : MA} {g : MG} {is : List Nat} (hc : X.calm = true) (hN : X.N.Nodup) (hy : X.N[i]? = some y) (hyl : X.env.scope.names.lookup y = some .local)
    (hsw : swapsWith (.ListComp elt [⟨tg, iter, ifs, 0⟩] scope pos) (some (.Name y py)) spos.line X.env = pure true) (hi : PI X tg iter (tI X.K it)) (ok : BlkOk X.N X.env.scope scope own)
    (hg : ∀ (s : Shared) (H : Hp) (C : Addr) (cl : List (Str × Addr)) (fp : List Addr), PG (X.blk s H scope (compEnvC scope cl C X.env) fp) tg (tG X.K is g)) (ht : ∀ (s : Shared) (H : Hp) (C : Addr) (cl : List (Str × Addr)) (fp : List Addr), PTs (X.blk s H scope (compEnvC scope cl C X.env) fp) ifs (tT X.K t))
    (he : ∀ (s : Shared) (H : Hp) (C : Addr) (cl : List (Str × Addr)) (fp : List Addr), PE (X.blk s H scope (compEnvC scope cl C X.env) fp) elt (tM X.K m)) (his : ∀ i ∈ is, i ∈ own.map (·.2) := by decide) (hs : ∀ x, foldedSetIterable iter X.env x = pure x := by intro _; rfl) :
    PS X (.Assign [.Name y py] (.ListComp elt [⟨tg, iter, ifs, 0⟩] scope pos) spos) (tS X.K (sSetL i (lComp it g t m (own.map (·.2))))) :=
  PS.imp (ps_setLc hc hN hy hyl hsw hi ok hg ht he hs) (tsetL (tComp his))
end

/-! ### a def by its body -/
def outR : Out → Option SV
  | .nx => some (.val .none)
  | .rt (.val d) => some (.val d)
  | .rt (.own c) => some (.own c)
  | _ => none
/-- run a def's body at plain arguments; n slots -/
def runP (n : Nat) (m : MS) (ds : List D) : Option SV := (m (ds.map (fun d => some (SV.val d)) ++ List.replicate (n - ds.length) none)).bind fun p => outR p.1
def runB (n : Nat) (m : MS) (c : Cel) (ds : List D) : Option (SV × Cel) := (m (some (SV.bor c) :: ds.map (fun d => some (SV.val d)) ++ List.replicate (n - (ds.length + 1)) none)).bind fun p => match outR p.1, p.2[0]? with
  | some r, some (some (SV.bor c')) => some (r, c')
  | _, _ => none
/-- a def's mirror: np parameters, n slots -/
def mkP (np n : Nat) (m : MS) (ds : List D) : Option SV := if ds.length = np then runP n m ds else none
def mkB (np n : Nat) (m : MS) (c : Cel) (ds : List D) : Option (SV × Cel) := if ds.length + 1 = np then runB n m c ds else none
section
variable {K : PySem.W.Frag} {G H : Hp}
theorem rs_start {N : List Str} {vs : List V} {ds : List D} (s : Same G H) (k : DpAll K G vs ds) (hl : vs.length ≤ N.length) :
    RS K ⟨H, G, fun _ => False, fun _ => False⟩ (ds.map (fun d => some (SV.val d)) ++ List.replicate (N.length - ds.length) none) (L2.start N vs) H G := by
  have noc : ∀ (i : Nat) (c : Cel) (x : SV), (x = .own c ∨ x = .bor c) → (ds.map (fun d => some (SV.val d)) ++ List.replicate (N.length - ds.length) none)[i]? ≠ some (some x) := fun i c x hx e => by
    by_cases hi : i < ds.length
    · rw [List.getElem?_append_left (by simpa using hi), List.getElem?_map, List.getElem?_eq_getElem hi] at e
      rcases hx with rfl | rfl <;> cases e
    · rw [List.getElem?_append_right (by simpa using hi), List.getElem?_replicate] at e
      split at e <;> cases e
  refine ⟨s, ?_, fun b o e _ _ => e, fun b o e => ⟨o, e⟩, Same.refl _, fun b o e n _ => n, fun i d e => ?_, fun i c e => absurd e (noc i c _ (.inl rfl)), fun i c e => absurd e (noc i c _ (.inr rfl)), fun i j a hi => ?_⟩
  · unfold L2.start
    rw [List.length_append, List.length_append, List.length_map, List.length_map, List.length_replicate, List.length_replicate, k.len]
  · by_cases hi : i < ds.length
    · rw [List.getElem?_append_left (by simpa using hi), List.getElem?_map, List.getElem?_eq_getElem hi] at e
      cases e
      obtain ⟨v, h1, h2⟩ := k.get (List.getElem?_eq_getElem hi)
      refine ⟨v, ?_, h2⟩
      unfold L2.start
      rw [List.getElem?_append_left (by rw [List.length_map, k.len]; exact hi), List.getElem?_map, h1]
      rfl
    · rw [List.getElem?_append_right (by simpa using hi), List.getElem?_replicate] at e
      split at e <;> cases e
  · obtain ⟨c, h | h⟩ := hi
    · exact absurd h (noc i c _ (.inl rfl))
    · exact absurd h (noc i c _ (.inr rfl))
theorem rs_startB {N : List Str} {a : Addr} {o : HO} {c : Cel} {vs : List V} {ds : List D} (s : Same G H) (ha : H a = some o) (hg : G a = none) (hc : HoldsC K G o c) (k : DpAll K G vs ds) (hl : vs.length + 1 ≤ N.length) :
    RS K ⟨H, G, fun b => b = a, fun _ => False⟩ (some (SV.bor c) :: ds.map (fun d => some (SV.val d)) ++ List.replicate (N.length - (ds.length + 1)) none) (L2.start N (.ref a :: vs)) H G := by
  have noc : ∀ (i : Nat) (x : SV), (some (SV.bor c) :: ds.map (fun d => some (SV.val d)) ++ List.replicate (N.length - (ds.length + 1)) none)[i]? = some (some x) → (i = 0 ∧ x = .bor c) ∨ ∃ d v, x = .val d ∧ (L2.start N (.ref a :: vs))[i]? = some (some v) ∧ Dp K G v d := fun i x e => by
    cases i with
    | zero => cases e; exact .inl ⟨rfl, rfl⟩
    | succ i =>
      rw [List.cons_append, List.getElem?_cons_succ] at e
      by_cases hi : i < ds.length
      · rw [List.getElem?_append_left (by simpa using hi), List.getElem?_map, List.getElem?_eq_getElem hi] at e
        cases e
        obtain ⟨v, h1, h2⟩ := k.get (List.getElem?_eq_getElem hi)
        refine .inr ⟨_, v, rfl, ?_, h2⟩
        unfold L2.start
        rw [List.getElem?_append_left (by rw [List.length_map, List.length_cons, k.len]; omega), List.getElem?_map, List.getElem?_cons_succ, h1]
        rfl
      · rw [List.getElem?_append_right (by simpa using hi), List.getElem?_replicate] at e
        split at e <;> cases e
  refine ⟨s, ?_, fun b o e _ _ => e, fun b o e => ⟨o, e⟩, Same.refl _, fun b o e n _ => n, fun i d e => ?_, fun i c' e => ?_, fun i c' e => ?_, fun i j b hi hj _ _ => ?_⟩
  · unfold L2.start
    rw [List.length_append, List.length_append, List.length_map, List.length_cons, List.length_cons, List.length_map, List.length_replicate, List.length_replicate, k.len]
  · rcases noc i _ e with ⟨_, z⟩ | ⟨d', v, z, h1, h2⟩
    · cases z
    · cases z; exact ⟨v, h1, h2⟩
  · rcases noc i _ e with ⟨_, z⟩ | ⟨d', v, z, h1, h2⟩ <;> cases z
  · rcases noc i _ e with ⟨z1, z⟩ | ⟨d', v, z, h1, h2⟩
    · cases z
      subst z1
      exact ⟨a, o, rfl, ha, hg, rfl, hc⟩
    · cases z
  · have z : ∀ i, IsCell (some (SV.bor c) :: ds.map (fun d => some (SV.val d)) ++ List.replicate (N.length - (ds.length + 1)) none) i → i = 0 := fun i hi => by
      obtain ⟨c', h | h⟩ := hi
      · rcases noc i _ h with ⟨z, _⟩ | ⟨_, _, z, _⟩
        · exact z
        · cases z
      · rcases noc i _ h with ⟨z, _⟩ | ⟨_, _, z, _⟩
        · exact z
        · cases z
    rw [z i hi, z j hj]
end
section
variable {P : Program} {w : World} {K : PySem.W.Frag} {mg : Str → Option Value} {base : Heap} {x qual : Str} {st : Stmt} {f : Addr} {fd : FuncData} {N ps : List Str} {k : Nat} {m : MS}
/-- THE RULE for a def of plain arguments -/
theorem okP (F : Fun K x qual st f fd) (Sc : FnScope N ps (defScope st)) (hN : ps.length ≤ N.length)
    (hb : ∀ (cdv : Value) (A : Around) (outer : List Env) (s : Shared) (H : Hp) (E : XK), Room k (A.deeper (envOfC qual (defScope st) s.heap.objs.size f cdv)) → PSs (cxOf CX0 P w K mg base N qual (defScope st) f cdv A outer s H E).nox (defBody st) (tS K m)) :
    FnOk P w K mg base CX0 (k + 1) f fd ps (spP K (mkP ps.length N.length m)) := by
  refine F.ok Sc (fun vs H Q E ⟨G, ds, r, _, kd, e, _⟩ => ?_) fun cdv A outer s H vs Q E hr ⟨G, ds, r, sg, kd, e, q⟩ => ?_
  · unfold mkP at e
    split at e
    · rename_i h; rw [kd.len]; exact h
    · cases e
  · unfold mkP at e
    split at e
    · rename_i hl
      refine ⟨_, hb cdv A outer s H E hr, ?_⟩
      obtain ⟨⟨o, S'⟩, e1, e2⟩ := Option.bind_eq_some_iff.mp e
      have R := rs_start (N := N) (K := K) sg kd (by rw [kd.len, hl]; exact hN)
      have fin : ∀ {v : V} {σ' : St} {H' G' : Hp}, RS K ⟨H, G, fun _ => False, fun _ => False⟩ S' σ' H' G' → Gr G H G' H' := fun {v σ' H' G'} R' => ⟨R'.gkeep, fun b o e => R'.keep b o e (fun z => z) fun z => z, R'.sub, fun b o e => by
        cases q : G b with
        | none => exact R'.gfree b o e q fun z => z
        | some u => exact R'.gkeep b u q⟩
      refine ⟨_, _, G, o, S', R, e1, ?_⟩
      cases o with
      | nx => cases e2; exact fun σ' H' G' R' s' => q .non H' G' (fin (v := .non) R') .non
      | bk => cases e2
      | ct => cases e2
      | rt r' =>
        intro v σ' H' G' R' s' kr
        have g := fin (v := v) R'
        cases r' with
        | val d => cases e2; exact q v H' G' g kr
        | own c =>
          cases e2
          obtain ⟨a, rfl, fr⟩ := kr
          obtain ⟨o, h1, h2⟩ := fr.at_
          refine q _ H' G' g ⟨a, o, rfl, ?_, h1, fr.gn, h2⟩
          rcases fr.new with z | z
          · exact z
          · exact z.elim
        | bor c => cases e2
    · cases e
/-- .. whose first argument is a cell -/
theorem okB (F : Fun K x qual st f fd) (Sc : FnScope N ps (defScope st)) (hN : ps.length ≤ N.length)
    (hb : ∀ (cdv : Value) (A : Around) (outer : List Env) (s : Shared) (H : Hp) (E : XK), Room k (A.deeper (envOfC qual (defScope st) s.heap.objs.size f cdv)) → PSs (cxOf CX0 P w K mg base N qual (defScope st) f cdv A outer s H E).nox (defBody st) (tS K m)) :
    FnOk P w K mg base CX0 (k + 1) f fd ps (spB K (mkB ps.length N.length m)) := by
  refine F.ok Sc (fun vs H Q E ⟨G, a, o, c, ws, ds, r, c', e0, _, _, _, _, kd, e, _⟩ => ?_) fun cdv A outer s H vs Q E hr ⟨G, a, o, c, ws, ds, r, c', e0, sg, ha, hg, hc, kd, e, q⟩ => ?_
  · unfold mkB at e
    split at e
    · rename_i h; rw [e0, List.length_cons, kd.len]; exact h
    · cases e
  · unfold mkB at e
    split at e
    · rename_i hl
      subst e0
      refine ⟨_, hb cdv A outer s H E hr, ?_⟩
      obtain ⟨⟨o1, S'⟩, e1, e2⟩ := Option.bind_eq_some_iff.mp e
      have R := rs_startB (N := N) (K := K) sg ha hg hc kd (by rw [kd.len, hl]; exact hN)
      have fin : ∀ {v : V} {r' : SV} {σ' : St} {H' G' : Hp}, RS K ⟨H, G, fun b => b = a, fun _ => False⟩ S' σ' H' G' → outR o1 = some r' → Res K H H' G' v r' → Q v H' := fun {v r' σ' H' G'} R' er kr => by
        rw [er] at e2
        split at e2
        · rename_i h1 h2 h3
          cases h2
          cases e2
          obtain ⟨a', o', w1, w2, w3, w4, w5⟩ := R'.bors 0 _ h3
          have w4 : a' = a := w4
          subst w4
          refine q v H' G' o' (fun b u hb e => R'.keep b u e hb fun z => z) R'.gkeep R'.sub (fun b u e => ?_) w2 w5 kr
          cases q : G b with
          | none => exact R'.gfree b u e q fun z => z
          | some y => exact R'.gkeep b y q
        · cases e2
      refine ⟨_, _, G, o1, S', R, e1, ?_⟩
      cases o1 with
      | nx => exact fun σ' H' G' R' s' => fin (v := .non) (r' := .val .none) R' rfl .non
      | bk => cases e2
      | ct => cases e2
      | rt r' =>
        intro v σ' H' G' R' s' kr
        cases r' with
        | val d => exact fin (r' := .val d) R' rfl kr
        | own c1 =>
          obtain ⟨b, rfl, fr⟩ := kr
          obtain ⟨o, h1, h2⟩ := fr.at_
          refine fin (r' := .own c1) R' rfl ⟨b, o, rfl, ?_, h1, fr.gn, h2⟩
          rcases fr.new with z | z
          · exact z
          · exact z.elim
        | bor c => cases e2
    · cases e
end
end PD

/-! PDOps: operators and built-ins on trees. -/
namespace PD
open PySem PySem.Spec PyProof.Rows L2

theorem dpt_int {K : PySem.W.Frag} {G H : Hp} {v : V} {i : Int} (h : DpT K G H v (.int i)) : v = .int i := dpT_int h
theorem dpt_bool {K : PySem.W.Frag} {G H : Hp} {v : V} {b : Bool} (h : DpT K G H v (.bool b)) : v = .bl b := by
  rcases h with h | ⟨_, _, _, _, z, _⟩
  · cases h; rfl
  · cases z
theorem dpt_str {K : PySem.W.Frag} {G H : Hp} {v : V} {b : Str} (h : DpT K G H v (.str b)) : v = .str b := by
  rcases h with h | ⟨_, _, _, _, z, _⟩
  · cases h; rfl
  · cases z
theorem dpt_none {K : PySem.W.Frag} {G H : Hp} {v : V} (h : DpT K G H v .none) : v = .non := by
  rcases h with h | ⟨_, _, _, _, z, _⟩
  · cases h; rfl
  · cases z
theorem dpt_tuple {K : PySem.W.Frag} {G H : Hp} {v : V} {ds : List D} (h : DpT K G H v (.tuple ds)) : ∃ a vs, v = .ref a ∧ SqT K G a vs ∧ DpAll K G vs ds := by
  rcases h with h | ⟨_, _, _, _, z, _⟩
  · cases h with
    | tup h1 h2 => exact ⟨_, _, rfl, h1, h2⟩
  · cases z
theorem dpt_list {K : PySem.W.Frag} {G H : Hp} {v : V} {ds : List D} (s : Same G H) (h : DpT K G H v (.list ds)) : ∃ a vs, v = .ref a ∧ SqL K H a vs ∧ DpAll K G vs ds := by
  rcases h with h | ⟨a, vs, ds', rfl, z, h1, h2⟩
  · cases h with
    | lst h1 h2 => exact ⟨_, _, rfl, s.seq h1, h2⟩
  · cases z
    exact ⟨a, vs, rfl, SqL.of h1, h2⟩

/-! ### ints -/
def fI (g : Int → Int → Int) : D → D → Option D
  | .int i, .int j => some (.int (g i j))
  | _, _ => none
def fB (g : Int → Int → Bool) : D → D → Option D
  | .int i, .int j => some (.bool (g i j))
  | _, _ => none
def fIc (c : Int → Int → Bool) (g : Int → Int → Int) : D → D → Option D
  | .int i, .int j => if c i j = true then some (.int (g i j)) else none
  | _, _ => none
theorem ad_I {K : PySem.W.Frag} {g : Int → Int → Int} : Ad2 K (rI0 fun i j => .int (g i j)) (fI g) := fun G H x y d e z Q s hx hy hf q => by
  unfold fI at hf
  split at hf
  · cases hf
    exact ⟨_, _, dpt_int hx, dpt_int hy, q _ H G (Gr.refl s) (.int _)⟩
  · cases hf
theorem ad_B {K : PySem.W.Frag} {g : Int → Int → Bool} : Ad2 K (rI0 fun i j => .bl (g i j)) (fB g) := fun G H x y d e z Q s hx hy hf q => by
  unfold fB at hf
  split at hf
  · cases hf
    exact ⟨_, _, dpt_int hx, dpt_int hy, q _ H G (Gr.refl s) (.bl _)⟩
  · cases hf
theorem ad_Ic {K : PySem.W.Frag} {C : Int → Int → Prop} {c : Int → Int → Bool} {g : Int → Int → Int} (hc : ∀ i j, c i j = true → C i j) : Ad2 K (rI C fun i j => .int (g i j)) (fIc c g) := fun G H x y d e z Q s hx hy hf q => by
  unfold fIc at hf
  split at hf
  · split at hf
    · rename_i h
      cases hf
      exact ⟨_, _, dpt_int hx, dpt_int hy, hc _ _ h, q _ H G (Gr.refl s) (.int _)⟩
    · cases hf
  · cases hf
def cMul (i j : Int) : Bool := decide (i.natAbs < 2 ^ 64) || decide (j.natAbs < 2 ^ 64)
theorem cMul_ok (i j : Int) (h : cMul i j = true) : CMul i j := by
  unfold cMul at h
  rcases Bool.or_eq_true_iff.mp h with h | h
  · have := of_decide_eq_true h
    left; constructor <;> omega
  · have := of_decide_eq_true h
    right; constructor <;> omega
def cDiv (_ j : Int) : Bool := decide (j ≠ 0 ∧ j.natAbs < 1073741824)
def cMod (_ j : Int) : Bool := decide (j ≠ 0)
def cPow (i j : Int) : Bool := decide (0 ≤ j ∧ j ≤ 1000000 ∧ i.natAbs < 2 ^ 64)
def cShr (_ j : Int) : Bool := decide (0 ≤ j)
def fAddI := fI fun i j => i + j
def fSub := fI fun i j => i - j
def fMul := fIc cMul fun i j => i * j
def fDiv := fIc cDiv fun i j => i.fdiv j
def fMod := fIc cMod fun i j => i.fmod j
def fPow := fIc cPow fun i j => i ^ j.toNat
def fShl := fIc cPow fun i j => i * 2 ^ j.toNat
def fShr := fIc cShr fun i j => i / 2 ^ j.toNat
def fAnd := fI Builtin.bitAnd
def fOr := fI Builtin.bitOr
def fXor := fI Builtin.bitXor
def fLt := fB fun i j => decide (i < j)
def fLe := fB fun i j => decide (i ≤ j)
def fGt := fB fun i j => decide (j < i)
def fGe := fB fun i j => decide (j ≤ i)
section
variable {K : PySem.W.Frag}
theorem ad_addI : Ad2 K (rI0 fun i j => .int (i + j)) fAddI := ad_I
theorem ad_sub : Ad2 K (rI0 fun i j => .int (i - j)) fSub := ad_I
theorem ad_mul : Ad2 K (rI CMul fun i j => .int (i * j)) fMul := ad_Ic cMul_ok
theorem ad_div : Ad2 K (rI CDivN fun i j => .int (i.fdiv j)) fDiv := ad_Ic fun i j h => by simpa [cDiv, CDivN] using h
theorem ad_mod : Ad2 K (rI (fun _ j => j ≠ 0) fun i j => .int (i.fmod j)) fMod := ad_Ic fun i j h => by unfold cMod at h; exact of_decide_eq_true h
theorem ad_pow : Ad2 K (rI CPow fun i j => .int (i ^ j.toNat)) fPow := ad_Ic fun i j h => by simpa [cPow, CPow] using h
theorem ad_shl : Ad2 K (rI CPow fun i j => .int (i * 2 ^ j.toNat)) fShl := ad_Ic fun i j h => by simpa [cPow, CPow] using h
theorem ad_shr : Ad2 K (rI (fun _ j => 0 ≤ j) fun i j => .int (i / 2 ^ j.toNat)) fShr := ad_Ic fun i j h => by unfold cShr at h; exact of_decide_eq_true h
theorem ad_and : Ad2 K (rI0 fun i j => .int (Builtin.bitAnd i j)) fAnd := ad_I
theorem ad_or : Ad2 K (rI0 fun i j => .int (Builtin.bitOr i j)) fOr := ad_I
theorem ad_xor : Ad2 K (rI0 fun i j => .int (Builtin.bitXor i j)) fXor := ad_I
theorem ad_lt : Ad2 K (rI0 fun i j => .bl (decide (i < j))) fLt := ad_B
theorem ad_le : Ad2 K (rI0 fun i j => .bl (decide (i ≤ j))) fLe := ad_B
theorem ad_gt : Ad2 K (rI0 fun i j => .bl (decide (j < i))) fGt := ad_B
theorem ad_ge : Ad2 K (rI0 fun i j => .bl (decide (j ≤ i))) fGe := ad_B
end
/-- -x -/
def fNeg : D → Option D
  | .int i => some (.int (-i))
  | _ => none
theorem ad_neg {K : PySem.W.Frag} : Ad1 K (rU fun i => .int (-i)) fNeg := fun G H x d z Q s hx hf q => by
  unfold fNeg at hf
  split at hf
  · cases hf
    exact ⟨_, dpt_int hx, q _ H G (Gr.refl s) (.int _)⟩
  · cases hf

/-! ### + of ints, texts, tuples -/
def fAdd : D → D → Option D
  | .int i, .int j => some (.int (i + j))
  | .str a, .str b => if a.length + b.length ≤ 1000000 then some (.str (a ++ b)) else none
  | .tuple a, .tuple b => if a.length + b.length ≤ 1000000 then some (.tuple (a ++ b)) else none
  | _, _ => none
def rAddP (K : PySem.W.Frag) : R2 := fun x y H Q => (rI0 (fun i j => .int (i + j)) x y H Q ∨ (∃ i j, x = .str i ∧ y = .str j ∧ i.length + j.length ≤ sizeLine ∧ Q (.str (i ++ j)) H)) ∨ rCatA K x y H Q
theorem op_addP {X : Cx} : OpR X (binaryOp .Add) (rAddP X.K) := (OpR.or (OpR.or op_add op_add_str) op_catA)
theorem ad_add {K : PySem.W.Frag} : Ad2 K (rAddP K) fAdd := fun G H x y d e z Q s hx hy hf q => by
  unfold fAdd at hf
  split at hf
  · cases hf
    exact .inl (.inl ⟨_, _, dpt_int hx, dpt_int hy, q _ H G (Gr.refl s) (.int _)⟩)
  · split at hf
    · rename_i hl
      cases hf
      exact .inl (.inr ⟨_, _, dpt_str hx, dpt_str hy, size_ok hl, q _ H G (Gr.refl s) (.str _)⟩)
    · cases hf
  · split at hf
    · rename_i hl
      cases hf
      obtain ⟨a, vs, rfl, h1, h2⟩ := dpt_tuple hx
      obtain ⟨b, ws, rfl, h3, h4⟩ := dpt_tuple hy
      refine .inr ⟨a, b, vs, ws, rfl, rfl, same_sqt s h1, same_sqt s h3, size_ok (by rw [h2.len, h4.len]; exact hl), fun e => ?_, fun e1 e2 => ?_, fun _ _ p hp => ?_⟩
      · subst e
        cases h2
        exact q _ H G (Gr.refl s) (.tup h3 h4)
      · subst e2
        cases h4
        rw [List.append_nil] at q
        exact q _ H G (Gr.refl s) (.tup h1 h2)
      · exact q _ _ _ (Gr.new s hp) (.tup (SqT.of upd_same) (dpAll_mono (Gr.new s hp).g (h2.app h4)))
    · cases hf
  · cases hf

/-! ### ==, != -/
def fEq : D → D → Option D
  | .int a, .int b => some (.bool (decide (a = b)))
  | .bool a, .bool b => some (.bool (decide (a = b)))
  | .str a, .str b => some (.bool (decide (a = b)))
  | .none, .none => some (.bool true)
  | d, e => if SeqAt.shaped d = true ∧ SeqAt.shaped e = true then some (.bool (PyData.eqv d e)) else none
def fNe : D → D → Option D
  | .int a, .int b => some (.bool (!decide (a = b)))
  | .bool a, .bool b => some (.bool (!decide (a = b)))
  | .str a, .str b => some (.bool (!decide (a = b)))
  | .none, .none => some (.bool false)
  | d, e => if SeqAt.shaped d = true ∧ SeqAt.shaped e = true then some (.bool (!PyData.eqv d e)) else none
def rEqP (K : PySem.W.Frag) : R2 := fun x y H Q => rEq x y H Q ∨ rEqD K x y H Q
def rNeP (K : PySem.W.Frag) : R2 := fun x y H Q => rNe x y H Q ∨ rNeD K x y H Q
theorem op_eqP {X : Cx} (hu : X.A.units + 64 < cLine) : OpR X (compareOp .Eq) (rEqP X.K) := OpR.or op_eq (op_eqD hu)
theorem op_neP {X : Cx} (hu : X.A.units + 64 < cLine) : OpR X (compareOp .NotEq) (rNeP X.K) := OpR.or op_ne (op_neD hu)
theorem dec_V_int {a b : Int} : decide (V.int a = V.int b) = decide (a = b) := by
  by_cases h : a = b
  · subst h; simp
  · rw [decide_eq_false h, decide_eq_false (fun z => h (V.int.inj z))]
theorem dec_V_bl {a b : Bool} : decide (V.bl a = V.bl b) = decide (a = b) := by
  by_cases h : a = b
  · subst h; simp
  · rw [decide_eq_false h, decide_eq_false (fun z => h (V.bl.inj z))]
theorem dec_V_str {a b : Str} : decide (V.str a = V.str b) = decide (a = b) := by
  by_cases h : a = b
  · subst h; simp
  · rw [decide_eq_false h, decide_eq_false (fun z => h (V.str.inj z))]
theorem ad_eq {K : PySem.W.Frag} : Ad2 K (rEqP K) fEq := fun G H x y d e z Q s hx hy hf q => by
  unfold fEq at hf
  split at hf
  · cases hf
    rw [dpt_int hx, dpt_int hy]
    exact .inl ⟨rfl, by rw [dec_V_int]; exact q _ H G (Gr.refl s) (.bl _)⟩
  · cases hf
    rw [dpt_bool hx, dpt_bool hy]
    exact .inl ⟨rfl, by rw [dec_V_bl]; exact q _ H G (Gr.refl s) (.bl _)⟩
  · cases hf
    rw [dpt_str hx, dpt_str hy]
    exact .inl ⟨rfl, by rw [dec_V_str]; exact q _ H G (Gr.refl s) (.bl _)⟩
  · cases hf
    rw [dpt_none hx, dpt_none hy]
    exact .inl ⟨rfl, q _ H G (Gr.refl s) (.bl _)⟩
  · split at hf
    · rename_i h
      cases hf
      exact .inr ⟨_, _, hx.dp s, hy.dp s, h.1, h.2, q _ H G (Gr.refl s) (.bl _)⟩
    · cases hf
theorem ad_ne {K : PySem.W.Frag} : Ad2 K (rNeP K) fNe := fun G H x y d e z Q s hx hy hf q => by
  unfold fNe at hf
  split at hf
  · cases hf
    rw [dpt_int hx, dpt_int hy]
    exact .inl ⟨rfl, by rw [dec_V_int]; exact q _ H G (Gr.refl s) (.bl _)⟩
  · cases hf
    rw [dpt_bool hx, dpt_bool hy]
    exact .inl ⟨rfl, by rw [dec_V_bl]; exact q _ H G (Gr.refl s) (.bl _)⟩
  · cases hf
    rw [dpt_str hx, dpt_str hy]
    exact .inl ⟨rfl, by rw [dec_V_str]; exact q _ H G (Gr.refl s) (.bl _)⟩
  · cases hf
    rw [dpt_none hx, dpt_none hy]
    exact .inl ⟨rfl, q _ H G (Gr.refl s) (.bl _)⟩
  · split at hf
    · rename_i h
      cases hf
      exact .inr ⟨_, _, hx.dp s, hy.dp s, h.1, h.2, q _ H G (Gr.refl s) (.bl _)⟩
    · cases hf

/-! ### is None -/
def isNoneD : D → Bool
  | .none => true
  | _ => false
def fIsN : D → D → Option D
  | d, .none => some (.bool (isNoneD d))
  | _, _ => none
def fNotN : D → D → Option D
  | d, .none => some (.bool (!isNoneD d))
  | _, _ => none
theorem dec_none {K : PySem.W.Frag} {H : Hp} {x : V} {d : D} (h : Dp K H x d) : decide (x = V.non) = isNoneD d := by
  cases h <;> rfl
theorem ad_isN {K : PySem.W.Frag} : Ad2 K (fun x y H Q => y = .non ∧ Q (.bl (decide (x = .non))) H) fIsN := fun G H x y d e z Q s hx hy hf q => by
  unfold fIsN at hf
  split at hf
  · cases hf
    exact ⟨dpt_none hy, by rw [dec_none (hx.dp s)]; exact q _ H G (Gr.refl s) (.bl _)⟩
  · cases hf
theorem ad_notN {K : PySem.W.Frag} : Ad2 K (fun x y H Q => y = .non ∧ Q (.bl (!decide (x = .non))) H) fNotN := fun G H x y d e z Q s hx hy hf q => by
  unfold fNotN at hf
  split at hf
  · cases hf
    exact ⟨dpt_none hy, by rw [dec_none (hx.dp s)]; exact q _ H G (Gr.refl s) (.bl _)⟩
  · cases hf

/-! ### isinstance -/
def tyName : D → String
  | .none => "NoneType"
  | .bool _ => "bool"
  | .int _ => "int"
  | .str _ => "str"
  | .list _ => "list"
  | .tuple _ => "tuple"
  | .dict _ => "dict"
theorem tyX_of {K : PySem.W.Frag} {H : Hp} {x : V} {d : D} (h : Dp K H x d) : TyX K H x (.type (tyName d)) := by
  cases h with
  | non => exact .base .non
  | bl b => exact .base (.bl b)
  | int i => exact .base (.int i)
  | str x => exact .base (.str x)
  | lst hl ha =>
    rcases hl with (hl | ⟨o, hl⟩) | ⟨o, its, n, hk, hc, _⟩
    · exact .base (.lst hl)
    · exact .base (.frz hl)
    · exact .kList hk hc
  | tup hl ha =>
    rcases hl with (hl | ⟨o, hl⟩) | ⟨o, its, n, hk, hc, _⟩
    · exact .base (.tup hl)
    · exact .fTuple hl
    · exact .kTuple hk hc
/-- which of a value's classes are the type t -/
def isTy (t : String) : D → Bool
  | .bool _ => t == "bool" || t == "int"
  | d => t == tyName d
def isTys (ts : List String) (d : D) : Bool := ts.any fun t => isTy t d
theorem kit_tab {t : String} (ht : t ∈ ["int", "bool", "str", "list", "tuple"]) (d : D) : kitB (tyName d) t = some (isTy t d) := by
  simp only [List.mem_cons, List.not_mem_nil, or_false] at ht
  rcases ht with rfl | rfl | rfl | rfl | rfl <;> cases d <;> simp only [tyName, isTy] <;> decide +kernel
theorem kit_any {K : PySem.W.Frag} {d : D} : ∀ {ts : List String}, (∀ t ∈ ts, t ∈ ["int", "bool", "str", "list", "tuple"]) → PySem.W.kitAny K (.type (tyName d)) (ts.map fun t => .type t) = some (isTys ts d)
  | [], _ => rfl
  | t :: ts, h => by
    refine kitAny_cons (kit_ty (kit_tab (h t List.mem_cons_self) d)) (fun e => ?_) fun e => ?_
    · rw [kit_any fun x hx => h x (List.mem_cons_of_mem _ hx)]
      unfold isTys
      rw [List.any_cons, e, Bool.false_or]
    · unfold isTys
      rw [List.any_cons, e, Bool.true_or]
def eIsi (ts : List String) (a : MO) : ME := bnd a fun x => op1 (fun d => some (.bool (isTys ts d))) x
section
variable {X : Cx} {e : Expr} {pos p p1 p2 : Pos} {oa : MO}
theorem de_isi {x : Str} {t : String} (ht : t ∈ ["int", "bool", "str", "list", "tuple"]) (hg : Gl X "isinstance") (hm : X.mg "isinstance" = none) (ha : PE X e (tO X.K oa)) (hgx : Gl X x) (hmx : X.mg x = none) (hvx : bootBuiltins x = some (.type t)) (hnx : x ≠ "__name__" := by decide) (hdx : (x == ("__debug__" : Str)) = false := by decide)
    (he : starEach [e, .Name x p2] X.env = (false, eval e X.env) :: starEach [.Name x p2] X.env := by rfl) (he2 : starEach [.Name x p2] X.env = (false, eval (.Name x p2) X.env) :: starEach [] X.env := by rfl) (hpl : (backTo pos (starEach [.Name x p2] X.env)).any (·.1) = false := by rfl) :
    PE X (.Call (.Name "isinstance" p1) [e, .Name x p2] [] pos) (tM X.K (eIsi [t] oa)) := by
  refine PE.imp (pe_callB call_isi hg hm (by decide +kernel) (pa_cons ha (pa_cons (pe_bltn (v := .ty t) hgx hmx hvx rfl hnx hdx) pa_nil he2) he) (by decide) (by decide) he hpl) fun σ H Q ⟨Z, S, G, d, S', R, e, q⟩ => ?_
  obtain ⟨r, S1, e1, e2⟩ := bnd_some e
  obtain ⟨rfl, d1, h1, h2⟩ := op1_some e2
  cases h2
  refine ⟨Z, S, G, r, _, R, e1, fun v H1 G1 R1 s1 k => ⟨v, .ty t, .type (tyName d1), .type t, isTy t d1, rfl, .ty t, tyX_of ((rs_ok R1 k h1).dp R1.sub), kit_ty (kit_tab ht d1), ?_⟩⟩
  have eq : isTys [t] d1 = isTy t d1 := by unfold isTys; rw [List.any_cons, List.any_nil, Bool.or_false]
  rw [eq] at q
  exact q _ H1 G1 R1 s1 (.bl _)
theorem de_isi2 {x y : Str} {t u : String} {kt : Nat} {pt p3 : Pos} (ht : t ∈ ["int", "bool", "str", "list", "tuple"]) (hu : u ∈ ["int", "bool", "str", "list", "tuple"]) (hg : Gl X "isinstance") (hm : X.mg "isinstance" = none) (ha : PE X e (tO X.K oa))
    (hgx : Gl X x) (hmx : X.mg x = none) (hvx : bootBuiltins x = some (.type t)) (hgy : Gl X y) (hmy : X.mg y = none) (hvy : bootBuiltins y = some (.type u))
    (hnx : x ≠ "__name__" := by decide) (hdx : (x == ("__debug__" : Str)) = false := by decide) (hny : y ≠ "__name__" := by decide) (hdy : (y == ("__debug__" : Str)) = false := by decide)
    (he : starEach [e, .Tuple [.Name x p2, .Name y p3] kt pt] X.env = (false, eval e X.env) :: starEach [.Tuple [.Name x p2, .Name y p3] kt pt] X.env := by rfl)
    (he2 : starEach [.Tuple [.Name x p2, .Name y p3] kt pt] X.env = (false, eval (.Tuple [.Name x p2, .Name y p3] kt pt) X.env) :: starEach [] X.env := by rfl)
    (he3 : starEach [.Name x p2, .Name y p3] X.env = (false, eval (.Name x p2) X.env) :: starEach [.Name y p3] X.env := by rfl) (he4 : starEach [.Name y p3] X.env = (false, eval (.Name y p3) X.env) :: starEach [] X.env := by rfl)
    (hpl : (backTo pos (starEach [.Tuple [.Name x p2, .Name y p3] kt pt] X.env)).any (·.1) = false := by rfl) :
    PE X (.Call (.Name "isinstance" p1) [e, .Tuple [.Name x p2, .Name y p3] kt pt] [] pos) (tM X.K (eIsi [t, u] oa)) := by
  refine PE.imp (pe_callB call_isiT hg hm (by decide +kernel) (pa_cons ha (pa_cons (pe_tup (pa_cons (pe_bltn (v := .ty t) hgx hmx hvx rfl hnx hdx) (pa_cons (pe_bltn (v := .ty u) hgy hmy hvy rfl hny hdy) pa_nil he4) he3)) pa_nil he2) he) (by decide) (by decide) he hpl) fun σ H Q ⟨Z, S, G, d, S', R, e, q⟩ => ?_
  obtain ⟨r, S1, e1, e2⟩ := bnd_some e
  obtain ⟨rfl, d1, h1, h2⟩ := op1_some e2
  cases h2
  refine ⟨Z, S, G, r, _, R, e1, fun v H1 G1 R1 s1 k => ⟨(by show 2 ≤ sizeLine; decide), fun p hp => ?_⟩⟩
  have g := Gr.newH (o := .tup [.ty t, .ty u]) R1.sub hp
  have R2 := R1.gr g
  refine ⟨v, p, [.ty t, .ty u], .type (tyName d1), [.type t, .type u], isTys [t, u] d1, rfl, upd_same, .cons (.ty t) (.cons (.ty u) .nil), tyX_of ((rs_ok R2 (k.mono g.g) h1).dp R2.sub), kit_any (ts := [t, u]) fun z hz => ?_, q _ _ G1 R2 s1 (.bl _)⟩
  rcases List.mem_cons.mp hz with rfl | hz
  · exact ht
  · rcases List.mem_cons.mp hz with rfl | hz
    · exact hu
    · cases hz
end

/-! ### len, tuple, list, all, any, sum, max, min, abs, int, sorted -/
def lenD : List D → Option D
  | [.list ds] => some (.int ds.length)
  | [.tuple ds] => some (.int ds.length)
  | [.str x] => if x.length ≤ 1000000 then some (.int x.length) else none
  | _ => none
theorem dpTs1 {K : PySem.W.Frag} {G H : Hp} {vs : List V} {d : D} (h : DpTs K G H vs [d]) : ∃ v, vs = [v] ∧ DpT K G H v d := by
  cases h with
  | cons a b => cases b; exact ⟨_, rfl, a⟩
theorem dpTs2 {K : PySem.W.Frag} {G H : Hp} {vs : List V} {d e : D} (h : DpTs K G H vs [d, e]) : ∃ v w, vs = [v, w] ∧ DpT K G H v d ∧ DpT K G H w e := by
  cases h with
  | cons a b => cases b with
    | cons b c => cases c; exact ⟨_, _, rfl, a, b⟩
theorem ad_len {K : PySem.W.Frag} : AdN K (fun xs H Q => ∃ x n, xs = [x] ∧ LenV K x H n ∧ Q (.int n) H) lenD := fun G H xs ds z Q s hx hf q => by
  unfold lenD at hf
  split at hf
  · cases hf
    obtain ⟨v, rfl, h⟩ := dpTs1 hx
    obtain ⟨a, vs, rfl, h1, h2⟩ := dpt_list s h
    refine ⟨_, vs.length, rfl, .inl ⟨vs, h1, rfl⟩, ?_⟩
    rw [h2.len]
    exact q _ H G (Gr.refl s) (.int _)
  · cases hf
    obtain ⟨v, rfl, h⟩ := dpTs1 hx
    obtain ⟨a, vs, rfl, h1, h2⟩ := dpt_tuple h
    refine ⟨_, vs.length, rfl, .inr ⟨vs, same_sqt s h1, rfl⟩, ?_⟩
    rw [h2.len]
    exact q _ H G (Gr.refl s) (.int _)
  · split at hf
    · rename_i hl
      cases hf
      obtain ⟨v, rfl, h⟩ := dpTs1 hx
      rw [dpt_str h]
      exact ⟨_, _, rfl, ⟨size_ok hl, rfl⟩, q _ H G (Gr.refl s) (.int _)⟩
    · cases hf
  · cases hf
/-- tuple(x) -/
def tupleD : List D → Option D
  | [.list ds] => some (.tuple ds)
  | [.tuple ds] => some (.tuple ds)
  | _ => none
theorem ad_tuple {K : PySem.W.Frag} : AdN K (fun xs H Q => ∃ p ys, xs = [.ref p] ∧ ((SqL K H p ys ∧ ∀ l, H l = none → Q (.ref l) (upd H l (.tup ys))) ∨ (SqT K H p ys ∧ Q (.ref p) H))) tupleD := fun G H xs ds z Q s hx hf q => by
  unfold tupleD at hf
  split at hf
  · cases hf
    obtain ⟨v, rfl, h⟩ := dpTs1 hx
    obtain ⟨a, vs, rfl, h1, h2⟩ := dpt_list s h
    refine ⟨_, vs, rfl, .inl ⟨h1, fun l hl => ?_⟩⟩
    exact q _ _ _ (Gr.new s hl) (.tup (SqT.of upd_same) (dpAll_mono (Gr.new s hl).g h2))
  · cases hf
    obtain ⟨v, rfl, h⟩ := dpTs1 hx
    obtain ⟨a, vs, rfl, h1, h2⟩ := dpt_tuple h
    exact ⟨_, vs, rfl, .inr ⟨same_sqt s h1, q _ H G (Gr.refl s) (.tup h1 h2)⟩⟩
  · cases hf
/-- list(x): a new list -/
def listD : List D → Option (List D)
  | [.list ds] => some ds
  | [.tuple ds] => some ds
  | _ => none
theorem ad_list {K : PySem.W.Frag} : AdNL K (fun xs H Q => ∃ p ys, xs = [.ref p] ∧ (SqL K H p ys ∨ SqT K H p ys) ∧ ∀ l, H l = none → Q (.ref l) (upd H l (.lst ys))) listD := fun G H xs ds z Q s hx hf q => by
  unfold listD at hf
  split at hf
  · cases hf
    obtain ⟨v, rfl, h⟩ := dpTs1 hx
    obtain ⟨a, vs, rfl, h1, h2⟩ := dpt_list s h
    exact ⟨_, vs, rfl, .inl h1, fun l hl => q l vs hl h2⟩
  · cases hf
    obtain ⟨v, rfl, h⟩ := dpTs1 hx
    obtain ⟨a, vs, rfl, h1, h2⟩ := dpt_tuple h
    exact ⟨_, vs, rfl, .inr (same_sqt s h1), fun l hl => q l vs hl h2⟩
  · cases hf
/-- the ints, the truth values of a list -/
def intsOf : List D → Option (List Int)
  | [] => some []
  | .int i :: ds => (intsOf ds).map (i :: ·)
  | _ :: _ => none
def boolsOf : List D → Option (List Bool)
  | [] => some []
  | .bool i :: ds => (boolsOf ds).map (i :: ·)
  | _ :: _ => none
theorem intsOf_some : ∀ {ds : List D} {ns : List Int}, intsOf ds = some ns → ds = ns.map .int
  | [], ns, h => by cases h; rfl
  | d :: ds, ns, h => by
    cases d with
    | int i =>
      obtain ⟨ms, h1, h2⟩ := Option.map_eq_some_iff.mp (show (intsOf ds).map (i :: ·) = some ns from h)
      subst h2
      rw [intsOf_some h1]
      rfl
    | _ => cases h
theorem boolsOf_some : ∀ {ds : List D} {ns : List Bool}, boolsOf ds = some ns → ds = ns.map .bool
  | [], ns, h => by cases h; rfl
  | d :: ds, ns, h => by
    cases d with
    | bool i =>
      obtain ⟨ms, h1, h2⟩ := Option.map_eq_some_iff.mp (show (boolsOf ds).map (i :: ·) = some ns from h)
      subst h2
      rw [boolsOf_some h1]
      rfl
    | _ => cases h
theorem intsOf_map : ∀ (ns : List Int), intsOf (ns.map .int) = some ns
  | [] => rfl
  | n :: ns => by show (intsOf (ns.map .int)).map (n :: ·) = _; rw [intsOf_map ns]; rfl
theorem boolsOf_map : ∀ (ns : List Bool), boolsOf (ns.map .bool) = some ns
  | [] => rfl
  | n :: ns => by show (boolsOf (ns.map .bool)).map (n :: ·) = _; rw [boolsOf_map ns]; rfl
def allD : List D → Option D
  | [.list ds] => (boolsOf ds).map fun bs => .bool (bs.all id)
  | _ => none
def anyD : List D → Option D
  | [.list ds] => (boolsOf ds).map fun bs => .bool (bs.any id)
  | _ => none
def sumD : List D → Option D
  | [.list ds] => (intsOf ds).map fun ns => .int ns.sum
  | _ => none
def maxL : List Int → Int
  | [] => 0
  | [x] => x
  | x :: y :: r => max x (maxL (y :: r))
def minL : List Int → Int
  | [] => 0
  | [x] => x
  | x :: y :: r => min x (minL (y :: r))
theorem maxL_mem : ∀ {ns : List Int}, ns ≠ [] → maxL ns ∈ ns
  | [x], _ => by simp [maxL]
  | x :: y :: r, _ => by
    have := maxL_mem (ns := y :: r) (by simp)
    show max x (maxL (y :: r)) ∈ _
    rcases Int.le_total x (maxL (y :: r)) with h | h
    · rw [Int.max_eq_right h]; exact List.mem_cons_of_mem _ this
    · rw [Int.max_eq_left h]; exact List.mem_cons_self
theorem maxL_le : ∀ {ns : List Int}, ∀ z ∈ ns, z ≤ maxL ns
  | [x], z, h => by simp at h; simp [maxL, h]
  | x :: y :: r, z, h => by
    show z ≤ max x (maxL (y :: r))
    rcases List.mem_cons.mp h with rfl | h
    · exact Int.le_max_left _ _
    · exact Int.le_trans (maxL_le z h) (Int.le_max_right _ _)
theorem minL_mem : ∀ {ns : List Int}, ns ≠ [] → minL ns ∈ ns
  | [x], _ => by simp [minL]
  | x :: y :: r, _ => by
    have := minL_mem (ns := y :: r) (by simp)
    show min x (minL (y :: r)) ∈ _
    rcases Int.le_total x (minL (y :: r)) with h | h
    · rw [Int.min_eq_left h]; exact List.mem_cons_self
    · rw [Int.min_eq_right h]; exact List.mem_cons_of_mem _ this
theorem minL_le : ∀ {ns : List Int}, ∀ z ∈ ns, minL ns ≤ z
  | [x], z, h => by simp at h; simp [minL, h]
  | x :: y :: r, z, h => by
    show min x (minL (y :: r)) ≤ z
    rcases List.mem_cons.mp h with rfl | h
    · exact Int.min_le_left _ _
    · exact Int.le_trans (Int.min_le_right _ _) (minL_le z h)
def maxD : List D → Option D
  | [.list ds] => (intsOf ds).bind fun ns => if ns.isEmpty then none else some (.int (maxL ns))
  | [.int i, .int j] => some (.int (if j > i then j else i))
  | _ => none
def minD : List D → Option D
  | [.list ds] => (intsOf ds).bind fun ns => if ns.isEmpty then none else some (.int (minL ns))
  | [.int i, .int j] => some (.int (if j < i then j else i))
  | _ => none
theorem dpt_ints {K : PySem.W.Frag} {G H : Hp} {v : V} {ns : List Int} (s : Same G H) (h : DpT K G H v (.list (ns.map .int))) : ∃ a, v = .ref a ∧ SqL K H a (ns.map V.int) := by
  obtain ⟨a, vs, rfl, h1, h2⟩ := dpt_list s h
  rw [h2.ints] at h1
  exact ⟨a, rfl, h1⟩
theorem dpt_bools {K : PySem.W.Frag} {G H : Hp} {v : V} {ns : List Bool} (s : Same G H) (h : DpT K G H v (.list (ns.map .bool))) : ∃ a, v = .ref a ∧ SqL K H a (ns.map V.bl) := by
  obtain ⟨a, vs, rfl, h1, h2⟩ := dpt_list s h
  rw [h2.bools] at h1
  exact ⟨a, rfl, h1⟩
theorem ad_all {K : PySem.W.Frag} : AdN K (rAll K) allD := fun G H xs ds z Q s hx hf q => by
  unfold allD at hf
  split at hf
  · obtain ⟨bs, h1, h2⟩ := Option.map_eq_some_iff.mp hf
    cases h2
    rw [boolsOf_some h1] at hx
    obtain ⟨v, rfl, h⟩ := dpTs1 hx
    obtain ⟨a, rfl, h3⟩ := dpt_bools s h
    exact ⟨a, bs, rfl, h3, q _ H G (Gr.refl s) (.bl _)⟩
  · cases hf
theorem ad_any {K : PySem.W.Frag} : AdN K (rAny K) anyD := fun G H xs ds z Q s hx hf q => by
  unfold anyD at hf
  split at hf
  · obtain ⟨bs, h1, h2⟩ := Option.map_eq_some_iff.mp hf
    cases h2
    rw [boolsOf_some h1] at hx
    obtain ⟨v, rfl, h⟩ := dpTs1 hx
    obtain ⟨a, rfl, h3⟩ := dpt_bools s h
    exact ⟨a, bs, rfl, h3, q _ H G (Gr.refl s) (.bl _)⟩
  · cases hf
theorem ad_sum {K : PySem.W.Frag} : AdN K (rSum K) sumD := fun G H xs ds z Q s hx hf q => by
  unfold sumD at hf
  split at hf
  · obtain ⟨bs, h1, h2⟩ := Option.map_eq_some_iff.mp hf
    cases h2
    rw [intsOf_some h1] at hx
    obtain ⟨v, rfl, h⟩ := dpTs1 hx
    obtain ⟨a, rfl, h3⟩ := dpt_ints s h
    exact ⟨a, bs, rfl, h3, q _ H G (Gr.refl s) (.int _)⟩
  · cases hf
def rMaxP (K : PySem.W.Frag) : List V → Hp → VK → Prop := fun xs H Q => rMax K xs H Q ∨ ∃ i j, xs = [.int i, .int j] ∧ Q (.int (if j > i then j else i)) H
def rMinP (K : PySem.W.Frag) : List V → Hp → VK → Prop := fun xs H Q => rMin K xs H Q ∨ ∃ i j, xs = [.int i, .int j] ∧ Q (.int (if j < i then j else i)) H
theorem cr_maxP {X : Cx} (hc : X.calm = true) : CallR X (.builtin "max") (rMaxP X.K) := CallR.or (cr_max hc) (call_max2 hc)
theorem cr_minP {X : Cx} (hc : X.calm = true) : CallR X (.builtin "min") (rMinP X.K) := CallR.or (cr_min hc) (call_min2 hc)
theorem ad_max {K : PySem.W.Frag} : AdN K (rMaxP K) maxD := fun G H xs ds z Q s hx hf q => by
  unfold maxD at hf
  split at hf
  · obtain ⟨ns, h1, h2⟩ := Option.bind_eq_some_iff.mp hf
    split at h2
    · cases h2
    · rename_i hne
      cases h2
      rw [intsOf_some h1] at hx
      obtain ⟨v, rfl, h⟩ := dpTs1 hx
      obtain ⟨a, rfl, h3⟩ := dpt_ints s h
      have hn : ns ≠ [] := fun z => hne (by rw [z]; rfl)
      refine .inl ⟨a, ns, rfl, h3, List.length_pos_iff.mpr hn, fun m hm hle => ?_⟩
      have e : m = maxL ns := Int.le_antisymm (maxL_le m hm) (hle _ (maxL_mem hn))
      rw [e]
      exact q _ H G (Gr.refl s) (.int _)
  · cases hf
    obtain ⟨v, w, rfl, h1, h2⟩ := dpTs2 hx
    rw [dpt_int h1, dpt_int h2]
    exact .inr ⟨_, _, rfl, q _ H G (Gr.refl s) (.int _)⟩
  · cases hf
theorem ad_min {K : PySem.W.Frag} : AdN K (rMinP K) minD := fun G H xs ds z Q s hx hf q => by
  unfold minD at hf
  split at hf
  · obtain ⟨ns, h1, h2⟩ := Option.bind_eq_some_iff.mp hf
    split at h2
    · cases h2
    · rename_i hne
      cases h2
      rw [intsOf_some h1] at hx
      obtain ⟨v, rfl, h⟩ := dpTs1 hx
      obtain ⟨a, rfl, h3⟩ := dpt_ints s h
      have hn : ns ≠ [] := fun z => hne (by rw [z]; rfl)
      refine .inl ⟨a, ns, rfl, h3, List.length_pos_iff.mpr hn, fun m hm hle => ?_⟩
      have e : m = minL ns := Int.le_antisymm (hle _ (minL_mem hn)) (minL_le m hm)
      rw [e]
      exact q _ H G (Gr.refl s) (.int _)
  · cases hf
    obtain ⟨v, w, rfl, h1, h2⟩ := dpTs2 hx
    rw [dpt_int h1, dpt_int h2]
    exact .inr ⟨_, _, rfl, q _ H G (Gr.refl s) (.int _)⟩
  · cases hf
def absD : List D → Option D
  | [.int i] => some (.int (if i < 0 then -i else i))
  | _ => none
theorem ad_abs {K : PySem.W.Frag} : AdN K (fun xs H Q => ∃ i, xs = [.int i] ∧ Q (.int (if i < 0 then -i else i)) H) absD := fun G H xs ds z Q s hx hf q => by
  unfold absD at hf
  split at hf
  · cases hf
    obtain ⟨v, rfl, h⟩ := dpTs1 hx
    rw [dpt_int h]
    exact ⟨_, rfl, q _ H G (Gr.refl s) (.int _)⟩
  · cases hf
def intD : List D → Option D
  | [.int i] => some (.int i)
  | [.bool b] => some (.int (if b then 1 else 0))
  | _ => none
theorem ad_int {K : PySem.W.Frag} : AdN K (fun xs H Q => (∃ i, xs = [.int i] ∧ Q (.int i) H) ∨ ∃ k, xs = [.bl k] ∧ Q (.int (if k then 1 else 0)) H) intD := fun G H xs ds z Q s hx hf q => by
  unfold intD at hf
  split at hf
  · cases hf
    obtain ⟨v, rfl, h⟩ := dpTs1 hx
    rw [dpt_int h]
    exact .inl ⟨_, rfl, q _ H G (Gr.refl s) (.int _)⟩
  · cases hf
    obtain ⟨v, rfl, h⟩ := dpTs1 hx
    rw [dpt_bool h]
    exact .inr ⟨_, rfl, q _ H G (Gr.refl s) (.int _)⟩
  · cases hf
end PD
namespace PD
open PySem PySem.Spec PyProof.Rows L2
/-! ### in, not in: flat items -/
def flD : D → Option V
  | .none => some .non
  | .bool b => some (.bl b)
  | .int i => some (.int i)
  | .str s => some (.str s)
  | _ => none
def flsD : List D → Option (List V)
  | [] => some []
  | d :: ds => (flD d).bind fun v => (flsD ds).map fun vs => v :: vs
theorem fl_of {K : PySem.W.Frag} {H : Hp} {x w : V} {d : D} (h : Dp K H x d) (e : flD d = some w) : x = w ∧ flatV w = true := by
  cases h <;> first | (cases e; exact ⟨rfl, rfl⟩) | cases e
theorem fls_of {K : PySem.W.Frag} {H : Hp} : ∀ {xs ws : List V} {ds : List D}, DpAll K H xs ds → flsD ds = some ws → xs = ws ∧ ws.all flatV = true
  | _, _, _, .nil, e => by cases e; exact ⟨rfl, rfl⟩
  | _, _, _, .cons h t, e => by
    obtain ⟨w, e1, e2⟩ := Option.bind_eq_some_iff.mp (show (flD _).bind _ = some _ from e)
    obtain ⟨ws, e3, e4⟩ := Option.map_eq_some_iff.mp e2
    subst e4
    obtain ⟨rfl, f1⟩ := fl_of h e1
    obtain ⟨rfl, f2⟩ := fls_of t e3
    exact ⟨rfl, by rw [List.all_cons, f1, f2]; rfl⟩
def itemsD : D → Option (List D)
  | .list ds => some ds
  | .tuple ds => some ds
  | _ => none
def fIn : D → D → Option D := fun d e => (flD d).bind fun v => (itemsD e).bind fun ds => (flsD ds).map fun vs => .bool (inV v vs)
def fNotIn : D → D → Option D := fun d e => (flD d).bind fun v => (itemsD e).bind fun ds => (flsD ds).map fun vs => .bool (!inV v vs)
theorem items_of {K : PySem.W.Frag} {G H : Hp} {y : V} {e : D} {ds : List D} {vs : List V} (s : Same G H) (h : DpT K G H y e) (e1 : itemsD e = some ds) (e2 : flsD ds = some vs) : ∃ p, y = .ref p ∧ (SqL K H p vs ∨ SqT K H p vs) ∧ vs.all flatV = true := by
  unfold itemsD at e1
  split at e1
  · cases e1
    obtain ⟨a, ws, rfl, h1, h2⟩ := dpt_list s h
    obtain ⟨rfl, f⟩ := fls_of h2 e2
    exact ⟨a, rfl, .inl h1, f⟩
  · cases e1
    obtain ⟨a, ws, rfl, h1, h2⟩ := dpt_tuple h
    obtain ⟨rfl, f⟩ := fls_of h2 e2
    exact ⟨a, rfl, .inr (same_sqt s h1), f⟩
  · cases e1
theorem ad_in {K : PySem.W.Frag} : Ad2 K (rIn K false) fIn := fun G H x y d e z Q s hx hy hf q => by
  obtain ⟨v, e1, e2⟩ := Option.bind_eq_some_iff.mp hf
  obtain ⟨ds, e3, e4⟩ := Option.bind_eq_some_iff.mp e2
  obtain ⟨vs, e5, e6⟩ := Option.map_eq_some_iff.mp e4
  subst e6
  obtain ⟨rfl, f1⟩ := fl_of (hx.dp s) e1
  obtain ⟨p, rfl, h1, f2⟩ := items_of s hy e3 e5
  exact ⟨p, vs, rfl, h1, f1, f2, q _ H G (Gr.refl s) (.bl _)⟩
theorem ad_notIn {K : PySem.W.Frag} : Ad2 K (rIn K true) fNotIn := fun G H x y d e z Q s hx hy hf q => by
  obtain ⟨v, e1, e2⟩ := Option.bind_eq_some_iff.mp hf
  obtain ⟨ds, e3, e4⟩ := Option.bind_eq_some_iff.mp e2
  obtain ⟨vs, e5, e6⟩ := Option.map_eq_some_iff.mp e4
  subst e6
  obtain ⟨rfl, f1⟩ := fl_of (hx.dp s) e1
  obtain ⟨p, rfl, h1, f2⟩ := items_of s hy e3 e5
  exact ⟨p, vs, rfl, h1, f1, f2, q _ H G (Gr.refl s) (.bl _)⟩
end PD

/-! PDIter: enumerate of lists and tuples, zip, ranges with a step. -/
namespace PD
open PySem PySem.Spec PyProof.Rows L2
open AutoSeq1 (wpAny_loadPart')

/-! ### enumerate(tuple), at the library's level -/
theorem meets_enumerate_newT (l : Addr) (items : Array Value) (n : Nat) (dct : Option Addr) (sl : Array (Option Value)) :
    Meets (Builtin.«enumerate.__new__» ⟨[.type "enumerate", .ref l], []⟩) (fun _ R s => s.heap.get? l = some { cls := .type "tuple", dict := dct, data := .seq items n, slots := sl } ∧
      R (.ok (.ret (.ref (s.heap.push { cls := .type "tuple_iterator", data := .fields #[.ref l, .int 0 0] }).objs.size)))
        { s with heap := (s.heap.push { cls := .type "tuple_iterator", data := .fields #[.ref l, .int 0 0] }).push { cls := .type "enumerate", data := .fields #[.none, .bool false, .ref s.heap.objs.size, rawInt 0, .none, .none] } }) :=
  .of_wp fun prog w A R s h => by
    obtain ⟨hp, g, d, tk, os⟩ := s; obtain ⟨hl, h⟩ := h
    have hsub := sub_enumerate
    have hL : Heap.IsTuple (Shared.heap ⟨hp, g, d, tk, os⟩) l items := ⟨_, hl, rfl, n, rfl⟩
    wp_walk using wpAny_loadPart' hl
    refine wpAny_stack_any fun st => wpAny_pure ?_
    split
    · rename_i c _ _ _ _ _
      cases (c == Value.type "enumerate")
      · wp_walk using wpAny_loadPart' hl, wpAny_pyIter_tuple hL
        exact ⟨_, rfl, h⟩
      · wp_walk using wpAny_loadPart' hl, wpAny_pyIter_tuple hL
        exact ⟨_, rfl, h⟩
    · wp_walk using wpAny_loadPart' hl, wpAny_pyIter_tuple hL
      exact ⟨_, rfl, h⟩
section
variable {prog : Program} {w : World} {A : Around} {E : Value → Shared → Prop} {s : Shared}
theorem draws_tuple {it t : Addr} {items : Array Value} (hh : A.handled = none) (hne : it ≠ t) : Draws prog w A it [it, t] items.size (fun i x => items[i]? = some x) (fun i h => h.IsTupleIter it t i ∧ h.IsTuple t items) where
  live := fun i h st => by obtain ⟨⟨o, e, _⟩, _⟩ := st; exact ⟨o, e⟩
  frame := fun i h h' st k => by
    obtain ⟨⟨o, e, c, d⟩, ⟨o2, e2, r⟩⟩ := st
    exact ⟨⟨o, k it (by simp) o e, c, d⟩, ⟨o2, k t (by simp) o2 e2, r⟩⟩
  item := fun i s Q E hi st hQ => by
    refine wpAny_nextOf_tuple_item st.1 st.2 (x := items[i]) (Array.getElem?_eq_getElem hi) fun h' hit sb => ?_
    exact hQ items[i] h' s.toks (Array.getElem?_eq_getElem hi) ⟨hit, by obtain ⟨o2, e2, r⟩ := st.2; exact ⟨o2, (sb.2 t (Ne.symm hne)).trans e2, r⟩⟩ sb
  done := fun s Q E st hE => wpAny_nextOf_tuple_end hh st.1 st.2 (Array.getElem?_eq_none (Nat.le_refl _)) hE
end

def IteT (K : PySem.W.Frag) (a : Addr) : It :=
  ⟨fun i H => ∃ (xs : List V) (x : V), SqT K H a xs ∧ xs[i]? = some x, fun i H v H' => ∃ T x, v = .ref T ∧ H T = none ∧ H' = upd H T (.tup [.int (i : Nat), x]) ∧ ∀ xs, SqT K H a xs → xs[i]? = some x, fun i H => ∃ xs : List V, SqT K H a xs ∧ xs.length ≤ i⟩
theorem enum_ne_tup {h : Heap} {e t it : Addr} {i : Int} {old : Value} {items : Array Value} (he : IsEnum h e it i old) (ht : h.IsTuple t items) : e ≠ t := fun z => by
  obtain ⟨o, ho, hc, _⟩ := ht
  have he' : h.get? e = _ := he
  rw [z, ho] at he'
  cases he'
  exact absurd hc (by show ¬ (Value.type "enumerate" = Value.type "tuple"); decide)
theorem iter_ne_tup {h : Heap} {t it : Addr} {i : Nat} {items : Array Value} (he : h.IsTupleIter it t i) (ht : h.IsTuple t items) : it ≠ t := fun z => by
  obtain ⟨o, ho, hc, _⟩ := ht
  obtain ⟨o', ho', hc', _⟩ := he
  rw [z, ho] at ho'
  cases ho'
  rw [hc] at hc'
  exact absurd hc' (by decide)
theorem turn_enumT {P : Program} {w : World} {K : PySem.W.Frag} {elts : List Expr} {kk : Nat} {tpos : Pos} (a e it : Addr) :
    Turn P w K (.Tuple elts kk tpos) (IteT K a) [e, it] e (fun i h => (∃ old, IsEnum h e it ((i : Nat) : Int) old) ∧ h.IsTupleIter it a i ∧ e ≠ it) where
  mem := by simp
  obj := fun i h st b hb => by
    obtain ⟨⟨old, he⟩, ⟨o, ho, hc, hd⟩, _⟩ := st
    have e' : b = e ∨ b = it := by simpa using hb
    rcases e' with z | z
    · rw [z]; exact ⟨_, he, fun v q => nomatch q⟩
    · rw [z]; exact ⟨o, ho, fun v q => by rw [hd] at q; cases q⟩
  keep := fun i h h' st k => let ⟨⟨old, he⟩, ⟨o, ho, hr⟩, hne⟩ := st; ⟨⟨old, k e (by simp) _ he⟩, ⟨o, k it (by simp) o ho, hr⟩, hne⟩
  item := by
    intro X hP hw hK hc i pins s σ H E I hf st hg
    subst hP hw hK
    obtain ⟨⟨old, he⟩, hit, hne⟩ := st
    obtain ⟨xs, x, hq, hx⟩ := hg
    obtain ⟨its, rv, p, hz⟩ := I.tuple hq
    have p : s.heap.IsTuple a its.toArray := p
    obtain ⟨u, hu, ru⟩ := rv.get hx
    have hel : e < s.heap.objs.size := Heap.lt_size he
    have hil : it < s.heap.objs.size := by obtain ⟨_, q, _⟩ := hit; exact Heap.lt_size q
    have hta : it ≠ a := iter_ne_tup hit p
    have hea : e ≠ a := enum_ne_tup he p
    have hlt : i < its.toArray.size := by
      have := (List.getElem?_eq_some_iff.mp hu).1
      simpa using this
    refine wpAny_pyNext_enum_itemD (draws_tuple (items := its.toArray) (I.ok.hd hc) hta) he ⟨hit, p⟩ hlt hne (by simp [hne, hea]) fun u' h' tk hu' ho hst hT hsz hk => ?_
    have eu : u' = u := by
      have : its.toArray[i]? = some u := by simpa using hu
      rw [hu'] at this
      exact Option.some.inj this
    subst eu
    refine ⟨_, rfl, wpAny_letOwnedTupleGo_enum (s := { s with heap := h', toks := tk + 1 }) ho fun h'' he' sb => ?_⟩
    have hT2 : h''.get? s.heap.objs.size = some { cls := .type "tuple", data := .seq #[.int i tk, u'] } := (sb.2 _ (Nat.ne_of_gt hel)).trans hT
    have new : ObjOk X.prog X.w (upd H s.heap.objs.size (.tup [.int (i : Nat), x])) h'' s.heap.objs.size (.tup [.int (i : Nat), x]) :=
      ⟨by show 2 ≤ sizeLine; decide, [.int i tk, u'], .cons ⟨_, rfl⟩ (.cons ru .nil), ⟨_, hT2, rfl, _, rfl⟩⟩
    have I1 : Inv X pins σ (upd H s.heap.objs.size (.tup [.int (i : Nat), x])) { s with heap := h'', toks := tk + 1 } :=
      I.turnedNew (ch := [e, it]) (fun b ob hb q => (sb.2 b (fun z => hb (by simp [z]))).trans (hk b ob (fun z => hb (by simp [z])) (fun z => hb (by simp [z])) q)) hf (Nat.le_refl _) new
    refine ⟨.ref s.heap.objs.size, _, I1, rfl, ⟨_, x, rfl, I.hok.fresh (Nat.le_refl _), rfl, fun ys hy => by rw [I.tuple_inj hy hq]; exact hx⟩, ⟨⟨u', ?_⟩, ?_, hne⟩, fun b hb => ?_⟩
    · have e1 : ((i + 1 : Nat) : Int) = (i : Int) + 1 := by omega
      rw [e1]; exact he'
    · obtain ⟨⟨o, ho, hr⟩, _⟩ := hst
      exact ⟨o, (sb.2 it (Ne.symm hne)).trans ho, hr⟩
    · have hb' : b < s.heap.objs.size := by
        have e' : b = e ∨ b = it := by simpa using hb
        rcases e' with z | z
        · rw [z]; exact hel
        · rw [z]; exact hil
      rw [upd_ne (Nat.ne_of_lt hb')]
      exact (hf b hb).1
  done := by
    intro X hP hw hK hc i pins s σ H E I hf st hg
    subst hP hw hK
    obtain ⟨⟨old, he⟩, hit, hne⟩ := st
    obtain ⟨xs, hq, hx⟩ := hg
    obtain ⟨its, rv, p, hz⟩ := I.tuple hq
    have p : s.heap.IsTuple a its.toArray := p
    obtain ⟨f0, f1, f2, f3, f4, f5⟩ := hf it (by simp)
    have hl := rv.length
    have hta : it ≠ a := iter_ne_tup hit p
    have D : Draws X.prog X.w X.A.in1 it [it, a] i (fun j x => False) (fun j h => j = i ∧ h.IsTupleIter it a i ∧ h.IsTuple a its.toArray) := {
      live := fun i h st => by obtain ⟨_, ⟨o, e, _⟩, _⟩ := st; exact ⟨o, e⟩
      frame := fun i h h' st k => by
        obtain ⟨z, ⟨o, e, c, d⟩, ⟨o2, e2, r⟩⟩ := st
        exact ⟨z, ⟨o, k it (by simp) o e, c, d⟩, ⟨o2, k a (by simp) o2 e2, r⟩⟩
      item := fun j s Q E hj st hQ => absurd st.1 (Nat.ne_of_lt hj)
      done := fun s Q E st hE => wpAny_nextOf_tuple_end (I.ok.hd hc) st.2.1 st.2.2 (Array.getElem?_eq_none (by simp; omega)) hE }
    exact wpAny_pyNext_enum_endD D he ⟨rfl, hit, p⟩ fun h' eb => ⟨rfl, I.turned (t' := s.toks) (fun b o hb q => eb b o hb q) f0 f1 f3 f4 f5⟩
  self := fun A i s Q E st h => let ⟨⟨_, he⟩, _⟩ := st; wpAny_pyIter_enum he h
theorem call_enumerate_tuple {prog : Program} {w : World} {A : Around} {E : Value → Shared → Prop} {s : Shared} {l : Addr} {items : Array Value} {Q : Value → Shared → Prop} (hL : s.heap.IsTuple l items)
    (h : ∀ h', IsEnum h' (s.heap.objs.size + 1) s.heap.objs.size 0 .none → h'.IsTupleIter s.heap.objs.size l 0 → h'.objs.size = s.heap.objs.size + 2 →
      (∀ b o, s.heap.get? b = some o → h'.get? b = some o) → Q (.ref (s.heap.objs.size + 1)) { s with heap := h' }) :
    wpAny (model prog w) A (call (.type "enumerate") [.ref l]) Q E s := by
  obtain ⟨⟨c, dct, dt, sl⟩, hl, hc, n, hd⟩ := hL
  replace hc : c = .type "tuple" := hc
  replace hd : dt = .seq items n := hd
  subst hc hd
  refine callType_new F.called_enumerate (by decide) (F.typeCall_enumerate_1 _) (F.newCall_enumerate_1 _) (fun obj => F.args_object_init_2 obj _) F.entry_enumerate_new
    (meets_enumerate_newT l items n dct sl) ⟨hl, ?_⟩
  have hz : (s.heap.push { cls := .type "tuple_iterator", data := .fields #[.ref l, .int 0 0] }).objs.size = s.heap.objs.size + 1 := Heap.size_push ..
  show _ ∧ _
  rw [hz]
  have he : IsEnum ((s.heap.push { cls := .type "tuple_iterator", data := .fields #[.ref l, .int 0 0] }).push
      { cls := .type "enumerate", data := .fields #[.none, .bool false, .ref s.heap.objs.size, rawInt 0, .none, .none] }) (s.heap.objs.size + 1) s.heap.objs.size 0 .none := by
    have := Heap.get?_push_size (s.heap.push { cls := .type "tuple_iterator", data := .fields #[.ref l, .int 0 0] })
      (o := { cls := .type "enumerate", data := .fields #[.none, .bool false, .ref s.heap.objs.size, rawInt 0, .none, .none] }) rfl
    rw [hz] at this; exact this
  refine ⟨⟨_, he, rfl⟩, h _ he ⟨_, Heap.get?_push_of_some _ (Heap.get?_push_size _ rfl), rfl, rfl⟩ (by rw [Heap.size_push, hz]) fun b o x => Heap.get?_push_of_some _ (Heap.get?_push_of_some _ x)⟩
def iEnumT (K : PySem.W.Frag) (ta : TA) : TI := fun σ H R => ta σ H fun vs H1 => ∃ a xs, vs = [.ref a] ∧ SqT K H1 a xs ∧ R (IteT K a) H1
theorem pi_enumT {X : Cx} {e : Expr} {ta : TA} {p pos tpos : Pos} {elts : List Expr} {kk : Nat} (hg : Gl X "enumerate") (hm : X.mg "enumerate" = none) (ha : PA X [e] ta) (hs : starEach [e] X.env = [(false, eval e X.env)] := by rfl) :
    PI X (.Tuple elts kk tpos) (.Call (.Name "enumerate" p) [e] [] pos) (iEnumT X.K ta) := by
  refine ⟨fun pins s σ H R I h => ?_⟩
  refine Call_ (ld_blt I hg hm boot_enumerate (PyProof.Rows.callWith_type1 (thn (ha.run pos pins s σ H _ I h) fun us s1 ⟨vs, H1, I1, r1, q1⟩ => ?_) hs rfl))
  obtain ⟨a, xs, ex, hq, q⟩ := q1
  subst ex
  cases r1 with
  | cons r rr =>
    cases rr
    cases r
    obtain ⟨its, rv, p', hz⟩ := I1.tuple hq
    have p' : s1.heap.IsTuple a its.toArray := p'
    refine call_enumerate_tuple p' fun h' he hit hsz hk => wpAny_pyIter_enum he ?_
    have I2 : Inv X pins σ H1 { s1 with heap := h' } := I1.kept (t' := s1.toks) hk
    refine ⟨s1.heap.objs.size + 1, [s1.heap.objs.size + 1, s1.heap.objs.size], _, _, H1, rfl, I2, turn_enumT a (s1.heap.objs.size + 1) s1.heap.objs.size, ⟨⟨.none, he⟩, hit, Nat.succ_ne_self _⟩, fun b hb => ?_, q⟩
    have e' : b = s1.heap.objs.size + 1 ∨ b = s1.heap.objs.size := by simpa using hb
    have hle : s1.heap.objs.size ≤ b := by
      rcases e' with z | z
      · rw [z]; exact Nat.le_add_right _ _
      · rw [z]; exact Nat.le_refl _
    exact I1.fpOk hle (I1.hok.fresh hle)

/-! ### as trees -/
theorem PI.or {X : Cx} {tg e : Expr} {t u : TI} (h1 : PI X tg e t) (h2 : PI X tg e u) : PI X tg e (fun σ H R => t σ H R ∨ u σ H R) := ⟨fun pins s σ H R I h => by
  rcases h with h | h
  · exact h1.run pins s σ H R I h
  · exact h2.run pins s σ H R I h⟩
def enumD (ds : List D) : List D := ds.mapIdx fun i d => .tuple [.int (i : Int), d]
def iEnumD (m : ME) : MA := bnd m fun d S => match d with
  | .list ds => some (enumD ds, S)
  | .tuple ds => some (enumD ds, S)
  | _ => none
section
variable {X : Cx} {e e2 : Expr} {pos p tpos : Pos} {elts : List Expr} {kk : Nat} {m m2 : ME}
theorem pair_walk {K : PySem.W.Frag} {G1 H1 : Hp} {T : Addr} {x y : V} {d1 d2 : D} (s : Same G1 H1) (hT : H1 T = none) (h1 : Dp K G1 x d1) (h2 : Dp K G1 y d2) : ∃ G', Gr G1 H1 G' (upd H1 T (.tup [x, y])) ∧ Dp K G' (.ref T) (.tuple [d1, d2]) :=
  ⟨_, Gr.new s hT, .tup (SqT.of upd_same) (.cons (dp_mono (Gr.new s hT).g h1) (.cons (dp_mono (Gr.new s hT).g h2) .nil))⟩
theorem di_enum (hg : Gl X "enumerate") (hm : X.mg "enumerate" = none) (ha : PE X e (tM X.K m)) (hs : starEach [e] X.env = [(false, eval e X.env)] := by rfl) (hs2 : starEach [e] X.env = (false, eval e X.env) :: starEach [] X.env := by rfl) :
    PI X (.Tuple elts kk tpos) (.Call (.Name "enumerate" p) [e] [] pos) (tI X.K (iEnumD m)) := by
  refine PI.imp (PI.or (pi_enum hg hm (pa_cons ha pa_nil hs2) hs) (pi_enumT hg hm (pa_cons ha pa_nil hs2) hs)) fun σ H Q ⟨Z, S, G, ds, S', R, e, q⟩ => ?_
  obtain ⟨d, S1, e1, e2⟩ := bnd_some e
  split at e2
  · cases e2
    refine .inl ⟨Z, S, G, _, _, R, e1, fun v H1 G1 R1 s1 k => ?_⟩
    cases k with
    | lst hl ha =>
      refine ⟨_, _, rfl, R1.sub.seq hl, q _ H1 G1 R1 s1 fun G2 H2 i s2 s3 => ⟨fun d hd => ?_, fun hi => ⟨_, s3.seq (s2.seq hl), by rw [ha.len]; simpa [enumD] using hi⟩⟩⟩
      unfold enumD at hd
      rw [List.getElem?_mapIdx] at hd
      obtain ⟨d0, h1, h2⟩ := Option.map_eq_some_iff.mp hd
      subst h2
      obtain ⟨v, h3, h4⟩ := ha.get h1
      refine ⟨⟨_, v, s3.seq (s2.seq hl), h3⟩, fun x H' ⟨T, y, e, hT, eH, f⟩ => ?_⟩
      subst e eH
      have := f _ (s3.seq (s2.seq hl))
      rw [h3] at this
      cases this
      exact pair_walk s3 hT (.int _) (dp_mono s2 h4)
  · cases e2
    refine .inr ⟨Z, S, G, _, _, R, e1, fun v H1 G1 R1 s1 k => ?_⟩
    cases k with
    | tup hl ha =>
      refine ⟨_, _, rfl, same_sqt R1.sub hl, q _ H1 G1 R1 s1 fun G2 H2 i s2 s3 => ⟨fun d hd => ?_, fun hi => ⟨_, same_sqt s3 (same_sqt s2 hl), by rw [ha.len]; simpa [enumD] using hi⟩⟩⟩
      unfold enumD at hd
      rw [List.getElem?_mapIdx] at hd
      obtain ⟨d0, h1, h2⟩ := Option.map_eq_some_iff.mp hd
      subst h2
      obtain ⟨v, h3, h4⟩ := ha.get h1
      refine ⟨⟨_, v, same_sqt s3 (same_sqt s2 hl), h3⟩, fun x H' ⟨T, y, e, hT, eH, f⟩ => ?_⟩
      subst e eH
      have := f _ (same_sqt s3 (same_sqt s2 hl))
      rw [h3] at this
      cases this
      exact pair_walk s3 hT (.int _) (dp_mono s2 h4)
  · cases e2
def zipD (as bs : List D) : List D := (as.zip bs).map fun p => .tuple [p.1, p.2]
def iZipD (m m2 : ME) : MA := bnd m fun d => bnd m2 fun e S => match d, e with
  | .list as, .list bs => some (zipD as bs, S)
  | .tuple as, .tuple bs => some (zipD as bs, S)
  | _, _ => none
theorem di_zip (hg : Gl X "zip") (hm : X.mg "zip" = none) (ha : PE X e (tM X.K m)) (hb : PE X e2 (tM X.K m2))
    (hs : starEach [e, e2] X.env = (false, eval e X.env) :: starEach [e2] X.env := by rfl) (hs2 : starEach [e2] X.env = (false, eval e2 X.env) :: starEach [] X.env := by rfl) (hpl : (backTo pos (starEach [e2] X.env)).any (·.1) = false := by rfl) :
    PI X (.Tuple elts kk tpos) (.Call (.Name "zip" p) [e, e2] [] pos) (tI X.K (iZipD m m2)) := by
  refine PI.imp (RZ.pi_zipA hg hm (pa_cons ha (pa_cons hb pa_nil hs2) hs) hs hpl) fun σ H Q ⟨Z, S, G, ds, S', R, e, q⟩ => ?_
  obtain ⟨d, S1, e1, e3⟩ := bnd_some e
  obtain ⟨d', S2, e2, e4⟩ := bnd_some e3
  refine ⟨Z, S, G, d, S1, R, e1, fun v H1 G1 R1 s1 k1 => ⟨Z, S1, G1, d', S2, R1, e2, fun v2 H2 G2 R2 s2 k2 => ?_⟩⟩
  split at e4
  · cases e4
    cases k1 with
    | lst hl ha => cases k2 with
      | lst hl2 ha2 =>
        have ha := dpAll_mono s2 ha
        have hl := s2.seq hl
        refine ⟨_, _, _, _, rfl, .inl ⟨R2.sub.seq hl, R2.sub.seq hl2, q _ H2 G2 R2 (s1.trans s2) fun G3 H3 i s3 s4 => ⟨fun d hd => ?_, fun hi => ⟨_, _, s4.seq (s3.seq hl), s4.seq (s3.seq hl2), ?_⟩⟩⟩⟩
        · unfold zipD at hd
          rw [List.getElem?_map] at hd
          obtain ⟨⟨d1, d2⟩, h1, h2⟩ := Option.map_eq_some_iff.mp hd
          subst h2
          obtain ⟨h5, h6⟩ := List.getElem?_zip_eq_some.mp h1
          obtain ⟨v, h3, h4⟩ := ha.get h5
          obtain ⟨w, h7, h8⟩ := ha2.get h6
          refine ⟨⟨_, _, v, w, s4.seq (s3.seq hl), s4.seq (s3.seq hl2), h3, h7⟩, fun x H' ⟨T, y, z, e, hT, eH, f, g⟩ => ?_⟩
          subst e eH
          have f1 := f _ (s4.seq (s3.seq hl))
          have g1 := g _ (s4.seq (s3.seq hl2))
          rw [h3] at f1
          rw [h7] at g1
          cases f1
          cases g1
          exact pair_walk s4 hT (dp_mono s3 h4) (dp_mono s3 h8)
        · unfold zipD at hi
          rw [List.length_map, List.length_zip] at hi
          rw [ha.len, ha2.len]
          omega
  · cases e4
    cases k1 with
    | tup hl ha => cases k2 with
      | tup hl2 ha2 =>
        have ha := dpAll_mono s2 ha
        have hl := same_sqt s2 hl
        refine ⟨_, _, _, _, rfl, .inr ⟨same_sqt R2.sub hl, same_sqt R2.sub hl2, q _ H2 G2 R2 (s1.trans s2) fun G3 H3 i s3 s4 => ⟨fun d hd => ?_, fun hi => ⟨_, _, same_sqt s4 (same_sqt s3 hl), same_sqt s4 (same_sqt s3 hl2), ?_⟩⟩⟩⟩
        · unfold zipD at hd
          rw [List.getElem?_map] at hd
          obtain ⟨⟨d1, d2⟩, h1, h2⟩ := Option.map_eq_some_iff.mp hd
          subst h2
          obtain ⟨h5, h6⟩ := List.getElem?_zip_eq_some.mp h1
          obtain ⟨v, h3, h4⟩ := ha.get h5
          obtain ⟨w, h7, h8⟩ := ha2.get h6
          refine ⟨⟨_, _, v, w, same_sqt s4 (same_sqt s3 hl), same_sqt s4 (same_sqt s3 hl2), h3, h7⟩, fun x H' ⟨T, y, z, e, hT, eH, f, g⟩ => ?_⟩
          subst e eH
          have f1 := f _ (same_sqt s4 (same_sqt s3 hl))
          have g1 := g _ (same_sqt s4 (same_sqt s3 hl2))
          rw [h3] at f1
          rw [h7] at g1
          cases f1
          cases g1
          exact pair_walk s4 hT (dp_mono s3 h4) (dp_mono s3 h8)
        · unfold zipD at hi
          rw [List.length_map, List.length_zip] at hi
          rw [ha.len, ha2.len]
          omega
  · cases e4

/-! range with a step -/
def rangeD3 (i c : Int) (n : Nat) : List D := (List.range n).map fun (k : Nat) => .int (i + (k : Int) * c)
def iRange3 (os : MOs) : MA := bnd os fun rs S => match rss rs S with
  | some [.int i, .int j, .int c] => if c ≠ 0 ∧ c.natAbs < 1073741824 ∧ Builtin.Range.small i j c = true then some (rangeD3 i c (Builtin.Range.rangeSize i j c).toNat, S) else none
  | _ => none
theorem dpTs_ints3 {K : PySem.W.Frag} {G H : Hp} {vs : List V} {i j k : Int} (h : DpTs K G H vs [.int i, .int j, .int k]) : vs = [.int i, .int j, .int k] := by
  cases h with
  | cons a b => cases b with
    | cons b c => cases c with
      | cons c d => cases d; rw [dpT_int a, dpT_int b, dpT_int c]
theorem rangeSize_nn (i j c : Int) (hc : c ≠ 0) : 0 ≤ Builtin.Range.rangeSize i j c := by
  unfold Builtin.Range.rangeSize
  split
  · split
    · have : 0 ≤ (j - i - 1) / c := Int.ediv_nonneg (by omega) (by omega)
      omega
    · omega
  · split
    · have : 0 ≤ (i - j - 1) / (-c) := Int.ediv_nonneg (by omega) (by omega)
      omega
    · omega
theorem di_range3 {tg ea eb ec : Expr} {os : MOs} (hg : Gl X "range") (hm : X.mg "range" = none) (ha : PA X [ea, eb, ec] (tAO X.K os))
    (hs : starEach [ea, eb, ec] X.env = (false, eval ea X.env) :: starEach [eb, ec] X.env := by rfl) (hpl : (backTo pos (starEach [eb, ec] X.env)).any (·.1) = false := by rfl) :
    PI X tg (.Call (.Name "range" p) [ea, eb, ec] [] pos) (tI X.K (iRange3 os)) := by
  refine PI.imp (pi_range3 hg hm ha hs hpl) fun σ H Q ⟨Z, S, G, ds, S', R, e, q⟩ => ?_
  obtain ⟨rs, S1, e1, e2⟩ := bnd_some e
  split at e2
  · rename_i i j c hr
    split at e2
    · rename_i hb
      cases e2
      refine ⟨Z, S, G, rs, _, R, e1, fun vs H1 G1 R1 s1 k => ⟨i, j, c, (Builtin.Range.rangeSize i j c).toNat, dpTs_ints3 (rss_ok R1 k hr), ⟨hb.1, hb.2.1, hb.2.2, ?_⟩, q _ H1 G1 R1 s1 fun G2 H2 n s2 s3 => ⟨fun d hd => ?_, fun hi => ?_⟩⟩⟩
      · have := rangeSize_nn i j c hb.1
        omega
      · unfold rangeD3 at hd
        rw [List.getElem?_map] at hd
        obtain ⟨k', h1, h2⟩ := Option.map_eq_some_iff.mp hd
        obtain ⟨h3, h4⟩ := List.getElem?_eq_some_iff.mp h1
        rw [List.getElem_range] at h4
        rw [List.length_range] at h3
        subst h4 h2
        exact ⟨h3, fun x H' ⟨e, y⟩ => by subst e; subst y; exact ⟨G2, Gr.refl s3, .int _⟩⟩
      · unfold rangeD3 at hi
        rw [List.length_map, List.length_range] at hi
        exact hi
    · cases e2
  · cases e2
end
end PD

/-! PDMeth: methods, calls with keywords, or of lists. -/
namespace PD
open PySem PySem.Spec PyProof.Rows L2

/-! ### methods that change an own list -/
def AdM (K : PySem.W.Frag) (r : V → List V → Hp → VK → Prop) (f : List D → List D → Option (D × List D)) : Prop :=
  ∀ (G H : Hp) (a : Addr) (vs : List V) (ds : List D) (xs : List V) (es : List D) (z : D) (ds' : List D) (Q : VK), Same G H → H a = some (.lst vs) → G a = none → DpAll K G vs ds → DpAll K G xs es → f ds es = some (z, ds') →
    (∀ v vs', Dp K G v z → DpAll K G vs' ds' → Q v (upd H a (.lst vs'))) → r (.ref a) xs H Q
def mutC (f : List D → List D → Option (D × List D)) (i : Nat) (es : List D) : ME := fun S => match S[i]? with
  | some (some (.own (.lst ds))) => (f ds es).map fun p => (p.1, S.set i (some (.own (.lst p.2))))
  | some (some (.bor (.lst ds))) => (f ds es).map fun p => (p.1, S.set i (some (.bor (.lst p.2))))
  | _ => none
def eMut (f : List D → List D → Option (D × List D)) (i : Nat) (as : MA) : ME := fun S => match S[i]? with
  | some (some (.own (.lst _))) => bnd as (fun es => mutC f i es) S
  | some (some (.bor (.lst _))) => bnd as (fun es => mutC f i es) S
  | _ => none
theorem tMut {K : PySem.W.Frag} {r : V → List V → Hp → VK → Prop} {f : List D → List D → Option (D × List D)} {i : Nat} {as : MA} {ta : TA} (ad : AdM K r f) (w : ∀ σ H Q, tA K as σ H Q → ta σ H Q) : ∀ σ H Q, tM K (eMut f i as) σ H Q → (∃ v, σ[i]? = some (some v) ∧ tyV K "list" v H ∧ ta σ H fun xs H2 => r v xs H2 Q) := fun σ H Q ⟨Z, S, G, d, S', R, e, q⟩ => by
  have main : ∀ (k : Cel → SV) (ds0 : List D), (k = .own ∨ k = .bor) → S[i]? = some (some (k (.lst ds0))) → bnd as (fun es => mutC f i es) S = some (d, S') → (∃ v, σ[i]? = some (some v) ∧ tyV K "list" v H ∧ ta σ H fun xs H2 => r v xs H2 Q) := fun k ds0 hk hS e => by
    have hc0 : IsCell S i := by rcases hk with rfl | rfl; exact ⟨_, .inl hS⟩; exact ⟨_, .inr hS⟩
    obtain ⟨a, o, c, h1, h2, h3, h4, h5⟩ := R.cell hc0
    have ec : c = .lst ds0 := by
      rcases hk with rfl | rfl <;> rcases h5 with h5 | h5 <;> (rw [hS] at h5; cases h5) <;> rfl
    subst ec
    obtain ⟨vs0, rfl, _⟩ := h4.list
    obtain ⟨es, S1, e1, e2⟩ := bnd_some e
    refine ⟨_, h1, .inl ⟨rfl, _, SqL.of h2⟩, w σ H _ ⟨Z, S, G, es, S1, R, e1, fun xs H1 G1 R1 s1 kd => ?_⟩⟩
    have go : ∀ (k : Cel → SV) (ds : List D), (k = .own ∨ k = .bor) → S1[i]? = some (some (k (.lst ds))) → (f ds es).map (fun p => (p.1, S1.set i (some (k (.lst p.2))))) = some (d, S') → r (.ref a) xs H1 Q := fun k ds hk hS e => by
      obtain ⟨⟨z, ds'⟩, w1, w2⟩ := Option.map_eq_some_iff.mp e
      cases w2
      have hc1 : IsCell S1 i := by rcases hk with rfl | rfl; exact ⟨_, .inl hS⟩; exact ⟨_, .inr hS⟩
      obtain ⟨a', o', c', g1, g2, g3, g4, g5⟩ := R1.cell hc1
      rw [h1] at g1; cases g1
      have ec : c' = .lst ds := by
        rcases hk with rfl | rfl <;> rcases g5 with g5 | g5 <;> (rw [hS] at g5; cases g5) <;> rfl
      subst ec
      obtain ⟨vs1, rfl, g6⟩ := g4.list
      exact ad G1 H1 a vs1 ds xs es _ ds' Q R1.sub g2 g3 g6 kd w1 fun v vs' k1 k2 => q v _ G1 (R1.upd hk hS h1 k2) s1 k1
    unfold mutC at e2
    split at e2
    · exact go .own _ (.inl rfl) (by assumption) e2
    · exact go .bor _ (.inr rfl) (by assumption) e2
    · cases e2
  unfold eMut at e
  split at e
  · exact main .own _ (.inl rfl) (by assumption) e
  · exact main .bor _ (.inr rfl) (by assumption) e
  · cases e
section
variable {X : Cx} {e : Expr} {es : List Expr} {x : Str} {px apos cpos pos p : Pos} {as : MA} {name : Str} {id : String} {r : V → List V → Hp → VK → Prop} {f : List D → List D → Option (D × List D)}
theorem de_mut {i : Nat} (slot : Slot "list" name id) (hty : typeOf (.builtin id) = pure (.type "method_descriptor")) (hm : MtR X id r) (ad : AdM X.K r f) (hN : X.N[i]? = some x) (hv : Vis X.env.scope x) (ha : PA X (e :: es) (tA X.K as))
    (hd : (x == ("__debug__" : Str)) = false := by decide) (hcd : (x == ("__classdict__" : Str)) = false := by decide)
    (hbase : attributeBase (.Name x px) name X.env (eval (.Name x px) X.env) = eval (.Name x px) X.env := by rfl)
    (hfew : ((backTo cpos (starEach (e :: es) X.env)).all (fun x => !x.1) && (backToKw cpos (keywordEach [] X.env)).all (fun x => x.1.isSome)
      && decide ((e :: es).length + ([] : List Keyword).length + (if ([] : List Keyword).isEmpty then 0 else 1) < 30)) = true := by rfl)
    (hline : (apos.endLine == cpos.line) = true := by rfl) (hs : starEach (e :: es) X.env = (false, eval e X.env) :: starEach es X.env := by rfl) (hplain : (backTo cpos (starEach es X.env)).any (·.1) = false := by rfl) :
    PE X (.Call (.Attribute (.Name x px) name apos) (e :: es) [] cpos) (tM X.K (eMut f i as)) :=
  PE.imp (pe_bm PySem.F.plainAttrs_list slot hty hm (pe_var hN hv hd hcd) ha hbase hfew hline hs hplain) (tMut ad fun _ _ _ h => h)
theorem de_mut0 {i : Nat} (slot : Slot "list" name id) (hty : typeOf (.builtin id) = pure (.type "method_descriptor")) (hm : MtR X id r) (ad : AdM X.K r f) (hN : X.N[i]? = some x) (hv : Vis X.env.scope x)
    (hd : (x == ("__debug__" : Str)) = false := by decide) (hcd : (x == ("__classdict__" : Str)) = false := by decide)
    (hbase : attributeBase (.Name x px) name X.env (eval (.Name x px) X.env) = eval (.Name x px) X.env := by rfl) (hline : (apos.endLine == cpos.line) = true := by rfl) :
    PE X (.Call (.Attribute (.Name x px) name apos) [] [] cpos) (tM X.K (eMut f i aNil)) :=
  PE.imp (pe_bm0 PySem.F.plainAttrs_list slot hty hm (pe_var hN hv hd hcd) hbase hline) (tMut (ta := tNil) ad fun σ H Q ⟨Z, S, G, ds, S', R, e, q⟩ => by cases e; exact q [] H G R (Same.refl _) .nil)
end
def appendD : List D → List D → Option (D × List D)
  | ds, [d] => if ds.length < 1000000 then some (.none, ds ++ [d]) else none
  | _, _ => none
theorem ad_append {K : PySem.W.Frag} : AdM K rAppend appendD := fun G H a vs ds xs es z ds' Q s ha ga k ke hf q => by
  unfold appendD at hf
  split at hf
  · split at hf
    · rename_i hl
      cases hf
      cases ke with
      | cons k1 k2 =>
        cases k2
        exact ⟨a, vs, _, rfl, rfl, ha, by rw [k.len]; exact Nat.lt_of_lt_of_le hl (size_ok (Nat.le_refl _)), q _ _ .non (k.app (.one k1))⟩
    · cases hf
  · cases hf
theorem _root_.L2.DpAll.dropLast {K : PySem.W.Frag} {G : Hp} {vs : List V} {ds : List D} (h : DpAll K G vs ds) : DpAll K G vs.dropLast ds.dropLast := by
  rw [List.dropLast_eq_take, List.dropLast_eq_take, h.len]
  exact h.take _
def popD : List D → List D → Option (D × List D)
  | ds, [] => (ds[ds.length - 1]?).map fun d => (d, ds.dropLast)
  | _, _ => none
theorem ad_pop {K : PySem.W.Frag} : AdM K rPop popD := fun G H a vs ds xs es z ds' Q s ha ga k ke hf q => by
  unfold popD at hf
  split at hf
  · obtain ⟨d, h1, h2⟩ := Option.map_eq_some_iff.mp hf
    cases h2
    cases ke
    obtain ⟨v, h3, h4⟩ := k.get h1
    exact ⟨a, vs, v, rfl, rfl, ha, by rw [k.len]; exact h3, q _ _ h4 k.dropLast⟩
  · cases hf
def popAtD : List D → List D → Option (D × List D)
  | ds, [.int i] => if 0 ≤ i ∧ i < ds.length ∧ ds.length ≤ 1000000 then (ds[i.toNat]?).map fun d => (d, ds.eraseIdx i.toNat) else none
  | _, _ => none
theorem ad_popAt {K : PySem.W.Frag} : AdM K rPopAt popAtD := fun G H a vs ds xs es z ds' Q s ha ga k ke hf q => by
  unfold popAtD at hf
  split at hf
  · split at hf
    · rename_i i hl
      obtain ⟨d, h1, h2⟩ := Option.map_eq_some_iff.mp hf
      cases h2
      cases ke with
      | cons k1 k2 =>
        cases k2
        cases k1
        obtain ⟨v, h3, h4⟩ := k.get h1
        refine ⟨a, vs, i, i.toNat, v, rfl, rfl, ha, by omega, by omega, ?_, h3, q _ _ h4 (k.eraseIdx _)⟩
        have hx : ixN vs.length i = some i.toNat := by
          unfold ixN
          rw [if_pos hl.1, if_pos (by rw [k.len]; exact hl.2.1)]
        exact (ixN_seq hx).1
    · cases hf
  · cases hf

/-! ### methods that look -/
def tyOk : String → D → Bool
  | "list", .list _ => true
  | "str", .str _ => true
  | "int", .int _ => true
  | _, _ => false
def AdMP (K : PySem.W.Frag) (r : V → List V → Hp → VK → Prop) (f : D → List D → Option D) : Prop :=
  ∀ (G H : Hp) (x : V) (d : D) (xs : List V) (es : List D) (z : D) (Q : VK), Same G H → DpT K G H x d → DpTs K G H xs es → f d es = some z → (∀ v H' G', Gr G H G' H' → Dp K G' v z → Q v H') → r x xs H Q
def opM (f : D → List D → Option D) (x : Rf) (ys : List Rf) : ME := fun S => (rs x S).bind fun d => (rss ys S).bind fun es => (f d es).map fun z => (z, S)
def eMeth (T : String) (f : D → List D → Option D) (o : MO) (os : MOs) : ME := bnd o fun x S => (rs x S).bind fun d => if tyOk T d = true then bnd os (fun ys => opM f x ys) S else none
theorem tyV_of {K : PySem.W.Frag} {G H : Hp} {T : String} {x : V} {d : D} (s : Same G H) (h : DpT K G H x d) (e : tyOk T d = true) : tyV K T x H := by
  unfold tyOk at e
  split at e
  · obtain ⟨a, vs, rfl, h1, _⟩ := dpt_list s h
    exact .inl ⟨rfl, _, h1⟩
  · rw [dpt_str h]; exact rfl
  · rw [dpt_int h]; exact rfl
  · cases e
section
variable {X : Cx} {o e : Expr} {es : List Expr} {apos cpos pos p : Pos} {oo : MO} {os : MOs} {name : Str} {T id : String} {r : V → List V → Hp → VK → Prop} {f : D → List D → Option D}
theorem de_meth (pa : PlainAttrs T) (slot : Slot T name id) (hty : typeOf (.builtin id) = pure (.type "method_descriptor")) (hm : MtR X id r) (ad : AdMP X.K r f) (ho : PE X o (tO X.K oo)) (ha : PA X (e :: es) (tAO X.K os))
    (hbase : attributeBase o name X.env (eval o X.env) = eval o X.env := by rfl)
    (hfew : ((backTo cpos (starEach (e :: es) X.env)).all (fun x => !x.1) && (backToKw cpos (keywordEach [] X.env)).all (fun x => x.1.isSome)
      && decide ((e :: es).length + ([] : List Keyword).length + (if ([] : List Keyword).isEmpty then 0 else 1) < 30)) = true := by rfl)
    (hline : (apos.endLine == cpos.line) = true := by rfl) (hs : starEach (e :: es) X.env = (false, eval e X.env) :: starEach es X.env := by rfl) (hplain : (backTo cpos (starEach es X.env)).any (·.1) = false := by rfl) :
    PE X (.Call (.Attribute o name apos) (e :: es) [] cpos) (tM X.K (eMeth T f oo os)) := by
  refine PE.imp (pe_bm pa slot hty hm ho ha hbase hfew hline hs hplain) fun σ H Q ⟨Z, S, G, d, S', R, e, q⟩ => ?_
  obtain ⟨x, S1, e1, e2⟩ := bnd_some e
  obtain ⟨d1, e3, e4⟩ := Option.bind_eq_some_iff.mp e2
  split at e4
  · rename_i hT
    obtain ⟨ys, S2, e5, e6⟩ := bnd_some e4
    obtain ⟨d2, e7, e8⟩ := Option.bind_eq_some_iff.mp e6
    obtain ⟨es2, e9, e10⟩ := Option.bind_eq_some_iff.mp e8
    obtain ⟨z, e11, e12⟩ := Option.map_eq_some_iff.mp e10
    cases e12
    exact ⟨Z, S, G, x, S1, R, e1, fun v H1 G1 R1 s1 k1 => ⟨tyV_of R1.sub (rs_ok R1 k1 e3) hT, Z, S1, G1, ys, _, R1, e5, fun vs H2 G2 R2 s2 k2 =>
      ad G2 H2 v d2 vs es2 _ Q R2.sub (rs_ok R2 (k1.mono s2) e7) (rss_ok R2 k2 e9) e11 fun w H3 G3 g kd => q w H3 G3 (R2.gr g) (s1.trans (s2.trans g.g)) kd⟩⟩
  · cases e4
theorem de_meth0 (pa : PlainAttrs T) (slot : Slot T name id) (hty : typeOf (.builtin id) = pure (.type "method_descriptor")) (hm : MtR X id r) (ad : AdMP X.K r f) (ho : PE X o (tO X.K oo))
    (hbase : attributeBase o name X.env (eval o X.env) = eval o X.env := by rfl) (hline : (apos.endLine == cpos.line) = true := by rfl) :
    PE X (.Call (.Attribute o name apos) [] [] cpos) (tM X.K (eMeth T f oo oNil)) := by
  refine PE.imp (pe_bm0 pa slot hty hm ho hbase hline) fun σ H Q ⟨Z, S, G, d, S', R, e, q⟩ => ?_
  obtain ⟨x, S1, e1, e2⟩ := bnd_some e
  obtain ⟨d1, e3, e4⟩ := Option.bind_eq_some_iff.mp e2
  split at e4
  · rename_i hT
    obtain ⟨ys, S2, e5, e6⟩ := bnd_some e4
    cases e5
    obtain ⟨d2, e7, e8⟩ := Option.bind_eq_some_iff.mp e6
    obtain ⟨es2, e9, e10⟩ := Option.bind_eq_some_iff.mp e8
    obtain ⟨z, e11, e12⟩ := Option.map_eq_some_iff.mp e10
    cases e12
    cases e9
    exact ⟨Z, S, G, x, _, R, e1, fun v H1 G1 R1 s1 k1 => ⟨tyV_of R1.sub (rs_ok R1 k1 e3) hT,
      ad G1 H1 v d2 [] [] _ Q R1.sub (rs_ok R1 k1 e7) .nil e11 fun w H3 G3 g kd => q w H3 G3 (R1.gr g) (s1.trans g.g) kd⟩⟩
  · cases e4
end
/-- xs.index(k) of ints -/
def indexD : D → List D → Option D
  | .list ds, [.int k] => (intsOf ds).bind fun ns => if k ∈ ns then some (.int (ns.idxOf k : Nat)) else none
  | _, _ => none
theorem eqV_int (i j : Int) : eqV (.int i) (.int j) = (i == j) := rfl
theorem ad_index {K : PySem.W.Frag} : AdMP K (rIndex K) indexD := fun G H x d xs es z Q s hx hxs hf q => by
  unfold indexD at hf
  split at hf
  · obtain ⟨ns, h1, h2⟩ := Option.bind_eq_some_iff.mp hf
    split at h2
    · rename_i k hk
      cases h2
      rw [intsOf_some h1] at hx
      obtain ⟨a, rfl, h3⟩ := dpt_ints s hx
      obtain ⟨v, rfl, h4⟩ := dpTs1 hxs
      rw [dpt_int h4]
      have hlt : ns.idxOf k < ns.length := List.idxOf_lt_length_of_mem hk
      refine ⟨a, ns.map V.int, .int k, ns.idxOf k, .int k, rfl, rfl, h3, rfl, ?_, ?_, ?_, fun m z' hm e => ?_, q _ H G (Gr.refl s) (.int _)⟩
      · rw [List.all_map]; exact List.all_eq_true.mpr fun _ _ => rfl
      · rw [List.getElem?_map, List.getElem?_eq_getElem hlt, List.getElem_idxOf]; rfl
      · rw [eqV_int]; exact beq_self_eq_true k
      · rw [List.getElem?_map] at e
        obtain ⟨n, h5, h6⟩ := Option.map_eq_some_iff.mp e
        subst h6
        rw [eqV_int]
        obtain ⟨h7, h8⟩ := List.getElem?_eq_some_iff.mp h5
        have := List.not_of_lt_findIdx (p := (· == k)) (show m < ns.findIdx (· == k) from hm)
        rw [h8] at this
        simpa using this
    · cases h2
  · cases hf

/-! ### xs or ys, both new lists -/
def lOr (a b : ML) : ML := bnd a fun c => match c with
  | .lst [] => b
  | .lst ds => mret (.lst ds)
  | _ => fun _ => none
section
variable {X : Cx} {a b : Expr} {pos : Pos} {la lb : ML}
theorem dl_or (ha : PE X a (tL X.K la)) (hb : PE X b (tL X.K lb)) : PE X (.BoolOp .Or [a, b] pos) (tL X.K (lOr la lb)) := by
  refine PE.imp (pe_orT ha (pe_one hb)) fun σ H Q ⟨Z, S, G, c, S', R, e, q⟩ => ?_
  obtain ⟨c1, S1, e1, e2⟩ := bnd_some e
  refine ⟨Z, S, G, c1, S1, R, e1, fun a H1 G1 R1 s1 f => ?_⟩
  obtain ⟨o, h1, h2⟩ := f.at_
  cases c1 with
  | lst ds =>
    obtain ⟨vs, rfl, h3⟩ := h2.list
    cases ds with
    | nil =>
      cases h3
      refine ⟨false, .inl ⟨_, SqL.of h1, rfl⟩, ?_⟩
      rw [if_neg Bool.false_ne_true]
      exact ⟨Z, S1, G1, c, S', R1, e2, fun a2 H2 G2 R2 s2 f2 => q a2 H2 G2 R2 (s1.trans s2) f2⟩
    | cons d ds =>
      cases e2
      cases h3 with
      | cons h4 h5 =>
        refine ⟨true, .inl ⟨_, SqL.of h1, rfl⟩, ?_⟩
        rw [if_pos rfl]
        exact q a H1 G1 R1 s1 f
  | dK _ => cases e2
  | dT _ => cases e2
end

/-! ### calls with keywords, of defs without defaults -/
def permL {α : Type} (p : List Nat) (xs : List α) : List α := p.filterMap fun i => xs[i]?
theorem permL_vals {vs : List V} {us : List Value} (r : Vals vs us) : ∀ p : List Nat, Vals (permL p vs) (permL p us)
  | [] => .nil
  | i :: p => by
    unfold permL
    rw [List.filterMap_cons, List.filterMap_cons]
    cases e : vs[i]? with
    | none => rw [r.none_of e]; exact permL_vals r p
    | some v =>
      obtain ⟨u, h1, h2⟩ := r.get e
      rw [h1]
      exact .cons h2 (permL_vals r p)
theorem permL_dp {K : PySem.W.Frag} {G : Hp} {vs : List V} {ds : List D} (r : DpAll K G vs ds) : ∀ p : List Nat, DpAll K G (permL p vs) (permL p ds)
  | [] => .nil
  | i :: p => by
    unfold permL
    rw [List.filterMap_cons, List.filterMap_cons]
    cases e : ds[i]? with
    | none =>
      rw [List.getElem?_eq_none (by rw [r.len]; exact List.getElem?_eq_none_iff.mp e)]
      exact permL_dp r p
    | some d =>
      obtain ⟨v, h1, h2⟩ := r.get e
      rw [h1]
      exact .cons h2 (permL_dp r p)
theorem kbn {K : PySem.W.Frag} {x qual : Str} {st : Stmt} {f : Addr} {fd : FuncData} {ps ks : List Str} {n : Nat} {p : List Nat} (F : Fun K x qual st f fd)
    (h : ∀ (kV doc pm : Value) (an : Option Addr) (cdv ct : Value) (us ws : List Value), us.length = n → ws.length = ks.length → bindArgs (PySem.W.fnOf x qual (defArgs st) (defBody st) (defScope st) .none kV doc pm an cdv ct) ⟨us, ks.zip ws⟩ = pure (ps.zip (permL p (us ++ ws)))) :
    KBn K fd ps n ks (fun us ws => permL p (us ++ ws)) (fun vs zs => permL p (vs ++ zs)) := by
  obtain ⟨oc, od, kV, doc, pm, an, cdv, ct, osl, rfl, lk, hcd⟩ := F.ex
  exact ⟨fun s us ws _ l1 l2 => .of_eq (h kV doc pm an cdv ct us ws l1 l2), fun r1 r2 => permL_vals (r1.append r2) p⟩
section
variable {X : Cx} {e : Expr} {es : List Expr} {kws : List Keyword} {pos p kpos : Pos} {m : ME} {as ks : MA} {k n : Nat} {f : Addr} {fd : FuncData} {ps kn : List Str} {x : Str} {nm : Option Str} {pr : List Nat}
theorem PK.imp {t t' : TA} (h : PK X kws t) (w : ∀ σ H Q, t' σ H Q → t σ H Q) : PK X kws t' := ⟨fun pos pins s σ H Q I q => h.run pos pins s σ H Q I (w _ _ _ q)⟩
theorem dk_nil : PK X [] (tA X.K aNil) := PK.imp pk_nil fun σ H Q ⟨Z, S, G, ds, S', R, e, q⟩ => by cases e; exact q [] H G R (Same.refl _) .nil
theorem dk_cons (ha : PE X e (tM X.K m)) (hr : PK X kws (tA X.K as)) : PK X (⟨nm, e, kpos⟩ :: kws) (tA X.K (aCons m as)) := by
  refine PK.imp (pk_cons ha hr) fun σ H Q h => ?_
  obtain ⟨Z, S, G, ds, S', R, e, q⟩ := h
  obtain ⟨x, S1, e1, e⟩ := bnd_some e
  obtain ⟨xs, S2, e2, e⟩ := bnd_some e
  cases e
  exact ⟨Z, S, G, x, S1, R, e1, fun v H1 G1 R1 s1 o1 => ⟨Z, S1, G1, xs, _, R1, e2, fun vs H2 G2 R2 s2 o2 => q _ H2 G2 R2 (s1.trans s2) (.cons (dp_mono s2 o1) o2)⟩⟩
/-- n positional values, then those of the keywords, put in order by pr -/
def mCallK (F : List D → Option SV) (n l : Nat) (pr : List Nat) (as ks : MA) : M SV := bnd as fun ds => bnd ks fun es S => if ds.length = n ∧ es.length = l then (F (permL pr (ds ++ es))).map fun r => (r, S) else none
theorem dsv_callK {F : List D → Option SV} (FO : FnOk X.prog X.w X.K X.mg X.base CX0 k f fd ps (spP X.K F)) (hr : Room k X.A) (hg : Gl X x) (hm : X.mg x = some (.ref f)) (hk : PySem.W.keepIn X.K (.ref f) = true) (hb : KBn X.K fd ps n kn (fun us ws => permL pr (us ++ ws)) (fun vs zs => permL pr (vs ++ zs)))
    (ha : PA X (e :: es) (tA X.K as)) (hkw : PK X kws (tA X.K ks)) (hall : (backToKw pos (keywordEach kws X.env)).all (·.1.isSome) = true := by rfl) (hks : (backToKw pos (keywordEach kws X.env)).filterMap (·.1) = kn := by rfl)
    (hdb : (x == ("__debug__" : Str)) = false := by decide) (he : starEach (e :: es) X.env = (false, eval e X.env) :: starEach es X.env := by rfl)
    (hpl : ((backTo pos (starEach (e :: es) X.env)).any (·.1) || (backToKw pos (keywordEach kws X.env)).any (·.1.isNone)) = false := by rfl) :
    PE X (.Call (.Name x p) (e :: es) kws pos) (tSV X.K (mCallK F n kn.length pr as ks)) := by
  refine PE.imp (pe_callN (E := E0) FO hr hg hm hk hb pass0 ha hkw hall hks hdb he hpl) fun σ H Q ⟨Z, S, G, d, S', R, e, q⟩ => ?_
  obtain ⟨ds, S1, e1, e2⟩ := bnd_some e
  obtain ⟨es', S2, e3, e4⟩ := bnd_some e2
  split at e4
  · rename_i hl
    obtain ⟨r, h1, h2⟩ := Option.map_eq_some_iff.mp e4
    cases h2
    refine ⟨Z, S, G, ds, S1, R, e1, fun vs H1 G1 R1 s1 k1 => ⟨Z, S1, G1, es', _, R1, e3, fun ws H2 G2 R2 s2 k2 => ⟨by rw [k1.len]; exact hl.1, by rw [k2.len]; exact hl.2, ?_⟩⟩⟩
    refine ⟨G2, _, _, R2.sub, permL_dp ((dpAll_mono s2 k1).app k2) pr, h1, fun v H3 G3 g w => ?_⟩
    obtain ⟨R3, w3⟩ := R2.res g w
    exact q v H3 G3 R3 (s1.trans (s2.trans g.g)) w3
  · cases e4
theorem dsv_callK0 {F : List D → Option SV} (FO : FnOk X.prog X.w X.K X.mg X.base CX0 k f fd ps (spP X.K F)) (hr : Room k X.A) (hg : Gl X x) (hm : X.mg x = some (.ref f)) (hk : PySem.W.keepIn X.K (.ref f) = true) (hb : KBn X.K fd ps 0 kn (fun us ws => permL pr (us ++ ws)) (fun vs zs => permL pr (vs ++ zs)))
    (hkw : PK X kws (tA X.K ks)) (hall : (backToKw pos (keywordEach kws X.env)).all (·.1.isSome) = true := by rfl) (hks : (backToKw pos (keywordEach kws X.env)).filterMap (·.1) = kn := by rfl)
    (hdb : (x == ("__debug__" : Str)) = false := by decide)
    (hpl : ((backTo pos (starEach [] X.env)).any (·.1) || (backToKw pos (keywordEach kws X.env)).any (·.1.isNone)) = false := by rfl) :
    PE X (.Call (.Name x p) [] kws pos) (tSV X.K (mCallK F 0 kn.length pr aNil ks)) := by
  refine ⟨fun pins s σ H Q I ⟨Z, S, G, d, S', R, e, q⟩ => ?_⟩
  obtain ⟨ds, S1, e1, e2⟩ := bnd_some e
  cases e1
  obtain ⟨es', S2, e3, e4⟩ := bnd_some e2
  split at e4
  · rename_i hl
    obtain ⟨r, h1, h2⟩ := Option.map_eq_some_iff.mp e4
    cases h2
    refine wpAny_Call_Name_kw (ld_glob I hg hm ?_ hdb)
    refine PySem.W.callWith_KW0 (h₀ := X.base) I.ok.mod.kin hk hall (thn (hkw.run pos pins s σ H (fun zs H2 => zs.length = kn.length ∧ spP X.K F (permL pr ([] ++ zs)) H2 Q E0) I ⟨Z, S, G, es', _, R, e3, fun ws H2 G2 R2 s2 k2 => ⟨by rw [k2.len]; exact hl.2, ?_⟩⟩) fun ws s2 ⟨zs, H2, I2, rz, l2, q2⟩ => ⟨I2.kIn, ?_⟩) hpl
    · refine ⟨G2, _, _, R2.sub, permL_dp (vs := [] ++ ws) k2 pr, h1, fun v H3 G3 g w => ?_⟩
      obtain ⟨R3, w3⟩ := R2.res g w
      exact q v H3 G3 R3 (s2.trans g.g) w3
    · rw [hks]
      exact run_fnN (us := []) (vs := []) FO hr hb pass0 I2 .nil rz rfl l2 q2
  · cases e4
end
end PD
namespace PD
open PySem PySem.Spec PyProof.Rows L2
/-! ### a def of the text: where it stands, how it is bound -/
structure FnF (K : PySem.W.Frag) (mg : Str → Option Value) (x : Str) (st : Stmt) (ps : List Str) : Type where
  a : Addr
  d : FuncData
  F : Fun K x x st a d
  g : mg x = some (.ref a)
  b : Binds K d ps []
/-- a call whose first argument is a new cell -/
def mCallT (F : Cel → List D → Option (SV × Cel)) (l : ML) : M SV := bnd l fun c S => (F c []).map fun p => (p.1, S)
section
variable {X : Cx} {e : Expr} {pos p : Pos} {l : ML} {k : Nat} {f : Addr} {fd : FuncData} {ps : List Str} {x : Str}
theorem dsv_callT {F : Cel → List D → Option (SV × Cel)} (FO : FnOk X.prog X.w X.K X.mg X.base CX0 k f fd ps (spB X.K F)) (hr : Room k X.A) (hg : Gl X x) (hm : X.mg x = some (.ref f)) (hk : PySem.W.keepIn X.K (.ref f) = true) (hb : Binds X.K fd ps [])
    (ha : PE X e (tL X.K l)) (hdb : (x == ("__debug__" : Str)) = false := by decide) (he : starEach [e] X.env = (false, eval e X.env) :: starEach [] X.env := by rfl) (hpl : (backTo pos (starEach [] X.env)).any (·.1) = false := by rfl) :
    PE X (.Call (.Name x p) [e] [] pos) (tSV X.K (mCallT F l)) := by
  refine PE.imp (pe_call FO hr hg hm hk hb .nil pass0 (pa_cons ha pa_nil he) hdb he hpl) fun σ H Q ⟨Z, S, G, d, S', R, e, q⟩ => ?_
  obtain ⟨c, S1, e1, e2⟩ := bnd_some e
  obtain ⟨⟨r, c'⟩, h1, h2⟩ := Option.map_eq_some_iff.mp e2
  cases h2
  refine ⟨Z, S, G, c, _, R, e1, fun a H1 G1 R1 s1 fr => ?_⟩
  show spB X.K F ([.ref a] ++ []) H1 Q E0
  rw [List.append_nil]
  obtain ⟨o, w1, w2⟩ := fr.at_
  refine ⟨G1, a, o, c, [], [], _, c', rfl, R1.sub, w1, fr.gn, w2, .nil, h1, fun v H2 G2 o' k1 k2 k3 k4 k5 k6 k7 => ?_⟩
  have ga : G2 a = none := (k4 a o w1).trans fr.gn
  have g : Gr G1 H1 G2 (upd H2 a o) := ⟨k2, fun b u e => by
      by_cases hb : b = a
      · rw [hb] at e ⊢
        rw [w1] at e; cases e
        exact upd_same
      · rw [upd_ne hb]; exact k1 b u hb e, fun b u e => by
      have hb : b ≠ a := fun z => by rw [z, ga] at e; cases e
      rw [upd_ne hb]; exact k3 b u e, k4⟩
  have R2 := R1.gr g
  -- the cell is nobody's any more
  have R3 : RS X.K Z S' σ H2 G2 := by
    have e : upd (upd H2 a o) a o' = H2 := by
      rw [upd_upd]
      funext b
      by_cases hb : b = a
      · rw [hb, upd_same, k5]
      · rw [upd_ne hb]
    rcases fr.new with z | z
    · have R4 := R2.updFree (o' := o') upd_same ga z fr.sep
      rw [e] at R4
      exact R4
    · have R4 := R2.updF (o' := o') upd_same ga z fr.sep
      rw [e] at R4
      exact R4
  refine q v H2 G2 R3 (s1.trans k2) ?_
  cases r with
  | val d => exact k7
  | own c2 =>
    obtain ⟨b, o2, rfl, q1, q2, q3, q4⟩ := k7
    refine ⟨b, rfl, ⟨o2, q2, q4⟩, q3, ?_, fun i hi e => ?_⟩
    · left
      cases qz : Z.H0 b with
      | none => rfl
      | some x =>
        obtain ⟨o', z⟩ := R1.there b x qz
        rw [q1] at z; cases z
    · obtain ⟨b', o, c, u1, u2, _⟩ := R1.cell hi
      rw [e] at u1; cases u1
      rw [q1] at u2; cases u2
  | bor _ => exact k7.elim
end
/-! ### nothing can be asked of a def with no calls left -/
section
variable {P : Program} {w : World} {K : PySem.W.Frag} {mg : Str → Option Value} {base : Heap} {f : Addr} {fd : FuncData} {ps : List Str} {k : Nat}
theorem noneP : FnOk P w K mg base CX0 k f fd ps (spP K fun _ => none) := by
  have no : ∀ vs H Q E, ¬ spP K (fun _ => none) vs H Q E := fun vs H Q E ⟨_, _, _, _, _, e, _⟩ => by cases e
  exact ⟨fun vs H Q E h => absurd h (no vs H Q E), fun A outer s H args us vs Q E _ _ _ _ h => absurd h (no vs H Q E)⟩
theorem noneB : FnOk P w K mg base CX0 k f fd ps (spB K fun _ _ => none) := by
  have no : ∀ vs H Q E, ¬ spB K (fun _ _ => none) vs H Q E := fun vs H Q E ⟨_, _, _, _, _, _, _, _, _, _, _, _, _, _, e, _⟩ => by cases e
  exact ⟨fun vs H Q E h => absurd h (no vs H Q E), fun A outer s H args us vs Q E _ _ _ _ h => absurd h (no vs H Q E)⟩
end
end PD
namespace PD
open PySem PySem.Spec PyProof.Rows L2
section
variable {X : Cx} {e : Expr} {tg : Expr} {pos : Pos} {m : ME}
theorem en (i : Nat) {x : Str} {pos : Pos} (hN : X.N[i]? = some x := by rfl) (hv : Vis X.env.scope x := by first | exact Or.inl rfl | exact Or.inr (Or.inl rfl) | exact Or.inr (Or.inr rfl)) (hd : (x == ("__debug__" : Str)) = false := by decide) (hcd : (x == ("__classdict__" : Str)) = false := by decide) :
    PE X (.Name x pos) (tM X.K (eName i)) := de_name hN hv hd hcd
theorem on (i : Nat) {x : Str} {pos : Pos} (hN : X.N[i]? = some x := by rfl) (hv : Vis X.env.scope x := by first | exact Or.inl rfl | exact Or.inr (Or.inl rfl) | exact Or.inr (Or.inr rfl)) (hd : (x == ("__debug__" : Str)) = false := by decide) (hcd : (x == ("__classdict__" : Str)) = false := by decide) :
    PE X (.Name x pos) (tO X.K (oName i)) := do_name hN hv hd hcd
/-- a list or a tuple walked -/
def iAny (m : ME) : MA := bnd m fun d S => match d with
  | .list ds => some (ds, S)
  | .tuple ds => some (ds, S)
  | _ => none
theorem di_any (h : PE X e (tM X.K m)) : PI X tg e (tI X.K (iAny m)) := by
  refine PI.imp (PI.or (di_list h) (di_tup h)) fun σ H Q ⟨Z, S, G, ds, S', R, e, q⟩ => ?_
  obtain ⟨d, S1, e1, e2⟩ := bnd_some e
  split at e2
  · cases e2
    exact .inl ⟨Z, S, G, _, _, R, by unfold iSeq; rw [bnd_eq e1], q⟩
  · cases e2
    exact .inr ⟨Z, S, G, _, _, R, by unfold iTupD; rw [bnd_eq e1], q⟩
  · cases e2
/-- return x -/
def sRetName (i : Nat) : MS := fun S => match S[i]? with
  | some (some (.val d)) => some (.rt (.val d), S)
  | some (some (.own c)) => some (.rt (.own c), S.set i none)
  | _ => none
theorem ds_retName (i : Nat) {x : Str} {pos' : Pos} (hN : X.N[i]? = some x := by rfl) (hv : Vis X.env.scope x := by first | exact Or.inl rfl | exact Or.inr (Or.inl rfl) | exact Or.inr (Or.inr rfl)) (hd : (x == ("__debug__" : Str)) = false := by decide) (hcd : (x == ("__classdict__" : Str)) = false := by decide) :
    PS X (.Return (some (.Name x pos')) pos) (tS X.K (sRetName i)) := by
  refine PS.imp (ps_ret (pe_var hN hv hd hcd)) fun D σ H ⟨Z, S, G, o, S', R, e, q⟩ => ?_
  unfold sRetName at e
  split at e
  · rename_i d hs
    cases e
    obtain ⟨v, h1, h2⟩ := R.vals i _ hs
    exact ⟨v, h1, q v σ H G R (Same.refl _) h2⟩
  · rename_i c hs
    cases e
    obtain ⟨a, o, h1, h2, h3, h4, h5⟩ := R.owns i _ hs
    exact ⟨_, h1, q _ σ H G (R.drop1 i) (Same.refl _) ⟨a, rfl, ⟨o, h2, h5⟩, h3, h4, dropcell R ⟨_, .inl hs⟩ h1⟩⟩
  · cases e
theorem par3 {i j l : Nat} {x y z : Str} {a b c : Expr} {ta : TA} {px py pz pt pos : Pos} {kt k2 pt2} (h : PS X (.Assign [.Tuple [.Name x px, .Name y py, .Name z pz] kt pt] (.Tuple [a, b, c] k2 pt2) pos) (tPar3 i j l ta)) : PS X (.Assign [.Tuple [.Name x px, .Name y py, .Name z pz] kt pt] (.Tuple [a, b, c] k2 pt2) pos) (tPar3 i j l ta) := h
end
end PD

/-! PDMore: list + list, list * int, unpacking a list. -/
namespace PD
open PySem PySem.Spec PyProof.Rows L2
/-- list + list, of any lists -/
def rCatL (K : PySem.W.Frag) : R2 := fun x y H Q => ∃ l b xs zs, x = .ref l ∧ y = .ref b ∧ SqL K H l xs ∧ SqL K H b zs ∧ xs.length + zs.length ≤ sizeLine ∧ ∀ p, H p = none → Q (.ref p) (upd H p (.lst (xs ++ zs)))
theorem op_catL {X : Cx} : OpR X (binaryOp .Add) (rCatL X.K) := by
  intro pins s σ H x y v u Q I rx ry h
  obtain ⟨l, b, xs, zs, rfl, rfl, hx, hy, hz, q⟩ := h
  cases rx
  cases ry
  obtain ⟨its, r, pl, hz1⟩ := I.list hx
  obtain ⟨its2, r2, pl2, hz2⟩ := I.list hy
  obtain ⟨⟨cls, dd, data, sl⟩, ho, hc, n, hd⟩ := pl.isList
  obtain ⟨⟨cls2, dd2, data2, sl2⟩, ho2, hc2, n2, hd2⟩ := pl2.isList
  simp only at hc hd hc2 hd2
  subst hc hd hc2 hd2
  have e : its.toArray ++ its2.toArray = (its ++ its2).toArray := by simp
  have hl : its.toArray.size + its2.toArray.size ≤ sizeLine := by rw [List.size_toArray, List.size_toArray, ← r.length, ← r2.length]; exact hz
  refine concat_meets ⟨_, ho, rfl⟩ ⟨_, ho2, rfl⟩ noFill_list_add seq_list_add PySem.F.slot_list_add PySem.F.entry_list_add (PySem.F.args_list_add_2 _ _) (list_addW l b its.toArray its2.toArray n n2 dd dd2 sl sl2 hl) ⟨ho, ho2, ?_⟩
  rw [e]
  exact ⟨.ref _, _, I.lnew (t' := s.toks) (r.append r2) (by rw [List.length_append]; exact hz), rfl, q _ I.fresh⟩
def fCatL : D → D → Option (List D)
  | .list a, .list b => if a.length + b.length ≤ 1000000 then some (a ++ b) else none
  | _, _ => none
theorem ad_catL {K : PySem.W.Frag} : Ad2L K (rCatL K) fCatL := fun G H x y d e z Q s hx hy hf q => by
  unfold fCatL at hf
  split at hf
  · split at hf
    · rename_i hl
      cases hf
      obtain ⟨a, vs, rfl, h1, h2⟩ := dpt_list s hx
      obtain ⟨b, ws, rfl, h3, h4⟩ := dpt_list s hy
      exact ⟨a, b, vs, ws, rfl, rfl, h1, h3, size_ok (by rw [h2.len, h4.len]; exact hl), fun p hp => q p _ hp (h2.app h4)⟩
    · cases hf
  · cases hf
/-- a new list times an int -/
def lRep (l : ML) (m : ME) : ML := bnd l fun c => bnd m fun d S => match c, d with
  | .lst ds, .int k => if k < 1000000 ∧ -1000000 < k ∧ ds.length * k.toNat ≤ 1000000 then some (.lst (List.replicate k.toNat ds).flatten, S) else none
  | _, _ => none
theorem dpAll_rep {K : PySem.W.Frag} {G : Hp} {vs : List V} {ds : List D} (h : DpAll K G vs ds) : ∀ n : Nat, DpAll K G (List.replicate n vs).flatten (List.replicate n ds).flatten
  | 0 => .nil
  | n + 1 => by
    rw [List.replicate_succ, List.flatten_cons, List.replicate_succ, List.flatten_cons]
    exact h.app (dpAll_rep h n)
section
variable {X : Cx} {a b : Expr} {pos : Pos} {l : ML} {m : ME}
theorem dl_rep (ha : PE X a (tL X.K l)) (hb : PE X b (tM X.K m)) : PE X (.BinOp a .Mult b pos) (tL X.K (lRep l m)) := by
  refine PE.imp (pe_op op_rep ha hb) fun σ H Q ⟨Z, S, G, c, S', R, e, q⟩ => ?_
  obtain ⟨c0, S1, e1, e2⟩ := bnd_some e
  obtain ⟨d, S2, e3, e4⟩ := bnd_some e2
  split at e4
  · rename_i ds k
    split at e4
    · rename_i hk
      cases e4
      refine ⟨Z, S, G, .lst ds, S1, R, e1, fun p H1 G1 R1 s1 f => ⟨_, S1, G1, .int k, _, R1.now, e3, fun v H2 G2 R2 s2 kd => ?_⟩⟩
      cases kd
      obtain ⟨o, h1, h2⟩ := f.at_
      obtain ⟨k1, k2⟩ := R1.kept R2 h1 f.gn f.sep
      have R3 := R1.back R2
      obtain ⟨vs, rfl, h3⟩ := h2.list
      have h4 := dpAll_mono s2 h3
      refine ⟨p, k, vs, rfl, rfl, k1, by omega, by omega, size_ok (by rw [h4.len]; exact hk.2.2), fun t ht => ?_⟩
      obtain ⟨R5, f5⟩ := fresh_new R3 ht (dpAll_rep h4 k.toNat)
      exact q t _ G2 R5 (s1.trans s2) f5
    · cases e4
  · cases e4
end
/-- unpacking a list -/
def gL (n : Nat) (gs : MGs) : MG := fun d S => match d with
  | .list ds => if ds.length = n then gs ds S else none
  | _ => none
theorem dg_lst {X : Cx} {pos : Pos} {es : List Expr} {k : Nat} {n : Nat} {gs : MGs} {is : List Nat} (hc : X.calm = true) (h : PGs X es (tGs X.K is gs)) (hn : (assignEach es X.env).length = n := by rfl) (hst : (assignEach es X.env).findIdx? (·.1) = none := by rfl) :
    PG X (.Tuple es k pos) (tG X.K is (gL n gs)) := by
  refine PG.imp (pg_unl hc h hn hst) fun v σ H Q ⟨Z, S, G, d, S', R, kd, e, q⟩ => ?_
  unfold gL at e
  split at e
  · split at e
    · rename_i hl
      cases kd with
      | lst hs ha => exact ⟨_, _, rfl, R.sub.seq hs, by rw [ha.len]; exact hl, Z, S, G, _, S', R, ha, e, q⟩
    · cases e
  · cases e
end PD

/-! PDDict: dict comprehensions, keys, sorted. -/
namespace PD
open PySem PySem.Spec PyProof.Rows L2
def keyD : D → Option Key
  | .int i => some (.inl i)
  | .str s => some (.inr s)
  | _ => none
def putD (kvs : List (Key × D)) (k : Key) (v : D) : List (Key × D) :=
  if (kvs.any fun kv => decide (kv.1 = k)) = true then kvs.map (fun kv => if kv.1 = k then (kv.1, v) else kv) else kvs ++ [(k, v)]
def hasD (kvs : List (Key × D)) (k : Key) : Bool := kvs.any fun kv => decide (kv.1 = k)
section
variable {K : PySem.W.Frag} {G : Hp}
abbrev KvR (K : PySem.W.Frag) (G : Hp) : Key × V → Key × D → Prop := fun p q => p.1 = q.1 ∧ Dp K G p.2 q.2
theorem key_of {H : Hp} {v : V} {d : D} {k : Key} (h : Dp K H v d) (e : keyD d = some k) : v = kV k := by
  cases h <;> first | (cases e; rfl) | cases e
theorem kv_len : ∀ {xs : List (Key × V)} {ys : List (Key × D)}, Paired (KvR K G) xs ys → xs.length = ys.length
  | _, _, .nil => rfl
  | _, _, .cons _ t => by rw [List.length_cons, List.length_cons, kv_len t]
theorem kv_any {k : Key} : ∀ {xs : List (Key × V)} {ys : List (Key × D)}, Paired (KvR K G) xs ys → (xs.any fun kv => decide (kv.1 = k)) = ys.any fun kv => decide (kv.1 = k)
  | _, _, .nil => rfl
  | _, _, .cons r t => by rw [List.any_cons, List.any_cons, r.1, kv_any t]
theorem kv_app {xs xs' : List (Key × V)} {ys ys' : List (Key × D)} (h : Paired (KvR K G) xs ys) (h' : Paired (KvR K G) xs' ys') : Paired (KvR K G) (xs ++ xs') (ys ++ ys') := by
  induction h with
  | nil => exact h'
  | cons r t ih => exact .cons r ih
theorem kv_map {k : Key} {v : V} {d : D} (hv : Dp K G v d) : ∀ {xs : List (Key × V)} {ys : List (Key × D)}, Paired (KvR K G) xs ys → Paired (KvR K G) (xs.map fun kv => if kv.1 = k then (kv.1, v) else kv) (ys.map fun kv => if kv.1 = k then (kv.1, d) else kv)
  | _, _, .nil => .nil
  | _, _, .cons (a := a) (b := b) r t => by
    refine .cons ?_ (kv_map hv t)
    dsimp only
    by_cases e : a.1 = k
    · rw [if_pos e, if_pos (r.1 ▸ e)]; exact ⟨r.1, hv⟩
    · rw [if_neg e, if_neg (r.1 ▸ e)]; exact r
theorem kv_put {k : Key} {v : V} {d : D} (hv : Dp K G v d) {xs : List (Key × V)} {ys : List (Key × D)} (h : Paired (KvR K G) xs ys) : Paired (KvR K G) (putK xs k v) (putD ys k d) := by
  unfold putK putD
  rw [kv_any h]
  split
  · exact kv_map hv h
  · exact kv_app h (.cons ⟨rfl, hv⟩ .nil)
theorem put_len {kvs : List (Key × D)} {k : Key} {v : D} : (putD kvs k v).length ≤ kvs.length + 1 := by
  unfold putD
  split
  · rw [List.length_map]; omega
  · rw [List.length_append]; exact Nat.le_refl _
theorem kv_has {k : Key} {xs : List (Key × V)} {ys : List (Key × D)} (h : Paired (KvR K G) xs ys) : (valV xs k).isSome = hasD ys k := by
  unfold valV hasD
  rw [Option.isSome_map, ← kv_any h, Bool.eq_iff_iff, List.find?_isSome, List.any_eq_true]
end
section
variable {K : PySem.W.Frag} {X : Cx}
/-! ### {k: v for ..} -/
def dcL (g : MG) (t : MT) (mk mv : ME) (vs : List Nat) : List D → List (Key × D) → M (List (Key × D))
  | [], acc => mret acc
  | d :: ds, acc => fun S => (g d S).bind fun S1 => (bnd t fun b => if b = true then (bnd mk fun y => bnd mv fun z S2 => (keyD y).bind fun k => dcL g t mk mv vs ds (putD acc k z) (wipeS S2 vs)) else fun S2 => dcL g t mk mv vs ds acc (wipeS S2 vs)) S1
def lDict (it : MA) (g : MG) (t : MT) (mk mv : ME) (vs : List Nat) : ML := bnd it fun ds S => if ds.length ≤ 1000000 ∧ noCells S vs = true then (dcL g t mk mv vs ds [] (wipeS S vs)).map fun p => (.dK p.1, backS S p.2 vs) else none
theorem tDict {it : MA} {g : MG} {t : MT} {mk mv : ME} {vs is : List Nat} (his : ∀ i ∈ is, i ∈ vs) : ∀ σ H Q, tL K (lDict it g t mk mv vs) σ H Q → tDc (tI K it) (tG K is g) (tT K t) (tM K mk) (tM K mv) vs σ H Q := by
  intro σ H Q ⟨Z, S, G, c, S', R, e, q⟩
  obtain ⟨ds, S1, e1, e2⟩ := bnd_some e
  split at e2
  · rename_i hc
    obtain ⟨hlen, nc⟩ := hc
    obtain ⟨⟨rs, S2⟩, e3, e4⟩ := Option.map_eq_some_iff.mp e2
    cases e4
    refine ⟨Z, S, G, ds, S1, R, e1, fun J H1 G1 R1 s1 w A hA => ?_⟩
    have hz : Z.H0 A = none := by
      cases q : Z.H0 A with
      | none => rfl
      | some x =>
        obtain ⟨o', z⟩ := R1.there A x q
        rw [hA] at z; cases z
    let N : Nat → Hp → Prop := fun i H => ∃ S3 G3 acc accd, RS K Z S3 (wipe σ vs) H G3 ∧ Same G1 G3 ∧ H A = some (.dK acc) ∧ G3 A = none ∧ Paired (KvR K G3) acc accd ∧ accd.length ≤ i ∧ dcL g t mk mv vs (ds.drop i) accd S3 = some (rs, S2) ∧ ∀ (n : Nat), IsCell S3 n → (wipe σ vs)[n]? ≠ some (some (V.ref A))
    refine ⟨fun i n H => i ≤ ds.length ∧ n = ds.length - i ∧ N i H, ⟨ds.length, Nat.zero_le _, rfl, wipeS S1 vs, G1, [], [], ?_⟩, ?_⟩
    · have g := Gr.newH (o := .dK []) R1.sub hA
      refine ⟨(R1.gr g).wipes vs, Same.refl _, upd_same, same_none R1.sub hA, .nil, Nat.le_refl _, by rw [List.drop_zero]; exact e3, fun n hn e => ?_⟩
      obtain ⟨h1, h2⟩ := isCell_wipe hn
      obtain ⟨b, o, c, w1, w2, _⟩ := R1.cell h1
      rw [wipe_out h2] at e
      rw [e] at w1; cases w1
      rw [hA] at w2; cases w2
    · rintro i n H ⟨hi, rfl, S3, G3, acc, accd, R3, s3, hAc, hG3, kd, hal, ec, sep3⟩
      obtain ⟨w1, w2⟩ := w G3 H i s3 R3.sub
      by_cases hl : i < ds.length
      · obtain ⟨go, yl⟩ := w1 ds[i] (List.getElem?_eq_getElem hl)
        rw [List.drop_eq_getElem_cons hl] at ec
        obtain ⟨S4, e5, e6⟩ := Option.bind_eq_some_iff.mp ec
        obtain ⟨b, S5, e7, e8⟩ := bnd_some e6
        refine .inr ⟨go, N (i + 1), fun H' hN => ⟨ds.length - (i + 1), by omega, hl, rfl, hN⟩, fun x H' y => ?_⟩
        obtain ⟨G4, gr, kx⟩ := yl x H' y
        have R4 := R3.gr gr
        have hA4 : H' A = some (.dK acc) := gr.h _ _ hAc
        have hG4 : G4 A = none := (gr.f A _ hAc).trans hG3
        refine ⟨_, S3, G4, ds[i], S4, R4.now, kx, e5, fun σ2 H2 G5 R5 s5 hw => ?_⟩
        have hw2 : wipe σ2 vs = wipe σ vs := (hw vs his).trans (wipe_wipe vs)
        refine ⟨hw2, _, S4, G5, b, S5, R5, e7, fun H3 G6 R6 s6 => ?_⟩
        have fin : ∀ {S6 : Slots} {H4 G7 : Hp} {acc' : List (Key × V)} {accd' : List (Key × D)}, RS K (Fz.now S3 (wipe σ vs) H' G4) S6 σ2 H4 G7 → Same G3 G7 → Paired (KvR K G7) acc' accd' → accd'.length ≤ i + 1 → dcL g t mk mv vs (ds.drop (i + 1)) accd' (wipeS S6 vs) = some (rs, S2) → N (i + 1) (L2.upd H4 A (.dK acc')) := fun {S6 H4 G7 acc' accd'} R7 s7 k7 l7 c7 => by
          obtain ⟨k1, k2⟩ := R4.kept R7 hA4 hG4 sep3
          have sp := R4.sepNow R7 hA4 sep3
          have R8 := (R4.back R7).updFree (o' := .dK acc') k1 k2 hz sp
          have R9 := R8.wipes vs
          rw [hw2] at R9
          refine ⟨wipeS S6 vs, G7, acc', accd', R9, s3.trans s7, upd_same, k2, k7, l7, c7, fun n hn e => ?_⟩
          obtain ⟨h1, h2⟩ := isCell_wipe hn
          rw [← hw2, wipe_out h2] at e
          exact sp n h1 e
        have km : ∀ {G7 : Hp}, Same G3 G7 → Paired (KvR K G7) acc accd := fun ss => paired_mono (fun _ _ q => ⟨q.1, dp_mono ss q.2⟩) kd
        cases b with
        | true =>
          rw [if_pos rfl] at e8
          show tM K mk σ2 H3 _
          obtain ⟨y, S6, e9, e10⟩ := bnd_some e8
          obtain ⟨z, S7, e11, e12⟩ := bnd_some e10
          obtain ⟨k, e13, e14⟩ := Option.bind_eq_some_iff.mp e12
          refine ⟨_, S5, G6, y, S6, R6, e9, fun v H4 G7 R7 s7 ky => ⟨_, S6, G7, z, S7, R7, e11, fun v2 H5 G8 R8 s8 kz => ?_⟩⟩
          have ss : Same G3 G8 := gr.g.trans (s5.trans (s6.trans (s7.trans s8)))
          obtain ⟨k1, k2⟩ := R4.kept R8 hA4 hG4 sep3
          refine ⟨acc, k, key_of ky e13, k1, Nat.lt_of_le_of_lt (by rw [kv_len kd]; exact hal) (Nat.lt_of_lt_of_le hl (size_ok hlen)), ?_⟩
          exact fin R8 ss (kv_put kz (km ss)) (by have := put_len (kvs := accd) (k := k) (v := z); omega) e14
        | false =>
          rw [if_neg Bool.false_ne_true] at e8
          show N (i + 1) H3
          have ss : Same G3 G6 := gr.g.trans (s5.trans s6)
          obtain ⟨k1, k2⟩ := R4.kept R6 hA4 hG4 sep3
          have z := fin R6 ss (km ss) (by omega) e8
          have eu : L2.upd H3 A (.dK acc) = H3 := by
            funext b
            by_cases hb : b = A
            · rw [hb, upd_same, k1]
            · rw [upd_ne hb]
          rw [eu] at z
          exact z
      · refine .inl ⟨w2 (by omega), ?_⟩
        rw [List.drop_eq_nil_of_le (by omega)] at ec
        cases ec
        refine q A H G3 (R1.backs R3 s3 nc) (s1.trans s3) ⟨⟨_, hAc, kd⟩, hG3, .inl hz, fun n hn e => ?_⟩
        obtain ⟨h1, h2⟩ := isCell_backS nc hn
        exact sep3 n h1 (by rw [wipe_out h2]; exact e)
  · cases e2
theorem dl_dict {kx vx tg iter : Expr} {ifs : List Expr} {scope : Scope} {own : List (Str × Nat)} {pos : Pos} {it : MA} {g : MG} {t : MT} {mk mv : ME} {is : List Nat} (hc : X.calm = true) (hN : X.N.Nodup) (hi : PI X tg iter (tI X.K it)) (ok : BlkOk X.N X.env.scope scope own)
    (hg : ∀ (s : Shared) (H : Hp) (C : Addr) (cl : List (Str × Addr)) (fp : List Addr), PG (X.blk s H scope (compEnvC scope cl C X.env) fp) tg (tG X.K is g)) (ht : ∀ (s : Shared) (H : Hp) (C : Addr) (cl : List (Str × Addr)) (fp : List Addr), PTs (X.blk s H scope (compEnvC scope cl C X.env) fp) ifs (tT X.K t))
    (hk : ∀ (s : Shared) (H : Hp) (C : Addr) (cl : List (Str × Addr)) (fp : List Addr), PE (X.blk s H scope (compEnvC scope cl C X.env) fp) kx (tM X.K mk))
    (he : ∀ (s : Shared) (H : Hp) (C : Addr) (cl : List (Str × Addr)) (fp : List Addr), PE (X.blk s H scope (compEnvC scope cl C X.env) fp) vx (tM X.K mv)) (his : ∀ i ∈ is, i ∈ own.map (·.2) := by decide) (hs : ∀ x, foldedSetIterable iter X.env x = pure x := by intro _; rfl) :
    PE X (.DictComp kx vx [⟨tg, iter, ifs, 0⟩] scope pos) (tL X.K (lDict it g t mk mv (own.map (·.2)))) :=
  PE.imp (pe_dc hc hN hi ok hg ht hk he hs) (tDict his)

/-! ### sorted(ints) -/
def sortI (ns : List Int) : List Int := ns.mergeSort fun a b => decide (a ≤ b)
theorem sortI_perm {ns : List Int} : (sortI ns).Perm ns := List.mergeSort_perm _ _
theorem sortI_ord {ns : List Int} : (sortI ns).Pairwise (· ≤ ·) := by
  have := List.pairwise_mergeSort (le := fun a b : Int => decide (a ≤ b)) (fun a b c h1 h2 => by simp at *; omega) (fun a b => by simp; omega) ns
  exact this.imp (by simp)
theorem sort_uniq : ∀ {as bs : List Int}, as.Perm bs → as.Pairwise (· ≤ ·) → bs.Pairwise (· ≤ ·) → as = bs := by
  intro as
  induction as with
  | nil => intro bs h _ _; exact (List.nil_perm.mp h).symm
  | cons a as ih =>
    intro bs h h1 h2
    cases bs with
    | nil => exact absurd (List.perm_nil.mp h) (by simp)
    | cons b bs =>
      have e : a = b := by
        have m1 : a ∈ b :: bs := h.mem_iff.mp List.mem_cons_self
        have m2 : b ∈ a :: as := h.mem_iff.mpr List.mem_cons_self
        have l1 : b ≤ a := by
          rcases List.mem_cons.mp m1 with e | m
          · omega
          · exact (List.pairwise_cons.mp h2).1 a m
        have l2 : a ≤ b := by
          rcases List.mem_cons.mp m2 with e | m
          · omega
          · exact (List.pairwise_cons.mp h1).1 b m
        omega
      subst e
      rw [ih (List.perm_cons a |>.mp h) (List.pairwise_cons.mp h1).2 (List.pairwise_cons.mp h2).2]
def sortedD : List D → Option (List D)
  | [.list ds] => (intsOf ds).map fun ns => (sortI ns).map .int
  | _ => none
theorem ad_sorted : AdNL K (rSortedI K) sortedD := fun G H xs ds z Q s hx hf q => by
  unfold sortedD at hf
  split at hf
  · obtain ⟨ns, h1, h2⟩ := Option.map_eq_some_iff.mp hf
    subst h2
    obtain ⟨v, rfl, h⟩ := dpTs1 hx
    rw [intsOf_some h1] at h
    obtain ⟨a, rfl, hs⟩ := dpt_ints s h
    refine ⟨a, ns, rfl, hs, fun ns' p hp ho hn => ?_⟩
    rw [sort_uniq (hp.trans sortI_perm.symm) ho sortI_ord]
    exact q p _ hn (DpAll.ofInts _)
  · cases hf

/-! ### x.bit_length() -/
def fBits : D → Option D
  | .int i => some (.int (Builtin.Int.intBits i : Nat))
  | _ => none
theorem de_bits {o : Expr} {apos pos : Pos} {oa : MO} (ho : PE X o (tO X.K oa)) (hbase : attributeBase o "bit_length" X.env (eval o X.env) = eval o X.env := by rfl) (hline : (apos.endLine == pos.line) = true := by rfl) : PE X (.Call (.Attribute o "bit_length" apos) [] [] pos) (tM X.K (eUn fBits oa)) := by
  refine PE.imp (pe_bits ho hbase hline) fun σ H Q ⟨Z, S, G, d, S', R, e, q⟩ => ?_
  obtain ⟨r, S1, e1, e2⟩ := bnd_some e
  obtain ⟨rfl, d1, h1, h2⟩ := op1_some e2
  unfold fBits at h2
  split at h2
  · cases h2
    refine ⟨Z, S, G, r, _, R, e1, fun v H1 G1 R1 s1 k => ⟨_, dpt_int (rs_ok R1 k h1), q _ H1 G1 R1 s1 (.int _)⟩⟩
  · cases h2
/-! ### x in a dict of one's own -/
def dictD : Option (Option SV) → Option (List (Key × D))
  | some (some (.own (.dK kvs))) => some kvs
  | some (some (.bor (.dK kvs))) => some kvs
  | _ => none
def inK (i : Nat) (x : Rf) : M Bool := fun S => (rs x S).bind fun d => (dictD S[i]?).bind fun kvs => (keyD d).map fun k => (hasD kvs k, S)
def eInK (o : MO) (i : Nat) : ME := bnd o fun x => bnd (inK i x) fun b => mret (.bool b)
def eNinK (o : MO) (i : Nat) : ME := bnd o fun x => bnd (inK i x) fun b => mret (.bool (!b))
theorem tInK {i : Nat} {oa : MO} {f : Bool → Bool} : ∀ σ H Q, tM K (bnd oa fun x => bnd (inK i x) fun b => mret (.bool (f b))) σ H Q → tO K oa σ H fun y H1 => tVar i σ H1 fun x H2 => ∃ a o, x = .ref a ∧ DGet H2 a y o ∧ Q (.bl (f o.isSome)) H2 := fun σ H Q ⟨Z, S, G, d, S', R, e, q⟩ => by
  obtain ⟨x, S1, e1, e2⟩ := bnd_some e
  obtain ⟨b, S2, e3, e4⟩ := bnd_some e2
  cases e4
  obtain ⟨dx, h1, h2⟩ := Option.bind_eq_some_iff.mp e3
  obtain ⟨kvs, h3, h4⟩ := Option.bind_eq_some_iff.mp h2
  obtain ⟨k, h5, h6⟩ := Option.map_eq_some_iff.mp h4
  cases h6
  refine ⟨Z, S, G, x, _, R, e1, fun v H1 G1 R1 s1 ko => ?_⟩
  have kx := (rs_ok R1 ko h1).dp R1.sub
  have hc : IsCell S' i ∧ ∀ c, (S'[i]? = some (some (.own c)) ∨ S'[i]? = some (some (.bor c))) → c = .dK kvs := by
    unfold dictD at h3
    split at h3
    · rename_i hS; cases h3; exact ⟨⟨_, .inl hS⟩, fun c hc => by rcases hc with hc | hc <;> rw [hS] at hc <;> cases hc; rfl⟩
    · rename_i hS; cases h3; exact ⟨⟨_, .inr hS⟩, fun c hc => by rcases hc with hc | hc <;> rw [hS] at hc <;> cases hc; rfl⟩
    · cases h3
  obtain ⟨a, o, c1, w1, w2, w3, w4, w5⟩ := R1.cell hc.1
  have ec := hc.2 c1 w5
  subst ec
  cases o <;> first | exact w4.elim | skip
  rename_i xs
  refine ⟨.ref a, w1, a, valV xs k, rfl, ?_, ?_⟩
  · rw [key_of kx h5]; exact DGet.k w2
  · rw [kv_has w4]; exact q _ H1 G1 R1 s1 (.bl _)
theorem de_inK {i : Nat} {x : Str} {e : Expr} {oa : MO} {p pos : Pos} (hu : X.A.units + 1 < cLine) (he : PE X e (tO X.K oa)) (hN : X.N[i]? = some x) (hv : Vis X.env.scope x) (hd : (x == ("__debug__" : Str)) = false := by decide) (hcd : (x == ("__classdict__" : Str)) = false := by decide) :
    PE X (.Compare e [.In] [.Name x p] pos) (tM X.K (eInK oa i)) :=
  PE.imp (pe_cmp (pc_din hu he (pe_var hN hv hd hcd)) rfl) fun σ H Q h => tInK (f := fun b => b) σ H Q h
theorem de_ninK {i : Nat} {x : Str} {e : Expr} {oa : MO} {p pos : Pos} (hu : X.A.units + 1 < cLine) (he : PE X e (tO X.K oa)) (hN : X.N[i]? = some x) (hv : Vis X.env.scope x) (hd : (x == ("__debug__" : Str)) = false := by decide) (hcd : (x == ("__classdict__" : Str)) = false := by decide) :
    PE X (.Compare e [.NotIn] [.Name x p] pos) (tM X.K (eNinK oa i)) :=
  PE.imp (pe_cmp (pc_dnotin hu he (pe_var hN hv hd hcd)) rfl) fun σ H Q h => tInK (f := fun b => !b) σ H Q h
theorem dt_inK {i : Nat} {x : Str} {e : Expr} {oa : MO} {p pos : Pos} (hu : X.A.units + 1 < cLine) (he : PE X e (tO X.K oa)) (hN : X.N[i]? = some x) (hv : Vis X.env.scope x) (hd : (x == ("__debug__" : Str)) = false := by decide) (hcd : (x == ("__classdict__" : Str)) = false := by decide) :
    PT X (.Compare e [.In] [.Name x p] pos) (tT X.K (tOf (eInK oa i))) :=
  PT.imp (pt_cmp (pc_din hu he (pe_var hN hv hd hcd)) rfl) fun σ H Q ⟨Z, S, G, b, S', R, e, q⟩ => tInK (f := fun b => b) σ H (fun x H1 => ∃ c, x = .bl c ∧ Q c H1) ⟨Z, S, G, .bool b, S', R, tOf_some e, fun v H1 G1 R1 s1 k => by cases k; exact ⟨b, rfl, q H1 G1 R1 s1⟩⟩
theorem dt_ninK {i : Nat} {x : Str} {e : Expr} {oa : MO} {p pos : Pos} (hu : X.A.units + 1 < cLine) (he : PE X e (tO X.K oa)) (hN : X.N[i]? = some x) (hv : Vis X.env.scope x) (hd : (x == ("__debug__" : Str)) = false := by decide) (hcd : (x == ("__classdict__" : Str)) = false := by decide) :
    PT X (.Compare e [.NotIn] [.Name x p] pos) (tT X.K (tOf (eNinK oa i))) :=
  PT.imp (pt_cmp (pc_dnotin hu he (pe_var hN hv hd hcd)) rfl) fun σ H Q ⟨Z, S, G, b, S', R, e, q⟩ => tInK (f := fun b => !b) σ H (fun x H1 => ∃ c, x = .bl c ∧ Q c H1) ⟨Z, S, G, .bool b, S', R, tOf_some e, fun v H1 G1 R1 s1 k => by cases k; exact ⟨b, rfl, q H1 G1 R1 s1⟩⟩
/-! ### list(range(n)) -/
def rgC (d : D) (S : Slots) : Option (Cel × Slots) := match d with
  | .int n => if -1000000 ≤ n ∧ n ≤ 1000000 then some (.lst (rangeD 0 n), S) else none
  | _ => none
def lRange1 (m : ME) : ML := bnd m fun d => rgC d
theorem dpAll_rg {K : PySem.W.Frag} {G : Hp} {a b : Int} : DpAll K G (rgV a b) (rangeD a b) := by
  have h : ∀ l : List Nat, DpAll K G (l.map fun i => V.int (a + (i : Nat))) (l.map fun (k : Nat) => .int (a + (k : Int))) := by
    intro l
    induction l with
    | nil => exact .nil
    | cons x l ih => exact .cons (.int _) ih
  exact h _
theorem dl_range1 {e : Expr} {m : ME} {p p2 p3 pos : Pos} (hc : X.calm = true) (hg : Gl X "list") (hm : X.mg "list" = none) (hg2 : Gl X "range") (hm2 : X.mg "range" = none) (he : PE X e (tM X.K m)) (na : starEach [e] X.env = (false, eval e X.env) :: starEach [] X.env := by rfl)
    (nb : starEach [.Call (.Name "range" p2) [e] [] p3] X.env = (false, eval (.Call (.Name "range" p2) [e] [] p3) X.env) :: starEach [] X.env := by rfl) :
    PE X (.Call (.Name "list" p) [.Call (.Name "range" p2) [e] [] p3] [] pos) (tL X.K (lRange1 m)) := by
  refine PE.imp (pe_listRg hc hg hm (prg_1 hg2 hm2 he na) nb) fun σ H Q ⟨Z, S, G, c, S', R, e, q⟩ => ?_
  obtain ⟨d, S1, e1, e2⟩ := bnd_some e
  unfold rgC at e2
  split at e2
  · rename_i n
    split at e2
    · rename_i hn
      cases e2
      refine ⟨Z, S, G, .int n, _, R, e1, fun v H1 G1 R1 s1 k => ?_⟩
      cases k
      refine ⟨n, rfl, ⟨by omega, by omega, by omega, by omega, by omega⟩, fun t ht => ?_⟩
      obtain ⟨R5, f5⟩ := fresh_new R1 ht (dpAll_rg (a := 0) (b := n))
      exact q t _ G1 R5 s1 f5
    · cases e2
  · cases e2
/-! ### two new lists at once -/
theorem Fresh.back {Z : Fz} {S S' : Slots} {σ σ' : St} {H G H' G' : Hp} {a : Addr} {c : Cel} (R : RS K Z S σ H G) (f : Fresh K (Fz.now S σ H G) S' σ' H' G' a c) : Fresh K Z S' σ' H' G' a c := by
  refine ⟨f.at_, f.gn, ?_, f.sep⟩
  rcases f.new with h | ⟨i, c', h1, h2⟩
  · left
    cases q : Z.H0 a with
    | none => rfl
    | some x =>
      obtain ⟨o', z⟩ := R.there a x q
      rw [show (Fz.now S σ H G).H0 a = H a from rfl, z] at h; cases h
  · obtain ⟨w, o, w1, _, _, w4, _⟩ := R.owns i c' h1
    rw [h2] at w1; cases w1
    exact w4
def sParLL (i j : Nat) (l l2 : ML) : MS := bnd l fun c => bnd l2 fun c2 S => some (.nx, (S.set i (some (.own c))).set j (some (.own c2)))
theorem parLL {Z : Fz} {S1 S2 : Slots} {σ : St} {H1 G1 H2 G2 : Hp} {a b : Addr} {c c2 : Cel} {i j : Nat} (R1 : RS K Z S1 σ H1 G1) (f : Fresh K Z S1 σ H1 G1 a c) (R2 : RS K (Fz.now S1 σ H1 G1) S2 σ H2 G2) (s2 : Same G1 G2) (f2 : Fresh K (Fz.now S1 σ H1 G1) S2 σ H2 G2 b c2) :
    RS K Z ((S2.set i (some (.own c))).set j (some (.own c2))) ((σ.set i (some (.ref a))).set j (some (.ref b))) H2 G2 := by
  obtain ⟨o, h1, h2⟩ := f.at_
  obtain ⟨k1, k2⟩ := R1.kept R2 h1 f.gn f.sep
  have R3 := R1.back R2
  have sepA : ∀ (n : Nat), IsCell S2 n → σ[n]? ≠ some (some (V.ref a)) := R1.sepNow R2 h1 f.sep
  have R4 := R3.setOwn (i := i) (c := c) ⟨⟨o, k1, h2.mono s2⟩, k2, f.new, sepA⟩
  have nab : a ≠ b := fun e => by
    subst e
    rcases f2.new with h | ⟨n, c', w1, w2⟩
    · rw [show (Fz.now S1 σ H1 G1).H0 a = H1 a from rfl, h1] at h; cases h
    · exact f.sep n ⟨c', .inl w1⟩ w2
  have fb := Fresh.back R1 f2
  refine R4.setOwn (i := j) (c := c2) ⟨fb.at_, fb.gn, fb.new, fun n hn en => ?_⟩
  rcases isCell_set hn with ⟨hx, _⟩ | ⟨hx, hc⟩
  · subst hx
    by_cases hl : n < σ.length
    · rw [List.getElem?_set_self hl] at en
      cases en
      exact nab rfl
    · rw [List.getElem?_eq_none (by rw [List.length_set]; omega)] at en
      cases en
  · rw [List.getElem?_set_ne (Ne.symm hx)] at en
    exact f2.sep n hc en
theorem ds_parLL {i j : Nat} {x y : Str} {a b : Expr} {px py pt pos : Pos} {kt k2 pt2} {l l2 : ML} (hc : X.calm = true) (hN : X.N.Nodup) (hi : X.N[i]? = some x) (hj : X.N[j]? = some y) (hij : i ≠ j)
    (hx : X.env.scope.names.lookup x = some .local) (hy : X.env.scope.names.lookup y = some .local) (ha : PE X a (tL X.K l)) (hb : PE X b (tL X.K l2))
    (hs1 : starEach [a, b] X.env = (false, eval a X.env) :: starEach [b] X.env := by rfl) (hs2 : starEach [b] X.env = (false, eval b X.env) :: starEach [] X.env := by rfl)
    (hw : swappedStores [.Tuple [.Name x px, .Name y py] kt pt] (.Tuple [a, b] k2 pt2) X.env = pure (some [x, y]) := by rfl)
    (hs : swapsWithSole [.Tuple [.Name x px, .Name y py] kt pt] (.Tuple [a, b] k2 pt2) pos.line X.env = pure false := by rfl) :
    PS X (.Assign [.Tuple [.Name x px, .Name y py] kt pt] (.Tuple [a, b] k2 pt2) pos) (tS X.K (sParLL i j l l2)) := by
  refine PS.imp (ps_par hc hN hi hj hij hx hy (pa_cons ha (pa_cons hb pa_nil hs2) hs1) hw hs) fun D σ H ⟨Z, S, G, o, S', R, e, q⟩ => ?_
  obtain ⟨c, S1, e1, e2⟩ := bnd_some e
  obtain ⟨d, S2, e3, e4⟩ := bnd_some e2
  cases e4
  refine ⟨Z, S, G, c, S1, R, e1, fun a H1 G1 R1 s1 f => ⟨_, S1, G1, d, S2, R1.now, e3, fun b H2 G2 R2 s2 f2 => ⟨_, _, rfl, ?_⟩⟩⟩
  exact q _ H2 G2 (parLL R1 f R2 s2 f2) (s1.trans s2)
theorem ds_tupLL {i j : Nat} {x y : Str} {a b : Expr} {px py pt pos : Pos} {kt k2 pt2} {l l2 : ML} (hc : X.calm = true) (hN : X.N.Nodup) (hi : X.N[i]? = some x) (hj : X.N[j]? = some y) (hij : i ≠ j)
    (hx : Loc X.env.scope x) (hy : Loc X.env.scope y) (hfx : X.fn x = true ∨ X.env.scope.names.lookup x = some .local) (hfy : X.fn y = true ∨ X.env.scope.names.lookup y = some .local) (ha : PE X a (tL X.K l)) (hb : PE X b (tL X.K l2))
    (hs1 : starEach [a, b] X.env = (false, eval a X.env) :: starEach [b] X.env := by rfl) (hs2 : starEach [b] X.env = (false, eval b X.env) :: starEach [] X.env := by rfl)
    (hg1 : (assignEach [.Name x px, .Name y py] X.env).map (·.2) = assign (.Name x px) X.env :: (assignEach [.Name y py] X.env).map (·.2) := by rfl) (hg2 : (assignEach [.Name y py] X.env).map (·.2) = assign (.Name y py) X.env :: (assignEach [] X.env).map (·.2) := by rfl)
    (hn : (assignEach [.Name x px, .Name y py] X.env).length = 2 := by rfl) (hst : (assignEach [.Name x px, .Name y py] X.env).findIdx? (·.1) = none := by rfl)
    (hs : swapsWithSole [.Tuple [.Name x px, .Name y py] kt pt] (.Tuple [a, b] k2 pt2) pos.line X.env = pure false := by rfl) (hw : swappedStores [.Tuple [.Name x px, .Name y py] kt pt] (.Tuple [a, b] k2 pt2) X.env = pure none := by rfl)
    (h1 : (assignEach [.Tuple [.Name x px, .Name y py] kt pt] X.env).map (·.2) = [assign (.Tuple [.Name x px, .Name y py] kt pt) X.env] := by rfl) :
    PS X (.Assign [.Tuple [.Name x px, .Name y py] kt pt] (.Tuple [a, b] k2 pt2) pos) (tS X.K (sParLL i j l l2)) := by
  refine PS.imp (ps_asg (pe_tup (pa_cons ha (pa_cons hb pa_nil hs2) hs1)) (pg_tup hc (pgs_cons (pg_name hN hi hx hfx) (pgs_cons (pg_name hN hj hy hfy) pgs_nil hg2) hg1) hn hst) hs hw h1) fun D σ H ⟨Z, S, G, o, S', R, e, q⟩ => ?_
  obtain ⟨c, S1, e1, e2⟩ := bnd_some e
  obtain ⟨d, S2, e3, e4⟩ := bnd_some e2
  cases e4
  refine ⟨Z, S, G, c, S1, R, e1, fun a H1 G1 R1 s1 f => ⟨_, S1, G1, d, S2, R1.now, e3, fun b H2 G2 R2 s2 f2 => ⟨(by show 2 ≤ sizeLine; decide), fun p hp => ⟨p, _, rfl, .inl (.inl upd_same), rfl, _, _, rfl, _, _, rfl, rfl, ?_⟩⟩⟩⟩
  have R5 := parLL (i := i) (j := j) R1 f R2 s2 f2
  exact q _ _ G2 (R5.gr (Gr.newH R5.sub hp)) (s1.trans s2)
def sParVL (i j : Nat) (m : ME) (l2 : ML) : MS := bnd m fun d => bnd l2 fun c2 S => some (.nx, (S.set i (some (.val d))).set j (some (.own c2)))
theorem parVL {Z : Fz} {S1 S2 : Slots} {σ : St} {H1 G1 H2 G2 : Hp} {v : V} {b : Addr} {d : D} {c2 : Cel} {i j : Nat} (R1 : RS K Z S1 σ H1 G1) (kd : Dp K G1 v d) (R2 : RS K (Fz.now S1 σ H1 G1) S2 σ H2 G2) (s2 : Same G1 G2) (f2 : Fresh K (Fz.now S1 σ H1 G1) S2 σ H2 G2 b c2) :
    RS K Z ((S2.set i (some (.val d))).set j (some (.own c2))) ((σ.set i (some v)).set j (some (.ref b))) H2 G2 := by
  have R3 := R1.back R2
  have R4 := R3.set (i := i) (dp_mono s2 kd)
  have fb := Fresh.back R1 f2
  refine R4.setOwn (i := j) (c := c2) ⟨fb.at_, fb.gn, fb.new, fun n hn en => ?_⟩
  rcases isCell_set hn with ⟨hx, c, hc⟩ | ⟨hx, hc⟩
  · rcases hc with hc | hc <;> cases hc
  · rw [List.getElem?_set_ne (Ne.symm hx)] at en
    exact f2.sep n hc en
theorem ds_parVL {i j : Nat} {x y : Str} {a b : Expr} {px py pt pos : Pos} {kt k2 pt2} {m : ME} {l2 : ML} (hc : X.calm = true) (hN : X.N.Nodup) (hi : X.N[i]? = some x) (hj : X.N[j]? = some y) (hij : i ≠ j)
    (hx : X.env.scope.names.lookup x = some .local) (hy : X.env.scope.names.lookup y = some .local) (ha : PE X a (tM X.K m)) (hb : PE X b (tL X.K l2))
    (hs1 : starEach [a, b] X.env = (false, eval a X.env) :: starEach [b] X.env := by rfl) (hs2 : starEach [b] X.env = (false, eval b X.env) :: starEach [] X.env := by rfl)
    (hw : swappedStores [.Tuple [.Name x px, .Name y py] kt pt] (.Tuple [a, b] k2 pt2) X.env = pure (some [x, y]) := by rfl)
    (hs : swapsWithSole [.Tuple [.Name x px, .Name y py] kt pt] (.Tuple [a, b] k2 pt2) pos.line X.env = pure false := by rfl) :
    PS X (.Assign [.Tuple [.Name x px, .Name y py] kt pt] (.Tuple [a, b] k2 pt2) pos) (tS X.K (sParVL i j m l2)) := by
  refine PS.imp (ps_par hc hN hi hj hij hx hy (pa_cons ha (pa_cons hb pa_nil hs2) hs1) hw hs) fun D σ H ⟨Z, S, G, o, S', R, e, q⟩ => ?_
  obtain ⟨c, S1, e1, e2⟩ := bnd_some e
  obtain ⟨d, S2, e3, e4⟩ := bnd_some e2
  cases e4
  refine ⟨Z, S, G, c, S1, R, e1, fun v H1 G1 R1 s1 f => ⟨_, S1, G1, d, S2, R1.now, e3, fun b H2 G2 R2 s2 f2 => ⟨_, _, rfl, ?_⟩⟩⟩
  exact q _ H2 G2 (parVL R1 f R2 s2 f2) (s1.trans s2)
theorem ds_tupVL {i j : Nat} {x y : Str} {a b : Expr} {px py pt pos : Pos} {kt k2 pt2} {m : ME} {l2 : ML} (hc : X.calm = true) (hN : X.N.Nodup) (hi : X.N[i]? = some x) (hj : X.N[j]? = some y) (hij : i ≠ j)
    (hx : Loc X.env.scope x) (hy : Loc X.env.scope y) (hfx : X.fn x = true ∨ X.env.scope.names.lookup x = some .local) (hfy : X.fn y = true ∨ X.env.scope.names.lookup y = some .local) (ha : PE X a (tM X.K m)) (hb : PE X b (tL X.K l2))
    (hs1 : starEach [a, b] X.env = (false, eval a X.env) :: starEach [b] X.env := by rfl) (hs2 : starEach [b] X.env = (false, eval b X.env) :: starEach [] X.env := by rfl)
    (hg1 : (assignEach [.Name x px, .Name y py] X.env).map (·.2) = assign (.Name x px) X.env :: (assignEach [.Name y py] X.env).map (·.2) := by rfl) (hg2 : (assignEach [.Name y py] X.env).map (·.2) = assign (.Name y py) X.env :: (assignEach [] X.env).map (·.2) := by rfl)
    (hn : (assignEach [.Name x px, .Name y py] X.env).length = 2 := by rfl) (hst : (assignEach [.Name x px, .Name y py] X.env).findIdx? (·.1) = none := by rfl)
    (hs : swapsWithSole [.Tuple [.Name x px, .Name y py] kt pt] (.Tuple [a, b] k2 pt2) pos.line X.env = pure false := by rfl) (hw : swappedStores [.Tuple [.Name x px, .Name y py] kt pt] (.Tuple [a, b] k2 pt2) X.env = pure none := by rfl)
    (h1 : (assignEach [.Tuple [.Name x px, .Name y py] kt pt] X.env).map (·.2) = [assign (.Tuple [.Name x px, .Name y py] kt pt) X.env] := by rfl) :
    PS X (.Assign [.Tuple [.Name x px, .Name y py] kt pt] (.Tuple [a, b] k2 pt2) pos) (tS X.K (sParVL i j m l2)) := by
  refine PS.imp (ps_asg (pe_tup (pa_cons ha (pa_cons hb pa_nil hs2) hs1)) (pg_tup hc (pgs_cons (pg_name hN hi hx hfx) (pgs_cons (pg_name hN hj hy hfy) pgs_nil hg2) hg1) hn hst) hs hw h1) fun D σ H ⟨Z, S, G, o, S', R, e, q⟩ => ?_
  obtain ⟨c, S1, e1, e2⟩ := bnd_some e
  obtain ⟨d, S2, e3, e4⟩ := bnd_some e2
  cases e4
  refine ⟨Z, S, G, c, S1, R, e1, fun v H1 G1 R1 s1 f => ⟨_, S1, G1, d, S2, R1.now, e3, fun b H2 G2 R2 s2 f2 => ⟨(by show 2 ≤ sizeLine; decide), fun p hp => ⟨p, _, rfl, .inl (.inl upd_same), rfl, _, _, rfl, _, _, rfl, rfl, ?_⟩⟩⟩⟩
  have R5 := parVL (i := i) (j := j) R1 f R2 s2 f2
  exact q _ _ G2 (R5.gr (Gr.newH R5.sub hp)) (s1.trans s2)
end
end PD

/-! PW: what a mirror computes, as a weakest precondition. -/
namespace PD
open PySem PySem.Spec PyProof.Rows L2
def O {α : Type} (x : Option α) (Q : α → Prop) : Prop := ∃ a, x = some a ∧ Q a
theorem O_some {α : Type} {a : α} {Q : α → Prop} : O (some a) Q ↔ Q a := ⟨fun ⟨b, h, q⟩ => by cases h; exact q, fun h => ⟨a, rfl, h⟩⟩
theorem O_none {α : Type} {Q : α → Prop} : O none Q ↔ False := ⟨fun ⟨b, h, q⟩ => by (cases h), fun h => h.elim⟩
theorem O_ite {α : Type} {c : Prop} [Decidable c] {x : Option α} {Q : α → Prop} : O (if c then x else none) Q ↔ c ∧ O x Q := by
  by_cases h : c
  · rw [if_pos h]; exact ⟨fun q => ⟨h, q⟩, fun q => q.2⟩
  · rw [if_neg h, O_none]; exact ⟨fun q => q.elim, fun q => h q.1⟩
theorem O_bind {α β : Type} {x : Option α} {f : α → Option β} {Q : β → Prop} : O (x.bind f) Q ↔ O x fun a => O (f a) Q := by
  cases x with
  | none => rw [Option.bind_none, O_none, O_none]
  | some a => rw [Option.bind_some, O_some]
theorem O_map {α β : Type} {x : Option α} {f : α → β} {Q : β → Prop} : O (x.map f) Q ↔ O x fun a => Q (f a) := by
  cases x with
  | none => rw [Option.map_none, O_none, O_none]
  | some a => rw [Option.map_some, O_some, O_some]
theorem O_mono {α : Type} {x : Option α} {P Q : α → Prop} (h : O x P) (q : ∀ a, P a → Q a) : O x Q := by
  obtain ⟨a, e, p⟩ := h; exact ⟨a, e, q a p⟩
theorem O_eq {α : Type} {x : Option α} {a : α} {Q : α → Prop} (h : x = some a) (q : Q a) : O x Q := ⟨a, h, q⟩
theorem O_is {α : Type} {x : Option α} {a : α} : O x (fun b => b = a) ↔ x = some a := ⟨fun ⟨b, e, h⟩ => by rw [e, h], fun e => ⟨a, e, rfl⟩⟩
def T {α : Type} (m : M α) (S : Slots) (Q : α → Slots → Prop) : Prop := O (m S) fun p => Q p.1 p.2
section
variable {α β : Type} {S : Slots}
theorem T_mono {m : M α} {P Q : α → Slots → Prop} (h : T m S P) (q : ∀ a S', P a S' → Q a S') : T m S Q := O_mono h fun _ h => q _ _ h
theorem T_ret {a : α} {Q : α → Slots → Prop} : T (mret a) S Q ↔ Q a S := O_some
theorem T_bnd {m : M α} {f : α → M β} {Q : β → Slots → Prop} : T (bnd m f) S Q ↔ T m S fun a S' => T (f a) S' Q := O_bind
theorem T_fun {m : M α} {Q : α → Slots → Prop} : T m S Q ↔ O (m S) fun p => Q p.1 p.2 := Iff.rfl

/-! names -/
def TN (x : Option (Option SV)) (i : Nat) (S : Slots) (Q : D → Slots → Prop) : Prop := match x with
  | some (some (.val d)) => Q d S
  | some (some (.own (.lst ds))) => Q (.list ds) (S.set i (some (.val (.list ds))))
  | _ => False
theorem T_eName {i : Nat} {Q : D → Slots → Prop} : T (eName i) S Q ↔ TN S[i]? i S Q := by
  unfold T eName TN
  generalize S[i]? = x
  cases x
  repeat' (first | exact O_some | exact O_none | exact O_map | exact Iff.rfl | exact T_ret | exact T_bnd | (rename_i z; cases z))
theorem TN_val {d : D} {i : Nat} {Q : D → Slots → Prop} : TN (some (some (.val d))) i S Q ↔ Q d S := Iff.rfl
theorem TN_own {ds : List D} {i : Nat} {Q : D → Slots → Prop} : TN (some (some (.own (.lst ds)))) i S Q ↔ Q (.list ds) (S.set i (some (.val (.list ds)))) := Iff.rfl
def TR (x : Option (Option SV)) (i : Nat) (S : Slots) (Q : Rf → Slots → Prop) : Prop := match x with
  | some (some _) => Q (.s i) S
  | _ => False
theorem T_oName {i : Nat} {Q : Rf → Slots → Prop} : T (oName i) S Q ↔ TR S[i]? i S Q := by
  unfold T oName TR
  generalize S[i]? = x
  cases x
  repeat' (first | exact O_some | exact O_none | exact O_map | exact Iff.rfl | exact T_ret | exact T_bnd | (rename_i z; cases z))
theorem TR_some {v : SV} {i : Nat} {Q : Rf → Slots → Prop} : TR (some (some v)) i S Q ↔ Q (.s i) S := Iff.rfl
theorem T_oVal {m : ME} {Q : Rf → Slots → Prop} : T (oVal m) S Q ↔ T m S fun d S' => Q (.d d) S' := by
  unfold oVal; rw [T_bnd]; simp only [T_ret]
theorem T_eC {d : D} {Q : D → Slots → Prop} : T (eC d) S Q ↔ Q d S := T_ret
theorem T_eFrz {l : ML} {Q : D → Slots → Prop} : T (eFrz l) S Q ↔ T l S fun c S' => O (celD c) fun d => Q d S' := by
  unfold eFrz; rw [T_bnd]; unfold T; simp only [O_map]
theorem celD_lst {ds : List D} : celD (.lst ds) = some (.list ds) := rfl
theorem slotD_val {d : D} : slotD (some (some (.val d))) = some d := rfl
theorem slotD_own {c : Cel} : slotD (some (some (.own c))) = celD c := rfl
theorem slotD_bor {c : Cel} : slotD (some (some (.bor c))) = celD c := rfl
theorem rs_d {d : D} : rs (.d d) S = some d := rfl
theorem rs_s {i : Nat} : rs (.s i) S = slotD S[i]? := rfl
theorem rss_nil : rss [] S = some [] := rfl
theorem rss_cons {r : Rf} {l : List Rf} : rss (r :: l) S = (rs r S).bind fun d => (rss l S).bind fun ds => some (d :: ds) := rfl
theorem O_rss_cons {r : Rf} {l : List Rf} {Q : List D → Prop} : O (rss (r :: l) S) Q ↔ O (rs r S) fun d => O (rss l S) fun ds => Q (d :: ds) := by
  show O ((rs r S).bind fun d => (rss l S).bind fun ds => some (d :: ds)) Q ↔ _
  simp only [O_bind, O_some]
theorem T_op2 {f : D → D → Option D} {x y : Rf} {Q : D → Slots → Prop} : T (op2 f x y) S Q ↔ O (rs x S) fun d => O (rs y S) fun e => O (f d e) fun z => Q z S := by
  unfold T op2; simp only [O_bind, O_map]
theorem T_op2L {f : D → D → Option (List D)} {x y : Rf} {Q : Cel → Slots → Prop} : T (op2L f x y) S Q ↔ O (rs x S) fun d => O (rs y S) fun e => O (f d e) fun z => Q (.lst z) S := by
  unfold T op2L; simp only [O_bind, O_map]
theorem T_op1 {f : D → Option D} {x : Rf} {Q : D → Slots → Prop} : T (op1 f x) S Q ↔ O (rs x S) fun d => O (f d) fun z => Q z S := by
  unfold T op1; simp only [O_bind, O_map]
theorem T_opN {f : List D → Option D} {x : List Rf} {Q : D → Slots → Prop} : T (opN f x) S Q ↔ O (rss x S) fun d => O (f d) fun z => Q z S := by
  unfold T opN; simp only [O_bind, O_map]
theorem T_opNL {f : List D → Option (List D)} {x : List Rf} {Q : Cel → Slots → Prop} : T (opNL f x) S Q ↔ O (rss x S) fun d => O (f d) fun z => Q (.lst z) S := by
  unfold T opNL; simp only [O_bind, O_map]
theorem T_eBin {f : D → D → Option D} {a b : MO} {Q : D → Slots → Prop} : T (eBin f a b) S Q ↔ T a S fun x S1 => T b S1 fun y S2 => T (op2 f x y) S2 Q := by
  unfold eBin; simp only [T_bnd]
theorem T_lBin {f : D → D → Option (List D)} {a b : MO} {Q : Cel → Slots → Prop} : T (lBin f a b) S Q ↔ T a S fun x S1 => T b S1 fun y S2 => T (op2L f x y) S2 Q := by
  unfold lBin; simp only [T_bnd]
theorem T_eUn {f : D → Option D} {a : MO} {Q : D → Slots → Prop} : T (eUn f a) S Q ↔ T a S fun x S1 => T (op1 f x) S1 Q := by
  unfold eUn; simp only [T_bnd]
theorem T_eFn {f : List D → Option D} {a : MOs} {Q : D → Slots → Prop} : T (eFn f a) S Q ↔ T a S fun x S1 => T (opN f x) S1 Q := by
  unfold eFn; simp only [T_bnd]
theorem T_lFn {f : List D → Option (List D)} {a : MOs} {Q : Cel → Slots → Prop} : T (lFn f a) S Q ↔ T a S fun x S1 => T (opNL f x) S1 Q := by
  unfold lFn; simp only [T_bnd]
theorem T_oNil {Q : List Rf → Slots → Prop} : T oNil S Q ↔ Q [] S := T_ret
theorem T_oCons {a : MO} {as : MOs} {Q : List Rf → Slots → Prop} : T (oCons a as) S Q ↔ T a S fun x S1 => T as S1 fun xs S2 => Q (x :: xs) S2 := by
  unfold oCons; simp only [T_bnd, T_ret]
theorem T_aNil {Q : List D → Slots → Prop} : T aNil S Q ↔ Q [] S := T_ret
theorem T_aCons {a : ME} {as : MA} {Q : List D → Slots → Prop} : T (aCons a as) S Q ↔ T a S fun x S1 => T as S1 fun xs S2 => Q (x :: xs) S2 := by
  unfold aCons; simp only [T_bnd, T_ret]
theorem T_eTup {as : MA} {Q : D → Slots → Prop} : T (eTup as) S Q ↔ T as S fun ds S' => ds.length ≤ 1000000 ∧ Q (.tuple ds) S' := by
  unfold eTup; rw [T_bnd]; unfold T; simp only [O_ite, O_some]
theorem T_lLst {as : MA} {Q : Cel → Slots → Prop} : T (lLst as) S Q ↔ T as S fun ds S' => ds.length ≤ 1000000 ∧ Q (.lst ds) S' := by
  unfold lLst; rw [T_bnd]; unfold T; simp only [O_ite, O_some]

/-! tests -/
def TB (d : D) (Q : Bool → Prop) : Prop := match d with
  | .bool b => Q b
  | _ => False
theorem TB_bool {b : Bool} {Q : Bool → Prop} : TB (.bool b) Q ↔ Q b := Iff.rfl
theorem T_tOf {m : ME} {Q : Bool → Slots → Prop} : T (tOf m) S Q ↔ T m S fun d S' => TB d fun b => Q b S' := by
  unfold tOf; rw [T_bnd]
  refine Iff.of_eq (congrArg _ ?_)
  funext d S'
  apply propext
  unfold T TB
  cases d
  repeat' (first | exact O_some | exact O_none | exact O_map | exact Iff.rfl | exact T_ret | exact T_bnd | (rename_i z; cases z))
theorem T_mTru {a : MO} {Q : Bool → Slots → Prop} : T (mTru a) S Q ↔ T a S fun x S' => O (rs x S') fun d => O (truD d) fun b => Q b S' := by
  unfold mTru; rw [T_bnd]; unfold T; simp only [O_bind, O_map]
def br (x : Bool) (p q : Prop) : Prop := (x = true → p) ∧ (x = false → q)
theorem br_true {p q : Prop} : br true p q ↔ p := ⟨fun h => h.1 rfl, fun h => ⟨fun _ => h, fun e => by (cases e)⟩⟩
theorem br_false {p q : Prop} : br false p q ↔ q := ⟨fun h => h.2 rfl, fun h => ⟨fun e => (by (cases e)), fun _ => h⟩⟩
theorem T_cond {t : MT} {a b : M α} {Q : α → Slots → Prop} : T (bnd t fun x => if x = true then a else b) S Q ↔ T t S fun x S' => br x (T a S' Q) (T b S' Q) := by
  rw [T_bnd]
  refine Iff.of_eq (congrArg _ ?_)
  funext x S'
  cases x
  · rw [if_neg (by decide)]; exact propext br_false.symm
  · rw [if_pos rfl]; exact propext br_true.symm
theorem T_mAnd {a b : MT} {Q : Bool → Slots → Prop} : T (mAnd a b) S Q ↔ T a S fun x S' => br x (T b S' Q) (Q false S') := by
  unfold mAnd; rw [T_cond]; simp only [T_ret]
theorem T_mOr {a b : MT} {Q : Bool → Slots → Prop} : T (mOr a b) S Q ↔ T a S fun x S' => br x (Q true S') (T b S' Q) := by
  unfold mOr; rw [T_cond]; simp only [T_ret]
theorem T_mNot {a : MT} {Q : Bool → Slots → Prop} : T (mNot a) S Q ↔ T a S fun x S' => Q (!x) S' := by
  unfold mNot; rw [T_bnd]; simp only [T_ret]
theorem T_eAnd {a b : ME} {Q : D → Slots → Prop} : T (eAnd a b) S Q ↔ T a S fun d S' => TB d fun x => br x (T b S' Q) (Q (.bool false) S') := by
  unfold eAnd; rw [T_cond, T_tOf]; simp only [T_ret]
theorem T_eOr {a b : ME} {Q : D → Slots → Prop} : T (eOr a b) S Q ↔ T a S fun d S' => TB d fun x => br x (Q (.bool true) S') (T b S' Q) := by
  unfold eOr; rw [T_cond, T_tOf]; simp only [T_ret]
theorem T_eNot {a : ME} {Q : D → Slots → Prop} : T (eNot a) S Q ↔ T a S fun d S' => TB d fun x => Q (.bool (!x)) S' := by
  unfold eNot; rw [T_bnd, T_tOf]; simp only [T_ret]
theorem T_eIf {t : MT} {a b : ME} {Q : D → Slots → Prop} : T (eIf t a b) S Q ↔ T t S fun x S' => br x (T a S' Q) (T b S' Q) := T_cond
theorem T_lIf {t : MT} {a b : ML} {Q : Cel → Slots → Prop} : T (lIf t a b) S Q ↔ T t S fun x S' => br x (T a S' Q) (T b S' Q) := T_cond
theorem T_eChain {f f' : D → D → Option D} {a b c : MO} {Q : D → Slots → Prop} : T (eChain f f' a b c) S Q ↔ T a S fun x S1 => T b S1 fun y S2 => T (op2 f x y) S2 fun z S3 => TB z fun k => br k (T c S3 fun w S4 => T (op2 f' y w) S4 Q) (Q (.bool false) S3) := by
  unfold eChain; simp only [T_bnd]
  have : ∀ (y : Rf) (z : D) (S3 : Slots), T (chain2 f' y c z) S3 Q ↔ TB z fun k => br k (T c S3 fun w S4 => T (op2 f' y w) S4 Q) (Q (.bool false) S3) := fun y z S3 => by
    unfold chain2 TB
    split
    · rw [T_bnd]; exact br_true.symm
    · rw [T_ret]; exact br_false.symm
    · rename_i h1 h2
      split
      · rename_i b; cases b
        · exact (h2 rfl).elim
        · exact (h1 rfl).elim
      · exact O_none
  simp only [this]
theorem T_eIsi {ts : List String} {a : MO} {Q : D → Slots → Prop} : T (eIsi ts a) S Q ↔ T a S fun x S' => O (rs x S') fun d => Q (.bool (isTys ts d)) S' := by
  unfold eIsi; rw [T_bnd]; simp only [T_op1, O_some]

/-! calls -/
theorem T_mCall {F : List D → Option SV} {as : MA} {Q : SV → Slots → Prop} : T (mCall F as) S Q ↔ T as S fun ds S' => O (F ds) fun r => Q r S' := by
  unfold mCall; rw [T_bnd]; unfold T; simp only [O_map]
theorem T_mCallK {F : List D → Option SV} {n l : Nat} {pr : List Nat} {as ks : MA} {Q : SV → Slots → Prop} : T (mCallK F n l pr as ks) S Q ↔ T as S fun ds S1 => T ks S1 fun es S' => (ds.length = n ∧ es.length = l) ∧ O (F (permL pr (ds ++ es))) fun r => Q r S' := by
  unfold mCallK; rw [T_bnd]
  simp only [T_bnd]
  unfold T
  simp only [O_ite, O_map]
def CB (x : Option (Option SV)) (F : Cel → List D → Option (SV × Cel)) (i : Nat) (ds : List D) (S : Slots) (Q : SV → Slots → Prop) : Prop := match x with
  | some (some (.own c)) => O (F c ds) fun p => Q p.1 (S.set i (some (.own p.2)))
  | some (some (.bor c)) => O (F c ds) fun p => Q p.1 (S.set i (some (.bor p.2)))
  | _ => False
theorem CB_own {c : Cel} {F : Cel → List D → Option (SV × Cel)} {i : Nat} {ds : List D} {Q : SV → Slots → Prop} : CB (some (some (.own c))) F i ds S Q ↔ O (F c ds) fun p => Q p.1 (S.set i (some (.own p.2))) := Iff.rfl
theorem CB_bor {c : Cel} {F : Cel → List D → Option (SV × Cel)} {i : Nat} {ds : List D} {Q : SV → Slots → Prop} : CB (some (some (.bor c))) F i ds S Q ↔ O (F c ds) fun p => Q p.1 (S.set i (some (.bor p.2))) := Iff.rfl
theorem T_callB {F : Cel → List D → Option (SV × Cel)} {i : Nat} {ds : List D} {Q : SV → Slots → Prop} : T (callB F i ds) S Q ↔ CB S[i]? F i ds S Q := by
  unfold T callB CB
  generalize S[i]? = x
  cases x
  repeat' (first | exact O_some | exact O_none | exact O_map | exact Iff.rfl | exact T_ret | exact T_bnd | (rename_i z; cases z))
theorem T_mCallB {F : Cel → List D → Option (SV × Cel)} {i : Nat} {as : MA} {Q : SV → Slots → Prop} : T (mCallB F i as) S Q ↔ TR S[i]? i S fun _ _ => T as S fun ds S' => CB S'[i]? F i ds S' Q := by
  have h : T (bnd as fun ds => callB F i ds) S Q ↔ T as S fun ds S' => CB S'[i]? F i ds S' Q := by rw [T_bnd]; simp only [T_callB]
  unfold T mCallB TR
  generalize S[i]? = x
  cases x with
  | none => exact O_none
  | some x => cases x with
    | none => exact O_none
    | some x => exact h
theorem T_mCallT {F : Cel → List D → Option (SV × Cel)} {l : ML} {Q : SV → Slots → Prop} : T (mCallT F l) S Q ↔ T l S fun c S' => O (F c []) fun p => Q p.1 S' := by
  unfold mCallT; rw [T_bnd]; unfold T; simp only [O_map]
def TSV (r : SV) (Q : D → Prop) : Prop := match r with
  | .val d => Q d
  | .own (.lst ds) => Q (.list ds)
  | _ => False
theorem TSV_val {d : D} {Q : D → Prop} : TSV (.val d) Q ↔ Q d := Iff.rfl
theorem TSV_own {ds : List D} {Q : D → Prop} : TSV (.own (.lst ds)) Q ↔ Q (.list ds) := Iff.rfl
theorem T_eSV {m : M SV} {Q : D → Slots → Prop} : T (eSV m) S Q ↔ T m S fun r S' => TSV r fun d => Q d S' := by
  unfold eSV; rw [T_bnd]
  refine Iff.of_eq (congrArg _ ?_)
  funext r S'
  apply propext
  unfold T TSV
  cases r
  repeat' (first | exact O_some | exact O_none | exact O_map | exact Iff.rfl | exact T_ret | exact T_bnd | (rename_i z; cases z))
def TSL (r : SV) (Q : Cel → Prop) : Prop := match r with
  | .own c => Q c
  | _ => False
theorem TSL_own {c : Cel} {Q : Cel → Prop} : TSL (.own c) Q ↔ Q c := Iff.rfl
theorem T_lSV {m : M SV} {Q : Cel → Slots → Prop} : T (lSV m) S Q ↔ T m S fun r S' => TSL r fun d => Q d S' := by
  unfold lSV; rw [T_bnd]
  refine Iff.of_eq (congrArg _ ?_)
  funext r S'
  apply propext
  unfold T TSL
  cases r
  repeat' (first | exact O_some | exact O_none | exact O_map | exact Iff.rfl | exact T_ret | exact T_bnd | (rename_i z; cases z))

/-! statements -/
def sq (b : MS) (Q : Out → Slots → Prop) (o : Out) (S : Slots) : Prop := match o with
  | .nx => T b S Q
  | o => Q o S
theorem sq_nx {b : MS} {Q : Out → Slots → Prop} : sq b Q .nx S ↔ T b S Q := Iff.rfl
theorem sq_rt {b : MS} {Q : Out → Slots → Prop} {r : SV} : sq b Q (.rt r) S ↔ Q (.rt r) S := Iff.rfl
theorem sq_bk {b : MS} {Q : Out → Slots → Prop} : sq b Q .bk S ↔ Q .bk S := Iff.rfl
theorem sq_ct {b : MS} {Q : Out → Slots → Prop} : sq b Q .ct S ↔ Q .ct S := Iff.rfl
theorem T_sSeq {a b : MS} {Q : Out → Slots → Prop} : T (sSeq a b) S Q ↔ T a S (sq b Q) := by
  unfold sSeq; rw [T_bnd]
  refine Iff.of_eq (congrArg _ ?_)
  funext o S'
  unfold sq
  cases o <;> first | rfl | exact propext T_ret
theorem T_sSkip {Q : Out → Slots → Prop} : T sSkip S Q ↔ Q .nx S := T_ret
theorem T_sExpr {m : ME} {Q : Out → Slots → Prop} : T (sExpr m) S Q ↔ T m S fun _ S' => Q .nx S' := by
  unfold sExpr; rw [T_bnd]; simp only [T_ret]
theorem T_sRetV {m : ME} {Q : Out → Slots → Prop} : T (sRetV m) S Q ↔ T m S fun d S' => Q (.rt (.val d)) S' := by
  unfold sRetV; rw [T_bnd]; simp only [T_ret]
theorem T_sRetL {m : ML} {Q : Out → Slots → Prop} : T (sRetL m) S Q ↔ T m S fun d S' => Q (.rt (.own d)) S' := by
  unfold sRetL; rw [T_bnd]; simp only [T_ret]
theorem T_sRetS {m : M SV} {Q : Out → Slots → Prop} : T (sRetS m) S Q ↔ T m S fun d S' => Q (.rt d) S' := by
  unfold sRetS; rw [T_bnd]; simp only [T_ret]
theorem T_sRetN {Q : Out → Slots → Prop} : T sRetN S Q ↔ Q (.rt (.val .none)) S := T_ret
def TRN (x : Option (Option SV)) (i : Nat) (S : Slots) (Q : Out → Slots → Prop) : Prop := match x with
  | some (some (.val d)) => Q (.rt (.val d)) S
  | some (some (.own c)) => Q (.rt (.own c)) (S.set i none)
  | _ => False
theorem TRN_val {d : D} {i : Nat} {Q : Out → Slots → Prop} : TRN (some (some (.val d))) i S Q ↔ Q (.rt (.val d)) S := Iff.rfl
theorem TRN_own {c : Cel} {i : Nat} {Q : Out → Slots → Prop} : TRN (some (some (.own c))) i S Q ↔ Q (.rt (.own c)) (S.set i none) := Iff.rfl
theorem T_sRetName {i : Nat} {Q : Out → Slots → Prop} : T (sRetName i) S Q ↔ TRN S[i]? i S Q := by
  unfold T sRetName TRN
  generalize S[i]? = x
  cases x
  repeat' (first | exact O_some | exact O_none | exact O_map | exact Iff.rfl | exact T_ret | exact T_bnd | (rename_i z; cases z))
theorem T_sIf {t : MT} {a b : MS} {Q : Out → Slots → Prop} : T (sIf t a b) S Q ↔ T t S fun x S' => br x (T a S' Q) (T b S' Q) := T_cond
theorem T_sSetV {i : Nat} {m : ME} {Q : Out → Slots → Prop} : T (sSetV i m) S Q ↔ T m S fun d S' => Q .nx (S'.set i (some (.val d))) := by
  unfold sSetV; rw [T_bnd]; unfold T; simp only [O_some]
theorem T_sSetL {i : Nat} {m : ML} {Q : Out → Slots → Prop} : T (sSetL i m) S Q ↔ T m S fun d S' => Q .nx (S'.set i (some (.own d))) := by
  unfold sSetL; rw [T_bnd]; unfold T; simp only [O_some]
def TSet (r : SV) (i : Nat) (S : Slots) (Q : Out → Slots → Prop) : Prop := match r with
  | .val d => Q .nx (S.set i (some (.val d)))
  | .own c => Q .nx (S.set i (some (.own c)))
  | _ => False
theorem TSet_val {d : D} {i : Nat} {Q : Out → Slots → Prop} : TSet (.val d) i S Q ↔ Q .nx (S.set i (some (.val d))) := Iff.rfl
theorem TSet_own {c : Cel} {i : Nat} {Q : Out → Slots → Prop} : TSet (.own c) i S Q ↔ Q .nx (S.set i (some (.own c))) := Iff.rfl
theorem T_sSetS {i : Nat} {m : M SV} {Q : Out → Slots → Prop} : T (sSetS i m) S Q ↔ T m S fun r S' => TSet r i S' Q := by
  unfold sSetS; rw [T_bnd]
  refine Iff.of_eq (congrArg _ ?_)
  funext r S'
  apply propext
  unfold T setSV TSet
  cases r <;> first | exact O_some | exact O_none
def L2T (ds : List D) (Q : D → D → Prop) : Prop := match ds with
  | [d, e] => Q d e
  | _ => False
theorem L2T_two {d e : D} {Q : D → D → Prop} : L2T [d, e] Q ↔ Q d e := Iff.rfl
def L3T (ds : List D) (Q : D → D → D → Prop) : Prop := match ds with
  | [d, e, f] => Q d e f
  | _ => False
theorem L3T_three {d e f : D} {Q : D → D → D → Prop} : L3T [d, e, f] Q ↔ Q d e f := Iff.rfl
theorem T_sPar {i j : Nat} {as : MA} {Q : Out → Slots → Prop} : T (sPar i j as) S Q ↔ T as S fun ds S' => L2T ds fun d e => Q .nx ((S'.set i (some (.val d))).set j (some (.val e))) := by
  unfold sPar; rw [T_bnd]
  refine Iff.of_eq (congrArg _ ?_)
  funext ds S'
  apply propext
  unfold T L2T
  cases ds
  repeat' (first | exact O_some | exact O_none | exact O_map | exact Iff.rfl | exact T_ret | exact T_bnd | (rename_i z; cases z))
theorem T_sPar3 {i j k : Nat} {as : MA} {Q : Out → Slots → Prop} : T (sPar3 i j k as) S Q ↔ T as S fun ds S' => L3T ds fun d e f => Q .nx (((S'.set i (some (.val d))).set j (some (.val e))).set k (some (.val f))) := by
  unfold sPar3; rw [T_bnd]
  refine Iff.of_eq (congrArg _ ?_)
  funext ds S'
  apply propext
  unfold T L3T
  cases ds
  repeat' (first | exact O_some | exact O_none | exact O_map | exact Iff.rfl | exact T_ret | exact T_bnd | (rename_i z; cases z))
theorem T_sParL {i j : Nat} {l : ML} {m : ME} {Q : Out → Slots → Prop} : T (sParL i j l m) S Q ↔ T l S fun c S1 => T m S1 fun d S' => Q .nx ((S'.set i (some (.own c))).set j (some (.val d))) := by
  unfold sParL; simp only [T_bnd]; unfold T; simp only [O_some]
theorem T_sAug {f : D → D → Option D} {i : Nat} {m : MO} {Q : Out → Slots → Prop} : T (sAug f i m) S Q ↔ T (eBin f (oName i) m) S fun d S' => Q .nx (S'.set i (some (.val d))) := by
  unfold sAug; rw [T_bnd]; unfold T; simp only [O_some]
theorem T_sAsg {g : MG} {m : ME} {Q : Out → Slots → Prop} : T (sAsg g m) S Q ↔ T m S fun d S' => O (g d S') fun S2 => Q .nx S2 := by
  unfold sAsg; rw [T_bnd]; unfold T; simp only [O_map]
theorem gN_eq {i : Nat} {d : D} : gN i d S = some (S.set i (some (.val d))) := rfl
theorem gT_eq {n : Nat} {gs : MGs} {ds : List D} : gT n gs (.tuple ds) S = if ds.length = n then gs ds S else none := rfl
theorem gsNil_eq : gsNil [] S = some S := rfl
theorem gsCons_eq {g : MG} {gs : MGs} {d : D} {ds : List D} : gsCons g gs (d :: ds) S = (g d S).bind fun S1 => gs ds S1 := rfl
def IX (x : Option (Option SV)) (k d : D) (j : Nat) (S : Slots) (Q : Slots → Prop) : Prop := match k, x with
  | .int k, some (some (.own (.lst ds))) => O (ixN ds.length k) fun n => Q (S.set j (some (.own (.lst (ds.set n d)))))
  | .int k, some (some (.bor (.lst ds))) => O (ixN ds.length k) fun n => Q (S.set j (some (.bor (.lst (ds.set n d)))))
  | _, _ => False
theorem IX_own {k : Int} {ds : List D} {d : D} {j : Nat} {Q : Slots → Prop} : IX (some (some (.own (.lst ds)))) (.int k) d j S Q ↔ O (ixN ds.length k) fun n => Q (S.set j (some (.own (.lst (ds.set n d))))) := Iff.rfl
theorem IX_bor {k : Int} {ds : List D} {d : D} {j : Nat} {Q : Slots → Prop} : IX (some (some (.bor (.lst ds)))) (.int k) d j S Q ↔ O (ixN ds.length k) fun n => Q (S.set j (some (.bor (.lst (ds.set n d))))) := Iff.rfl
theorem O_ixS {j : Nat} {d : D} {p : D × Slots} {Q : Slots → Prop} : O (ixS j d p) Q ↔ IX p.2[j]? p.1 d j p.2 Q := by
  unfold ixS IX
  generalize p.2[j]? = x
  generalize p.1 = k
  cases k <;> first | exact O_none | skip
  cases x
  repeat' (first | exact O_some | exact O_none | exact O_map | exact Iff.rfl | exact T_ret | exact T_bnd | (rename_i z; cases z))
theorem O_gIx {j : Nat} {i : ME} {d : D} {Q : Slots → Prop} : O (gIx j i d S) Q ↔ TR S[j]? j S fun _ _ => T i S fun k S' => IX S'[j]? k d j S' Q := by
  have h : O ((i S).bind (ixS j d)) Q ↔ T i S fun k S' => IX S'[j]? k d j S' Q := by rw [O_bind]; simp only [O_ixS]; exact Iff.rfl
  unfold gIx TR
  generalize S[j]? = x
  cases x with
  | none => exact O_none
  | some x => cases x with
    | none => exact O_none
    | some x => exact h
theorem T_sFor {it : MA} {g : MG} {b : MS} {Q : Out → Slots → Prop} : T (sFor it g b) S Q ↔ T it S fun ds S' => T (forL g b ds) S' Q := by
  unfold sFor; rw [T_bnd]

/-! slices -/
theorem T_mNoPart {Q : Option Int → Slots → Prop} : T mNoPart S Q ↔ Q none S := T_ret
def TI (d : D) (Q : Int → Prop) : Prop := match d with
  | .int i => Q i
  | _ => False
theorem TI_int {i : Int} {Q : Int → Prop} : TI (.int i) Q ↔ Q i := Iff.rfl
theorem T_mPart {a : ME} {Q : Option Int → Slots → Prop} : T (mPart a) S Q ↔ T a S fun d S' => TI d fun i => Q (some i) S' := by
  unfold mPart; rw [T_bnd]
  refine Iff.of_eq (congrArg _ ?_)
  funext d S'
  apply propext
  unfold T TI
  cases d
  repeat' (first | exact O_some | exact O_none | exact O_map | exact Iff.rfl | exact T_ret | exact T_bnd | (rename_i z; cases z))
def TLs (x : Option D) (Q : List D → Prop) : Prop := match x with
  | some (.list ds) => Q ds
  | _ => False
theorem TLs_list {ds : List D} {Q : List D → Prop} : TLs (some (.list ds)) Q ↔ Q ds := Iff.rfl
def TTs (x : Option D) (Q : List D → Prop) : Prop := match x with
  | some (.tuple ds) => Q ds
  | _ => False
theorem TTs_tuple {ds : List D} {Q : List D → Prop} : TTs (some (.tuple ds)) Q ↔ Q ds := Iff.rfl
theorem T_lCut {a : MO} {lo hi : M (Option Int)} {Q : Cel → Slots → Prop} : T (lCut a lo hi) S Q ↔ T a S fun x S1 => T lo S1 fun l S2 => T hi S2 fun h S3 => TLs (rs x S3) fun ds => Q (.lst (cutD ds l h)) S3 := by
  unfold lCut; simp only [T_bnd]
  refine Iff.of_eq (congrArg _ ?_)
  funext x S1
  refine congrArg _ ?_
  funext l S2
  refine congrArg _ ?_
  funext h S3
  apply propext
  unfold T TLs
  dsimp only
  generalize rs x S3 = x
  cases x
  repeat' (first | exact O_some | exact O_none | exact O_map | exact Iff.rfl | exact T_ret | exact T_bnd | (rename_i z; cases z))
theorem T_eCut {a : MO} {lo hi : M (Option Int)} {Q : D → Slots → Prop} : T (eCut a lo hi) S Q ↔ T a S fun x S1 => T lo S1 fun l S2 => T hi S2 fun h S3 => TTs (rs x S3) fun ds => Q (.tuple (cutD ds l h)) S3 := by
  unfold eCut; simp only [T_bnd]
  refine Iff.of_eq (congrArg _ ?_)
  funext x S1
  refine congrArg _ ?_
  funext l S2
  refine congrArg _ ?_
  funext h S3
  apply propext
  unfold T TTs
  dsimp only
  generalize rs x S3 = x
  cases x
  repeat' (first | exact O_some | exact O_none | exact O_map | exact Iff.rfl | exact T_ret | exact T_bnd | (rename_i z; cases z))
def LO (c : Cel) (b : ML) (S : Slots) (Q : Cel → Slots → Prop) : Prop := match c with
  | .lst [] => T b S Q
  | .lst ds => Q (.lst ds) S
  | _ => False
theorem LO_nil {b : ML} {Q : Cel → Slots → Prop} : LO (.lst []) b S Q ↔ T b S Q := Iff.rfl
theorem LO_cons {d : D} {ds : List D} {b : ML} {Q : Cel → Slots → Prop} : LO (.lst (d :: ds)) b S Q ↔ Q (.lst (d :: ds)) S := Iff.rfl
theorem T_lOr {a b : ML} {Q : Cel → Slots → Prop} : T (lOr a b) S Q ↔ T a S fun c S' => LO c b S' Q := by
  unfold lOr; rw [T_bnd]
  refine Iff.of_eq (congrArg _ ?_)
  funext c S'
  apply propext
  unfold LO
  cases c
  repeat' (first | exact O_some | exact O_none | exact O_map | exact Iff.rfl | exact T_ret | exact T_bnd | (rename_i z; cases z))

/-! walks -/
def TAny (d : D) (Q : List D → Prop) : Prop := match d with
  | .list ds => Q ds
  | .tuple ds => Q ds
  | _ => False
theorem TAny_list {ds : List D} {Q : List D → Prop} : TAny (.list ds) Q ↔ Q ds := Iff.rfl
theorem TAny_tuple {ds : List D} {Q : List D → Prop} : TAny (.tuple ds) Q ↔ Q ds := Iff.rfl
theorem T_iAny {m : ME} {Q : List D → Slots → Prop} : T (iAny m) S Q ↔ T m S fun d S' => TAny d fun ds => Q ds S' := by
  unfold iAny; rw [T_bnd]
  refine Iff.of_eq (congrArg _ ?_)
  funext d S'
  apply propext
  unfold T TAny
  cases d
  repeat' (first | exact O_some | exact O_none | exact O_map | exact Iff.rfl | exact T_ret | exact T_bnd | (rename_i z; cases z))
theorem T_iEnumD {m : ME} {Q : List D → Slots → Prop} : T (iEnumD m) S Q ↔ T m S fun d S' => TAny d fun ds => Q (enumD ds) S' := by
  unfold iEnumD; rw [T_bnd]
  refine Iff.of_eq (congrArg _ ?_)
  funext d S'
  apply propext
  unfold T TAny
  cases d
  repeat' (first | exact O_some | exact O_none | exact O_map | exact Iff.rfl | exact T_ret | exact T_bnd | (rename_i z; cases z))
def TZ (d e : D) (Q : List D → Prop) : Prop := match d, e with
  | .list as, .list bs => Q (zipD as bs)
  | .tuple as, .tuple bs => Q (zipD as bs)
  | _, _ => False
theorem TZ_list {as bs : List D} {Q : List D → Prop} : TZ (.list as) (.list bs) Q ↔ Q (zipD as bs) := Iff.rfl
theorem TZ_tuple {as bs : List D} {Q : List D → Prop} : TZ (.tuple as) (.tuple bs) Q ↔ Q (zipD as bs) := Iff.rfl
theorem T_iZipD {m m2 : ME} {Q : List D → Slots → Prop} : T (iZipD m m2) S Q ↔ T m S fun d S1 => T m2 S1 fun e S' => TZ d e fun ds => Q ds S' := by
  unfold iZipD; simp only [T_bnd]
  refine Iff.of_eq (congrArg _ ?_)
  funext d S1
  refine congrArg _ ?_
  funext e S'
  apply propext
  unfold T TZ
  cases d <;> cases e <;> first | exact O_some | exact O_none
def TRg1 (x : Option (List D)) (Q : List D → Prop) : Prop := match x with
  | some [.int j] => (-(2 ^ 62) ≤ j ∧ j < 2 ^ 62) ∧ Q (rangeD 0 j)
  | _ => False
theorem TRg1_int {j : Int} {Q : List D → Prop} : TRg1 (some [.int j]) Q ↔ (-(2 ^ 62) ≤ j ∧ j < 2 ^ 62) ∧ Q (rangeD 0 j) := Iff.rfl
theorem T_iRange1 {os : MOs} {Q : List D → Slots → Prop} : T (iRange1 os) S Q ↔ T os S fun r S' => TRg1 (rss r S') fun ds => Q ds S' := by
  unfold iRange1; rw [T_bnd]
  refine Iff.of_eq (congrArg _ ?_)
  funext r S'
  apply propext
  unfold T TRg1
  dsimp only
  generalize rss r S' = x
  rcases x with _ | _ | ⟨d, _ | ⟨e, l⟩⟩
  · exact O_none
  · exact O_none
  · cases d <;> first | exact O_none | exact O_ite.trans (and_congr_right fun _ => O_some)
  · cases d <;> exact O_none
end
end PD

namespace PD
open PySem PySem.Spec PyProof.Rows L2
section
variable {α β : Type} {S : Slots}
def TRg2 (x : Option (List D)) (Q : List D → Prop) : Prop := match x with
  | some [.int i, .int j] => (-(2 ^ 62) ≤ i ∧ i < 2 ^ 62 ∧ -(2 ^ 62) ≤ j ∧ j < 2 ^ 62) ∧ Q (rangeD i j)
  | _ => False
theorem TRg2_int {i j : Int} {Q : List D → Prop} : TRg2 (some [.int i, .int j]) Q ↔ (-(2 ^ 62) ≤ i ∧ i < 2 ^ 62 ∧ -(2 ^ 62) ≤ j ∧ j < 2 ^ 62) ∧ Q (rangeD i j) := Iff.rfl
theorem T_iRange2 {os : MOs} {Q : List D → Slots → Prop} : T (iRange2 os) S Q ↔ T os S fun r S' => TRg2 (rss r S') fun ds => Q ds S' := by
  unfold iRange2; rw [T_bnd]
  refine Iff.of_eq (congrArg _ ?_)
  funext r S'
  apply propext
  unfold T TRg2
  dsimp only
  generalize rss r S' = x
  rcases x with _ | _ | ⟨d, _ | ⟨e, _ | ⟨f, l⟩⟩⟩
  · exact O_none
  · exact O_none
  · cases d <;> exact O_none
  · cases d <;> first | exact O_none | (cases e <;> first | exact O_none | exact O_ite.trans (and_congr_right fun _ => O_some))
  · cases d <;> first | exact O_none | (cases e <;> exact O_none)
def TRg3 (x : Option (List D)) (Q : List D → Prop) : Prop := match x with
  | some [.int i, .int j, .int c] => (c ≠ 0 ∧ c.natAbs < 1073741824 ∧ Builtin.Range.small i j c = true) ∧ Q (rangeD3 i c (Builtin.Range.rangeSize i j c).toNat)
  | _ => False
theorem TRg3_int {i j c : Int} {Q : List D → Prop} : TRg3 (some [.int i, .int j, .int c]) Q ↔ (c ≠ 0 ∧ c.natAbs < 1073741824 ∧ Builtin.Range.small i j c = true) ∧ Q (rangeD3 i c (Builtin.Range.rangeSize i j c).toNat) := Iff.rfl
theorem T_iRange3 {os : MOs} {Q : List D → Slots → Prop} : T (iRange3 os) S Q ↔ T os S fun r S' => TRg3 (rss r S') fun ds => Q ds S' := by
  unfold iRange3; rw [T_bnd]
  refine Iff.of_eq (congrArg _ ?_)
  funext r S'
  apply propext
  unfold T TRg3
  dsimp only
  generalize rss r S' = x
  rcases x with _ | _ | ⟨d, _ | ⟨e, _ | ⟨f, _ | ⟨g, l⟩⟩⟩⟩
  · exact O_none
  · exact O_none
  · cases d <;> exact O_none
  · cases d <;> first | exact O_none | (cases e <;> exact O_none)
  · cases d <;> first | exact O_none | (cases e <;> first | exact O_none | (cases f <;> first | exact O_none | exact O_ite.trans (and_congr_right fun _ => O_some)))
  · cases d <;> first | exact O_none | (cases e <;> first | exact O_none | (cases f <;> exact O_none))

/-! loops -/
def lpK (i : Nat) (P : Nat → Slots → Prop) (Q : Out → Slots → Prop) (o : Out) (S : Slots) : Prop := match o with
  | .nx => P (i + 1) S
  | .ct => P (i + 1) S
  | .bk => Q .nx S
  | .rt r => Q (.rt r) S
theorem lpK_nx {i : Nat} {P : Nat → Slots → Prop} {Q : Out → Slots → Prop} : lpK i P Q .nx S ↔ P (i + 1) S := Iff.rfl
theorem lpK_ct {i : Nat} {P : Nat → Slots → Prop} {Q : Out → Slots → Prop} : lpK i P Q .ct S ↔ P (i + 1) S := Iff.rfl
theorem lpK_bk {i : Nat} {P : Nat → Slots → Prop} {Q : Out → Slots → Prop} : lpK i P Q .bk S ↔ Q .nx S := Iff.rfl
theorem lpK_rt {i : Nat} {P : Nat → Slots → Prop} {Q : Out → Slots → Prop} {r : SV} : lpK i P Q (.rt r) S ↔ Q (.rt r) S := Iff.rfl
theorem T_forL_aux {g : MG} {b : MS} {Q : Out → Slots → Prop} (ds : List D) (P : Nat → Slots → Prop)
    (hs : ∀ i d, ds[i]? = some d → ∀ S, P i S → O (g d S) fun S1 => T b S1 (lpK i P Q)) (hq : ∀ S, P ds.length S → Q .nx S) : ∀ (k i : Nat), i + k = ds.length → ∀ S, P i S → T (forL g b (ds.drop i)) S Q
  | 0, i, h, S, p => by
    have : i = ds.length := by omega
    subst this
    rw [List.drop_length]
    exact T_ret.mpr (hq S p)
  | k + 1, i, h, S, p => by
    have hi : i < ds.length := by omega
    rw [List.drop_eq_getElem_cons hi]
    unfold forL T
    rw [O_bind]
    refine O_mono (hs i _ (List.getElem?_eq_getElem hi) S p) fun S1 h1 => ?_
    show T (bnd b _) S1 Q
    rw [T_bnd]
    refine T_mono h1 fun o S2 h2 => ?_
    cases o with
    | nx => exact T_forL_aux ds P hs hq k (i + 1) (by omega) S2 h2
    | ct => exact T_forL_aux ds P hs hq k (i + 1) (by omega) S2 h2
    | bk => exact T_ret.mpr h2
    | rt r => exact T_ret.mpr h2
theorem T_forL {g : MG} {b : MS} {Q : Out → Slots → Prop} {ds : List D} (P : Nat → Slots → Prop) (h0 : P 0 S)
    (hs : ∀ i d, ds[i]? = some d → ∀ S, P i S → O (g d S) fun S1 => T b S1 (lpK i P Q)) (hq : ∀ S, P ds.length S → Q .nx S) : T (forL g b ds) S Q := by
  have := T_forL_aux ds P hs hq ds.length 0 (by omega) S h0
  rwa [List.drop_zero] at this
theorem range_get {lo hi : Int} {i : Nat} {d : D} (h : (rangeD lo hi)[i]? = some d) : (i : Int) < hi - lo ∧ d = .int (lo + i) := by
  unfold rangeD at h
  rw [List.getElem?_map] at h
  obtain ⟨k, h1, h2⟩ := Option.map_eq_some_iff.mp h
  obtain ⟨h3, h4⟩ := List.getElem?_eq_some_iff.mp h1
  rw [List.length_range] at h3
  rw [List.getElem_range] at h4
  subst h4
  exact ⟨by omega, h2.symm⟩
theorem range_len {lo hi : Int} : (rangeD lo hi).length = (hi - lo).toNat := by
  unfold rangeD; rw [List.length_map, List.length_range]
/-- a loop over range(lo, hi) -/
theorem T_forR {g : MG} {b : MS} {Q : Out → Slots → Prop} {lo hi : Int} (P : Nat → Slots → Prop) (h0 : P 0 S)
    (hs : ∀ i : Nat, (i : Int) < hi - lo → ∀ S, P i S → O (g (.int (lo + i)) S) fun S1 => T b S1 (lpK i P Q)) (hq : ∀ S, P (hi - lo).toNat S → Q .nx S) : T (forL g b (rangeD lo hi)) S Q :=
  T_forL P h0 (fun i d h S p => by obtain ⟨h1, rfl⟩ := range_get h; exact hs i h1 S p) (fun S p => hq S (by rwa [range_len] at p))
theorem range0_get {hi : Nat} {i : Nat} {d : D} (h : (rangeD 0 hi)[i]? = some d) : i < hi ∧ d = .int i := by
  obtain ⟨h1, h2⟩ := range_get h
  exact ⟨by omega, by rw [h2, Int.zero_add]⟩
theorem T_forN {g : MG} {b : MS} {Q : Out → Slots → Prop} {n : Nat} (P : Nat → Slots → Prop) (h0 : P 0 S)
    (hs : ∀ i : Nat, i < n → ∀ S, P i S → O (g (.int i) S) fun S1 => T b S1 (lpK i P Q)) (hq : ∀ S, P n S → Q .nx S) : T (forL g b (rangeD 0 n)) S Q :=
  T_forL P h0 (fun i d h S p => by obtain ⟨h1, rfl⟩ := range0_get h; exact hs i h1 S p) (fun S p => hq S (by rwa [range_len, Int.sub_zero, Int.toNat_natCast] at p))
theorem T_for_nil {g : MG} {b : MS} {Q : Out → Slots → Prop} : T (forL g b []) S Q ↔ Q .nx S := T_ret
def fcK (g : MG) (b : MS) (ds : List D) (Q : Out → Slots → Prop) (o : Out) (S : Slots) : Prop := match o with
  | .nx => T (forL g b ds) S Q
  | .ct => T (forL g b ds) S Q
  | .bk => Q .nx S
  | .rt r => Q (.rt r) S
theorem fcK_nx {g : MG} {b : MS} {ds : List D} {Q : Out → Slots → Prop} : fcK g b ds Q .nx S ↔ T (forL g b ds) S Q := Iff.rfl
theorem fcK_ct {g : MG} {b : MS} {ds : List D} {Q : Out → Slots → Prop} : fcK g b ds Q .ct S ↔ T (forL g b ds) S Q := Iff.rfl
theorem fcK_bk {g : MG} {b : MS} {ds : List D} {Q : Out → Slots → Prop} : fcK g b ds Q .bk S ↔ Q .nx S := Iff.rfl
theorem fcK_rt {g : MG} {b : MS} {ds : List D} {Q : Out → Slots → Prop} {r : SV} : fcK g b ds Q (.rt r) S ↔ Q (.rt r) S := Iff.rfl
theorem T_for_cons {g : MG} {b : MS} {d : D} {ds : List D} {Q : Out → Slots → Prop} : T (forL g b (d :: ds)) S Q ↔ O (g d S) fun S1 => T b S1 (fcK g b ds Q) := by
  have h : T (forL g b (d :: ds)) S Q ↔ O (g d S) fun S1 => T (bnd b fun o => match o with
    | .nx => forL g b ds
    | .ct => forL g b ds
    | .bk => mret .nx
    | .rt r => mret (.rt r)) S1 Q := O_bind
  rw [h]
  refine Iff.of_eq (congrArg _ ?_)
  funext S1
  rw [T_bnd]
  refine congrArg _ ?_
  funext o S2
  apply propext
  unfold fcK
  cases o <;> first | exact Iff.rfl | exact T_ret
/-- a while: k counts down -/
def wlK (P : Nat → Slots → Prop) (k : Nat) (Q : Out → Slots → Prop) (o : Out) (S : Slots) : Prop := match o with
  | .nx => ∃ k', k' < k ∧ P k' S
  | .ct => ∃ k', k' < k ∧ P k' S
  | .bk => Q .nx S
  | .rt r => Q (.rt r) S
theorem wlK_nx {P : Nat → Slots → Prop} {k : Nat} {Q : Out → Slots → Prop} : wlK P k Q .nx S ↔ ∃ k', k' < k ∧ P k' S := Iff.rfl
theorem wlK_ct {P : Nat → Slots → Prop} {k : Nat} {Q : Out → Slots → Prop} : wlK P k Q .ct S ↔ ∃ k', k' < k ∧ P k' S := Iff.rfl
theorem wlK_bk {P : Nat → Slots → Prop} {k : Nat} {Q : Out → Slots → Prop} : wlK P k Q .bk S ↔ Q .nx S := Iff.rfl
theorem wlK_rt {P : Nat → Slots → Prop} {k : Nat} {Q : Out → Slots → Prop} {r : SV} : wlK P k Q (.rt r) S ↔ Q (.rt r) S := Iff.rfl
theorem T_while_aux {c : MT} {b : MS} {Q : Out → Slots → Prop} (P : Nat → Slots → Prop)
    (hs : ∀ k S, P k S → T c S fun x S1 => br x (T b S1 (wlK P k Q)) (Q .nx S1)) : ∀ (n k : Nat), k < n → ∀ S, P k S → T (whileN n c b) S Q
  | 0, _, h, _, _ => by omega
  | n + 1, k, h, S, p => by
    unfold whileN
    rw [T_cond]
    refine T_mono (hs k S p) fun x S1 h1 => ?_
    cases x with
    | false => exact br_false.mpr (T_ret.mpr (br_false.mp h1))
    | true =>
      refine br_true.mpr ?_
      rw [T_bnd]
      refine T_mono (br_true.mp h1) fun o S2 h2 => ?_
      cases o with
      | nx => obtain ⟨k', h3, h4⟩ := h2; exact T_while_aux P hs n k' (by omega) S2 h4
      | ct => obtain ⟨k', h3, h4⟩ := h2; exact T_while_aux P hs n k' (by omega) S2 h4
      | bk => exact T_ret.mpr h2
      | rt r => exact T_ret.mpr h2
theorem T_while {n : Nat} {c : MT} {b : MS} {Q : Out → Slots → Prop} (P : Nat → Slots → Prop) (k : Nat) (hk : k < n) (h0 : P k S)
    (hs : ∀ k S, P k S → T c S fun x S1 => br x (T b S1 (wlK P k Q)) (Q .nx S1)) : T (whileN n c b) S Q := T_while_aux P hs n k hk S h0

/-! comprehensions -/
theorem wipe_nil : wipeS S [] = S := rfl
theorem wipe_cons {v : Nat} {vs : List Nat} : wipeS S (v :: vs) = (wipeS S vs).set v none := rfl
theorem back_nil {S0 : Slots} : backS S0 S [] = S := rfl
theorem back_cons {S0 : Slots} {v : Nat} {vs : List Nat} : backS S0 S (v :: vs) = (backS S0 S vs).set v (S0[v]?.getD none) := rfl
theorem noC_nil : noCells S [] = true := rfl
def noC1 (x : Option (Option SV)) : Bool := match x with
  | some (some (.own _)) => false
  | some (some (.bor _)) => false
  | _ => true
theorem noC_cons {v : Nat} {vs : List Nat} : noCells S (v :: vs) = (noC1 S[v]? && noCells S vs) := rfl
theorem noC1_none : noC1 (some none) = true := rfl
theorem noC1_val {d : D} : noC1 (some (some (.val d))) = true := rfl
theorem T_lComp {it : MA} {g : MG} {t : MT} {m : ME} {vs : List Nat} {Q : Cel → Slots → Prop} : T (lComp it g t m vs) S Q ↔ T it S fun ds S1 => (ds.length ≤ 1000000 ∧ noCells S1 vs = true) ∧ T (compL g t m vs ds) (wipeS S1 vs) fun out S2 => Q (.lst out) (backS S1 S2 vs) := by
  unfold lComp; rw [T_bnd]; unfold T
  simp only [O_ite, O_map]
theorem T_compL_aux {g : MG} {t : MT} {m : ME} {vs : List Nat} {ds : List D} (P : Nat → List D → Slots → Prop)
    (hs : ∀ i d, ds[i]? = some d → ∀ out S, P i out S → O (g d S) fun S1 => T t S1 fun b S2 => br b (T m S2 fun y S3 => P (i + 1) (out ++ [y]) (wipeS S3 vs)) (P (i + 1) out (wipeS S2 vs))) :
    ∀ (k i : Nat), i + k = ds.length → ∀ out S, P i out S → T (compL g t m vs (ds.drop i)) S fun o S' => P ds.length (out ++ o) S'
  | 0, i, h, out, S, p => by
    have : i = ds.length := by omega
    subst this
    rw [List.drop_length]
    exact T_ret.mpr (by rw [List.append_nil]; exact p)
  | k + 1, i, h, out, S, p => by
    have hi : i < ds.length := by omega
    rw [List.drop_eq_getElem_cons hi]
    unfold compL T
    rw [O_bind]
    refine O_mono (hs i _ (List.getElem?_eq_getElem hi) out S p) fun S1 h1 => ?_
    refine (T_bnd (Q := fun o S' => P ds.length (out ++ o) S')).mpr (T_mono h1 fun b S2 h2 => ?_)
    cases b with
    | false => rw [if_neg (by decide)]; exact T_compL_aux P hs k (i + 1) (by omega) out _ (br_false.mp h2)
    | true =>
      rw [if_pos rfl, T_bnd]
      refine T_mono (br_true.mp h2) fun y S3 h3 => ?_
      unfold T
      rw [O_map]
      refine O_mono (T_compL_aux P hs k (i + 1) (by omega) (out ++ [y]) _ h3) fun p h4 => ?_
      dsimp only at h4 ⊢
      rw [List.append_assoc] at h4
      exact h4
/-- a comprehension, with what stands after each item -/
theorem T_compL {g : MG} {t : MT} {m : ME} {vs : List Nat} {ds : List D} {Q : List D → Slots → Prop} (P : Nat → List D → Slots → Prop) (h0 : P 0 [] S)
    (hs : ∀ i d, ds[i]? = some d → ∀ out S, P i out S → O (g d S) fun S1 => T t S1 fun b S2 => br b (T m S2 fun y S3 => P (i + 1) (out ++ [y]) (wipeS S3 vs)) (P (i + 1) out (wipeS S2 vs)))
    (hq : ∀ out S, P ds.length out S → Q out S) : T (compL g t m vs ds) S Q := by
  have := T_compL_aux P hs ds.length 0 (by omega) [] S h0
  rw [List.drop_zero] at this
  exact T_mono this fun o S' h => hq o S' h
theorem T_comp_nil {g : MG} {t : MT} {m : ME} {vs : List Nat} {Q : List D → Slots → Prop} : T (compL g t m vs []) S Q ↔ Q [] S := T_ret
theorem T_comp_cons {g : MG} {t : MT} {m : ME} {vs : List Nat} {d : D} {ds : List D} {Q : List D → Slots → Prop} : T (compL g t m vs (d :: ds)) S Q ↔ O (g d S) fun S1 => T t S1 fun b S2 => br b (T m S2 fun y S3 => T (compL g t m vs ds) (wipeS S3 vs) fun out S4 => Q (y :: out) S4) (T (compL g t m vs ds) (wipeS S2 vs) Q) := by
  have h : T (compL g t m vs (d :: ds)) S Q ↔ O (g d S) fun S1 => T (bnd t fun b => if b = true then (bnd m fun y S2 => (compL g t m vs ds (wipeS S2 vs)).map fun p => (y :: p.1, p.2)) else fun S2 => compL g t m vs ds (wipeS S2 vs)) S1 Q := O_bind
  rw [h]
  refine Iff.of_eq (congrArg _ ?_)
  funext S1
  rw [T_bnd]
  refine congrArg _ ?_
  funext b S2
  apply propext
  cases b with
  | false => rw [if_neg (by decide)]; exact br_false.symm
  | true =>
    rw [if_pos rfl, T_bnd]
    refine Iff.trans ?_ br_true.symm
    refine Iff.of_eq (congrArg _ ?_)
    funext y S3
    apply propext
    exact O_map
/-- every item kept, the state unchanged -/
theorem T_compMap {g : MG} {t : MT} {m : ME} {vs : List Nat} {ds : List D} {Q : List D → Slots → Prop} (f : D → D)
    (hs : ∀ d ∈ ds, O (g d S) fun S1 => T t S1 fun b S2 => b = true ∧ T m S2 fun y S3 => y = f d ∧ wipeS S3 vs = S)
    (hq : Q (ds.map f) S) : T (compL g t m vs ds) S Q := by
  refine T_compL (fun i out S' => S' = S ∧ out = (ds.take i).map f) ⟨rfl, rfl⟩ (fun i d hd out S' h => ?_) fun out S' h => ?_
  · obtain ⟨rfl, rfl⟩ := h
    refine O_mono (hs d (List.mem_of_getElem? hd)) fun S1 h1 => T_mono h1 fun b S2 h2 => ?_
    obtain ⟨rfl, h2⟩ := h2
    refine br_true.mpr (T_mono h2 fun y S3 h3 => ?_)
    obtain ⟨rfl, h4⟩ := h3
    refine ⟨h4, ?_⟩
    rw [List.take_add_one, hd, List.map_append]; rfl
  · obtain ⟨rfl, rfl⟩ := h
    rw [List.take_length]; exact hq
/-- some items kept -/
theorem T_compFilter {g : MG} {t : MT} {m : ME} {vs : List Nat} {ds : List D} {Q : List D → Slots → Prop} (p : D → Bool) (f : D → D)
    (hs : ∀ d ∈ ds, O (g d S) fun S1 => T t S1 fun b S2 => b = p d ∧ (p d = false → wipeS S2 vs = S) ∧ (p d = true → T m S2 fun y S3 => y = f d ∧ wipeS S3 vs = S))
    (hq : Q ((ds.filter p).map f) S) : T (compL g t m vs ds) S Q := by
  refine T_compL (fun i out S' => S' = S ∧ out = ((ds.take i).filter p).map f) ⟨rfl, rfl⟩ (fun i d hd out S' h => ?_) fun out S' h => ?_
  · obtain ⟨rfl, rfl⟩ := h
    refine O_mono (hs d (List.mem_of_getElem? hd)) fun S1 h1 => T_mono h1 fun b S2 h2 => ?_
    obtain ⟨hb, h3, h2⟩ := h2
    rw [List.take_add_one, hd, List.filter_append, List.map_append]
    cases hp : p d with
    | false =>
      rw [hp] at hb; subst hb
      refine br_false.mpr ⟨h3 hp, ?_⟩
      simp [hp]
    | true =>
      rw [hp] at hb; subst hb
      refine br_true.mpr (T_mono (h2 hp) fun y S3 h3 => ?_)
      obtain ⟨rfl, h4⟩ := h3
      refine ⟨h4, ?_⟩
      simp [hp]
  · obtain ⟨rfl, rfl⟩ := h
    rw [List.take_length]; exact hq

/-! methods that change a cell -/
def MX (x : Option (Option SV)) (f : List D → List D → Option (D × List D)) (i : Nat) (es : List D) (S : Slots) (Q : D → Slots → Prop) : Prop := match x with
  | some (some (.own (.lst ds))) => O (f ds es) fun p => Q p.1 (S.set i (some (.own (.lst p.2))))
  | some (some (.bor (.lst ds))) => O (f ds es) fun p => Q p.1 (S.set i (some (.bor (.lst p.2))))
  | _ => False
theorem MX_own {ds : List D} {f : List D → List D → Option (D × List D)} {i : Nat} {es : List D} {Q : D → Slots → Prop} : MX (some (some (.own (.lst ds)))) f i es S Q ↔ O (f ds es) fun p => Q p.1 (S.set i (some (.own (.lst p.2)))) := Iff.rfl
theorem MX_bor {ds : List D} {f : List D → List D → Option (D × List D)} {i : Nat} {es : List D} {Q : D → Slots → Prop} : MX (some (some (.bor (.lst ds)))) f i es S Q ↔ O (f ds es) fun p => Q p.1 (S.set i (some (.bor (.lst p.2)))) := Iff.rfl
theorem T_mutC {f : List D → List D → Option (D × List D)} {i : Nat} {es : List D} {Q : D → Slots → Prop} : T (mutC f i es) S Q ↔ MX S[i]? f i es S Q := by
  unfold T mutC MX
  generalize S[i]? = x
  cases x
  repeat' (first | exact O_some | exact O_none | exact O_map | exact Iff.rfl | (rename_i z; cases z))
def isCellLst (x : Option (Option SV)) : Prop := match x with
  | some (some (.own (.lst _))) => True
  | some (some (.bor (.lst _))) => True
  | _ => False
theorem isCellLst_own {ds : List D} : isCellLst (some (some (.own (.lst ds)))) ↔ True := Iff.rfl
theorem isCellLst_bor {ds : List D} : isCellLst (some (some (.bor (.lst ds)))) ↔ True := Iff.rfl
theorem T_eMut {f : List D → List D → Option (D × List D)} {i : Nat} {as : MA} {Q : D → Slots → Prop} : T (eMut f i as) S Q ↔ isCellLst S[i]? ∧ T as S fun es S' => MX S'[i]? f i es S' Q := by
  have h : T (bnd as fun es => mutC f i es) S Q ↔ T as S fun es S' => MX S'[i]? f i es S' Q := by rw [T_bnd]; simp only [T_mutC]
  rw [← h]
  have w : eMut f i as S = (match S[i]? with
    | some (some (.own (.lst _))) => bnd as (fun es => mutC f i es) S
    | some (some (.bor (.lst _))) => bnd as (fun es => mutC f i es) S
    | _ => none) := rfl
  unfold T
  rw [w]
  generalize bnd as (fun es => mutC f i es) S = y
  unfold isCellLst
  generalize S[i]? = x
  rcases x with _ | _ | _ | c | c
  · exact ⟨fun h => (O_none.mp h).elim, fun h => h.1.elim⟩
  · exact ⟨fun h => (O_none.mp h).elim, fun h => h.1.elim⟩
  · exact ⟨fun h => (O_none.mp h).elim, fun h => h.1.elim⟩
  · cases c
    · exact ⟨fun h => ⟨trivial, h⟩, fun h => h.2⟩
    · exact ⟨fun h => (O_none.mp h).elim, fun h => h.1.elim⟩
    · exact ⟨fun h => (O_none.mp h).elim, fun h => h.1.elim⟩
  · cases c
    · exact ⟨fun h => ⟨trivial, h⟩, fun h => h.2⟩
    · exact ⟨fun h => (O_none.mp h).elim, fun h => h.1.elim⟩
    · exact ⟨fun h => (O_none.mp h).elim, fun h => h.1.elim⟩
theorem T_eMeth {ty : String} {f : D → List D → Option D} {o : MO} {os : MOs} {Q : D → Slots → Prop} : T (eMeth ty f o os) S Q ↔ T o S fun x S1 => O (rs x S1) fun d => tyOk ty d = true ∧ T os S1 fun ys S2 => O (rs x S2) fun d => O (rss ys S2) fun es => O (f d es) fun z => Q z S2 := by
  unfold eMeth; rw [T_bnd]
  refine Iff.of_eq (congrArg _ ?_)
  funext x S1
  apply propext
  have h : ∀ ys S2, T (opM f x ys) S2 Q ↔ O (rs x S2) fun d => O (rss ys S2) fun es => O (f d es) fun z => Q z S2 := fun ys S2 => by
    unfold T opM; simp only [O_bind, O_map]
  simp only [← h]
  unfold T
  rw [O_bind]
  refine Iff.of_eq (congrArg _ ?_)
  funext d
  apply propext
  by_cases hd : tyOk ty d = true
  · rw [if_pos hd]
    refine ⟨fun k => ⟨hd, T_bnd.mp k⟩, fun k => T_bnd.mpr k.2⟩
  · rw [if_neg hd, O_none]
    exact ⟨fun k => k.elim, fun k => hd k.1⟩

def RP (c : Cel) (d : D) (Q : Cel → Prop) : Prop := match c, d with
  | .lst ds, .int k => (k < 1000000 ∧ -1000000 < k ∧ ds.length * k.toNat ≤ 1000000) ∧ Q (.lst (List.replicate k.toNat ds).flatten)
  | _, _ => False
theorem RP_lst {ds : List D} {k : Int} {Q : Cel → Prop} : RP (.lst ds) (.int k) Q ↔ (k < 1000000 ∧ -1000000 < k ∧ ds.length * k.toNat ≤ 1000000) ∧ Q (.lst (List.replicate k.toNat ds).flatten) := Iff.rfl
theorem T_lRep {l : ML} {m : ME} {Q : Cel → Slots → Prop} : T (lRep l m) S Q ↔ T l S fun c S1 => T m S1 fun d S2 => RP c d fun z => Q z S2 := by
  unfold lRep; simp only [T_bnd]
  refine Iff.of_eq (congrArg _ ?_)
  funext c S1
  refine congrArg _ ?_
  funext d S2
  apply propext
  unfold T RP
  cases c <;> cases d <;> first | exact O_none | exact O_ite.trans (and_congr_right fun _ => O_some)
theorem gL_eq {n : Nat} {gs : MGs} {ds : List D} : gL n gs (.list ds) S = if ds.length = n then gs ds S else none := rfl

theorem T_sParLL {i j : Nat} {l l2 : ML} {Q : Out → Slots → Prop} : T (sParLL i j l l2) S Q ↔ T l S fun c S1 => T l2 S1 fun c2 S' => Q .nx ((S'.set i (some (.own c))).set j (some (.own c2))) := by
  unfold sParLL; simp only [T_bnd]; unfold T; simp only [O_some]
theorem T_sParVL {i j : Nat} {m : ME} {l2 : ML} {Q : Out → Slots → Prop} : T (sParVL i j m l2) S Q ↔ T m S fun c S1 => T l2 S1 fun c2 S' => Q .nx ((S'.set i (some (.val c))).set j (some (.own c2))) := by
  unfold sParVL; simp only [T_bnd]; unfold T; simp only [O_some]
def RG (d : D) (Q : Cel → Prop) : Prop := match d with
  | .int n => (-1000000 ≤ n ∧ n ≤ 1000000) ∧ Q (.lst (rangeD 0 n))
  | _ => False
theorem RG_int {n : Int} {Q : Cel → Prop} : RG (.int n) Q ↔ (-1000000 ≤ n ∧ n ≤ 1000000) ∧ Q (.lst (rangeD 0 n)) := Iff.rfl
theorem T_lRange1 {m : ME} {Q : Cel → Slots → Prop} : T (lRange1 m) S Q ↔ T m S fun d S1 => RG d fun c => Q c S1 := by
  unfold lRange1; rw [T_bnd]
  refine Iff.of_eq (congrArg _ ?_)
  funext d S1
  apply propext
  unfold T RG rgC
  cases d <;> first | exact O_none | exact O_ite.trans (and_congr_right fun _ => O_some)
theorem T_inK {i : Nat} {x : Rf} {Q : Bool → Slots → Prop} : T (inK i x) S Q ↔ O (rs x S) fun d => O (dictD S[i]?) fun kvs => O (keyD d) fun k => Q (hasD kvs k) S := by
  unfold T inK; simp only [O_bind, O_map]
theorem T_eInK {o : MO} {i : Nat} {Q : D → Slots → Prop} : T (eInK o i) S Q ↔ T o S fun x S1 => T (inK i x) S1 fun b S2 => Q (.bool b) S2 := by
  unfold eInK; simp only [T_bnd, T_ret]
theorem T_eNinK {o : MO} {i : Nat} {Q : D → Slots → Prop} : T (eNinK o i) S Q ↔ T o S fun x S1 => T (inK i x) S1 fun b S2 => Q (.bool (!b)) S2 := by
  unfold eNinK; simp only [T_bnd, T_ret]
theorem dictD_own {kvs : List (Key × D)} : dictD (some (some (.own (.dK kvs)))) = some kvs := rfl
theorem keyD_int {i : Int} : keyD (.int i) = some (.inl i) := rfl
theorem T_lDict {it : MA} {g : MG} {t : MT} {mk mv : ME} {vs : List Nat} {Q : Cel → Slots → Prop} : T (lDict it g t mk mv vs) S Q ↔ T it S fun ds S1 => (ds.length ≤ 1000000 ∧ noCells S1 vs = true) ∧ T (dcL g t mk mv vs ds []) (wipeS S1 vs) fun out S2 => Q (.dK out) (backS S1 S2 vs) := by
  unfold lDict; rw [T_bnd]; unfold T
  simp only [O_ite, O_map]
theorem T_dcL_aux {g : MG} {t : MT} {mk mv : ME} {vs : List Nat} {ds : List D} (P : Nat → List (Key × D) → Slots → Prop)
    (hs : ∀ i d, ds[i]? = some d → ∀ acc S, P i acc S → O (g d S) fun S1 => T t S1 fun b S2 => br b (T mk S2 fun y S3 => T mv S3 fun z S4 => O (keyD y) fun k => P (i + 1) (putD acc k z) (wipeS S4 vs)) (P (i + 1) acc (wipeS S2 vs))) :
    ∀ (k i : Nat), i + k = ds.length → ∀ acc S, P i acc S → T (dcL g t mk mv vs (ds.drop i) acc) S fun o S' => P ds.length o S'
  | 0, i, h, acc, S, p => by
    have : i = ds.length := by omega
    subst this
    rw [List.drop_length]
    exact T_ret.mpr p
  | k + 1, i, h, acc, S, p => by
    have hi : i < ds.length := by omega
    rw [List.drop_eq_getElem_cons hi]
    unfold dcL T
    rw [O_bind]
    refine O_mono (hs i _ (List.getElem?_eq_getElem hi) acc S p) fun S1 h1 => ?_
    refine (T_bnd (Q := fun o S' => P ds.length o S')).mpr (T_mono h1 fun b S2 h2 => ?_)
    cases b with
    | false => rw [if_neg (by decide)]; exact T_dcL_aux P hs k (i + 1) (by omega) acc _ (br_false.mp h2)
    | true =>
      rw [if_pos rfl, T_bnd]
      refine T_mono (br_true.mp h2) fun y S3 h3 => ?_
      rw [T_bnd]
      refine T_mono h3 fun z S4 h4 => ?_
      unfold T
      rw [O_bind]
      refine O_mono h4 fun kk h5 => ?_
      exact T_dcL_aux P hs k (i + 1) (by omega) _ _ h5
theorem T_dcL {g : MG} {t : MT} {mk mv : ME} {vs : List Nat} {ds : List D} {Q : List (Key × D) → Slots → Prop} (P : Nat → List (Key × D) → Slots → Prop) (h0 : P 0 [] S)
    (hs : ∀ i d, ds[i]? = some d → ∀ acc S, P i acc S → O (g d S) fun S1 => T t S1 fun b S2 => br b (T mk S2 fun y S3 => T mv S3 fun z S4 => O (keyD y) fun k => P (i + 1) (putD acc k z) (wipeS S4 vs)) (P (i + 1) acc (wipeS S2 vs)))
    (hq : ∀ out S, P ds.length out S → Q out S) : T (dcL g t mk mv vs ds []) S Q := by
  have := T_dcL_aux P hs ds.length 0 (by omega) [] S h0
  rw [List.drop_zero] at this
  exact T_mono this fun o S' h => hq o S' h
theorem has_put {kvs : List (Key × D)} {k k' : Key} {v : D} : hasD (putD kvs k v) k' = (decide (k = k') || hasD kvs k') := by
  unfold putD hasD
  split
  · rename_i h
    rw [List.any_map]
    have e : ((fun kv : Key × D => decide (kv.1 = k')) ∘ fun kv : Key × D => if kv.1 = k then (kv.1, v) else kv) = fun kv => decide (kv.1 = k') := by
      funext kv
      show decide ((if kv.1 = k then (kv.1, v) else kv).1 = k') = _
      split <;> rfl
    rw [e]
    by_cases c : k = k'
    · subst c; rw [h]; simp
    · rw [decide_eq_false c, Bool.false_or]
  · rw [List.any_append, Bool.or_comm]
    simp

/-! a def -/
def TO (o : Out) (Q : SV → Prop) : Prop := match o with
  | .nx => Q (.val .none)
  | .rt (.val d) => Q (.val d)
  | .rt (.own c) => Q (.own c)
  | _ => False
theorem TO_nx {Q : SV → Prop} : TO .nx Q ↔ Q (.val .none) := Iff.rfl
theorem TO_val {d : D} {Q : SV → Prop} : TO (.rt (.val d)) Q ↔ Q (.val d) := Iff.rfl
theorem TO_own {c : Cel} {Q : SV → Prop} : TO (.rt (.own c)) Q ↔ Q (.own c) := Iff.rfl
theorem O_outR {o : Out} {Q : SV → Prop} : O (outR o) Q ↔ TO o Q := by
  unfold outR TO
  rcases o with _ | _ | _ | _ | _ | _ <;> first | exact O_some | exact O_none
theorem O_mkP {np n : Nat} {m : MS} {ds : List D} {Q : SV → Prop} : O (mkP np n m ds) Q ↔ ds.length = np ∧ T m (ds.map (fun d => some (SV.val d)) ++ List.replicate (n - ds.length) none) fun o _ => TO o Q := by
  unfold mkP runP
  rw [O_ite, O_bind]
  simp only [O_outR]
  exact Iff.rfl
def T0 (x : Option (Option SV)) (Q : Cel → Prop) : Prop := match x with
  | some (some (.bor c)) => Q c
  | _ => False
theorem T0_bor {c : Cel} {Q : Cel → Prop} : T0 (some (some (.bor c))) Q ↔ Q c := Iff.rfl
theorem O_mkB {np n : Nat} {m : MS} {c : Cel} {ds : List D} {Q : SV × Cel → Prop} : O (mkB np n m c ds) Q ↔ ds.length + 1 = np ∧ T m (some (SV.bor c) :: ds.map (fun d => some (SV.val d)) ++ List.replicate (n - (ds.length + 1)) none) fun o S' => TO o fun r => T0 S'[0]? fun c' => Q (r, c') := by
  unfold mkB runB
  rw [O_ite, O_bind]
  refine and_congr_right fun _ => Iff.of_eq (congrArg _ ?_)
  funext p
  obtain ⟨o, S'⟩ := p
  apply propext
  dsimp only
  generalize S'[0]? = x
  cases ho : outR o with
  | none =>
    have : ¬TO o fun r => T0 x fun c' => Q (r, c') := fun h => by
      obtain ⟨a, h1, _⟩ := O_outR.mpr h; rw [ho] at h1; cases h1
    exact ⟨fun h => (O_none.mp h).elim, fun h => (this h).elim⟩
  | some r =>
    have : (TO o fun r => T0 x fun c' => Q (r, c')) ↔ T0 x fun c' => Q (r, c') := by rw [← O_outR, ho, O_some]
    refine Iff.trans ?_ this.symm
    unfold T0
    rcases x with _ | _ | _ | c | c
    · exact O_none
    · exact O_none
    · exact O_none
    · exact O_none
    · exact O_some
end
end PD

namespace PD
open PySem PySem.Spec PyProof.Rows L2
section
variable {a b : Int} {x y : Bool} {ds : List D}
theorem fAdd_i : fAdd (.int a) (.int b) = some (.int (a + b)) := rfl
theorem fAddI_i : fAddI (.int a) (.int b) = some (.int (a + b)) := rfl
theorem fSub_i : fSub (.int a) (.int b) = some (.int (a - b)) := rfl
theorem fMul_i : fMul (.int a) (.int b) = if cMul a b = true then some (.int (a * b)) else none := rfl
theorem fDiv_i : fDiv (.int a) (.int b) = if cDiv a b = true then some (.int (a.fdiv b)) else none := rfl
theorem fMod_i : fMod (.int a) (.int b) = if cMod a b = true then some (.int (a.fmod b)) else none := rfl
theorem fShl_i : fShl (.int a) (.int b) = if cPow a b = true then some (.int (a * 2 ^ b.toNat)) else none := rfl
theorem fPow_i : fPow (.int a) (.int b) = if cPow a b = true then some (.int (a ^ b.toNat)) else none := rfl
theorem fShr_i : fShr (.int a) (.int b) = if cShr a b = true then some (.int (a / 2 ^ b.toNat)) else none := rfl
theorem fAnd_i : fAnd (.int a) (.int b) = some (.int (Builtin.bitAnd a b)) := rfl
theorem fOr_i : fOr (.int a) (.int b) = some (.int (Builtin.bitOr a b)) := rfl
theorem fXor_i : fXor (.int a) (.int b) = some (.int (Builtin.bitXor a b)) := rfl
theorem fLt_i : fLt (.int a) (.int b) = some (.bool (decide (a < b))) := rfl
theorem fLe_i : fLe (.int a) (.int b) = some (.bool (decide (a ≤ b))) := rfl
theorem fGt_i : fGt (.int a) (.int b) = some (.bool (decide (b < a))) := rfl
theorem fGe_i : fGe (.int a) (.int b) = some (.bool (decide (b ≤ a))) := rfl
theorem fEq_i : fEq (.int a) (.int b) = some (.bool (decide (a = b))) := rfl
theorem fNe_i : fNe (.int a) (.int b) = some (.bool (!decide (a = b))) := rfl
theorem fEq_b : fEq (.bool x) (.bool y) = some (.bool (decide (x = y))) := rfl
theorem fNe_b : fNe (.bool x) (.bool y) = some (.bool (!decide (x = y))) := rfl
theorem fNeg_i : fNeg (.int a) = some (.int (-a)) := rfl
theorem intD_i : intD [.int a] = some (.int a) := rfl
theorem intD_b : intD [.bool x] = some (.int (if x then 1 else 0)) := rfl
theorem absD_i : absD [.int a] = some (.int (if a < 0 then -a else a)) := rfl
theorem lenD_l : lenD [.list ds] = some (.int ds.length) := rfl
theorem lenD_t : lenD [.tuple ds] = some (.int ds.length) := rfl
theorem tupleD_l : tupleD [.list ds] = some (.tuple ds) := rfl
theorem tupleD_t : tupleD [.tuple ds] = some (.tuple ds) := rfl
theorem listD_l : listD [.list ds] = some ds := rfl
theorem listD_t : listD [.tuple ds] = some ds := rfl
theorem truD_i : truD (.int a) = some (a != 0) := rfl
theorem truD_b : truD (.bool x) = some x := rfl
theorem sumD_l : sumD [.list ds] = (intsOf ds).map fun ns => .int ns.sum := rfl
theorem allD_l : allD [.list ds] = (boolsOf ds).map fun bs => .bool (bs.all id) := rfl
theorem maxD_l : maxD [.list ds] = (intsOf ds).bind fun ns => if ns.isEmpty then none else some (.int (maxL ns)) := rfl
theorem minD_l : minD [.list ds] = (intsOf ds).bind fun ns => if ns.isEmpty then none else some (.int (minL ns)) := rfl
theorem fIsN_n : fIsN .none .none = some (.bool true) := rfl
theorem fIsN_i : fIsN (.int a) .none = some (.bool false) := rfl
theorem fNotN_n : fNotN .none .none = some (.bool false) := rfl
theorem fNotN_i : fNotN (.int a) .none = some (.bool true) := rfl
theorem atD_l : atD (.list ds) (.int a) = (ixN ds.length a).bind fun j => ds[j]? := rfl
theorem atD_t : atD (.tuple ds) (.int a) = (ixN ds.length a).bind fun j => ds[j]? := rfl
theorem ixN_nat {n k : Nat} (h : k < n) : ixN n (k : Int) = some k := by
  unfold ixN; rw [if_pos (by omega), if_pos (by omega), Int.toNat_natCast]
theorem ixN_3_0 : ixN 3 0 = some 0 := rfl
theorem ixN_3_1 : ixN 3 1 = some 1 := rfl
theorem ixN_3_2 : ixN 3 2 = some 2 := rfl
theorem ixN_2_0 : ixN 2 0 = some 0 := rfl
theorem ixN_2_1 : ixN 2 1 = some 1 := rfl
theorem ixN_1_0 : ixN 1 0 = some 0 := rfl
theorem ixN_lit {n k : Nat} (h : k < n) : ixN n (OfNat.ofNat k) = some k := ixN_nat h

/-! the script's box -/
def Box (k : Nat) (c : Cel) : Prop := ∃ d b e : Int, c = .lst [.int d, .int b, .int e] ∧ 0 ≤ d ∧ 0 ≤ b ∧ b < 2 ^ 62 ∧ 0 ≤ e ∧ e ≤ k
theorem Box.mono {k k' : Nat} {c : Cel} (h : Box k c) (e : k ≤ k') : Box k' c := by
  obtain ⟨d, b, e, rfl, h1, h2, h3, h4, h5⟩ := h
  exact ⟨d, b, e, rfl, h1, h2, h3, h4, by omega⟩
/-- what a draw answers -/
def Drawn (k : Nat) (n : Int) (p : SV × Cel) : Prop := ∃ r : Int, p.1 = .val (.int r) ∧ 0 ≤ r ∧ r < n ∧ Box (k + 1) p.2
def TakeOk (F : Cel → List D → Option (SV × Cel)) : Prop := ∀ (k : Nat) (c : Cel) (n : Int), Box k c → k < 2 ^ 40 → 0 < n → n < 2 ^ 30 → O (F c [.int n]) (Drawn k n)
theorem cMulL (h : a.natAbs < 2 ^ 64) : cMul a b = true := by unfold cMul; rw [decide_eq_true h]; rfl
theorem cMulR (h : b.natAbs < 2 ^ 64) : cMul a b = true := by unfold cMul; rw [decide_eq_true h, Bool.or_true]
theorem cDivP (h : 0 < b) (h2 : b < 1073741824) : cDiv a b = true := by unfold cDiv; exact decide_eq_true ⟨by omega, by omega⟩
theorem cModP (h : 0 < b) : cMod a b = true := by unfold cMod; exact decide_eq_true (by omega)
theorem cPowP {i j : Int} (h : 0 ≤ j) (h2 : j ≤ 1000000) (h3 : i.natAbs < 2 ^ 64) : cPow i j = true := decide_eq_true ⟨h, h2, h3⟩
theorem fmod_pos (h : 0 < b) : a.fmod b = a % b := Int.fmod_eq_emod_of_nonneg a (by omega)
theorem fdiv_pos (h : 0 < b) : a.fdiv b = a / b := Int.fdiv_eq_ediv_of_nonneg a (by omega)
end
end PD

/-! PM: sums, signs, the turn of a table. Plain Lean. -/
namespace PM
/-! ### sums over 0..n-1 -/
def Sm : Nat → (Nat → Int) → Int
  | 0, _ => 0
  | n + 1, f => Sm n f + f n
theorem Sm_succ {n : Nat} {f : Nat → Int} : Sm (n + 1) f = Sm n f + f n := rfl
theorem Sm_congr {n : Nat} {f g : Nat → Int} (h : ∀ k, k < n → f k = g k) : Sm n f = Sm n g := by
  induction n with
  | zero => rfl
  | succ n ih => unfold Sm; rw [ih fun k hk => h k (by omega), h n (by omega)]
theorem Sm_add {n : Nat} {f g : Nat → Int} : Sm n (fun k => f k + g k) = Sm n f + Sm n g := by
  induction n with
  | zero => rfl
  | succ n ih => rw [Sm_succ, Sm_succ, Sm_succ, ih]; omega
theorem Sm_sub {n : Nat} {f g : Nat → Int} : Sm n (fun k => f k - g k) = Sm n f - Sm n g := by
  induction n with
  | zero => rfl
  | succ n ih => rw [Sm_succ, Sm_succ, Sm_succ, ih]; omega
theorem Sm_neg {n : Nat} {f : Nat → Int} : Sm n (fun k => -f k) = -Sm n f := by
  induction n with
  | zero => rfl
  | succ n ih => rw [Sm_succ, Sm_succ, ih]; omega
theorem Sm_mul {n : Nat} {c : Int} {f : Nat → Int} : Sm n (fun k => c * f k) = c * Sm n f := by
  induction n with
  | zero => unfold Sm; rw [Int.mul_zero]
  | succ n ih => unfold Sm; rw [ih, Int.mul_add]
theorem Sm_mulr {n : Nat} {c : Int} {f : Nat → Int} : Sm n (fun k => f k * c) = Sm n f * c := by
  induction n with
  | zero => unfold Sm; rw [Int.zero_mul]
  | succ n ih => unfold Sm; rw [ih, Int.add_mul]
theorem Sm_zero {n : Nat} : Sm n (fun _ => 0) = 0 := by
  induction n with
  | zero => rfl
  | succ n ih => unfold Sm; rw [ih]; rfl
theorem Sm_const {n : Nat} {c : Int} : Sm n (fun _ => c) = n * c := by
  induction n with
  | zero => unfold Sm; simp
  | succ n ih => unfold Sm; rw [ih, Int.natCast_succ, Int.add_mul, Int.one_mul]
theorem Sm_swap {n m : Nat} {f : Nat → Nat → Int} : Sm n (fun i => Sm m fun j => f i j) = Sm m (fun j => Sm n fun i => f i j) := by
  induction n with
  | zero => show 0 = Sm m fun j => 0; rw [Sm_zero]
  | succ n ih =>
    show Sm n _ + Sm m _ = Sm m fun j => Sm n (fun i => f i j) + f n j
    rw [ih, Sm_add]
theorem Sm_split {a b : Nat} {f : Nat → Int} : Sm (a + b) f = Sm a f + Sm b (fun k => f (k + a)) := by
  induction b with
  | zero => show Sm a f = Sm a f + 0; omega
  | succ b ih => show Sm (a + b) f + f (a + b) = Sm a f + (Sm b (fun k => f (k + a)) + f (b + a)); rw [ih, Nat.add_comm a b]; omega
theorem Sm_two {m : Nat} {f : Nat → Int} : Sm (2 ^ (m + 1)) f = Sm (2 ^ m) f + Sm (2 ^ m) fun k => f (k + 2 ^ m) := by
  rw [Nat.pow_succ, Nat.mul_two, Sm_split]
theorem Sm_one {n k : Nat} {c : Int} (hk : k < n) : Sm n (fun q => if q = k then c else 0) = c := by
  induction n with
  | zero => omega
  | succ n ih =>
    rw [Sm_succ]
    by_cases h : k = n
    · subst h
      rw [if_pos rfl, Sm_congr (g := fun _ => 0), Sm_zero, Int.zero_add]
      intro q hq
      exact if_neg (by omega)
    · rw [ih (by omega), if_neg (by omega), Int.add_zero]
theorem Sm_list {n : Nat} {f : Nat → Int} : ((List.range n).map f).sum = Sm n f := by
  induction n with
  | zero => rfl
  | succ n ih => rw [List.range_succ, List.map_append, List.sum_append, ih, Sm_succ]; simp
theorem Sm_abs {n : Nat} {f : Nat → Int} {b : Nat} (h : ∀ k, k < n → (f k).natAbs ≤ b) : (Sm n f).natAbs ≤ n * b := by
  induction n with
  | zero => unfold Sm; simp
  | succ n ih =>
    unfold Sm
    have h1 := ih fun k hk => h k (by omega)
    have h2 := h n (by omega)
    rw [Nat.succ_mul]
    omega
theorem Sm_parity {n : Nat} {f : Nat → Int} (h : ∀ k, k < n → f k % 2 = 1) : Sm n f % 2 = n % 2 := by
  induction n with
  | zero => rfl
  | succ n ih =>
    unfold Sm
    have h1 := ih fun k hk => h k (by omega)
    have h2 := h n (by omega)
    omega

/-! ### signs -/
def sg : Nat → Nat → Nat → Int
  | 0, _, _ => 1
  | j + 1, q, p => sg j q p * (if (q.testBit j && p.testBit j) = true then -1 else 1)
theorem sg_succ {j q p : Nat} : sg (j + 1) q p = sg j q p * (if (q.testBit j && p.testBit j) = true then -1 else 1) := rfl
theorem sg_comm {j q p : Nat} : sg j q p = sg j p q := by
  induction j with
  | zero => rfl
  | succ j ih => unfold sg; rw [ih, Bool.and_comm]
theorem sg_one {j q p : Nat} : sg j q p = 1 ∨ sg j q p = -1 := by
  induction j with
  | zero => exact .inl rfl
  | succ j ih => unfold sg; split <;> rcases ih with h | h <;> rw [h] <;> simp
theorem sg_sq {j q p : Nat} : sg j q p * sg j q p = 1 := by
  rcases sg_one (j := j) (q := q) (p := p) with h | h <;> rw [h] <;> rfl
theorem sg_low {j q q' p : Nat} (h : ∀ i, i < j → q.testBit i = q'.testBit i) : sg j q p = sg j q' p := by
  induction j with
  | zero => rfl
  | succ j ih => unfold sg; rw [ih fun i hi => h i (by omega), h j (by omega)]
theorem bit_low {j q i : Nat} (h : i < j) : (q + 2 ^ j).testBit i = q.testBit i := by
  rw [Nat.add_comm]; exact Nat.testBit_two_pow_add_gt h q
theorem bit_top {j q : Nat} (h : q < 2 ^ j) : (q + 2 ^ j).testBit j = true := by
  rw [Nat.add_comm, Nat.testBit_two_pow_add_eq, Nat.testBit_lt_two_pow h]; rfl
theorem sg_lowR {j q p : Nat} : sg j (q + 2 ^ j) p = sg j q p := sg_low fun i hi => bit_low hi
theorem sg_lowL {j q p : Nat} : sg j q (p + 2 ^ j) = sg j q p := by rw [sg_comm, sg_lowR, sg_comm]
theorem sg_xor {j a b r : Nat} : sg j (a ^^^ b) r = sg j a r * sg j b r := by
  induction j with
  | zero => rfl
  | succ j ih =>
    unfold sg
    rw [ih, Nat.testBit_xor]
    cases a.testBit j <;> cases b.testBit j <;> cases r.testBit j <;> simp [Int.mul_neg, Int.neg_mul]
theorem sg_zeroL {j p : Nat} : sg j 0 p = 1 := by
  induction j with
  | zero => rfl
  | succ j ih => unfold sg; rw [ih, Nat.zero_testBit]; rfl

/-! ### parity -/
def pc : Nat → Nat → Nat
  | 0, _ => 0
  | n + 1, k => pc n k + (k.testBit n).toNat
theorem pc_stop {i k : Nat} (h : k < 2 ^ i) : ∀ n, pc (i + n) k = pc i k
  | 0 => rfl
  | n + 1 => by
    show pc (i + n) k + (k.testBit (i + n)).toNat = _
    rw [pc_stop h n, Nat.testBit_lt_two_pow (Nat.lt_of_lt_of_le h (Nat.pow_le_pow_right (by decide) (by omega)))]; rfl
theorem pc_same {i j k : Nat} (h : k < 2 ^ i) (h2 : k < 2 ^ j) : pc i k = pc j k := by
  rcases Nat.le_total i j with e | e
  · rw [← pc_stop h (j - i)]; congr 1; omega
  · rw [← pc_stop h2 (i - j)]; congr 1; omega
theorem sg_pc {j q p : Nat} : sg j q p = if pc j (q &&& p) % 2 = 0 then 1 else -1 := by
  induction j with
  | zero => rfl
  | succ j ih =>
    unfold sg pc
    rw [ih, Nat.testBit_and]
    cases q.testBit j && p.testBit j
    · simp
    · simp only [if_true, Bool.toNat_true]
      by_cases h : pc j (q &&& p) % 2 = 0
      · rw [if_pos h, if_neg (by omega)]; rfl
      · rw [if_neg h, if_pos (by omega)]; rfl

/-! ### the turn -/
/-- the turned sums of g -/
def WH (m : Nat) (g : Nat → Int) (r : Nat) : Int := Sm (2 ^ m) fun q => sg m q r * g q
theorem orth_eq {m q p : Nat} (h : ∀ i, i < m → q.testBit i = p.testBit i) : Sm (2 ^ m) (fun r => sg m q r * sg m p r) = 2 ^ m := by
  rw [Sm_congr (g := fun _ => 1), Sm_const, Int.mul_one, Int.natCast_pow]; rfl
  intro r _
  rw [sg_low h, sg_sq]
theorem orth_step {m q p : Nat} : Sm (2 ^ (m + 1)) (fun r => sg (m + 1) q r * sg (m + 1) p r) = Sm (2 ^ m) (fun r => sg m q r * sg m p r) + Sm (2 ^ m) (fun r => sg m q r * sg m p r) * ((if q.testBit m = true then -1 else 1) * (if p.testBit m = true then -1 else 1)) := by
  rw [Sm_two, ← Sm_mulr]
  congr 1
  · refine Sm_congr fun r hr => ?_
    rw [sg_succ, sg_succ, Nat.testBit_lt_two_pow hr, Bool.and_false, Bool.and_false]
    simp
  · refine Sm_congr fun r hr => ?_
    rw [sg_succ, sg_succ, bit_top hr, Bool.and_true, Bool.and_true, sg_lowL, sg_lowL]
    simp only [Int.mul_assoc, Int.mul_comm, Int.mul_left_comm]
theorem orth_ne {m q p : Nat} (h : ∃ i, i < m ∧ q.testBit i ≠ p.testBit i) : Sm (2 ^ m) (fun r => sg m q r * sg m p r) = 0 := by
  induction m with
  | zero => obtain ⟨i, h, _⟩ := h; omega
  | succ m ih =>
    rw [orth_step]
    by_cases e : q.testBit m = p.testBit m
    · rw [ih, Int.zero_mul]; rfl
      obtain ⟨i, h1, h2⟩ := h
      refine ⟨i, ?_, h2⟩
      by_cases hi : i = m
      · subst hi; exact (h2 e).elim
      · omega
    · cases hq : q.testBit m <;> cases hp : p.testBit m <;> rw [hq, hp] at e <;> first | exact (e rfl).elim | skip
      · simp; omega
      · simp; omega
theorem orth {m q p : Nat} (hq : q < 2 ^ m) (hp : p < 2 ^ m) : Sm (2 ^ m) (fun r => sg m q r * sg m p r) = if q = p then 2 ^ m else 0 := by
  by_cases h : q = p
  · subst h; rw [if_pos rfl]; exact orth_eq fun _ _ => rfl
  · rw [if_neg h]
    refine orth_ne ?_
    apply Classical.byContradiction
    intro hn
    apply h
    apply Nat.eq_of_testBit_eq
    intro i
    by_cases hi : i < m
    · apply Classical.byContradiction
      intro hc
      exact hn ⟨i, hi, hc⟩
    · have := Nat.pow_le_pow_right (n := 2) (by decide) (Nat.le_of_not_lt hi)
      rw [Nat.testBit_lt_two_pow (Nat.lt_of_lt_of_le hq this), Nat.testBit_lt_two_pow (Nat.lt_of_lt_of_le hp this)]
theorem xor_lt {m a b : Nat} (ha : a < 2 ^ m) (hb : b < 2 ^ m) : a ^^^ b < 2 ^ m := Nat.xor_lt_two_pow ha hb
theorem xor_self_cancel {a b : Nat} : a ^^^ (a ^^^ b) = b := by rw [← Nat.xor_assoc, Nat.xor_self, Nat.zero_xor]
/-- the turn back -/
theorem turn_back {m k : Nat} {g : Nat → Int} (hk : k < 2 ^ m) : Sm (2 ^ m) (fun r => sg m k r * WH m g r) = 2 ^ m * g k := by
  have h1 : Sm (2 ^ m) (fun r => sg m k r * WH m g r) = Sm (2 ^ m) fun q => g q * Sm (2 ^ m) fun r => sg m k r * sg m q r := by
    rw [show (fun q => g q * Sm (2 ^ m) fun r => sg m k r * sg m q r) = fun q => Sm (2 ^ m) fun r => g q * (sg m k r * sg m q r) from funext fun q => Sm_mul.symm, Sm_swap]
    refine Sm_congr fun r _ => ?_
    unfold WH
    rw [← Sm_mul]
    refine Sm_congr fun q _ => ?_
    rw [← Int.mul_assoc, Int.mul_comm]
  rw [h1]
  rw [Sm_congr (g := fun q => if q = k then 2 ^ m * g k else 0), Sm_one hk]
  intro q hq
  rw [orth hk hq]
  by_cases e : q = k
  · subst e; rw [if_pos rfl, if_pos rfl, Int.mul_comm]
  · rw [if_neg e, if_neg (Ne.symm e), Int.mul_zero]
/-- how g agrees with g shifted -/
def AC (m : Nat) (g : Nat → Int) (k : Nat) : Int := Sm (2 ^ m) fun q => g q * g (q ^^^ k)
theorem turn_sq {m k : Nat} {g : Nat → Int} (hk : k < 2 ^ m) : Sm (2 ^ m) (fun r => sg m k r * (WH m g r * WH m g r)) = 2 ^ m * AC m g k := by
  have h1 : Sm (2 ^ m) (fun r => sg m k r * (WH m g r * WH m g r)) = Sm (2 ^ m) fun q => g q * Sm (2 ^ m) fun r => sg m (k ^^^ q) r * WH m g r := by
    rw [show (fun q => g q * Sm (2 ^ m) fun r => sg m (k ^^^ q) r * WH m g r) = fun q => Sm (2 ^ m) fun r => g q * (sg m (k ^^^ q) r * WH m g r) from funext fun q => Sm_mul.symm, Sm_swap]
    refine Sm_congr fun r _ => ?_
    show sg m k r * (Sm (2 ^ m) (fun q => sg m q r * g q) * WH m g r) = _
    rw [← Sm_mulr, ← Sm_mul]
    refine Sm_congr fun q _ => ?_
    rw [sg_xor]
    simp only [Int.mul_assoc, Int.mul_comm, Int.mul_left_comm]
  rw [h1]
  unfold AC
  rw [← Sm_mul]
  refine Sm_congr fun q hq => ?_
  rw [turn_back (xor_lt hk hq), Nat.xor_comm k q]
  rw [Int.mul_left_comm]
theorem WH_zero {m : Nat} {g : Nat → Int} {f : Nat → Int} : Sm (2 ^ m) (fun r => f r * WH m g r) = Sm (2 ^ m) fun k => g k * Sm (2 ^ m) fun r => sg m k r * f r := by
  rw [show (fun k => g k * Sm (2 ^ m) fun r => sg m k r * f r) = fun k => Sm (2 ^ m) fun r => g k * (sg m k r * f r) from funext fun q => Sm_mul.symm, Sm_swap]
  refine Sm_congr fun r _ => ?_
  unfold WH
  rw [← Sm_mul]
  refine Sm_congr fun q _ => ?_
  simp only [Int.mul_assoc, Int.mul_comm, Int.mul_left_comm]
/-- the sum of cubes -/
theorem turn_cube {m : Nat} {g : Nat → Int} : Sm (2 ^ m) (fun r => WH m g r * WH m g r * WH m g r) = 2 ^ m * Sm (2 ^ m) fun k => g k * AC m g k := by
  rw [WH_zero, ← Sm_mul]
  refine Sm_congr fun k hk => ?_
  rw [turn_sq hk, Int.mul_left_comm]
theorem WH_neg {m : Nat} {g : Nat → Int} {r : Nat} : WH m (fun k => -g k) r = -WH m g r := by
  unfold WH
  rw [← Sm_neg]
  refine Sm_congr fun q _ => ?_
  rw [Int.mul_neg]
theorem WH_congr {m r : Nat} {f g : Nat → Int} (h : ∀ q, q < 2 ^ m → f q = g q) : WH m f r = WH m g r := by
  unfold WH
  exact Sm_congr fun q hq => by rw [h q hq]
theorem WH_abs {m r : Nat} {g : Nat → Int} {b : Nat} (h : ∀ q, q < 2 ^ m → (g q).natAbs ≤ b) : (WH m g r).natAbs ≤ 2 ^ m * b := by
  refine Sm_abs fun q hq => ?_
  rw [Int.natAbs_mul]
  have : (sg m q r).natAbs = 1 := by rcases sg_one (j := m) (q := q) (p := r) with h | h <;> rw [h] <;> rfl
  rw [this, Nat.one_mul]
  exact h q hq
/-! ### the turn in place -/
def B : Nat → (Nat → Int) → Nat → Int
  | 0, g, p => g p
  | j + 1, g, p => if p.testBit j = true then B j g (p - 2 ^ j) - B j g p else B j g p + B j g (p + 2 ^ j)
theorem bit_at {j h q : Nat} (hq : q < 2 ^ j) : (q + 2 ^ j * h).testBit j = decide (h % 2 = 1) := by
  rw [Nat.testBit_eq_decide_div_mod_eq, Nat.add_mul_div_left _ _ (Nat.two_pow_pos j), Nat.div_eq_of_lt hq, Nat.zero_add]
theorem B_lo {j h q : Nat} {g : Nat → Int} (hq : q < 2 ^ j) : B (j + 1) g (q + 2 ^ j * (2 * h)) = B j g (q + 2 ^ j * (2 * h)) + B j g (q + 2 ^ j * (2 * h + 1)) := by
  show (if _ = true then _ else _) = _
  rw [bit_at hq, if_neg (by simp)]
  rw [Nat.mul_add, Nat.mul_one, Nat.add_assoc]
theorem B_hi {j h q : Nat} {g : Nat → Int} (hq : q < 2 ^ j) : B (j + 1) g (q + 2 ^ j * (2 * h + 1)) = B j g (q + 2 ^ j * (2 * h)) - B j g (q + 2 ^ j * (2 * h + 1)) := by
  show (if _ = true then _ else _) = _
  rw [bit_at hq, if_pos (by simp)]
  congr 2
  rw [Nat.mul_add, Nat.mul_one]; omega
theorem B_eq {j : Nat} {g : Nat → Int} : ∀ (h p : Nat), p < 2 ^ j → B j g (p + 2 ^ j * h) = Sm (2 ^ j) fun q => sg j q p * g (q + 2 ^ j * h) := by
  induction j with
  | zero =>
    intro h p hp
    have : p = 0 := by rw [Nat.pow_zero] at hp; omega
    subst this
    show g _ = 0 + 1 * g _
    rw [Int.one_mul, Int.zero_add]
  | succ j ih =>
    intro h p hp
    have e2 : 2 ^ (j + 1) = 2 ^ j * 2 := Nat.pow_succ ..
    have x1 : ∀ q, q + 2 ^ (j + 1) * h = q + 2 ^ j * (2 * h) := fun q => by rw [e2, Nat.mul_assoc]
    have x2 : ∀ q, q + 2 ^ j + 2 ^ (j + 1) * h = q + 2 ^ j * (2 * h + 1) := fun q => by rw [x1, Nat.mul_add, Nat.mul_one]; omega
    rw [Sm_two]
    by_cases hc : p < 2 ^ j
    · rw [x1, B_lo hc, ih _ p hc, ih _ p hc]
      congr 1
      · refine Sm_congr fun q hq => ?_
        rw [x1]
        congr 1
        show _ = sg j q p * _
        rw [Nat.testBit_lt_two_pow hc, Bool.and_false]; simp
      · refine Sm_congr fun q hq => ?_
        rw [x2]
        congr 1
        show _ = sg j (q + 2 ^ j) p * _
        rw [Nat.testBit_lt_two_pow hc, Bool.and_false, sg_lowR]; simp
    · obtain ⟨p', rfl⟩ : ∃ p', p = p' + 2 ^ j := ⟨p - 2 ^ j, by omega⟩
      have hp' : p' < 2 ^ j := by omega
      rw [x2, B_hi hp', ih _ p' hp', ih _ p' hp', Int.sub_eq_add_neg, ← Sm_neg]
      congr 1
      · refine Sm_congr fun q hq => ?_
        rw [x1]
        congr 1
        show _ = sg j q (p' + 2 ^ j) * _
        rw [Nat.testBit_lt_two_pow hq, Bool.false_and, sg_lowL]; simp
      · refine Sm_congr fun q hq => ?_
        rw [x2, ← Int.neg_mul]
        congr 1
        show _ = sg j (q + 2 ^ j) (p' + 2 ^ j) * _
        rw [bit_top hq, bit_top hp', sg_lowR, sg_lowL]; simp
theorem B_WH {m p : Nat} {g : Nat → Int} (hp : p < 2 ^ m) : B m g p = WH m g p := by
  have := B_eq (g := g) 0 p hp
  rw [Nat.mul_zero, Nat.add_zero] at this
  rw [this]
  rfl
end PM

/-! PX: xors of numbers, parities, the product of two sums of unknowns. Plain Lean. -/
namespace PX
open PM
def XS : Nat → (Nat → Nat) → Nat
  | 0, _ => 0
  | n + 1, f => XS n f ^^^ f n
theorem XS_succ {n : Nat} {f : Nat → Nat} : XS (n + 1) f = XS n f ^^^ f n := rfl
theorem XS_congr {n : Nat} {f g : Nat → Nat} (h : ∀ k, k < n → f k = g k) : XS n f = XS n g := by
  induction n with
  | zero => rfl
  | succ n ih => rw [XS_succ, XS_succ, ih fun k hk => h k (by omega), h n (by omega)]
theorem xor4 (a b c d : Nat) : (a ^^^ b) ^^^ (c ^^^ d) = (a ^^^ c) ^^^ (b ^^^ d) := by
  rw [Nat.xor_assoc, Nat.xor_assoc]; congr 1; rw [← Nat.xor_assoc, ← Nat.xor_assoc, Nat.xor_comm b c]
theorem XS_xor {n : Nat} {f g : Nat → Nat} : XS n (fun k => f k ^^^ g k) = XS n f ^^^ XS n g := by
  induction n with
  | zero => show 0 = 0 ^^^ 0; rw [Nat.xor_self]
  | succ n ih => rw [XS_succ, XS_succ, XS_succ, ih, xor4]
theorem XS_zero {n : Nat} : XS n (fun _ => 0) = 0 := by
  induction n with
  | zero => rfl
  | succ n ih => rw [XS_succ, ih]; rfl
theorem XS_swap {n m : Nat} {f : Nat → Nat → Nat} : XS n (fun i => XS m fun j => f i j) = XS m (fun j => XS n fun i => f i j) := by
  induction n with
  | zero => show 0 = XS m fun _ => 0; rw [XS_zero]
  | succ n ih =>
    show XS n _ ^^^ XS m _ = XS m fun j => XS n (fun i => f i j) ^^^ f n j
    rw [ih, XS_xor]
theorem XS_one {n k c : Nat} (hk : k < n) : XS n (fun q => if q = k then c else 0) = c := by
  induction n with
  | zero => omega
  | succ n ih =>
    rw [XS_succ]
    by_cases h : k = n
    · subst h
      rw [if_pos rfl, XS_congr (g := fun _ => 0), XS_zero, Nat.zero_xor]
      intro q hq
      exact if_neg (by omega)
    · rw [ih (by omega), if_neg (by omega), Nat.xor_zero]
theorem XS_lt {n m : Nat} {f : Nat → Nat} (h : ∀ k, k < n → f k < 2 ^ m) : XS n f < 2 ^ m := by
  induction n with
  | zero => exact Nat.two_pow_pos m
  | succ n ih => rw [XS_succ]; exact Nat.xor_lt_two_pow (ih fun k hk => h k (by omega)) (h n (by omega))
theorem XS_bit {n : Nat} {f : Nat → Nat} {p : Nat} (k : Nat) (hk : k < n) (h : ∀ q, q < n → q ≠ k → (f q).testBit p = false) : (XS n f).testBit p = (f k).testBit p := by
  induction n with
  | zero => omega
  | succ n ih =>
    rw [XS_succ, Nat.testBit_xor]
    by_cases e : k = n
    · subst e
      have : (XS k f).testBit p = false := by
        have : ∀ m, m ≤ k → (XS m f).testBit p = false := by
          intro m
          induction m with
          | zero => intro _; exact Nat.zero_testBit p
          | succ m ihm => intro hm; rw [XS_succ, Nat.testBit_xor, ihm (by omega), h m (by omega) (by omega)]; rfl
        exact this k (Nat.le_refl _)
      rw [this, Bool.false_xor]
    · rw [ih (by omega) fun q hq => h q (by omega), h n (by omega) (Ne.symm e), Bool.xor_false]
/-- a number is the xor of its bits -/
theorem XS_bits : ∀ {n x : Nat}, x < 2 ^ n → XS n (fun i => if x.testBit i = true then 2 ^ i else 0) = x := by
  intro n x hx
  apply Nat.eq_of_testBit_eq
  intro p
  by_cases hp : p < n
  · rw [XS_bit p hp]
    · cases h : x.testBit p
      · simp
      · simp
    · intro q _ hq
      split
      · rw [Nat.testBit_two_pow]; simp; omega
      · exact Nat.zero_testBit p
  · have h1 : XS n (fun i => if x.testBit i = true then 2 ^ i else 0) < 2 ^ n := XS_lt fun k hk => by
      split
      · exact Nat.pow_lt_pow_right (by decide) hk
      · exact Nat.two_pow_pos n
    have h2 : 2 ^ n ≤ 2 ^ p := Nat.pow_le_pow_right (by decide) (by omega)
    rw [Nat.testBit_lt_two_pow (by omega), Nat.testBit_lt_two_pow (by omega)]

/-! ### parities -/
def pb : Nat → Nat → Bool
  | 0, _ => false
  | n + 1, x => pb n x ^^ x.testBit n
theorem pb_xor {n a b : Nat} : pb n (a ^^^ b) = (pb n a ^^ pb n b) := by
  induction n with
  | zero => rfl
  | succ n ih => unfold pb; rw [ih, Nat.testBit_xor]; cases pb n a <;> cases pb n b <;> cases a.testBit n <;> cases b.testBit n <;> rfl
theorem pb_zero {n : Nat} : pb n 0 = false := by
  induction n with
  | zero => rfl
  | succ n ih => unfold pb; rw [ih, Nat.zero_testBit]; rfl
theorem pb_pc {n x : Nat} : pc n x % 2 = (pb n x).toNat := by
  induction n with
  | zero => rfl
  | succ n ih =>
    unfold pb pc
    cases h1 : pb n x <;> cases h2 : x.testBit n <;> rw [h1] at ih <;> simp at ih ⊢ <;> omega
theorem pb_shift {m x : Nat} : ∀ n, pb (m + n) x = (pb m x ^^ pb n (x >>> m))
  | 0 => by rw [Nat.add_zero]; show _ = (pb m x ^^ false); rw [Bool.xor_false]
  | n + 1 => by
    show (pb (m + n) x ^^ x.testBit (m + n)) = (pb m x ^^ (pb n (x >>> m) ^^ (x >>> m).testBit n))
    rw [pb_shift n, Nat.testBit_shiftRight, Bool.xor_assoc]
/-- folding -/
theorem pb_fold {m x : Nat} : pb m (x ^^^ (x >>> m)) = pb (m + m) x := by
  rw [pb_xor, pb_shift]
theorem pb_same {n m x : Nat} (hn : x < 2 ^ n) (hm : x < 2 ^ m) : pb n x = pb m x := by
  have h : ∀ {n x}, x < 2 ^ n → ∀ d, pb (n + d) x = pb n x := by
    intro n x hx d
    induction d with
    | zero => rfl
    | succ d ih =>
      show (pb (n + d) x ^^ x.testBit (n + d)) = _
      rw [ih, Nat.testBit_lt_two_pow (Nat.lt_of_lt_of_le hx (Nat.pow_le_pow_right (by decide) (by omega))), Bool.xor_false]
  rcases Nat.le_total n m with e | e
  · rw [← h hn (m - n)]; congr 1; omega
  · rw [← h hm (n - m)]; congr 1; omega
def fold10 (x : Nat) : Nat := [512, 256, 128, 64, 32, 16, 8, 4, 2, 1].foldl (fun x s => x ^^^ (x >>> s)) x
theorem fold10_bit {x : Nat} : fold10 x % 2 = (pb 1024 x).toNat := by
  unfold fold10
  simp only [List.foldl]
  rw [show 1024 = 512 + 512 from rfl, ← pb_fold, show 512 = 256 + 256 from rfl, ← pb_fold, show 256 = 128 + 128 from rfl, ← pb_fold, show 128 = 64 + 64 from rfl, ← pb_fold, show 64 = 32 + 32 from rfl, ← pb_fold, show 32 = 16 + 16 from rfl, ← pb_fold, show 16 = 8 + 8 from rfl, ← pb_fold, show 8 = 4 + 4 from rfl, ← pb_fold, show 4 = 2 + 2 from rfl, ← pb_fold, show 2 = 1 + 1 from rfl, ← pb_fold]
  generalize (_ ^^^ _ : Nat) = y
  show _ = (false ^^ y.testBit 0).toNat
  rw [Bool.false_xor, Nat.testBit_zero]
  rcases Nat.mod_two_eq_zero_or_one y with h | h <;> rw [h] <;> rfl

/-! ### the product of two sums -/
def fst (many : Nat) : Nat → Nat
  | 0 => 0
  | k + 1 => fst many k + (many - k)
def row (a b i : Nat) : Nat := (if (a >>> i) % 2 = 1 then b >>> i else 0) ^^^ (if (b >>> i) % 2 = 1 then (a >>> i) ^^^ ((a >>> i) % 2) else 0)
theorem mod2_xor (a b : Nat) : (a ^^^ b) % 2 = (a % 2) ^^^ (b % 2) := by
  have := Nat.xor_mod_two_pow (a := a) (b := b) (n := 1)
  simpa using this
theorem row_xor {a b c i : Nat} : row a (b ^^^ c) i = row a b i ^^^ row a c i := by
  unfold row
  rw [Nat.shiftRight_xor_distrib, mod2_xor]
  generalize a >>> i = r
  generalize b >>> i = s
  generalize c >>> i = u
  rw [xor4]
  congr 1
  · split
    · rfl
    · rfl
  · rcases Nat.mod_two_eq_zero_or_one s with h1 | h1 <;> rcases Nat.mod_two_eq_zero_or_one u with h2 | h2 <;> rw [h1, h2] <;> simp
theorem row_comm {a b i : Nat} : row a b i = row b a i := by
  unfold row
  generalize a >>> i = r
  generalize b >>> i = s
  rcases Nat.mod_two_eq_zero_or_one s with h1 | h1 <;> rcases Nat.mod_two_eq_zero_or_one r with h2 | h2 <;> rw [h1, h2] <;> simp
  rw [← Nat.xor_assoc, ← Nat.xor_assoc, Nat.xor_comm s r]
theorem row_self {a i : Nat} : row a a i = if a.testBit i = true then 1 else 0 := by
  unfold row
  rw [Nat.testBit_eq_decide_div_mod_eq, ← Nat.shiftRight_eq_div_pow]
  generalize a >>> i = r
  rcases Nat.mod_two_eq_zero_or_one r with h1 | h1 <;> rw [h1] <;> simp
  rw [← Nat.xor_assoc, Nat.xor_self, Nat.zero_xor]
theorem row_zero {b i : Nat} : row 0 b i = 0 := by
  unfold row
  rw [Nat.zero_shiftRight]
  simp
theorem row_lt {a b i m : Nat} (ha : a < 2 ^ m) (hb : b < 2 ^ m) : row a b i < 2 ^ (m - i) := by
  have h : ∀ x, x < 2 ^ m → x >>> i < 2 ^ (m - i) := fun x hx => by
    rw [Nat.shiftRight_eq_div_pow]
    by_cases hi : i ≤ m
    · rw [Nat.div_lt_iff_lt_mul (Nat.two_pow_pos i), ← Nat.pow_add]
      rwa [Nat.sub_add_cancel hi]
    · have : 2 ^ m ≤ 2 ^ i := Nat.pow_le_pow_right (by decide) (by omega)
      rw [Nat.div_eq_of_lt (by omega)]
      exact Nat.two_pow_pos _
  have h0 : 0 < 2 ^ (m - i) := Nat.two_pow_pos _
  unfold row
  refine Nat.xor_lt_two_pow ?_ ?_
  · split
    · exact h b hb
    · exact h0
  · split
    · refine Nat.xor_lt_two_pow (h a ha) ?_
      exact Nat.lt_of_le_of_lt (Nat.mod_le _ _) (h a ha)
    · exact h0
/-- the product's number -/
def PR (many a b n : Nat) : Nat := XS n fun i => row a b i <<< fst many i
theorem PR_xor {m a b c n : Nat} : PR m a (b ^^^ c) n = PR m a b n ^^^ PR m a c n := by
  unfold PR
  rw [← XS_xor]
  exact XS_congr fun k _ => by rw [row_xor, Nat.shiftLeft_xor_distrib]
theorem PR_comm {m a b n : Nat} : PR m a b n = PR m b a n := XS_congr fun k _ => by rw [row_comm]
theorem PR_xorL {m a b c n : Nat} : PR m (a ^^^ b) c n = PR m a c n ^^^ PR m b c n := by rw [PR_comm, PR_xor, PR_comm, PR_comm (a := c)]
theorem PR_zero {m b n : Nat} : PR m 0 b n = 0 := by
  unfold PR
  rw [XS_congr (g := fun _ => 0), XS_zero]
  intro k _
  rw [row_zero, Nat.zero_shiftLeft]
theorem PR_self {m a n : Nat} : PR m a a n = XS n fun i => if a.testBit i = true then 2 ^ fst m i else 0 := XS_congr fun k _ => by
  rw [row_self]
  split
  · rw [Nat.shiftLeft_eq, Nat.one_mul]
  · rw [Nat.zero_shiftLeft]
theorem PR_XS {m c n k : Nat} {f : Nat → Nat} : PR m (XS k f) c n = XS k fun i => PR m (f i) c n := by
  induction k with
  | zero => exact PR_zero
  | succ k ih => rw [XS_succ, PR_xorL, ih]; rfl
theorem two_shift {i k : Nat} : 2 ^ i >>> k = if k ≤ i then 2 ^ (i - k) else 0 := by
  rw [Nat.shiftRight_eq_div_pow]
  split
  · rename_i h; rw [Nat.pow_div h (by decide)]
  · rename_i h; rw [Nat.div_eq_of_lt (Nat.pow_lt_pow_right (by decide) (by omega))]
theorem two_odd {i k : Nat} : (2 ^ i >>> k) % 2 = 1 ↔ i = k := by
  rw [two_shift]
  split
  · rename_i h
    by_cases e : i = k
    · subst e; simp
    · obtain ⟨d, hd⟩ : ∃ d, i - k = d + 1 := ⟨i - k - 1, by omega⟩
      rw [hd, Nat.pow_succ]
      simp [e]
  · simp; omega
theorem row_unit {i j k : Nat} (h : i ≤ j) : row (2 ^ i) (2 ^ j) k = if k = i then 2 ^ (j - i) else 0 := by
  unfold row
  have h1 := two_odd (i := i) (k := k)
  have h2 := two_odd (i := j) (k := k)
  by_cases e : k = i
  · subst e
    rw [if_pos (h1.mpr rfl), if_pos rfl]
    by_cases e2 : j = k
    · subst e2; rw [if_pos (h2.mpr rfl), two_shift, if_pos (Nat.le_refl _)]; simp
    · rw [if_neg (fun z => e2 (h2.mp z)), Nat.xor_zero, two_shift, if_pos h]
  · rw [if_neg (fun z => e (h1.mp z).symm), if_neg e]
    by_cases e2 : j = k
    · subst e2
      rw [if_pos (h2.mpr rfl), two_shift, if_neg (by omega)]; rfl
    · rw [if_neg (fun z => e2 (h2.mp z))]; rfl
def pn (many i j : Nat) : Nat := fst many (min i j) + (max i j - min i j)
theorem PR_unit {m i j : Nat} (hi : i < m) (hj : j < m) : PR m (2 ^ i) (2 ^ j) m = 2 ^ pn m i j := by
  have main : ∀ i j, i ≤ j → j < m → PR m (2 ^ i) (2 ^ j) m = 2 ^ (fst m i + (j - i)) := fun i j h hj => by
    unfold PR
    rw [XS_congr (g := fun k => if k = i then 2 ^ (fst m i + (j - i)) else 0), XS_one (by omega)]
    intro k _
    rw [row_unit h]
    split
    · rename_i e; subst e; rw [Nat.shiftLeft_eq, ← Nat.pow_add, Nat.add_comm]
    · rw [Nat.zero_shiftLeft]
  unfold pn
  rcases Nat.le_total i j with h | h
  · rw [main i j h hj, Nat.min_eq_left h, Nat.max_eq_right h]
  · rw [PR_comm, main j i h hi, Nat.min_eq_right h, Nat.max_eq_left h]
/-- the product, bit by bit -/
theorem PR_bits {m a b : Nat} (ha : a < 2 ^ m) (hb : b < 2 ^ m) : PR m a b m = XS m fun i => if a.testBit i = true then XS m (fun j => if b.testBit j = true then 2 ^ pn m i j else 0) else 0 := by
  have h1 : PR m a b m = XS m fun i => PR m (if a.testBit i = true then 2 ^ i else 0) b m := by
    rw [← PR_XS, XS_bits ha]
  rw [h1]
  refine XS_congr fun i hi => ?_
  split
  · have h2 : PR m (2 ^ i) b m = XS m fun j => PR m (2 ^ i) (if b.testBit j = true then 2 ^ j else 0) m := by
      rw [PR_comm, show (fun j => PR m (2 ^ i) (if b.testBit j = true then 2 ^ j else 0) m) = fun j => PR m (if b.testBit j = true then 2 ^ j else 0) (2 ^ i) m from funext fun _ => PR_comm, ← PR_XS, XS_bits hb]
    rw [h2]
    refine XS_congr fun j hj => ?_
    split
    · rw [PR_unit hi hj]
    · rw [PR_comm, PR_zero]
  · exact PR_zero
theorem fst_mono {m a b : Nat} (h : a ≤ b) : fst m a ≤ fst m b := by
  induction b with
  | zero => have : a = 0 := by omega
            subst this; exact Nat.le_refl _
  | succ b ih =>
    by_cases e : a = b + 1
    · subst e; exact Nat.le_refl _
    · exact Nat.le_trans (ih (by omega)) (Nat.le_add_right _ _)
theorem PR_lt {m a b : Nat} (ha : a < 2 ^ m) (hb : b < 2 ^ m) : PR m a b m < 2 ^ fst m m := by
  refine XS_lt fun k hk => ?_
  have h1 := row_lt (i := k) ha hb
  have h2 : fst m (k + 1) ≤ fst m m := fst_mono (by omega)
  have h3 : fst m (k + 1) = fst m k + (m - k) := rfl
  rw [Nat.shiftLeft_eq]
  refine Nat.lt_of_lt_of_le (Nat.mul_lt_mul_of_pos_right h1 (Nat.two_pow_pos _)) ?_
  rw [← Nat.pow_add]
  exact Nat.pow_le_pow_right (by decide) (by omega)

/-! ### the square of a sum in the PROOF -/
def SQ (m w n : Nat) : Nat := XS n fun i => if (w >>> i) % 2 = 1 then (w >>> i) <<< fst m i else 0
theorem shift_lt {m w i : Nat} (hw : w < 2 ^ m) (hi : i ≤ m) : w >>> i < 2 ^ (m - i) := by
  rw [Nat.shiftRight_eq_div_pow, Nat.div_lt_iff_lt_mul (Nat.two_pow_pos i), ← Nat.pow_add]
  rwa [Nat.sub_add_cancel hi]
theorem SQ_lt {m w : Nat} (hw : w < 2 ^ m) : SQ m w m < 2 ^ fst m m := by
  refine XS_lt fun k hk => ?_
  have h2 : fst m (k + 1) ≤ fst m m := fst_mono (by omega)
  have h3 : fst m (k + 1) = fst m k + (m - k) := rfl
  split
  · rw [Nat.shiftLeft_eq]
    refine Nat.lt_of_lt_of_le (Nat.mul_lt_mul_of_pos_right (shift_lt hw (by omega)) (Nat.two_pow_pos _)) ?_
    rw [← Nat.pow_add]
    exact Nat.pow_le_pow_right (by decide) (by omega)
  · exact Nat.two_pow_pos _
theorem SQ_bit {m w i j : Nat} (hw : w < 2 ^ m) (h : i ≤ j) (hj : j < m) : (SQ m w m).testBit (fst m i + (j - i)) = (w.testBit i && w.testBit j) := by
  unfold SQ
  rw [XS_bit i (by omega)]
  · have e : w.testBit i = decide ((w >>> i) % 2 = 1) := by rw [Nat.testBit_eq_decide_div_mod_eq, ← Nat.shiftRight_eq_div_pow]
    by_cases c : (w >>> i) % 2 = 1
    · rw [if_pos c, e, decide_eq_true c, Bool.true_and, Nat.testBit_shiftLeft, decide_eq_true (by omega), Bool.true_and, Nat.testBit_shiftRight]
      congr 1; omega
    · rw [if_neg c, e, decide_eq_false c, Bool.false_and, Nat.zero_testBit]
  · intro k hk hki
    split
    · rw [Nat.testBit_shiftLeft]
      rcases Nat.lt_or_ge k i with c | c
      · have h1 : fst m (k + 1) ≤ fst m i := fst_mono (by omega)
        have h3 : fst m (k + 1) = fst m k + (m - k) := rfl
        have h4 : 2 ^ (m - k) ≤ 2 ^ (fst m i + (j - i) - fst m k) := Nat.pow_le_pow_right (by decide) (by omega)
        rw [Nat.testBit_lt_two_pow (Nat.lt_of_lt_of_le (shift_lt hw (by omega)) h4), Bool.and_false]
      · have h1 : fst m (i + 1) ≤ fst m k := fst_mono (by omega)
        have h3 : fst m (i + 1) = fst m i + (m - i) := rfl
        rw [decide_eq_false (by omega), Bool.false_and]
    · exact Nat.zero_testBit _
theorem pb_XS {n k z : Nat} {f : Nat → Nat} : pb n (XS k f &&& z) = (XS k fun i => (pb n (f i &&& z)).toNat).testBit 0 := by
  induction k with
  | zero => show pb n (0 &&& z) = Nat.testBit 0 0; rw [Nat.zero_and, pb_zero]; rfl
  | succ k ih =>
    rw [XS_succ, XS_succ, Nat.and_xor_distrib_right, pb_xor, ih, Nat.testBit_xor]
    congr 1
    cases pb n (f k &&& z) <;> rfl
theorem pb_two {n p z : Nat} (hp : p < n) : pb n (2 ^ p &&& z) = z.testBit p := by
  have : 2 ^ p &&& z = if z.testBit p = true then 2 ^ p else 0 := by
    apply Nat.eq_of_testBit_eq
    intro i
    rw [Nat.testBit_and, Nat.testBit_two_pow]
    by_cases e : p = i
    · subst e
      cases h : z.testBit p
      · simp
      · simp
    · have : decide (p = i) = false := decide_eq_false e
      rw [this, Bool.false_and]
      split
      · rw [Nat.testBit_two_pow, this]
      · exact (Nat.zero_testBit i).symm
  rw [this]
  cases h : z.testBit p
  · exact pb_zero
  · rw [if_pos rfl]
    have one : ∀ m, pb m (2 ^ p) = decide (p < m) := by
      intro m
      induction m with
      | zero => rfl
      | succ m ih =>
        unfold pb
        rw [ih, Nat.testBit_two_pow]
        by_cases c1 : p < m
        · rw [decide_eq_true c1, decide_eq_false (by omega), decide_eq_true (by omega)]; rfl
        · by_cases c2 : p = m
          · subst c2; simp
          · rw [decide_eq_false c1, decide_eq_false c2, decide_eq_false (by omega)]; rfl
    rw [one, decide_eq_true hp]
end PX
namespace PX
open PM
/-! ### numbers out of bits -/
def bn : Nat → (Nat → Bool) → Nat
  | 0, _ => 0
  | n + 1, u => bn n u + (u n).toNat * 2 ^ n
theorem bn_lt {u : Nat → Bool} : ∀ n, bn n u < 2 ^ n
  | 0 => Nat.two_pow_pos 0
  | n + 1 => by
    have := bn_lt (u := u) n
    show bn n u + (u n).toNat * 2 ^ n < _
    rw [Nat.pow_succ]
    cases u n <;> simp <;> omega
theorem bn_bit {u : Nat → Bool} : ∀ {n i : Nat}, i < n → (bn n u).testBit i = u i
  | n + 1, i, h => by
    show (bn n u + (u n).toNat * 2 ^ n).testBit i = _
    have hl := bn_lt (u := u) n
    cases hu : u n with
    | false =>
      show (bn n u + 0 * 2 ^ n).testBit i = _
      rw [Nat.zero_mul, Nat.add_zero]
      by_cases e : i = n
      · subst e; rw [Nat.testBit_lt_two_pow hl, hu]
      · exact bn_bit (by omega)
    | true =>
      show (bn n u + 1 * 2 ^ n).testBit i = _
      rw [Nat.one_mul]
      by_cases e : i = n
      · subst e; rw [bit_top hl, hu]
      · rw [bit_low (by omega)]; exact bn_bit (by omega)
theorem fst2 {m : Nat} : ∀ k, k ≤ m → 2 * (fst m k : Int) = 2 * ((k : Int) * m) - (k : Int) * ((k : Int) - 1)
  | 0, _ => by show 2 * ((0 : Nat) : Int) = _; simp
  | k + 1, h => by
    have ih := fst2 (m := m) k (by omega)
    have e : ((fst m (k + 1) : Nat) : Int) = (fst m k : Int) + ((m : Int) - k) := by show ((fst m k + (m - k) : Nat) : Int) = _; omega
    rw [e, Int.mul_add, ih, Int.natCast_succ]
    simp only [Int.add_mul, Int.mul_add, Int.mul_sub, Int.sub_mul, Int.one_mul, Int.mul_one]
    omega
theorem fst_eq {m k : Nat} (h : k ≤ m) : (k : Int) * m - ((k : Int) * ((k : Int) - 1)).fdiv 2 = (fst m k : Int) := by
  have h2 := fst2 k h
  rw [Int.fdiv_eq_ediv_of_nonneg _ (by decide)]
  omega
theorem fst_wide {m : Nat} : ((m : Int) * ((m : Int) + 1)).fdiv 2 = (fst m m : Int) := by
  have h2 := fst2 (m := m) m (Nat.le_refl _)
  rw [Int.fdiv_eq_ediv_of_nonneg _ (by decide)]
  rw [Int.mul_sub] at h2
  rw [Int.mul_add]
  omega
theorem fst_le {m : Nat} (h : m ≤ 40) : fst m m ≤ 820 := by
  have h2 := fst2 (m := m) m (Nat.le_refl _)
  have : (m : Int) * m ≤ 40 * m := Int.mul_le_mul_of_nonneg_right (by omega) (by omega)
  rw [Int.mul_sub] at h2
  omega
end PX
namespace PX
open PM
def XB : Nat → (Nat → Bool) → Bool
  | 0, _ => false
  | n + 1, f => XB n f ^^ f n
theorem XB_congr {n : Nat} {f g : Nat → Bool} (h : ∀ k, k < n → f k = g k) : XB n f = XB n g := by
  induction n with
  | zero => rfl
  | succ n ih => unfold XB; rw [ih fun k hk => h k (by omega), h n (by omega)]
theorem XB_and {n : Nat} {c : Bool} {f : Nat → Bool} : XB n (fun i => c && f i) = (c && XB n f) := by
  induction n with
  | zero => cases c <;> rfl
  | succ n ih => unfold XB; rw [ih]; cases c <;> simp
theorem XB_andr {n : Nat} {c : Bool} {f : Nat → Bool} : XB n (fun i => f i && c) = (XB n f && c) := by
  induction n with
  | zero => cases c <;> rfl
  | succ n ih => unfold XB; rw [ih]; cases c <;> simp
theorem pb_XB {n x : Nat} : pb n x = XB n fun i => x.testBit i := by
  induction n with
  | zero => rfl
  | succ n ih => unfold pb XB; rw [ih]
theorem pb_XS2 {n k z : Nat} {f : Nat → Nat} : pb n (XS k f &&& z) = XB k fun i => pb n (f i &&& z) := by
  induction k with
  | zero => show pb n (0 &&& z) = false; rw [Nat.zero_and, pb_zero]
  | succ k ih => rw [XS_succ, Nat.and_xor_distrib_right, pb_xor, ih]; rfl
/-- a product, looked up in the square's table, is the product of both looks -/
theorem product_look {m n a b w : Nat} (ha : a < 2 ^ m) (hb : b < 2 ^ m) (hw : w < 2 ^ m) (hn : fst m m ≤ n) : pb n (PR m a b m &&& SQ m w m) = (pb m (a &&& w) && pb m (b &&& w)) := by
  rw [PR_bits ha hb, pb_XS2]
  have h : ∀ i, i < m → pb n ((if a.testBit i = true then XS m (fun j => if b.testBit j = true then 2 ^ pn m i j else 0) else 0) &&& SQ m w m) = ((a.testBit i && w.testBit i) && pb m (b &&& w)) := fun i hi => by
    by_cases c : a.testBit i = true
    · rw [if_pos c, c, Bool.true_and, pb_XS2, pb_XB, ← XB_and]
      refine XB_congr fun j hj => ?_
      rw [Nat.testBit_and]
      by_cases c2 : b.testBit j = true
      · rw [if_pos c2, c2, Bool.true_and]
        have hp : pn m i j < fst m m := by
          have h3 : fst m (min i j + 1) ≤ fst m m := fst_mono (by omega)
          have h4 : fst m (min i j + 1) = fst m (min i j) + (m - min i j) := rfl
          unfold pn; omega
        rw [pb_two (by omega)]
        unfold pn
        rw [SQ_bit hw (by omega) (by omega)]
        rcases Nat.le_total i j with h | h
        · rw [Nat.min_eq_left h, Nat.max_eq_right h]
        · rw [Nat.min_eq_right h, Nat.max_eq_left h, Bool.and_comm]
      · rw [if_neg c2, Nat.zero_and, pb_zero, Bool.eq_false_iff.mpr c2, Bool.false_and, Bool.and_false]
    · rw [if_neg c, Nat.zero_and, pb_zero, Bool.eq_false_iff.mpr c, Bool.false_and, Bool.false_and]
  rw [XB_congr h, XB_andr]
  congr 1
  rw [pb_XB]
  exact XB_congr fun i _ => by rw [Nat.testBit_and]
end PX

namespace PD
open PySem PySem.Spec PyProof.Rows L2 PM
/-! PT: tables of ints. -/
def tb (n : Nat) (f : Nat → Int) : List D := (List.range n).map fun k => .int (f k)
section
variable {n k : Nat} {f g : Nat → Int}
theorem tb_len : (tb n f).length = n := by unfold tb; rw [List.length_map, List.length_range]
theorem tb_get (h : k < n) : (tb n f)[k]? = some (.int (f k)) := by
  unfold tb; rw [List.getElem?_map, List.getElem?_range h]; rfl
theorem tb_get' {d : D} (h : (tb n f)[k]? = some d) : k < n ∧ d = .int (f k) := by
  have h1 : k < n := by
    obtain ⟨h2, _⟩ := List.getElem?_eq_some_iff.mp h
    rwa [tb_len] at h2
  rw [tb_get h1] at h
  exact ⟨h1, (Option.some.inj h).symm⟩
theorem tb_mem {d : D} (h : d ∈ tb n f) : ∃ k, k < n ∧ d = .int (f k) := by
  unfold tb at h
  obtain ⟨k, h1, h2⟩ := List.mem_map.mp h
  exact ⟨k, List.mem_range.mp h1, h2.symm⟩
theorem tb_congr (h : ∀ k, k < n → f k = g k) : tb n f = tb n g := by
  unfold tb
  exact List.map_congr_left fun k hk => by rw [h k (List.mem_range.mp hk)]
theorem tb_set {v : Int} : (tb n f).set k (.int v) = tb n fun j => if j = k then v else f j := by
  apply List.ext_getElem?
  intro i
  rw [List.getElem?_set]
  by_cases hi : i < n
  · rw [tb_get hi, tb_get hi, tb_len]
    by_cases e : k = i
    · subst e; rw [if_pos rfl, if_pos hi, if_pos rfl]
    · rw [if_neg e, if_neg (Ne.symm e)]
  · have h1 : ∀ f, (tb n f)[i]? = none := fun f => List.getElem?_eq_none (by rw [tb_len]; omega)
    rw [h1, h1, tb_len]
    by_cases e : k = i
    · subst e; rw [if_pos rfl, if_neg hi]
    · rw [if_neg e]
theorem tb_map {h : D → D} {g : Nat → Int} (e : ∀ k, k < n → h (.int (f k)) = .int (g k)) : (tb n f).map h = tb n g := by
  unfold tb
  rw [List.map_map]
  exact List.map_congr_left fun k hk => e k (List.mem_range.mp hk)
theorem tb_ints : intsOf (tb n f) = some ((List.range n).map f) := by
  have : tb n f = ((List.range n).map f).map PyData.int := by unfold tb; rw [List.map_map]; rfl
  rw [this]; exact intsOf_map _
theorem tb_sum : sumD [.list (tb n f)] = some (.int (Sm n f)) := by
  rw [sumD_l, tb_ints, Option.map_some, Sm_list]
theorem tb_enum : enumD (tb n f) = (List.range n).map fun (k : Nat) => .tuple [.int (k : Int), .int (f k)] := by
  apply List.ext_getElem?
  intro i
  unfold enumD
  rw [List.getElem?_mapIdx, List.getElem?_map]
  by_cases hi : i < n
  · rw [tb_get hi, List.getElem?_range hi]; rfl
  · rw [List.getElem?_eq_none (by rw [tb_len]; omega), List.getElem?_eq_none (by rw [List.length_range]; omega)]; rfl
theorem tb_enum_map {h : D → D} (e : ∀ k : Nat, k < n → h (.tuple [.int (k : Int), .int (f k)]) = .int (g k)) : ((List.range n).map fun (k : Nat) => PyData.tuple [.int (k : Int), .int (f k)]).map h = tb n g := by
  unfold tb
  rw [List.map_map]
  exact List.map_congr_left fun k hk => e k (List.mem_range.mp hk)
theorem tb_enum_mem {d : D} (h : d ∈ (List.range n).map fun (k : Nat) => PyData.tuple [.int (k : Int), .int (f k)]) : ∃ k : Nat, k < n ∧ d = .tuple [.int (k : Int), .int (f k)] := by
  obtain ⟨k, h1, h2⟩ := List.mem_map.mp h
  exact ⟨k, List.mem_range.mp h1, h2.symm⟩
theorem tb_range : rangeD 0 n = tb n fun k => k := by
  unfold rangeD tb
  rw [Int.sub_zero, Int.toNat_natCast]
  exact List.map_congr_left fun k _ => by rw [Int.zero_add]
theorem tb_append {v : Int} : tb n f ++ [.int v] = tb (n + 1) (fun j => if j = n then v else f j) := by
  unfold tb
  rw [List.range_succ, List.map_append]
  congr 1
  · exact List.map_congr_left fun k hk => by dsimp only; rw [if_neg]; have := List.mem_range.mp hk; omega
  · simp
theorem tb_at {i : Int} (h : i = k) (hk : k < n) : atD (.tuple (tb n f)) (.int i) = some (.int (f k)) := by
  subst h
  rw [atD_t, tb_len, ixN_nat hk, Option.bind_some, tb_get hk]
theorem tb_atL {i : Int} (h : i = k) (hk : k < n) : atD (.list (tb n f)) (.int i) = some (.int (f k)) := by
  subst h
  rw [atD_l, tb_len, ixN_nat hk, Option.bind_some, tb_get hk]
end
end PD

/-! PR: products of tables, straight tables, by sums. Plain Lean. -/
namespace PM
theorem Sm_prod {n : Nat} : ∀ {m : Nat} {f : Nat → Int}, Sm (n * m) f = Sm m fun y => Sm n fun x => f (x + n * y)
  | 0, f => rfl
  | m + 1, f => by rw [Nat.mul_succ, Sm_split, Sm_prod (m := m), Sm_succ]
theorem bit_pair {a x y i : Nat} (hx : x < 2 ^ a) : (x + 2 ^ a * y).testBit i = if i < a then x.testBit i else y.testBit (i - a) := by
  rw [Nat.add_comm]; exact Nat.testBit_two_pow_mul_add y hx i
theorem sg_pair {a : Nat} : ∀ {b x y r s : Nat}, x < 2 ^ a → r < 2 ^ a → sg (a + b) (x + 2 ^ a * y) (r + 2 ^ a * s) = sg a x r * sg b y s
  | 0, x, y, r, s, hx, hr => by
    show sg a _ _ = sg a x r * 1
    rw [Int.mul_one, sg_low (q' := x) fun i hi => by rw [bit_pair hx, if_pos hi], sg_comm, sg_low (q' := r) fun i hi => by rw [bit_pair hr, if_pos hi], sg_comm]
  | b + 1, x, y, r, s, hx, hr => by
    rw [show a + (b + 1) = (a + b) + 1 from rfl, sg_succ, sg_succ (j := b), sg_pair hx hr, bit_pair hx, bit_pair hr, if_neg (show ¬ a + b < a by omega), if_neg (show ¬ a + b < a by omega), Nat.add_sub_cancel_left, Int.mul_assoc]
theorem pair_lt {a b x y : Nat} (hx : x < 2 ^ a) (hy : y < 2 ^ b) : x + 2 ^ a * y < 2 ^ (a + b) := by
  rw [Nat.pow_add]
  have : 2 ^ a * (y + 1) ≤ 2 ^ a * 2 ^ b := Nat.mul_le_mul_left _ hy
  rw [Nat.mul_succ] at this
  omega
theorem pair_mod {a x y : Nat} (hx : x < 2 ^ a) : (x + 2 ^ a * y) % 2 ^ a = x := by rw [Nat.add_mul_mod_self_left, Nat.mod_eq_of_lt hx]
theorem pair_div {a x y : Nat} (hx : x < 2 ^ a) : (x + 2 ^ a * y) / 2 ^ a = y := by
  rw [Nat.add_mul_div_left _ _ (Nat.two_pow_pos a), Nat.div_eq_of_lt hx, Nat.zero_add]
theorem pair_eta {a k : Nat} : k % 2 ^ a + 2 ^ a * (k / 2 ^ a) = k := Nat.mod_add_div _ _
theorem mod_lt {a k : Nat} : k % 2 ^ a < 2 ^ a := Nat.mod_lt _ (Nat.two_pow_pos a)
theorem div_lt {a b k : Nat} (h : k < 2 ^ (a + b)) : k / 2 ^ a < 2 ^ b := by
  rw [Nat.div_lt_iff_lt_mul (Nat.two_pow_pos a), Nat.mul_comm, ← Nat.pow_add]; exact h
theorem pair_xor {a x y r s : Nat} (hx : x < 2 ^ a) (hr : r < 2 ^ a) : (x + 2 ^ a * y) ^^^ (r + 2 ^ a * s) = (x ^^^ r) + 2 ^ a * (y ^^^ s) := by
  apply Nat.eq_of_testBit_eq
  intro i
  rw [Nat.testBit_xor, bit_pair hx, bit_pair hr, bit_pair (Nat.xor_lt_two_pow hx hr)]
  split
  · rw [Nat.testBit_xor]
  · rw [Nat.testBit_xor]
/-- the table of two parts -/
def two (a : Nat) (g h : Nat → Int) (k : Nat) : Int := g (k % 2 ^ a) * h (k / 2 ^ a)
theorem two_pair {a x y : Nat} {g h : Nat → Int} (hx : x < 2 ^ a) : two a g h (x + 2 ^ a * y) = g x * h y := by
  unfold two; rw [pair_mod hx, pair_div hx]
theorem Sm_two2 {a b : Nat} {f : Nat → Int} {p q : Nat → Int} (hf : ∀ x y, x < 2 ^ a → y < 2 ^ b → f (x + 2 ^ a * y) = p x * q y) : Sm (2 ^ (a + b)) f = Sm (2 ^ a) p * Sm (2 ^ b) q := by
  rw [Nat.pow_add, Sm_prod]
  have : Sm (2 ^ b) (fun y => Sm (2 ^ a) fun x => f (x + 2 ^ a * y)) = Sm (2 ^ b) fun y => Sm (2 ^ a) p * q y := Sm_congr fun y hy => by
    rw [← Sm_mulr]
    exact Sm_congr fun x hx => hf x y hx hy
  rw [this, Sm_mul]
theorem WH_two {a b r : Nat} {g h : Nat → Int} (hr : r < 2 ^ (a + b)) : WH (a + b) (two a g h) r = WH a g (r % 2 ^ a) * WH b h (r / 2 ^ a) := by
  unfold WH
  refine Sm_two2 fun x y hx hy => ?_
  have e : sg (a + b) (x + 2 ^ a * y) r = sg a x (r % 2 ^ a) * sg b y (r / 2 ^ a) := by
    have := sg_pair (b := b) (y := y) (s := r / 2 ^ a) hx (mod_lt (a := a) (k := r))
    rwa [pair_eta] at this
  rw [e, two_pair hx]
  simp only [Int.mul_assoc, Int.mul_comm, Int.mul_left_comm]
theorem AC_two {a b k : Nat} {g h : Nat → Int} (hk : k < 2 ^ (a + b)) : AC (a + b) (two a g h) k = AC a g (k % 2 ^ a) * AC b h (k / 2 ^ a) := by
  unfold AC
  refine Sm_two2 fun x y hx hy => ?_
  have e : (x + 2 ^ a * y) ^^^ k = (x ^^^ (k % 2 ^ a)) + 2 ^ a * (y ^^^ (k / 2 ^ a)) := by
    have := pair_xor (y := y) (s := k / 2 ^ a) hx (mod_lt (a := a) (k := k))
    rwa [pair_eta] at this
  rw [e, two_pair hx, two_pair (Nat.xor_lt_two_pow hx mod_lt)]
  simp only [Int.mul_assoc, Int.mul_comm, Int.mul_left_comm]
/-- how g of a sum agrees with the product -/
def EE (m : Nat) (g : Nat → Int) : Int := Sm (2 ^ m) fun k => g k * AC m g k
theorem EE_two {a b : Nat} {g h : Nat → Int} : EE (a + b) (two a g h) = EE a g * EE b h := by
  unfold EE
  refine Sm_two2 fun x y hx hy => ?_
  rw [two_pair hx, AC_two (pair_lt hx hy), pair_mod hx, pair_div hx]
  simp only [Int.mul_assoc, Int.mul_comm, Int.mul_left_comm]
theorem AC_zero {m : Nat} {g : Nat → Int} (hg : ∀ k, k < 2 ^ m → g k * g k = 1) : AC m g 0 = 2 ^ m := by
  unfold AC
  rw [Sm_congr (g := fun _ => 1) fun k hk => by rw [Nat.xor_zero]; exact hg k hk, Sm_const, Int.mul_one, Int.natCast_pow]; rfl
/-- Parseval -/
theorem parseval {m : Nat} {g : Nat → Int} (hg : ∀ k, k < 2 ^ m → g k * g k = 1) : Sm (2 ^ m) (fun r => WH m g r * WH m g r) = 2 ^ m * 2 ^ m := by
  have := turn_sq (m := m) (k := 0) (g := g) (Nat.two_pow_pos m)
  rw [AC_zero hg] at this
  rw [← this]
  exact Sm_congr fun r _ => by rw [sg_zeroL, Int.one_mul]
theorem Sm_nonneg {n : Nat} {f : Nat → Int} (h : ∀ k, k < n → 0 ≤ f k) : 0 ≤ Sm n f := by
  induction n with
  | zero => exact Int.le_refl _
  | succ n ih => rw [Sm_succ]; have := ih fun k hk => h k (by omega); have := h n (by omega); omega
theorem Sm_le_one {n r : Nat} {f : Nat → Int} (h : ∀ k, k < n → 0 ≤ f k) (hr : r < n) : f r ≤ Sm n f := by
  induction n with
  | zero => omega
  | succ n ih =>
    rw [Sm_succ]
    by_cases e : r = n
    · subst e; have := Sm_nonneg fun k hk => h k (Nat.lt_succ_of_lt hk); omega
    · have := ih (fun k hk => h k (by omega)) (by omega); have := h n (by omega); omega
theorem Sm_at {n r : Nat} {f : Nat → Int} (hr : r < n) : Sm n f = f r + Sm n fun k => if k = r then 0 else f k := by
  have : Sm n f = Sm n fun k => (if k = r then f r else 0) + (if k = r then 0 else f k) := Sm_congr fun k _ => by
    by_cases e : k = r
    · subst e; rw [if_pos rfl, if_pos rfl, Int.add_zero]
    · rw [if_neg e, if_neg e, Int.zero_add]
  rw [this, Sm_add, Sm_one hr]
theorem sq_nonneg (x : Int) : 0 ≤ x * x := by
  rcases Int.le_total 0 x with h | h
  · exact Int.mul_nonneg h h
  · have := Int.mul_nonneg (show 0 ≤ -x by omega) (show 0 ≤ -x by omega)
    rwa [Int.neg_mul_neg] at this
theorem sq_zero {x : Int} (h : x * x = 0) : x = 0 := by
  rcases Int.mul_eq_zero.mp h with h | h <;> exact h
/-- a row that meets all, and no look fails -/
theorem straight_of {m r : Nat} {g : Nat → Int} (hg : ∀ k, k < 2 ^ m → g k * g k = 1) (hr : r < 2 ^ m) (h : WH m g r = 2 ^ m) : EE m g = 2 ^ m * 2 ^ m := by
  have p := parseval hg
  rw [Sm_at hr, h] at p
  have z : Sm (2 ^ m) (fun k => if k = r then 0 else WH m g k * WH m g k) = 0 := by omega
  have each : ∀ k, k < 2 ^ m → k ≠ r → WH m g k = 0 := fun k hk hne => by
    have := Sm_le_one (f := fun k => if k = r then 0 else WH m g k * WH m g k) (fun k _ => by split; exact Int.le_refl _; exact sq_nonneg _) hk
    rw [z] at this
    rw [if_neg hne] at this
    exact sq_zero (Int.le_antisymm this (sq_nonneg _))
  have c := turn_cube (m := m) (g := g)
  rw [Sm_congr (g := fun q => if q = r then 2 ^ m * 2 ^ m * 2 ^ m else 0) fun k hk => by
    by_cases e : k = r
    · subst e; rw [if_pos rfl, h]
    · rw [if_neg e, each k hk e]; rfl, Sm_one hr, Int.mul_assoc] at c
  have pos : (0 : Int) < 2 ^ m := Int.pow_pos (by decide)
  have := Int.eq_of_mul_eq_mul_left (by omega) c
  exact this.symm
/-- no look fails, and the best row meets all -/
theorem best_of {m : Nat} {g : Nat → Int} {T : Int} (hg : ∀ k, k < 2 ^ m → g k * g k = 1) (hT : ∀ r, r < 2 ^ m → WH m g r ≤ T) (h : EE m g = 2 ^ m * 2 ^ m) : 2 ^ m ≤ T := by
  have c := turn_cube (m := m) (g := g)
  have p := parseval hg
  have pos : (0 : Int) < 2 ^ m := Int.pow_pos (by decide)
  have nn : 0 ≤ Sm (2 ^ m) fun r => WH m g r * WH m g r * (T - WH m g r) := Sm_nonneg fun r hr => Int.mul_nonneg (sq_nonneg _) (by have := hT r hr; omega)
  have e : Sm (2 ^ m) (fun r => WH m g r * WH m g r * (T - WH m g r)) = 2 ^ m * 2 ^ m * T - 2 ^ m * (2 ^ m * 2 ^ m) := by
    have h1 : Sm (2 ^ m) (fun r => WH m g r * WH m g r * (T - WH m g r)) = Sm (2 ^ m) (fun r => WH m g r * WH m g r * T) - Sm (2 ^ m) fun r => WH m g r * WH m g r * WH m g r := by
      rw [← Sm_sub]
      exact Sm_congr fun r _ => by rw [Int.mul_sub]
    rw [h1, Sm_mulr, p, c]
    show _ - 2 ^ m * EE m g = _
    rw [h]
  rw [e, ← Int.mul_assoc, ← Int.mul_sub] at nn
  have pp : (0 : Int) < 2 ^ m * 2 ^ m := Int.mul_pos pos pos
  have : 0 ≤ T - 2 ^ m := by
    rcases Int.lt_or_le (T - 2 ^ m) 0 with c | c
    · have := Int.mul_neg_of_pos_of_neg pp c; omega
    · exact c
  omega
/-- a product lies under the greatest of its corners -/
theorem corner {x y x1 x2 y1 y2 M : Int} (hx1 : x1 ≤ x) (hx2 : x ≤ x2) (hy1 : y1 ≤ y) (hy2 : y ≤ y2) (h1 : x2 * y2 ≤ M) (h2 : x1 * y2 ≤ M) (h3 : x2 * y1 ≤ M) (h4 : x1 * y1 ≤ M) : x * y ≤ M := by
  have side : ∀ z, z * y2 ≤ M → z * y1 ≤ M → z * y ≤ M := fun z a b => by
    rcases Int.le_total 0 z with h | h
    · exact Int.le_trans (Int.mul_le_mul_of_nonneg_left hy2 h) a
    · exact Int.le_trans (Int.mul_le_mul_of_nonpos_left h hy1) b
  rcases Int.le_total 0 y with h | h
  · exact Int.le_trans (Int.mul_le_mul_of_nonneg_right hx2 h) (side x2 h1 h3)
  · exact Int.le_trans (Int.mul_le_mul_of_nonpos_right hx1 h) (side x1 h2 h4)
end PM

namespace Toy
open PySem PySem.Spec PyProof.Rows L2 PD
/-! ### the text, the mirrors -/
def topS (i : Nat) : Stmt := PySem.Challenge.pw_twoshown_k47_main_tables_of_two_parts.main.body.getD i (.Pass ⟨0, 0, 0, 0⟩)
def wFuel : Nat := 1000000
abbrev s__law_cells : Stmt := topS 38
abbrev N__law_cells : List Str := ["script", "most_so", "cells_so", "k", "bit_so", "at_so"]
theorem sc__law_cells : FnScope N__law_cells ["script", "most_so"] (defScope s__law_cells) := ⟨rfl, rfl, rfl, by decide +kernel, rfl, by decide +kernel, by decide +kernel⟩
def b__law_cells : MS :=
  sSeq (sSetL 2 (lOr (lFn listD (oCons (oVal (eFrz (lCut (oName 0) (mNoPart) (mPart (eName 1))))) (oNil))) (lLst (aCons (eC (.int 0)) (aNil)))))
    (sSeq (sFor (iEnumD (eFrz (lCut (oName 0) (mPart (eName 1)) (mPart (eC (.int 63)))))) (gT 2 (gsCons (gN 3) (gsCons (gN 4) (gsNil)))) (sSeq (sSetV 5 (eBin fMod (oVal (eFn intD (oCons (oName 3) (oNil)))) (oName 1)))
    (sAsg (gIx 2 (eName 5)) (eBin fAdd (oVal (eBin atD (oName 2) (oName 5))) (oVal (eBin fMul (oName 4) (oVal (eBin fAdd (oName 3) (oVal (eC (.int 2)))))))))))
    (sRetName 2))
def F__law_cells := mkP 2 6 b__law_cells
abbrev s__law_take : Stmt := topS 37
abbrev N__law_take : List Str := ["tin", "below_so", "drawn_so", "once_so", "wide_so", "twice_so"]
theorem sc__law_take : FnScope N__law_take ["tin", "below_so"] (defScope s__law_take) := ⟨rfl, rfl, rfl, by decide +kernel, rfl, by decide +kernel, by decide +kernel⟩
def b__law_take : MS :=
  sSeq (sIf (tOf (eBin fGt (oVal (eBin atD (oName 0) (oVal (eC (.int 0))))) (oVal (eC (.int 0))))) (sSeq (sSetV 2 (eBin fMod (oVal (eFn intD (oCons (oVal (eBin atD (oName 0) (oVal (eC (.int 0))))) (oNil)))) (oName 1)))
    (sSeq (sAsg (gIx 0 (eC (.int 0))) (eBin fDiv (oVal (eBin atD (oName 0) (oVal (eC (.int 0))))) (oName 1)))
    (sRetName 2))) (sSkip))
    (sSeq (sAsg (gIx 0 (eC (.int 2))) (eBin fAdd (oVal (eBin atD (oName 0) (oVal (eC (.int 2))))) (oVal (eC (.int 1)))))
    (sSeq (sSetV 3 (eBin fMod (oVal (eFn intD (oCons (oVal (eBin fMul (oVal (eBin fAdd (oVal (eBin atD (oName 0) (oVal (eC (.int 1))))) (oVal (eBin fMul (oVal (eC (.int 48271))) (oVal (eBin atD (oName 0) (oVal (eC (.int 2))))))))) (oVal (eBin fAdd (oVal (eC (.int 39373))) (oVal (eBin atD (oName 0) (oVal (eC (.int 2))))))))) (oNil)))) (oVal (eC (.int 2147483647)))))
    (sSeq (sSetV 4 (eBin fAdd (oVal (eBin fMod (oVal (eFn intD (oCons (oName 3) (oNil)))) (oVal (eC (.int 40009))))) (oVal (eC (.int 7)))))
    (sSeq (sSetV 5 (eBin fMod (oVal (eFn intD (oCons (oVal (eBin fMul (oVal (eBin fAdd (oVal (eBin fAdd (oName 3) (oVal (eBin atD (oName 0) (oVal (eC (.int 2))))))) (oVal (eBin fDiv (oVal (eBin atD (oName 0) (oVal (eC (.int 1))))) (oVal (eC (.int 1000003))))))) (oName 4))) (oNil)))) (oVal (eC (.int 2147483629)))))
    (sRetV (eBin fMod (oVal (eFn intD (oCons (oVal (eBin fDiv (oVal (eBin fMod (oVal (eFn intD (oCons (oVal (eBin fAdd (oVal (eBin fMul (oName 5) (oVal (eC (.int 48271))))) (oName 3))) (oNil)))) (oVal (eC (.int 2147483587))))) (oVal (eC (.int 64))))) (oNil)))) (oName 1)))))))
def F__law_take := mkB 2 6 b__law_take
abbrev s__law_odd : Stmt := topS 42
abbrev N__law_odd : List Str := ["number_so", "found", "lap"]
theorem sc__law_odd : FnScope N__law_odd ["number_so"] (defScope s__law_odd) := ⟨rfl, rfl, rfl, by decide +kernel, rfl, by decide +kernel, by decide +kernel⟩
def b__law_odd : MS :=
  sSeq (sSetV 1 (eC (.int 0)))
    (sSeq (sFor (iRange1 (oCons (oVal (eC (.int 900))) (oNil))) (gN 2) (sSeq (sIf (tOf (eBin fEq (oName 0) (oVal (eC (.int 0))))) (mret .bk) (sSkip))
    (sPar 1 0 (aCons (eBin fAdd (oName 1) (oVal (eBin fMod (oVal (eFn intD (oCons (oName 0) (oNil)))) (oVal (eC (.int 2)))))) (aCons (eBin fDiv (oName 0) (oVal (eC (.int 2)))) (aNil))))))
    (sRetV (eBin fMod (oVal (eFn intD (oCons (oName 1) (oNil)))) (oVal (eC (.int 2))))))
def F__law_odd := mkP 1 3 b__law_odd
abbrev s__law_near : Stmt := topS 43
abbrev N__law_near : List Str := ["tin", "many_so", "size_so", "row_so", "k", "found", "lap", "own"]
theorem sc__law_near : FnScope N__law_near ["tin", "many_so"] (defScope s__law_near) := ⟨rfl, rfl, rfl, by decide +kernel, rfl, by decide +kernel, by decide +kernel⟩
def b__law_near : MS :=
  sSeq (sAsg (gT 2 (gsCons (gN 2) (gsCons (gN 3) (gsNil)))) (eTup (aCons (eBin fShl (oVal (eC (.int 1))) (oName 1)) (aCons (eSV (mCallB F__law_take 0 (aCons (eBin fShl (oVal (eC (.int 1))) (oName 1)) (aNil)))) (aNil)))))
    (sSeq (sSetL 5 (lComp (iRange1 (oCons (oName 2) (oNil))) (gN 4) (mret true) (eSV (mCall F__law_odd (aCons (eBin fAnd (oName 4) (oName 3)) (aNil)))) [4]))
    (sSeq (sIf (tOf (eBin fEq (oVal (eSV (mCallB F__law_take 0 (aCons (eC (.int 3)) (aNil))))) (oVal (eC (.int 0))))) (sRetV (eFn tupleD (oCons (oVal (eFrz (lComp (iRange1 (oCons (oName 2) (oNil))) (gN 4) (mret true) (eSV (mCallB F__law_take 0 (aCons (eC (.int 2)) (aNil)))) [4]))) (oNil)))) (sSkip))
    (sSeq (sFor (iRange1 (oCons (oVal (eSV (mCallB F__law_take 0 (aCons (eC (.int 4)) (aNil))))) (oNil))) (gN 6) (sSeq (sSetS 4 (mCallB F__law_take 0 (aCons (eName 2) (aNil))))
    (sAsg (gIx 5 (eName 4)) (eBin fSub (oVal (eC (.int 1))) (oVal (eBin atD (oName 5) (oName 4)))))))
    (sRetV (eFn tupleD (oCons (oVal (eFrz (lComp (iAny (eName 5)) (gN 7) (mret true) (eFn intD (oCons (oName 7) (oNil))) [7]))) (oNil)))))))
def F__law_near := mkB 2 8 b__law_near
abbrev s_sums_in : Stmt := topS 16
abbrev N_sums_in : List Str := ["table", "found", "wide", "first", "place", "near", "far", "own"]
theorem sc_sums_in : FnScope N_sums_in ["table"] (defScope s_sums_in) := ⟨rfl, rfl, rfl, by decide +kernel, rfl, by decide +kernel, by decide +kernel⟩
def b_sums_in : MS :=
  sSeq (sParL 1 2 (lComp (iAny (eName 0)) (gN 7) (mret true) (eBin fSub (oVal (eC (.int 1))) (oVal (eBin fMul (oVal (eC (.int 2))) (oName 7)))) [7]) (eC (.int 1)))
    (sSeq (whileN wFuel (tOf (eBin fLt (oName 2) (oVal (eFn lenD (oCons (oName 1) (oNil)))))) (sSeq (sFor (iRange3 (oCons (oVal (eC (.int 0))) (oCons (oVal (eFn lenD (oCons (oName 1) (oNil)))) (oCons (oVal (eBin fMul (oVal (eC (.int 2))) (oName 2))) (oNil))))) (gN 3) (sFor (iRange2 (oCons (oName 3) (oCons (oVal (eBin fAdd (oName 3) (oName 2))) (oNil)))) (gN 4) (sSeq (sPar 5 6 (aCons (eBin atD (oName 1) (oName 4)) (aCons (eBin atD (oName 1) (oVal (eBin fAdd (oName 4) (oName 2)))) (aNil))))
    (sAsg (gT 2 (gsCons (gIx 1 (eName 4)) (gsCons (gIx 1 (eBin fAdd (oName 4) (oName 2))) (gsNil)))) (eTup (aCons (eBin fAdd (oName 5) (oName 6)) (aCons (eBin fSub (oName 5) (oName 6)) (aNil))))))))
    (sAug fMul 2 (oVal (eC (.int 2))))))
    (sRetName 1))
def F_sums_in := mkP 1 8 b_sums_in
abbrev s_tupled : Stmt := topS 7
abbrev N_tupled : List Str := ["value", "own"]
theorem sc_tupled : FnScope N_tupled ["value"] (defScope s_tupled) := ⟨rfl, rfl, rfl, by decide +kernel, rfl, by decide +kernel, by decide +kernel⟩
def b_tupled (rec : List D → Option SV) : MS :=
  sRetV (eIf (tOf (eIsi ["list", "tuple"] (oName 0))) (eFn tupleD (oCons (oVal (eFrz (lComp (iAny (eName 0)) (gN 1) (mret true) (eSV (mCall rec (aCons (eName 1) (aNil)))) [1]))) (oNil))) (eName 0))
def R_tupled : Nat → List D → Option SV
  | 0 => fun _ => none
  | n + 1 => mkP 1 2 (b_tupled (R_tupled n))
def F_tupled : List D → Option SV := R_tupled 30
abbrev s_is_number : Stmt := topS 3
abbrev N_is_number : List Str := ["thing"]
theorem sc_is_number : FnScope N_is_number ["thing"] (defScope s_is_number) := ⟨rfl, rfl, rfl, by decide +kernel, rfl, by decide +kernel, by decide +kernel⟩
def b_is_number : MS :=
  sRetV (eAnd (eIsi ["int"] (oName 0)) (eNot (eIsi ["bool"] (oName 0))))
def F_is_number := mkP 1 1 b_is_number
abbrev s_is_within : Stmt := topS 5
abbrev N_is_within : List Str := ["thing", "least", "most"]
theorem sc_is_within : FnScope N_is_within ["thing", "least", "most"] (defScope s_is_within) := ⟨rfl, rfl, rfl, by decide +kernel, rfl, by decide +kernel, by decide +kernel⟩
def b_is_within : MS :=
  sRetV (eAnd (eSV (mCall F_is_number (aCons (eName 0) (aNil)))) (eChain fLe fLe (oName 1) (oName 0) (oName 2)))
def F_is_within := mkP 3 3 b_is_within
abbrev s_is_bit : Stmt := topS 9
abbrev N_is_bit : List Str := ["thing"]
theorem sc_is_bit : FnScope N_is_bit ["thing"] (defScope s_is_bit) := ⟨rfl, rfl, rfl, by decide +kernel, rfl, by decide +kernel, by decide +kernel⟩
def b_is_bit : MS :=
  sRetS (mCall F_is_within (aCons (eName 0) (aCons (eC (.int 0)) (aCons (eC (.int 1)) (aNil)))))
def F_is_bit := mkP 1 1 b_is_bit
abbrev s_length_of : Stmt := topS 13
abbrev N_length_of : List Str := ["thing", "found", "own"]
theorem sc_length_of : FnScope N_length_of ["thing"] (defScope s_length_of) := ⟨rfl, rfl, rfl, by decide +kernel, rfl, by decide +kernel, by decide +kernel⟩
def b_length_of : MS :=
  sSeq (sIf (mOr (mNot (tOf (eIsi ["tuple"] (oName 0)))) (mNot (tOf (eFn allD (oCons (oVal (eFrz (lComp (iAny (eName 0)) (gN 2) (mret true) (eSV (mCall F_is_bit (aCons (eName 2) (aNil)))) [2]))) (oNil)))))) (sRetV (eC .none)) (sSkip))
    (sSeq (sSetV 1 (eC (.int 0)))
    (sSeq (whileN wFuel (mAnd (tOf (eBin fLt (oVal (eBin fShl (oVal (eC (.int 1))) (oName 1))) (oVal (eFn lenD (oCons (oName 0) (oNil)))))) (tOf (eBin fLt (oName 1) (oVal (eC (.int 12)))))) (sAug fAddI 1 (oVal (eC (.int 1)))))
    (sRetV (eIf (tOf (eBin fEq (oVal (eBin fShl (oVal (eC (.int 1))) (oName 1))) (oVal (eFn lenD (oCons (oName 0) (oNil)))))) (eName 1) (eC .none)))))
def F_length_of := mkP 1 3 b_length_of
abbrev s_is_full : Stmt := topS 14
abbrev N_is_full : List Str := ["thing"]
theorem sc_is_full : FnScope N_is_full ["thing"] (defScope s_is_full) := ⟨rfl, rfl, rfl, by decide +kernel, rfl, by decide +kernel, by decide +kernel⟩
def b_is_full : MS :=
  sRetV (eBin fNotN (oVal (eSV (mCall F_length_of (aCons (eName 0) (aNil))))) (oVal (eC .none)))
def F_is_full := mkP 1 1 b_is_full
abbrev s_sure_full : Stmt := topS 15
abbrev N_sure_full : List Str := ["value", "own"]
theorem sc_sure_full : FnScope N_sure_full ["value"] (defScope s_sure_full) := ⟨rfl, rfl, rfl, by decide +kernel, rfl, by decide +kernel, by decide +kernel⟩
def b_sure_full : MS :=
  sSeq (sSetS 1 (mCall F_tupled (aCons (eName 0) (aNil))))
    (sSeq (sIf (mNot (tOf (eSV (mCall F_is_full (aCons (eName 1) (aNil)))))) (sNever) (sSkip))
    (sRetName 1))
def F_sure_full := mkP 1 2 b_sure_full
abbrev s_turned_sums : Stmt := topS 17
abbrev N_turned_sums : List Str := ["table"]
theorem sc_turned_sums : FnScope N_turned_sums ["table"] (defScope s_turned_sums) := ⟨rfl, rfl, rfl, by decide +kernel, rfl, by decide +kernel, by decide +kernel⟩
def b_turned_sums : MS :=
  sRetS (mCall F_sums_in (aCons (eSV (mCall F_sure_full (aCons (eName 0) (aNil)))) (aNil)))
def F_turned_sums := mkP 1 1 b_turned_sums
abbrev s__law_same : Stmt := topS 41
abbrev N__law_same : List Str := ["got", "due", "mine", "its"]
theorem sc__law_same : FnScope N__law_same ["got", "due"] (defScope s__law_same) := ⟨rfl, rfl, rfl, by decide +kernel, rfl, by decide +kernel, by decide +kernel⟩
def b__law_same (rec : List D → Option SV) : MS :=
  sSeq (sIf (tOf (eIsi ["list", "tuple"] (oName 1))) (sSeq (sIf (mOr (tOf (eBin fNe (oVal (eIsi ["list"] (oName 0))) (oVal (eIsi ["list"] (oName 1))))) (tOf (eBin fNe (oVal (eIsi ["tuple"] (oName 0))) (oVal (eIsi ["tuple"] (oName 1)))))) (sRetV (eC (.bool false))) (sSkip))
    (sRetV (eAnd (eBin fEq (oVal (eFn lenD (oCons (oName 0) (oNil)))) (oVal (eFn lenD (oCons (oName 1) (oNil))))) (eFn allD (oCons (oVal (eFrz (lComp (iZipD (eName 0) (eName 1)) (gT 2 (gsCons (gN 2) (gsCons (gN 3) (gsNil)))) (mret true) (eSV (mCall rec (aCons (eName 2) (aCons (eName 3) (aNil))))) [2, 3]))) (oNil)))))) (sSkip))
    (sSeq (sIf (tOf (eBin fIsN (oName 1) (oVal (eC .none)))) (sRetV (eBin fIsN (oName 0) (oVal (eC .none)))) (sSkip))
    (sSeq (sIf (tOf (eIsi ["bool", "str"] (oName 1))) (sRetV (eAnd (eBin fEq (oVal (eIsi ["bool"] (oName 0))) (oVal (eIsi ["bool"] (oName 1)))) (eAnd (eBin fEq (oVal (eIsi ["str"] (oName 0))) (oVal (eIsi ["str"] (oName 1)))) (eBin fEq (oName 0) (oName 1))))) (sSkip))
    (sRetV (eAnd (eIsi ["int"] (oName 0)) (eAnd (eNot (eIsi ["bool"] (oName 0))) (eBin fEq (oName 0) (oName 1)))))))
def R__law_same : Nat → List D → Option SV
  | 0 => fun _ => none
  | n + 1 => mkP 2 4 (b__law_same (R__law_same n))
def F__law_same : List D → Option SV := R__law_same 30
abbrev s_is_straight : Stmt := topS 18
abbrev N_is_straight : List Str := ["table", "own"]
theorem sc_is_straight : FnScope N_is_straight ["table"] (defScope s_is_straight) := ⟨rfl, rfl, rfl, by decide +kernel, rfl, by decide +kernel, by decide +kernel⟩
def b_is_straight : MS :=
  sSeq (sSetS 1 (mCall F_sure_full (aCons (eName 0) (aNil))))
    (sRetV (eBin fEq (oVal (eFn maxD (oCons (oVal (eSV (mCall F_sums_in (aCons (eName 1) (aNil))))) (oNil)))) (oVal (eFn lenD (oCons (oName 1) (oNil))))))
def F_is_straight := mkP 1 2 b_is_straight
abbrev s_unlike_shifted_in : Stmt := topS 22
abbrev N_unlike_shifted_in : List Str := ["table", "squares", "wide", "lap", "first", "place", "near", "far", "own"]
theorem sc_unlike_shifted_in : FnScope N_unlike_shifted_in ["table"] (defScope s_unlike_shifted_in) := ⟨rfl, rfl, rfl, by decide +kernel, rfl, by decide +kernel, by decide +kernel⟩
def b_unlike_shifted_in : MS :=
  sSeq (sParL 1 2 (lComp (iAny (eSV (mCall F_sums_in (aCons (eName 0) (aNil))))) (gN 8) (mret true) (eBin fMul (oName 8) (oName 8)) [8]) (eFn lenD (oCons (oName 0) (oNil))))
    (sSeq (sSetV 3 (eC (.int 1)))
    (sSeq (whileN wFuel (tOf (eBin fLt (oName 3) (oName 2))) (sSeq (sFor (iRange3 (oCons (oVal (eC (.int 0))) (oCons (oName 2) (oCons (oVal (eBin fMul (oVal (eC (.int 2))) (oName 3))) (oNil))))) (gN 4) (sFor (iRange2 (oCons (oName 4) (oCons (oVal (eBin fAdd (oName 4) (oName 3))) (oNil)))) (gN 5) (sSeq (sPar 6 7 (aCons (eBin atD (oName 1) (oName 5)) (aCons (eBin atD (oName 1) (oVal (eBin fAdd (oName 5) (oName 3)))) (aNil))))
    (sAsg (gT 2 (gsCons (gIx 1 (eName 5)) (gsCons (gIx 1 (eBin fAdd (oName 5) (oName 3))) (gsNil)))) (eTup (aCons (eBin fAdd (oName 6) (oName 7)) (aCons (eBin fSub (oName 6) (oName 7)) (aNil))))))))
    (sAug fMul 3 (oVal (eC (.int 2))))))
    (sRetL (lComp (iAny (eName 1)) (gN 8) (mret true) (eBin fDiv (oVal (eBin fSub (oName 2) (oVal (eBin fDiv (oName 8) (oName 2))))) (oVal (eC (.int 2)))) [8]))))
def F_unlike_shifted_in := mkP 1 9 b_unlike_shifted_in
abbrev s_unlike_shifted : Stmt := topS 23
abbrev N_unlike_shifted : List Str := ["table"]
theorem sc_unlike_shifted : FnScope N_unlike_shifted ["table"] (defScope s_unlike_shifted) := ⟨rfl, rfl, rfl, by decide +kernel, rfl, by decide +kernel, by decide +kernel⟩
def b_unlike_shifted : MS :=
  sRetS (mCall F_unlike_shifted_in (aCons (eSV (mCall F_sure_full (aCons (eName 0) (aNil)))) (aNil)))
def F_unlike_shifted := mkP 1 1 b_unlike_shifted
abbrev s_nearest_rows : Stmt := topS 19
abbrev N_nearest_rows : List Str := ["table", "sums", "best", "row", "own"]
theorem sc_nearest_rows : FnScope N_nearest_rows ["table"] (defScope s_nearest_rows) := ⟨rfl, rfl, rfl, by decide +kernel, rfl, by decide +kernel, by decide +kernel⟩
def b_nearest_rows : MS :=
  sSeq (sSetS 1 (mCall F_turned_sums (aCons (eName 0) (aNil))))
    (sSeq (sSetV 2 (eFn maxD (oCons (oName 1) (oNil))))
    (sRetL (lComp (iEnumD (eName 1)) (gT 2 (gsCons (gN 3) (gsCons (gN 4) (gsNil)))) (tOf (eBin fEq (oName 4) (oName 2))) (eName 3) [3, 4])))
def F_nearest_rows := mkP 1 5 b_nearest_rows
abbrev s__law_mixed : Stmt := topS 40
abbrev N__law_mixed : List Str := ["tin", "matter", "row_so", "bit"]
theorem sc__law_mixed : FnScope N__law_mixed ["tin", "matter"] (defScope s__law_mixed) := ⟨rfl, rfl, rfl, by decide +kernel, rfl, by decide +kernel, by decide +kernel⟩
def b__law_mixed (rec : Cel → List D → Option (SV × Cel)) : MS :=
  sSeq (sIf (mNot (tOf (eIsi ["list", "tuple"] (oName 1)))) (sRetName 1) (sSkip))
    (sSeq (sSetL 2 (lComp (iAny (eName 1)) (gN 3) (mret true) (eSV (mCallB rec 0 (aCons (eName 3) (aNil)))) [3]))
    (sRetV (eIf (tOf (eBin fEq (oVal (eSV (mCallB F__law_take 0 (aCons (eC (.int 2)) (aNil))))) (oVal (eC (.int 0))))) (eName 2) (eFn tupleD (oCons (oName 2) (oNil))))))
def R__law_mixed : Nat → Cel → List D → Option (SV × Cel)
  | 0 => fun _ _ => none
  | n + 1 => mkB 2 4 (b__law_mixed (R__law_mixed n))
def F__law_mixed : Cel → List D → Option (SV × Cel) := R__law_mixed 30
abbrev s_straight_fails_in : Stmt := topS 20
abbrev N_straight_fails_in : List Str := ["table", "wide", "own"]
theorem sc_straight_fails_in : FnScope N_straight_fails_in ["table"] (defScope s_straight_fails_in) := ⟨rfl, rfl, rfl, by decide +kernel, rfl, by decide +kernel, by decide +kernel⟩
def b_straight_fails_in : MS :=
  sSeq (sSetV 1 (eFn lenD (oCons (oName 0) (oNil))))
    (sRetV (eBin fDiv (oVal (eBin fSub (oVal (eBin fMul (oName 1) (oName 1))) (oVal (eBin fDiv (oVal (eFn sumD (oCons (oVal (eFrz (lComp (iAny (eSV (mCall F_sums_in (aCons (eName 0) (aNil))))) (gN 2) (mret true) (eBin fMul (oVal (eBin fMul (oName 2) (oName 2))) (oName 2)) [2]))) (oNil)))) (oName 1))))) (oVal (eC (.int 2)))))
def F_straight_fails_in := mkP 1 3 b_straight_fails_in
abbrev s_straight_fails : Stmt := topS 21
abbrev N_straight_fails : List Str := ["table"]
theorem sc_straight_fails : FnScope N_straight_fails ["table"] (defScope s_straight_fails) := ⟨rfl, rfl, rfl, by decide +kernel, rfl, by decide +kernel, by decide +kernel⟩
def b_straight_fails : MS :=
  sRetS (mCall F_straight_fails_in (aCons (eSV (mCall F_sure_full (aCons (eName 0) (aNil)))) (aNil)))
def F_straight_fails := mkP 1 1 b_straight_fails
abbrev s__law_fails : Stmt := topS 44
abbrev N__law_fails : List Str := ["table_so", "total_so", "one", "k"]
theorem sc__law_fails : FnScope N__law_fails ["table_so"] (defScope s__law_fails) := ⟨rfl, rfl, rfl, by decide +kernel, rfl, by decide +kernel, by decide +kernel⟩
def b__law_fails : MS :=
  sSeq (sSetV 1 (eC (.int 0)))
    (sSeq (sFor (iRange1 (oCons (oVal (eFn lenD (oCons (oName 0) (oNil)))) (oNil))) (gN 2) (sSetV 1 (eBin fAdd (oName 1) (oVal (eFn lenD (oCons (oVal (eFrz (lComp (iRange1 (oCons (oVal (eFn lenD (oCons (oName 0) (oNil)))) (oNil))) (gN 3) (tOf (eBin fNe (oVal (eBin fXor (oVal (eBin atD (oName 0) (oName 2))) (oVal (eBin atD (oName 0) (oName 3))))) (oVal (eBin atD (oName 0) (oVal (eBin fXor (oName 2) (oName 3))))))) (eName 3) [3]))) (oNil)))))))
    (sRetName 1))
def F__law_fails := mkP 1 4 b__law_fails
abbrev s__law_pick : Stmt := topS 39
abbrev N__law_pick : List Str := ["tin", "goods_so", "count_so", "pool_so", "found", "lap"]
theorem sc__law_pick : FnScope N__law_pick ["tin", "goods_so", "count_so"] (defScope s__law_pick) := ⟨rfl, rfl, rfl, by decide +kernel, rfl, by decide +kernel, by decide +kernel⟩
def b__law_pick : MS :=
  sSeq (sParLL 3 4 (lFn listD (oCons (oName 1) (oNil))) (lLst (aNil)))
    (sSeq (sFor (iRange1 (oCons (oVal (eFn minD (oCons (oVal (eFn intD (oCons (oName 2) (oNil)))) (oCons (oVal (eFn lenD (oCons (oName 3) (oNil)))) (oNil))))) (oNil))) (gN 5) (sExpr (eMut appendD 4 (aCons (eMut popAtD 3 (aCons (eSV (mCallB F__law_take 0 (aCons (eFn lenD (oCons (oName 3) (oNil))) (aNil)))) (aNil))) (aNil)))))
    (sRetName 4))
def F__law_pick := mkB 3 6 b__law_pick
abbrev s_odd : Stmt := topS 10
abbrev N_odd : List Str := ["number", "found", "shift"]
theorem sc_odd : FnScope N_odd ["number"] (defScope s_odd) := ⟨rfl, rfl, rfl, by decide +kernel, rfl, by decide +kernel, by decide +kernel⟩
def b_odd : MS :=
  sSeq (sSetV 1 (eName 0))
    (sSeq (sFor (iAny (eTup (aCons (eC (.int 512)) (aCons (eC (.int 256)) (aCons (eC (.int 128)) (aCons (eC (.int 64)) (aCons (eC (.int 32)) (aCons (eC (.int 16)) (aCons (eC (.int 8)) (aCons (eC (.int 4)) (aCons (eC (.int 2)) (aCons (eC (.int 1)) (aNil))))))))))))) (gN 2) (sAug fXor 1 (oVal (eBin fShr (oName 1) (oName 2)))))
    (sRetV (eBin fAnd (oName 1) (oVal (eC (.int 1))))))
def F_odd := mkP 1 3 b_odd
abbrev s_ones_in : Stmt := topS 33
abbrev N_ones_in : List Str := ["table", "straight", "place"]
theorem sc_ones_in : FnScope N_ones_in ["table"] (defScope s_ones_in) := ⟨rfl, rfl, rfl, by decide +kernel, rfl, by decide +kernel, by decide +kernel⟩
def b_ones_in : MS :=
  sSeq (sSetV 1 (eIf (tOf (eBin fNe (oVal (eBin atD (oName 0) (oVal (eC (.int 1))))) (oVal (eC (.int 0))))) (eBin fShl (oVal (eC (.int 1))) (oVal (eBin fSub (oVal (eBin atD (oName 0) (oVal (eC (.int 0))))) (oVal (eC (.int 1)))))) (eC (.int 0))))
    (sRetV (eBin fAdd (oName 1) (oVal (eFn sumD (oCons (oVal (eFrz (lComp (iAny (eBin atD (oName 0) (oVal (eC (.int 2))))) (gN 2) (mret true) (eBin fSub (oVal (eC (.int 1))) (oVal (eBin fMul (oVal (eC (.int 2))) (oVal (eSV (mCall F_odd (aCons (eBin fAnd (oVal (eBin atD (oName 0) (oVal (eC (.int 1))))) (oName 2)) (aNil)))))))) [2]))) (oNil))))))
def F_ones_in := mkP 1 3 b_ones_in
abbrev s_ascends : Stmt := topS 8
abbrev N_ascends : List Str := ["row", "k"]
theorem sc_ascends : FnScope N_ascends ["row"] (defScope s_ascends) := ⟨rfl, rfl, rfl, by decide +kernel, rfl, by decide +kernel, by decide +kernel⟩
def b_ascends : MS :=
  sRetV (eFn allD (oCons (oVal (eFrz (lComp (iRange1 (oCons (oVal (eBin fSub (oVal (eFn lenD (oCons (oName 0) (oNil)))) (oVal (eC (.int 1))))) (oNil))) (gN 1) (mret true) (eBin fLt (oVal (eBin atD (oName 0) (oName 1))) (oVal (eBin atD (oName 0) (oVal (eBin fAdd (oName 1) (oVal (eC (.int 1)))))))) [1]))) (oNil)))
def F_ascends := mkP 1 2 b_ascends
abbrev s_is_long : Stmt := topS 6
abbrev N_is_long : List Str := ["thing", "length"]
theorem sc_is_long : FnScope N_is_long ["thing", "length"] (defScope s_is_long) := ⟨rfl, rfl, rfl, by decide +kernel, rfl, by decide +kernel, by decide +kernel⟩
def b_is_long : MS :=
  sRetV (eAnd (eIsi ["tuple"] (oName 0)) (eBin fEq (oVal (eFn lenD (oCons (oName 0) (oNil)))) (oName 1)))
def F_is_long := mkP 2 2 b_is_long
abbrev s_is_from : Stmt := topS 4
abbrev N_is_from : List Str := ["thing", "least"]
theorem sc_is_from : FnScope N_is_from ["thing", "least"] (defScope s_is_from) := ⟨rfl, rfl, rfl, by decide +kernel, rfl, by decide +kernel, by decide +kernel⟩
def b_is_from : MS :=
  sRetV (eAnd (eSV (mCall F_is_number (aCons (eName 0) (aNil)))) (eBin fGe (oName 0) (oName 1)))
def F_is_from := mkP 2 2 b_is_from
abbrev s_is_told : Stmt := topS 27
abbrev N_is_told : List Str := ["thing", "many", "row", "changes", "own"]
theorem sc_is_told : FnScope N_is_told ["thing"] (defScope s_is_told) := ⟨rfl, rfl, rfl, by decide +kernel, rfl, by decide +kernel, by decide +kernel⟩
def b_is_told : MS :=
  sSeq (sIf (mOr (mNot (tOf (eSV (mCall F_is_long (aCons (eName 0) (aCons (eC (.int 3)) (aNil))))))) (mOr (mNot (tOf (eSV (mCall F_is_within (aCons (eBin atD (oName 0) (oVal (eC (.int 0)))) (aCons (eC (.int 0)) (aCons (eC (.int 820)) (aNil)))))))) (mNot (tOf (eIsi ["tuple"] (oVal (eBin atD (oName 0) (oVal (eC (.int 2)))))))))) (sRetV (eC (.bool false))) (sSkip))
    (sSeq (sAsg (gT 3 (gsCons (gN 1) (gsCons (gN 2) (gsCons (gN 3) (gsNil))))) (eName 0))
    (sSeq (sIf (mOr (mNot (tOf (eSV (mCall F_is_from (aCons (eName 2) (aCons (eC (.int 0)) (aNil))))))) (mOr (tOf (eBin fGe (oName 2) (oVal (eBin fShl (oVal (eC (.int 1))) (oName 1))))) (tOf (eBin fGt (oVal (eFn lenD (oCons (oName 3) (oNil)))) (oVal (eC (.int 24))))))) (sRetV (eC (.bool false))) (sSkip))
    (sRetV (eAnd (eFn allD (oCons (oVal (eFrz (lComp (iAny (eName 3)) (gN 4) (mret true) (eAnd (eSV (mCall F_is_from (aCons (eName 4) (aCons (eC (.int 0)) (aNil))))) (eBin fLt (oName 4) (oVal (eBin fShl (oVal (eC (.int 1))) (oName 1))))) [4]))) (oNil))) (eSV (mCall F_ascends (aCons (eName 3) (aNil))))))))
def F_is_told := mkP 1 5 b_is_told
abbrev s_sure_told_table : Stmt := topS 28
abbrev N_sure_told_table : List Str := ["value", "own"]
theorem sc_sure_told_table : FnScope N_sure_told_table ["value"] (defScope s_sure_told_table) := ⟨rfl, rfl, rfl, by decide +kernel, rfl, by decide +kernel, by decide +kernel⟩
def b_sure_told_table : MS :=
  sSeq (sSetS 1 (mCall F_tupled (aCons (eName 0) (aNil))))
    (sSeq (sIf (mNot (tOf (eSV (mCall F_is_told (aCons (eName 1) (aNil)))))) (sNever) (sSkip))
    (sRetName 1))
def F_sure_told_table := mkP 1 2 b_sure_told_table
abbrev s_many_ones : Stmt := topS 34
abbrev N_many_ones : List Str := ["table"]
theorem sc_many_ones : FnScope N_many_ones ["table"] (defScope s_many_ones) := ⟨rfl, rfl, rfl, by decide +kernel, rfl, by decide +kernel, by decide +kernel⟩
def b_many_ones : MS :=
  sRetS (mCall F_ones_in (aCons (eSV (mCall F_sure_told_table (aCons (eName 0) (aNil)))) (aNil)))
def F_many_ones := mkP 1 1 b_many_ones
abbrev s_meetings : Stmt := topS 29
abbrev N_meetings : List Str := ["table", "shift", "known", "place"]
theorem sc_meetings : FnScope N_meetings ["table", "shift"] (defScope s_meetings) := ⟨rfl, rfl, rfl, by decide +kernel, rfl, by decide +kernel, by decide +kernel⟩
def b_meetings : MS :=
  sSeq (sSetL 2 (lDict (iAny (eBin atD (oName 0) (oVal (eC (.int 2))))) (gN 3) (mret true) (eName 3) (eC (.bool true)) [3]))
    (sRetV (eFn lenD (oCons (oVal (eFrz (lComp (iAny (eBin atD (oName 0) (oVal (eC (.int 2))))) (gN 3) (tOf (eInK (oVal (eBin fXor (oName 3) (oName 1))) 2)) (eName 3) [3]))) (oNil))))
def F_meetings := mkP 2 4 b_meetings
abbrev s_triples_in : Stmt := topS 30
abbrev N_triples_in : List Str := ["table", "place"]
theorem sc_triples_in : FnScope N_triples_in ["table"] (defScope s_triples_in) := ⟨rfl, rfl, rfl, by decide +kernel, rfl, by decide +kernel, by decide +kernel⟩
def b_triples_in : MS :=
  sRetV (eFn sumD (oCons (oVal (eFrz (lComp (iAny (eBin atD (oName 0) (oVal (eC (.int 2))))) (gN 1) (mret true) (eSV (mCall F_meetings (aCons (eName 0) (aCons (eName 1) (aNil))))) [1]))) (oNil)))
def F_triples_in := mkP 1 2 b_triples_in
abbrev s_line_fails_in : Stmt := topS 31
abbrev N_line_fails_in : List Str := ["table", "wide", "many"]
theorem sc_line_fails_in : FnScope N_line_fails_in ["table"] (defScope s_line_fails_in) := ⟨rfl, rfl, rfl, by decide +kernel, rfl, by decide +kernel, by decide +kernel⟩
def b_line_fails_in : MS :=
  sSeq (sPar 1 2 (aCons (eBin fShl (oVal (eC (.int 1))) (oVal (eBin atD (oName 0) (oVal (eC (.int 0)))))) (aCons (eFn lenD (oCons (oVal (eBin atD (oName 0) (oVal (eC (.int 2))))) (oNil))) (aNil))))
    (sRetV (eBin fAdd (oVal (eBin fSub (oVal (eBin fMul (oVal (eBin fMul (oVal (eC (.int 3))) (oName 2))) (oName 1))) (oVal (eBin fMul (oVal (eBin fMul (oVal (eC (.int 6))) (oName 2))) (oName 2))))) (oVal (eBin fMul (oVal (eC (.int 4))) (oVal (eSV (mCall F_triples_in (aCons (eName 0) (aNil)))))))))
def F_line_fails_in := mkP 1 3 b_line_fails_in
abbrev s_line_fails : Stmt := topS 32
abbrev N_line_fails : List Str := ["table"]
theorem sc_line_fails : FnScope N_line_fails ["table"] (defScope s_line_fails) := ⟨rfl, rfl, rfl, by decide +kernel, rfl, by decide +kernel, by decide +kernel⟩
def b_line_fails : MS :=
  sRetS (mCall F_line_fails_in (aCons (eSV (mCall F_sure_told_table (aCons (eName 0) (aNil)))) (aNil)))
def F_line_fails := mkP 1 1 b_line_fails
abbrev s__law_right : Stmt := topS 46
abbrev N__law_right : List Str := ["tin", "lap", "a", "b", "one", "two", "low_so", "high_so", "k", "made_so", "near", "far", "own", "gaps_so", "shifts_so", "u", "v", "top_so", "rows_so", "m", "told_so", "odd_so", "ones_so", "meets_so", "its"]
theorem sc__law_right : FnScope N__law_right ["tin"] (defScope s__law_right) := ⟨rfl, rfl, rfl, by decide +kernel, rfl, by decide +kernel, by decide +kernel⟩
def b__law_right : MS :=
  sSeq (sFor (iRange1 (oCons (oVal (eC (.int 3))) (oNil))) (gN 1) (sSeq (sPar 2 3 (aCons (eSV (mCallB F__law_take 0 (aCons (eC (.int 4)) (aNil)))) (aCons (eSV (mCallB F__law_take 0 (aCons (eC (.int 4)) (aNil)))) (aNil))))
    (sSeq (sAsg (gT 2 (gsCons (gN 4) (gsCons (gN 5) (gsNil)))) (eTup (aCons (eSV (mCallB F__law_near 0 (aCons (eName 2) (aNil)))) (aCons (eSV (mCallB F__law_near 0 (aCons (eName 3) (aNil)))) (aNil)))))
    (sSeq (sAsg (gT 2 (gsCons (gN 6) (gsCons (gN 7) (gsNil)))) (eTup (aCons (eBin fShl (oVal (eC (.int 1))) (oName 2)) (aCons (eBin fShl (oVal (eC (.int 1))) (oName 3)) (aNil)))))
    (sSeq (sSetV 9 (eFn tupleD (oCons (oVal (eFrz (lComp (iRange1 (oCons (oVal (eBin fMul (oName 6) (oName 7))) (oNil))) (gN 8) (mret true) (eBin fXor (oVal (eBin atD (oName 4) (oVal (eBin fMod (oName 8) (oName 6))))) (oVal (eBin atD (oName 5) (oVal (eBin fDiv (oName 8) (oName 6)))))) [8]))) (oNil))))
    (sSeq (sAsg (gT 2 (gsCons (gN 10) (gsCons (gN 11) (gsNil)))) (eTup (aCons (eSV (mCall F_turned_sums (aCons (eName 4) (aNil)))) (aCons (eSV (mCall F_turned_sums (aCons (eName 5) (aNil)))) (aNil)))))
    (sSeq (sIf (mNot (tOf (eSV (mCall F__law_same (aCons (eSV (mCall F_turned_sums (aCons (eSV (mCallB F__law_mixed 0 (aCons (eName 9) (aNil)))) (aNil)))) (aCons (eFrz (lComp (iRange1 (oCons (oVal (eBin fMul (oName 6) (oName 7))) (oNil))) (gN 8) (mret true) (eBin fMul (oVal (eBin atD (oName 10) (oVal (eBin fMod (oName 8) (oName 6))))) (oVal (eBin atD (oName 11) (oVal (eBin fDiv (oName 8) (oName 6)))))) [8])) (aNil))))))) (sRetV (eC (.bool false))) (sSkip))
    (sSeq (sSetL 13 (lComp (iAny (eTup (aCons (eName 4) (aCons (eName 5) (aCons (eName 9) (aNil)))))) (gN 12) (mret true) (eBin fSub (oVal (eBin fMul (oVal (eFn lenD (oCons (oName 12) (oNil)))) (oVal (eFn lenD (oCons (oName 12) (oNil)))))) (oVal (eBin fMul (oVal (eC (.int 2))) (oVal (eSV (mCall F_straight_fails (aCons (eName 12) (aNil)))))))) [12]))
    (sSeq (sIf (mNot (tOf (eSV (mCall F__law_same (aCons (eFrz (lLst (aCons (eBin atD (oName 13) (oVal (eC (.int 2)))) (aCons (eSV (mCall F_straight_fails (aCons (eName 9) (aNil)))) (aNil))))) (aCons (eFrz (lLst (aCons (eBin fMul (oVal (eBin atD (oName 13) (oVal (eC (.int 0))))) (oVal (eBin atD (oName 13) (oVal (eC (.int 1)))))) (aCons (eSV (mCall F__law_fails (aCons (eName 9) (aNil)))) (aNil))))) (aNil))))))) (sRetV (eC (.bool false))) (sSkip))
    (sSeq (sIf (tOf (eBin fNe (oVal (eSV (mCall F_is_straight (aCons (eName 9) (aNil))))) (oVal (eOr (eAnd (eSV (mCall F_is_straight (aCons (eName 4) (aNil)))) (eSV (mCall F_is_straight (aCons (eName 5) (aNil))))) (eBin fEq (oVal (eSV (mCall F__law_fails (aCons (eName 9) (aNil))))) (oVal (eC (.int 0)))))))) (sRetV (eC (.bool false))) (sSkip))
    (sSeq (sSetL 14 (lComp (iAny (eTup (aCons (eName 4) (aCons (eName 5) (aCons (eName 9) (aNil)))))) (gN 12) (mret true) (eSV (mCall F_unlike_shifted (aCons (eName 12) (aNil)))) [12]))
    (sSeq (sFor (iRange1 (oCons (oVal (eBin fMul (oName 6) (oName 7))) (oNil))) (gN 8) (sSeq (sPar 15 16 (aCons (eBin atD (oVal (eBin atD (oName 14) (oVal (eC (.int 0))))) (oVal (eBin fMod (oName 8) (oName 6)))) (aCons (eBin atD (oVal (eBin atD (oName 14) (oVal (eC (.int 1))))) (oVal (eBin fDiv (oName 8) (oName 6)))) (aNil))))
    (sIf (tOf (eBin fNe (oVal (eBin atD (oVal (eBin atD (oName 14) (oVal (eC (.int 2))))) (oName 8))) (oVal (eBin fAdd (oVal (eBin fMul (oName 15) (oVal (eBin fSub (oName 7) (oName 16))))) (oVal (eBin fMul (oVal (eBin fSub (oName 6) (oName 15))) (oName 16))))))) (sRetV (eC (.bool false))) (sSkip))))
    (sSeq (sSetV 17 (eFn maxD (oCons (oVal (eFrz (lLst (aCons (eBin fMul (oVal (eFn maxD (oCons (oName 10) (oNil)))) (oVal (eFn maxD (oCons (oName 11) (oNil))))) (aCons (eBin fMul (oVal (eFn minD (oCons (oName 10) (oNil)))) (oVal (eFn maxD (oCons (oName 11) (oNil))))) (aCons (eBin fMul (oVal (eFn maxD (oCons (oName 10) (oNil)))) (oVal (eFn minD (oCons (oName 11) (oNil))))) (aCons (eBin fMul (oVal (eFn minD (oCons (oName 10) (oNil)))) (oVal (eFn minD (oCons (oName 11) (oNil))))) (aNil)))))))) (oNil))))
    (sSeq (sSetL 18 (lComp (iRange1 (oCons (oVal (eBin fMul (oName 6) (oName 7))) (oNil))) (gN 8) (tOf (eBin fEq (oVal (eBin fMul (oVal (eBin atD (oName 10) (oVal (eBin fMod (oName 8) (oName 6))))) (oVal (eBin atD (oName 11) (oVal (eBin fDiv (oName 8) (oName 6))))))) (oName 17))) (eName 8) [8]))
    (sSeq (sIf (mNot (tOf (eSV (mCall F__law_same (aCons (eSV (mCall F_nearest_rows (aCons (eName 9) (aNil)))) (aCons (eName 18) (aNil))))))) (sRetV (eC (.bool false))) (sSkip))
    (sSeq (sSetV 19 (eBin fAdd (oVal (eC (.int 10))) (oVal (eSV (mCallB F__law_take 0 (aCons (eC (.int 30)) (aNil)))))))
    (sSeq (sSetV 20 (eTup (aCons (eName 19) (aCons (eSV (mCallB F__law_take 0 (aCons (eBin fShl (oVal (eC (.int 1))) (oVal (eC (.int 8)))) (aNil)))) (aCons (eFn tupleD (oCons (oVal (eFrz (lFn sortedD (oCons (oVal (eSV (mCallB F__law_pick 0 (aCons (eFrz (lRange1 (eC (.int 40)))) (aCons (eSV (mCallB F__law_take 0 (aCons (eC (.int 5)) (aNil)))) (aNil)))))) (oNil))))) (oNil))) (aNil))))))
    (sSeq (sSetV 21 (eFn lenD (oCons (oVal (eFrz (lComp (iAny (eBin atD (oName 20) (oVal (eC (.int 2))))) (gN 12) (tOf (eBin fEq (oVal (eFn intD (oCons (oVal (eSV (mCall F__law_odd (aCons (eBin fAnd (oName 12) (oVal (eBin atD (oName 20) (oVal (eC (.int 1)))))) (aNil))))) (oNil)))) (oVal (eC (.int 1))))) (eName 12) [12]))) (oNil))))
    (sSeq (sSetV 22 (eBin fAdd (oVal (eBin fSub (oVal (eIf (tOf (eBin fGt (oVal (eBin atD (oName 20) (oVal (eC (.int 1))))) (oVal (eC (.int 0))))) (eBin fShl (oVal (eC (.int 1))) (oVal (eBin fSub (oName 19) (oVal (eC (.int 1)))))) (eC (.int 0)))) (oName 21))) (oVal (eBin fSub (oVal (eFn lenD (oCons (oVal (eBin atD (oName 20) (oVal (eC (.int 2))))) (oNil)))) (oName 21)))))
    (sSeq (sSetV 23 (eC (.int 0)))
    (sSeq (sFor (iAny (eBin atD (oName 20) (oVal (eC (.int 2))))) (gN 12) (sSetV 23 (eBin fAdd (oName 23) (oVal (eFn lenD (oCons (oVal (eFrz (lComp (iAny (eBin atD (oName 20) (oVal (eC (.int 2))))) (gN 24) (tOf (eBin fIn (oVal (eBin fXor (oName 12) (oName 24))) (oVal (eBin atD (oName 20) (oVal (eC (.int 2))))))) (eName 24) [24]))) (oNil)))))))
    (sIf (mNot (tOf (eSV (mCall F__law_same (aCons (eFrz (lLst (aCons (eSV (mCall F_many_ones (aCons (eName 20) (aNil)))) (aCons (eSV (mCall F_line_fails (aCons (eName 20) (aNil)))) (aNil))))) (aCons (eFrz (lLst (aCons (eName 22) (aCons (eBin fAdd (oVal (eBin fSub (oVal (eBin fMul (oVal (eBin fMul (oVal (eC (.int 3))) (oVal (eFn lenD (oCons (oVal (eBin atD (oName 20) (oVal (eC (.int 2))))) (oNil)))))) (oVal (eBin fShl (oVal (eC (.int 1))) (oName 19))))) (oVal (eBin fMul (oVal (eBin fMul (oVal (eC (.int 6))) (oVal (eFn lenD (oCons (oVal (eBin atD (oName 20) (oVal (eC (.int 2))))) (oNil)))))) (oVal (eFn lenD (oCons (oVal (eBin atD (oName 20) (oVal (eC (.int 2))))) (oNil)))))))) (oVal (eBin fMul (oVal (eC (.int 4))) (oName 23)))) (aNil))))) (aNil))))))) (sRetV (eC (.bool false))) (sSkip)))))))))))))))))))))))
    (sRetV (eC (.bool true)))
def F__law_right := mkB 1 25 b__law_right
abbrev s__law_box : Stmt := topS 36
abbrev N__law_box : List Str := ["script", "k", "bit_so"]
theorem sc__law_box : FnScope N__law_box ["script", "k"] (defScope s__law_box) := ⟨rfl, rfl, rfl, by decide +kernel, rfl, by decide +kernel, by decide +kernel⟩
def b__law_box : MS :=
  sSeq (sSetV 2 (eIf (tOf (eBin fLt (oName 1) (oVal (eFn lenD (oCons (oName 0) (oNil)))))) (eBin atD (oName 0) (oName 1)) (eC (.int 0))))
    (sRetL (lLst (aCons (eBin fMul (oVal (eFn absD (oCons (oName 2) (oNil)))) (oVal (eFn intD (oCons (oVal (eBin fGe (oVal (eFn absD (oCons (oName 2) (oNil)))) (oVal (eBin fPow (oVal (eC (.int 10))) (oVal (eC (.int 18))))))) (oNil))))) (aCons (eBin fAdd (oVal (eBin fAdd (oVal (eBin fMod (oVal (eFn intD (oCons (oName 2) (oNil)))) (oVal (eC (.int 2305843009213693951))))) (oVal (eBin fMul (oVal (eC (.int 39373))) (oName 1))))) (oVal (eC (.int 8900000)))) (aCons (eC (.int 0)) (aNil))))))
def F__law_box := mkP 2 3 b__law_box
abbrev s_law : Stmt := topS 47
abbrev N_law : List Str := ["script", "cells_so", "k"]
theorem sc_law : FnScope N_law ["script"] (defScope s_law) := ⟨rfl, rfl, rfl, by decide +kernel, rfl, by decide +kernel, by decide +kernel⟩
def b_law : MS :=
  sSeq (sSetS 1 (mCall F__law_cells (aCons (eName 0) (aCons (eC (.int 2)) (aNil)))))
    (sRetV (eFn allD (oCons (oVal (eFrz (lComp (iRange1 (oCons (oVal (eFn lenD (oCons (oName 1) (oNil)))) (oNil))) (gN 2) (mret true) (eSV (mCallT F__law_right (lSV (mCall F__law_box (aCons (eName 1) (aCons (eName 2) (aNil))))))) [2]))) (oNil))))
def F_law := mkP 1 3 b_law
end Toy

namespace Toy
open PySem PySem.Spec PyProof.Rows L2 PD PM
theorem take_ok : TakeOk F__law_take := fun k c n hb hk hn hn2 => by
  obtain ⟨d, b, e, rfl, h1, h2, h3, h4, h5⟩ := hb
  unfold F__law_take b__law_take
  simp only [T_ret, T_eName, TN_val, TN_own, T_oName, TR_some, T_oVal, T_eC, T_eFrz, celD_lst, slotD_val, slotD_own, slotD_bor, rs_d, rs_s, rss_nil, rss_cons, T_op2, T_op2L, T_op1, T_opN, T_opNL, T_eBin, T_lBin, T_eUn, T_eFn, T_lFn, T_oNil, T_oCons, T_aNil, T_aCons, T_eTup, T_lLst, TB_bool, T_tOf, T_mTru, br_true, br_false, T_mAnd, T_mOr, T_mNot, T_eAnd, T_eOr, T_eNot, T_eIf, T_lIf, T_eChain, T_eIsi, T_mCall, T_mCallK, CB_own, CB_bor, T_mCallB, T_mCallT, TSV_val, TSV_own, T_eSV, TSL_own, T_lSV, sq_nx, sq_rt, sq_bk, sq_ct, T_sSeq, T_sSkip, T_sExpr, T_sRetV, T_sRetL, T_sRetS, T_sRetN, TRN_val, TRN_own, T_sRetName, T_sIf, T_sSetV, T_sSetL, TSet_val, TSet_own, T_sSetS, L2T_two, L3T_three, T_sPar, T_sPar3, T_sParL, T_sAug, T_sAsg, gN_eq, gT_eq, gsNil_eq, gsCons_eq, IX_own, IX_bor, O_gIx, T_mNoPart, TI_int, T_mPart, TLs_list, TTs_tuple, T_lCut, T_eCut, LO_nil, LO_cons, T_lOr, TAny_list, TAny_tuple, T_iAny, T_iEnumD, TZ_list, TZ_tuple, T_iZipD, TRg1_int, T_iRange1, TRg2_int, T_iRange2, TRg3_int, T_iRange3, lpK_nx, lpK_ct, lpK_bk, lpK_rt, fcK_nx, fcK_ct, fcK_bk, fcK_rt, wlK_nx, wlK_ct, wlK_bk, wlK_rt, wipe_nil, wipe_cons, back_nil, back_cons, noC_nil, noC_cons, noC1_none, noC1_val, T_comp_nil, T_lComp, MX_own, MX_bor, isCellLst_own, isCellLst_bor, T_eMut, T_eMeth, RP_lst, T_lRep, gL_eq, T_sParLL, T_sParVL, RG_int, T_lRange1, T_inK, T_eInK, T_eNinK, dictD_own, keyD_int, T_lDict, TO_nx, TO_val, TO_own, T0_bor, O_mkP, O_mkB, O_some, O_none, O_ite, O_bind, O_map, fAdd_i, fAddI_i, fSub_i, fMul_i, fDiv_i, fMod_i, fShl_i, fAnd_i, fXor_i, fShr_i, fLt_i, fLe_i, fGt_i, fGe_i, fEq_i, fNe_i, fNeg_i, ixN_3_0, ixN_3_1, ixN_3_2, ixN_2_0, ixN_2_1, ixN_1_0, truD_i, truD_b, intD_i, intD_b, absD_i, lenD_l, lenD_t, tupleD_l, tupleD_t, listD_l, listD_t, List.map_cons, List.map_nil, List.length_cons, List.length_nil, List.cons_append, List.nil_append, List.replicate_succ, List.replicate_zero, List.set_cons_zero, List.set_cons_succ, List.getElem?_cons_zero, List.getElem?_cons_succ, Option.getD_some, Option.bind_some, Option.map_some, true_and, and_true, Bool.false_eq_true, Nat.reduceAdd, Nat.reduceSub, Nat.reduceLeDiff, Nat.le_refl, Bool.and_true, Bool.and_self, Bool.not_true, Bool.not_false, if_true, if_false, reduceIte, Nat.zero_add, Nat.sub_self, atD_l]
  refine ⟨fun hd => ?_, fun hd => ?_⟩
  · refine ⟨cModP hn, cDivP hn (by omega), d.fmod n, rfl, ?_, ?_, d.fdiv n, b, e, rfl, ?_, h2, h3, h4, by omega⟩
    · rw [fmod_pos hn]; exact Int.emod_nonneg _ (by omega)
    · rw [fmod_pos hn]; exact Int.emod_lt_of_pos _ hn
    · rw [fdiv_pos hn]; exact Int.ediv_nonneg h1 (by omega)
  · refine ⟨cMulL (by decide), cMulR (by omega), cModP (by decide), cModP (by decide), cDivP (by decide) (by decide), ?_, cModP (by decide), cMulR (by decide), cModP (by decide), cDivP (by decide) (by decide), cModP hn, _, rfl, ?_, ?_, d, b, e + 1, rfl, h1, h2, h3, by omega, by omega⟩
    · refine cMulR ?_
      rw [fmod_pos (by decide)]
      have := Int.emod_lt_of_pos (((b + 48271 * (e + 1)) * (39373 + (e + 1))).fmod 2147483647) (b := 40009) (by decide)
      have := Int.emod_nonneg (((b + 48271 * (e + 1)) * (39373 + (e + 1))).fmod 2147483647) (b := 40009) (by decide)
      omega
    · rw [fmod_pos hn]; exact Int.emod_nonneg _ (by omega)
    · rw [fmod_pos hn]; exact Int.emod_lt_of_pos _ hn
theorem odd_ok {n k : Nat} (hn : n ≤ 900) (hk : k < 2 ^ n) : F__law_odd [.int k] = some (.val (.int (pc n k % 2 : Nat))) := by
  apply O_is.mp
  unfold F__law_odd b__law_odd
  simp only [T_ret, T_eName, TN_val, TN_own, T_oName, TR_some, T_oVal, T_eC, T_eFrz, celD_lst, slotD_val, slotD_own, slotD_bor, rs_d, rs_s, rss_nil, rss_cons, T_op2, T_op2L, T_op1, T_opN, T_opNL, T_eBin, T_lBin, T_eUn, T_eFn, T_lFn, T_oNil, T_oCons, T_aNil, T_aCons, T_eTup, T_lLst, TB_bool, T_tOf, T_mTru, br_true, br_false, T_mAnd, T_mOr, T_mNot, T_eAnd, T_eOr, T_eNot, T_eIf, T_lIf, T_eChain, T_eIsi, T_mCall, T_mCallK, CB_own, CB_bor, T_mCallB, T_mCallT, TSV_val, TSV_own, T_eSV, TSL_own, T_lSV, sq_nx, sq_rt, sq_bk, sq_ct, T_sSeq, T_sSkip, T_sExpr, T_sRetV, T_sRetL, T_sRetS, T_sRetN, TRN_val, TRN_own, T_sRetName, T_sIf, T_sSetV, T_sSetL, TSet_val, TSet_own, T_sSetS, L2T_two, L3T_three, T_sPar, T_sPar3, T_sParL, T_sAug, T_sAsg, gN_eq, gT_eq, gsNil_eq, gsCons_eq, IX_own, IX_bor, O_gIx, T_mNoPart, TI_int, T_mPart, TLs_list, TTs_tuple, T_lCut, T_eCut, LO_nil, LO_cons, T_lOr, TAny_list, TAny_tuple, T_iAny, T_iEnumD, TZ_list, TZ_tuple, T_iZipD, TRg1_int, T_iRange1, TRg2_int, T_iRange2, TRg3_int, T_iRange3, lpK_nx, lpK_ct, lpK_bk, lpK_rt, fcK_nx, fcK_ct, fcK_bk, fcK_rt, wlK_nx, wlK_ct, wlK_bk, wlK_rt, wipe_nil, wipe_cons, back_nil, back_cons, noC_nil, noC_cons, noC1_none, noC1_val, T_comp_nil, T_lComp, MX_own, MX_bor, isCellLst_own, isCellLst_bor, T_eMut, T_eMeth, RP_lst, T_lRep, gL_eq, T_sParLL, T_sParVL, RG_int, T_lRange1, T_inK, T_eInK, T_eNinK, dictD_own, keyD_int, T_lDict, TO_nx, TO_val, TO_own, T0_bor, O_mkP, O_mkB, O_some, O_none, O_ite, O_bind, O_map, fAdd_i, fAddI_i, fSub_i, fMul_i, fDiv_i, fMod_i, fShl_i, fAnd_i, fXor_i, fShr_i, fLt_i, fLe_i, fGt_i, fGe_i, fEq_i, fNe_i, fNeg_i, ixN_3_0, ixN_3_1, ixN_3_2, ixN_2_0, ixN_2_1, ixN_1_0, truD_i, truD_b, intD_i, intD_b, absD_i, lenD_l, lenD_t, tupleD_l, tupleD_t, listD_l, listD_t, List.map_cons, List.map_nil, List.length_cons, List.length_nil, List.cons_append, List.nil_append, List.replicate_succ, List.replicate_zero, List.set_cons_zero, List.set_cons_succ, List.getElem?_cons_zero, List.getElem?_cons_succ, Option.getD_some, Option.bind_some, Option.map_some, true_and, and_true, Bool.false_eq_true, Nat.reduceAdd, Nat.reduceSub, Nat.reduceLeDiff, Nat.le_refl, Bool.and_true, Bool.and_self, Bool.not_true, Bool.not_false, if_true, if_false, reduceIte, Nat.zero_add, Nat.sub_self, T_sFor, show (900 : Int) = ((900 : Nat) : Int) from rfl]
  refine ⟨by decide, T_forN (fun i S => ∃ x, S = [some (.val (.int (k / 2 ^ i : Nat))), some (.val (.int (pc i k : Nat))), x]) ⟨none, by rw [Nat.pow_zero, Nat.div_one]; rfl⟩ ?_ ?_⟩
  · rintro i hi S ⟨x, rfl⟩
    simp only [T_ret, T_eName, TN_val, TN_own, T_oName, TR_some, T_oVal, T_eC, T_eFrz, celD_lst, slotD_val, slotD_own, slotD_bor, rs_d, rs_s, rss_nil, rss_cons, T_op2, T_op2L, T_op1, T_opN, T_opNL, T_eBin, T_lBin, T_eUn, T_eFn, T_lFn, T_oNil, T_oCons, T_aNil, T_aCons, T_eTup, T_lLst, TB_bool, T_tOf, T_mTru, br_true, br_false, T_mAnd, T_mOr, T_mNot, T_eAnd, T_eOr, T_eNot, T_eIf, T_lIf, T_eChain, T_eIsi, T_mCall, T_mCallK, CB_own, CB_bor, T_mCallB, T_mCallT, TSV_val, TSV_own, T_eSV, TSL_own, T_lSV, sq_nx, sq_rt, sq_bk, sq_ct, T_sSeq, T_sSkip, T_sExpr, T_sRetV, T_sRetL, T_sRetS, T_sRetN, TRN_val, TRN_own, T_sRetName, T_sIf, T_sSetV, T_sSetL, TSet_val, TSet_own, T_sSetS, L2T_two, L3T_three, T_sPar, T_sPar3, T_sParL, T_sAug, T_sAsg, gN_eq, gT_eq, gsNil_eq, gsCons_eq, IX_own, IX_bor, O_gIx, T_mNoPart, TI_int, T_mPart, TLs_list, TTs_tuple, T_lCut, T_eCut, LO_nil, LO_cons, T_lOr, TAny_list, TAny_tuple, T_iAny, T_iEnumD, TZ_list, TZ_tuple, T_iZipD, TRg1_int, T_iRange1, TRg2_int, T_iRange2, TRg3_int, T_iRange3, lpK_nx, lpK_ct, lpK_bk, lpK_rt, fcK_nx, fcK_ct, fcK_bk, fcK_rt, wlK_nx, wlK_ct, wlK_bk, wlK_rt, wipe_nil, wipe_cons, back_nil, back_cons, noC_nil, noC_cons, noC1_none, noC1_val, T_comp_nil, T_lComp, MX_own, MX_bor, isCellLst_own, isCellLst_bor, T_eMut, T_eMeth, RP_lst, T_lRep, gL_eq, T_sParLL, T_sParVL, RG_int, T_lRange1, T_inK, T_eInK, T_eNinK, dictD_own, keyD_int, T_lDict, TO_nx, TO_val, TO_own, T0_bor, O_mkP, O_mkB, O_some, O_none, O_ite, O_bind, O_map, fAdd_i, fAddI_i, fSub_i, fMul_i, fDiv_i, fMod_i, fShl_i, fAnd_i, fXor_i, fShr_i, fLt_i, fLe_i, fGt_i, fGe_i, fEq_i, fNe_i, fNeg_i, ixN_3_0, ixN_3_1, ixN_3_2, ixN_2_0, ixN_2_1, ixN_1_0, truD_i, truD_b, intD_i, intD_b, absD_i, lenD_l, lenD_t, tupleD_l, tupleD_t, listD_l, listD_t, List.map_cons, List.map_nil, List.length_cons, List.length_nil, List.cons_append, List.nil_append, List.replicate_succ, List.replicate_zero, List.set_cons_zero, List.set_cons_succ, List.getElem?_cons_zero, List.getElem?_cons_succ, Option.getD_some, Option.bind_some, Option.map_some, true_and, and_true, Bool.false_eq_true, Nat.reduceAdd, Nat.reduceSub, Nat.reduceLeDiff, Nat.le_refl, Bool.and_true, Bool.and_self, Bool.not_true, Bool.not_false, if_true, if_false, reduceIte, Nat.zero_add, Nat.sub_self]
    have fin : ∀ i, k < 2 ^ i → ((pc i k : Nat) : Int).fmod 2 = ((pc n k % 2 : Nat) : Int) := fun i h => by
      rw [fmod_pos (by decide), pc_same h hk]; rfl
    refine ⟨fun h => ?_, fun h => ?_⟩
    · have h := of_decide_eq_true h
      have h : k / 2 ^ i = 0 := by omega
      have h : k < 2 ^ i := by
        rcases Nat.lt_or_ge k (2 ^ i) with h1 | h1
        · exact h1
        · have := Nat.div_pos h1 (Nat.two_pow_pos i); omega
      exact ⟨cModP (by decide), by rw [fin i h]⟩
    · refine ⟨cModP (by decide), cDivP (by decide) (by decide), ?_⟩
      simp only [List.cons.injEq, Option.some.injEq, SV.val.injEq, SV.own.injEq, SV.bor.injEq, Cel.lst.injEq, PyData.int.injEq, PyData.tuple.injEq, PyData.list.injEq, PyData.bool.injEq, and_true, true_and, exists_eq, exists_eq', exists_and_left, exists_and_right]
      rw [fmod_pos (by decide), fdiv_pos (by decide)]
      constructor
      · rw [Nat.pow_succ, ← Nat.div_div_eq_div_mul]; rfl
      · show _ = ((pc i k + (k.testBit i).toNat : Nat) : Int)
        rw [Nat.testBit_eq_decide_div_mod_eq]
        have : ((k / 2 ^ i : Nat) : Int) % 2 = (((k / 2 ^ i) % 2 : Nat) : Int) := rfl
        rw [this]
        rcases Nat.mod_two_eq_zero_or_one (k / 2 ^ i) with e | e <;> rw [e] <;> rfl
  · rintro S ⟨x, rfl⟩
    simp only [T_ret, T_eName, TN_val, TN_own, T_oName, TR_some, T_oVal, T_eC, T_eFrz, celD_lst, slotD_val, slotD_own, slotD_bor, rs_d, rs_s, rss_nil, rss_cons, T_op2, T_op2L, T_op1, T_opN, T_opNL, T_eBin, T_lBin, T_eUn, T_eFn, T_lFn, T_oNil, T_oCons, T_aNil, T_aCons, T_eTup, T_lLst, TB_bool, T_tOf, T_mTru, br_true, br_false, T_mAnd, T_mOr, T_mNot, T_eAnd, T_eOr, T_eNot, T_eIf, T_lIf, T_eChain, T_eIsi, T_mCall, T_mCallK, CB_own, CB_bor, T_mCallB, T_mCallT, TSV_val, TSV_own, T_eSV, TSL_own, T_lSV, sq_nx, sq_rt, sq_bk, sq_ct, T_sSeq, T_sSkip, T_sExpr, T_sRetV, T_sRetL, T_sRetS, T_sRetN, TRN_val, TRN_own, T_sRetName, T_sIf, T_sSetV, T_sSetL, TSet_val, TSet_own, T_sSetS, L2T_two, L3T_three, T_sPar, T_sPar3, T_sParL, T_sAug, T_sAsg, gN_eq, gT_eq, gsNil_eq, gsCons_eq, IX_own, IX_bor, O_gIx, T_mNoPart, TI_int, T_mPart, TLs_list, TTs_tuple, T_lCut, T_eCut, LO_nil, LO_cons, T_lOr, TAny_list, TAny_tuple, T_iAny, T_iEnumD, TZ_list, TZ_tuple, T_iZipD, TRg1_int, T_iRange1, TRg2_int, T_iRange2, TRg3_int, T_iRange3, lpK_nx, lpK_ct, lpK_bk, lpK_rt, fcK_nx, fcK_ct, fcK_bk, fcK_rt, wlK_nx, wlK_ct, wlK_bk, wlK_rt, wipe_nil, wipe_cons, back_nil, back_cons, noC_nil, noC_cons, noC1_none, noC1_val, T_comp_nil, T_lComp, MX_own, MX_bor, isCellLst_own, isCellLst_bor, T_eMut, T_eMeth, RP_lst, T_lRep, gL_eq, T_sParLL, T_sParVL, RG_int, T_lRange1, T_inK, T_eInK, T_eNinK, dictD_own, keyD_int, T_lDict, TO_nx, TO_val, TO_own, T0_bor, O_mkP, O_mkB, O_some, O_none, O_ite, O_bind, O_map, fAdd_i, fAddI_i, fSub_i, fMul_i, fDiv_i, fMod_i, fShl_i, fAnd_i, fXor_i, fShr_i, fLt_i, fLe_i, fGt_i, fGe_i, fEq_i, fNe_i, fNeg_i, ixN_3_0, ixN_3_1, ixN_3_2, ixN_2_0, ixN_2_1, ixN_1_0, truD_i, truD_b, intD_i, intD_b, absD_i, lenD_l, lenD_t, tupleD_l, tupleD_t, listD_l, listD_t, List.map_cons, List.map_nil, List.length_cons, List.length_nil, List.cons_append, List.nil_append, List.replicate_succ, List.replicate_zero, List.set_cons_zero, List.set_cons_succ, List.getElem?_cons_zero, List.getElem?_cons_succ, Option.getD_some, Option.bind_some, Option.map_some, true_and, and_true, Bool.false_eq_true, Nat.reduceAdd, Nat.reduceSub, Nat.reduceLeDiff, Nat.le_refl, Bool.and_true, Bool.and_self, Bool.not_true, Bool.not_false, if_true, if_false, reduceIte, Nat.zero_add, Nat.sub_self]
    refine ⟨cModP (by decide), ?_⟩
    simp only [List.cons.injEq, Option.some.injEq, SV.val.injEq, SV.own.injEq, SV.bor.injEq, Cel.lst.injEq, PyData.int.injEq, PyData.tuple.injEq, PyData.list.injEq, PyData.bool.injEq, and_true, true_and, exists_eq, exists_eq', exists_and_left, exists_and_right]
    rw [fmod_pos (by decide), pc_same (j := n) (Nat.lt_of_lt_of_le hk (Nat.pow_le_pow_right (by decide) hn)) hk]; rfl
theorem isTys_lt_int {i : Int} : isTys ["list", "tuple"] (.int i) = false := rfl
theorem isTys_lt_list {ds : List D} : isTys ["list", "tuple"] (.list ds) = true := rfl
theorem isTys_lt_tuple {ds : List D} : isTys ["list", "tuple"] (.tuple ds) = true := rfl
theorem isTys_int_int {i : Int} : isTys ["int"] (.int i) = true := rfl
theorem isTys_bool_int {i : Int} : isTys ["bool"] (.int i) = false := rfl
theorem isTys_tuple_tuple {ds : List D} : isTys ["tuple"] (.tuple ds) = true := rfl
theorem tupled_int {n : Nat} {i : Int} : R_tupled (n + 1) [.int i] = some (.val (.int i)) := by
  apply O_is.mp
  unfold R_tupled b_tupled
  simp only [T_ret, T_eName, TN_val, TN_own, T_oName, TR_some, T_oVal, T_eC, T_eFrz, celD_lst, slotD_val, slotD_own, slotD_bor, rs_d, rs_s, rss_nil, rss_cons, T_op2, T_op2L, T_op1, T_opN, T_opNL, T_eBin, T_lBin, T_eUn, T_eFn, T_lFn, T_oNil, T_oCons, T_aNil, T_aCons, T_eTup, T_lLst, TB_bool, T_tOf, T_mTru, br_true, br_false, T_mAnd, T_mOr, T_mNot, T_eAnd, T_eOr, T_eNot, T_eIf, T_lIf, T_eChain, T_eIsi, T_mCall, T_mCallK, CB_own, CB_bor, T_mCallB, T_mCallT, TSV_val, TSV_own, T_eSV, TSL_own, T_lSV, sq_nx, sq_rt, sq_bk, sq_ct, T_sSeq, T_sSkip, T_sExpr, T_sRetV, T_sRetL, T_sRetS, T_sRetN, TRN_val, TRN_own, T_sRetName, T_sIf, T_sSetV, T_sSetL, TSet_val, TSet_own, T_sSetS, L2T_two, L3T_three, T_sPar, T_sPar3, T_sParL, T_sAug, T_sAsg, gN_eq, gT_eq, gsNil_eq, gsCons_eq, IX_own, IX_bor, O_gIx, T_mNoPart, TI_int, T_mPart, TLs_list, TTs_tuple, T_lCut, T_eCut, LO_nil, LO_cons, T_lOr, TAny_list, TAny_tuple, T_iAny, T_iEnumD, TZ_list, TZ_tuple, T_iZipD, TRg1_int, T_iRange1, TRg2_int, T_iRange2, TRg3_int, T_iRange3, lpK_nx, lpK_ct, lpK_bk, lpK_rt, fcK_nx, fcK_ct, fcK_bk, fcK_rt, wlK_nx, wlK_ct, wlK_bk, wlK_rt, wipe_nil, wipe_cons, back_nil, back_cons, noC_nil, noC_cons, noC1_none, noC1_val, T_comp_nil, T_lComp, MX_own, MX_bor, isCellLst_own, isCellLst_bor, T_eMut, T_eMeth, RP_lst, T_lRep, gL_eq, T_sParLL, T_sParVL, RG_int, T_lRange1, T_inK, T_eInK, T_eNinK, dictD_own, keyD_int, T_lDict, TO_nx, TO_val, TO_own, T0_bor, O_mkP, O_mkB, O_some, O_none, O_ite, O_bind, O_map, fAdd_i, fAddI_i, fSub_i, fMul_i, fDiv_i, fMod_i, fShl_i, fAnd_i, fXor_i, fShr_i, fLt_i, fLe_i, fGt_i, fGe_i, fEq_i, fNe_i, fNeg_i, ixN_3_0, ixN_3_1, ixN_3_2, ixN_2_0, ixN_2_1, ixN_1_0, truD_i, truD_b, intD_i, intD_b, absD_i, lenD_l, lenD_t, tupleD_l, tupleD_t, listD_l, listD_t, List.map_cons, List.map_nil, List.length_cons, List.length_nil, List.cons_append, List.nil_append, List.replicate_succ, List.replicate_zero, List.set_cons_zero, List.set_cons_succ, List.getElem?_cons_zero, List.getElem?_cons_succ, Option.getD_some, Option.bind_some, Option.map_some, true_and, and_true, Bool.false_eq_true, Nat.reduceAdd, Nat.reduceSub, Nat.reduceLeDiff, Nat.le_refl, Bool.and_true, Bool.and_self, Bool.not_true, Bool.not_false, if_true, if_false, reduceIte, Nat.zero_add, Nat.sub_self, isTys_lt_int]
theorem tupled_tab {n k : Nat} {f : Nat → Int} (hk : k ≤ 1000000) : R_tupled (n + 2) [.tuple (tb k f)] = some (.val (.tuple (tb k f))) ∧ R_tupled (n + 2) [.list (tb k f)] = some (.val (.tuple (tb k f))) := by
  constructor
  all_goals
    apply O_is.mp
    unfold R_tupled b_tupled
    simp only [T_ret, T_eName, TN_val, TN_own, T_oName, TR_some, T_oVal, T_eC, T_eFrz, celD_lst, slotD_val, slotD_own, slotD_bor, rs_d, rs_s, rss_nil, rss_cons, T_op2, T_op2L, T_op1, T_opN, T_opNL, T_eBin, T_lBin, T_eUn, T_eFn, T_lFn, T_oNil, T_oCons, T_aNil, T_aCons, T_eTup, T_lLst, TB_bool, T_tOf, T_mTru, br_true, br_false, T_mAnd, T_mOr, T_mNot, T_eAnd, T_eOr, T_eNot, T_eIf, T_lIf, T_eChain, T_eIsi, T_mCall, T_mCallK, CB_own, CB_bor, T_mCallB, T_mCallT, TSV_val, TSV_own, T_eSV, TSL_own, T_lSV, sq_nx, sq_rt, sq_bk, sq_ct, T_sSeq, T_sSkip, T_sExpr, T_sRetV, T_sRetL, T_sRetS, T_sRetN, TRN_val, TRN_own, T_sRetName, T_sIf, T_sSetV, T_sSetL, TSet_val, TSet_own, T_sSetS, L2T_two, L3T_three, T_sPar, T_sPar3, T_sParL, T_sAug, T_sAsg, gN_eq, gT_eq, gsNil_eq, gsCons_eq, IX_own, IX_bor, O_gIx, T_mNoPart, TI_int, T_mPart, TLs_list, TTs_tuple, T_lCut, T_eCut, LO_nil, LO_cons, T_lOr, TAny_list, TAny_tuple, T_iAny, T_iEnumD, TZ_list, TZ_tuple, T_iZipD, TRg1_int, T_iRange1, TRg2_int, T_iRange2, TRg3_int, T_iRange3, lpK_nx, lpK_ct, lpK_bk, lpK_rt, fcK_nx, fcK_ct, fcK_bk, fcK_rt, wlK_nx, wlK_ct, wlK_bk, wlK_rt, wipe_nil, wipe_cons, back_nil, back_cons, noC_nil, noC_cons, noC1_none, noC1_val, T_comp_nil, T_lComp, MX_own, MX_bor, isCellLst_own, isCellLst_bor, T_eMut, T_eMeth, RP_lst, T_lRep, gL_eq, T_sParLL, T_sParVL, RG_int, T_lRange1, T_inK, T_eInK, T_eNinK, dictD_own, keyD_int, T_lDict, TO_nx, TO_val, TO_own, T0_bor, O_mkP, O_mkB, O_some, O_none, O_ite, O_bind, O_map, fAdd_i, fAddI_i, fSub_i, fMul_i, fDiv_i, fMod_i, fShl_i, fAnd_i, fXor_i, fShr_i, fLt_i, fLe_i, fGt_i, fGe_i, fEq_i, fNe_i, fNeg_i, ixN_3_0, ixN_3_1, ixN_3_2, ixN_2_0, ixN_2_1, ixN_1_0, truD_i, truD_b, intD_i, intD_b, absD_i, lenD_l, lenD_t, tupleD_l, tupleD_t, listD_l, listD_t, List.map_cons, List.map_nil, List.length_cons, List.length_nil, List.cons_append, List.nil_append, List.replicate_succ, List.replicate_zero, List.set_cons_zero, List.set_cons_succ, List.getElem?_cons_zero, List.getElem?_cons_succ, Option.getD_some, Option.bind_some, Option.map_some, true_and, and_true, Bool.false_eq_true, Nat.reduceAdd, Nat.reduceSub, Nat.reduceLeDiff, Nat.le_refl, Bool.and_true, Bool.and_self, Bool.not_true, Bool.not_false, if_true, if_false, reduceIte, Nat.zero_add, Nat.sub_self, isTys_lt_list, isTys_lt_tuple, tb_len]
    refine ⟨hk, T_compMap id ?_ ?_⟩
    · intro d hd
      obtain ⟨j, hj, rfl⟩ := tb_mem hd
      simp only [T_ret, T_eName, TN_val, TN_own, T_oName, TR_some, T_oVal, T_eC, T_eFrz, celD_lst, slotD_val, slotD_own, slotD_bor, rs_d, rs_s, rss_nil, rss_cons, T_op2, T_op2L, T_op1, T_opN, T_opNL, T_eBin, T_lBin, T_eUn, T_eFn, T_lFn, T_oNil, T_oCons, T_aNil, T_aCons, T_eTup, T_lLst, TB_bool, T_tOf, T_mTru, br_true, br_false, T_mAnd, T_mOr, T_mNot, T_eAnd, T_eOr, T_eNot, T_eIf, T_lIf, T_eChain, T_eIsi, T_mCall, T_mCallK, CB_own, CB_bor, T_mCallB, T_mCallT, TSV_val, TSV_own, T_eSV, TSL_own, T_lSV, sq_nx, sq_rt, sq_bk, sq_ct, T_sSeq, T_sSkip, T_sExpr, T_sRetV, T_sRetL, T_sRetS, T_sRetN, TRN_val, TRN_own, T_sRetName, T_sIf, T_sSetV, T_sSetL, TSet_val, TSet_own, T_sSetS, L2T_two, L3T_three, T_sPar, T_sPar3, T_sParL, T_sAug, T_sAsg, gN_eq, gT_eq, gsNil_eq, gsCons_eq, IX_own, IX_bor, O_gIx, T_mNoPart, TI_int, T_mPart, TLs_list, TTs_tuple, T_lCut, T_eCut, LO_nil, LO_cons, T_lOr, TAny_list, TAny_tuple, T_iAny, T_iEnumD, TZ_list, TZ_tuple, T_iZipD, TRg1_int, T_iRange1, TRg2_int, T_iRange2, TRg3_int, T_iRange3, lpK_nx, lpK_ct, lpK_bk, lpK_rt, fcK_nx, fcK_ct, fcK_bk, fcK_rt, wlK_nx, wlK_ct, wlK_bk, wlK_rt, wipe_nil, wipe_cons, back_nil, back_cons, noC_nil, noC_cons, noC1_none, noC1_val, T_comp_nil, T_lComp, MX_own, MX_bor, isCellLst_own, isCellLst_bor, T_eMut, T_eMeth, RP_lst, T_lRep, gL_eq, T_sParLL, T_sParVL, RG_int, T_lRange1, T_inK, T_eInK, T_eNinK, dictD_own, keyD_int, T_lDict, TO_nx, TO_val, TO_own, T0_bor, O_mkP, O_mkB, O_some, O_none, O_ite, O_bind, O_map, fAdd_i, fAddI_i, fSub_i, fMul_i, fDiv_i, fMod_i, fShl_i, fAnd_i, fXor_i, fShr_i, fLt_i, fLe_i, fGt_i, fGe_i, fEq_i, fNe_i, fNeg_i, ixN_3_0, ixN_3_1, ixN_3_2, ixN_2_0, ixN_2_1, ixN_1_0, truD_i, truD_b, intD_i, intD_b, absD_i, lenD_l, lenD_t, tupleD_l, tupleD_t, listD_l, listD_t, List.map_cons, List.map_nil, List.length_cons, List.length_nil, List.cons_append, List.nil_append, List.replicate_succ, List.replicate_zero, List.set_cons_zero, List.set_cons_succ, List.getElem?_cons_zero, List.getElem?_cons_succ, Option.getD_some, Option.bind_some, Option.map_some, true_and, and_true, Bool.false_eq_true, Nat.reduceAdd, Nat.reduceSub, Nat.reduceLeDiff, Nat.le_refl, Bool.and_true, Bool.and_self, Bool.not_true, Bool.not_false, if_true, if_false, reduceIte, Nat.zero_add, Nat.sub_self, tupled_int]
      rfl
    · simp only [T_ret, T_eName, TN_val, TN_own, T_oName, TR_some, T_oVal, T_eC, T_eFrz, celD_lst, slotD_val, slotD_own, slotD_bor, rs_d, rs_s, rss_nil, rss_cons, T_op2, T_op2L, T_op1, T_opN, T_opNL, T_eBin, T_lBin, T_eUn, T_eFn, T_lFn, T_oNil, T_oCons, T_aNil, T_aCons, T_eTup, T_lLst, TB_bool, T_tOf, T_mTru, br_true, br_false, T_mAnd, T_mOr, T_mNot, T_eAnd, T_eOr, T_eNot, T_eIf, T_lIf, T_eChain, T_eIsi, T_mCall, T_mCallK, CB_own, CB_bor, T_mCallB, T_mCallT, TSV_val, TSV_own, T_eSV, TSL_own, T_lSV, sq_nx, sq_rt, sq_bk, sq_ct, T_sSeq, T_sSkip, T_sExpr, T_sRetV, T_sRetL, T_sRetS, T_sRetN, TRN_val, TRN_own, T_sRetName, T_sIf, T_sSetV, T_sSetL, TSet_val, TSet_own, T_sSetS, L2T_two, L3T_three, T_sPar, T_sPar3, T_sParL, T_sAug, T_sAsg, gN_eq, gT_eq, gsNil_eq, gsCons_eq, IX_own, IX_bor, O_gIx, T_mNoPart, TI_int, T_mPart, TLs_list, TTs_tuple, T_lCut, T_eCut, LO_nil, LO_cons, T_lOr, TAny_list, TAny_tuple, T_iAny, T_iEnumD, TZ_list, TZ_tuple, T_iZipD, TRg1_int, T_iRange1, TRg2_int, T_iRange2, TRg3_int, T_iRange3, lpK_nx, lpK_ct, lpK_bk, lpK_rt, fcK_nx, fcK_ct, fcK_bk, fcK_rt, wlK_nx, wlK_ct, wlK_bk, wlK_rt, wipe_nil, wipe_cons, back_nil, back_cons, noC_nil, noC_cons, noC1_none, noC1_val, T_comp_nil, T_lComp, MX_own, MX_bor, isCellLst_own, isCellLst_bor, T_eMut, T_eMeth, RP_lst, T_lRep, gL_eq, T_sParLL, T_sParVL, RG_int, T_lRange1, T_inK, T_eInK, T_eNinK, dictD_own, keyD_int, T_lDict, TO_nx, TO_val, TO_own, T0_bor, O_mkP, O_mkB, O_some, O_none, O_ite, O_bind, O_map, fAdd_i, fAddI_i, fSub_i, fMul_i, fDiv_i, fMod_i, fShl_i, fAnd_i, fXor_i, fShr_i, fLt_i, fLe_i, fGt_i, fGe_i, fEq_i, fNe_i, fNeg_i, ixN_3_0, ixN_3_1, ixN_3_2, ixN_2_0, ixN_2_1, ixN_1_0, truD_i, truD_b, intD_i, intD_b, absD_i, lenD_l, lenD_t, tupleD_l, tupleD_t, listD_l, listD_t, List.map_cons, List.map_nil, List.length_cons, List.length_nil, List.cons_append, List.nil_append, List.replicate_succ, List.replicate_zero, List.set_cons_zero, List.set_cons_succ, List.getElem?_cons_zero, List.getElem?_cons_succ, Option.getD_some, Option.bind_some, Option.map_some, true_and, and_true, Bool.false_eq_true, Nat.reduceAdd, Nat.reduceSub, Nat.reduceLeDiff, Nat.le_refl, Bool.and_true, Bool.and_self, Bool.not_true, Bool.not_false, if_true, if_false, reduceIte, Nat.zero_add, Nat.sub_self, List.map_id]
theorem is_bit_ok {i : Int} (h : i = 0 ∨ i = 1) : F_is_bit [.int i] = some (.val (.bool true)) := by
  apply O_is.mp
  unfold F_is_bit b_is_bit F_is_within b_is_within F_is_number b_is_number
  rcases h with rfl | rfl
  · simp only [T_ret, T_eName, TN_val, TN_own, T_oName, TR_some, T_oVal, T_eC, T_eFrz, celD_lst, slotD_val, slotD_own, slotD_bor, rs_d, rs_s, rss_nil, rss_cons, T_op2, T_op2L, T_op1, T_opN, T_opNL, T_eBin, T_lBin, T_eUn, T_eFn, T_lFn, T_oNil, T_oCons, T_aNil, T_aCons, T_eTup, T_lLst, TB_bool, T_tOf, T_mTru, br_true, br_false, T_mAnd, T_mOr, T_mNot, T_eAnd, T_eOr, T_eNot, T_eIf, T_lIf, T_eChain, T_eIsi, T_mCall, T_mCallK, CB_own, CB_bor, T_mCallB, T_mCallT, TSV_val, TSV_own, T_eSV, TSL_own, T_lSV, sq_nx, sq_rt, sq_bk, sq_ct, T_sSeq, T_sSkip, T_sExpr, T_sRetV, T_sRetL, T_sRetS, T_sRetN, TRN_val, TRN_own, T_sRetName, T_sIf, T_sSetV, T_sSetL, TSet_val, TSet_own, T_sSetS, L2T_two, L3T_three, T_sPar, T_sPar3, T_sParL, T_sAug, T_sAsg, gN_eq, gT_eq, gsNil_eq, gsCons_eq, IX_own, IX_bor, O_gIx, T_mNoPart, TI_int, T_mPart, TLs_list, TTs_tuple, T_lCut, T_eCut, LO_nil, LO_cons, T_lOr, TAny_list, TAny_tuple, T_iAny, T_iEnumD, TZ_list, TZ_tuple, T_iZipD, TRg1_int, T_iRange1, TRg2_int, T_iRange2, TRg3_int, T_iRange3, lpK_nx, lpK_ct, lpK_bk, lpK_rt, fcK_nx, fcK_ct, fcK_bk, fcK_rt, wlK_nx, wlK_ct, wlK_bk, wlK_rt, wipe_nil, wipe_cons, back_nil, back_cons, noC_nil, noC_cons, noC1_none, noC1_val, T_comp_nil, T_lComp, MX_own, MX_bor, isCellLst_own, isCellLst_bor, T_eMut, T_eMeth, RP_lst, T_lRep, gL_eq, T_sParLL, T_sParVL, RG_int, T_lRange1, T_inK, T_eInK, T_eNinK, dictD_own, keyD_int, T_lDict, TO_nx, TO_val, TO_own, T0_bor, O_mkP, O_mkB, O_some, O_none, O_ite, O_bind, O_map, fAdd_i, fAddI_i, fSub_i, fMul_i, fDiv_i, fMod_i, fShl_i, fAnd_i, fXor_i, fShr_i, fLt_i, fLe_i, fGt_i, fGe_i, fEq_i, fNe_i, fNeg_i, ixN_3_0, ixN_3_1, ixN_3_2, ixN_2_0, ixN_2_1, ixN_1_0, truD_i, truD_b, intD_i, intD_b, absD_i, lenD_l, lenD_t, tupleD_l, tupleD_t, listD_l, listD_t, List.map_cons, List.map_nil, List.length_cons, List.length_nil, List.cons_append, List.nil_append, List.replicate_succ, List.replicate_zero, List.set_cons_zero, List.set_cons_succ, List.getElem?_cons_zero, List.getElem?_cons_succ, Option.getD_some, Option.bind_some, Option.map_some, true_and, and_true, Bool.false_eq_true, Nat.reduceAdd, Nat.reduceSub, Nat.reduceLeDiff, Nat.le_refl, Bool.and_true, Bool.and_self, Bool.not_true, Bool.not_false, if_true, if_false, reduceIte, Nat.zero_add, Nat.sub_self, isTys_int_int, isTys_bool_int, Int.reduceLE, decide_true]
  · simp only [T_ret, T_eName, TN_val, TN_own, T_oName, TR_some, T_oVal, T_eC, T_eFrz, celD_lst, slotD_val, slotD_own, slotD_bor, rs_d, rs_s, rss_nil, rss_cons, T_op2, T_op2L, T_op1, T_opN, T_opNL, T_eBin, T_lBin, T_eUn, T_eFn, T_lFn, T_oNil, T_oCons, T_aNil, T_aCons, T_eTup, T_lLst, TB_bool, T_tOf, T_mTru, br_true, br_false, T_mAnd, T_mOr, T_mNot, T_eAnd, T_eOr, T_eNot, T_eIf, T_lIf, T_eChain, T_eIsi, T_mCall, T_mCallK, CB_own, CB_bor, T_mCallB, T_mCallT, TSV_val, TSV_own, T_eSV, TSL_own, T_lSV, sq_nx, sq_rt, sq_bk, sq_ct, T_sSeq, T_sSkip, T_sExpr, T_sRetV, T_sRetL, T_sRetS, T_sRetN, TRN_val, TRN_own, T_sRetName, T_sIf, T_sSetV, T_sSetL, TSet_val, TSet_own, T_sSetS, L2T_two, L3T_three, T_sPar, T_sPar3, T_sParL, T_sAug, T_sAsg, gN_eq, gT_eq, gsNil_eq, gsCons_eq, IX_own, IX_bor, O_gIx, T_mNoPart, TI_int, T_mPart, TLs_list, TTs_tuple, T_lCut, T_eCut, LO_nil, LO_cons, T_lOr, TAny_list, TAny_tuple, T_iAny, T_iEnumD, TZ_list, TZ_tuple, T_iZipD, TRg1_int, T_iRange1, TRg2_int, T_iRange2, TRg3_int, T_iRange3, lpK_nx, lpK_ct, lpK_bk, lpK_rt, fcK_nx, fcK_ct, fcK_bk, fcK_rt, wlK_nx, wlK_ct, wlK_bk, wlK_rt, wipe_nil, wipe_cons, back_nil, back_cons, noC_nil, noC_cons, noC1_none, noC1_val, T_comp_nil, T_lComp, MX_own, MX_bor, isCellLst_own, isCellLst_bor, T_eMut, T_eMeth, RP_lst, T_lRep, gL_eq, T_sParLL, T_sParVL, RG_int, T_lRange1, T_inK, T_eInK, T_eNinK, dictD_own, keyD_int, T_lDict, TO_nx, TO_val, TO_own, T0_bor, O_mkP, O_mkB, O_some, O_none, O_ite, O_bind, O_map, fAdd_i, fAddI_i, fSub_i, fMul_i, fDiv_i, fMod_i, fShl_i, fAnd_i, fXor_i, fShr_i, fLt_i, fLe_i, fGt_i, fGe_i, fEq_i, fNe_i, fNeg_i, ixN_3_0, ixN_3_1, ixN_3_2, ixN_2_0, ixN_2_1, ixN_1_0, truD_i, truD_b, intD_i, intD_b, absD_i, lenD_l, lenD_t, tupleD_l, tupleD_t, listD_l, listD_t, List.map_cons, List.map_nil, List.length_cons, List.length_nil, List.cons_append, List.nil_append, List.replicate_succ, List.replicate_zero, List.set_cons_zero, List.set_cons_succ, List.getElem?_cons_zero, List.getElem?_cons_succ, Option.getD_some, Option.bind_some, Option.map_some, true_and, and_true, Bool.false_eq_true, Nat.reduceAdd, Nat.reduceSub, Nat.reduceLeDiff, Nat.le_refl, Bool.and_true, Bool.and_self, Bool.not_true, Bool.not_false, if_true, if_false, reduceIte, Nat.zero_add, Nat.sub_self, isTys_int_int, isTys_bool_int, Int.reduceLE, decide_true]
theorem mixed_int {n : Nat} {c : Cel} {i : Int} : R__law_mixed (n + 1) c [.int i] = some (.val (.int i), c) := by
  apply O_is.mp
  unfold R__law_mixed b__law_mixed
  simp only [T_ret, T_eName, TN_val, TN_own, T_oName, TR_some, T_oVal, T_eC, T_eFrz, celD_lst, slotD_val, slotD_own, slotD_bor, rs_d, rs_s, rss_nil, rss_cons, T_op2, T_op2L, T_op1, T_opN, T_opNL, T_eBin, T_lBin, T_eUn, T_eFn, T_lFn, T_oNil, T_oCons, T_aNil, T_aCons, T_eTup, T_lLst, TB_bool, T_tOf, T_mTru, br_true, br_false, T_mAnd, T_mOr, T_mNot, T_eAnd, T_eOr, T_eNot, T_eIf, T_lIf, T_eChain, T_eIsi, T_mCall, T_mCallK, CB_own, CB_bor, T_mCallB, T_mCallT, TSV_val, TSV_own, T_eSV, TSL_own, T_lSV, sq_nx, sq_rt, sq_bk, sq_ct, T_sSeq, T_sSkip, T_sExpr, T_sRetV, T_sRetL, T_sRetS, T_sRetN, TRN_val, TRN_own, T_sRetName, T_sIf, T_sSetV, T_sSetL, TSet_val, TSet_own, T_sSetS, L2T_two, L3T_three, T_sPar, T_sPar3, T_sParL, T_sAug, T_sAsg, gN_eq, gT_eq, gsNil_eq, gsCons_eq, IX_own, IX_bor, O_gIx, T_mNoPart, TI_int, T_mPart, TLs_list, TTs_tuple, T_lCut, T_eCut, LO_nil, LO_cons, T_lOr, TAny_list, TAny_tuple, T_iAny, T_iEnumD, TZ_list, TZ_tuple, T_iZipD, TRg1_int, T_iRange1, TRg2_int, T_iRange2, TRg3_int, T_iRange3, lpK_nx, lpK_ct, lpK_bk, lpK_rt, fcK_nx, fcK_ct, fcK_bk, fcK_rt, wlK_nx, wlK_ct, wlK_bk, wlK_rt, wipe_nil, wipe_cons, back_nil, back_cons, noC_nil, noC_cons, noC1_none, noC1_val, T_comp_nil, T_lComp, MX_own, MX_bor, isCellLst_own, isCellLst_bor, T_eMut, T_eMeth, RP_lst, T_lRep, gL_eq, T_sParLL, T_sParVL, RG_int, T_lRange1, T_inK, T_eInK, T_eNinK, dictD_own, keyD_int, T_lDict, TO_nx, TO_val, TO_own, T0_bor, O_mkP, O_mkB, O_some, O_none, O_ite, O_bind, O_map, fAdd_i, fAddI_i, fSub_i, fMul_i, fDiv_i, fMod_i, fShl_i, fAnd_i, fXor_i, fShr_i, fLt_i, fLe_i, fGt_i, fGe_i, fEq_i, fNe_i, fNeg_i, ixN_3_0, ixN_3_1, ixN_3_2, ixN_2_0, ixN_2_1, ixN_1_0, truD_i, truD_b, intD_i, intD_b, absD_i, lenD_l, lenD_t, tupleD_l, tupleD_t, listD_l, listD_t, List.map_cons, List.map_nil, List.length_cons, List.length_nil, List.cons_append, List.nil_append, List.replicate_succ, List.replicate_zero, List.set_cons_zero, List.set_cons_succ, List.getElem?_cons_zero, List.getElem?_cons_succ, Option.getD_some, Option.bind_some, Option.map_some, true_and, and_true, Bool.false_eq_true, Nat.reduceAdd, Nat.reduceSub, Nat.reduceLeDiff, Nat.le_refl, Bool.and_true, Bool.and_self, Bool.not_true, Bool.not_false, if_true, if_false, reduceIte, Nat.zero_add, Nat.sub_self, isTys_lt_int]
theorem mixed_tab {n k k0 : Nat} {c : Cel} {f : Nat → Int} (hk : k ≤ 1000000) (hb : Box k0 c) (h0 : k0 < 2 ^ 40) : O (R__law_mixed (n + 2) c [.tuple (tb k f)]) fun p => (p.1 = .val (.tuple (tb k f)) ∨ p.1 = .val (.list (tb k f))) ∧ Box (k0 + 1) p.2 := by
  unfold R__law_mixed b__law_mixed
  simp only [T_ret, T_eName, TN_val, TN_own, T_oName, TR_some, T_oVal, T_eC, T_eFrz, celD_lst, slotD_val, slotD_own, slotD_bor, rs_d, rs_s, rss_nil, rss_cons, T_op2, T_op2L, T_op1, T_opN, T_opNL, T_eBin, T_lBin, T_eUn, T_eFn, T_lFn, T_oNil, T_oCons, T_aNil, T_aCons, T_eTup, T_lLst, TB_bool, T_tOf, T_mTru, br_true, br_false, T_mAnd, T_mOr, T_mNot, T_eAnd, T_eOr, T_eNot, T_eIf, T_lIf, T_eChain, T_eIsi, T_mCall, T_mCallK, CB_own, CB_bor, T_mCallB, T_mCallT, TSV_val, TSV_own, T_eSV, TSL_own, T_lSV, sq_nx, sq_rt, sq_bk, sq_ct, T_sSeq, T_sSkip, T_sExpr, T_sRetV, T_sRetL, T_sRetS, T_sRetN, TRN_val, TRN_own, T_sRetName, T_sIf, T_sSetV, T_sSetL, TSet_val, TSet_own, T_sSetS, L2T_two, L3T_three, T_sPar, T_sPar3, T_sParL, T_sAug, T_sAsg, gN_eq, gT_eq, gsNil_eq, gsCons_eq, IX_own, IX_bor, O_gIx, T_mNoPart, TI_int, T_mPart, TLs_list, TTs_tuple, T_lCut, T_eCut, LO_nil, LO_cons, T_lOr, TAny_list, TAny_tuple, T_iAny, T_iEnumD, TZ_list, TZ_tuple, T_iZipD, TRg1_int, T_iRange1, TRg2_int, T_iRange2, TRg3_int, T_iRange3, lpK_nx, lpK_ct, lpK_bk, lpK_rt, fcK_nx, fcK_ct, fcK_bk, fcK_rt, wlK_nx, wlK_ct, wlK_bk, wlK_rt, wipe_nil, wipe_cons, back_nil, back_cons, noC_nil, noC_cons, noC1_none, noC1_val, T_comp_nil, T_lComp, MX_own, MX_bor, isCellLst_own, isCellLst_bor, T_eMut, T_eMeth, RP_lst, T_lRep, gL_eq, T_sParLL, T_sParVL, RG_int, T_lRange1, T_inK, T_eInK, T_eNinK, dictD_own, keyD_int, T_lDict, TO_nx, TO_val, TO_own, T0_bor, O_mkP, O_mkB, O_some, O_none, O_ite, O_bind, O_map, fAdd_i, fAddI_i, fSub_i, fMul_i, fDiv_i, fMod_i, fShl_i, fAnd_i, fXor_i, fShr_i, fLt_i, fLe_i, fGt_i, fGe_i, fEq_i, fNe_i, fNeg_i, ixN_3_0, ixN_3_1, ixN_3_2, ixN_2_0, ixN_2_1, ixN_1_0, truD_i, truD_b, intD_i, intD_b, absD_i, lenD_l, lenD_t, tupleD_l, tupleD_t, listD_l, listD_t, List.map_cons, List.map_nil, List.length_cons, List.length_nil, List.cons_append, List.nil_append, List.replicate_succ, List.replicate_zero, List.set_cons_zero, List.set_cons_succ, List.getElem?_cons_zero, List.getElem?_cons_succ, Option.getD_some, Option.bind_some, Option.map_some, true_and, and_true, Bool.false_eq_true, Nat.reduceAdd, Nat.reduceSub, Nat.reduceLeDiff, Nat.le_refl, Bool.and_true, Bool.and_self, Bool.not_true, Bool.not_false, if_true, if_false, reduceIte, Nat.zero_add, Nat.sub_self, isTys_lt_tuple, tb_len]
  refine ⟨hk, T_compMap id ?_ ?_⟩
  · intro d hd
    obtain ⟨j, hj, rfl⟩ := tb_mem hd
    simp only [T_ret, T_eName, TN_val, TN_own, T_oName, TR_some, T_oVal, T_eC, T_eFrz, celD_lst, slotD_val, slotD_own, slotD_bor, rs_d, rs_s, rss_nil, rss_cons, T_op2, T_op2L, T_op1, T_opN, T_opNL, T_eBin, T_lBin, T_eUn, T_eFn, T_lFn, T_oNil, T_oCons, T_aNil, T_aCons, T_eTup, T_lLst, TB_bool, T_tOf, T_mTru, br_true, br_false, T_mAnd, T_mOr, T_mNot, T_eAnd, T_eOr, T_eNot, T_eIf, T_lIf, T_eChain, T_eIsi, T_mCall, T_mCallK, CB_own, CB_bor, T_mCallB, T_mCallT, TSV_val, TSV_own, T_eSV, TSL_own, T_lSV, sq_nx, sq_rt, sq_bk, sq_ct, T_sSeq, T_sSkip, T_sExpr, T_sRetV, T_sRetL, T_sRetS, T_sRetN, TRN_val, TRN_own, T_sRetName, T_sIf, T_sSetV, T_sSetL, TSet_val, TSet_own, T_sSetS, L2T_two, L3T_three, T_sPar, T_sPar3, T_sParL, T_sAug, T_sAsg, gN_eq, gT_eq, gsNil_eq, gsCons_eq, IX_own, IX_bor, O_gIx, T_mNoPart, TI_int, T_mPart, TLs_list, TTs_tuple, T_lCut, T_eCut, LO_nil, LO_cons, T_lOr, TAny_list, TAny_tuple, T_iAny, T_iEnumD, TZ_list, TZ_tuple, T_iZipD, TRg1_int, T_iRange1, TRg2_int, T_iRange2, TRg3_int, T_iRange3, lpK_nx, lpK_ct, lpK_bk, lpK_rt, fcK_nx, fcK_ct, fcK_bk, fcK_rt, wlK_nx, wlK_ct, wlK_bk, wlK_rt, wipe_nil, wipe_cons, back_nil, back_cons, noC_nil, noC_cons, noC1_none, noC1_val, T_comp_nil, T_lComp, MX_own, MX_bor, isCellLst_own, isCellLst_bor, T_eMut, T_eMeth, RP_lst, T_lRep, gL_eq, T_sParLL, T_sParVL, RG_int, T_lRange1, T_inK, T_eInK, T_eNinK, dictD_own, keyD_int, T_lDict, TO_nx, TO_val, TO_own, T0_bor, O_mkP, O_mkB, O_some, O_none, O_ite, O_bind, O_map, fAdd_i, fAddI_i, fSub_i, fMul_i, fDiv_i, fMod_i, fShl_i, fAnd_i, fXor_i, fShr_i, fLt_i, fLe_i, fGt_i, fGe_i, fEq_i, fNe_i, fNeg_i, ixN_3_0, ixN_3_1, ixN_3_2, ixN_2_0, ixN_2_1, ixN_1_0, truD_i, truD_b, intD_i, intD_b, absD_i, lenD_l, lenD_t, tupleD_l, tupleD_t, listD_l, listD_t, List.map_cons, List.map_nil, List.length_cons, List.length_nil, List.cons_append, List.nil_append, List.replicate_succ, List.replicate_zero, List.set_cons_zero, List.set_cons_succ, List.getElem?_cons_zero, List.getElem?_cons_succ, Option.getD_some, Option.bind_some, Option.map_some, true_and, and_true, Bool.false_eq_true, Nat.reduceAdd, Nat.reduceSub, Nat.reduceLeDiff, Nat.le_refl, Bool.and_true, Bool.and_self, Bool.not_true, Bool.not_false, if_true, if_false, reduceIte, Nat.zero_add, Nat.sub_self, mixed_int]
    rfl
  · simp only [T_ret, T_eName, TN_val, TN_own, T_oName, TR_some, T_oVal, T_eC, T_eFrz, celD_lst, slotD_val, slotD_own, slotD_bor, rs_d, rs_s, rss_nil, rss_cons, T_op2, T_op2L, T_op1, T_opN, T_opNL, T_eBin, T_lBin, T_eUn, T_eFn, T_lFn, T_oNil, T_oCons, T_aNil, T_aCons, T_eTup, T_lLst, TB_bool, T_tOf, T_mTru, br_true, br_false, T_mAnd, T_mOr, T_mNot, T_eAnd, T_eOr, T_eNot, T_eIf, T_lIf, T_eChain, T_eIsi, T_mCall, T_mCallK, CB_own, CB_bor, T_mCallB, T_mCallT, TSV_val, TSV_own, T_eSV, TSL_own, T_lSV, sq_nx, sq_rt, sq_bk, sq_ct, T_sSeq, T_sSkip, T_sExpr, T_sRetV, T_sRetL, T_sRetS, T_sRetN, TRN_val, TRN_own, T_sRetName, T_sIf, T_sSetV, T_sSetL, TSet_val, TSet_own, T_sSetS, L2T_two, L3T_three, T_sPar, T_sPar3, T_sParL, T_sAug, T_sAsg, gN_eq, gT_eq, gsNil_eq, gsCons_eq, IX_own, IX_bor, O_gIx, T_mNoPart, TI_int, T_mPart, TLs_list, TTs_tuple, T_lCut, T_eCut, LO_nil, LO_cons, T_lOr, TAny_list, TAny_tuple, T_iAny, T_iEnumD, TZ_list, TZ_tuple, T_iZipD, TRg1_int, T_iRange1, TRg2_int, T_iRange2, TRg3_int, T_iRange3, lpK_nx, lpK_ct, lpK_bk, lpK_rt, fcK_nx, fcK_ct, fcK_bk, fcK_rt, wlK_nx, wlK_ct, wlK_bk, wlK_rt, wipe_nil, wipe_cons, back_nil, back_cons, noC_nil, noC_cons, noC1_none, noC1_val, T_comp_nil, T_lComp, MX_own, MX_bor, isCellLst_own, isCellLst_bor, T_eMut, T_eMeth, RP_lst, T_lRep, gL_eq, T_sParLL, T_sParVL, RG_int, T_lRange1, T_inK, T_eInK, T_eNinK, dictD_own, keyD_int, T_lDict, TO_nx, TO_val, TO_own, T0_bor, O_mkP, O_mkB, O_some, O_none, O_ite, O_bind, O_map, fAdd_i, fAddI_i, fSub_i, fMul_i, fDiv_i, fMod_i, fShl_i, fAnd_i, fXor_i, fShr_i, fLt_i, fLe_i, fGt_i, fGe_i, fEq_i, fNe_i, fNeg_i, ixN_3_0, ixN_3_1, ixN_3_2, ixN_2_0, ixN_2_1, ixN_1_0, truD_i, truD_b, intD_i, intD_b, absD_i, lenD_l, lenD_t, tupleD_l, tupleD_t, listD_l, listD_t, List.map_cons, List.map_nil, List.length_cons, List.length_nil, List.cons_append, List.nil_append, List.replicate_succ, List.replicate_zero, List.set_cons_zero, List.set_cons_succ, List.getElem?_cons_zero, List.getElem?_cons_succ, Option.getD_some, Option.bind_some, Option.map_some, true_and, and_true, Bool.false_eq_true, Nat.reduceAdd, Nat.reduceSub, Nat.reduceLeDiff, Nat.le_refl, Bool.and_true, Bool.and_self, Bool.not_true, Bool.not_false, if_true, if_false, reduceIte, Nat.zero_add, Nat.sub_self, List.map_id]
    refine O_mono (take_ok k0 c 2 hb h0 (by decide) (by decide)) ?_
    rintro ⟨r, c'⟩ ⟨v, rfl, h1, h2, h3⟩
    simp only [T_ret, T_eName, TN_val, TN_own, T_oName, TR_some, T_oVal, T_eC, T_eFrz, celD_lst, slotD_val, slotD_own, slotD_bor, rs_d, rs_s, rss_nil, rss_cons, T_op2, T_op2L, T_op1, T_opN, T_opNL, T_eBin, T_lBin, T_eUn, T_eFn, T_lFn, T_oNil, T_oCons, T_aNil, T_aCons, T_eTup, T_lLst, TB_bool, T_tOf, T_mTru, br_true, br_false, T_mAnd, T_mOr, T_mNot, T_eAnd, T_eOr, T_eNot, T_eIf, T_lIf, T_eChain, T_eIsi, T_mCall, T_mCallK, CB_own, CB_bor, T_mCallB, T_mCallT, TSV_val, TSV_own, T_eSV, TSL_own, T_lSV, sq_nx, sq_rt, sq_bk, sq_ct, T_sSeq, T_sSkip, T_sExpr, T_sRetV, T_sRetL, T_sRetS, T_sRetN, TRN_val, TRN_own, T_sRetName, T_sIf, T_sSetV, T_sSetL, TSet_val, TSet_own, T_sSetS, L2T_two, L3T_three, T_sPar, T_sPar3, T_sParL, T_sAug, T_sAsg, gN_eq, gT_eq, gsNil_eq, gsCons_eq, IX_own, IX_bor, O_gIx, T_mNoPart, TI_int, T_mPart, TLs_list, TTs_tuple, T_lCut, T_eCut, LO_nil, LO_cons, T_lOr, TAny_list, TAny_tuple, T_iAny, T_iEnumD, TZ_list, TZ_tuple, T_iZipD, TRg1_int, T_iRange1, TRg2_int, T_iRange2, TRg3_int, T_iRange3, lpK_nx, lpK_ct, lpK_bk, lpK_rt, fcK_nx, fcK_ct, fcK_bk, fcK_rt, wlK_nx, wlK_ct, wlK_bk, wlK_rt, wipe_nil, wipe_cons, back_nil, back_cons, noC_nil, noC_cons, noC1_none, noC1_val, T_comp_nil, T_lComp, MX_own, MX_bor, isCellLst_own, isCellLst_bor, T_eMut, T_eMeth, RP_lst, T_lRep, gL_eq, T_sParLL, T_sParVL, RG_int, T_lRange1, T_inK, T_eInK, T_eNinK, dictD_own, keyD_int, T_lDict, TO_nx, TO_val, TO_own, T0_bor, O_mkP, O_mkB, O_some, O_none, O_ite, O_bind, O_map, fAdd_i, fAddI_i, fSub_i, fMul_i, fDiv_i, fMod_i, fShl_i, fAnd_i, fXor_i, fShr_i, fLt_i, fLe_i, fGt_i, fGe_i, fEq_i, fNe_i, fNeg_i, ixN_3_0, ixN_3_1, ixN_3_2, ixN_2_0, ixN_2_1, ixN_1_0, truD_i, truD_b, intD_i, intD_b, absD_i, lenD_l, lenD_t, tupleD_l, tupleD_t, listD_l, listD_t, List.map_cons, List.map_nil, List.length_cons, List.length_nil, List.cons_append, List.nil_append, List.replicate_succ, List.replicate_zero, List.set_cons_zero, List.set_cons_succ, List.getElem?_cons_zero, List.getElem?_cons_succ, Option.getD_some, Option.bind_some, Option.map_some, true_and, and_true, Bool.false_eq_true, Nat.reduceAdd, Nat.reduceSub, Nat.reduceLeDiff, Nat.le_refl, Bool.and_true, Bool.and_self, Bool.not_true, Bool.not_false, if_true, if_false, reduceIte, Nat.zero_add, Nat.sub_self]
    exact ⟨fun _ => ⟨.inr trivial, h3⟩, fun _ => ⟨.inl trivial, h3⟩⟩
theorem sameR_int {n : Nat} {i : Int} : R__law_same (n + 1) [.int i, .int i] = some (.val (.bool true)) := by
  apply O_is.mp
  unfold R__law_same b__law_same
  simp only [T_ret, T_eName, TN_val, TN_own, T_oName, TR_some, T_oVal, T_eC, T_eFrz, celD_lst, slotD_val, slotD_own, slotD_bor, rs_d, rs_s, rss_nil, rss_cons, T_op2, T_op2L, T_op1, T_opN, T_opNL, T_eBin, T_lBin, T_eUn, T_eFn, T_lFn, T_oNil, T_oCons, T_aNil, T_aCons, T_eTup, T_lLst, TB_bool, T_tOf, T_mTru, br_true, br_false, T_mAnd, T_mOr, T_mNot, T_eAnd, T_eOr, T_eNot, T_eIf, T_lIf, T_eChain, T_eIsi, T_mCall, T_mCallK, CB_own, CB_bor, T_mCallB, T_mCallT, TSV_val, TSV_own, T_eSV, TSL_own, T_lSV, sq_nx, sq_rt, sq_bk, sq_ct, T_sSeq, T_sSkip, T_sExpr, T_sRetV, T_sRetL, T_sRetS, T_sRetN, TRN_val, TRN_own, T_sRetName, T_sIf, T_sSetV, T_sSetL, TSet_val, TSet_own, T_sSetS, L2T_two, L3T_three, T_sPar, T_sPar3, T_sParL, T_sAug, T_sAsg, gN_eq, gT_eq, gsNil_eq, gsCons_eq, IX_own, IX_bor, O_gIx, T_mNoPart, TI_int, T_mPart, TLs_list, TTs_tuple, T_lCut, T_eCut, LO_nil, LO_cons, T_lOr, TAny_list, TAny_tuple, T_iAny, T_iEnumD, TZ_list, TZ_tuple, T_iZipD, TRg1_int, T_iRange1, TRg2_int, T_iRange2, TRg3_int, T_iRange3, lpK_nx, lpK_ct, lpK_bk, lpK_rt, fcK_nx, fcK_ct, fcK_bk, fcK_rt, wlK_nx, wlK_ct, wlK_bk, wlK_rt, wipe_nil, wipe_cons, back_nil, back_cons, noC_nil, noC_cons, noC1_none, noC1_val, T_comp_nil, T_lComp, MX_own, MX_bor, isCellLst_own, isCellLst_bor, T_eMut, T_eMeth, RP_lst, T_lRep, gL_eq, T_sParLL, T_sParVL, RG_int, T_lRange1, T_inK, T_eInK, T_eNinK, dictD_own, keyD_int, T_lDict, TO_nx, TO_val, TO_own, T0_bor, O_mkP, O_mkB, O_some, O_none, O_ite, O_bind, O_map, fAdd_i, fAddI_i, fSub_i, fMul_i, fDiv_i, fMod_i, fShl_i, fAnd_i, fXor_i, fShr_i, fLt_i, fLe_i, fGt_i, fGe_i, fEq_i, fNe_i, fNeg_i, ixN_3_0, ixN_3_1, ixN_3_2, ixN_2_0, ixN_2_1, ixN_1_0, truD_i, truD_b, intD_i, intD_b, absD_i, lenD_l, lenD_t, tupleD_l, tupleD_t, listD_l, listD_t, List.map_cons, List.map_nil, List.length_cons, List.length_nil, List.cons_append, List.nil_append, List.replicate_succ, List.replicate_zero, List.set_cons_zero, List.set_cons_succ, List.getElem?_cons_zero, List.getElem?_cons_succ, Option.getD_some, Option.bind_some, Option.map_some, true_and, and_true, Bool.false_eq_true, Nat.reduceAdd, Nat.reduceSub, Nat.reduceLeDiff, Nat.le_refl, Bool.and_true, Bool.and_self, Bool.not_true, Bool.not_false, if_true, if_false, reduceIte, Nat.zero_add, Nat.sub_self, isTys_lt_int, isTys_int_int, isTys_bool_int, show isTys ["bool", "str"] (.int i) = false from rfl, fIsN_i, decide_true]
theorem all_true {α : Type} {ds : List α} : allD [.list (ds.map fun _ => PyData.bool true)] = some (.bool true) := by
  have hb : boolsOf (ds.map fun _ => PyData.bool true) = some (List.replicate ds.length true) := by
    have : (ds.map fun _ => PyData.bool true) = (List.replicate ds.length true).map PyData.bool := by
      rw [List.map_const', List.map_replicate]
    rw [this]; exact boolsOf_map _
  rw [allD_l, hb, Option.map_some, List.all_replicate]
  simp
theorem zip_self {ds : List D} : zipD ds ds = ds.map fun d => .tuple [d, d] := by
  unfold zipD
  induction ds with
  | nil => rfl
  | cons a b ih => rw [List.zip_cons_cons, List.map_cons, List.map_cons, ih]
theorem sameR_list {n : Nat} {ds : List D} (hl : ds.length ≤ 1000000) (h : ∀ d ∈ ds, R__law_same n [d, d] = some (.val (.bool true))) : R__law_same (n + 1) [.list ds, .list ds] = some (.val (.bool true)) := by
  apply O_is.mp
  unfold R__law_same b__law_same
  simp only [T_ret, T_eName, TN_val, TN_own, T_oName, TR_some, T_oVal, T_eC, T_eFrz, celD_lst, slotD_val, slotD_own, slotD_bor, rs_d, rs_s, rss_nil, rss_cons, T_op2, T_op2L, T_op1, T_opN, T_opNL, T_eBin, T_lBin, T_eUn, T_eFn, T_lFn, T_oNil, T_oCons, T_aNil, T_aCons, T_eTup, T_lLst, TB_bool, T_tOf, T_mTru, br_true, br_false, T_mAnd, T_mOr, T_mNot, T_eAnd, T_eOr, T_eNot, T_eIf, T_lIf, T_eChain, T_eIsi, T_mCall, T_mCallK, CB_own, CB_bor, T_mCallB, T_mCallT, TSV_val, TSV_own, T_eSV, TSL_own, T_lSV, sq_nx, sq_rt, sq_bk, sq_ct, T_sSeq, T_sSkip, T_sExpr, T_sRetV, T_sRetL, T_sRetS, T_sRetN, TRN_val, TRN_own, T_sRetName, T_sIf, T_sSetV, T_sSetL, TSet_val, TSet_own, T_sSetS, L2T_two, L3T_three, T_sPar, T_sPar3, T_sParL, T_sAug, T_sAsg, gN_eq, gT_eq, gsNil_eq, gsCons_eq, IX_own, IX_bor, O_gIx, T_mNoPart, TI_int, T_mPart, TLs_list, TTs_tuple, T_lCut, T_eCut, LO_nil, LO_cons, T_lOr, TAny_list, TAny_tuple, T_iAny, T_iEnumD, TZ_list, TZ_tuple, T_iZipD, TRg1_int, T_iRange1, TRg2_int, T_iRange2, TRg3_int, T_iRange3, lpK_nx, lpK_ct, lpK_bk, lpK_rt, fcK_nx, fcK_ct, fcK_bk, fcK_rt, wlK_nx, wlK_ct, wlK_bk, wlK_rt, wipe_nil, wipe_cons, back_nil, back_cons, noC_nil, noC_cons, noC1_none, noC1_val, T_comp_nil, T_lComp, MX_own, MX_bor, isCellLst_own, isCellLst_bor, T_eMut, T_eMeth, RP_lst, T_lRep, gL_eq, T_sParLL, T_sParVL, RG_int, T_lRange1, T_inK, T_eInK, T_eNinK, dictD_own, keyD_int, T_lDict, TO_nx, TO_val, TO_own, T0_bor, O_mkP, O_mkB, O_some, O_none, O_ite, O_bind, O_map, fAdd_i, fAddI_i, fSub_i, fMul_i, fDiv_i, fMod_i, fShl_i, fAnd_i, fXor_i, fShr_i, fLt_i, fLe_i, fGt_i, fGe_i, fEq_i, fNe_i, fNeg_i, ixN_3_0, ixN_3_1, ixN_3_2, ixN_2_0, ixN_2_1, ixN_1_0, truD_i, truD_b, intD_i, intD_b, absD_i, lenD_l, lenD_t, tupleD_l, tupleD_t, listD_l, listD_t, List.map_cons, List.map_nil, List.length_cons, List.length_nil, List.cons_append, List.nil_append, List.replicate_succ, List.replicate_zero, List.set_cons_zero, List.set_cons_succ, List.getElem?_cons_zero, List.getElem?_cons_succ, Option.getD_some, Option.bind_some, Option.map_some, true_and, and_true, Bool.false_eq_true, Nat.reduceAdd, Nat.reduceSub, Nat.reduceLeDiff, Nat.le_refl, Bool.and_true, Bool.and_self, Bool.not_true, Bool.not_false, if_true, if_false, reduceIte, Nat.zero_add, Nat.sub_self, isTys_lt_list, fNe_b, decide_true, zip_self, List.length_map]
  refine ⟨hl, T_compMap (fun _ => .bool true) ?_ ?_⟩
  · intro d hd
    obtain ⟨e, he, rfl⟩ := List.mem_map.mp hd
    simp only [T_ret, T_eName, TN_val, TN_own, T_oName, TR_some, T_oVal, T_eC, T_eFrz, celD_lst, slotD_val, slotD_own, slotD_bor, rs_d, rs_s, rss_nil, rss_cons, T_op2, T_op2L, T_op1, T_opN, T_opNL, T_eBin, T_lBin, T_eUn, T_eFn, T_lFn, T_oNil, T_oCons, T_aNil, T_aCons, T_eTup, T_lLst, TB_bool, T_tOf, T_mTru, br_true, br_false, T_mAnd, T_mOr, T_mNot, T_eAnd, T_eOr, T_eNot, T_eIf, T_lIf, T_eChain, T_eIsi, T_mCall, T_mCallK, CB_own, CB_bor, T_mCallB, T_mCallT, TSV_val, TSV_own, T_eSV, TSL_own, T_lSV, sq_nx, sq_rt, sq_bk, sq_ct, T_sSeq, T_sSkip, T_sExpr, T_sRetV, T_sRetL, T_sRetS, T_sRetN, TRN_val, TRN_own, T_sRetName, T_sIf, T_sSetV, T_sSetL, TSet_val, TSet_own, T_sSetS, L2T_two, L3T_three, T_sPar, T_sPar3, T_sParL, T_sAug, T_sAsg, gN_eq, gT_eq, gsNil_eq, gsCons_eq, IX_own, IX_bor, O_gIx, T_mNoPart, TI_int, T_mPart, TLs_list, TTs_tuple, T_lCut, T_eCut, LO_nil, LO_cons, T_lOr, TAny_list, TAny_tuple, T_iAny, T_iEnumD, TZ_list, TZ_tuple, T_iZipD, TRg1_int, T_iRange1, TRg2_int, T_iRange2, TRg3_int, T_iRange3, lpK_nx, lpK_ct, lpK_bk, lpK_rt, fcK_nx, fcK_ct, fcK_bk, fcK_rt, wlK_nx, wlK_ct, wlK_bk, wlK_rt, wipe_nil, wipe_cons, back_nil, back_cons, noC_nil, noC_cons, noC1_none, noC1_val, T_comp_nil, T_lComp, MX_own, MX_bor, isCellLst_own, isCellLst_bor, T_eMut, T_eMeth, RP_lst, T_lRep, gL_eq, T_sParLL, T_sParVL, RG_int, T_lRange1, T_inK, T_eInK, T_eNinK, dictD_own, keyD_int, T_lDict, TO_nx, TO_val, TO_own, T0_bor, O_mkP, O_mkB, O_some, O_none, O_ite, O_bind, O_map, fAdd_i, fAddI_i, fSub_i, fMul_i, fDiv_i, fMod_i, fShl_i, fAnd_i, fXor_i, fShr_i, fLt_i, fLe_i, fGt_i, fGe_i, fEq_i, fNe_i, fNeg_i, ixN_3_0, ixN_3_1, ixN_3_2, ixN_2_0, ixN_2_1, ixN_1_0, truD_i, truD_b, intD_i, intD_b, absD_i, lenD_l, lenD_t, tupleD_l, tupleD_t, listD_l, listD_t, List.map_cons, List.map_nil, List.length_cons, List.length_nil, List.cons_append, List.nil_append, List.replicate_succ, List.replicate_zero, List.set_cons_zero, List.set_cons_succ, List.getElem?_cons_zero, List.getElem?_cons_succ, Option.getD_some, Option.bind_some, Option.map_some, true_and, and_true, Bool.false_eq_true, Nat.reduceAdd, Nat.reduceSub, Nat.reduceLeDiff, Nat.le_refl, Bool.and_true, Bool.and_self, Bool.not_true, Bool.not_false, if_true, if_false, reduceIte, Nat.zero_add, Nat.sub_self, h e he]
  · simp only [T_ret, T_eName, TN_val, TN_own, T_oName, TR_some, T_oVal, T_eC, T_eFrz, celD_lst, slotD_val, slotD_own, slotD_bor, rs_d, rs_s, rss_nil, rss_cons, T_op2, T_op2L, T_op1, T_opN, T_opNL, T_eBin, T_lBin, T_eUn, T_eFn, T_lFn, T_oNil, T_oCons, T_aNil, T_aCons, T_eTup, T_lLst, TB_bool, T_tOf, T_mTru, br_true, br_false, T_mAnd, T_mOr, T_mNot, T_eAnd, T_eOr, T_eNot, T_eIf, T_lIf, T_eChain, T_eIsi, T_mCall, T_mCallK, CB_own, CB_bor, T_mCallB, T_mCallT, TSV_val, TSV_own, T_eSV, TSL_own, T_lSV, sq_nx, sq_rt, sq_bk, sq_ct, T_sSeq, T_sSkip, T_sExpr, T_sRetV, T_sRetL, T_sRetS, T_sRetN, TRN_val, TRN_own, T_sRetName, T_sIf, T_sSetV, T_sSetL, TSet_val, TSet_own, T_sSetS, L2T_two, L3T_three, T_sPar, T_sPar3, T_sParL, T_sAug, T_sAsg, gN_eq, gT_eq, gsNil_eq, gsCons_eq, IX_own, IX_bor, O_gIx, T_mNoPart, TI_int, T_mPart, TLs_list, TTs_tuple, T_lCut, T_eCut, LO_nil, LO_cons, T_lOr, TAny_list, TAny_tuple, T_iAny, T_iEnumD, TZ_list, TZ_tuple, T_iZipD, TRg1_int, T_iRange1, TRg2_int, T_iRange2, TRg3_int, T_iRange3, lpK_nx, lpK_ct, lpK_bk, lpK_rt, fcK_nx, fcK_ct, fcK_bk, fcK_rt, wlK_nx, wlK_ct, wlK_bk, wlK_rt, wipe_nil, wipe_cons, back_nil, back_cons, noC_nil, noC_cons, noC1_none, noC1_val, T_comp_nil, T_lComp, MX_own, MX_bor, isCellLst_own, isCellLst_bor, T_eMut, T_eMeth, RP_lst, T_lRep, gL_eq, T_sParLL, T_sParVL, RG_int, T_lRange1, T_inK, T_eInK, T_eNinK, dictD_own, keyD_int, T_lDict, TO_nx, TO_val, TO_own, T0_bor, O_mkP, O_mkB, O_some, O_none, O_ite, O_bind, O_map, fAdd_i, fAddI_i, fSub_i, fMul_i, fDiv_i, fMod_i, fShl_i, fAnd_i, fXor_i, fShr_i, fLt_i, fLe_i, fGt_i, fGe_i, fEq_i, fNe_i, fNeg_i, ixN_3_0, ixN_3_1, ixN_3_2, ixN_2_0, ixN_2_1, ixN_1_0, truD_i, truD_b, intD_i, intD_b, absD_i, lenD_l, lenD_t, tupleD_l, tupleD_t, listD_l, listD_t, List.map_cons, List.map_nil, List.length_cons, List.length_nil, List.cons_append, List.nil_append, List.replicate_succ, List.replicate_zero, List.set_cons_zero, List.set_cons_succ, List.getElem?_cons_zero, List.getElem?_cons_succ, Option.getD_some, Option.bind_some, Option.map_some, true_and, and_true, Bool.false_eq_true, Nat.reduceAdd, Nat.reduceSub, Nat.reduceLeDiff, Nat.le_refl, Bool.and_true, Bool.and_self, Bool.not_true, Bool.not_false, if_true, if_false, reduceIte, Nat.zero_add, Nat.sub_self, all_true]
theorem sameR_tab {n k : Nat} {f : Nat → Int} (hk : k ≤ 1000000) : R__law_same (n + 2) [.list (tb k f), .list (tb k f)] = some (.val (.bool true)) :=
  sameR_list (by rw [tb_len]; exact hk) fun d hd => by
    obtain ⟨j, hj, rfl⟩ := tb_mem hd
    exact sameR_int
theorem bitAnd_nat {a b : Nat} : Builtin.bitAnd (a : Int) (b : Int) = ((a &&& b : Nat) : Int) := bitAnd_pp (by omega) (by omega)
theorem bitXor_nat {a b : Nat} : Builtin.bitXor (a : Int) (b : Int) = ((a ^^^ b : Nat) : Int) := Bits.bitXor_pp (by omega) (by omega)
theorem and_lt {a b m : Nat} (ha : a < 2 ^ m) : a &&& b < 2 ^ m := Nat.lt_of_le_of_lt Nat.and_le_left ha
theorem odd_and {a b m : Nat} (hm : m ≤ 900) (ha : a < 2 ^ m) : F__law_odd [.int (Builtin.bitAnd (a : Int) (b : Int))] = some (.val (.int (pc m (a &&& b) % 2 : Nat))) := by
  rw [bitAnd_nat]; exact odd_ok hm (and_lt ha)
theorem perm_one {d : D} : permL [0] [d] = [d] := rfl
theorem same_tab {k : Nat} {f : Nat → Int} (hk : k ≤ 1000000) : F__law_same [.list (tb k f), .list (tb k f)] = some (.val (.bool true)) := sameR_tab (n := 28) hk
theorem same_ints {xs : List Int} (hk : xs.length ≤ 1000000) : ∀ n, R__law_same (n + 2) [.list (xs.map .int), .list (xs.map .int)] = some (.val (.bool true)) := fun n =>
  sameR_list (by rw [List.length_map]; exact hk) fun d hd => by
    obtain ⟨j, hj, rfl⟩ := List.mem_map.mp hd
    exact sameR_int
theorem cut_map {ns : List Int} {lo hi : Option Int} : ∃ ms : List Int, cutD (ns.map .int) lo hi = ms.map .int ∧ ms.length ≤ ns.length := by
  refine ⟨(ns.drop (HT.sIx ns.length 0 lo)).take (HT.sIx ns.length ns.length hi - HT.sIx ns.length 0 lo), ?_, ?_⟩
  · unfold PD.cutD
    rw [List.length_map, List.map_take, List.map_drop]
  · rw [List.length_take, List.length_drop]; omega
theorem enum_int {ms : List Int} {i : Nat} {d : D} (h : (enumD (ms.map .int))[i]? = some d) : i < ms.length ∧ ∃ x, d = .tuple [.int i, .int x] := by
  unfold enumD at h
  rw [List.getElem?_mapIdx, List.getElem?_map] at h
  obtain ⟨e, h1, h2⟩ := Option.map_eq_some_iff.mp h
  obtain ⟨x, h3, h4⟩ := Option.map_eq_some_iff.mp h1
  obtain ⟨h5, _⟩ := List.getElem?_eq_some_iff.mp h3
  subst h4
  exact ⟨h5, x, h2.symm⟩
theorem cells_ok {ns : List Int} (h : ns.length ≤ 63) : O (F__law_cells [.list (ns.map .int), .int 2]) fun r => ∃ xs : List Int, r = .own (.lst (xs.map .int)) ∧ xs.length ≤ 63 := by
  unfold F__law_cells b__law_cells
  obtain ⟨ms, hm, hl⟩ := cut_map (ns := ns) (lo := some 2) (hi := some 63)
  rcases ns with _ | ⟨a, _ | ⟨b, rest⟩⟩
  · simp only [T_ret, T_eName, TN_val, TN_own, T_oName, TR_some, T_oVal, T_eC, T_eFrz, celD_lst, slotD_val, slotD_own, slotD_bor, rs_d, rs_s, rss_nil, rss_cons, T_op2, T_op2L, T_op1, T_opN, T_opNL, T_eBin, T_lBin, T_eUn, T_eFn, T_lFn, T_oNil, T_oCons, T_aNil, T_aCons, T_eTup, T_lLst, TB_bool, T_tOf, T_mTru, br_true, br_false, T_mAnd, T_mOr, T_mNot, T_eAnd, T_eOr, T_eNot, T_eIf, T_lIf, T_eChain, T_eIsi, T_mCall, T_mCallK, CB_own, CB_bor, T_mCallB, T_mCallT, TSV_val, TSV_own, T_eSV, TSL_own, T_lSV, sq_nx, sq_rt, sq_bk, sq_ct, T_sSeq, T_sSkip, T_sExpr, T_sRetV, T_sRetL, T_sRetS, T_sRetN, TRN_val, TRN_own, T_sRetName, T_sIf, T_sSetV, T_sSetL, TSet_val, TSet_own, T_sSetS, L2T_two, L3T_three, T_sPar, T_sPar3, T_sParL, T_sAug, T_sAsg, gN_eq, gT_eq, gsNil_eq, gsCons_eq, IX_own, IX_bor, O_gIx, T_mNoPart, TI_int, T_mPart, TLs_list, TTs_tuple, T_lCut, T_eCut, LO_nil, LO_cons, T_lOr, TAny_list, TAny_tuple, T_iAny, T_iEnumD, TZ_list, TZ_tuple, T_iZipD, TRg1_int, T_iRange1, TRg2_int, T_iRange2, TRg3_int, T_iRange3, lpK_nx, lpK_ct, lpK_bk, lpK_rt, fcK_nx, fcK_ct, fcK_bk, fcK_rt, wlK_nx, wlK_ct, wlK_bk, wlK_rt, wipe_nil, wipe_cons, back_nil, back_cons, noC_nil, noC_cons, noC1_none, noC1_val, T_comp_nil, T_lComp, MX_own, MX_bor, isCellLst_own, isCellLst_bor, T_eMut, T_eMeth, RP_lst, T_lRep, gL_eq, T_sParLL, T_sParVL, RG_int, T_lRange1, T_inK, T_eInK, T_eNinK, dictD_own, keyD_int, T_lDict, TO_nx, TO_val, TO_own, T0_bor, O_mkP, O_mkB, O_some, O_none, O_ite, O_bind, O_map, fAdd_i, fAddI_i, fSub_i, fMul_i, fDiv_i, fMod_i, fShl_i, fAnd_i, fXor_i, fShr_i, fLt_i, fLe_i, fGt_i, fGe_i, fEq_i, fNe_i, fNeg_i, ixN_3_0, ixN_3_1, ixN_3_2, ixN_2_0, ixN_2_1, ixN_1_0, truD_i, truD_b, intD_i, intD_b, absD_i, lenD_l, lenD_t, tupleD_l, tupleD_t, listD_l, listD_t, List.map_cons, List.map_nil, List.length_cons, List.length_nil, List.cons_append, List.nil_append, List.replicate_succ, List.replicate_zero, List.set_cons_zero, List.set_cons_succ, List.getElem?_cons_zero, List.getElem?_cons_succ, Option.getD_some, Option.bind_some, Option.map_some, true_and, and_true, Bool.false_eq_true, Nat.reduceAdd, Nat.reduceSub, Nat.reduceLeDiff, Nat.le_refl, Bool.and_true, Bool.and_self, Bool.not_true, Bool.not_false, if_true, if_false, reduceIte, Nat.zero_add, Nat.sub_self, show cutD [] none (some 2) = [] from rfl, show cutD [] (some 2) (some 63) = [] from rfl, show enumD [] = [] from rfl, T_sFor]
    refine T_ret.mpr ?_
    simp only [T_ret, T_eName, TN_val, TN_own, T_oName, TR_some, T_oVal, T_eC, T_eFrz, celD_lst, slotD_val, slotD_own, slotD_bor, rs_d, rs_s, rss_nil, rss_cons, T_op2, T_op2L, T_op1, T_opN, T_opNL, T_eBin, T_lBin, T_eUn, T_eFn, T_lFn, T_oNil, T_oCons, T_aNil, T_aCons, T_eTup, T_lLst, TB_bool, T_tOf, T_mTru, br_true, br_false, T_mAnd, T_mOr, T_mNot, T_eAnd, T_eOr, T_eNot, T_eIf, T_lIf, T_eChain, T_eIsi, T_mCall, T_mCallK, CB_own, CB_bor, T_mCallB, T_mCallT, TSV_val, TSV_own, T_eSV, TSL_own, T_lSV, sq_nx, sq_rt, sq_bk, sq_ct, T_sSeq, T_sSkip, T_sExpr, T_sRetV, T_sRetL, T_sRetS, T_sRetN, TRN_val, TRN_own, T_sRetName, T_sIf, T_sSetV, T_sSetL, TSet_val, TSet_own, T_sSetS, L2T_two, L3T_three, T_sPar, T_sPar3, T_sParL, T_sAug, T_sAsg, gN_eq, gT_eq, gsNil_eq, gsCons_eq, IX_own, IX_bor, O_gIx, T_mNoPart, TI_int, T_mPart, TLs_list, TTs_tuple, T_lCut, T_eCut, LO_nil, LO_cons, T_lOr, TAny_list, TAny_tuple, T_iAny, T_iEnumD, TZ_list, TZ_tuple, T_iZipD, TRg1_int, T_iRange1, TRg2_int, T_iRange2, TRg3_int, T_iRange3, lpK_nx, lpK_ct, lpK_bk, lpK_rt, fcK_nx, fcK_ct, fcK_bk, fcK_rt, wlK_nx, wlK_ct, wlK_bk, wlK_rt, wipe_nil, wipe_cons, back_nil, back_cons, noC_nil, noC_cons, noC1_none, noC1_val, T_comp_nil, T_lComp, MX_own, MX_bor, isCellLst_own, isCellLst_bor, T_eMut, T_eMeth, RP_lst, T_lRep, gL_eq, T_sParLL, T_sParVL, RG_int, T_lRange1, T_inK, T_eInK, T_eNinK, dictD_own, keyD_int, T_lDict, TO_nx, TO_val, TO_own, T0_bor, O_mkP, O_mkB, O_some, O_none, O_ite, O_bind, O_map, fAdd_i, fAddI_i, fSub_i, fMul_i, fDiv_i, fMod_i, fShl_i, fAnd_i, fXor_i, fShr_i, fLt_i, fLe_i, fGt_i, fGe_i, fEq_i, fNe_i, fNeg_i, ixN_3_0, ixN_3_1, ixN_3_2, ixN_2_0, ixN_2_1, ixN_1_0, truD_i, truD_b, intD_i, intD_b, absD_i, lenD_l, lenD_t, tupleD_l, tupleD_t, listD_l, listD_t, List.map_cons, List.map_nil, List.length_cons, List.length_nil, List.cons_append, List.nil_append, List.replicate_succ, List.replicate_zero, List.set_cons_zero, List.set_cons_succ, List.getElem?_cons_zero, List.getElem?_cons_succ, Option.getD_some, Option.bind_some, Option.map_some, true_and, and_true, Bool.false_eq_true, Nat.reduceAdd, Nat.reduceSub, Nat.reduceLeDiff, Nat.le_refl, Bool.and_true, Bool.and_self, Bool.not_true, Bool.not_false, if_true, if_false, reduceIte, Nat.zero_add, Nat.sub_self]
    exact ⟨[0], rfl, by decide⟩
  · simp only [T_ret, T_eName, TN_val, TN_own, T_oName, TR_some, T_oVal, T_eC, T_eFrz, celD_lst, slotD_val, slotD_own, slotD_bor, rs_d, rs_s, rss_nil, rss_cons, T_op2, T_op2L, T_op1, T_opN, T_opNL, T_eBin, T_lBin, T_eUn, T_eFn, T_lFn, T_oNil, T_oCons, T_aNil, T_aCons, T_eTup, T_lLst, TB_bool, T_tOf, T_mTru, br_true, br_false, T_mAnd, T_mOr, T_mNot, T_eAnd, T_eOr, T_eNot, T_eIf, T_lIf, T_eChain, T_eIsi, T_mCall, T_mCallK, CB_own, CB_bor, T_mCallB, T_mCallT, TSV_val, TSV_own, T_eSV, TSL_own, T_lSV, sq_nx, sq_rt, sq_bk, sq_ct, T_sSeq, T_sSkip, T_sExpr, T_sRetV, T_sRetL, T_sRetS, T_sRetN, TRN_val, TRN_own, T_sRetName, T_sIf, T_sSetV, T_sSetL, TSet_val, TSet_own, T_sSetS, L2T_two, L3T_three, T_sPar, T_sPar3, T_sParL, T_sAug, T_sAsg, gN_eq, gT_eq, gsNil_eq, gsCons_eq, IX_own, IX_bor, O_gIx, T_mNoPart, TI_int, T_mPart, TLs_list, TTs_tuple, T_lCut, T_eCut, LO_nil, LO_cons, T_lOr, TAny_list, TAny_tuple, T_iAny, T_iEnumD, TZ_list, TZ_tuple, T_iZipD, TRg1_int, T_iRange1, TRg2_int, T_iRange2, TRg3_int, T_iRange3, lpK_nx, lpK_ct, lpK_bk, lpK_rt, fcK_nx, fcK_ct, fcK_bk, fcK_rt, wlK_nx, wlK_ct, wlK_bk, wlK_rt, wipe_nil, wipe_cons, back_nil, back_cons, noC_nil, noC_cons, noC1_none, noC1_val, T_comp_nil, T_lComp, MX_own, MX_bor, isCellLst_own, isCellLst_bor, T_eMut, T_eMeth, RP_lst, T_lRep, gL_eq, T_sParLL, T_sParVL, RG_int, T_lRange1, T_inK, T_eInK, T_eNinK, dictD_own, keyD_int, T_lDict, TO_nx, TO_val, TO_own, T0_bor, O_mkP, O_mkB, O_some, O_none, O_ite, O_bind, O_map, fAdd_i, fAddI_i, fSub_i, fMul_i, fDiv_i, fMod_i, fShl_i, fAnd_i, fXor_i, fShr_i, fLt_i, fLe_i, fGt_i, fGe_i, fEq_i, fNe_i, fNeg_i, ixN_3_0, ixN_3_1, ixN_3_2, ixN_2_0, ixN_2_1, ixN_1_0, truD_i, truD_b, intD_i, intD_b, absD_i, lenD_l, lenD_t, tupleD_l, tupleD_t, listD_l, listD_t, List.map_cons, List.map_nil, List.length_cons, List.length_nil, List.cons_append, List.nil_append, List.replicate_succ, List.replicate_zero, List.set_cons_zero, List.set_cons_succ, List.getElem?_cons_zero, List.getElem?_cons_succ, Option.getD_some, Option.bind_some, Option.map_some, true_and, and_true, Bool.false_eq_true, Nat.reduceAdd, Nat.reduceSub, Nat.reduceLeDiff, Nat.le_refl, Bool.and_true, Bool.and_self, Bool.not_true, Bool.not_false, if_true, if_false, reduceIte, Nat.zero_add, Nat.sub_self, show ∀ d : D, cutD [d] none (some 2) = [d] from fun _ => rfl, show ∀ d : D, cutD [d] (some 2) (some 63) = [] from fun _ => rfl, show enumD [] = [] from rfl, T_sFor]
    refine T_ret.mpr ?_
    simp only [T_ret, T_eName, TN_val, TN_own, T_oName, TR_some, T_oVal, T_eC, T_eFrz, celD_lst, slotD_val, slotD_own, slotD_bor, rs_d, rs_s, rss_nil, rss_cons, T_op2, T_op2L, T_op1, T_opN, T_opNL, T_eBin, T_lBin, T_eUn, T_eFn, T_lFn, T_oNil, T_oCons, T_aNil, T_aCons, T_eTup, T_lLst, TB_bool, T_tOf, T_mTru, br_true, br_false, T_mAnd, T_mOr, T_mNot, T_eAnd, T_eOr, T_eNot, T_eIf, T_lIf, T_eChain, T_eIsi, T_mCall, T_mCallK, CB_own, CB_bor, T_mCallB, T_mCallT, TSV_val, TSV_own, T_eSV, TSL_own, T_lSV, sq_nx, sq_rt, sq_bk, sq_ct, T_sSeq, T_sSkip, T_sExpr, T_sRetV, T_sRetL, T_sRetS, T_sRetN, TRN_val, TRN_own, T_sRetName, T_sIf, T_sSetV, T_sSetL, TSet_val, TSet_own, T_sSetS, L2T_two, L3T_three, T_sPar, T_sPar3, T_sParL, T_sAug, T_sAsg, gN_eq, gT_eq, gsNil_eq, gsCons_eq, IX_own, IX_bor, O_gIx, T_mNoPart, TI_int, T_mPart, TLs_list, TTs_tuple, T_lCut, T_eCut, LO_nil, LO_cons, T_lOr, TAny_list, TAny_tuple, T_iAny, T_iEnumD, TZ_list, TZ_tuple, T_iZipD, TRg1_int, T_iRange1, TRg2_int, T_iRange2, TRg3_int, T_iRange3, lpK_nx, lpK_ct, lpK_bk, lpK_rt, fcK_nx, fcK_ct, fcK_bk, fcK_rt, wlK_nx, wlK_ct, wlK_bk, wlK_rt, wipe_nil, wipe_cons, back_nil, back_cons, noC_nil, noC_cons, noC1_none, noC1_val, T_comp_nil, T_lComp, MX_own, MX_bor, isCellLst_own, isCellLst_bor, T_eMut, T_eMeth, RP_lst, T_lRep, gL_eq, T_sParLL, T_sParVL, RG_int, T_lRange1, T_inK, T_eInK, T_eNinK, dictD_own, keyD_int, T_lDict, TO_nx, TO_val, TO_own, T0_bor, O_mkP, O_mkB, O_some, O_none, O_ite, O_bind, O_map, fAdd_i, fAddI_i, fSub_i, fMul_i, fDiv_i, fMod_i, fShl_i, fAnd_i, fXor_i, fShr_i, fLt_i, fLe_i, fGt_i, fGe_i, fEq_i, fNe_i, fNeg_i, ixN_3_0, ixN_3_1, ixN_3_2, ixN_2_0, ixN_2_1, ixN_1_0, truD_i, truD_b, intD_i, intD_b, absD_i, lenD_l, lenD_t, tupleD_l, tupleD_t, listD_l, listD_t, List.map_cons, List.map_nil, List.length_cons, List.length_nil, List.cons_append, List.nil_append, List.replicate_succ, List.replicate_zero, List.set_cons_zero, List.set_cons_succ, List.getElem?_cons_zero, List.getElem?_cons_succ, Option.getD_some, Option.bind_some, Option.map_some, true_and, and_true, Bool.false_eq_true, Nat.reduceAdd, Nat.reduceSub, Nat.reduceLeDiff, Nat.le_refl, Bool.and_true, Bool.and_self, Bool.not_true, Bool.not_false, if_true, if_false, reduceIte, Nat.zero_add, Nat.sub_self]
    exact ⟨[a], rfl, by show 1 ≤ 63; decide⟩
  · have e : ∀ (d1 d2 : D) (ds : List D), cutD (d1 :: d2 :: ds) none (some 2) = [d1, d2] := fun d1 d2 ds => by
      have e2 : HT.sIx (d1 :: d2 :: ds).length (d1 :: d2 :: ds).length (some 2) = 2 := by
        have h2 := HT.sIx_nat (d1 :: d2 :: ds).length (d1 :: d2 :: ds).length 2
        have h2 : HT.sIx (d1 :: d2 :: ds).length (d1 :: d2 :: ds).length (some 2) = min 2 (d1 :: d2 :: ds).length := h2
        rw [h2, List.length_cons, List.length_cons]
        omega
      unfold PD.cutD
      rw [e2, HT.sIx_none]
      rfl
    rw [List.map_cons, List.map_cons] at hm
    simp only [T_ret, T_eName, TN_val, TN_own, T_oName, TR_some, T_oVal, T_eC, T_eFrz, celD_lst, slotD_val, slotD_own, slotD_bor, rs_d, rs_s, rss_nil, rss_cons, T_op2, T_op2L, T_op1, T_opN, T_opNL, T_eBin, T_lBin, T_eUn, T_eFn, T_lFn, T_oNil, T_oCons, T_aNil, T_aCons, T_eTup, T_lLst, TB_bool, T_tOf, T_mTru, br_true, br_false, T_mAnd, T_mOr, T_mNot, T_eAnd, T_eOr, T_eNot, T_eIf, T_lIf, T_eChain, T_eIsi, T_mCall, T_mCallK, CB_own, CB_bor, T_mCallB, T_mCallT, TSV_val, TSV_own, T_eSV, TSL_own, T_lSV, sq_nx, sq_rt, sq_bk, sq_ct, T_sSeq, T_sSkip, T_sExpr, T_sRetV, T_sRetL, T_sRetS, T_sRetN, TRN_val, TRN_own, T_sRetName, T_sIf, T_sSetV, T_sSetL, TSet_val, TSet_own, T_sSetS, L2T_two, L3T_three, T_sPar, T_sPar3, T_sParL, T_sAug, T_sAsg, gN_eq, gT_eq, gsNil_eq, gsCons_eq, IX_own, IX_bor, O_gIx, T_mNoPart, TI_int, T_mPart, TLs_list, TTs_tuple, T_lCut, T_eCut, LO_nil, LO_cons, T_lOr, TAny_list, TAny_tuple, T_iAny, T_iEnumD, TZ_list, TZ_tuple, T_iZipD, TRg1_int, T_iRange1, TRg2_int, T_iRange2, TRg3_int, T_iRange3, lpK_nx, lpK_ct, lpK_bk, lpK_rt, fcK_nx, fcK_ct, fcK_bk, fcK_rt, wlK_nx, wlK_ct, wlK_bk, wlK_rt, wipe_nil, wipe_cons, back_nil, back_cons, noC_nil, noC_cons, noC1_none, noC1_val, T_comp_nil, T_lComp, MX_own, MX_bor, isCellLst_own, isCellLst_bor, T_eMut, T_eMeth, RP_lst, T_lRep, gL_eq, T_sParLL, T_sParVL, RG_int, T_lRange1, T_inK, T_eInK, T_eNinK, dictD_own, keyD_int, T_lDict, TO_nx, TO_val, TO_own, T0_bor, O_mkP, O_mkB, O_some, O_none, O_ite, O_bind, O_map, fAdd_i, fAddI_i, fSub_i, fMul_i, fDiv_i, fMod_i, fShl_i, fAnd_i, fXor_i, fShr_i, fLt_i, fLe_i, fGt_i, fGe_i, fEq_i, fNe_i, fNeg_i, ixN_3_0, ixN_3_1, ixN_3_2, ixN_2_0, ixN_2_1, ixN_1_0, truD_i, truD_b, intD_i, intD_b, absD_i, lenD_l, lenD_t, tupleD_l, tupleD_t, listD_l, listD_t, List.map_cons, List.map_nil, List.length_cons, List.length_nil, List.cons_append, List.nil_append, List.replicate_succ, List.replicate_zero, List.set_cons_zero, List.set_cons_succ, List.getElem?_cons_zero, List.getElem?_cons_succ, Option.getD_some, Option.bind_some, Option.map_some, true_and, and_true, Bool.false_eq_true, Nat.reduceAdd, Nat.reduceSub, Nat.reduceLeDiff, Nat.le_refl, Bool.and_true, Bool.and_self, Bool.not_true, Bool.not_false, if_true, if_false, reduceIte, Nat.zero_add, Nat.sub_self, e, T_sFor, hm]
    refine T_forL (fun i S => ∃ u v x3 x4 x5, S = [some (.val (.list (.int a :: .int b :: rest.map .int))), some (.val (.int 2)), some (.own (.lst [.int u, .int v])), x3, x4, x5]) ⟨a, b, none, none, none, rfl⟩ ?_ ?_
    · rintro i d hd S ⟨u, v, x3, x4, x5, rfl⟩
      obtain ⟨hi, x, rfl⟩ := enum_int hd
      have hi2 : i < 63 := by omega
      simp only [T_ret, T_eName, TN_val, TN_own, T_oName, TR_some, T_oVal, T_eC, T_eFrz, celD_lst, slotD_val, slotD_own, slotD_bor, rs_d, rs_s, rss_nil, rss_cons, T_op2, T_op2L, T_op1, T_opN, T_opNL, T_eBin, T_lBin, T_eUn, T_eFn, T_lFn, T_oNil, T_oCons, T_aNil, T_aCons, T_eTup, T_lLst, TB_bool, T_tOf, T_mTru, br_true, br_false, T_mAnd, T_mOr, T_mNot, T_eAnd, T_eOr, T_eNot, T_eIf, T_lIf, T_eChain, T_eIsi, T_mCall, T_mCallK, CB_own, CB_bor, T_mCallB, T_mCallT, TSV_val, TSV_own, T_eSV, TSL_own, T_lSV, sq_nx, sq_rt, sq_bk, sq_ct, T_sSeq, T_sSkip, T_sExpr, T_sRetV, T_sRetL, T_sRetS, T_sRetN, TRN_val, TRN_own, T_sRetName, T_sIf, T_sSetV, T_sSetL, TSet_val, TSet_own, T_sSetS, L2T_two, L3T_three, T_sPar, T_sPar3, T_sParL, T_sAug, T_sAsg, gN_eq, gT_eq, gsNil_eq, gsCons_eq, IX_own, IX_bor, O_gIx, T_mNoPart, TI_int, T_mPart, TLs_list, TTs_tuple, T_lCut, T_eCut, LO_nil, LO_cons, T_lOr, TAny_list, TAny_tuple, T_iAny, T_iEnumD, TZ_list, TZ_tuple, T_iZipD, TRg1_int, T_iRange1, TRg2_int, T_iRange2, TRg3_int, T_iRange3, lpK_nx, lpK_ct, lpK_bk, lpK_rt, fcK_nx, fcK_ct, fcK_bk, fcK_rt, wlK_nx, wlK_ct, wlK_bk, wlK_rt, wipe_nil, wipe_cons, back_nil, back_cons, noC_nil, noC_cons, noC1_none, noC1_val, T_comp_nil, T_lComp, MX_own, MX_bor, isCellLst_own, isCellLst_bor, T_eMut, T_eMeth, RP_lst, T_lRep, gL_eq, T_sParLL, T_sParVL, RG_int, T_lRange1, T_inK, T_eInK, T_eNinK, dictD_own, keyD_int, T_lDict, TO_nx, TO_val, TO_own, T0_bor, O_mkP, O_mkB, O_some, O_none, O_ite, O_bind, O_map, fAdd_i, fAddI_i, fSub_i, fMul_i, fDiv_i, fMod_i, fShl_i, fAnd_i, fXor_i, fShr_i, fLt_i, fLe_i, fGt_i, fGe_i, fEq_i, fNe_i, fNeg_i, ixN_3_0, ixN_3_1, ixN_3_2, ixN_2_0, ixN_2_1, ixN_1_0, truD_i, truD_b, intD_i, intD_b, absD_i, lenD_l, lenD_t, tupleD_l, tupleD_t, listD_l, listD_t, List.map_cons, List.map_nil, List.length_cons, List.length_nil, List.cons_append, List.nil_append, List.replicate_succ, List.replicate_zero, List.set_cons_zero, List.set_cons_succ, List.getElem?_cons_zero, List.getElem?_cons_succ, Option.getD_some, Option.bind_some, Option.map_some, true_and, and_true, Bool.false_eq_true, Nat.reduceAdd, Nat.reduceSub, Nat.reduceLeDiff, Nat.le_refl, Bool.and_true, Bool.and_self, Bool.not_true, Bool.not_false, if_true, if_false, reduceIte, Nat.zero_add, Nat.sub_self, atD_l]
      rw [fmod_pos (by decide)]
      refine ⟨cModP (by decide), ?_⟩
      have : (i : Int) % 2 = 0 ∨ (i : Int) % 2 = 1 := by omega
      have cm : cMul x ((i : Int) + 2) = true := cMulR (by omega)
      rcases this with e | e <;> rw [e]
      · simp only [T_ret, T_eName, TN_val, TN_own, T_oName, TR_some, T_oVal, T_eC, T_eFrz, celD_lst, slotD_val, slotD_own, slotD_bor, rs_d, rs_s, rss_nil, rss_cons, T_op2, T_op2L, T_op1, T_opN, T_opNL, T_eBin, T_lBin, T_eUn, T_eFn, T_lFn, T_oNil, T_oCons, T_aNil, T_aCons, T_eTup, T_lLst, TB_bool, T_tOf, T_mTru, br_true, br_false, T_mAnd, T_mOr, T_mNot, T_eAnd, T_eOr, T_eNot, T_eIf, T_lIf, T_eChain, T_eIsi, T_mCall, T_mCallK, CB_own, CB_bor, T_mCallB, T_mCallT, TSV_val, TSV_own, T_eSV, TSL_own, T_lSV, sq_nx, sq_rt, sq_bk, sq_ct, T_sSeq, T_sSkip, T_sExpr, T_sRetV, T_sRetL, T_sRetS, T_sRetN, TRN_val, TRN_own, T_sRetName, T_sIf, T_sSetV, T_sSetL, TSet_val, TSet_own, T_sSetS, L2T_two, L3T_three, T_sPar, T_sPar3, T_sParL, T_sAug, T_sAsg, gN_eq, gT_eq, gsNil_eq, gsCons_eq, IX_own, IX_bor, O_gIx, T_mNoPart, TI_int, T_mPart, TLs_list, TTs_tuple, T_lCut, T_eCut, LO_nil, LO_cons, T_lOr, TAny_list, TAny_tuple, T_iAny, T_iEnumD, TZ_list, TZ_tuple, T_iZipD, TRg1_int, T_iRange1, TRg2_int, T_iRange2, TRg3_int, T_iRange3, lpK_nx, lpK_ct, lpK_bk, lpK_rt, fcK_nx, fcK_ct, fcK_bk, fcK_rt, wlK_nx, wlK_ct, wlK_bk, wlK_rt, wipe_nil, wipe_cons, back_nil, back_cons, noC_nil, noC_cons, noC1_none, noC1_val, T_comp_nil, T_lComp, MX_own, MX_bor, isCellLst_own, isCellLst_bor, T_eMut, T_eMeth, RP_lst, T_lRep, gL_eq, T_sParLL, T_sParVL, RG_int, T_lRange1, T_inK, T_eInK, T_eNinK, dictD_own, keyD_int, T_lDict, TO_nx, TO_val, TO_own, T0_bor, O_mkP, O_mkB, O_some, O_none, O_ite, O_bind, O_map, fAdd_i, fAddI_i, fSub_i, fMul_i, fDiv_i, fMod_i, fShl_i, fAnd_i, fXor_i, fShr_i, fLt_i, fLe_i, fGt_i, fGe_i, fEq_i, fNe_i, fNeg_i, ixN_3_0, ixN_3_1, ixN_3_2, ixN_2_0, ixN_2_1, ixN_1_0, truD_i, truD_b, intD_i, intD_b, absD_i, lenD_l, lenD_t, tupleD_l, tupleD_t, listD_l, listD_t, List.map_cons, List.map_nil, List.length_cons, List.length_nil, List.cons_append, List.nil_append, List.replicate_succ, List.replicate_zero, List.set_cons_zero, List.set_cons_succ, List.getElem?_cons_zero, List.getElem?_cons_succ, Option.getD_some, Option.bind_some, Option.map_some, true_and, and_true, Bool.false_eq_true, Nat.reduceAdd, Nat.reduceSub, Nat.reduceLeDiff, Nat.le_refl, Bool.and_true, Bool.and_self, Bool.not_true, Bool.not_false, if_true, if_false, reduceIte, Nat.zero_add, Nat.sub_self, cm]
        exact ⟨_, _, _, _, _, rfl⟩
      · simp only [T_ret, T_eName, TN_val, TN_own, T_oName, TR_some, T_oVal, T_eC, T_eFrz, celD_lst, slotD_val, slotD_own, slotD_bor, rs_d, rs_s, rss_nil, rss_cons, T_op2, T_op2L, T_op1, T_opN, T_opNL, T_eBin, T_lBin, T_eUn, T_eFn, T_lFn, T_oNil, T_oCons, T_aNil, T_aCons, T_eTup, T_lLst, TB_bool, T_tOf, T_mTru, br_true, br_false, T_mAnd, T_mOr, T_mNot, T_eAnd, T_eOr, T_eNot, T_eIf, T_lIf, T_eChain, T_eIsi, T_mCall, T_mCallK, CB_own, CB_bor, T_mCallB, T_mCallT, TSV_val, TSV_own, T_eSV, TSL_own, T_lSV, sq_nx, sq_rt, sq_bk, sq_ct, T_sSeq, T_sSkip, T_sExpr, T_sRetV, T_sRetL, T_sRetS, T_sRetN, TRN_val, TRN_own, T_sRetName, T_sIf, T_sSetV, T_sSetL, TSet_val, TSet_own, T_sSetS, L2T_two, L3T_three, T_sPar, T_sPar3, T_sParL, T_sAug, T_sAsg, gN_eq, gT_eq, gsNil_eq, gsCons_eq, IX_own, IX_bor, O_gIx, T_mNoPart, TI_int, T_mPart, TLs_list, TTs_tuple, T_lCut, T_eCut, LO_nil, LO_cons, T_lOr, TAny_list, TAny_tuple, T_iAny, T_iEnumD, TZ_list, TZ_tuple, T_iZipD, TRg1_int, T_iRange1, TRg2_int, T_iRange2, TRg3_int, T_iRange3, lpK_nx, lpK_ct, lpK_bk, lpK_rt, fcK_nx, fcK_ct, fcK_bk, fcK_rt, wlK_nx, wlK_ct, wlK_bk, wlK_rt, wipe_nil, wipe_cons, back_nil, back_cons, noC_nil, noC_cons, noC1_none, noC1_val, T_comp_nil, T_lComp, MX_own, MX_bor, isCellLst_own, isCellLst_bor, T_eMut, T_eMeth, RP_lst, T_lRep, gL_eq, T_sParLL, T_sParVL, RG_int, T_lRange1, T_inK, T_eInK, T_eNinK, dictD_own, keyD_int, T_lDict, TO_nx, TO_val, TO_own, T0_bor, O_mkP, O_mkB, O_some, O_none, O_ite, O_bind, O_map, fAdd_i, fAddI_i, fSub_i, fMul_i, fDiv_i, fMod_i, fShl_i, fAnd_i, fXor_i, fShr_i, fLt_i, fLe_i, fGt_i, fGe_i, fEq_i, fNe_i, fNeg_i, ixN_3_0, ixN_3_1, ixN_3_2, ixN_2_0, ixN_2_1, ixN_1_0, truD_i, truD_b, intD_i, intD_b, absD_i, lenD_l, lenD_t, tupleD_l, tupleD_t, listD_l, listD_t, List.map_cons, List.map_nil, List.length_cons, List.length_nil, List.cons_append, List.nil_append, List.replicate_succ, List.replicate_zero, List.set_cons_zero, List.set_cons_succ, List.getElem?_cons_zero, List.getElem?_cons_succ, Option.getD_some, Option.bind_some, Option.map_some, true_and, and_true, Bool.false_eq_true, Nat.reduceAdd, Nat.reduceSub, Nat.reduceLeDiff, Nat.le_refl, Bool.and_true, Bool.and_self, Bool.not_true, Bool.not_false, if_true, if_false, reduceIte, Nat.zero_add, Nat.sub_self, cm]
        exact ⟨_, _, _, _, _, rfl⟩
    · rintro S ⟨u, v, x3, x4, x5, rfl⟩
      simp only [T_ret, T_eName, TN_val, TN_own, T_oName, TR_some, T_oVal, T_eC, T_eFrz, celD_lst, slotD_val, slotD_own, slotD_bor, rs_d, rs_s, rss_nil, rss_cons, T_op2, T_op2L, T_op1, T_opN, T_opNL, T_eBin, T_lBin, T_eUn, T_eFn, T_lFn, T_oNil, T_oCons, T_aNil, T_aCons, T_eTup, T_lLst, TB_bool, T_tOf, T_mTru, br_true, br_false, T_mAnd, T_mOr, T_mNot, T_eAnd, T_eOr, T_eNot, T_eIf, T_lIf, T_eChain, T_eIsi, T_mCall, T_mCallK, CB_own, CB_bor, T_mCallB, T_mCallT, TSV_val, TSV_own, T_eSV, TSL_own, T_lSV, sq_nx, sq_rt, sq_bk, sq_ct, T_sSeq, T_sSkip, T_sExpr, T_sRetV, T_sRetL, T_sRetS, T_sRetN, TRN_val, TRN_own, T_sRetName, T_sIf, T_sSetV, T_sSetL, TSet_val, TSet_own, T_sSetS, L2T_two, L3T_three, T_sPar, T_sPar3, T_sParL, T_sAug, T_sAsg, gN_eq, gT_eq, gsNil_eq, gsCons_eq, IX_own, IX_bor, O_gIx, T_mNoPart, TI_int, T_mPart, TLs_list, TTs_tuple, T_lCut, T_eCut, LO_nil, LO_cons, T_lOr, TAny_list, TAny_tuple, T_iAny, T_iEnumD, TZ_list, TZ_tuple, T_iZipD, TRg1_int, T_iRange1, TRg2_int, T_iRange2, TRg3_int, T_iRange3, lpK_nx, lpK_ct, lpK_bk, lpK_rt, fcK_nx, fcK_ct, fcK_bk, fcK_rt, wlK_nx, wlK_ct, wlK_bk, wlK_rt, wipe_nil, wipe_cons, back_nil, back_cons, noC_nil, noC_cons, noC1_none, noC1_val, T_comp_nil, T_lComp, MX_own, MX_bor, isCellLst_own, isCellLst_bor, T_eMut, T_eMeth, RP_lst, T_lRep, gL_eq, T_sParLL, T_sParVL, RG_int, T_lRange1, T_inK, T_eInK, T_eNinK, dictD_own, keyD_int, T_lDict, TO_nx, TO_val, TO_own, T0_bor, O_mkP, O_mkB, O_some, O_none, O_ite, O_bind, O_map, fAdd_i, fAddI_i, fSub_i, fMul_i, fDiv_i, fMod_i, fShl_i, fAnd_i, fXor_i, fShr_i, fLt_i, fLe_i, fGt_i, fGe_i, fEq_i, fNe_i, fNeg_i, ixN_3_0, ixN_3_1, ixN_3_2, ixN_2_0, ixN_2_1, ixN_1_0, truD_i, truD_b, intD_i, intD_b, absD_i, lenD_l, lenD_t, tupleD_l, tupleD_t, listD_l, listD_t, List.map_cons, List.map_nil, List.length_cons, List.length_nil, List.cons_append, List.nil_append, List.replicate_succ, List.replicate_zero, List.set_cons_zero, List.set_cons_succ, List.getElem?_cons_zero, List.getElem?_cons_succ, Option.getD_some, Option.bind_some, Option.map_some, true_and, and_true, Bool.false_eq_true, Nat.reduceAdd, Nat.reduceSub, Nat.reduceLeDiff, Nat.le_refl, Bool.and_true, Bool.and_self, Bool.not_true, Bool.not_false, if_true, if_false, reduceIte, Nat.zero_add, Nat.sub_self]
      exact ⟨[u, v], rfl, by show 2 ≤ 63; decide⟩
theorem box_ok {xs : List Int} {k : Nat} (h : xs.length ≤ 63) (hk : k < xs.length) : O (F__law_box [.list (xs.map .int), .int k]) fun r => ∃ c, r = .own c ∧ Box 0 c := by
  unfold F__law_box b__law_box
  have hx : (xs.map PyData.int)[k]? = some (.int xs[k]) := by rw [List.getElem?_map, List.getElem?_eq_getElem hk]; rfl
  simp only [T_ret, T_eName, TN_val, TN_own, T_oName, TR_some, T_oVal, T_eC, T_eFrz, celD_lst, slotD_val, slotD_own, slotD_bor, rs_d, rs_s, rss_nil, rss_cons, T_op2, T_op2L, T_op1, T_opN, T_opNL, T_eBin, T_lBin, T_eUn, T_eFn, T_lFn, T_oNil, T_oCons, T_aNil, T_aCons, T_eTup, T_lLst, TB_bool, T_tOf, T_mTru, br_true, br_false, T_mAnd, T_mOr, T_mNot, T_eAnd, T_eOr, T_eNot, T_eIf, T_lIf, T_eChain, T_eIsi, T_mCall, T_mCallK, CB_own, CB_bor, T_mCallB, T_mCallT, TSV_val, TSV_own, T_eSV, TSL_own, T_lSV, sq_nx, sq_rt, sq_bk, sq_ct, T_sSeq, T_sSkip, T_sExpr, T_sRetV, T_sRetL, T_sRetS, T_sRetN, TRN_val, TRN_own, T_sRetName, T_sIf, T_sSetV, T_sSetL, TSet_val, TSet_own, T_sSetS, L2T_two, L3T_three, T_sPar, T_sPar3, T_sParL, T_sAug, T_sAsg, gN_eq, gT_eq, gsNil_eq, gsCons_eq, IX_own, IX_bor, O_gIx, T_mNoPart, TI_int, T_mPart, TLs_list, TTs_tuple, T_lCut, T_eCut, LO_nil, LO_cons, T_lOr, TAny_list, TAny_tuple, T_iAny, T_iEnumD, TZ_list, TZ_tuple, T_iZipD, TRg1_int, T_iRange1, TRg2_int, T_iRange2, TRg3_int, T_iRange3, lpK_nx, lpK_ct, lpK_bk, lpK_rt, fcK_nx, fcK_ct, fcK_bk, fcK_rt, wlK_nx, wlK_ct, wlK_bk, wlK_rt, wipe_nil, wipe_cons, back_nil, back_cons, noC_nil, noC_cons, noC1_none, noC1_val, T_comp_nil, T_lComp, MX_own, MX_bor, isCellLst_own, isCellLst_bor, T_eMut, T_eMeth, RP_lst, T_lRep, gL_eq, T_sParLL, T_sParVL, RG_int, T_lRange1, T_inK, T_eInK, T_eNinK, dictD_own, keyD_int, T_lDict, TO_nx, TO_val, TO_own, T0_bor, O_mkP, O_mkB, O_some, O_none, O_ite, O_bind, O_map, fAdd_i, fAddI_i, fSub_i, fMul_i, fDiv_i, fMod_i, fShl_i, fAnd_i, fXor_i, fShr_i, fLt_i, fLe_i, fGt_i, fGe_i, fEq_i, fNe_i, fNeg_i, ixN_3_0, ixN_3_1, ixN_3_2, ixN_2_0, ixN_2_1, ixN_1_0, truD_i, truD_b, intD_i, intD_b, absD_i, lenD_l, lenD_t, tupleD_l, tupleD_t, listD_l, listD_t, List.map_cons, List.map_nil, List.length_cons, List.length_nil, List.cons_append, List.nil_append, List.replicate_succ, List.replicate_zero, List.set_cons_zero, List.set_cons_succ, List.getElem?_cons_zero, List.getElem?_cons_succ, Option.getD_some, Option.bind_some, Option.map_some, true_and, and_true, Bool.false_eq_true, Nat.reduceAdd, Nat.reduceSub, Nat.reduceLeDiff, Nat.le_refl, Bool.and_true, Bool.and_self, Bool.not_true, Bool.not_false, if_true, if_false, reduceIte, Nat.zero_add, Nat.sub_self, List.length_map, atD_l, ixN_nat (n := xs.length) (k := k) hk, hx, fPow_i]
  generalize xs[k] = z
  have lt : decide ((k : Int) < (xs.length : Int)) = true := decide_eq_true (by omega)
  simp only [T_ret, T_eName, TN_val, TN_own, T_oName, TR_some, T_oVal, T_eC, T_eFrz, celD_lst, slotD_val, slotD_own, slotD_bor, rs_d, rs_s, rss_nil, rss_cons, T_op2, T_op2L, T_op1, T_opN, T_opNL, T_eBin, T_lBin, T_eUn, T_eFn, T_lFn, T_oNil, T_oCons, T_aNil, T_aCons, T_eTup, T_lLst, TB_bool, T_tOf, T_mTru, br_true, br_false, T_mAnd, T_mOr, T_mNot, T_eAnd, T_eOr, T_eNot, T_eIf, T_lIf, T_eChain, T_eIsi, T_mCall, T_mCallK, CB_own, CB_bor, T_mCallB, T_mCallT, TSV_val, TSV_own, T_eSV, TSL_own, T_lSV, sq_nx, sq_rt, sq_bk, sq_ct, T_sSeq, T_sSkip, T_sExpr, T_sRetV, T_sRetL, T_sRetS, T_sRetN, TRN_val, TRN_own, T_sRetName, T_sIf, T_sSetV, T_sSetL, TSet_val, TSet_own, T_sSetS, L2T_two, L3T_three, T_sPar, T_sPar3, T_sParL, T_sAug, T_sAsg, gN_eq, gT_eq, gsNil_eq, gsCons_eq, IX_own, IX_bor, O_gIx, T_mNoPart, TI_int, T_mPart, TLs_list, TTs_tuple, T_lCut, T_eCut, LO_nil, LO_cons, T_lOr, TAny_list, TAny_tuple, T_iAny, T_iEnumD, TZ_list, TZ_tuple, T_iZipD, TRg1_int, T_iRange1, TRg2_int, T_iRange2, TRg3_int, T_iRange3, lpK_nx, lpK_ct, lpK_bk, lpK_rt, fcK_nx, fcK_ct, fcK_bk, fcK_rt, wlK_nx, wlK_ct, wlK_bk, wlK_rt, wipe_nil, wipe_cons, back_nil, back_cons, noC_nil, noC_cons, noC1_none, noC1_val, T_comp_nil, T_lComp, MX_own, MX_bor, isCellLst_own, isCellLst_bor, T_eMut, T_eMeth, RP_lst, T_lRep, gL_eq, T_sParLL, T_sParVL, RG_int, T_lRange1, T_inK, T_eInK, T_eNinK, dictD_own, keyD_int, T_lDict, TO_nx, TO_val, TO_own, T0_bor, O_mkP, O_mkB, O_some, O_none, O_ite, O_bind, O_map, fAdd_i, fAddI_i, fSub_i, fMul_i, fDiv_i, fMod_i, fShl_i, fAnd_i, fXor_i, fShr_i, fLt_i, fLe_i, fGt_i, fGe_i, fEq_i, fNe_i, fNeg_i, ixN_3_0, ixN_3_1, ixN_3_2, ixN_2_0, ixN_2_1, ixN_1_0, truD_i, truD_b, intD_i, intD_b, absD_i, lenD_l, lenD_t, tupleD_l, tupleD_t, listD_l, listD_t, List.map_cons, List.map_nil, List.length_cons, List.length_nil, List.cons_append, List.nil_append, List.replicate_succ, List.replicate_zero, List.set_cons_zero, List.set_cons_succ, List.getElem?_cons_zero, List.getElem?_cons_succ, Option.getD_some, Option.bind_some, Option.map_some, true_and, and_true, Bool.false_eq_true, Nat.reduceAdd, Nat.reduceSub, Nat.reduceLeDiff, Nat.le_refl, Bool.and_true, Bool.and_self, Bool.not_true, Bool.not_false, if_true, if_false, reduceIte, Nat.zero_add, Nat.sub_self, lt]
  refine ⟨by decide, ?_⟩
  refine ⟨cMulR (by split <;> split <;> decide), cModP (by decide), cMulL (by decide), _, rfl, _, _, _, rfl, ?_, ?_, ?_, by decide, by omega⟩
  · split <;> split <;> omega
  · have := Int.emod_nonneg z (b := 2305843009213693951) (by decide)
    rw [fmod_pos (by decide)]; omega
  · have := Int.emod_lt_of_pos z (b := 2305843009213693951) (by decide)
    rw [fmod_pos (by decide)]; omega
end Toy

namespace Toy
open PySem PySem.Spec PyProof.Rows L2 PD PM PX
theorem length_ok {m : Nat} {f : Nat → Int} (hm : m ≤ 12) (hf : ∀ k, k < 2 ^ m → f k = 0 ∨ f k = 1) : F_length_of [.tuple (tb (2 ^ m) f)] = some (.val (.int m)) := by
  apply O_is.mp
  have hp : 2 ^ m ≤ 4096 := Nat.pow_le_pow_right (n := 2) (by decide) hm
  unfold F_length_of b_length_of
  simp only [T_ret, T_eName, TN_val, TN_own, T_oName, TR_some, T_oVal, T_eC, T_eFrz, celD_lst, slotD_val, slotD_own, slotD_bor, rs_d, rs_s, rss_nil, rss_cons, T_op2, T_op2L, T_op1, T_opN, T_opNL, T_eBin, T_lBin, T_eUn, T_eFn, T_lFn, T_oNil, T_oCons, T_aNil, T_aCons, T_eTup, T_lLst, TB_bool, T_tOf, T_mTru, br_true, br_false, T_mAnd, T_mOr, T_mNot, T_eAnd, T_eOr, T_eNot, T_eIf, T_lIf, T_eChain, T_eIsi, T_mCall, T_mCallK, CB_own, CB_bor, T_mCallB, T_mCallT, TSV_val, TSV_own, T_eSV, TSL_own, T_lSV, sq_nx, sq_rt, sq_bk, sq_ct, T_sSeq, T_sSkip, T_sExpr, T_sRetV, T_sRetL, T_sRetS, T_sRetN, TRN_val, TRN_own, T_sRetName, T_sIf, T_sSetV, T_sSetL, TSet_val, TSet_own, T_sSetS, L2T_two, L3T_three, T_sPar, T_sPar3, T_sParL, T_sAug, T_sAsg, gN_eq, gT_eq, gsNil_eq, gsCons_eq, IX_own, IX_bor, O_gIx, T_mNoPart, TI_int, T_mPart, TLs_list, TTs_tuple, T_lCut, T_eCut, LO_nil, LO_cons, T_lOr, TAny_list, TAny_tuple, T_iAny, T_iEnumD, TZ_list, TZ_tuple, T_iZipD, TRg1_int, T_iRange1, TRg2_int, T_iRange2, TRg3_int, T_iRange3, lpK_nx, lpK_ct, lpK_bk, lpK_rt, fcK_nx, fcK_ct, fcK_bk, fcK_rt, wlK_nx, wlK_ct, wlK_bk, wlK_rt, wipe_nil, wipe_cons, back_nil, back_cons, noC_nil, noC_cons, noC1_none, noC1_val, T_comp_nil, T_lComp, MX_own, MX_bor, isCellLst_own, isCellLst_bor, T_eMut, T_eMeth, RP_lst, T_lRep, gL_eq, T_sParLL, T_sParVL, RG_int, T_lRange1, T_inK, T_eInK, T_eNinK, dictD_own, keyD_int, T_lDict, TO_nx, TO_val, TO_own, T0_bor, O_mkP, O_mkB, O_some, O_none, O_ite, O_bind, O_map, fAdd_i, fAddI_i, fSub_i, fMul_i, fDiv_i, fMod_i, fShl_i, fAnd_i, fXor_i, fShr_i, fLt_i, fLe_i, fGt_i, fGe_i, fEq_i, fNe_i, fNeg_i, ixN_3_0, ixN_3_1, ixN_3_2, ixN_2_0, ixN_2_1, ixN_1_0, truD_i, truD_b, intD_i, intD_b, absD_i, lenD_l, lenD_t, tupleD_l, tupleD_t, listD_l, listD_t, List.map_cons, List.map_nil, List.length_cons, List.length_nil, List.cons_append, List.nil_append, List.replicate_succ, List.replicate_zero, List.set_cons_zero, List.set_cons_succ, List.getElem?_cons_zero, List.getElem?_cons_succ, Option.getD_some, Option.bind_some, Option.map_some, true_and, and_true, Bool.false_eq_true, Nat.reduceAdd, Nat.reduceSub, Nat.reduceLeDiff, Nat.le_refl, Bool.and_true, Bool.and_self, Bool.not_true, Bool.not_false, if_true, if_false, reduceIte, Nat.zero_add, Nat.sub_self, isTys_tuple_tuple, tb_len]
  refine ⟨by omega, T_compMap (fun _ => .bool true) ?_ ?_⟩
  · intro d hd
    obtain ⟨j, hj, rfl⟩ := tb_mem hd
    simp only [T_ret, T_eName, TN_val, TN_own, T_oName, TR_some, T_oVal, T_eC, T_eFrz, celD_lst, slotD_val, slotD_own, slotD_bor, rs_d, rs_s, rss_nil, rss_cons, T_op2, T_op2L, T_op1, T_opN, T_opNL, T_eBin, T_lBin, T_eUn, T_eFn, T_lFn, T_oNil, T_oCons, T_aNil, T_aCons, T_eTup, T_lLst, TB_bool, T_tOf, T_mTru, br_true, br_false, T_mAnd, T_mOr, T_mNot, T_eAnd, T_eOr, T_eNot, T_eIf, T_lIf, T_eChain, T_eIsi, T_mCall, T_mCallK, CB_own, CB_bor, T_mCallB, T_mCallT, TSV_val, TSV_own, T_eSV, TSL_own, T_lSV, sq_nx, sq_rt, sq_bk, sq_ct, T_sSeq, T_sSkip, T_sExpr, T_sRetV, T_sRetL, T_sRetS, T_sRetN, TRN_val, TRN_own, T_sRetName, T_sIf, T_sSetV, T_sSetL, TSet_val, TSet_own, T_sSetS, L2T_two, L3T_three, T_sPar, T_sPar3, T_sParL, T_sAug, T_sAsg, gN_eq, gT_eq, gsNil_eq, gsCons_eq, IX_own, IX_bor, O_gIx, T_mNoPart, TI_int, T_mPart, TLs_list, TTs_tuple, T_lCut, T_eCut, LO_nil, LO_cons, T_lOr, TAny_list, TAny_tuple, T_iAny, T_iEnumD, TZ_list, TZ_tuple, T_iZipD, TRg1_int, T_iRange1, TRg2_int, T_iRange2, TRg3_int, T_iRange3, lpK_nx, lpK_ct, lpK_bk, lpK_rt, fcK_nx, fcK_ct, fcK_bk, fcK_rt, wlK_nx, wlK_ct, wlK_bk, wlK_rt, wipe_nil, wipe_cons, back_nil, back_cons, noC_nil, noC_cons, noC1_none, noC1_val, T_comp_nil, T_lComp, MX_own, MX_bor, isCellLst_own, isCellLst_bor, T_eMut, T_eMeth, RP_lst, T_lRep, gL_eq, T_sParLL, T_sParVL, RG_int, T_lRange1, T_inK, T_eInK, T_eNinK, dictD_own, keyD_int, T_lDict, TO_nx, TO_val, TO_own, T0_bor, O_mkP, O_mkB, O_some, O_none, O_ite, O_bind, O_map, fAdd_i, fAddI_i, fSub_i, fMul_i, fDiv_i, fMod_i, fShl_i, fAnd_i, fXor_i, fShr_i, fLt_i, fLe_i, fGt_i, fGe_i, fEq_i, fNe_i, fNeg_i, ixN_3_0, ixN_3_1, ixN_3_2, ixN_2_0, ixN_2_1, ixN_1_0, truD_i, truD_b, intD_i, intD_b, absD_i, lenD_l, lenD_t, tupleD_l, tupleD_t, listD_l, listD_t, List.map_cons, List.map_nil, List.length_cons, List.length_nil, List.cons_append, List.nil_append, List.replicate_succ, List.replicate_zero, List.set_cons_zero, List.set_cons_succ, List.getElem?_cons_zero, List.getElem?_cons_succ, Option.getD_some, Option.bind_some, Option.map_some, true_and, and_true, Bool.false_eq_true, Nat.reduceAdd, Nat.reduceSub, Nat.reduceLeDiff, Nat.le_refl, Bool.and_true, Bool.and_self, Bool.not_true, Bool.not_false, if_true, if_false, reduceIte, Nat.zero_add, Nat.sub_self, is_bit_ok (hf j hj)]
  · have hb : boolsOf ((tb (2 ^ m) f).map fun _ => PyData.bool true) = some (List.replicate (2 ^ m) true) := by
      have : ((tb (2 ^ m) f).map fun _ => PyData.bool true) = (List.replicate (2 ^ m) true).map PyData.bool := by
        rw [List.map_const', tb_len, List.map_replicate]
      rw [this]; exact boolsOf_map _
    simp only [T_ret, T_eName, TN_val, TN_own, T_oName, TR_some, T_oVal, T_eC, T_eFrz, celD_lst, slotD_val, slotD_own, slotD_bor, rs_d, rs_s, rss_nil, rss_cons, T_op2, T_op2L, T_op1, T_opN, T_opNL, T_eBin, T_lBin, T_eUn, T_eFn, T_lFn, T_oNil, T_oCons, T_aNil, T_aCons, T_eTup, T_lLst, TB_bool, T_tOf, T_mTru, br_true, br_false, T_mAnd, T_mOr, T_mNot, T_eAnd, T_eOr, T_eNot, T_eIf, T_lIf, T_eChain, T_eIsi, T_mCall, T_mCallK, CB_own, CB_bor, T_mCallB, T_mCallT, TSV_val, TSV_own, T_eSV, TSL_own, T_lSV, sq_nx, sq_rt, sq_bk, sq_ct, T_sSeq, T_sSkip, T_sExpr, T_sRetV, T_sRetL, T_sRetS, T_sRetN, TRN_val, TRN_own, T_sRetName, T_sIf, T_sSetV, T_sSetL, TSet_val, TSet_own, T_sSetS, L2T_two, L3T_three, T_sPar, T_sPar3, T_sParL, T_sAug, T_sAsg, gN_eq, gT_eq, gsNil_eq, gsCons_eq, IX_own, IX_bor, O_gIx, T_mNoPart, TI_int, T_mPart, TLs_list, TTs_tuple, T_lCut, T_eCut, LO_nil, LO_cons, T_lOr, TAny_list, TAny_tuple, T_iAny, T_iEnumD, TZ_list, TZ_tuple, T_iZipD, TRg1_int, T_iRange1, TRg2_int, T_iRange2, TRg3_int, T_iRange3, lpK_nx, lpK_ct, lpK_bk, lpK_rt, fcK_nx, fcK_ct, fcK_bk, fcK_rt, wlK_nx, wlK_ct, wlK_bk, wlK_rt, wipe_nil, wipe_cons, back_nil, back_cons, noC_nil, noC_cons, noC1_none, noC1_val, T_comp_nil, T_lComp, MX_own, MX_bor, isCellLst_own, isCellLst_bor, T_eMut, T_eMeth, RP_lst, T_lRep, gL_eq, T_sParLL, T_sParVL, RG_int, T_lRange1, T_inK, T_eInK, T_eNinK, dictD_own, keyD_int, T_lDict, TO_nx, TO_val, TO_own, T0_bor, O_mkP, O_mkB, O_some, O_none, O_ite, O_bind, O_map, fAdd_i, fAddI_i, fSub_i, fMul_i, fDiv_i, fMod_i, fShl_i, fAnd_i, fXor_i, fShr_i, fLt_i, fLe_i, fGt_i, fGe_i, fEq_i, fNe_i, fNeg_i, ixN_3_0, ixN_3_1, ixN_3_2, ixN_2_0, ixN_2_1, ixN_1_0, truD_i, truD_b, intD_i, intD_b, absD_i, lenD_l, lenD_t, tupleD_l, tupleD_t, listD_l, listD_t, List.map_cons, List.map_nil, List.length_cons, List.length_nil, List.cons_append, List.nil_append, List.replicate_succ, List.replicate_zero, List.set_cons_zero, List.set_cons_succ, List.getElem?_cons_zero, List.getElem?_cons_succ, Option.getD_some, Option.bind_some, Option.map_some, true_and, and_true, Bool.false_eq_true, Nat.reduceAdd, Nat.reduceSub, Nat.reduceLeDiff, Nat.le_refl, Bool.and_true, Bool.and_self, Bool.not_true, Bool.not_false, if_true, if_false, reduceIte, Nat.zero_add, Nat.sub_self, allD_l, hb, List.all_replicate, id_eq, ite_self]
    refine T_while (fun k S => ∃ j, j + k = m ∧ S = [some (.val (.tuple (tb (2 ^ m) f))), some (.val (.int (j : Nat))), none]) m ?_ ⟨0, by omega, rfl⟩ ?_
    · show m < 1000000; omega
    rintro k S ⟨j, hj, rfl⟩
    simp only [T_ret, T_eName, TN_val, TN_own, T_oName, TR_some, T_oVal, T_eC, T_eFrz, celD_lst, slotD_val, slotD_own, slotD_bor, rs_d, rs_s, rss_nil, rss_cons, T_op2, T_op2L, T_op1, T_opN, T_opNL, T_eBin, T_lBin, T_eUn, T_eFn, T_lFn, T_oNil, T_oCons, T_aNil, T_aCons, T_eTup, T_lLst, TB_bool, T_tOf, T_mTru, br_true, br_false, T_mAnd, T_mOr, T_mNot, T_eAnd, T_eOr, T_eNot, T_eIf, T_lIf, T_eChain, T_eIsi, T_mCall, T_mCallK, CB_own, CB_bor, T_mCallB, T_mCallT, TSV_val, TSV_own, T_eSV, TSL_own, T_lSV, sq_nx, sq_rt, sq_bk, sq_ct, T_sSeq, T_sSkip, T_sExpr, T_sRetV, T_sRetL, T_sRetS, T_sRetN, TRN_val, TRN_own, T_sRetName, T_sIf, T_sSetV, T_sSetL, TSet_val, TSet_own, T_sSetS, L2T_two, L3T_three, T_sPar, T_sPar3, T_sParL, T_sAug, T_sAsg, gN_eq, gT_eq, gsNil_eq, gsCons_eq, IX_own, IX_bor, O_gIx, T_mNoPart, TI_int, T_mPart, TLs_list, TTs_tuple, T_lCut, T_eCut, LO_nil, LO_cons, T_lOr, TAny_list, TAny_tuple, T_iAny, T_iEnumD, TZ_list, TZ_tuple, T_iZipD, TRg1_int, T_iRange1, TRg2_int, T_iRange2, TRg3_int, T_iRange3, lpK_nx, lpK_ct, lpK_bk, lpK_rt, fcK_nx, fcK_ct, fcK_bk, fcK_rt, wlK_nx, wlK_ct, wlK_bk, wlK_rt, wipe_nil, wipe_cons, back_nil, back_cons, noC_nil, noC_cons, noC1_none, noC1_val, T_comp_nil, T_lComp, MX_own, MX_bor, isCellLst_own, isCellLst_bor, T_eMut, T_eMeth, RP_lst, T_lRep, gL_eq, T_sParLL, T_sParVL, RG_int, T_lRange1, T_inK, T_eInK, T_eNinK, dictD_own, keyD_int, T_lDict, TO_nx, TO_val, TO_own, T0_bor, O_mkP, O_mkB, O_some, O_none, O_ite, O_bind, O_map, fAdd_i, fAddI_i, fSub_i, fMul_i, fDiv_i, fMod_i, fShl_i, fAnd_i, fXor_i, fShr_i, fLt_i, fLe_i, fGt_i, fGe_i, fEq_i, fNe_i, fNeg_i, ixN_3_0, ixN_3_1, ixN_3_2, ixN_2_0, ixN_2_1, ixN_1_0, truD_i, truD_b, intD_i, intD_b, absD_i, lenD_l, lenD_t, tupleD_l, tupleD_t, listD_l, listD_t, List.map_cons, List.map_nil, List.length_cons, List.length_nil, List.cons_append, List.nil_append, List.replicate_succ, List.replicate_zero, List.set_cons_zero, List.set_cons_succ, List.getElem?_cons_zero, List.getElem?_cons_succ, Option.getD_some, Option.bind_some, Option.map_some, true_and, and_true, Bool.false_eq_true, Nat.reduceAdd, Nat.reduceSub, Nat.reduceLeDiff, Nat.le_refl, Bool.and_true, Bool.and_self, Bool.not_true, Bool.not_false, if_true, if_false, reduceIte, Nat.zero_add, Nat.sub_self, tb_len]
    have hj12 : j ≤ 12 := by omega
    have c1 : cPow 1 (j : Int) = true := cPowP (by omega) (by omega) (by decide)
    have e1 : (1 : Int) * 2 ^ (j : Int).toNat = ((2 ^ j : Nat) : Int) := by rw [Int.toNat_natCast, Int.one_mul, Int.natCast_pow]; rfl
    rw [e1]
    have lt : j < m → 2 ^ j < 2 ^ m := fun h => Nat.pow_lt_pow_right (by decide) h
    have fin : ∀ q : D → Prop, j = m → q (.int m) → q (.int j) := fun q e h => by rw [e]; exact h
    refine ⟨c1, fun h => ⟨fun h2 => ?_, fun h2 => ?_⟩, fun h => ?_⟩
    · have h := of_decide_eq_true h
      refine ⟨k - 1, ?_, j + 1, ?_, rfl⟩
      · rcases Nat.lt_or_ge j m with c | c
        · omega
        · have : j = m := by omega
          subst this; omega
      · rcases Nat.lt_or_ge j m with c | c
        · omega
        · have : j = m := by omega
          subst this; omega
    · have h2 := of_decide_eq_false h2
      have : j = m := by omega
      subst this
      exact ⟨c1, by simp only [T_ret, T_eName, TN_val, TN_own, T_oName, TR_some, T_oVal, T_eC, T_eFrz, celD_lst, slotD_val, slotD_own, slotD_bor, rs_d, rs_s, rss_nil, rss_cons, T_op2, T_op2L, T_op1, T_opN, T_opNL, T_eBin, T_lBin, T_eUn, T_eFn, T_lFn, T_oNil, T_oCons, T_aNil, T_aCons, T_eTup, T_lLst, TB_bool, T_tOf, T_mTru, br_true, br_false, T_mAnd, T_mOr, T_mNot, T_eAnd, T_eOr, T_eNot, T_eIf, T_lIf, T_eChain, T_eIsi, T_mCall, T_mCallK, CB_own, CB_bor, T_mCallB, T_mCallT, TSV_val, TSV_own, T_eSV, TSL_own, T_lSV, sq_nx, sq_rt, sq_bk, sq_ct, T_sSeq, T_sSkip, T_sExpr, T_sRetV, T_sRetL, T_sRetS, T_sRetN, TRN_val, TRN_own, T_sRetName, T_sIf, T_sSetV, T_sSetL, TSet_val, TSet_own, T_sSetS, L2T_two, L3T_three, T_sPar, T_sPar3, T_sParL, T_sAug, T_sAsg, gN_eq, gT_eq, gsNil_eq, gsCons_eq, IX_own, IX_bor, O_gIx, T_mNoPart, TI_int, T_mPart, TLs_list, TTs_tuple, T_lCut, T_eCut, LO_nil, LO_cons, T_lOr, TAny_list, TAny_tuple, T_iAny, T_iEnumD, TZ_list, TZ_tuple, T_iZipD, TRg1_int, T_iRange1, TRg2_int, T_iRange2, TRg3_int, T_iRange3, lpK_nx, lpK_ct, lpK_bk, lpK_rt, fcK_nx, fcK_ct, fcK_bk, fcK_rt, wlK_nx, wlK_ct, wlK_bk, wlK_rt, wipe_nil, wipe_cons, back_nil, back_cons, noC_nil, noC_cons, noC1_none, noC1_val, T_comp_nil, T_lComp, MX_own, MX_bor, isCellLst_own, isCellLst_bor, T_eMut, T_eMeth, RP_lst, T_lRep, gL_eq, T_sParLL, T_sParVL, RG_int, T_lRange1, T_inK, T_eInK, T_eNinK, dictD_own, keyD_int, T_lDict, TO_nx, TO_val, TO_own, T0_bor, O_mkP, O_mkB, O_some, O_none, O_ite, O_bind, O_map, fAdd_i, fAddI_i, fSub_i, fMul_i, fDiv_i, fMod_i, fShl_i, fAnd_i, fXor_i, fShr_i, fLt_i, fLe_i, fGt_i, fGe_i, fEq_i, fNe_i, fNeg_i, ixN_3_0, ixN_3_1, ixN_3_2, ixN_2_0, ixN_2_1, ixN_1_0, truD_i, truD_b, intD_i, intD_b, absD_i, lenD_l, lenD_t, tupleD_l, tupleD_t, listD_l, listD_t, List.map_cons, List.map_nil, List.length_cons, List.length_nil, List.cons_append, List.nil_append, List.replicate_succ, List.replicate_zero, List.set_cons_zero, List.set_cons_succ, List.getElem?_cons_zero, List.getElem?_cons_succ, Option.getD_some, Option.bind_some, Option.map_some, true_and, and_true, Bool.false_eq_true, Nat.reduceAdd, Nat.reduceSub, Nat.reduceLeDiff, Nat.le_refl, Bool.and_true, Bool.and_self, Bool.not_true, Bool.not_false, if_true, if_false, reduceIte, Nat.zero_add, Nat.sub_self, decide_true]⟩
    · have h := of_decide_eq_false h
      have : j = m := by
        rcases Nat.lt_or_ge j m with c | c
        · have := lt c; omega
        · omega
      subst this
      exact ⟨c1, by simp only [T_ret, T_eName, TN_val, TN_own, T_oName, TR_some, T_oVal, T_eC, T_eFrz, celD_lst, slotD_val, slotD_own, slotD_bor, rs_d, rs_s, rss_nil, rss_cons, T_op2, T_op2L, T_op1, T_opN, T_opNL, T_eBin, T_lBin, T_eUn, T_eFn, T_lFn, T_oNil, T_oCons, T_aNil, T_aCons, T_eTup, T_lLst, TB_bool, T_tOf, T_mTru, br_true, br_false, T_mAnd, T_mOr, T_mNot, T_eAnd, T_eOr, T_eNot, T_eIf, T_lIf, T_eChain, T_eIsi, T_mCall, T_mCallK, CB_own, CB_bor, T_mCallB, T_mCallT, TSV_val, TSV_own, T_eSV, TSL_own, T_lSV, sq_nx, sq_rt, sq_bk, sq_ct, T_sSeq, T_sSkip, T_sExpr, T_sRetV, T_sRetL, T_sRetS, T_sRetN, TRN_val, TRN_own, T_sRetName, T_sIf, T_sSetV, T_sSetL, TSet_val, TSet_own, T_sSetS, L2T_two, L3T_three, T_sPar, T_sPar3, T_sParL, T_sAug, T_sAsg, gN_eq, gT_eq, gsNil_eq, gsCons_eq, IX_own, IX_bor, O_gIx, T_mNoPart, TI_int, T_mPart, TLs_list, TTs_tuple, T_lCut, T_eCut, LO_nil, LO_cons, T_lOr, TAny_list, TAny_tuple, T_iAny, T_iEnumD, TZ_list, TZ_tuple, T_iZipD, TRg1_int, T_iRange1, TRg2_int, T_iRange2, TRg3_int, T_iRange3, lpK_nx, lpK_ct, lpK_bk, lpK_rt, fcK_nx, fcK_ct, fcK_bk, fcK_rt, wlK_nx, wlK_ct, wlK_bk, wlK_rt, wipe_nil, wipe_cons, back_nil, back_cons, noC_nil, noC_cons, noC1_none, noC1_val, T_comp_nil, T_lComp, MX_own, MX_bor, isCellLst_own, isCellLst_bor, T_eMut, T_eMeth, RP_lst, T_lRep, gL_eq, T_sParLL, T_sParVL, RG_int, T_lRange1, T_inK, T_eInK, T_eNinK, dictD_own, keyD_int, T_lDict, TO_nx, TO_val, TO_own, T0_bor, O_mkP, O_mkB, O_some, O_none, O_ite, O_bind, O_map, fAdd_i, fAddI_i, fSub_i, fMul_i, fDiv_i, fMod_i, fShl_i, fAnd_i, fXor_i, fShr_i, fLt_i, fLe_i, fGt_i, fGe_i, fEq_i, fNe_i, fNeg_i, ixN_3_0, ixN_3_1, ixN_3_2, ixN_2_0, ixN_2_1, ixN_1_0, truD_i, truD_b, intD_i, intD_b, absD_i, lenD_l, lenD_t, tupleD_l, tupleD_t, listD_l, listD_t, List.map_cons, List.map_nil, List.length_cons, List.length_nil, List.cons_append, List.nil_append, List.replicate_succ, List.replicate_zero, List.set_cons_zero, List.set_cons_succ, List.getElem?_cons_zero, List.getElem?_cons_succ, Option.getD_some, Option.bind_some, Option.map_some, true_and, and_true, Bool.false_eq_true, Nat.reduceAdd, Nat.reduceSub, Nat.reduceLeDiff, Nat.le_refl, Bool.and_true, Bool.and_self, Bool.not_true, Bool.not_false, if_true, if_false, reduceIte, Nat.zero_add, Nat.sub_self, decide_true]⟩
theorem is_full_ok {m : Nat} {f : Nat → Int} (hm : m ≤ 12) (hf : ∀ k, k < 2 ^ m → f k = 0 ∨ f k = 1) : F_is_full [.tuple (tb (2 ^ m) f)] = some (.val (.bool true)) := by
  apply O_is.mp
  unfold F_is_full b_is_full
  simp only [T_ret, T_eName, TN_val, TN_own, T_oName, TR_some, T_oVal, T_eC, T_eFrz, celD_lst, slotD_val, slotD_own, slotD_bor, rs_d, rs_s, rss_nil, rss_cons, T_op2, T_op2L, T_op1, T_opN, T_opNL, T_eBin, T_lBin, T_eUn, T_eFn, T_lFn, T_oNil, T_oCons, T_aNil, T_aCons, T_eTup, T_lLst, TB_bool, T_tOf, T_mTru, br_true, br_false, T_mAnd, T_mOr, T_mNot, T_eAnd, T_eOr, T_eNot, T_eIf, T_lIf, T_eChain, T_eIsi, T_mCall, T_mCallK, CB_own, CB_bor, T_mCallB, T_mCallT, TSV_val, TSV_own, T_eSV, TSL_own, T_lSV, sq_nx, sq_rt, sq_bk, sq_ct, T_sSeq, T_sSkip, T_sExpr, T_sRetV, T_sRetL, T_sRetS, T_sRetN, TRN_val, TRN_own, T_sRetName, T_sIf, T_sSetV, T_sSetL, TSet_val, TSet_own, T_sSetS, L2T_two, L3T_three, T_sPar, T_sPar3, T_sParL, T_sAug, T_sAsg, gN_eq, gT_eq, gsNil_eq, gsCons_eq, IX_own, IX_bor, O_gIx, T_mNoPart, TI_int, T_mPart, TLs_list, TTs_tuple, T_lCut, T_eCut, LO_nil, LO_cons, T_lOr, TAny_list, TAny_tuple, T_iAny, T_iEnumD, TZ_list, TZ_tuple, T_iZipD, TRg1_int, T_iRange1, TRg2_int, T_iRange2, TRg3_int, T_iRange3, lpK_nx, lpK_ct, lpK_bk, lpK_rt, fcK_nx, fcK_ct, fcK_bk, fcK_rt, wlK_nx, wlK_ct, wlK_bk, wlK_rt, wipe_nil, wipe_cons, back_nil, back_cons, noC_nil, noC_cons, noC1_none, noC1_val, T_comp_nil, T_lComp, MX_own, MX_bor, isCellLst_own, isCellLst_bor, T_eMut, T_eMeth, RP_lst, T_lRep, gL_eq, T_sParLL, T_sParVL, RG_int, T_lRange1, T_inK, T_eInK, T_eNinK, dictD_own, keyD_int, T_lDict, TO_nx, TO_val, TO_own, T0_bor, O_mkP, O_mkB, O_some, O_none, O_ite, O_bind, O_map, fAdd_i, fAddI_i, fSub_i, fMul_i, fDiv_i, fMod_i, fShl_i, fAnd_i, fXor_i, fShr_i, fLt_i, fLe_i, fGt_i, fGe_i, fEq_i, fNe_i, fNeg_i, ixN_3_0, ixN_3_1, ixN_3_2, ixN_2_0, ixN_2_1, ixN_1_0, truD_i, truD_b, intD_i, intD_b, absD_i, lenD_l, lenD_t, tupleD_l, tupleD_t, listD_l, listD_t, List.map_cons, List.map_nil, List.length_cons, List.length_nil, List.cons_append, List.nil_append, List.replicate_succ, List.replicate_zero, List.set_cons_zero, List.set_cons_succ, List.getElem?_cons_zero, List.getElem?_cons_succ, Option.getD_some, Option.bind_some, Option.map_some, true_and, and_true, Bool.false_eq_true, Nat.reduceAdd, Nat.reduceSub, Nat.reduceLeDiff, Nat.le_refl, Bool.and_true, Bool.and_self, Bool.not_true, Bool.not_false, if_true, if_false, reduceIte, Nat.zero_add, Nat.sub_self, length_ok hm hf, fNotN_i]
theorem sure_full_ok {m : Nat} {f : Nat → Int} (hm : m ≤ 12) (hf : ∀ k, k < 2 ^ m → f k = 0 ∨ f k = 1) : F_sure_full [.tuple (tb (2 ^ m) f)] = some (.val (.tuple (tb (2 ^ m) f))) ∧ F_sure_full [.list (tb (2 ^ m) f)] = some (.val (.tuple (tb (2 ^ m) f))) := by
  have hp : 2 ^ m ≤ 4096 := Nat.pow_le_pow_right (n := 2) (by decide) hm
  have h1 := (tupled_tab (n := 28) (f := f) (k := 2 ^ m) (by omega)).1
  have h2 := (tupled_tab (n := 28) (f := f) (k := 2 ^ m) (by omega)).2
  have h1 : F_tupled [.tuple (tb (2 ^ m) f)] = _ := h1
  have h2 : F_tupled [.list (tb (2 ^ m) f)] = _ := h2
  constructor
  · apply O_is.mp
    unfold F_sure_full b_sure_full
    simp only [T_ret, T_eName, TN_val, TN_own, T_oName, TR_some, T_oVal, T_eC, T_eFrz, celD_lst, slotD_val, slotD_own, slotD_bor, rs_d, rs_s, rss_nil, rss_cons, T_op2, T_op2L, T_op1, T_opN, T_opNL, T_eBin, T_lBin, T_eUn, T_eFn, T_lFn, T_oNil, T_oCons, T_aNil, T_aCons, T_eTup, T_lLst, TB_bool, T_tOf, T_mTru, br_true, br_false, T_mAnd, T_mOr, T_mNot, T_eAnd, T_eOr, T_eNot, T_eIf, T_lIf, T_eChain, T_eIsi, T_mCall, T_mCallK, CB_own, CB_bor, T_mCallB, T_mCallT, TSV_val, TSV_own, T_eSV, TSL_own, T_lSV, sq_nx, sq_rt, sq_bk, sq_ct, T_sSeq, T_sSkip, T_sExpr, T_sRetV, T_sRetL, T_sRetS, T_sRetN, TRN_val, TRN_own, T_sRetName, T_sIf, T_sSetV, T_sSetL, TSet_val, TSet_own, T_sSetS, L2T_two, L3T_three, T_sPar, T_sPar3, T_sParL, T_sAug, T_sAsg, gN_eq, gT_eq, gsNil_eq, gsCons_eq, IX_own, IX_bor, O_gIx, T_mNoPart, TI_int, T_mPart, TLs_list, TTs_tuple, T_lCut, T_eCut, LO_nil, LO_cons, T_lOr, TAny_list, TAny_tuple, T_iAny, T_iEnumD, TZ_list, TZ_tuple, T_iZipD, TRg1_int, T_iRange1, TRg2_int, T_iRange2, TRg3_int, T_iRange3, lpK_nx, lpK_ct, lpK_bk, lpK_rt, fcK_nx, fcK_ct, fcK_bk, fcK_rt, wlK_nx, wlK_ct, wlK_bk, wlK_rt, wipe_nil, wipe_cons, back_nil, back_cons, noC_nil, noC_cons, noC1_none, noC1_val, T_comp_nil, T_lComp, MX_own, MX_bor, isCellLst_own, isCellLst_bor, T_eMut, T_eMeth, RP_lst, T_lRep, gL_eq, T_sParLL, T_sParVL, RG_int, T_lRange1, T_inK, T_eInK, T_eNinK, dictD_own, keyD_int, T_lDict, TO_nx, TO_val, TO_own, T0_bor, O_mkP, O_mkB, O_some, O_none, O_ite, O_bind, O_map, fAdd_i, fAddI_i, fSub_i, fMul_i, fDiv_i, fMod_i, fShl_i, fAnd_i, fXor_i, fShr_i, fLt_i, fLe_i, fGt_i, fGe_i, fEq_i, fNe_i, fNeg_i, ixN_3_0, ixN_3_1, ixN_3_2, ixN_2_0, ixN_2_1, ixN_1_0, truD_i, truD_b, intD_i, intD_b, absD_i, lenD_l, lenD_t, tupleD_l, tupleD_t, listD_l, listD_t, List.map_cons, List.map_nil, List.length_cons, List.length_nil, List.cons_append, List.nil_append, List.replicate_succ, List.replicate_zero, List.set_cons_zero, List.set_cons_succ, List.getElem?_cons_zero, List.getElem?_cons_succ, Option.getD_some, Option.bind_some, Option.map_some, true_and, and_true, Bool.false_eq_true, Nat.reduceAdd, Nat.reduceSub, Nat.reduceLeDiff, Nat.le_refl, Bool.and_true, Bool.and_self, Bool.not_true, Bool.not_false, if_true, if_false, reduceIte, Nat.zero_add, Nat.sub_self, h1, is_full_ok hm hf]
  · apply O_is.mp
    unfold F_sure_full b_sure_full
    simp only [T_ret, T_eName, TN_val, TN_own, T_oName, TR_some, T_oVal, T_eC, T_eFrz, celD_lst, slotD_val, slotD_own, slotD_bor, rs_d, rs_s, rss_nil, rss_cons, T_op2, T_op2L, T_op1, T_opN, T_opNL, T_eBin, T_lBin, T_eUn, T_eFn, T_lFn, T_oNil, T_oCons, T_aNil, T_aCons, T_eTup, T_lLst, TB_bool, T_tOf, T_mTru, br_true, br_false, T_mAnd, T_mOr, T_mNot, T_eAnd, T_eOr, T_eNot, T_eIf, T_lIf, T_eChain, T_eIsi, T_mCall, T_mCallK, CB_own, CB_bor, T_mCallB, T_mCallT, TSV_val, TSV_own, T_eSV, TSL_own, T_lSV, sq_nx, sq_rt, sq_bk, sq_ct, T_sSeq, T_sSkip, T_sExpr, T_sRetV, T_sRetL, T_sRetS, T_sRetN, TRN_val, TRN_own, T_sRetName, T_sIf, T_sSetV, T_sSetL, TSet_val, TSet_own, T_sSetS, L2T_two, L3T_three, T_sPar, T_sPar3, T_sParL, T_sAug, T_sAsg, gN_eq, gT_eq, gsNil_eq, gsCons_eq, IX_own, IX_bor, O_gIx, T_mNoPart, TI_int, T_mPart, TLs_list, TTs_tuple, T_lCut, T_eCut, LO_nil, LO_cons, T_lOr, TAny_list, TAny_tuple, T_iAny, T_iEnumD, TZ_list, TZ_tuple, T_iZipD, TRg1_int, T_iRange1, TRg2_int, T_iRange2, TRg3_int, T_iRange3, lpK_nx, lpK_ct, lpK_bk, lpK_rt, fcK_nx, fcK_ct, fcK_bk, fcK_rt, wlK_nx, wlK_ct, wlK_bk, wlK_rt, wipe_nil, wipe_cons, back_nil, back_cons, noC_nil, noC_cons, noC1_none, noC1_val, T_comp_nil, T_lComp, MX_own, MX_bor, isCellLst_own, isCellLst_bor, T_eMut, T_eMeth, RP_lst, T_lRep, gL_eq, T_sParLL, T_sParVL, RG_int, T_lRange1, T_inK, T_eInK, T_eNinK, dictD_own, keyD_int, T_lDict, TO_nx, TO_val, TO_own, T0_bor, O_mkP, O_mkB, O_some, O_none, O_ite, O_bind, O_map, fAdd_i, fAddI_i, fSub_i, fMul_i, fDiv_i, fMod_i, fShl_i, fAnd_i, fXor_i, fShr_i, fLt_i, fLe_i, fGt_i, fGe_i, fEq_i, fNe_i, fNeg_i, ixN_3_0, ixN_3_1, ixN_3_2, ixN_2_0, ixN_2_1, ixN_1_0, truD_i, truD_b, intD_i, intD_b, absD_i, lenD_l, lenD_t, tupleD_l, tupleD_t, listD_l, listD_t, List.map_cons, List.map_nil, List.length_cons, List.length_nil, List.cons_append, List.nil_append, List.replicate_succ, List.replicate_zero, List.set_cons_zero, List.set_cons_succ, List.getElem?_cons_zero, List.getElem?_cons_succ, Option.getD_some, Option.bind_some, Option.map_some, true_and, and_true, Bool.false_eq_true, Nat.reduceAdd, Nat.reduceSub, Nat.reduceLeDiff, Nat.le_refl, Bool.and_true, Bool.and_self, Bool.not_true, Bool.not_false, if_true, if_false, reduceIte, Nat.zero_add, Nat.sub_self, h2, is_full_ok hm hf]
theorem range3_get {lo c : Int} {n i : Nat} {d : D} (h : (rangeD3 lo c n)[i]? = some d) : i < n ∧ d = .int (lo + (i : Int) * c) := by
  unfold rangeD3 at h
  rw [List.getElem?_map] at h
  obtain ⟨k, h1, h2⟩ := Option.map_eq_some_iff.mp h
  obtain ⟨h3, h4⟩ := List.getElem?_eq_some_iff.mp h1
  rw [List.length_range] at h3
  rw [List.getElem_range] at h4
  subst h4
  exact ⟨h3, h2.symm⟩
theorem range3_len {lo c : Int} {n : Nat} : (rangeD3 lo c n).length = n := by
  unfold rangeD3; rw [List.length_map, List.length_range]
theorem range_size {H w : Nat} (hw : 0 < w) : (Builtin.Range.rangeSize 0 ((w * H : Nat) : Int) (w : Int)).toNat = H := by
  unfold Builtin.Range.rangeSize
  rw [if_pos (by omega)]
  by_cases h : H = 0
  · subst h; rw [if_neg (by simp)]; rfl
  · have : 0 < w * H := Nat.mul_pos hw (by omega)
    rw [if_pos (by omega)]
    have e : ((w * H : Nat) : Int) - 0 - 1 = ((w * H - 1 : Nat) : Int) := by omega
    rw [e, ← Int.natCast_ediv]
    have : (w * H - 1) / w = H - 1 := by
      refine Nat.div_eq_of_lt_le ?_ ?_
      · rw [Nat.sub_mul, Nat.one_mul, Nat.mul_comm H w]; omega
      · rw [show H - 1 + 1 = H by omega, Nat.mul_comm H w]; omega
    rw [this]; omega
/-- what of a stage is done -/
def Dn (b w q p : Nat) : Bool := decide (p < b ∨ (b ≤ p ∧ p < b + q) ∨ (b + w ≤ p ∧ p < b + w + q))
def stg (j h q : Nat) (g : Nat → Int) (p : Nat) : Int := if Dn (2 ^ j * (2 * h)) (2 ^ j) q p = true then PM.B (j + 1) g p else PM.B j g p
theorem stg_start {j : Nat} {g : Nat → Int} : stg j 0 0 g = PM.B j g := by
  funext p
  unfold stg Dn
  rw [if_neg]
  have := Nat.two_pow_pos j
  simp only [Nat.mul_zero, decide_eq_true_eq]
  omega
theorem stg_next {j h : Nat} {g : Nat → Int} : stg j h (2 ^ j) g = stg j (h + 1) 0 g := by
  funext p
  unfold stg
  congr 1
  unfold Dn
  have e : 2 ^ j * (2 * (h + 1)) = 2 ^ j * (2 * h) + 2 ^ j + 2 ^ j := by rw [Nat.mul_add, Nat.mul_one, Nat.mul_add, Nat.mul_two]; omega
  rw [e]
  simp only [decide_eq_true_eq]
  apply propext
  have pj := Nat.two_pow_pos j
  generalize 2 ^ j * (2 * h) = b
  generalize 2 ^ j = w at pj ⊢
  constructor <;> intro hh <;> omega
theorem stg_end {j H p : Nat} {g : Nat → Int} (hp : p < 2 ^ j * (2 * H)) : stg j H 0 g p = PM.B (j + 1) g p := by
  unfold stg Dn
  rw [if_pos]
  exact decide_eq_true (.inl hp)
theorem stg_a {j h q : Nat} {g : Nat → Int} (hq : q < 2 ^ j) : stg j h q g (2 ^ j * (2 * h) + q) = PM.B j g (q + 2 ^ j * (2 * h)) := by
  unfold stg Dn
  rw [if_neg, Nat.add_comm]
  simp only [decide_eq_true_eq]
  omega
theorem stg_b {j h q : Nat} {g : Nat → Int} (hq : q < 2 ^ j) : stg j h q g (2 ^ j * (2 * h) + q + 2 ^ j) = PM.B j g (q + 2 ^ j * (2 * h + 1)) := by
  unfold stg Dn
  rw [if_neg, Nat.mul_add, Nat.mul_one]
  · congr 1; omega
  simp only [decide_eq_true_eq]
  omega
theorem stg_succ {j h q : Nat} {g : Nat → Int} (hq : q < 2 ^ j) {p : Nat} : (if p = 2 ^ j * (2 * h) + q + 2 ^ j then PM.B j g (q + 2 ^ j * (2 * h)) - PM.B j g (q + 2 ^ j * (2 * h + 1)) else if p = 2 ^ j * (2 * h) + q then PM.B j g (q + 2 ^ j * (2 * h)) + PM.B j g (q + 2 ^ j * (2 * h + 1)) else stg j h q g p) = stg j h (q + 1) g p := by
  by_cases e1 : p = 2 ^ j * (2 * h) + q + 2 ^ j
  · rw [if_pos e1, ← B_hi hq]
    unfold stg Dn
    rw [if_pos]
    · congr 1; rw [e1, Nat.mul_add, Nat.mul_one]; omega
    · simp only [decide_eq_true_eq]; omega
  · rw [if_neg e1]
    by_cases e2 : p = 2 ^ j * (2 * h) + q
    · rw [if_pos e2, ← B_lo hq]
      unfold stg Dn
      rw [if_pos]
      · congr 1; rw [e2]; omega
      · simp only [decide_eq_true_eq]; omega
    · rw [if_neg e2]
      unfold stg
      congr 1
      unfold Dn
      simp only [decide_eq_true_eq]
      apply propext
      constructor <;> intro hh <;> omega
/-- one stage of the turn, over a table in slot 1, its width in slot 2 -/
theorem stage_ok {m j : Nat} {g : Nat → Int} (hj : j < m) (hm : m ≤ 12) {k : Cel → SV} (hk : k = .own) {a : Option SV} {rest : Slots} {x3 x4 x5 x6 : Option SV} {Q : Out → Slots → Prop}
    (hQ : ∀ x3 x4 x5 x6, Q .nx ([a, some (.own (.lst (tb (2 ^ m) (PM.B (j + 1) g)))), some (.val (.int ((2 ^ j : Nat) : Int))), x3, x4, x5, x6] ++ rest)) :
    T (sFor (iRange3 (oCons (oVal (eC (.int 0))) (oCons (oVal (eFn lenD (oCons (oName 1) (oNil)))) (oCons (oVal (eBin fMul (oVal (eC (.int 2))) (oName 2))) (oNil))))) (gN 3) (sFor (iRange2 (oCons (oName 3) (oCons (oVal (eBin fAdd (oName 3) (oName 2))) (oNil)))) (gN 4) (sSeq (sPar 5 6 (aCons (eBin atD (oName 1) (oName 4)) (aCons (eBin atD (oName 1) (oVal (eBin fAdd (oName 4) (oName 2)))) (aNil))))
    (sAsg (gT 2 (gsCons (gIx 1 (eName 4)) (gsCons (gIx 1 (eBin fAdd (oName 4) (oName 2))) (gsNil)))) (eTup (aCons (eBin fAdd (oName 5) (oName 6)) (aCons (eBin fSub (oName 5) (oName 6)) (aNil))))))))
      ([a, some (.own (.lst (tb (2 ^ m) (PM.B j g)))), some (.val (.int ((2 ^ j : Nat) : Int))), x3, x4, x5, x6] ++ rest) Q := by
  have p12 : 2 ^ j ≤ 2 ^ 12 := Nat.pow_le_pow_right (by decide) (by omega)
  have pm12 : 2 ^ m ≤ 2 ^ 12 := Nat.pow_le_pow_right (by decide) (by omega)
  have pj := Nat.two_pow_pos j
  have eN : 2 ^ m = (2 * 2 ^ j) * 2 ^ (m - j - 1) := by
    rw [Nat.mul_comm 2, ← Nat.pow_succ, ← Nat.pow_add]; congr 1; omega
  have eN2 : 2 ^ m = 2 ^ j * (2 * 2 ^ (m - j - 1)) := by rw [eN, Nat.mul_comm 2, Nat.mul_assoc]
  have ec : (2 : Int) * ((2 ^ j : Nat) : Int) = ((2 * 2 ^ j : Nat) : Int) := by omega
  simp only [T_ret, T_eName, TN_val, TN_own, T_oName, TR_some, T_oVal, T_eC, T_eFrz, celD_lst, slotD_val, slotD_own, slotD_bor, rs_d, rs_s, rss_nil, rss_cons, T_op2, T_op2L, T_op1, T_opN, T_opNL, T_eBin, T_lBin, T_eUn, T_eFn, T_lFn, T_oNil, T_oCons, T_aNil, T_aCons, T_eTup, T_lLst, TB_bool, T_tOf, T_mTru, br_true, br_false, T_mAnd, T_mOr, T_mNot, T_eAnd, T_eOr, T_eNot, T_eIf, T_lIf, T_eChain, T_eIsi, T_mCall, T_mCallK, CB_own, CB_bor, T_mCallB, T_mCallT, TSV_val, TSV_own, T_eSV, TSL_own, T_lSV, sq_nx, sq_rt, sq_bk, sq_ct, T_sSeq, T_sSkip, T_sExpr, T_sRetV, T_sRetL, T_sRetS, T_sRetN, TRN_val, TRN_own, T_sRetName, T_sIf, T_sSetV, T_sSetL, TSet_val, TSet_own, T_sSetS, L2T_two, L3T_three, T_sPar, T_sPar3, T_sParL, T_sAug, T_sAsg, gN_eq, gT_eq, gsNil_eq, gsCons_eq, IX_own, IX_bor, O_gIx, T_mNoPart, TI_int, T_mPart, TLs_list, TTs_tuple, T_lCut, T_eCut, LO_nil, LO_cons, T_lOr, TAny_list, TAny_tuple, T_iAny, T_iEnumD, TZ_list, TZ_tuple, T_iZipD, TRg1_int, T_iRange1, TRg2_int, T_iRange2, TRg3_int, T_iRange3, lpK_nx, lpK_ct, lpK_bk, lpK_rt, fcK_nx, fcK_ct, fcK_bk, fcK_rt, wlK_nx, wlK_ct, wlK_bk, wlK_rt, wipe_nil, wipe_cons, back_nil, back_cons, noC_nil, noC_cons, noC1_none, noC1_val, T_comp_nil, T_lComp, MX_own, MX_bor, isCellLst_own, isCellLst_bor, T_eMut, T_eMeth, RP_lst, T_lRep, gL_eq, T_sParLL, T_sParVL, RG_int, T_lRange1, T_inK, T_eInK, T_eNinK, dictD_own, keyD_int, T_lDict, TO_nx, TO_val, TO_own, T0_bor, O_mkP, O_mkB, O_some, O_none, O_ite, O_bind, O_map, fAdd_i, fAddI_i, fSub_i, fMul_i, fDiv_i, fMod_i, fShl_i, fAnd_i, fXor_i, fShr_i, fLt_i, fLe_i, fGt_i, fGe_i, fEq_i, fNe_i, fNeg_i, ixN_3_0, ixN_3_1, ixN_3_2, ixN_2_0, ixN_2_1, ixN_1_0, truD_i, truD_b, intD_i, intD_b, absD_i, lenD_l, lenD_t, tupleD_l, tupleD_t, listD_l, listD_t, List.map_cons, List.map_nil, List.length_cons, List.length_nil, List.cons_append, List.nil_append, List.replicate_succ, List.replicate_zero, List.set_cons_zero, List.set_cons_succ, List.getElem?_cons_zero, List.getElem?_cons_succ, Option.getD_some, Option.bind_some, Option.map_some, true_and, and_true, Bool.false_eq_true, Nat.reduceAdd, Nat.reduceSub, Nat.reduceLeDiff, Nat.le_refl, Bool.and_true, Bool.and_self, Bool.not_true, Bool.not_false, if_true, if_false, reduceIte, Nat.zero_add, Nat.sub_self, T_sFor, tb_len]
  rw [ec]
  refine ⟨cMulL (by decide), ⟨by omega, by omega, ?_⟩, ?_⟩
  · have hs : Builtin.Range.rangeSize 0 ((2 ^ m : Nat) : Int) ((2 * 2 ^ j : Nat) : Int) = ((2 ^ (m - j - 1) : Nat) : Int) := by
      have h1 := range_size (H := 2 ^ (m - j - 1)) (w := 2 * 2 ^ j) (by omega)
      rw [← eN] at h1
      have h2 : 0 < 2 ^ (m - j - 1) := Nat.two_pow_pos _
      omega
    have h3 : 2 ^ (m - j - 1) ≤ 2 ^ 12 := Nat.pow_le_pow_right (by decide) (by omega)
    have h4 : 0 < 2 ^ (m - j - 1) := Nat.two_pow_pos _
    have h5 := Nat.two_pow_pos m
    unfold Builtin.Range.small
    rw [hs]
    clear hs eN eN2 ec hQ
    generalize 2 ^ (m - j - 1) = z at *
    generalize 2 ^ j = w at *
    generalize 2 ^ m = N at *
    unfold Builtin.Range.rangeFitsLong
    simp only [Bool.and_eq_true, Bool.or_eq_true, decide_eq_true_eq]
    rw [if_pos (by omega)]
    simp only [Bool.and_eq_true, Bool.or_eq_true, decide_eq_true_eq]
    refine ⟨⟨⟨⟨?_, ?_⟩, ?_⟩, ?_⟩, .inr ?_⟩ <;> omega
  rw [eN, range_size (by omega), ← eN]
  refine T_forL (fun h S => ∃ x3 x4 x5 x6, S = ([a, some (.own (.lst (tb (2 ^ m) (stg j h 0 g)))), some (.val (.int ((2 ^ j : Nat) : Int))), x3, x4, x5, x6] ++ rest)) ⟨x3, x4, x5, x6, by rw [stg_start]; rfl⟩ ?_ ?_
  · rintro h d hd S ⟨x3, x4, x5, x6, rfl⟩
    obtain ⟨hh, rfl⟩ := range3_get hd
    have hb : 2 ^ j * (2 * h) + 2 ^ j + 2 ^ j ≤ 2 ^ m := by
      rw [eN2]
      have : 2 ^ j * (2 * (h + 1)) ≤ 2 ^ j * (2 * 2 ^ (m - j - 1)) := Nat.mul_le_mul_left _ (by omega)
      rw [Nat.mul_add, Nat.mul_one, Nat.mul_add, Nat.mul_two] at this
      omega
    have ed : (0 : Int) + (h : Int) * ((2 * 2 ^ j : Nat) : Int) = ((2 ^ j * (2 * h) : Nat) : Int) := by
      rw [Int.zero_add, ← Int.natCast_mul]; congr 1
      rw [Nat.mul_comm, Nat.mul_comm 2, Nat.mul_assoc]
    rw [ed]
    simp only [T_ret, T_eName, TN_val, TN_own, T_oName, TR_some, T_oVal, T_eC, T_eFrz, celD_lst, slotD_val, slotD_own, slotD_bor, rs_d, rs_s, rss_nil, rss_cons, T_op2, T_op2L, T_op1, T_opN, T_opNL, T_eBin, T_lBin, T_eUn, T_eFn, T_lFn, T_oNil, T_oCons, T_aNil, T_aCons, T_eTup, T_lLst, TB_bool, T_tOf, T_mTru, br_true, br_false, T_mAnd, T_mOr, T_mNot, T_eAnd, T_eOr, T_eNot, T_eIf, T_lIf, T_eChain, T_eIsi, T_mCall, T_mCallK, CB_own, CB_bor, T_mCallB, T_mCallT, TSV_val, TSV_own, T_eSV, TSL_own, T_lSV, sq_nx, sq_rt, sq_bk, sq_ct, T_sSeq, T_sSkip, T_sExpr, T_sRetV, T_sRetL, T_sRetS, T_sRetN, TRN_val, TRN_own, T_sRetName, T_sIf, T_sSetV, T_sSetL, TSet_val, TSet_own, T_sSetS, L2T_two, L3T_three, T_sPar, T_sPar3, T_sParL, T_sAug, T_sAsg, gN_eq, gT_eq, gsNil_eq, gsCons_eq, IX_own, IX_bor, O_gIx, T_mNoPart, TI_int, T_mPart, TLs_list, TTs_tuple, T_lCut, T_eCut, LO_nil, LO_cons, T_lOr, TAny_list, TAny_tuple, T_iAny, T_iEnumD, TZ_list, TZ_tuple, T_iZipD, TRg1_int, T_iRange1, TRg2_int, T_iRange2, TRg3_int, T_iRange3, lpK_nx, lpK_ct, lpK_bk, lpK_rt, fcK_nx, fcK_ct, fcK_bk, fcK_rt, wlK_nx, wlK_ct, wlK_bk, wlK_rt, wipe_nil, wipe_cons, back_nil, back_cons, noC_nil, noC_cons, noC1_none, noC1_val, T_comp_nil, T_lComp, MX_own, MX_bor, isCellLst_own, isCellLst_bor, T_eMut, T_eMeth, RP_lst, T_lRep, gL_eq, T_sParLL, T_sParVL, RG_int, T_lRange1, T_inK, T_eInK, T_eNinK, dictD_own, keyD_int, T_lDict, TO_nx, TO_val, TO_own, T0_bor, O_mkP, O_mkB, O_some, O_none, O_ite, O_bind, O_map, fAdd_i, fAddI_i, fSub_i, fMul_i, fDiv_i, fMod_i, fShl_i, fAnd_i, fXor_i, fShr_i, fLt_i, fLe_i, fGt_i, fGe_i, fEq_i, fNe_i, fNeg_i, ixN_3_0, ixN_3_1, ixN_3_2, ixN_2_0, ixN_2_1, ixN_1_0, truD_i, truD_b, intD_i, intD_b, absD_i, lenD_l, lenD_t, tupleD_l, tupleD_t, listD_l, listD_t, List.map_cons, List.map_nil, List.length_cons, List.length_nil, List.cons_append, List.nil_append, List.replicate_succ, List.replicate_zero, List.set_cons_zero, List.set_cons_succ, List.getElem?_cons_zero, List.getElem?_cons_succ, Option.getD_some, Option.bind_some, Option.map_some, true_and, and_true, Bool.false_eq_true, Nat.reduceAdd, Nat.reduceSub, Nat.reduceLeDiff, Nat.le_refl, Bool.and_true, Bool.and_self, Bool.not_true, Bool.not_false, if_true, if_false, reduceIte, Nat.zero_add, Nat.sub_self, T_sFor]
    generalize hB : 2 ^ j * (2 * h) = b at *
    refine ⟨⟨by omega, by omega, by omega, by omega⟩, ?_⟩
    refine T_forR (fun q S => ∃ x3 x4 x5 x6, S = ([a, some (.own (.lst (tb (2 ^ m) (stg j h q g)))), some (.val (.int ((2 ^ j : Nat) : Int))), some (.val (.int (b : Nat))), x4, x5, x6] ++ rest)) ⟨x3, x4, x5, x6, rfl⟩ ?_ ?_
    · rintro q hq S ⟨x3, x4, x5, x6, rfl⟩
      have hq : q < 2 ^ j := by omega
      have e1 : (b : Int) + (q : Int) = ((b + q : Nat) : Int) := by omega
      have e2 : ((b + q : Nat) : Int) + ((2 ^ j : Nat) : Int) = ((b + q + 2 ^ j : Nat) : Int) := by omega
      rw [e1]
      simp only [T_ret, T_eName, TN_val, TN_own, T_oName, TR_some, T_oVal, T_eC, T_eFrz, celD_lst, slotD_val, slotD_own, slotD_bor, rs_d, rs_s, rss_nil, rss_cons, T_op2, T_op2L, T_op1, T_opN, T_opNL, T_eBin, T_lBin, T_eUn, T_eFn, T_lFn, T_oNil, T_oCons, T_aNil, T_aCons, T_eTup, T_lLst, TB_bool, T_tOf, T_mTru, br_true, br_false, T_mAnd, T_mOr, T_mNot, T_eAnd, T_eOr, T_eNot, T_eIf, T_lIf, T_eChain, T_eIsi, T_mCall, T_mCallK, CB_own, CB_bor, T_mCallB, T_mCallT, TSV_val, TSV_own, T_eSV, TSL_own, T_lSV, sq_nx, sq_rt, sq_bk, sq_ct, T_sSeq, T_sSkip, T_sExpr, T_sRetV, T_sRetL, T_sRetS, T_sRetN, TRN_val, TRN_own, T_sRetName, T_sIf, T_sSetV, T_sSetL, TSet_val, TSet_own, T_sSetS, L2T_two, L3T_three, T_sPar, T_sPar3, T_sParL, T_sAug, T_sAsg, gN_eq, gT_eq, gsNil_eq, gsCons_eq, IX_own, IX_bor, O_gIx, T_mNoPart, TI_int, T_mPart, TLs_list, TTs_tuple, T_lCut, T_eCut, LO_nil, LO_cons, T_lOr, TAny_list, TAny_tuple, T_iAny, T_iEnumD, TZ_list, TZ_tuple, T_iZipD, TRg1_int, T_iRange1, TRg2_int, T_iRange2, TRg3_int, T_iRange3, lpK_nx, lpK_ct, lpK_bk, lpK_rt, fcK_nx, fcK_ct, fcK_bk, fcK_rt, wlK_nx, wlK_ct, wlK_bk, wlK_rt, wipe_nil, wipe_cons, back_nil, back_cons, noC_nil, noC_cons, noC1_none, noC1_val, T_comp_nil, T_lComp, MX_own, MX_bor, isCellLst_own, isCellLst_bor, T_eMut, T_eMeth, RP_lst, T_lRep, gL_eq, T_sParLL, T_sParVL, RG_int, T_lRange1, T_inK, T_eInK, T_eNinK, dictD_own, keyD_int, T_lDict, TO_nx, TO_val, TO_own, T0_bor, O_mkP, O_mkB, O_some, O_none, O_ite, O_bind, O_map, fAdd_i, fAddI_i, fSub_i, fMul_i, fDiv_i, fMod_i, fShl_i, fAnd_i, fXor_i, fShr_i, fLt_i, fLe_i, fGt_i, fGe_i, fEq_i, fNe_i, fNeg_i, ixN_3_0, ixN_3_1, ixN_3_2, ixN_2_0, ixN_2_1, ixN_1_0, truD_i, truD_b, intD_i, intD_b, absD_i, lenD_l, lenD_t, tupleD_l, tupleD_t, listD_l, listD_t, List.map_cons, List.map_nil, List.length_cons, List.length_nil, List.cons_append, List.nil_append, List.replicate_succ, List.replicate_zero, List.set_cons_zero, List.set_cons_succ, List.getElem?_cons_zero, List.getElem?_cons_succ, Option.getD_some, Option.bind_some, Option.map_some, true_and, and_true, Bool.false_eq_true, Nat.reduceAdd, Nat.reduceSub, Nat.reduceLeDiff, Nat.le_refl, Bool.and_true, Bool.and_self, Bool.not_true, Bool.not_false, if_true, if_false, reduceIte, Nat.zero_add, Nat.sub_self, e2, tb_atL (n := 2 ^ m) (k := b + q) rfl (by omega), tb_atL (n := 2 ^ m) (k := b + q + 2 ^ j) rfl (by omega)]
      simp only [T_ret, T_eName, TN_val, TN_own, T_oName, TR_some, T_oVal, T_eC, T_eFrz, celD_lst, slotD_val, slotD_own, slotD_bor, rs_d, rs_s, rss_nil, rss_cons, T_op2, T_op2L, T_op1, T_opN, T_opNL, T_eBin, T_lBin, T_eUn, T_eFn, T_lFn, T_oNil, T_oCons, T_aNil, T_aCons, T_eTup, T_lLst, TB_bool, T_tOf, T_mTru, br_true, br_false, T_mAnd, T_mOr, T_mNot, T_eAnd, T_eOr, T_eNot, T_eIf, T_lIf, T_eChain, T_eIsi, T_mCall, T_mCallK, CB_own, CB_bor, T_mCallB, T_mCallT, TSV_val, TSV_own, T_eSV, TSL_own, T_lSV, sq_nx, sq_rt, sq_bk, sq_ct, T_sSeq, T_sSkip, T_sExpr, T_sRetV, T_sRetL, T_sRetS, T_sRetN, TRN_val, TRN_own, T_sRetName, T_sIf, T_sSetV, T_sSetL, TSet_val, TSet_own, T_sSetS, L2T_two, L3T_three, T_sPar, T_sPar3, T_sParL, T_sAug, T_sAsg, gN_eq, gT_eq, gsNil_eq, gsCons_eq, IX_own, IX_bor, O_gIx, T_mNoPart, TI_int, T_mPart, TLs_list, TTs_tuple, T_lCut, T_eCut, LO_nil, LO_cons, T_lOr, TAny_list, TAny_tuple, T_iAny, T_iEnumD, TZ_list, TZ_tuple, T_iZipD, TRg1_int, T_iRange1, TRg2_int, T_iRange2, TRg3_int, T_iRange3, lpK_nx, lpK_ct, lpK_bk, lpK_rt, fcK_nx, fcK_ct, fcK_bk, fcK_rt, wlK_nx, wlK_ct, wlK_bk, wlK_rt, wipe_nil, wipe_cons, back_nil, back_cons, noC_nil, noC_cons, noC1_none, noC1_val, T_comp_nil, T_lComp, MX_own, MX_bor, isCellLst_own, isCellLst_bor, T_eMut, T_eMeth, RP_lst, T_lRep, gL_eq, T_sParLL, T_sParVL, RG_int, T_lRange1, T_inK, T_eInK, T_eNinK, dictD_own, keyD_int, T_lDict, TO_nx, TO_val, TO_own, T0_bor, O_mkP, O_mkB, O_some, O_none, O_ite, O_bind, O_map, fAdd_i, fAddI_i, fSub_i, fMul_i, fDiv_i, fMod_i, fShl_i, fAnd_i, fXor_i, fShr_i, fLt_i, fLe_i, fGt_i, fGe_i, fEq_i, fNe_i, fNeg_i, ixN_3_0, ixN_3_1, ixN_3_2, ixN_2_0, ixN_2_1, ixN_1_0, truD_i, truD_b, intD_i, intD_b, absD_i, lenD_l, lenD_t, tupleD_l, tupleD_t, listD_l, listD_t, List.map_cons, List.map_nil, List.length_cons, List.length_nil, List.cons_append, List.nil_append, List.replicate_succ, List.replicate_zero, List.set_cons_zero, List.set_cons_succ, List.getElem?_cons_zero, List.getElem?_cons_succ, Option.getD_some, Option.bind_some, Option.map_some, true_and, and_true, Bool.false_eq_true, Nat.reduceAdd, Nat.reduceSub, Nat.reduceLeDiff, Nat.le_refl, Bool.and_true, Bool.and_self, Bool.not_true, Bool.not_false, if_true, if_false, reduceIte, Nat.zero_add, Nat.sub_self, List.length_set, tb_len, ixN_nat (n := 2 ^ m) (k := b + q) (by omega), ixN_nat (n := 2 ^ m) (k := b + q + 2 ^ j) (by omega)]
      have key : ((tb (2 ^ m) (stg j h q g)).set (b + q) (.int (stg j h q g (b + q) + stg j h q g (b + q + 2 ^ j)))).set (b + q + 2 ^ j) (.int (stg j h q g (b + q) - stg j h q g (b + q + 2 ^ j))) = tb (2 ^ m) (stg j h (q + 1) g) := by
        rw [tb_set, tb_set]
        refine tb_congr fun p _ => ?_
        rw [← stg_succ hq, ← hB, stg_a hq, stg_b hq]
      rw [key]
      exact ⟨none, _, _, _, rfl⟩
    · rintro S ⟨x3, x4, x5, x6, rfl⟩
      simp only [T_ret, T_eName, TN_val, TN_own, T_oName, TR_some, T_oVal, T_eC, T_eFrz, celD_lst, slotD_val, slotD_own, slotD_bor, rs_d, rs_s, rss_nil, rss_cons, T_op2, T_op2L, T_op1, T_opN, T_opNL, T_eBin, T_lBin, T_eUn, T_eFn, T_lFn, T_oNil, T_oCons, T_aNil, T_aCons, T_eTup, T_lLst, TB_bool, T_tOf, T_mTru, br_true, br_false, T_mAnd, T_mOr, T_mNot, T_eAnd, T_eOr, T_eNot, T_eIf, T_lIf, T_eChain, T_eIsi, T_mCall, T_mCallK, CB_own, CB_bor, T_mCallB, T_mCallT, TSV_val, TSV_own, T_eSV, TSL_own, T_lSV, sq_nx, sq_rt, sq_bk, sq_ct, T_sSeq, T_sSkip, T_sExpr, T_sRetV, T_sRetL, T_sRetS, T_sRetN, TRN_val, TRN_own, T_sRetName, T_sIf, T_sSetV, T_sSetL, TSet_val, TSet_own, T_sSetS, L2T_two, L3T_three, T_sPar, T_sPar3, T_sParL, T_sAug, T_sAsg, gN_eq, gT_eq, gsNil_eq, gsCons_eq, IX_own, IX_bor, O_gIx, T_mNoPart, TI_int, T_mPart, TLs_list, TTs_tuple, T_lCut, T_eCut, LO_nil, LO_cons, T_lOr, TAny_list, TAny_tuple, T_iAny, T_iEnumD, TZ_list, TZ_tuple, T_iZipD, TRg1_int, T_iRange1, TRg2_int, T_iRange2, TRg3_int, T_iRange3, lpK_nx, lpK_ct, lpK_bk, lpK_rt, fcK_nx, fcK_ct, fcK_bk, fcK_rt, wlK_nx, wlK_ct, wlK_bk, wlK_rt, wipe_nil, wipe_cons, back_nil, back_cons, noC_nil, noC_cons, noC1_none, noC1_val, T_comp_nil, T_lComp, MX_own, MX_bor, isCellLst_own, isCellLst_bor, T_eMut, T_eMeth, RP_lst, T_lRep, gL_eq, T_sParLL, T_sParVL, RG_int, T_lRange1, T_inK, T_eInK, T_eNinK, dictD_own, keyD_int, T_lDict, TO_nx, TO_val, TO_own, T0_bor, O_mkP, O_mkB, O_some, O_none, O_ite, O_bind, O_map, fAdd_i, fAddI_i, fSub_i, fMul_i, fDiv_i, fMod_i, fShl_i, fAnd_i, fXor_i, fShr_i, fLt_i, fLe_i, fGt_i, fGe_i, fEq_i, fNe_i, fNeg_i, ixN_3_0, ixN_3_1, ixN_3_2, ixN_2_0, ixN_2_1, ixN_1_0, truD_i, truD_b, intD_i, intD_b, absD_i, lenD_l, lenD_t, tupleD_l, tupleD_t, listD_l, listD_t, List.map_cons, List.map_nil, List.length_cons, List.length_nil, List.cons_append, List.nil_append, List.replicate_succ, List.replicate_zero, List.set_cons_zero, List.set_cons_succ, List.getElem?_cons_zero, List.getElem?_cons_succ, Option.getD_some, Option.bind_some, Option.map_some, true_and, and_true, Bool.false_eq_true, Nat.reduceAdd, Nat.reduceSub, Nat.reduceLeDiff, Nat.le_refl, Bool.and_true, Bool.and_self, Bool.not_true, Bool.not_false, if_true, if_false, reduceIte, Nat.zero_add, Nat.sub_self]
      have e : ((b : Int) + ((2 ^ j : Nat) : Int) - (b : Int)).toNat = 2 ^ j := by omega
      rw [e, stg_next]
      exact ⟨_, _, _, _, rfl⟩
  · rintro S ⟨x3, x4, x5, x6, rfl⟩
    rw [range3_len]
    have : tb (2 ^ m) (stg j (2 ^ (m - j - 1)) 0 g) = tb (2 ^ m) (PM.B (j + 1) g) := tb_congr fun p hp => stg_end (by rw [← eN2]; exact hp)
    rw [this]
    exact hQ _ _ _ _
theorem sums_in_ok {m : Nat} {t : Nat → Int} (hm : m ≤ 12) : F_sums_in [.tuple (tb (2 ^ m) t)] = some (.own (.lst (tb (2 ^ m) (WH m fun k => 1 - 2 * t k)))) := by
  apply O_is.mp
  have pm12 : 2 ^ m ≤ 2 ^ 12 := Nat.pow_le_pow_right (by decide) (by omega)
  unfold F_sums_in b_sums_in
  simp only [T_ret, T_eName, TN_val, TN_own, T_oName, TR_some, T_oVal, T_eC, T_eFrz, celD_lst, slotD_val, slotD_own, slotD_bor, rs_d, rs_s, rss_nil, rss_cons, T_op2, T_op2L, T_op1, T_opN, T_opNL, T_eBin, T_lBin, T_eUn, T_eFn, T_lFn, T_oNil, T_oCons, T_aNil, T_aCons, T_eTup, T_lLst, TB_bool, T_tOf, T_mTru, br_true, br_false, T_mAnd, T_mOr, T_mNot, T_eAnd, T_eOr, T_eNot, T_eIf, T_lIf, T_eChain, T_eIsi, T_mCall, T_mCallK, CB_own, CB_bor, T_mCallB, T_mCallT, TSV_val, TSV_own, T_eSV, TSL_own, T_lSV, sq_nx, sq_rt, sq_bk, sq_ct, T_sSeq, T_sSkip, T_sExpr, T_sRetV, T_sRetL, T_sRetS, T_sRetN, TRN_val, TRN_own, T_sRetName, T_sIf, T_sSetV, T_sSetL, TSet_val, TSet_own, T_sSetS, L2T_two, L3T_three, T_sPar, T_sPar3, T_sParL, T_sAug, T_sAsg, gN_eq, gT_eq, gsNil_eq, gsCons_eq, IX_own, IX_bor, O_gIx, T_mNoPart, TI_int, T_mPart, TLs_list, TTs_tuple, T_lCut, T_eCut, LO_nil, LO_cons, T_lOr, TAny_list, TAny_tuple, T_iAny, T_iEnumD, TZ_list, TZ_tuple, T_iZipD, TRg1_int, T_iRange1, TRg2_int, T_iRange2, TRg3_int, T_iRange3, lpK_nx, lpK_ct, lpK_bk, lpK_rt, fcK_nx, fcK_ct, fcK_bk, fcK_rt, wlK_nx, wlK_ct, wlK_bk, wlK_rt, wipe_nil, wipe_cons, back_nil, back_cons, noC_nil, noC_cons, noC1_none, noC1_val, T_comp_nil, T_lComp, MX_own, MX_bor, isCellLst_own, isCellLst_bor, T_eMut, T_eMeth, RP_lst, T_lRep, gL_eq, T_sParLL, T_sParVL, RG_int, T_lRange1, T_inK, T_eInK, T_eNinK, dictD_own, keyD_int, T_lDict, TO_nx, TO_val, TO_own, T0_bor, O_mkP, O_mkB, O_some, O_none, O_ite, O_bind, O_map, fAdd_i, fAddI_i, fSub_i, fMul_i, fDiv_i, fMod_i, fShl_i, fAnd_i, fXor_i, fShr_i, fLt_i, fLe_i, fGt_i, fGe_i, fEq_i, fNe_i, fNeg_i, ixN_3_0, ixN_3_1, ixN_3_2, ixN_2_0, ixN_2_1, ixN_1_0, truD_i, truD_b, intD_i, intD_b, absD_i, lenD_l, lenD_t, tupleD_l, tupleD_t, listD_l, listD_t, List.map_cons, List.map_nil, List.length_cons, List.length_nil, List.cons_append, List.nil_append, List.replicate_succ, List.replicate_zero, List.set_cons_zero, List.set_cons_succ, List.getElem?_cons_zero, List.getElem?_cons_succ, Option.getD_some, Option.bind_some, Option.map_some, true_and, and_true, Bool.false_eq_true, Nat.reduceAdd, Nat.reduceSub, Nat.reduceLeDiff, Nat.le_refl, Bool.and_true, Bool.and_self, Bool.not_true, Bool.not_false, if_true, if_false, reduceIte, Nat.zero_add, Nat.sub_self, tb_len]
  refine ⟨by omega, T_compMap (fun d => match d with | .int i => .int (1 - 2 * i) | d => d) ?_ ?_⟩
  · intro d hd
    obtain ⟨j, hj, rfl⟩ := tb_mem hd
    simp only [T_ret, T_eName, TN_val, TN_own, T_oName, TR_some, T_oVal, T_eC, T_eFrz, celD_lst, slotD_val, slotD_own, slotD_bor, rs_d, rs_s, rss_nil, rss_cons, T_op2, T_op2L, T_op1, T_opN, T_opNL, T_eBin, T_lBin, T_eUn, T_eFn, T_lFn, T_oNil, T_oCons, T_aNil, T_aCons, T_eTup, T_lLst, TB_bool, T_tOf, T_mTru, br_true, br_false, T_mAnd, T_mOr, T_mNot, T_eAnd, T_eOr, T_eNot, T_eIf, T_lIf, T_eChain, T_eIsi, T_mCall, T_mCallK, CB_own, CB_bor, T_mCallB, T_mCallT, TSV_val, TSV_own, T_eSV, TSL_own, T_lSV, sq_nx, sq_rt, sq_bk, sq_ct, T_sSeq, T_sSkip, T_sExpr, T_sRetV, T_sRetL, T_sRetS, T_sRetN, TRN_val, TRN_own, T_sRetName, T_sIf, T_sSetV, T_sSetL, TSet_val, TSet_own, T_sSetS, L2T_two, L3T_three, T_sPar, T_sPar3, T_sParL, T_sAug, T_sAsg, gN_eq, gT_eq, gsNil_eq, gsCons_eq, IX_own, IX_bor, O_gIx, T_mNoPart, TI_int, T_mPart, TLs_list, TTs_tuple, T_lCut, T_eCut, LO_nil, LO_cons, T_lOr, TAny_list, TAny_tuple, T_iAny, T_iEnumD, TZ_list, TZ_tuple, T_iZipD, TRg1_int, T_iRange1, TRg2_int, T_iRange2, TRg3_int, T_iRange3, lpK_nx, lpK_ct, lpK_bk, lpK_rt, fcK_nx, fcK_ct, fcK_bk, fcK_rt, wlK_nx, wlK_ct, wlK_bk, wlK_rt, wipe_nil, wipe_cons, back_nil, back_cons, noC_nil, noC_cons, noC1_none, noC1_val, T_comp_nil, T_lComp, MX_own, MX_bor, isCellLst_own, isCellLst_bor, T_eMut, T_eMeth, RP_lst, T_lRep, gL_eq, T_sParLL, T_sParVL, RG_int, T_lRange1, T_inK, T_eInK, T_eNinK, dictD_own, keyD_int, T_lDict, TO_nx, TO_val, TO_own, T0_bor, O_mkP, O_mkB, O_some, O_none, O_ite, O_bind, O_map, fAdd_i, fAddI_i, fSub_i, fMul_i, fDiv_i, fMod_i, fShl_i, fAnd_i, fXor_i, fShr_i, fLt_i, fLe_i, fGt_i, fGe_i, fEq_i, fNe_i, fNeg_i, ixN_3_0, ixN_3_1, ixN_3_2, ixN_2_0, ixN_2_1, ixN_1_0, truD_i, truD_b, intD_i, intD_b, absD_i, lenD_l, lenD_t, tupleD_l, tupleD_t, listD_l, listD_t, List.map_cons, List.map_nil, List.length_cons, List.length_nil, List.cons_append, List.nil_append, List.replicate_succ, List.replicate_zero, List.set_cons_zero, List.set_cons_succ, List.getElem?_cons_zero, List.getElem?_cons_succ, Option.getD_some, Option.bind_some, Option.map_some, true_and, and_true, Bool.false_eq_true, Nat.reduceAdd, Nat.reduceSub, Nat.reduceLeDiff, Nat.le_refl, Bool.and_true, Bool.and_self, Bool.not_true, Bool.not_false, if_true, if_false, reduceIte, Nat.zero_add, Nat.sub_self]
    exact cMulL (by decide)
  simp only [T_ret, T_eName, TN_val, TN_own, T_oName, TR_some, T_oVal, T_eC, T_eFrz, celD_lst, slotD_val, slotD_own, slotD_bor, rs_d, rs_s, rss_nil, rss_cons, T_op2, T_op2L, T_op1, T_opN, T_opNL, T_eBin, T_lBin, T_eUn, T_eFn, T_lFn, T_oNil, T_oCons, T_aNil, T_aCons, T_eTup, T_lLst, TB_bool, T_tOf, T_mTru, br_true, br_false, T_mAnd, T_mOr, T_mNot, T_eAnd, T_eOr, T_eNot, T_eIf, T_lIf, T_eChain, T_eIsi, T_mCall, T_mCallK, CB_own, CB_bor, T_mCallB, T_mCallT, TSV_val, TSV_own, T_eSV, TSL_own, T_lSV, sq_nx, sq_rt, sq_bk, sq_ct, T_sSeq, T_sSkip, T_sExpr, T_sRetV, T_sRetL, T_sRetS, T_sRetN, TRN_val, TRN_own, T_sRetName, T_sIf, T_sSetV, T_sSetL, TSet_val, TSet_own, T_sSetS, L2T_two, L3T_three, T_sPar, T_sPar3, T_sParL, T_sAug, T_sAsg, gN_eq, gT_eq, gsNil_eq, gsCons_eq, IX_own, IX_bor, O_gIx, T_mNoPart, TI_int, T_mPart, TLs_list, TTs_tuple, T_lCut, T_eCut, LO_nil, LO_cons, T_lOr, TAny_list, TAny_tuple, T_iAny, T_iEnumD, TZ_list, TZ_tuple, T_iZipD, TRg1_int, T_iRange1, TRg2_int, T_iRange2, TRg3_int, T_iRange3, lpK_nx, lpK_ct, lpK_bk, lpK_rt, fcK_nx, fcK_ct, fcK_bk, fcK_rt, wlK_nx, wlK_ct, wlK_bk, wlK_rt, wipe_nil, wipe_cons, back_nil, back_cons, noC_nil, noC_cons, noC1_none, noC1_val, T_comp_nil, T_lComp, MX_own, MX_bor, isCellLst_own, isCellLst_bor, T_eMut, T_eMeth, RP_lst, T_lRep, gL_eq, T_sParLL, T_sParVL, RG_int, T_lRange1, T_inK, T_eInK, T_eNinK, dictD_own, keyD_int, T_lDict, TO_nx, TO_val, TO_own, T0_bor, O_mkP, O_mkB, O_some, O_none, O_ite, O_bind, O_map, fAdd_i, fAddI_i, fSub_i, fMul_i, fDiv_i, fMod_i, fShl_i, fAnd_i, fXor_i, fShr_i, fLt_i, fLe_i, fGt_i, fGe_i, fEq_i, fNe_i, fNeg_i, ixN_3_0, ixN_3_1, ixN_3_2, ixN_2_0, ixN_2_1, ixN_1_0, truD_i, truD_b, intD_i, intD_b, absD_i, lenD_l, lenD_t, tupleD_l, tupleD_t, listD_l, listD_t, List.map_cons, List.map_nil, List.length_cons, List.length_nil, List.cons_append, List.nil_append, List.replicate_succ, List.replicate_zero, List.set_cons_zero, List.set_cons_succ, List.getElem?_cons_zero, List.getElem?_cons_succ, Option.getD_some, Option.bind_some, Option.map_some, true_and, and_true, Bool.false_eq_true, Nat.reduceAdd, Nat.reduceSub, Nat.reduceLeDiff, Nat.le_refl, Bool.and_true, Bool.and_self, Bool.not_true, Bool.not_false, if_true, if_false, reduceIte, Nat.zero_add, Nat.sub_self]
  rw [tb_map (g := fun k => 1 - 2 * t k) fun k _ => rfl]
  refine T_while (fun k S => ∃ j x3 x4 x5 x6, j + k = m ∧ S = ([some (.val (.tuple (tb (2 ^ m) t))), some (.own (.lst (tb (2 ^ m) (PM.B j fun k => 1 - 2 * t k)))), some (.val (.int ((2 ^ j : Nat) : Int))), x3, x4, x5, x6] ++ [none])) m ?_ ⟨0, none, none, none, none, by omega, rfl⟩ ?_
  · show m < 1000000; omega
  rintro k S ⟨j, x3, x4, x5, x6, hj, rfl⟩
  simp only [T_ret, T_eName, TN_val, TN_own, T_oName, TR_some, T_oVal, T_eC, T_eFrz, celD_lst, slotD_val, slotD_own, slotD_bor, rs_d, rs_s, rss_nil, rss_cons, T_op2, T_op2L, T_op1, T_opN, T_opNL, T_eBin, T_lBin, T_eUn, T_eFn, T_lFn, T_oNil, T_oCons, T_aNil, T_aCons, T_eTup, T_lLst, TB_bool, T_tOf, T_mTru, br_true, br_false, T_mAnd, T_mOr, T_mNot, T_eAnd, T_eOr, T_eNot, T_eIf, T_lIf, T_eChain, T_eIsi, T_mCall, T_mCallK, CB_own, CB_bor, T_mCallB, T_mCallT, TSV_val, TSV_own, T_eSV, TSL_own, T_lSV, sq_nx, sq_rt, sq_bk, sq_ct, T_sSeq, T_sSkip, T_sExpr, T_sRetV, T_sRetL, T_sRetS, T_sRetN, TRN_val, TRN_own, T_sRetName, T_sIf, T_sSetV, T_sSetL, TSet_val, TSet_own, T_sSetS, L2T_two, L3T_three, T_sPar, T_sPar3, T_sParL, T_sAug, T_sAsg, gN_eq, gT_eq, gsNil_eq, gsCons_eq, IX_own, IX_bor, O_gIx, T_mNoPart, TI_int, T_mPart, TLs_list, TTs_tuple, T_lCut, T_eCut, LO_nil, LO_cons, T_lOr, TAny_list, TAny_tuple, T_iAny, T_iEnumD, TZ_list, TZ_tuple, T_iZipD, TRg1_int, T_iRange1, TRg2_int, T_iRange2, TRg3_int, T_iRange3, lpK_nx, lpK_ct, lpK_bk, lpK_rt, fcK_nx, fcK_ct, fcK_bk, fcK_rt, wlK_nx, wlK_ct, wlK_bk, wlK_rt, wipe_nil, wipe_cons, back_nil, back_cons, noC_nil, noC_cons, noC1_none, noC1_val, T_comp_nil, T_lComp, MX_own, MX_bor, isCellLst_own, isCellLst_bor, T_eMut, T_eMeth, RP_lst, T_lRep, gL_eq, T_sParLL, T_sParVL, RG_int, T_lRange1, T_inK, T_eInK, T_eNinK, dictD_own, keyD_int, T_lDict, TO_nx, TO_val, TO_own, T0_bor, O_mkP, O_mkB, O_some, O_none, O_ite, O_bind, O_map, fAdd_i, fAddI_i, fSub_i, fMul_i, fDiv_i, fMod_i, fShl_i, fAnd_i, fXor_i, fShr_i, fLt_i, fLe_i, fGt_i, fGe_i, fEq_i, fNe_i, fNeg_i, ixN_3_0, ixN_3_1, ixN_3_2, ixN_2_0, ixN_2_1, ixN_1_0, truD_i, truD_b, intD_i, intD_b, absD_i, lenD_l, lenD_t, tupleD_l, tupleD_t, listD_l, listD_t, List.map_cons, List.map_nil, List.length_cons, List.length_nil, List.cons_append, List.nil_append, List.replicate_succ, List.replicate_zero, List.set_cons_zero, List.set_cons_succ, List.getElem?_cons_zero, List.getElem?_cons_succ, Option.getD_some, Option.bind_some, Option.map_some, true_and, and_true, Bool.false_eq_true, Nat.reduceAdd, Nat.reduceSub, Nat.reduceLeDiff, Nat.le_refl, Bool.and_true, Bool.and_self, Bool.not_true, Bool.not_false, if_true, if_false, reduceIte, Nat.zero_add, Nat.sub_self, tb_len]
  have lt : j < m → 2 ^ j < 2 ^ m := fun h => Nat.pow_lt_pow_right (by decide) h
  refine ⟨fun h => ?_, fun h => ?_⟩
  · have h := of_decide_eq_true h
    have hlt : j < m := by
      rcases Nat.lt_or_ge j m with c | c
      · exact c
      · have : j = m := by omega
        subst this; omega
    refine stage_ok (rest := [none]) hlt hm rfl fun x3 x4 x5 x6 => ?_
    simp only [T_ret, T_eName, TN_val, TN_own, T_oName, TR_some, T_oVal, T_eC, T_eFrz, celD_lst, slotD_val, slotD_own, slotD_bor, rs_d, rs_s, rss_nil, rss_cons, T_op2, T_op2L, T_op1, T_opN, T_opNL, T_eBin, T_lBin, T_eUn, T_eFn, T_lFn, T_oNil, T_oCons, T_aNil, T_aCons, T_eTup, T_lLst, TB_bool, T_tOf, T_mTru, br_true, br_false, T_mAnd, T_mOr, T_mNot, T_eAnd, T_eOr, T_eNot, T_eIf, T_lIf, T_eChain, T_eIsi, T_mCall, T_mCallK, CB_own, CB_bor, T_mCallB, T_mCallT, TSV_val, TSV_own, T_eSV, TSL_own, T_lSV, sq_nx, sq_rt, sq_bk, sq_ct, T_sSeq, T_sSkip, T_sExpr, T_sRetV, T_sRetL, T_sRetS, T_sRetN, TRN_val, TRN_own, T_sRetName, T_sIf, T_sSetV, T_sSetL, TSet_val, TSet_own, T_sSetS, L2T_two, L3T_three, T_sPar, T_sPar3, T_sParL, T_sAug, T_sAsg, gN_eq, gT_eq, gsNil_eq, gsCons_eq, IX_own, IX_bor, O_gIx, T_mNoPart, TI_int, T_mPart, TLs_list, TTs_tuple, T_lCut, T_eCut, LO_nil, LO_cons, T_lOr, TAny_list, TAny_tuple, T_iAny, T_iEnumD, TZ_list, TZ_tuple, T_iZipD, TRg1_int, T_iRange1, TRg2_int, T_iRange2, TRg3_int, T_iRange3, lpK_nx, lpK_ct, lpK_bk, lpK_rt, fcK_nx, fcK_ct, fcK_bk, fcK_rt, wlK_nx, wlK_ct, wlK_bk, wlK_rt, wipe_nil, wipe_cons, back_nil, back_cons, noC_nil, noC_cons, noC1_none, noC1_val, T_comp_nil, T_lComp, MX_own, MX_bor, isCellLst_own, isCellLst_bor, T_eMut, T_eMeth, RP_lst, T_lRep, gL_eq, T_sParLL, T_sParVL, RG_int, T_lRange1, T_inK, T_eInK, T_eNinK, dictD_own, keyD_int, T_lDict, TO_nx, TO_val, TO_own, T0_bor, O_mkP, O_mkB, O_some, O_none, O_ite, O_bind, O_map, fAdd_i, fAddI_i, fSub_i, fMul_i, fDiv_i, fMod_i, fShl_i, fAnd_i, fXor_i, fShr_i, fLt_i, fLe_i, fGt_i, fGe_i, fEq_i, fNe_i, fNeg_i, ixN_3_0, ixN_3_1, ixN_3_2, ixN_2_0, ixN_2_1, ixN_1_0, truD_i, truD_b, intD_i, intD_b, absD_i, lenD_l, lenD_t, tupleD_l, tupleD_t, listD_l, listD_t, List.map_cons, List.map_nil, List.length_cons, List.length_nil, List.cons_append, List.nil_append, List.replicate_succ, List.replicate_zero, List.set_cons_zero, List.set_cons_succ, List.getElem?_cons_zero, List.getElem?_cons_succ, Option.getD_some, Option.bind_some, Option.map_some, true_and, and_true, Bool.false_eq_true, Nat.reduceAdd, Nat.reduceSub, Nat.reduceLeDiff, Nat.le_refl, Bool.and_true, Bool.and_self, Bool.not_true, Bool.not_false, if_true, if_false, reduceIte, Nat.zero_add, Nat.sub_self]
    refine ⟨cMulR (by decide), k - 1, by omega, j + 1, x3, x4, x5, x6, by omega, ?_⟩
    have : ((2 ^ j : Nat) : Int) * 2 = ((2 ^ (j + 1) : Nat) : Int) := by rw [Nat.pow_succ]; omega
    rw [this]
  · have h := of_decide_eq_false h
    have : j = m := by
      rcases Nat.lt_or_ge j m with c | c
      · have := lt c; omega
      · omega
    subst this
    simp only [List.cons.injEq, Option.some.injEq, SV.val.injEq, SV.own.injEq, SV.bor.injEq, Cel.lst.injEq, PyData.int.injEq, PyData.tuple.injEq, PyData.list.injEq, PyData.bool.injEq, and_true, true_and, exists_eq, exists_eq', exists_and_left, exists_and_right]
    exact tb_congr fun p hp => B_WH hp
/-- one stage of the turn, over a table in slot 1, its width in slot 2 -/
theorem stage2_ok {m j : Nat} {g : Nat → Int} (hj : j < m) (hm : m ≤ 12) {k : Cel → SV} (hk : k = .own) {a : Option SV} {rest : Slots} {x3 x4 x5 x6 : Option SV} {Q : Out → Slots → Prop}
    (hQ : ∀ x3 x4 x5 x6, Q .nx ([a, some (.own (.lst (tb (2 ^ m) (PM.B (j + 1) g)))), some (.val (.int ((2 ^ m : Nat) : Int))), some (.val (.int ((2 ^ j : Nat) : Int))), x3, x4, x5, x6] ++ rest)) :
    T (sFor (iRange3 (oCons (oVal (eC (.int 0))) (oCons (oName 2) (oCons (oVal (eBin fMul (oVal (eC (.int 2))) (oName 3))) (oNil))))) (gN 4) (sFor (iRange2 (oCons (oName 4) (oCons (oVal (eBin fAdd (oName 4) (oName 3))) (oNil)))) (gN 5) (sSeq (sPar 6 7 (aCons (eBin atD (oName 1) (oName 5)) (aCons (eBin atD (oName 1) (oVal (eBin fAdd (oName 5) (oName 3)))) (aNil))))
    (sAsg (gT 2 (gsCons (gIx 1 (eName 5)) (gsCons (gIx 1 (eBin fAdd (oName 5) (oName 3))) (gsNil)))) (eTup (aCons (eBin fAdd (oName 6) (oName 7)) (aCons (eBin fSub (oName 6) (oName 7)) (aNil))))))))
      ([a, some (.own (.lst (tb (2 ^ m) (PM.B j g)))), some (.val (.int ((2 ^ m : Nat) : Int))), some (.val (.int ((2 ^ j : Nat) : Int))), x3, x4, x5, x6] ++ rest) Q := by
  have p12 : 2 ^ j ≤ 2 ^ 12 := Nat.pow_le_pow_right (by decide) (by omega)
  have pm12 : 2 ^ m ≤ 2 ^ 12 := Nat.pow_le_pow_right (by decide) (by omega)
  have pj := Nat.two_pow_pos j
  have eN : 2 ^ m = (2 * 2 ^ j) * 2 ^ (m - j - 1) := by
    rw [Nat.mul_comm 2, ← Nat.pow_succ, ← Nat.pow_add]; congr 1; omega
  have eN2 : 2 ^ m = 2 ^ j * (2 * 2 ^ (m - j - 1)) := by rw [eN, Nat.mul_comm 2, Nat.mul_assoc]
  have ec : (2 : Int) * ((2 ^ j : Nat) : Int) = ((2 * 2 ^ j : Nat) : Int) := by omega
  simp only [T_ret, T_eName, TN_val, TN_own, T_oName, TR_some, T_oVal, T_eC, T_eFrz, celD_lst, slotD_val, slotD_own, slotD_bor, rs_d, rs_s, rss_nil, rss_cons, T_op2, T_op2L, T_op1, T_opN, T_opNL, T_eBin, T_lBin, T_eUn, T_eFn, T_lFn, T_oNil, T_oCons, T_aNil, T_aCons, T_eTup, T_lLst, TB_bool, T_tOf, T_mTru, br_true, br_false, T_mAnd, T_mOr, T_mNot, T_eAnd, T_eOr, T_eNot, T_eIf, T_lIf, T_eChain, T_eIsi, T_mCall, T_mCallK, CB_own, CB_bor, T_mCallB, T_mCallT, TSV_val, TSV_own, T_eSV, TSL_own, T_lSV, sq_nx, sq_rt, sq_bk, sq_ct, T_sSeq, T_sSkip, T_sExpr, T_sRetV, T_sRetL, T_sRetS, T_sRetN, TRN_val, TRN_own, T_sRetName, T_sIf, T_sSetV, T_sSetL, TSet_val, TSet_own, T_sSetS, L2T_two, L3T_three, T_sPar, T_sPar3, T_sParL, T_sAug, T_sAsg, gN_eq, gT_eq, gsNil_eq, gsCons_eq, IX_own, IX_bor, O_gIx, T_mNoPart, TI_int, T_mPart, TLs_list, TTs_tuple, T_lCut, T_eCut, LO_nil, LO_cons, T_lOr, TAny_list, TAny_tuple, T_iAny, T_iEnumD, TZ_list, TZ_tuple, T_iZipD, TRg1_int, T_iRange1, TRg2_int, T_iRange2, TRg3_int, T_iRange3, lpK_nx, lpK_ct, lpK_bk, lpK_rt, fcK_nx, fcK_ct, fcK_bk, fcK_rt, wlK_nx, wlK_ct, wlK_bk, wlK_rt, wipe_nil, wipe_cons, back_nil, back_cons, noC_nil, noC_cons, noC1_none, noC1_val, T_comp_nil, T_lComp, MX_own, MX_bor, isCellLst_own, isCellLst_bor, T_eMut, T_eMeth, RP_lst, T_lRep, gL_eq, T_sParLL, T_sParVL, RG_int, T_lRange1, T_inK, T_eInK, T_eNinK, dictD_own, keyD_int, T_lDict, TO_nx, TO_val, TO_own, T0_bor, O_mkP, O_mkB, O_some, O_none, O_ite, O_bind, O_map, fAdd_i, fAddI_i, fSub_i, fMul_i, fDiv_i, fMod_i, fShl_i, fAnd_i, fXor_i, fShr_i, fLt_i, fLe_i, fGt_i, fGe_i, fEq_i, fNe_i, fNeg_i, ixN_3_0, ixN_3_1, ixN_3_2, ixN_2_0, ixN_2_1, ixN_1_0, truD_i, truD_b, intD_i, intD_b, absD_i, lenD_l, lenD_t, tupleD_l, tupleD_t, listD_l, listD_t, List.map_cons, List.map_nil, List.length_cons, List.length_nil, List.cons_append, List.nil_append, List.replicate_succ, List.replicate_zero, List.set_cons_zero, List.set_cons_succ, List.getElem?_cons_zero, List.getElem?_cons_succ, Option.getD_some, Option.bind_some, Option.map_some, true_and, and_true, Bool.false_eq_true, Nat.reduceAdd, Nat.reduceSub, Nat.reduceLeDiff, Nat.le_refl, Bool.and_true, Bool.and_self, Bool.not_true, Bool.not_false, if_true, if_false, reduceIte, Nat.zero_add, Nat.sub_self, T_sFor, tb_len]
  rw [ec]
  refine ⟨cMulL (by decide), ⟨by omega, by omega, ?_⟩, ?_⟩
  · have hs : Builtin.Range.rangeSize 0 ((2 ^ m : Nat) : Int) ((2 * 2 ^ j : Nat) : Int) = ((2 ^ (m - j - 1) : Nat) : Int) := by
      have h1 := range_size (H := 2 ^ (m - j - 1)) (w := 2 * 2 ^ j) (by omega)
      rw [← eN] at h1
      have h2 : 0 < 2 ^ (m - j - 1) := Nat.two_pow_pos _
      omega
    have h3 : 2 ^ (m - j - 1) ≤ 2 ^ 12 := Nat.pow_le_pow_right (by decide) (by omega)
    have h4 : 0 < 2 ^ (m - j - 1) := Nat.two_pow_pos _
    have h5 := Nat.two_pow_pos m
    unfold Builtin.Range.small
    rw [hs]
    clear hs eN eN2 ec hQ
    generalize 2 ^ (m - j - 1) = z at *
    generalize 2 ^ j = w at *
    generalize 2 ^ m = N at *
    unfold Builtin.Range.rangeFitsLong
    simp only [Bool.and_eq_true, Bool.or_eq_true, decide_eq_true_eq]
    rw [if_pos (by omega)]
    simp only [Bool.and_eq_true, Bool.or_eq_true, decide_eq_true_eq]
    refine ⟨⟨⟨⟨?_, ?_⟩, ?_⟩, ?_⟩, .inr ?_⟩ <;> omega
  rw [eN, range_size (by omega), ← eN]
  refine T_forL (fun h S => ∃ x3 x4 x5 x6, S = ([a, some (.own (.lst (tb (2 ^ m) (stg j h 0 g)))), some (.val (.int ((2 ^ m : Nat) : Int))), some (.val (.int ((2 ^ j : Nat) : Int))), x3, x4, x5, x6] ++ rest)) ⟨x3, x4, x5, x6, by rw [stg_start]; rfl⟩ ?_ ?_
  · rintro h d hd S ⟨x3, x4, x5, x6, rfl⟩
    obtain ⟨hh, rfl⟩ := range3_get hd
    have hb : 2 ^ j * (2 * h) + 2 ^ j + 2 ^ j ≤ 2 ^ m := by
      rw [eN2]
      have : 2 ^ j * (2 * (h + 1)) ≤ 2 ^ j * (2 * 2 ^ (m - j - 1)) := Nat.mul_le_mul_left _ (by omega)
      rw [Nat.mul_add, Nat.mul_one, Nat.mul_add, Nat.mul_two] at this
      omega
    have ed : (0 : Int) + (h : Int) * ((2 * 2 ^ j : Nat) : Int) = ((2 ^ j * (2 * h) : Nat) : Int) := by
      rw [Int.zero_add, ← Int.natCast_mul]; congr 1
      rw [Nat.mul_comm, Nat.mul_comm 2, Nat.mul_assoc]
    rw [ed]
    simp only [T_ret, T_eName, TN_val, TN_own, T_oName, TR_some, T_oVal, T_eC, T_eFrz, celD_lst, slotD_val, slotD_own, slotD_bor, rs_d, rs_s, rss_nil, rss_cons, T_op2, T_op2L, T_op1, T_opN, T_opNL, T_eBin, T_lBin, T_eUn, T_eFn, T_lFn, T_oNil, T_oCons, T_aNil, T_aCons, T_eTup, T_lLst, TB_bool, T_tOf, T_mTru, br_true, br_false, T_mAnd, T_mOr, T_mNot, T_eAnd, T_eOr, T_eNot, T_eIf, T_lIf, T_eChain, T_eIsi, T_mCall, T_mCallK, CB_own, CB_bor, T_mCallB, T_mCallT, TSV_val, TSV_own, T_eSV, TSL_own, T_lSV, sq_nx, sq_rt, sq_bk, sq_ct, T_sSeq, T_sSkip, T_sExpr, T_sRetV, T_sRetL, T_sRetS, T_sRetN, TRN_val, TRN_own, T_sRetName, T_sIf, T_sSetV, T_sSetL, TSet_val, TSet_own, T_sSetS, L2T_two, L3T_three, T_sPar, T_sPar3, T_sParL, T_sAug, T_sAsg, gN_eq, gT_eq, gsNil_eq, gsCons_eq, IX_own, IX_bor, O_gIx, T_mNoPart, TI_int, T_mPart, TLs_list, TTs_tuple, T_lCut, T_eCut, LO_nil, LO_cons, T_lOr, TAny_list, TAny_tuple, T_iAny, T_iEnumD, TZ_list, TZ_tuple, T_iZipD, TRg1_int, T_iRange1, TRg2_int, T_iRange2, TRg3_int, T_iRange3, lpK_nx, lpK_ct, lpK_bk, lpK_rt, fcK_nx, fcK_ct, fcK_bk, fcK_rt, wlK_nx, wlK_ct, wlK_bk, wlK_rt, wipe_nil, wipe_cons, back_nil, back_cons, noC_nil, noC_cons, noC1_none, noC1_val, T_comp_nil, T_lComp, MX_own, MX_bor, isCellLst_own, isCellLst_bor, T_eMut, T_eMeth, RP_lst, T_lRep, gL_eq, T_sParLL, T_sParVL, RG_int, T_lRange1, T_inK, T_eInK, T_eNinK, dictD_own, keyD_int, T_lDict, TO_nx, TO_val, TO_own, T0_bor, O_mkP, O_mkB, O_some, O_none, O_ite, O_bind, O_map, fAdd_i, fAddI_i, fSub_i, fMul_i, fDiv_i, fMod_i, fShl_i, fAnd_i, fXor_i, fShr_i, fLt_i, fLe_i, fGt_i, fGe_i, fEq_i, fNe_i, fNeg_i, ixN_3_0, ixN_3_1, ixN_3_2, ixN_2_0, ixN_2_1, ixN_1_0, truD_i, truD_b, intD_i, intD_b, absD_i, lenD_l, lenD_t, tupleD_l, tupleD_t, listD_l, listD_t, List.map_cons, List.map_nil, List.length_cons, List.length_nil, List.cons_append, List.nil_append, List.replicate_succ, List.replicate_zero, List.set_cons_zero, List.set_cons_succ, List.getElem?_cons_zero, List.getElem?_cons_succ, Option.getD_some, Option.bind_some, Option.map_some, true_and, and_true, Bool.false_eq_true, Nat.reduceAdd, Nat.reduceSub, Nat.reduceLeDiff, Nat.le_refl, Bool.and_true, Bool.and_self, Bool.not_true, Bool.not_false, if_true, if_false, reduceIte, Nat.zero_add, Nat.sub_self, T_sFor]
    generalize hB : 2 ^ j * (2 * h) = b at *
    refine ⟨⟨by omega, by omega, by omega, by omega⟩, ?_⟩
    refine T_forR (fun q S => ∃ x3 x4 x5 x6, S = ([a, some (.own (.lst (tb (2 ^ m) (stg j h q g)))), some (.val (.int ((2 ^ m : Nat) : Int))), some (.val (.int ((2 ^ j : Nat) : Int))), some (.val (.int (b : Nat))), x4, x5, x6] ++ rest)) ⟨x3, x4, x5, x6, rfl⟩ ?_ ?_
    · rintro q hq S ⟨x3, x4, x5, x6, rfl⟩
      have hq : q < 2 ^ j := by omega
      have e1 : (b : Int) + (q : Int) = ((b + q : Nat) : Int) := by omega
      have e2 : ((b + q : Nat) : Int) + ((2 ^ j : Nat) : Int) = ((b + q + 2 ^ j : Nat) : Int) := by omega
      rw [e1]
      simp only [T_ret, T_eName, TN_val, TN_own, T_oName, TR_some, T_oVal, T_eC, T_eFrz, celD_lst, slotD_val, slotD_own, slotD_bor, rs_d, rs_s, rss_nil, rss_cons, T_op2, T_op2L, T_op1, T_opN, T_opNL, T_eBin, T_lBin, T_eUn, T_eFn, T_lFn, T_oNil, T_oCons, T_aNil, T_aCons, T_eTup, T_lLst, TB_bool, T_tOf, T_mTru, br_true, br_false, T_mAnd, T_mOr, T_mNot, T_eAnd, T_eOr, T_eNot, T_eIf, T_lIf, T_eChain, T_eIsi, T_mCall, T_mCallK, CB_own, CB_bor, T_mCallB, T_mCallT, TSV_val, TSV_own, T_eSV, TSL_own, T_lSV, sq_nx, sq_rt, sq_bk, sq_ct, T_sSeq, T_sSkip, T_sExpr, T_sRetV, T_sRetL, T_sRetS, T_sRetN, TRN_val, TRN_own, T_sRetName, T_sIf, T_sSetV, T_sSetL, TSet_val, TSet_own, T_sSetS, L2T_two, L3T_three, T_sPar, T_sPar3, T_sParL, T_sAug, T_sAsg, gN_eq, gT_eq, gsNil_eq, gsCons_eq, IX_own, IX_bor, O_gIx, T_mNoPart, TI_int, T_mPart, TLs_list, TTs_tuple, T_lCut, T_eCut, LO_nil, LO_cons, T_lOr, TAny_list, TAny_tuple, T_iAny, T_iEnumD, TZ_list, TZ_tuple, T_iZipD, TRg1_int, T_iRange1, TRg2_int, T_iRange2, TRg3_int, T_iRange3, lpK_nx, lpK_ct, lpK_bk, lpK_rt, fcK_nx, fcK_ct, fcK_bk, fcK_rt, wlK_nx, wlK_ct, wlK_bk, wlK_rt, wipe_nil, wipe_cons, back_nil, back_cons, noC_nil, noC_cons, noC1_none, noC1_val, T_comp_nil, T_lComp, MX_own, MX_bor, isCellLst_own, isCellLst_bor, T_eMut, T_eMeth, RP_lst, T_lRep, gL_eq, T_sParLL, T_sParVL, RG_int, T_lRange1, T_inK, T_eInK, T_eNinK, dictD_own, keyD_int, T_lDict, TO_nx, TO_val, TO_own, T0_bor, O_mkP, O_mkB, O_some, O_none, O_ite, O_bind, O_map, fAdd_i, fAddI_i, fSub_i, fMul_i, fDiv_i, fMod_i, fShl_i, fAnd_i, fXor_i, fShr_i, fLt_i, fLe_i, fGt_i, fGe_i, fEq_i, fNe_i, fNeg_i, ixN_3_0, ixN_3_1, ixN_3_2, ixN_2_0, ixN_2_1, ixN_1_0, truD_i, truD_b, intD_i, intD_b, absD_i, lenD_l, lenD_t, tupleD_l, tupleD_t, listD_l, listD_t, List.map_cons, List.map_nil, List.length_cons, List.length_nil, List.cons_append, List.nil_append, List.replicate_succ, List.replicate_zero, List.set_cons_zero, List.set_cons_succ, List.getElem?_cons_zero, List.getElem?_cons_succ, Option.getD_some, Option.bind_some, Option.map_some, true_and, and_true, Bool.false_eq_true, Nat.reduceAdd, Nat.reduceSub, Nat.reduceLeDiff, Nat.le_refl, Bool.and_true, Bool.and_self, Bool.not_true, Bool.not_false, if_true, if_false, reduceIte, Nat.zero_add, Nat.sub_self, e2, tb_atL (n := 2 ^ m) (k := b + q) rfl (by omega), tb_atL (n := 2 ^ m) (k := b + q + 2 ^ j) rfl (by omega)]
      simp only [T_ret, T_eName, TN_val, TN_own, T_oName, TR_some, T_oVal, T_eC, T_eFrz, celD_lst, slotD_val, slotD_own, slotD_bor, rs_d, rs_s, rss_nil, rss_cons, T_op2, T_op2L, T_op1, T_opN, T_opNL, T_eBin, T_lBin, T_eUn, T_eFn, T_lFn, T_oNil, T_oCons, T_aNil, T_aCons, T_eTup, T_lLst, TB_bool, T_tOf, T_mTru, br_true, br_false, T_mAnd, T_mOr, T_mNot, T_eAnd, T_eOr, T_eNot, T_eIf, T_lIf, T_eChain, T_eIsi, T_mCall, T_mCallK, CB_own, CB_bor, T_mCallB, T_mCallT, TSV_val, TSV_own, T_eSV, TSL_own, T_lSV, sq_nx, sq_rt, sq_bk, sq_ct, T_sSeq, T_sSkip, T_sExpr, T_sRetV, T_sRetL, T_sRetS, T_sRetN, TRN_val, TRN_own, T_sRetName, T_sIf, T_sSetV, T_sSetL, TSet_val, TSet_own, T_sSetS, L2T_two, L3T_three, T_sPar, T_sPar3, T_sParL, T_sAug, T_sAsg, gN_eq, gT_eq, gsNil_eq, gsCons_eq, IX_own, IX_bor, O_gIx, T_mNoPart, TI_int, T_mPart, TLs_list, TTs_tuple, T_lCut, T_eCut, LO_nil, LO_cons, T_lOr, TAny_list, TAny_tuple, T_iAny, T_iEnumD, TZ_list, TZ_tuple, T_iZipD, TRg1_int, T_iRange1, TRg2_int, T_iRange2, TRg3_int, T_iRange3, lpK_nx, lpK_ct, lpK_bk, lpK_rt, fcK_nx, fcK_ct, fcK_bk, fcK_rt, wlK_nx, wlK_ct, wlK_bk, wlK_rt, wipe_nil, wipe_cons, back_nil, back_cons, noC_nil, noC_cons, noC1_none, noC1_val, T_comp_nil, T_lComp, MX_own, MX_bor, isCellLst_own, isCellLst_bor, T_eMut, T_eMeth, RP_lst, T_lRep, gL_eq, T_sParLL, T_sParVL, RG_int, T_lRange1, T_inK, T_eInK, T_eNinK, dictD_own, keyD_int, T_lDict, TO_nx, TO_val, TO_own, T0_bor, O_mkP, O_mkB, O_some, O_none, O_ite, O_bind, O_map, fAdd_i, fAddI_i, fSub_i, fMul_i, fDiv_i, fMod_i, fShl_i, fAnd_i, fXor_i, fShr_i, fLt_i, fLe_i, fGt_i, fGe_i, fEq_i, fNe_i, fNeg_i, ixN_3_0, ixN_3_1, ixN_3_2, ixN_2_0, ixN_2_1, ixN_1_0, truD_i, truD_b, intD_i, intD_b, absD_i, lenD_l, lenD_t, tupleD_l, tupleD_t, listD_l, listD_t, List.map_cons, List.map_nil, List.length_cons, List.length_nil, List.cons_append, List.nil_append, List.replicate_succ, List.replicate_zero, List.set_cons_zero, List.set_cons_succ, List.getElem?_cons_zero, List.getElem?_cons_succ, Option.getD_some, Option.bind_some, Option.map_some, true_and, and_true, Bool.false_eq_true, Nat.reduceAdd, Nat.reduceSub, Nat.reduceLeDiff, Nat.le_refl, Bool.and_true, Bool.and_self, Bool.not_true, Bool.not_false, if_true, if_false, reduceIte, Nat.zero_add, Nat.sub_self, List.length_set, tb_len, ixN_nat (n := 2 ^ m) (k := b + q) (by omega), ixN_nat (n := 2 ^ m) (k := b + q + 2 ^ j) (by omega)]
      have key : ((tb (2 ^ m) (stg j h q g)).set (b + q) (.int (stg j h q g (b + q) + stg j h q g (b + q + 2 ^ j)))).set (b + q + 2 ^ j) (.int (stg j h q g (b + q) - stg j h q g (b + q + 2 ^ j))) = tb (2 ^ m) (stg j h (q + 1) g) := by
        rw [tb_set, tb_set]
        refine tb_congr fun p _ => ?_
        rw [← stg_succ hq, ← hB, stg_a hq, stg_b hq]
      rw [key]
      exact ⟨none, _, _, _, rfl⟩
    · rintro S ⟨x3, x4, x5, x6, rfl⟩
      simp only [T_ret, T_eName, TN_val, TN_own, T_oName, TR_some, T_oVal, T_eC, T_eFrz, celD_lst, slotD_val, slotD_own, slotD_bor, rs_d, rs_s, rss_nil, rss_cons, T_op2, T_op2L, T_op1, T_opN, T_opNL, T_eBin, T_lBin, T_eUn, T_eFn, T_lFn, T_oNil, T_oCons, T_aNil, T_aCons, T_eTup, T_lLst, TB_bool, T_tOf, T_mTru, br_true, br_false, T_mAnd, T_mOr, T_mNot, T_eAnd, T_eOr, T_eNot, T_eIf, T_lIf, T_eChain, T_eIsi, T_mCall, T_mCallK, CB_own, CB_bor, T_mCallB, T_mCallT, TSV_val, TSV_own, T_eSV, TSL_own, T_lSV, sq_nx, sq_rt, sq_bk, sq_ct, T_sSeq, T_sSkip, T_sExpr, T_sRetV, T_sRetL, T_sRetS, T_sRetN, TRN_val, TRN_own, T_sRetName, T_sIf, T_sSetV, T_sSetL, TSet_val, TSet_own, T_sSetS, L2T_two, L3T_three, T_sPar, T_sPar3, T_sParL, T_sAug, T_sAsg, gN_eq, gT_eq, gsNil_eq, gsCons_eq, IX_own, IX_bor, O_gIx, T_mNoPart, TI_int, T_mPart, TLs_list, TTs_tuple, T_lCut, T_eCut, LO_nil, LO_cons, T_lOr, TAny_list, TAny_tuple, T_iAny, T_iEnumD, TZ_list, TZ_tuple, T_iZipD, TRg1_int, T_iRange1, TRg2_int, T_iRange2, TRg3_int, T_iRange3, lpK_nx, lpK_ct, lpK_bk, lpK_rt, fcK_nx, fcK_ct, fcK_bk, fcK_rt, wlK_nx, wlK_ct, wlK_bk, wlK_rt, wipe_nil, wipe_cons, back_nil, back_cons, noC_nil, noC_cons, noC1_none, noC1_val, T_comp_nil, T_lComp, MX_own, MX_bor, isCellLst_own, isCellLst_bor, T_eMut, T_eMeth, RP_lst, T_lRep, gL_eq, T_sParLL, T_sParVL, RG_int, T_lRange1, T_inK, T_eInK, T_eNinK, dictD_own, keyD_int, T_lDict, TO_nx, TO_val, TO_own, T0_bor, O_mkP, O_mkB, O_some, O_none, O_ite, O_bind, O_map, fAdd_i, fAddI_i, fSub_i, fMul_i, fDiv_i, fMod_i, fShl_i, fAnd_i, fXor_i, fShr_i, fLt_i, fLe_i, fGt_i, fGe_i, fEq_i, fNe_i, fNeg_i, ixN_3_0, ixN_3_1, ixN_3_2, ixN_2_0, ixN_2_1, ixN_1_0, truD_i, truD_b, intD_i, intD_b, absD_i, lenD_l, lenD_t, tupleD_l, tupleD_t, listD_l, listD_t, List.map_cons, List.map_nil, List.length_cons, List.length_nil, List.cons_append, List.nil_append, List.replicate_succ, List.replicate_zero, List.set_cons_zero, List.set_cons_succ, List.getElem?_cons_zero, List.getElem?_cons_succ, Option.getD_some, Option.bind_some, Option.map_some, true_and, and_true, Bool.false_eq_true, Nat.reduceAdd, Nat.reduceSub, Nat.reduceLeDiff, Nat.le_refl, Bool.and_true, Bool.and_self, Bool.not_true, Bool.not_false, if_true, if_false, reduceIte, Nat.zero_add, Nat.sub_self]
      have e : ((b : Int) + ((2 ^ j : Nat) : Int) - (b : Int)).toNat = 2 ^ j := by omega
      rw [e, stg_next]
      exact ⟨_, _, _, _, rfl⟩
  · rintro S ⟨x3, x4, x5, x6, rfl⟩
    rw [range3_len]
    have : tb (2 ^ m) (stg j (2 ^ (m - j - 1)) 0 g) = tb (2 ^ m) (PM.B (j + 1) g) := tb_congr fun p hp => stg_end (by rw [← eN2]; exact hp)
    rw [this]
    exact hQ _ _ _ _
theorem turned_ok {m : Nat} {t : Nat → Int} (hm : m ≤ 12) (ht : ∀ k, k < 2 ^ m → t k = 0 ∨ t k = 1) {d : D} (hd : d = .tuple (tb (2 ^ m) t) ∨ d = .list (tb (2 ^ m) t)) : F_turned_sums [d] = some (.own (.lst (tb (2 ^ m) (WH m fun k => 1 - 2 * t k)))) := by
  apply O_is.mp
  unfold F_turned_sums b_turned_sums
  rcases hd with rfl | rfl
  · simp only [T_ret, T_eName, TN_val, TN_own, T_oName, TR_some, T_oVal, T_eC, T_eFrz, celD_lst, slotD_val, slotD_own, slotD_bor, rs_d, rs_s, rss_nil, rss_cons, T_op2, T_op2L, T_op1, T_opN, T_opNL, T_eBin, T_lBin, T_eUn, T_eFn, T_lFn, T_oNil, T_oCons, T_aNil, T_aCons, T_eTup, T_lLst, TB_bool, T_tOf, T_mTru, br_true, br_false, T_mAnd, T_mOr, T_mNot, T_eAnd, T_eOr, T_eNot, T_eIf, T_lIf, T_eChain, T_eIsi, T_mCall, T_mCallK, CB_own, CB_bor, T_mCallB, T_mCallT, TSV_val, TSV_own, T_eSV, TSL_own, T_lSV, sq_nx, sq_rt, sq_bk, sq_ct, T_sSeq, T_sSkip, T_sExpr, T_sRetV, T_sRetL, T_sRetS, T_sRetN, TRN_val, TRN_own, T_sRetName, T_sIf, T_sSetV, T_sSetL, TSet_val, TSet_own, T_sSetS, L2T_two, L3T_three, T_sPar, T_sPar3, T_sParL, T_sAug, T_sAsg, gN_eq, gT_eq, gsNil_eq, gsCons_eq, IX_own, IX_bor, O_gIx, T_mNoPart, TI_int, T_mPart, TLs_list, TTs_tuple, T_lCut, T_eCut, LO_nil, LO_cons, T_lOr, TAny_list, TAny_tuple, T_iAny, T_iEnumD, TZ_list, TZ_tuple, T_iZipD, TRg1_int, T_iRange1, TRg2_int, T_iRange2, TRg3_int, T_iRange3, lpK_nx, lpK_ct, lpK_bk, lpK_rt, fcK_nx, fcK_ct, fcK_bk, fcK_rt, wlK_nx, wlK_ct, wlK_bk, wlK_rt, wipe_nil, wipe_cons, back_nil, back_cons, noC_nil, noC_cons, noC1_none, noC1_val, T_comp_nil, T_lComp, MX_own, MX_bor, isCellLst_own, isCellLst_bor, T_eMut, T_eMeth, RP_lst, T_lRep, gL_eq, T_sParLL, T_sParVL, RG_int, T_lRange1, T_inK, T_eInK, T_eNinK, dictD_own, keyD_int, T_lDict, TO_nx, TO_val, TO_own, T0_bor, O_mkP, O_mkB, O_some, O_none, O_ite, O_bind, O_map, fAdd_i, fAddI_i, fSub_i, fMul_i, fDiv_i, fMod_i, fShl_i, fAnd_i, fXor_i, fShr_i, fLt_i, fLe_i, fGt_i, fGe_i, fEq_i, fNe_i, fNeg_i, ixN_3_0, ixN_3_1, ixN_3_2, ixN_2_0, ixN_2_1, ixN_1_0, truD_i, truD_b, intD_i, intD_b, absD_i, lenD_l, lenD_t, tupleD_l, tupleD_t, listD_l, listD_t, List.map_cons, List.map_nil, List.length_cons, List.length_nil, List.cons_append, List.nil_append, List.replicate_succ, List.replicate_zero, List.set_cons_zero, List.set_cons_succ, List.getElem?_cons_zero, List.getElem?_cons_succ, Option.getD_some, Option.bind_some, Option.map_some, true_and, and_true, Bool.false_eq_true, Nat.reduceAdd, Nat.reduceSub, Nat.reduceLeDiff, Nat.le_refl, Bool.and_true, Bool.and_self, Bool.not_true, Bool.not_false, if_true, if_false, reduceIte, Nat.zero_add, Nat.sub_self, (sure_full_ok hm ht).1, sums_in_ok hm]
  · simp only [T_ret, T_eName, TN_val, TN_own, T_oName, TR_some, T_oVal, T_eC, T_eFrz, celD_lst, slotD_val, slotD_own, slotD_bor, rs_d, rs_s, rss_nil, rss_cons, T_op2, T_op2L, T_op1, T_opN, T_opNL, T_eBin, T_lBin, T_eUn, T_eFn, T_lFn, T_oNil, T_oCons, T_aNil, T_aCons, T_eTup, T_lLst, TB_bool, T_tOf, T_mTru, br_true, br_false, T_mAnd, T_mOr, T_mNot, T_eAnd, T_eOr, T_eNot, T_eIf, T_lIf, T_eChain, T_eIsi, T_mCall, T_mCallK, CB_own, CB_bor, T_mCallB, T_mCallT, TSV_val, TSV_own, T_eSV, TSL_own, T_lSV, sq_nx, sq_rt, sq_bk, sq_ct, T_sSeq, T_sSkip, T_sExpr, T_sRetV, T_sRetL, T_sRetS, T_sRetN, TRN_val, TRN_own, T_sRetName, T_sIf, T_sSetV, T_sSetL, TSet_val, TSet_own, T_sSetS, L2T_two, L3T_three, T_sPar, T_sPar3, T_sParL, T_sAug, T_sAsg, gN_eq, gT_eq, gsNil_eq, gsCons_eq, IX_own, IX_bor, O_gIx, T_mNoPart, TI_int, T_mPart, TLs_list, TTs_tuple, T_lCut, T_eCut, LO_nil, LO_cons, T_lOr, TAny_list, TAny_tuple, T_iAny, T_iEnumD, TZ_list, TZ_tuple, T_iZipD, TRg1_int, T_iRange1, TRg2_int, T_iRange2, TRg3_int, T_iRange3, lpK_nx, lpK_ct, lpK_bk, lpK_rt, fcK_nx, fcK_ct, fcK_bk, fcK_rt, wlK_nx, wlK_ct, wlK_bk, wlK_rt, wipe_nil, wipe_cons, back_nil, back_cons, noC_nil, noC_cons, noC1_none, noC1_val, T_comp_nil, T_lComp, MX_own, MX_bor, isCellLst_own, isCellLst_bor, T_eMut, T_eMeth, RP_lst, T_lRep, gL_eq, T_sParLL, T_sParVL, RG_int, T_lRange1, T_inK, T_eInK, T_eNinK, dictD_own, keyD_int, T_lDict, TO_nx, TO_val, TO_own, T0_bor, O_mkP, O_mkB, O_some, O_none, O_ite, O_bind, O_map, fAdd_i, fAddI_i, fSub_i, fMul_i, fDiv_i, fMod_i, fShl_i, fAnd_i, fXor_i, fShr_i, fLt_i, fLe_i, fGt_i, fGe_i, fEq_i, fNe_i, fNeg_i, ixN_3_0, ixN_3_1, ixN_3_2, ixN_2_0, ixN_2_1, ixN_1_0, truD_i, truD_b, intD_i, intD_b, absD_i, lenD_l, lenD_t, tupleD_l, tupleD_t, listD_l, listD_t, List.map_cons, List.map_nil, List.length_cons, List.length_nil, List.cons_append, List.nil_append, List.replicate_succ, List.replicate_zero, List.set_cons_zero, List.set_cons_succ, List.getElem?_cons_zero, List.getElem?_cons_succ, Option.getD_some, Option.bind_some, Option.map_some, true_and, and_true, Bool.false_eq_true, Nat.reduceAdd, Nat.reduceSub, Nat.reduceLeDiff, Nat.le_refl, Bool.and_true, Bool.and_self, Bool.not_true, Bool.not_false, if_true, if_false, reduceIte, Nat.zero_add, Nat.sub_self, (sure_full_ok hm ht).2, sums_in_ok hm]
/-- what unlike_shifted counts -/
def US (m : Nat) (t : Nat → Int) (k : Nat) : Int := ((2 ^ m : Nat) - (WH m (fun r => WH m (fun k => 1 - 2 * t k) r * WH m (fun k => 1 - 2 * t k) r) k).fdiv (2 ^ m : Nat)).fdiv 2
theorem WH_le {m r : Nat} {t : Nat → Int} (hm : m ≤ 12) (ht : ∀ k, k < 2 ^ m → t k = 0 ∨ t k = 1) : (WH m (fun k => 1 - 2 * t k) r).natAbs ≤ 4096 := by
  have pm12 : 2 ^ m ≤ 2 ^ 12 := Nat.pow_le_pow_right (by decide) (by omega)
  have := WH_abs (m := m) (r := r) (g := fun k => 1 - 2 * t k) (b := 1) fun q hq => by rcases ht q hq with h | h <;> simp only [h] <;> decide
  omega
theorem unlike_in_ok {m : Nat} {t : Nat → Int} (hm : m ≤ 12) (ht : ∀ k, k < 2 ^ m → t k = 0 ∨ t k = 1) : F_unlike_shifted_in [.tuple (tb (2 ^ m) t)] = some (.own (.lst (tb (2 ^ m) (US m t)))) := by
  apply O_is.mp
  have pm12 : 2 ^ m ≤ 2 ^ 12 := Nat.pow_le_pow_right (by decide) (by omega)
  have pm0 := Nat.two_pow_pos m
  unfold F_unlike_shifted_in b_unlike_shifted_in
  simp only [T_ret, T_eName, TN_val, TN_own, T_oName, TR_some, T_oVal, T_eC, T_eFrz, celD_lst, slotD_val, slotD_own, slotD_bor, rs_d, rs_s, rss_nil, rss_cons, T_op2, T_op2L, T_op1, T_opN, T_opNL, T_eBin, T_lBin, T_eUn, T_eFn, T_lFn, T_oNil, T_oCons, T_aNil, T_aCons, T_eTup, T_lLst, TB_bool, T_tOf, T_mTru, br_true, br_false, T_mAnd, T_mOr, T_mNot, T_eAnd, T_eOr, T_eNot, T_eIf, T_lIf, T_eChain, T_eIsi, T_mCall, T_mCallK, CB_own, CB_bor, T_mCallB, T_mCallT, TSV_val, TSV_own, T_eSV, TSL_own, T_lSV, sq_nx, sq_rt, sq_bk, sq_ct, T_sSeq, T_sSkip, T_sExpr, T_sRetV, T_sRetL, T_sRetS, T_sRetN, TRN_val, TRN_own, T_sRetName, T_sIf, T_sSetV, T_sSetL, TSet_val, TSet_own, T_sSetS, L2T_two, L3T_three, T_sPar, T_sPar3, T_sParL, T_sAug, T_sAsg, gN_eq, gT_eq, gsNil_eq, gsCons_eq, IX_own, IX_bor, O_gIx, T_mNoPart, TI_int, T_mPart, TLs_list, TTs_tuple, T_lCut, T_eCut, LO_nil, LO_cons, T_lOr, TAny_list, TAny_tuple, T_iAny, T_iEnumD, TZ_list, TZ_tuple, T_iZipD, TRg1_int, T_iRange1, TRg2_int, T_iRange2, TRg3_int, T_iRange3, lpK_nx, lpK_ct, lpK_bk, lpK_rt, fcK_nx, fcK_ct, fcK_bk, fcK_rt, wlK_nx, wlK_ct, wlK_bk, wlK_rt, wipe_nil, wipe_cons, back_nil, back_cons, noC_nil, noC_cons, noC1_none, noC1_val, T_comp_nil, T_lComp, MX_own, MX_bor, isCellLst_own, isCellLst_bor, T_eMut, T_eMeth, RP_lst, T_lRep, gL_eq, T_sParLL, T_sParVL, RG_int, T_lRange1, T_inK, T_eInK, T_eNinK, dictD_own, keyD_int, T_lDict, TO_nx, TO_val, TO_own, T0_bor, O_mkP, O_mkB, O_some, O_none, O_ite, O_bind, O_map, fAdd_i, fAddI_i, fSub_i, fMul_i, fDiv_i, fMod_i, fShl_i, fAnd_i, fXor_i, fShr_i, fLt_i, fLe_i, fGt_i, fGe_i, fEq_i, fNe_i, fNeg_i, ixN_3_0, ixN_3_1, ixN_3_2, ixN_2_0, ixN_2_1, ixN_1_0, truD_i, truD_b, intD_i, intD_b, absD_i, lenD_l, lenD_t, tupleD_l, tupleD_t, listD_l, listD_t, List.map_cons, List.map_nil, List.length_cons, List.length_nil, List.cons_append, List.nil_append, List.replicate_succ, List.replicate_zero, List.set_cons_zero, List.set_cons_succ, List.getElem?_cons_zero, List.getElem?_cons_succ, Option.getD_some, Option.bind_some, Option.map_some, true_and, and_true, Bool.false_eq_true, Nat.reduceAdd, Nat.reduceSub, Nat.reduceLeDiff, Nat.le_refl, Bool.and_true, Bool.and_self, Bool.not_true, Bool.not_false, if_true, if_false, reduceIte, Nat.zero_add, Nat.sub_self, tb_len, sums_in_ok hm]
  refine ⟨by omega, T_compMap (fun d => match d with | .int i => .int (i * i) | d => d) ?_ ?_⟩
  · intro d hd
    obtain ⟨j, hj, rfl⟩ := tb_mem hd
    simp only [T_ret, T_eName, TN_val, TN_own, T_oName, TR_some, T_oVal, T_eC, T_eFrz, celD_lst, slotD_val, slotD_own, slotD_bor, rs_d, rs_s, rss_nil, rss_cons, T_op2, T_op2L, T_op1, T_opN, T_opNL, T_eBin, T_lBin, T_eUn, T_eFn, T_lFn, T_oNil, T_oCons, T_aNil, T_aCons, T_eTup, T_lLst, TB_bool, T_tOf, T_mTru, br_true, br_false, T_mAnd, T_mOr, T_mNot, T_eAnd, T_eOr, T_eNot, T_eIf, T_lIf, T_eChain, T_eIsi, T_mCall, T_mCallK, CB_own, CB_bor, T_mCallB, T_mCallT, TSV_val, TSV_own, T_eSV, TSL_own, T_lSV, sq_nx, sq_rt, sq_bk, sq_ct, T_sSeq, T_sSkip, T_sExpr, T_sRetV, T_sRetL, T_sRetS, T_sRetN, TRN_val, TRN_own, T_sRetName, T_sIf, T_sSetV, T_sSetL, TSet_val, TSet_own, T_sSetS, L2T_two, L3T_three, T_sPar, T_sPar3, T_sParL, T_sAug, T_sAsg, gN_eq, gT_eq, gsNil_eq, gsCons_eq, IX_own, IX_bor, O_gIx, T_mNoPart, TI_int, T_mPart, TLs_list, TTs_tuple, T_lCut, T_eCut, LO_nil, LO_cons, T_lOr, TAny_list, TAny_tuple, T_iAny, T_iEnumD, TZ_list, TZ_tuple, T_iZipD, TRg1_int, T_iRange1, TRg2_int, T_iRange2, TRg3_int, T_iRange3, lpK_nx, lpK_ct, lpK_bk, lpK_rt, fcK_nx, fcK_ct, fcK_bk, fcK_rt, wlK_nx, wlK_ct, wlK_bk, wlK_rt, wipe_nil, wipe_cons, back_nil, back_cons, noC_nil, noC_cons, noC1_none, noC1_val, T_comp_nil, T_lComp, MX_own, MX_bor, isCellLst_own, isCellLst_bor, T_eMut, T_eMeth, RP_lst, T_lRep, gL_eq, T_sParLL, T_sParVL, RG_int, T_lRange1, T_inK, T_eInK, T_eNinK, dictD_own, keyD_int, T_lDict, TO_nx, TO_val, TO_own, T0_bor, O_mkP, O_mkB, O_some, O_none, O_ite, O_bind, O_map, fAdd_i, fAddI_i, fSub_i, fMul_i, fDiv_i, fMod_i, fShl_i, fAnd_i, fXor_i, fShr_i, fLt_i, fLe_i, fGt_i, fGe_i, fEq_i, fNe_i, fNeg_i, ixN_3_0, ixN_3_1, ixN_3_2, ixN_2_0, ixN_2_1, ixN_1_0, truD_i, truD_b, intD_i, intD_b, absD_i, lenD_l, lenD_t, tupleD_l, tupleD_t, listD_l, listD_t, List.map_cons, List.map_nil, List.length_cons, List.length_nil, List.cons_append, List.nil_append, List.replicate_succ, List.replicate_zero, List.set_cons_zero, List.set_cons_succ, List.getElem?_cons_zero, List.getElem?_cons_succ, Option.getD_some, Option.bind_some, Option.map_some, true_and, and_true, Bool.false_eq_true, Nat.reduceAdd, Nat.reduceSub, Nat.reduceLeDiff, Nat.le_refl, Bool.and_true, Bool.and_self, Bool.not_true, Bool.not_false, if_true, if_false, reduceIte, Nat.zero_add, Nat.sub_self]
    exact cMulR (by have := WH_le (r := j) hm ht; omega)
  simp only [T_ret, T_eName, TN_val, TN_own, T_oName, TR_some, T_oVal, T_eC, T_eFrz, celD_lst, slotD_val, slotD_own, slotD_bor, rs_d, rs_s, rss_nil, rss_cons, T_op2, T_op2L, T_op1, T_opN, T_opNL, T_eBin, T_lBin, T_eUn, T_eFn, T_lFn, T_oNil, T_oCons, T_aNil, T_aCons, T_eTup, T_lLst, TB_bool, T_tOf, T_mTru, br_true, br_false, T_mAnd, T_mOr, T_mNot, T_eAnd, T_eOr, T_eNot, T_eIf, T_lIf, T_eChain, T_eIsi, T_mCall, T_mCallK, CB_own, CB_bor, T_mCallB, T_mCallT, TSV_val, TSV_own, T_eSV, TSL_own, T_lSV, sq_nx, sq_rt, sq_bk, sq_ct, T_sSeq, T_sSkip, T_sExpr, T_sRetV, T_sRetL, T_sRetS, T_sRetN, TRN_val, TRN_own, T_sRetName, T_sIf, T_sSetV, T_sSetL, TSet_val, TSet_own, T_sSetS, L2T_two, L3T_three, T_sPar, T_sPar3, T_sParL, T_sAug, T_sAsg, gN_eq, gT_eq, gsNil_eq, gsCons_eq, IX_own, IX_bor, O_gIx, T_mNoPart, TI_int, T_mPart, TLs_list, TTs_tuple, T_lCut, T_eCut, LO_nil, LO_cons, T_lOr, TAny_list, TAny_tuple, T_iAny, T_iEnumD, TZ_list, TZ_tuple, T_iZipD, TRg1_int, T_iRange1, TRg2_int, T_iRange2, TRg3_int, T_iRange3, lpK_nx, lpK_ct, lpK_bk, lpK_rt, fcK_nx, fcK_ct, fcK_bk, fcK_rt, wlK_nx, wlK_ct, wlK_bk, wlK_rt, wipe_nil, wipe_cons, back_nil, back_cons, noC_nil, noC_cons, noC1_none, noC1_val, T_comp_nil, T_lComp, MX_own, MX_bor, isCellLst_own, isCellLst_bor, T_eMut, T_eMeth, RP_lst, T_lRep, gL_eq, T_sParLL, T_sParVL, RG_int, T_lRange1, T_inK, T_eInK, T_eNinK, dictD_own, keyD_int, T_lDict, TO_nx, TO_val, TO_own, T0_bor, O_mkP, O_mkB, O_some, O_none, O_ite, O_bind, O_map, fAdd_i, fAddI_i, fSub_i, fMul_i, fDiv_i, fMod_i, fShl_i, fAnd_i, fXor_i, fShr_i, fLt_i, fLe_i, fGt_i, fGe_i, fEq_i, fNe_i, fNeg_i, ixN_3_0, ixN_3_1, ixN_3_2, ixN_2_0, ixN_2_1, ixN_1_0, truD_i, truD_b, intD_i, intD_b, absD_i, lenD_l, lenD_t, tupleD_l, tupleD_t, listD_l, listD_t, List.map_cons, List.map_nil, List.length_cons, List.length_nil, List.cons_append, List.nil_append, List.replicate_succ, List.replicate_zero, List.set_cons_zero, List.set_cons_succ, List.getElem?_cons_zero, List.getElem?_cons_succ, Option.getD_some, Option.bind_some, Option.map_some, true_and, and_true, Bool.false_eq_true, Nat.reduceAdd, Nat.reduceSub, Nat.reduceLeDiff, Nat.le_refl, Bool.and_true, Bool.and_self, Bool.not_true, Bool.not_false, if_true, if_false, reduceIte, Nat.zero_add, Nat.sub_self, tb_len]
  rw [tb_map (g := fun r => WH m (fun k => 1 - 2 * t k) r * WH m (fun k => 1 - 2 * t k) r) fun k _ => rfl]
  refine T_while (fun k S => ∃ j x3 x4 x5 x6, j + k = m ∧ S = ([some (.val (.tuple (tb (2 ^ m) t))), some (.own (.lst (tb (2 ^ m) (PM.B j fun r => WH m (fun k => 1 - 2 * t k) r * WH m (fun k => 1 - 2 * t k) r)))), some (.val (.int ((2 ^ m : Nat) : Int))), some (.val (.int ((2 ^ j : Nat) : Int))), x3, x4, x5, x6] ++ [none])) m ?_ ⟨0, none, none, none, none, by omega, rfl⟩ ?_
  · show m < 1000000; omega
  rintro k S ⟨j, x3, x4, x5, x6, hj, rfl⟩
  simp only [T_ret, T_eName, TN_val, TN_own, T_oName, TR_some, T_oVal, T_eC, T_eFrz, celD_lst, slotD_val, slotD_own, slotD_bor, rs_d, rs_s, rss_nil, rss_cons, T_op2, T_op2L, T_op1, T_opN, T_opNL, T_eBin, T_lBin, T_eUn, T_eFn, T_lFn, T_oNil, T_oCons, T_aNil, T_aCons, T_eTup, T_lLst, TB_bool, T_tOf, T_mTru, br_true, br_false, T_mAnd, T_mOr, T_mNot, T_eAnd, T_eOr, T_eNot, T_eIf, T_lIf, T_eChain, T_eIsi, T_mCall, T_mCallK, CB_own, CB_bor, T_mCallB, T_mCallT, TSV_val, TSV_own, T_eSV, TSL_own, T_lSV, sq_nx, sq_rt, sq_bk, sq_ct, T_sSeq, T_sSkip, T_sExpr, T_sRetV, T_sRetL, T_sRetS, T_sRetN, TRN_val, TRN_own, T_sRetName, T_sIf, T_sSetV, T_sSetL, TSet_val, TSet_own, T_sSetS, L2T_two, L3T_three, T_sPar, T_sPar3, T_sParL, T_sAug, T_sAsg, gN_eq, gT_eq, gsNil_eq, gsCons_eq, IX_own, IX_bor, O_gIx, T_mNoPart, TI_int, T_mPart, TLs_list, TTs_tuple, T_lCut, T_eCut, LO_nil, LO_cons, T_lOr, TAny_list, TAny_tuple, T_iAny, T_iEnumD, TZ_list, TZ_tuple, T_iZipD, TRg1_int, T_iRange1, TRg2_int, T_iRange2, TRg3_int, T_iRange3, lpK_nx, lpK_ct, lpK_bk, lpK_rt, fcK_nx, fcK_ct, fcK_bk, fcK_rt, wlK_nx, wlK_ct, wlK_bk, wlK_rt, wipe_nil, wipe_cons, back_nil, back_cons, noC_nil, noC_cons, noC1_none, noC1_val, T_comp_nil, T_lComp, MX_own, MX_bor, isCellLst_own, isCellLst_bor, T_eMut, T_eMeth, RP_lst, T_lRep, gL_eq, T_sParLL, T_sParVL, RG_int, T_lRange1, T_inK, T_eInK, T_eNinK, dictD_own, keyD_int, T_lDict, TO_nx, TO_val, TO_own, T0_bor, O_mkP, O_mkB, O_some, O_none, O_ite, O_bind, O_map, fAdd_i, fAddI_i, fSub_i, fMul_i, fDiv_i, fMod_i, fShl_i, fAnd_i, fXor_i, fShr_i, fLt_i, fLe_i, fGt_i, fGe_i, fEq_i, fNe_i, fNeg_i, ixN_3_0, ixN_3_1, ixN_3_2, ixN_2_0, ixN_2_1, ixN_1_0, truD_i, truD_b, intD_i, intD_b, absD_i, lenD_l, lenD_t, tupleD_l, tupleD_t, listD_l, listD_t, List.map_cons, List.map_nil, List.length_cons, List.length_nil, List.cons_append, List.nil_append, List.replicate_succ, List.replicate_zero, List.set_cons_zero, List.set_cons_succ, List.getElem?_cons_zero, List.getElem?_cons_succ, Option.getD_some, Option.bind_some, Option.map_some, true_and, and_true, Bool.false_eq_true, Nat.reduceAdd, Nat.reduceSub, Nat.reduceLeDiff, Nat.le_refl, Bool.and_true, Bool.and_self, Bool.not_true, Bool.not_false, if_true, if_false, reduceIte, Nat.zero_add, Nat.sub_self]
  have lt : j < m → 2 ^ j < 2 ^ m := fun h => Nat.pow_lt_pow_right (by decide) h
  refine ⟨fun h => ?_, fun h => ?_⟩
  · have h := of_decide_eq_true h
    have hlt : j < m := by
      rcases Nat.lt_or_ge j m with c | c
      · exact c
      · have : j = m := by omega
        subst this; omega
    refine stage2_ok (rest := [none]) hlt hm rfl fun x3 x4 x5 x6 => ?_
    simp only [T_ret, T_eName, TN_val, TN_own, T_oName, TR_some, T_oVal, T_eC, T_eFrz, celD_lst, slotD_val, slotD_own, slotD_bor, rs_d, rs_s, rss_nil, rss_cons, T_op2, T_op2L, T_op1, T_opN, T_opNL, T_eBin, T_lBin, T_eUn, T_eFn, T_lFn, T_oNil, T_oCons, T_aNil, T_aCons, T_eTup, T_lLst, TB_bool, T_tOf, T_mTru, br_true, br_false, T_mAnd, T_mOr, T_mNot, T_eAnd, T_eOr, T_eNot, T_eIf, T_lIf, T_eChain, T_eIsi, T_mCall, T_mCallK, CB_own, CB_bor, T_mCallB, T_mCallT, TSV_val, TSV_own, T_eSV, TSL_own, T_lSV, sq_nx, sq_rt, sq_bk, sq_ct, T_sSeq, T_sSkip, T_sExpr, T_sRetV, T_sRetL, T_sRetS, T_sRetN, TRN_val, TRN_own, T_sRetName, T_sIf, T_sSetV, T_sSetL, TSet_val, TSet_own, T_sSetS, L2T_two, L3T_three, T_sPar, T_sPar3, T_sParL, T_sAug, T_sAsg, gN_eq, gT_eq, gsNil_eq, gsCons_eq, IX_own, IX_bor, O_gIx, T_mNoPart, TI_int, T_mPart, TLs_list, TTs_tuple, T_lCut, T_eCut, LO_nil, LO_cons, T_lOr, TAny_list, TAny_tuple, T_iAny, T_iEnumD, TZ_list, TZ_tuple, T_iZipD, TRg1_int, T_iRange1, TRg2_int, T_iRange2, TRg3_int, T_iRange3, lpK_nx, lpK_ct, lpK_bk, lpK_rt, fcK_nx, fcK_ct, fcK_bk, fcK_rt, wlK_nx, wlK_ct, wlK_bk, wlK_rt, wipe_nil, wipe_cons, back_nil, back_cons, noC_nil, noC_cons, noC1_none, noC1_val, T_comp_nil, T_lComp, MX_own, MX_bor, isCellLst_own, isCellLst_bor, T_eMut, T_eMeth, RP_lst, T_lRep, gL_eq, T_sParLL, T_sParVL, RG_int, T_lRange1, T_inK, T_eInK, T_eNinK, dictD_own, keyD_int, T_lDict, TO_nx, TO_val, TO_own, T0_bor, O_mkP, O_mkB, O_some, O_none, O_ite, O_bind, O_map, fAdd_i, fAddI_i, fSub_i, fMul_i, fDiv_i, fMod_i, fShl_i, fAnd_i, fXor_i, fShr_i, fLt_i, fLe_i, fGt_i, fGe_i, fEq_i, fNe_i, fNeg_i, ixN_3_0, ixN_3_1, ixN_3_2, ixN_2_0, ixN_2_1, ixN_1_0, truD_i, truD_b, intD_i, intD_b, absD_i, lenD_l, lenD_t, tupleD_l, tupleD_t, listD_l, listD_t, List.map_cons, List.map_nil, List.length_cons, List.length_nil, List.cons_append, List.nil_append, List.replicate_succ, List.replicate_zero, List.set_cons_zero, List.set_cons_succ, List.getElem?_cons_zero, List.getElem?_cons_succ, Option.getD_some, Option.bind_some, Option.map_some, true_and, and_true, Bool.false_eq_true, Nat.reduceAdd, Nat.reduceSub, Nat.reduceLeDiff, Nat.le_refl, Bool.and_true, Bool.and_self, Bool.not_true, Bool.not_false, if_true, if_false, reduceIte, Nat.zero_add, Nat.sub_self]
    refine ⟨cMulR (by decide), k - 1, by omega, j + 1, x3, x4, x5, x6, by omega, ?_⟩
    have : ((2 ^ j : Nat) : Int) * 2 = ((2 ^ (j + 1) : Nat) : Int) := by rw [Nat.pow_succ]; omega
    rw [this]
  · have h := of_decide_eq_false h
    have : j = m := by
      rcases Nat.lt_or_ge j m with c | c
      · have := lt c; omega
      · omega
    subst this
    simp only [T_ret, T_eName, TN_val, TN_own, T_oName, TR_some, T_oVal, T_eC, T_eFrz, celD_lst, slotD_val, slotD_own, slotD_bor, rs_d, rs_s, rss_nil, rss_cons, T_op2, T_op2L, T_op1, T_opN, T_opNL, T_eBin, T_lBin, T_eUn, T_eFn, T_lFn, T_oNil, T_oCons, T_aNil, T_aCons, T_eTup, T_lLst, TB_bool, T_tOf, T_mTru, br_true, br_false, T_mAnd, T_mOr, T_mNot, T_eAnd, T_eOr, T_eNot, T_eIf, T_lIf, T_eChain, T_eIsi, T_mCall, T_mCallK, CB_own, CB_bor, T_mCallB, T_mCallT, TSV_val, TSV_own, T_eSV, TSL_own, T_lSV, sq_nx, sq_rt, sq_bk, sq_ct, T_sSeq, T_sSkip, T_sExpr, T_sRetV, T_sRetL, T_sRetS, T_sRetN, TRN_val, TRN_own, T_sRetName, T_sIf, T_sSetV, T_sSetL, TSet_val, TSet_own, T_sSetS, L2T_two, L3T_three, T_sPar, T_sPar3, T_sParL, T_sAug, T_sAsg, gN_eq, gT_eq, gsNil_eq, gsCons_eq, IX_own, IX_bor, O_gIx, T_mNoPart, TI_int, T_mPart, TLs_list, TTs_tuple, T_lCut, T_eCut, LO_nil, LO_cons, T_lOr, TAny_list, TAny_tuple, T_iAny, T_iEnumD, TZ_list, TZ_tuple, T_iZipD, TRg1_int, T_iRange1, TRg2_int, T_iRange2, TRg3_int, T_iRange3, lpK_nx, lpK_ct, lpK_bk, lpK_rt, fcK_nx, fcK_ct, fcK_bk, fcK_rt, wlK_nx, wlK_ct, wlK_bk, wlK_rt, wipe_nil, wipe_cons, back_nil, back_cons, noC_nil, noC_cons, noC1_none, noC1_val, T_comp_nil, T_lComp, MX_own, MX_bor, isCellLst_own, isCellLst_bor, T_eMut, T_eMeth, RP_lst, T_lRep, gL_eq, T_sParLL, T_sParVL, RG_int, T_lRange1, T_inK, T_eInK, T_eNinK, dictD_own, keyD_int, T_lDict, TO_nx, TO_val, TO_own, T0_bor, O_mkP, O_mkB, O_some, O_none, O_ite, O_bind, O_map, fAdd_i, fAddI_i, fSub_i, fMul_i, fDiv_i, fMod_i, fShl_i, fAnd_i, fXor_i, fShr_i, fLt_i, fLe_i, fGt_i, fGe_i, fEq_i, fNe_i, fNeg_i, ixN_3_0, ixN_3_1, ixN_3_2, ixN_2_0, ixN_2_1, ixN_1_0, truD_i, truD_b, intD_i, intD_b, absD_i, lenD_l, lenD_t, tupleD_l, tupleD_t, listD_l, listD_t, List.map_cons, List.map_nil, List.length_cons, List.length_nil, List.cons_append, List.nil_append, List.replicate_succ, List.replicate_zero, List.set_cons_zero, List.set_cons_succ, List.getElem?_cons_zero, List.getElem?_cons_succ, Option.getD_some, Option.bind_some, Option.map_some, true_and, and_true, Bool.false_eq_true, Nat.reduceAdd, Nat.reduceSub, Nat.reduceLeDiff, Nat.le_refl, Bool.and_true, Bool.and_self, Bool.not_true, Bool.not_false, if_true, if_false, reduceIte, Nat.zero_add, Nat.sub_self, tb_len]
    refine ⟨by omega, T_compMap (fun d => match d with | .int i => .int (((2 ^ j : Nat) - i.fdiv (2 ^ j : Nat) : Int).fdiv 2) | d => d) ?_ ?_⟩
    · intro d hd
      obtain ⟨j, hj, rfl⟩ := tb_mem hd
      simp only [T_ret, T_eName, TN_val, TN_own, T_oName, TR_some, T_oVal, T_eC, T_eFrz, celD_lst, slotD_val, slotD_own, slotD_bor, rs_d, rs_s, rss_nil, rss_cons, T_op2, T_op2L, T_op1, T_opN, T_opNL, T_eBin, T_lBin, T_eUn, T_eFn, T_lFn, T_oNil, T_oCons, T_aNil, T_aCons, T_eTup, T_lLst, TB_bool, T_tOf, T_mTru, br_true, br_false, T_mAnd, T_mOr, T_mNot, T_eAnd, T_eOr, T_eNot, T_eIf, T_lIf, T_eChain, T_eIsi, T_mCall, T_mCallK, CB_own, CB_bor, T_mCallB, T_mCallT, TSV_val, TSV_own, T_eSV, TSL_own, T_lSV, sq_nx, sq_rt, sq_bk, sq_ct, T_sSeq, T_sSkip, T_sExpr, T_sRetV, T_sRetL, T_sRetS, T_sRetN, TRN_val, TRN_own, T_sRetName, T_sIf, T_sSetV, T_sSetL, TSet_val, TSet_own, T_sSetS, L2T_two, L3T_three, T_sPar, T_sPar3, T_sParL, T_sAug, T_sAsg, gN_eq, gT_eq, gsNil_eq, gsCons_eq, IX_own, IX_bor, O_gIx, T_mNoPart, TI_int, T_mPart, TLs_list, TTs_tuple, T_lCut, T_eCut, LO_nil, LO_cons, T_lOr, TAny_list, TAny_tuple, T_iAny, T_iEnumD, TZ_list, TZ_tuple, T_iZipD, TRg1_int, T_iRange1, TRg2_int, T_iRange2, TRg3_int, T_iRange3, lpK_nx, lpK_ct, lpK_bk, lpK_rt, fcK_nx, fcK_ct, fcK_bk, fcK_rt, wlK_nx, wlK_ct, wlK_bk, wlK_rt, wipe_nil, wipe_cons, back_nil, back_cons, noC_nil, noC_cons, noC1_none, noC1_val, T_comp_nil, T_lComp, MX_own, MX_bor, isCellLst_own, isCellLst_bor, T_eMut, T_eMeth, RP_lst, T_lRep, gL_eq, T_sParLL, T_sParVL, RG_int, T_lRange1, T_inK, T_eInK, T_eNinK, dictD_own, keyD_int, T_lDict, TO_nx, TO_val, TO_own, T0_bor, O_mkP, O_mkB, O_some, O_none, O_ite, O_bind, O_map, fAdd_i, fAddI_i, fSub_i, fMul_i, fDiv_i, fMod_i, fShl_i, fAnd_i, fXor_i, fShr_i, fLt_i, fLe_i, fGt_i, fGe_i, fEq_i, fNe_i, fNeg_i, ixN_3_0, ixN_3_1, ixN_3_2, ixN_2_0, ixN_2_1, ixN_1_0, truD_i, truD_b, intD_i, intD_b, absD_i, lenD_l, lenD_t, tupleD_l, tupleD_t, listD_l, listD_t, List.map_cons, List.map_nil, List.length_cons, List.length_nil, List.cons_append, List.nil_append, List.replicate_succ, List.replicate_zero, List.set_cons_zero, List.set_cons_succ, List.getElem?_cons_zero, List.getElem?_cons_succ, Option.getD_some, Option.bind_some, Option.map_some, true_and, and_true, Bool.false_eq_true, Nat.reduceAdd, Nat.reduceSub, Nat.reduceLeDiff, Nat.le_refl, Bool.and_true, Bool.and_self, Bool.not_true, Bool.not_false, if_true, if_false, reduceIte, Nat.zero_add, Nat.sub_self]
      exact ⟨cDivP (by omega) (by omega), cDivP (by decide) (by decide)⟩
    simp only [List.cons.injEq, Option.some.injEq, SV.val.injEq, SV.own.injEq, SV.bor.injEq, Cel.lst.injEq, PyData.int.injEq, PyData.tuple.injEq, PyData.list.injEq, PyData.bool.injEq, and_true, true_and, exists_eq, exists_eq', exists_and_left, exists_and_right]
    refine tb_map fun k hk => ?_
    unfold US
    rw [B_WH hk]
theorem unlike_ok {m : Nat} {t : Nat → Int} (hm : m ≤ 12) (ht : ∀ k, k < 2 ^ m → t k = 0 ∨ t k = 1) {d : D} (hd : d = .tuple (tb (2 ^ m) t) ∨ d = .list (tb (2 ^ m) t)) : F_unlike_shifted [d] = some (.own (.lst (tb (2 ^ m) (US m t)))) := by
  apply O_is.mp
  unfold F_unlike_shifted b_unlike_shifted
  rcases hd with rfl | rfl
  · simp only [T_ret, T_eName, TN_val, TN_own, T_oName, TR_some, T_oVal, T_eC, T_eFrz, celD_lst, slotD_val, slotD_own, slotD_bor, rs_d, rs_s, rss_nil, rss_cons, T_op2, T_op2L, T_op1, T_opN, T_opNL, T_eBin, T_lBin, T_eUn, T_eFn, T_lFn, T_oNil, T_oCons, T_aNil, T_aCons, T_eTup, T_lLst, TB_bool, T_tOf, T_mTru, br_true, br_false, T_mAnd, T_mOr, T_mNot, T_eAnd, T_eOr, T_eNot, T_eIf, T_lIf, T_eChain, T_eIsi, T_mCall, T_mCallK, CB_own, CB_bor, T_mCallB, T_mCallT, TSV_val, TSV_own, T_eSV, TSL_own, T_lSV, sq_nx, sq_rt, sq_bk, sq_ct, T_sSeq, T_sSkip, T_sExpr, T_sRetV, T_sRetL, T_sRetS, T_sRetN, TRN_val, TRN_own, T_sRetName, T_sIf, T_sSetV, T_sSetL, TSet_val, TSet_own, T_sSetS, L2T_two, L3T_three, T_sPar, T_sPar3, T_sParL, T_sAug, T_sAsg, gN_eq, gT_eq, gsNil_eq, gsCons_eq, IX_own, IX_bor, O_gIx, T_mNoPart, TI_int, T_mPart, TLs_list, TTs_tuple, T_lCut, T_eCut, LO_nil, LO_cons, T_lOr, TAny_list, TAny_tuple, T_iAny, T_iEnumD, TZ_list, TZ_tuple, T_iZipD, TRg1_int, T_iRange1, TRg2_int, T_iRange2, TRg3_int, T_iRange3, lpK_nx, lpK_ct, lpK_bk, lpK_rt, fcK_nx, fcK_ct, fcK_bk, fcK_rt, wlK_nx, wlK_ct, wlK_bk, wlK_rt, wipe_nil, wipe_cons, back_nil, back_cons, noC_nil, noC_cons, noC1_none, noC1_val, T_comp_nil, T_lComp, MX_own, MX_bor, isCellLst_own, isCellLst_bor, T_eMut, T_eMeth, RP_lst, T_lRep, gL_eq, T_sParLL, T_sParVL, RG_int, T_lRange1, T_inK, T_eInK, T_eNinK, dictD_own, keyD_int, T_lDict, TO_nx, TO_val, TO_own, T0_bor, O_mkP, O_mkB, O_some, O_none, O_ite, O_bind, O_map, fAdd_i, fAddI_i, fSub_i, fMul_i, fDiv_i, fMod_i, fShl_i, fAnd_i, fXor_i, fShr_i, fLt_i, fLe_i, fGt_i, fGe_i, fEq_i, fNe_i, fNeg_i, ixN_3_0, ixN_3_1, ixN_3_2, ixN_2_0, ixN_2_1, ixN_1_0, truD_i, truD_b, intD_i, intD_b, absD_i, lenD_l, lenD_t, tupleD_l, tupleD_t, listD_l, listD_t, List.map_cons, List.map_nil, List.length_cons, List.length_nil, List.cons_append, List.nil_append, List.replicate_succ, List.replicate_zero, List.set_cons_zero, List.set_cons_succ, List.getElem?_cons_zero, List.getElem?_cons_succ, Option.getD_some, Option.bind_some, Option.map_some, true_and, and_true, Bool.false_eq_true, Nat.reduceAdd, Nat.reduceSub, Nat.reduceLeDiff, Nat.le_refl, Bool.and_true, Bool.and_self, Bool.not_true, Bool.not_false, if_true, if_false, reduceIte, Nat.zero_add, Nat.sub_self, (sure_full_ok hm ht).1, unlike_in_ok hm ht]
  · simp only [T_ret, T_eName, TN_val, TN_own, T_oName, TR_some, T_oVal, T_eC, T_eFrz, celD_lst, slotD_val, slotD_own, slotD_bor, rs_d, rs_s, rss_nil, rss_cons, T_op2, T_op2L, T_op1, T_opN, T_opNL, T_eBin, T_lBin, T_eUn, T_eFn, T_lFn, T_oNil, T_oCons, T_aNil, T_aCons, T_eTup, T_lLst, TB_bool, T_tOf, T_mTru, br_true, br_false, T_mAnd, T_mOr, T_mNot, T_eAnd, T_eOr, T_eNot, T_eIf, T_lIf, T_eChain, T_eIsi, T_mCall, T_mCallK, CB_own, CB_bor, T_mCallB, T_mCallT, TSV_val, TSV_own, T_eSV, TSL_own, T_lSV, sq_nx, sq_rt, sq_bk, sq_ct, T_sSeq, T_sSkip, T_sExpr, T_sRetV, T_sRetL, T_sRetS, T_sRetN, TRN_val, TRN_own, T_sRetName, T_sIf, T_sSetV, T_sSetL, TSet_val, TSet_own, T_sSetS, L2T_two, L3T_three, T_sPar, T_sPar3, T_sParL, T_sAug, T_sAsg, gN_eq, gT_eq, gsNil_eq, gsCons_eq, IX_own, IX_bor, O_gIx, T_mNoPart, TI_int, T_mPart, TLs_list, TTs_tuple, T_lCut, T_eCut, LO_nil, LO_cons, T_lOr, TAny_list, TAny_tuple, T_iAny, T_iEnumD, TZ_list, TZ_tuple, T_iZipD, TRg1_int, T_iRange1, TRg2_int, T_iRange2, TRg3_int, T_iRange3, lpK_nx, lpK_ct, lpK_bk, lpK_rt, fcK_nx, fcK_ct, fcK_bk, fcK_rt, wlK_nx, wlK_ct, wlK_bk, wlK_rt, wipe_nil, wipe_cons, back_nil, back_cons, noC_nil, noC_cons, noC1_none, noC1_val, T_comp_nil, T_lComp, MX_own, MX_bor, isCellLst_own, isCellLst_bor, T_eMut, T_eMeth, RP_lst, T_lRep, gL_eq, T_sParLL, T_sParVL, RG_int, T_lRange1, T_inK, T_eInK, T_eNinK, dictD_own, keyD_int, T_lDict, TO_nx, TO_val, TO_own, T0_bor, O_mkP, O_mkB, O_some, O_none, O_ite, O_bind, O_map, fAdd_i, fAddI_i, fSub_i, fMul_i, fDiv_i, fMod_i, fShl_i, fAnd_i, fXor_i, fShr_i, fLt_i, fLe_i, fGt_i, fGe_i, fEq_i, fNe_i, fNeg_i, ixN_3_0, ixN_3_1, ixN_3_2, ixN_2_0, ixN_2_1, ixN_1_0, truD_i, truD_b, intD_i, intD_b, absD_i, lenD_l, lenD_t, tupleD_l, tupleD_t, listD_l, listD_t, List.map_cons, List.map_nil, List.length_cons, List.length_nil, List.cons_append, List.nil_append, List.replicate_succ, List.replicate_zero, List.set_cons_zero, List.set_cons_succ, List.getElem?_cons_zero, List.getElem?_cons_succ, Option.getD_some, Option.bind_some, Option.map_some, true_and, and_true, Bool.false_eq_true, Nat.reduceAdd, Nat.reduceSub, Nat.reduceLeDiff, Nat.le_refl, Bool.and_true, Bool.and_self, Bool.not_true, Bool.not_false, if_true, if_false, reduceIte, Nat.zero_add, Nat.sub_self, (sure_full_ok hm ht).2, unlike_in_ok hm ht]
/-- what straight_fails counts -/
def SF (m : Nat) (t : Nat → Int) : Int := (((2 ^ m : Nat) * (2 ^ m : Nat) : Int) - (Sm (2 ^ m) fun r => WH m (fun k => 1 - 2 * t k) r * WH m (fun k => 1 - 2 * t k) r * WH m (fun k => 1 - 2 * t k) r).fdiv (2 ^ m : Nat)).fdiv 2
theorem fails_in_ok {m : Nat} {t : Nat → Int} (hm : m ≤ 12) (ht : ∀ k, k < 2 ^ m → t k = 0 ∨ t k = 1) : F_straight_fails_in [.tuple (tb (2 ^ m) t)] = some (.val (.int (SF m t))) := by
  apply O_is.mp
  have pm12 : 2 ^ m ≤ 2 ^ 12 := Nat.pow_le_pow_right (by decide) (by omega)
  have pm0 := Nat.two_pow_pos m
  unfold F_straight_fails_in b_straight_fails_in
  simp only [T_ret, T_eName, TN_val, TN_own, T_oName, TR_some, T_oVal, T_eC, T_eFrz, celD_lst, slotD_val, slotD_own, slotD_bor, rs_d, rs_s, rss_nil, rss_cons, T_op2, T_op2L, T_op1, T_opN, T_opNL, T_eBin, T_lBin, T_eUn, T_eFn, T_lFn, T_oNil, T_oCons, T_aNil, T_aCons, T_eTup, T_lLst, TB_bool, T_tOf, T_mTru, br_true, br_false, T_mAnd, T_mOr, T_mNot, T_eAnd, T_eOr, T_eNot, T_eIf, T_lIf, T_eChain, T_eIsi, T_mCall, T_mCallK, CB_own, CB_bor, T_mCallB, T_mCallT, TSV_val, TSV_own, T_eSV, TSL_own, T_lSV, sq_nx, sq_rt, sq_bk, sq_ct, T_sSeq, T_sSkip, T_sExpr, T_sRetV, T_sRetL, T_sRetS, T_sRetN, TRN_val, TRN_own, T_sRetName, T_sIf, T_sSetV, T_sSetL, TSet_val, TSet_own, T_sSetS, L2T_two, L3T_three, T_sPar, T_sPar3, T_sParL, T_sAug, T_sAsg, gN_eq, gT_eq, gsNil_eq, gsCons_eq, IX_own, IX_bor, O_gIx, T_mNoPart, TI_int, T_mPart, TLs_list, TTs_tuple, T_lCut, T_eCut, LO_nil, LO_cons, T_lOr, TAny_list, TAny_tuple, T_iAny, T_iEnumD, TZ_list, TZ_tuple, T_iZipD, TRg1_int, T_iRange1, TRg2_int, T_iRange2, TRg3_int, T_iRange3, lpK_nx, lpK_ct, lpK_bk, lpK_rt, fcK_nx, fcK_ct, fcK_bk, fcK_rt, wlK_nx, wlK_ct, wlK_bk, wlK_rt, wipe_nil, wipe_cons, back_nil, back_cons, noC_nil, noC_cons, noC1_none, noC1_val, T_comp_nil, T_lComp, MX_own, MX_bor, isCellLst_own, isCellLst_bor, T_eMut, T_eMeth, RP_lst, T_lRep, gL_eq, T_sParLL, T_sParVL, RG_int, T_lRange1, T_inK, T_eInK, T_eNinK, dictD_own, keyD_int, T_lDict, TO_nx, TO_val, TO_own, T0_bor, O_mkP, O_mkB, O_some, O_none, O_ite, O_bind, O_map, fAdd_i, fAddI_i, fSub_i, fMul_i, fDiv_i, fMod_i, fShl_i, fAnd_i, fXor_i, fShr_i, fLt_i, fLe_i, fGt_i, fGe_i, fEq_i, fNe_i, fNeg_i, ixN_3_0, ixN_3_1, ixN_3_2, ixN_2_0, ixN_2_1, ixN_1_0, truD_i, truD_b, intD_i, intD_b, absD_i, lenD_l, lenD_t, tupleD_l, tupleD_t, listD_l, listD_t, List.map_cons, List.map_nil, List.length_cons, List.length_nil, List.cons_append, List.nil_append, List.replicate_succ, List.replicate_zero, List.set_cons_zero, List.set_cons_succ, List.getElem?_cons_zero, List.getElem?_cons_succ, Option.getD_some, Option.bind_some, Option.map_some, true_and, and_true, Bool.false_eq_true, Nat.reduceAdd, Nat.reduceSub, Nat.reduceLeDiff, Nat.le_refl, Bool.and_true, Bool.and_self, Bool.not_true, Bool.not_false, if_true, if_false, reduceIte, Nat.zero_add, Nat.sub_self, tb_len, sums_in_ok hm]
  refine ⟨cMulR (by omega), by omega, T_compMap (fun d => match d with | .int i => .int (i * i * i) | d => d) ?_ ?_⟩
  · intro d hd
    obtain ⟨j, hj, rfl⟩ := tb_mem hd
    simp only [T_ret, T_eName, TN_val, TN_own, T_oName, TR_some, T_oVal, T_eC, T_eFrz, celD_lst, slotD_val, slotD_own, slotD_bor, rs_d, rs_s, rss_nil, rss_cons, T_op2, T_op2L, T_op1, T_opN, T_opNL, T_eBin, T_lBin, T_eUn, T_eFn, T_lFn, T_oNil, T_oCons, T_aNil, T_aCons, T_eTup, T_lLst, TB_bool, T_tOf, T_mTru, br_true, br_false, T_mAnd, T_mOr, T_mNot, T_eAnd, T_eOr, T_eNot, T_eIf, T_lIf, T_eChain, T_eIsi, T_mCall, T_mCallK, CB_own, CB_bor, T_mCallB, T_mCallT, TSV_val, TSV_own, T_eSV, TSL_own, T_lSV, sq_nx, sq_rt, sq_bk, sq_ct, T_sSeq, T_sSkip, T_sExpr, T_sRetV, T_sRetL, T_sRetS, T_sRetN, TRN_val, TRN_own, T_sRetName, T_sIf, T_sSetV, T_sSetL, TSet_val, TSet_own, T_sSetS, L2T_two, L3T_three, T_sPar, T_sPar3, T_sParL, T_sAug, T_sAsg, gN_eq, gT_eq, gsNil_eq, gsCons_eq, IX_own, IX_bor, O_gIx, T_mNoPart, TI_int, T_mPart, TLs_list, TTs_tuple, T_lCut, T_eCut, LO_nil, LO_cons, T_lOr, TAny_list, TAny_tuple, T_iAny, T_iEnumD, TZ_list, TZ_tuple, T_iZipD, TRg1_int, T_iRange1, TRg2_int, T_iRange2, TRg3_int, T_iRange3, lpK_nx, lpK_ct, lpK_bk, lpK_rt, fcK_nx, fcK_ct, fcK_bk, fcK_rt, wlK_nx, wlK_ct, wlK_bk, wlK_rt, wipe_nil, wipe_cons, back_nil, back_cons, noC_nil, noC_cons, noC1_none, noC1_val, T_comp_nil, T_lComp, MX_own, MX_bor, isCellLst_own, isCellLst_bor, T_eMut, T_eMeth, RP_lst, T_lRep, gL_eq, T_sParLL, T_sParVL, RG_int, T_lRange1, T_inK, T_eInK, T_eNinK, dictD_own, keyD_int, T_lDict, TO_nx, TO_val, TO_own, T0_bor, O_mkP, O_mkB, O_some, O_none, O_ite, O_bind, O_map, fAdd_i, fAddI_i, fSub_i, fMul_i, fDiv_i, fMod_i, fShl_i, fAnd_i, fXor_i, fShr_i, fLt_i, fLe_i, fGt_i, fGe_i, fEq_i, fNe_i, fNeg_i, ixN_3_0, ixN_3_1, ixN_3_2, ixN_2_0, ixN_2_1, ixN_1_0, truD_i, truD_b, intD_i, intD_b, absD_i, lenD_l, lenD_t, tupleD_l, tupleD_t, listD_l, listD_t, List.map_cons, List.map_nil, List.length_cons, List.length_nil, List.cons_append, List.nil_append, List.replicate_succ, List.replicate_zero, List.set_cons_zero, List.set_cons_succ, List.getElem?_cons_zero, List.getElem?_cons_succ, Option.getD_some, Option.bind_some, Option.map_some, true_and, and_true, Bool.false_eq_true, Nat.reduceAdd, Nat.reduceSub, Nat.reduceLeDiff, Nat.le_refl, Bool.and_true, Bool.and_self, Bool.not_true, Bool.not_false, if_true, if_false, reduceIte, Nat.zero_add, Nat.sub_self]
    have := WH_le (r := j) hm ht
    exact ⟨cMulR (by omega), cMulR (by omega)⟩
  rw [tb_map (g := fun r => WH m (fun k => 1 - 2 * t k) r * WH m (fun k => 1 - 2 * t k) r * WH m (fun k => 1 - 2 * t k) r) fun k _ => rfl]
  simp only [T_ret, T_eName, TN_val, TN_own, T_oName, TR_some, T_oVal, T_eC, T_eFrz, celD_lst, slotD_val, slotD_own, slotD_bor, rs_d, rs_s, rss_nil, rss_cons, T_op2, T_op2L, T_op1, T_opN, T_opNL, T_eBin, T_lBin, T_eUn, T_eFn, T_lFn, T_oNil, T_oCons, T_aNil, T_aCons, T_eTup, T_lLst, TB_bool, T_tOf, T_mTru, br_true, br_false, T_mAnd, T_mOr, T_mNot, T_eAnd, T_eOr, T_eNot, T_eIf, T_lIf, T_eChain, T_eIsi, T_mCall, T_mCallK, CB_own, CB_bor, T_mCallB, T_mCallT, TSV_val, TSV_own, T_eSV, TSL_own, T_lSV, sq_nx, sq_rt, sq_bk, sq_ct, T_sSeq, T_sSkip, T_sExpr, T_sRetV, T_sRetL, T_sRetS, T_sRetN, TRN_val, TRN_own, T_sRetName, T_sIf, T_sSetV, T_sSetL, TSet_val, TSet_own, T_sSetS, L2T_two, L3T_three, T_sPar, T_sPar3, T_sParL, T_sAug, T_sAsg, gN_eq, gT_eq, gsNil_eq, gsCons_eq, IX_own, IX_bor, O_gIx, T_mNoPart, TI_int, T_mPart, TLs_list, TTs_tuple, T_lCut, T_eCut, LO_nil, LO_cons, T_lOr, TAny_list, TAny_tuple, T_iAny, T_iEnumD, TZ_list, TZ_tuple, T_iZipD, TRg1_int, T_iRange1, TRg2_int, T_iRange2, TRg3_int, T_iRange3, lpK_nx, lpK_ct, lpK_bk, lpK_rt, fcK_nx, fcK_ct, fcK_bk, fcK_rt, wlK_nx, wlK_ct, wlK_bk, wlK_rt, wipe_nil, wipe_cons, back_nil, back_cons, noC_nil, noC_cons, noC1_none, noC1_val, T_comp_nil, T_lComp, MX_own, MX_bor, isCellLst_own, isCellLst_bor, T_eMut, T_eMeth, RP_lst, T_lRep, gL_eq, T_sParLL, T_sParVL, RG_int, T_lRange1, T_inK, T_eInK, T_eNinK, dictD_own, keyD_int, T_lDict, TO_nx, TO_val, TO_own, T0_bor, O_mkP, O_mkB, O_some, O_none, O_ite, O_bind, O_map, fAdd_i, fAddI_i, fSub_i, fMul_i, fDiv_i, fMod_i, fShl_i, fAnd_i, fXor_i, fShr_i, fLt_i, fLe_i, fGt_i, fGe_i, fEq_i, fNe_i, fNeg_i, ixN_3_0, ixN_3_1, ixN_3_2, ixN_2_0, ixN_2_1, ixN_1_0, truD_i, truD_b, intD_i, intD_b, absD_i, lenD_l, lenD_t, tupleD_l, tupleD_t, listD_l, listD_t, List.map_cons, List.map_nil, List.length_cons, List.length_nil, List.cons_append, List.nil_append, List.replicate_succ, List.replicate_zero, List.set_cons_zero, List.set_cons_succ, List.getElem?_cons_zero, List.getElem?_cons_succ, Option.getD_some, Option.bind_some, Option.map_some, true_and, and_true, Bool.false_eq_true, Nat.reduceAdd, Nat.reduceSub, Nat.reduceLeDiff, Nat.le_refl, Bool.and_true, Bool.and_self, Bool.not_true, Bool.not_false, if_true, if_false, reduceIte, Nat.zero_add, Nat.sub_self, tb_sum]
  exact ⟨cDivP (by omega) (by omega), cDivP (by decide) (by decide), rfl⟩
theorem fails_ok {m : Nat} {t : Nat → Int} (hm : m ≤ 12) (ht : ∀ k, k < 2 ^ m → t k = 0 ∨ t k = 1) {d : D} (hd : d = .tuple (tb (2 ^ m) t) ∨ d = .list (tb (2 ^ m) t)) : F_straight_fails [d] = some (.val (.int (SF m t))) := by
  apply O_is.mp
  unfold F_straight_fails b_straight_fails
  rcases hd with rfl | rfl
  · simp only [T_ret, T_eName, TN_val, TN_own, T_oName, TR_some, T_oVal, T_eC, T_eFrz, celD_lst, slotD_val, slotD_own, slotD_bor, rs_d, rs_s, rss_nil, rss_cons, T_op2, T_op2L, T_op1, T_opN, T_opNL, T_eBin, T_lBin, T_eUn, T_eFn, T_lFn, T_oNil, T_oCons, T_aNil, T_aCons, T_eTup, T_lLst, TB_bool, T_tOf, T_mTru, br_true, br_false, T_mAnd, T_mOr, T_mNot, T_eAnd, T_eOr, T_eNot, T_eIf, T_lIf, T_eChain, T_eIsi, T_mCall, T_mCallK, CB_own, CB_bor, T_mCallB, T_mCallT, TSV_val, TSV_own, T_eSV, TSL_own, T_lSV, sq_nx, sq_rt, sq_bk, sq_ct, T_sSeq, T_sSkip, T_sExpr, T_sRetV, T_sRetL, T_sRetS, T_sRetN, TRN_val, TRN_own, T_sRetName, T_sIf, T_sSetV, T_sSetL, TSet_val, TSet_own, T_sSetS, L2T_two, L3T_three, T_sPar, T_sPar3, T_sParL, T_sAug, T_sAsg, gN_eq, gT_eq, gsNil_eq, gsCons_eq, IX_own, IX_bor, O_gIx, T_mNoPart, TI_int, T_mPart, TLs_list, TTs_tuple, T_lCut, T_eCut, LO_nil, LO_cons, T_lOr, TAny_list, TAny_tuple, T_iAny, T_iEnumD, TZ_list, TZ_tuple, T_iZipD, TRg1_int, T_iRange1, TRg2_int, T_iRange2, TRg3_int, T_iRange3, lpK_nx, lpK_ct, lpK_bk, lpK_rt, fcK_nx, fcK_ct, fcK_bk, fcK_rt, wlK_nx, wlK_ct, wlK_bk, wlK_rt, wipe_nil, wipe_cons, back_nil, back_cons, noC_nil, noC_cons, noC1_none, noC1_val, T_comp_nil, T_lComp, MX_own, MX_bor, isCellLst_own, isCellLst_bor, T_eMut, T_eMeth, RP_lst, T_lRep, gL_eq, T_sParLL, T_sParVL, RG_int, T_lRange1, T_inK, T_eInK, T_eNinK, dictD_own, keyD_int, T_lDict, TO_nx, TO_val, TO_own, T0_bor, O_mkP, O_mkB, O_some, O_none, O_ite, O_bind, O_map, fAdd_i, fAddI_i, fSub_i, fMul_i, fDiv_i, fMod_i, fShl_i, fAnd_i, fXor_i, fShr_i, fLt_i, fLe_i, fGt_i, fGe_i, fEq_i, fNe_i, fNeg_i, ixN_3_0, ixN_3_1, ixN_3_2, ixN_2_0, ixN_2_1, ixN_1_0, truD_i, truD_b, intD_i, intD_b, absD_i, lenD_l, lenD_t, tupleD_l, tupleD_t, listD_l, listD_t, List.map_cons, List.map_nil, List.length_cons, List.length_nil, List.cons_append, List.nil_append, List.replicate_succ, List.replicate_zero, List.set_cons_zero, List.set_cons_succ, List.getElem?_cons_zero, List.getElem?_cons_succ, Option.getD_some, Option.bind_some, Option.map_some, true_and, and_true, Bool.false_eq_true, Nat.reduceAdd, Nat.reduceSub, Nat.reduceLeDiff, Nat.le_refl, Bool.and_true, Bool.and_self, Bool.not_true, Bool.not_false, if_true, if_false, reduceIte, Nat.zero_add, Nat.sub_self, (sure_full_ok hm ht).1, fails_in_ok hm ht]
  · simp only [T_ret, T_eName, TN_val, TN_own, T_oName, TR_some, T_oVal, T_eC, T_eFrz, celD_lst, slotD_val, slotD_own, slotD_bor, rs_d, rs_s, rss_nil, rss_cons, T_op2, T_op2L, T_op1, T_opN, T_opNL, T_eBin, T_lBin, T_eUn, T_eFn, T_lFn, T_oNil, T_oCons, T_aNil, T_aCons, T_eTup, T_lLst, TB_bool, T_tOf, T_mTru, br_true, br_false, T_mAnd, T_mOr, T_mNot, T_eAnd, T_eOr, T_eNot, T_eIf, T_lIf, T_eChain, T_eIsi, T_mCall, T_mCallK, CB_own, CB_bor, T_mCallB, T_mCallT, TSV_val, TSV_own, T_eSV, TSL_own, T_lSV, sq_nx, sq_rt, sq_bk, sq_ct, T_sSeq, T_sSkip, T_sExpr, T_sRetV, T_sRetL, T_sRetS, T_sRetN, TRN_val, TRN_own, T_sRetName, T_sIf, T_sSetV, T_sSetL, TSet_val, TSet_own, T_sSetS, L2T_two, L3T_three, T_sPar, T_sPar3, T_sParL, T_sAug, T_sAsg, gN_eq, gT_eq, gsNil_eq, gsCons_eq, IX_own, IX_bor, O_gIx, T_mNoPart, TI_int, T_mPart, TLs_list, TTs_tuple, T_lCut, T_eCut, LO_nil, LO_cons, T_lOr, TAny_list, TAny_tuple, T_iAny, T_iEnumD, TZ_list, TZ_tuple, T_iZipD, TRg1_int, T_iRange1, TRg2_int, T_iRange2, TRg3_int, T_iRange3, lpK_nx, lpK_ct, lpK_bk, lpK_rt, fcK_nx, fcK_ct, fcK_bk, fcK_rt, wlK_nx, wlK_ct, wlK_bk, wlK_rt, wipe_nil, wipe_cons, back_nil, back_cons, noC_nil, noC_cons, noC1_none, noC1_val, T_comp_nil, T_lComp, MX_own, MX_bor, isCellLst_own, isCellLst_bor, T_eMut, T_eMeth, RP_lst, T_lRep, gL_eq, T_sParLL, T_sParVL, RG_int, T_lRange1, T_inK, T_eInK, T_eNinK, dictD_own, keyD_int, T_lDict, TO_nx, TO_val, TO_own, T0_bor, O_mkP, O_mkB, O_some, O_none, O_ite, O_bind, O_map, fAdd_i, fAddI_i, fSub_i, fMul_i, fDiv_i, fMod_i, fShl_i, fAnd_i, fXor_i, fShr_i, fLt_i, fLe_i, fGt_i, fGe_i, fEq_i, fNe_i, fNeg_i, ixN_3_0, ixN_3_1, ixN_3_2, ixN_2_0, ixN_2_1, ixN_1_0, truD_i, truD_b, intD_i, intD_b, absD_i, lenD_l, lenD_t, tupleD_l, tupleD_t, listD_l, listD_t, List.map_cons, List.map_nil, List.length_cons, List.length_nil, List.cons_append, List.nil_append, List.replicate_succ, List.replicate_zero, List.set_cons_zero, List.set_cons_succ, List.getElem?_cons_zero, List.getElem?_cons_succ, Option.getD_some, Option.bind_some, Option.map_some, true_and, and_true, Bool.false_eq_true, Nat.reduceAdd, Nat.reduceSub, Nat.reduceLeDiff, Nat.le_refl, Bool.and_true, Bool.and_self, Bool.not_true, Bool.not_false, if_true, if_false, reduceIte, Nat.zero_add, Nat.sub_self, (sure_full_ok hm ht).2, fails_in_ok hm ht]
/-- the best of n turned sums -/
def top (n : Nat) (f : Nat → Int) : Int := maxL ((List.range n).map f)
theorem range_ne {n : Nat} {f : Nat → Int} (h : 0 < n) : (List.range n).map f ≠ [] := fun e => by
  have := congrArg List.length e
  rw [List.length_map, List.length_range] at this
  rw [this] at h
  exact absurd h (by decide)
theorem top_mem {n : Nat} {f : Nat → Int} (h : 0 < n) : top n f ∈ (List.range n).map f := maxL_mem (range_ne h)
theorem max_tb {n : Nat} {f : Nat → Int} (h : 0 < n) : maxD [.list (tb n f)] = some (.int (top n f)) := by
  rw [maxD_l, tb_ints, Option.bind_some, if_neg]; rfl
  intro e
  exact range_ne (f := f) h (List.isEmpty_iff.mp e)
theorem min_tb {n : Nat} {f : Nat → Int} (h : 0 < n) : minD [.list (tb n f)] = some (.int (minL ((List.range n).map f))) := by
  rw [minD_l, tb_ints, Option.bind_some, if_neg]
  intro e
  exact range_ne (f := f) h (List.isEmpty_iff.mp e)
theorem rows_ok {m : Nat} {t : Nat → Int} (hm : m ≤ 12) (ht : ∀ k, k < 2 ^ m → t k = 0 ∨ t k = 1) {d : D} (hd : d = .tuple (tb (2 ^ m) t) ∨ d = .list (tb (2 ^ m) t)) : F_nearest_rows [d] = some (.own (.lst (((List.range (2 ^ m)).filter fun k => decide (WH m (fun k => 1 - 2 * t k) k = top (2 ^ m) (WH m fun k => 1 - 2 * t k))).map fun (k : Nat) => .int (k : Int)))) := by
  apply O_is.mp
  have pm12 : 2 ^ m ≤ 2 ^ 12 := Nat.pow_le_pow_right (by decide) (by omega)
  have pm0 := Nat.two_pow_pos m
  unfold F_nearest_rows b_nearest_rows
  simp only [T_ret, T_eName, TN_val, TN_own, T_oName, TR_some, T_oVal, T_eC, T_eFrz, celD_lst, slotD_val, slotD_own, slotD_bor, rs_d, rs_s, rss_nil, rss_cons, T_op2, T_op2L, T_op1, T_opN, T_opNL, T_eBin, T_lBin, T_eUn, T_eFn, T_lFn, T_oNil, T_oCons, T_aNil, T_aCons, T_eTup, T_lLst, TB_bool, T_tOf, T_mTru, br_true, br_false, T_mAnd, T_mOr, T_mNot, T_eAnd, T_eOr, T_eNot, T_eIf, T_lIf, T_eChain, T_eIsi, T_mCall, T_mCallK, CB_own, CB_bor, T_mCallB, T_mCallT, TSV_val, TSV_own, T_eSV, TSL_own, T_lSV, sq_nx, sq_rt, sq_bk, sq_ct, T_sSeq, T_sSkip, T_sExpr, T_sRetV, T_sRetL, T_sRetS, T_sRetN, TRN_val, TRN_own, T_sRetName, T_sIf, T_sSetV, T_sSetL, TSet_val, TSet_own, T_sSetS, L2T_two, L3T_three, T_sPar, T_sPar3, T_sParL, T_sAug, T_sAsg, gN_eq, gT_eq, gsNil_eq, gsCons_eq, IX_own, IX_bor, O_gIx, T_mNoPart, TI_int, T_mPart, TLs_list, TTs_tuple, T_lCut, T_eCut, LO_nil, LO_cons, T_lOr, TAny_list, TAny_tuple, T_iAny, T_iEnumD, TZ_list, TZ_tuple, T_iZipD, TRg1_int, T_iRange1, TRg2_int, T_iRange2, TRg3_int, T_iRange3, lpK_nx, lpK_ct, lpK_bk, lpK_rt, fcK_nx, fcK_ct, fcK_bk, fcK_rt, wlK_nx, wlK_ct, wlK_bk, wlK_rt, wipe_nil, wipe_cons, back_nil, back_cons, noC_nil, noC_cons, noC1_none, noC1_val, T_comp_nil, T_lComp, MX_own, MX_bor, isCellLst_own, isCellLst_bor, T_eMut, T_eMeth, RP_lst, T_lRep, gL_eq, T_sParLL, T_sParVL, RG_int, T_lRange1, T_inK, T_eInK, T_eNinK, dictD_own, keyD_int, T_lDict, TO_nx, TO_val, TO_own, T0_bor, O_mkP, O_mkB, O_some, O_none, O_ite, O_bind, O_map, fAdd_i, fAddI_i, fSub_i, fMul_i, fDiv_i, fMod_i, fShl_i, fAnd_i, fXor_i, fShr_i, fLt_i, fLe_i, fGt_i, fGe_i, fEq_i, fNe_i, fNeg_i, ixN_3_0, ixN_3_1, ixN_3_2, ixN_2_0, ixN_2_1, ixN_1_0, truD_i, truD_b, intD_i, intD_b, absD_i, lenD_l, lenD_t, tupleD_l, tupleD_t, listD_l, listD_t, List.map_cons, List.map_nil, List.length_cons, List.length_nil, List.cons_append, List.nil_append, List.replicate_succ, List.replicate_zero, List.set_cons_zero, List.set_cons_succ, List.getElem?_cons_zero, List.getElem?_cons_succ, Option.getD_some, Option.bind_some, Option.map_some, true_and, and_true, Bool.false_eq_true, Nat.reduceAdd, Nat.reduceSub, Nat.reduceLeDiff, Nat.le_refl, Bool.and_true, Bool.and_self, Bool.not_true, Bool.not_false, if_true, if_false, reduceIte, Nat.zero_add, Nat.sub_self, turned_ok hm ht hd, max_tb pm0, tb_enum, List.length_range, List.length_map]
  refine ⟨by omega, T_compFilter (fun d => match d with | .tuple [.int k, .int f] => decide (f = top (2 ^ m) (WH m fun k => 1 - 2 * t k)) | _ => false) (fun d => match d with | .tuple [k, f] => k | _ => d) ?_ ?_⟩
  · intro d hd
    obtain ⟨k, hk, rfl⟩ := List.mem_map.mp hd
    simp only [T_ret, T_eName, TN_val, TN_own, T_oName, TR_some, T_oVal, T_eC, T_eFrz, celD_lst, slotD_val, slotD_own, slotD_bor, rs_d, rs_s, rss_nil, rss_cons, T_op2, T_op2L, T_op1, T_opN, T_opNL, T_eBin, T_lBin, T_eUn, T_eFn, T_lFn, T_oNil, T_oCons, T_aNil, T_aCons, T_eTup, T_lLst, TB_bool, T_tOf, T_mTru, br_true, br_false, T_mAnd, T_mOr, T_mNot, T_eAnd, T_eOr, T_eNot, T_eIf, T_lIf, T_eChain, T_eIsi, T_mCall, T_mCallK, CB_own, CB_bor, T_mCallB, T_mCallT, TSV_val, TSV_own, T_eSV, TSL_own, T_lSV, sq_nx, sq_rt, sq_bk, sq_ct, T_sSeq, T_sSkip, T_sExpr, T_sRetV, T_sRetL, T_sRetS, T_sRetN, TRN_val, TRN_own, T_sRetName, T_sIf, T_sSetV, T_sSetL, TSet_val, TSet_own, T_sSetS, L2T_two, L3T_three, T_sPar, T_sPar3, T_sParL, T_sAug, T_sAsg, gN_eq, gT_eq, gsNil_eq, gsCons_eq, IX_own, IX_bor, O_gIx, T_mNoPart, TI_int, T_mPart, TLs_list, TTs_tuple, T_lCut, T_eCut, LO_nil, LO_cons, T_lOr, TAny_list, TAny_tuple, T_iAny, T_iEnumD, TZ_list, TZ_tuple, T_iZipD, TRg1_int, T_iRange1, TRg2_int, T_iRange2, TRg3_int, T_iRange3, lpK_nx, lpK_ct, lpK_bk, lpK_rt, fcK_nx, fcK_ct, fcK_bk, fcK_rt, wlK_nx, wlK_ct, wlK_bk, wlK_rt, wipe_nil, wipe_cons, back_nil, back_cons, noC_nil, noC_cons, noC1_none, noC1_val, T_comp_nil, T_lComp, MX_own, MX_bor, isCellLst_own, isCellLst_bor, T_eMut, T_eMeth, RP_lst, T_lRep, gL_eq, T_sParLL, T_sParVL, RG_int, T_lRange1, T_inK, T_eInK, T_eNinK, dictD_own, keyD_int, T_lDict, TO_nx, TO_val, TO_own, T0_bor, O_mkP, O_mkB, O_some, O_none, O_ite, O_bind, O_map, fAdd_i, fAddI_i, fSub_i, fMul_i, fDiv_i, fMod_i, fShl_i, fAnd_i, fXor_i, fShr_i, fLt_i, fLe_i, fGt_i, fGe_i, fEq_i, fNe_i, fNeg_i, ixN_3_0, ixN_3_1, ixN_3_2, ixN_2_0, ixN_2_1, ixN_1_0, truD_i, truD_b, intD_i, intD_b, absD_i, lenD_l, lenD_t, tupleD_l, tupleD_t, listD_l, listD_t, List.map_cons, List.map_nil, List.length_cons, List.length_nil, List.cons_append, List.nil_append, List.replicate_succ, List.replicate_zero, List.set_cons_zero, List.set_cons_succ, List.getElem?_cons_zero, List.getElem?_cons_succ, Option.getD_some, Option.bind_some, Option.map_some, true_and, and_true, Bool.false_eq_true, Nat.reduceAdd, Nat.reduceSub, Nat.reduceLeDiff, Nat.le_refl, Bool.and_true, Bool.and_self, Bool.not_true, Bool.not_false, if_true, if_false, reduceIte, Nat.zero_add, Nat.sub_self]
    exact ⟨fun _ => trivial, fun _ => trivial⟩
  · rw [List.filter_map, List.map_map]
    rfl
/-- bits -/
def Bits (m : Nat) (t : Nat → Int) : Prop := ∀ k, k < 2 ^ m → t k = 0 ∨ t k = 1
theorem near_ok {m k0 : Nat} {c : Cel} (hm : m ≤ 12) (hb : Box k0 c) (h0 : k0 < 2 ^ 30) : O (F__law_near c [.int m]) fun p => ∃ t, p.1 = .val (.tuple (tb (2 ^ m) t)) ∧ Bits m t ∧ Box (k0 + 10000) p.2 := by
  have pm12 : 2 ^ m ≤ 2 ^ 12 := Nat.pow_le_pow_right (by decide) (by omega)
  have pm0 := Nat.two_pow_pos m
  have c1 : cPow 1 (m : Int) = true := cPowP (by omega) (by omega) (by decide)
  have e1 : (1 : Int) * 2 ^ (m : Int).toNat = ((2 ^ m : Nat) : Int) := by rw [Int.toNat_natCast, Int.one_mul, Int.natCast_pow]; rfl
  unfold F__law_near b__law_near
  simp only [T_ret, T_eName, TN_val, TN_own, T_oName, TR_some, T_oVal, T_eC, T_eFrz, celD_lst, slotD_val, slotD_own, slotD_bor, rs_d, rs_s, rss_nil, rss_cons, T_op2, T_op2L, T_op1, T_opN, T_opNL, T_eBin, T_lBin, T_eUn, T_eFn, T_lFn, T_oNil, T_oCons, T_aNil, T_aCons, T_eTup, T_lLst, TB_bool, T_tOf, T_mTru, br_true, br_false, T_mAnd, T_mOr, T_mNot, T_eAnd, T_eOr, T_eNot, T_eIf, T_lIf, T_eChain, T_eIsi, T_mCall, T_mCallK, CB_own, CB_bor, T_mCallB, T_mCallT, TSV_val, TSV_own, T_eSV, TSL_own, T_lSV, sq_nx, sq_rt, sq_bk, sq_ct, T_sSeq, T_sSkip, T_sExpr, T_sRetV, T_sRetL, T_sRetS, T_sRetN, TRN_val, TRN_own, T_sRetName, T_sIf, T_sSetV, T_sSetL, TSet_val, TSet_own, T_sSetS, L2T_two, L3T_three, T_sPar, T_sPar3, T_sParL, T_sAug, T_sAsg, gN_eq, gT_eq, gsNil_eq, gsCons_eq, IX_own, IX_bor, O_gIx, T_mNoPart, TI_int, T_mPart, TLs_list, TTs_tuple, T_lCut, T_eCut, LO_nil, LO_cons, T_lOr, TAny_list, TAny_tuple, T_iAny, T_iEnumD, TZ_list, TZ_tuple, T_iZipD, TRg1_int, T_iRange1, TRg2_int, T_iRange2, TRg3_int, T_iRange3, lpK_nx, lpK_ct, lpK_bk, lpK_rt, fcK_nx, fcK_ct, fcK_bk, fcK_rt, wlK_nx, wlK_ct, wlK_bk, wlK_rt, wipe_nil, wipe_cons, back_nil, back_cons, noC_nil, noC_cons, noC1_none, noC1_val, T_comp_nil, T_lComp, MX_own, MX_bor, isCellLst_own, isCellLst_bor, T_eMut, T_eMeth, RP_lst, T_lRep, gL_eq, T_sParLL, T_sParVL, RG_int, T_lRange1, T_inK, T_eInK, T_eNinK, dictD_own, keyD_int, T_lDict, TO_nx, TO_val, TO_own, T0_bor, O_mkP, O_mkB, O_some, O_none, O_ite, O_bind, O_map, fAdd_i, fAddI_i, fSub_i, fMul_i, fDiv_i, fMod_i, fShl_i, fAnd_i, fXor_i, fShr_i, fLt_i, fLe_i, fGt_i, fGe_i, fEq_i, fNe_i, fNeg_i, ixN_3_0, ixN_3_1, ixN_3_2, ixN_2_0, ixN_2_1, ixN_1_0, truD_i, truD_b, intD_i, intD_b, absD_i, lenD_l, lenD_t, tupleD_l, tupleD_t, listD_l, listD_t, List.map_cons, List.map_nil, List.length_cons, List.length_nil, List.cons_append, List.nil_append, List.replicate_succ, List.replicate_zero, List.set_cons_zero, List.set_cons_succ, List.getElem?_cons_zero, List.getElem?_cons_succ, Option.getD_some, Option.bind_some, Option.map_some, true_and, and_true, Bool.false_eq_true, Nat.reduceAdd, Nat.reduceSub, Nat.reduceLeDiff, Nat.le_refl, Bool.and_true, Bool.and_self, Bool.not_true, Bool.not_false, if_true, if_false, reduceIte, Nat.zero_add, Nat.sub_self]
  rw [e1]
  refine ⟨c1, c1, O_mono (take_ok k0 c _ hb (by omega) (by omega) (by omega)) ?_⟩
  rintro ⟨_, c1⟩ ⟨r, rfl, h1, h2, hb1⟩
  obtain ⟨row, rfl⟩ := Int.eq_ofNat_of_zero_le h1
  dsimp only at hb1
  simp only [T_ret, T_eName, TN_val, TN_own, T_oName, TR_some, T_oVal, T_eC, T_eFrz, celD_lst, slotD_val, slotD_own, slotD_bor, rs_d, rs_s, rss_nil, rss_cons, T_op2, T_op2L, T_op1, T_opN, T_opNL, T_eBin, T_lBin, T_eUn, T_eFn, T_lFn, T_oNil, T_oCons, T_aNil, T_aCons, T_eTup, T_lLst, TB_bool, T_tOf, T_mTru, br_true, br_false, T_mAnd, T_mOr, T_mNot, T_eAnd, T_eOr, T_eNot, T_eIf, T_lIf, T_eChain, T_eIsi, T_mCall, T_mCallK, CB_own, CB_bor, T_mCallB, T_mCallT, TSV_val, TSV_own, T_eSV, TSL_own, T_lSV, sq_nx, sq_rt, sq_bk, sq_ct, T_sSeq, T_sSkip, T_sExpr, T_sRetV, T_sRetL, T_sRetS, T_sRetN, TRN_val, TRN_own, T_sRetName, T_sIf, T_sSetV, T_sSetL, TSet_val, TSet_own, T_sSetS, L2T_two, L3T_three, T_sPar, T_sPar3, T_sParL, T_sAug, T_sAsg, gN_eq, gT_eq, gsNil_eq, gsCons_eq, IX_own, IX_bor, O_gIx, T_mNoPart, TI_int, T_mPart, TLs_list, TTs_tuple, T_lCut, T_eCut, LO_nil, LO_cons, T_lOr, TAny_list, TAny_tuple, T_iAny, T_iEnumD, TZ_list, TZ_tuple, T_iZipD, TRg1_int, T_iRange1, TRg2_int, T_iRange2, TRg3_int, T_iRange3, lpK_nx, lpK_ct, lpK_bk, lpK_rt, fcK_nx, fcK_ct, fcK_bk, fcK_rt, wlK_nx, wlK_ct, wlK_bk, wlK_rt, wipe_nil, wipe_cons, back_nil, back_cons, noC_nil, noC_cons, noC1_none, noC1_val, T_comp_nil, T_lComp, MX_own, MX_bor, isCellLst_own, isCellLst_bor, T_eMut, T_eMeth, RP_lst, T_lRep, gL_eq, T_sParLL, T_sParVL, RG_int, T_lRange1, T_inK, T_eInK, T_eNinK, dictD_own, keyD_int, T_lDict, TO_nx, TO_val, TO_own, T0_bor, O_mkP, O_mkB, O_some, O_none, O_ite, O_bind, O_map, fAdd_i, fAddI_i, fSub_i, fMul_i, fDiv_i, fMod_i, fShl_i, fAnd_i, fXor_i, fShr_i, fLt_i, fLe_i, fGt_i, fGe_i, fEq_i, fNe_i, fNeg_i, ixN_3_0, ixN_3_1, ixN_3_2, ixN_2_0, ixN_2_1, ixN_1_0, truD_i, truD_b, intD_i, intD_b, absD_i, lenD_l, lenD_t, tupleD_l, tupleD_t, listD_l, listD_t, List.map_cons, List.map_nil, List.length_cons, List.length_nil, List.cons_append, List.nil_append, List.replicate_succ, List.replicate_zero, List.set_cons_zero, List.set_cons_succ, List.getElem?_cons_zero, List.getElem?_cons_succ, Option.getD_some, Option.bind_some, Option.map_some, true_and, and_true, Bool.false_eq_true, Nat.reduceAdd, Nat.reduceSub, Nat.reduceLeDiff, Nat.le_refl, Bool.and_true, Bool.and_self, Bool.not_true, Bool.not_false, if_true, if_false, reduceIte, Nat.zero_add, Nat.sub_self]
  refine ⟨⟨by omega, by omega⟩, by rw [range_len]; omega, ?_⟩
  have pp : ∀ a b : Nat, pc m (a &&& b) % 2 = 0 ∨ pc m (a &&& b) % 2 = 1 := fun a b => Nat.mod_two_eq_zero_or_one _
  rw [tb_range]
  refine T_compMap (fun d => match d with | .int k => .int (pc m (k.toNat &&& row) % 2 : Nat) | d => d) ?_ ?_
  · intro d hd
    obtain ⟨k, hk, rfl⟩ := tb_mem hd
    simp only [T_ret, T_eName, TN_val, TN_own, T_oName, TR_some, T_oVal, T_eC, T_eFrz, celD_lst, slotD_val, slotD_own, slotD_bor, rs_d, rs_s, rss_nil, rss_cons, T_op2, T_op2L, T_op1, T_opN, T_opNL, T_eBin, T_lBin, T_eUn, T_eFn, T_lFn, T_oNil, T_oCons, T_aNil, T_aCons, T_eTup, T_lLst, TB_bool, T_tOf, T_mTru, br_true, br_false, T_mAnd, T_mOr, T_mNot, T_eAnd, T_eOr, T_eNot, T_eIf, T_lIf, T_eChain, T_eIsi, T_mCall, T_mCallK, CB_own, CB_bor, T_mCallB, T_mCallT, TSV_val, TSV_own, T_eSV, TSL_own, T_lSV, sq_nx, sq_rt, sq_bk, sq_ct, T_sSeq, T_sSkip, T_sExpr, T_sRetV, T_sRetL, T_sRetS, T_sRetN, TRN_val, TRN_own, T_sRetName, T_sIf, T_sSetV, T_sSetL, TSet_val, TSet_own, T_sSetS, L2T_two, L3T_three, T_sPar, T_sPar3, T_sParL, T_sAug, T_sAsg, gN_eq, gT_eq, gsNil_eq, gsCons_eq, IX_own, IX_bor, O_gIx, T_mNoPart, TI_int, T_mPart, TLs_list, TTs_tuple, T_lCut, T_eCut, LO_nil, LO_cons, T_lOr, TAny_list, TAny_tuple, T_iAny, T_iEnumD, TZ_list, TZ_tuple, T_iZipD, TRg1_int, T_iRange1, TRg2_int, T_iRange2, TRg3_int, T_iRange3, lpK_nx, lpK_ct, lpK_bk, lpK_rt, fcK_nx, fcK_ct, fcK_bk, fcK_rt, wlK_nx, wlK_ct, wlK_bk, wlK_rt, wipe_nil, wipe_cons, back_nil, back_cons, noC_nil, noC_cons, noC1_none, noC1_val, T_comp_nil, T_lComp, MX_own, MX_bor, isCellLst_own, isCellLst_bor, T_eMut, T_eMeth, RP_lst, T_lRep, gL_eq, T_sParLL, T_sParVL, RG_int, T_lRange1, T_inK, T_eInK, T_eNinK, dictD_own, keyD_int, T_lDict, TO_nx, TO_val, TO_own, T0_bor, O_mkP, O_mkB, O_some, O_none, O_ite, O_bind, O_map, fAdd_i, fAddI_i, fSub_i, fMul_i, fDiv_i, fMod_i, fShl_i, fAnd_i, fXor_i, fShr_i, fLt_i, fLe_i, fGt_i, fGe_i, fEq_i, fNe_i, fNeg_i, ixN_3_0, ixN_3_1, ixN_3_2, ixN_2_0, ixN_2_1, ixN_1_0, truD_i, truD_b, intD_i, intD_b, absD_i, lenD_l, lenD_t, tupleD_l, tupleD_t, listD_l, listD_t, List.map_cons, List.map_nil, List.length_cons, List.length_nil, List.cons_append, List.nil_append, List.replicate_succ, List.replicate_zero, List.set_cons_zero, List.set_cons_succ, List.getElem?_cons_zero, List.getElem?_cons_succ, Option.getD_some, Option.bind_some, Option.map_some, true_and, and_true, Bool.false_eq_true, Nat.reduceAdd, Nat.reduceSub, Nat.reduceLeDiff, Nat.le_refl, Bool.and_true, Bool.and_self, Bool.not_true, Bool.not_false, if_true, if_false, reduceIte, Nat.zero_add, Nat.sub_self, odd_and (b := row) (by omega) hk]
    rfl
  rw [tb_map (g := fun k => (pc m (k &&& row) % 2 : Nat)) fun k _ => rfl]
  simp only [T_ret, T_eName, TN_val, TN_own, T_oName, TR_some, T_oVal, T_eC, T_eFrz, celD_lst, slotD_val, slotD_own, slotD_bor, rs_d, rs_s, rss_nil, rss_cons, T_op2, T_op2L, T_op1, T_opN, T_opNL, T_eBin, T_lBin, T_eUn, T_eFn, T_lFn, T_oNil, T_oCons, T_aNil, T_aCons, T_eTup, T_lLst, TB_bool, T_tOf, T_mTru, br_true, br_false, T_mAnd, T_mOr, T_mNot, T_eAnd, T_eOr, T_eNot, T_eIf, T_lIf, T_eChain, T_eIsi, T_mCall, T_mCallK, CB_own, CB_bor, T_mCallB, T_mCallT, TSV_val, TSV_own, T_eSV, TSL_own, T_lSV, sq_nx, sq_rt, sq_bk, sq_ct, T_sSeq, T_sSkip, T_sExpr, T_sRetV, T_sRetL, T_sRetS, T_sRetN, TRN_val, TRN_own, T_sRetName, T_sIf, T_sSetV, T_sSetL, TSet_val, TSet_own, T_sSetS, L2T_two, L3T_three, T_sPar, T_sPar3, T_sParL, T_sAug, T_sAsg, gN_eq, gT_eq, gsNil_eq, gsCons_eq, IX_own, IX_bor, O_gIx, T_mNoPart, TI_int, T_mPart, TLs_list, TTs_tuple, T_lCut, T_eCut, LO_nil, LO_cons, T_lOr, TAny_list, TAny_tuple, T_iAny, T_iEnumD, TZ_list, TZ_tuple, T_iZipD, TRg1_int, T_iRange1, TRg2_int, T_iRange2, TRg3_int, T_iRange3, lpK_nx, lpK_ct, lpK_bk, lpK_rt, fcK_nx, fcK_ct, fcK_bk, fcK_rt, wlK_nx, wlK_ct, wlK_bk, wlK_rt, wipe_nil, wipe_cons, back_nil, back_cons, noC_nil, noC_cons, noC1_none, noC1_val, T_comp_nil, T_lComp, MX_own, MX_bor, isCellLst_own, isCellLst_bor, T_eMut, T_eMeth, RP_lst, T_lRep, gL_eq, T_sParLL, T_sParVL, RG_int, T_lRange1, T_inK, T_eInK, T_eNinK, dictD_own, keyD_int, T_lDict, TO_nx, TO_val, TO_own, T0_bor, O_mkP, O_mkB, O_some, O_none, O_ite, O_bind, O_map, fAdd_i, fAddI_i, fSub_i, fMul_i, fDiv_i, fMod_i, fShl_i, fAnd_i, fXor_i, fShr_i, fLt_i, fLe_i, fGt_i, fGe_i, fEq_i, fNe_i, fNeg_i, ixN_3_0, ixN_3_1, ixN_3_2, ixN_2_0, ixN_2_1, ixN_1_0, truD_i, truD_b, intD_i, intD_b, absD_i, lenD_l, lenD_t, tupleD_l, tupleD_t, listD_l, listD_t, List.map_cons, List.map_nil, List.length_cons, List.length_nil, List.cons_append, List.nil_append, List.replicate_succ, List.replicate_zero, List.set_cons_zero, List.set_cons_succ, List.getElem?_cons_zero, List.getElem?_cons_succ, Option.getD_some, Option.bind_some, Option.map_some, true_and, and_true, Bool.false_eq_true, Nat.reduceAdd, Nat.reduceSub, Nat.reduceLeDiff, Nat.le_refl, Bool.and_true, Bool.and_self, Bool.not_true, Bool.not_false, if_true, if_false, reduceIte, Nat.zero_add, Nat.sub_self]
  refine O_mono (take_ok _ c1 3 hb1 (by omega) (by omega) (by omega)) ?_
  rintro ⟨_, c2⟩ ⟨z, rfl, h3, h4, hb2⟩
  dsimp only at hb2
  simp only [T_ret, T_eName, TN_val, TN_own, T_oName, TR_some, T_oVal, T_eC, T_eFrz, celD_lst, slotD_val, slotD_own, slotD_bor, rs_d, rs_s, rss_nil, rss_cons, T_op2, T_op2L, T_op1, T_opN, T_opNL, T_eBin, T_lBin, T_eUn, T_eFn, T_lFn, T_oNil, T_oCons, T_aNil, T_aCons, T_eTup, T_lLst, TB_bool, T_tOf, T_mTru, br_true, br_false, T_mAnd, T_mOr, T_mNot, T_eAnd, T_eOr, T_eNot, T_eIf, T_lIf, T_eChain, T_eIsi, T_mCall, T_mCallK, CB_own, CB_bor, T_mCallB, T_mCallT, TSV_val, TSV_own, T_eSV, TSL_own, T_lSV, sq_nx, sq_rt, sq_bk, sq_ct, T_sSeq, T_sSkip, T_sExpr, T_sRetV, T_sRetL, T_sRetS, T_sRetN, TRN_val, TRN_own, T_sRetName, T_sIf, T_sSetV, T_sSetL, TSet_val, TSet_own, T_sSetS, L2T_two, L3T_three, T_sPar, T_sPar3, T_sParL, T_sAug, T_sAsg, gN_eq, gT_eq, gsNil_eq, gsCons_eq, IX_own, IX_bor, O_gIx, T_mNoPart, TI_int, T_mPart, TLs_list, TTs_tuple, T_lCut, T_eCut, LO_nil, LO_cons, T_lOr, TAny_list, TAny_tuple, T_iAny, T_iEnumD, TZ_list, TZ_tuple, T_iZipD, TRg1_int, T_iRange1, TRg2_int, T_iRange2, TRg3_int, T_iRange3, lpK_nx, lpK_ct, lpK_bk, lpK_rt, fcK_nx, fcK_ct, fcK_bk, fcK_rt, wlK_nx, wlK_ct, wlK_bk, wlK_rt, wipe_nil, wipe_cons, back_nil, back_cons, noC_nil, noC_cons, noC1_none, noC1_val, T_comp_nil, T_lComp, MX_own, MX_bor, isCellLst_own, isCellLst_bor, T_eMut, T_eMeth, RP_lst, T_lRep, gL_eq, T_sParLL, T_sParVL, RG_int, T_lRange1, T_inK, T_eInK, T_eNinK, dictD_own, keyD_int, T_lDict, TO_nx, TO_val, TO_own, T0_bor, O_mkP, O_mkB, O_some, O_none, O_ite, O_bind, O_map, fAdd_i, fAddI_i, fSub_i, fMul_i, fDiv_i, fMod_i, fShl_i, fAnd_i, fXor_i, fShr_i, fLt_i, fLe_i, fGt_i, fGe_i, fEq_i, fNe_i, fNeg_i, ixN_3_0, ixN_3_1, ixN_3_2, ixN_2_0, ixN_2_1, ixN_1_0, truD_i, truD_b, intD_i, intD_b, absD_i, lenD_l, lenD_t, tupleD_l, tupleD_t, listD_l, listD_t, List.map_cons, List.map_nil, List.length_cons, List.length_nil, List.cons_append, List.nil_append, List.replicate_succ, List.replicate_zero, List.set_cons_zero, List.set_cons_succ, List.getElem?_cons_zero, List.getElem?_cons_succ, Option.getD_some, Option.bind_some, Option.map_some, true_and, and_true, Bool.false_eq_true, Nat.reduceAdd, Nat.reduceSub, Nat.reduceLeDiff, Nat.le_refl, Bool.and_true, Bool.and_self, Bool.not_true, Bool.not_false, if_true, if_false, reduceIte, Nat.zero_add, Nat.sub_self, T_sFor]
  refine ⟨fun _ => ⟨⟨by omega, by omega⟩, by rw [range_len]; omega, ?_⟩, fun _ => ?_⟩
  · refine T_compL (fun i out S => ∃ c t, S = [some (.bor c), some (.val (.int m)), some (.val (.int ((2 ^ m : Nat) : Int))), some (.val (.int row)), none, some (.own (.lst (tb (2 ^ m) fun k => (pc m (k &&& row) % 2 : Nat)))), none, none] ∧ Box (k0 + 1 + 1 + i) c ∧ out = tb i t ∧ ∀ j, j < i → t j = 0 ∨ t j = 1) ⟨c2, fun _ => 0, rfl, hb2, rfl, fun j h => by omega⟩ ?_ ?_
    · rintro i d hd out S ⟨c, t, rfl, hb3, rfl, ht⟩
      obtain ⟨hi, rfl⟩ := range0_get hd
      simp only [T_ret, T_eName, TN_val, TN_own, T_oName, TR_some, T_oVal, T_eC, T_eFrz, celD_lst, slotD_val, slotD_own, slotD_bor, rs_d, rs_s, rss_nil, rss_cons, T_op2, T_op2L, T_op1, T_opN, T_opNL, T_eBin, T_lBin, T_eUn, T_eFn, T_lFn, T_oNil, T_oCons, T_aNil, T_aCons, T_eTup, T_lLst, TB_bool, T_tOf, T_mTru, br_true, br_false, T_mAnd, T_mOr, T_mNot, T_eAnd, T_eOr, T_eNot, T_eIf, T_lIf, T_eChain, T_eIsi, T_mCall, T_mCallK, CB_own, CB_bor, T_mCallB, T_mCallT, TSV_val, TSV_own, T_eSV, TSL_own, T_lSV, sq_nx, sq_rt, sq_bk, sq_ct, T_sSeq, T_sSkip, T_sExpr, T_sRetV, T_sRetL, T_sRetS, T_sRetN, TRN_val, TRN_own, T_sRetName, T_sIf, T_sSetV, T_sSetL, TSet_val, TSet_own, T_sSetS, L2T_two, L3T_three, T_sPar, T_sPar3, T_sParL, T_sAug, T_sAsg, gN_eq, gT_eq, gsNil_eq, gsCons_eq, IX_own, IX_bor, O_gIx, T_mNoPart, TI_int, T_mPart, TLs_list, TTs_tuple, T_lCut, T_eCut, LO_nil, LO_cons, T_lOr, TAny_list, TAny_tuple, T_iAny, T_iEnumD, TZ_list, TZ_tuple, T_iZipD, TRg1_int, T_iRange1, TRg2_int, T_iRange2, TRg3_int, T_iRange3, lpK_nx, lpK_ct, lpK_bk, lpK_rt, fcK_nx, fcK_ct, fcK_bk, fcK_rt, wlK_nx, wlK_ct, wlK_bk, wlK_rt, wipe_nil, wipe_cons, back_nil, back_cons, noC_nil, noC_cons, noC1_none, noC1_val, T_comp_nil, T_lComp, MX_own, MX_bor, isCellLst_own, isCellLst_bor, T_eMut, T_eMeth, RP_lst, T_lRep, gL_eq, T_sParLL, T_sParVL, RG_int, T_lRange1, T_inK, T_eInK, T_eNinK, dictD_own, keyD_int, T_lDict, TO_nx, TO_val, TO_own, T0_bor, O_mkP, O_mkB, O_some, O_none, O_ite, O_bind, O_map, fAdd_i, fAddI_i, fSub_i, fMul_i, fDiv_i, fMod_i, fShl_i, fAnd_i, fXor_i, fShr_i, fLt_i, fLe_i, fGt_i, fGe_i, fEq_i, fNe_i, fNeg_i, ixN_3_0, ixN_3_1, ixN_3_2, ixN_2_0, ixN_2_1, ixN_1_0, truD_i, truD_b, intD_i, intD_b, absD_i, lenD_l, lenD_t, tupleD_l, tupleD_t, listD_l, listD_t, List.map_cons, List.map_nil, List.length_cons, List.length_nil, List.cons_append, List.nil_append, List.replicate_succ, List.replicate_zero, List.set_cons_zero, List.set_cons_succ, List.getElem?_cons_zero, List.getElem?_cons_succ, Option.getD_some, Option.bind_some, Option.map_some, true_and, and_true, Bool.false_eq_true, Nat.reduceAdd, Nat.reduceSub, Nat.reduceLeDiff, Nat.le_refl, Bool.and_true, Bool.and_self, Bool.not_true, Bool.not_false, if_true, if_false, reduceIte, Nat.zero_add, Nat.sub_self]
      refine O_mono (take_ok _ c 2 hb3 (by omega) (by omega) (by omega)) ?_
      rintro ⟨_, c3⟩ ⟨z, rfl, h3, h4, hb4⟩
      dsimp only at hb4
      simp only [T_ret, T_eName, TN_val, TN_own, T_oName, TR_some, T_oVal, T_eC, T_eFrz, celD_lst, slotD_val, slotD_own, slotD_bor, rs_d, rs_s, rss_nil, rss_cons, T_op2, T_op2L, T_op1, T_opN, T_opNL, T_eBin, T_lBin, T_eUn, T_eFn, T_lFn, T_oNil, T_oCons, T_aNil, T_aCons, T_eTup, T_lLst, TB_bool, T_tOf, T_mTru, br_true, br_false, T_mAnd, T_mOr, T_mNot, T_eAnd, T_eOr, T_eNot, T_eIf, T_lIf, T_eChain, T_eIsi, T_mCall, T_mCallK, CB_own, CB_bor, T_mCallB, T_mCallT, TSV_val, TSV_own, T_eSV, TSL_own, T_lSV, sq_nx, sq_rt, sq_bk, sq_ct, T_sSeq, T_sSkip, T_sExpr, T_sRetV, T_sRetL, T_sRetS, T_sRetN, TRN_val, TRN_own, T_sRetName, T_sIf, T_sSetV, T_sSetL, TSet_val, TSet_own, T_sSetS, L2T_two, L3T_three, T_sPar, T_sPar3, T_sParL, T_sAug, T_sAsg, gN_eq, gT_eq, gsNil_eq, gsCons_eq, IX_own, IX_bor, O_gIx, T_mNoPart, TI_int, T_mPart, TLs_list, TTs_tuple, T_lCut, T_eCut, LO_nil, LO_cons, T_lOr, TAny_list, TAny_tuple, T_iAny, T_iEnumD, TZ_list, TZ_tuple, T_iZipD, TRg1_int, T_iRange1, TRg2_int, T_iRange2, TRg3_int, T_iRange3, lpK_nx, lpK_ct, lpK_bk, lpK_rt, fcK_nx, fcK_ct, fcK_bk, fcK_rt, wlK_nx, wlK_ct, wlK_bk, wlK_rt, wipe_nil, wipe_cons, back_nil, back_cons, noC_nil, noC_cons, noC1_none, noC1_val, T_comp_nil, T_lComp, MX_own, MX_bor, isCellLst_own, isCellLst_bor, T_eMut, T_eMeth, RP_lst, T_lRep, gL_eq, T_sParLL, T_sParVL, RG_int, T_lRange1, T_inK, T_eInK, T_eNinK, dictD_own, keyD_int, T_lDict, TO_nx, TO_val, TO_own, T0_bor, O_mkP, O_mkB, O_some, O_none, O_ite, O_bind, O_map, fAdd_i, fAddI_i, fSub_i, fMul_i, fDiv_i, fMod_i, fShl_i, fAnd_i, fXor_i, fShr_i, fLt_i, fLe_i, fGt_i, fGe_i, fEq_i, fNe_i, fNeg_i, ixN_3_0, ixN_3_1, ixN_3_2, ixN_2_0, ixN_2_1, ixN_1_0, truD_i, truD_b, intD_i, intD_b, absD_i, lenD_l, lenD_t, tupleD_l, tupleD_t, listD_l, listD_t, List.map_cons, List.map_nil, List.length_cons, List.length_nil, List.cons_append, List.nil_append, List.replicate_succ, List.replicate_zero, List.set_cons_zero, List.set_cons_succ, List.getElem?_cons_zero, List.getElem?_cons_succ, Option.getD_some, Option.bind_some, Option.map_some, true_and, and_true, Bool.false_eq_true, Nat.reduceAdd, Nat.reduceSub, Nat.reduceLeDiff, Nat.le_refl, Bool.and_true, Bool.and_self, Bool.not_true, Bool.not_false, if_true, if_false, reduceIte, Nat.zero_add, Nat.sub_self]
      refine ⟨c3, _, rfl, hb4, tb_append, fun j hj => ?_⟩
      by_cases e : j = i
      · rw [if_pos e]; omega
      · rw [if_neg e]; exact ht j (by omega)
    · rintro out S ⟨c, t, rfl, hb3, rfl, ht⟩
      rw [range_len] at hb3 ht ⊢
      have : (((2 ^ m : Nat) : Int) - 0).toNat = 2 ^ m := by omega
      rw [this] at hb3 ht ⊢
      simp only [T_ret, T_eName, TN_val, TN_own, T_oName, TR_some, T_oVal, T_eC, T_eFrz, celD_lst, slotD_val, slotD_own, slotD_bor, rs_d, rs_s, rss_nil, rss_cons, T_op2, T_op2L, T_op1, T_opN, T_opNL, T_eBin, T_lBin, T_eUn, T_eFn, T_lFn, T_oNil, T_oCons, T_aNil, T_aCons, T_eTup, T_lLst, TB_bool, T_tOf, T_mTru, br_true, br_false, T_mAnd, T_mOr, T_mNot, T_eAnd, T_eOr, T_eNot, T_eIf, T_lIf, T_eChain, T_eIsi, T_mCall, T_mCallK, CB_own, CB_bor, T_mCallB, T_mCallT, TSV_val, TSV_own, T_eSV, TSL_own, T_lSV, sq_nx, sq_rt, sq_bk, sq_ct, T_sSeq, T_sSkip, T_sExpr, T_sRetV, T_sRetL, T_sRetS, T_sRetN, TRN_val, TRN_own, T_sRetName, T_sIf, T_sSetV, T_sSetL, TSet_val, TSet_own, T_sSetS, L2T_two, L3T_three, T_sPar, T_sPar3, T_sParL, T_sAug, T_sAsg, gN_eq, gT_eq, gsNil_eq, gsCons_eq, IX_own, IX_bor, O_gIx, T_mNoPart, TI_int, T_mPart, TLs_list, TTs_tuple, T_lCut, T_eCut, LO_nil, LO_cons, T_lOr, TAny_list, TAny_tuple, T_iAny, T_iEnumD, TZ_list, TZ_tuple, T_iZipD, TRg1_int, T_iRange1, TRg2_int, T_iRange2, TRg3_int, T_iRange3, lpK_nx, lpK_ct, lpK_bk, lpK_rt, fcK_nx, fcK_ct, fcK_bk, fcK_rt, wlK_nx, wlK_ct, wlK_bk, wlK_rt, wipe_nil, wipe_cons, back_nil, back_cons, noC_nil, noC_cons, noC1_none, noC1_val, T_comp_nil, T_lComp, MX_own, MX_bor, isCellLst_own, isCellLst_bor, T_eMut, T_eMeth, RP_lst, T_lRep, gL_eq, T_sParLL, T_sParVL, RG_int, T_lRange1, T_inK, T_eInK, T_eNinK, dictD_own, keyD_int, T_lDict, TO_nx, TO_val, TO_own, T0_bor, O_mkP, O_mkB, O_some, O_none, O_ite, O_bind, O_map, fAdd_i, fAddI_i, fSub_i, fMul_i, fDiv_i, fMod_i, fShl_i, fAnd_i, fXor_i, fShr_i, fLt_i, fLe_i, fGt_i, fGe_i, fEq_i, fNe_i, fNeg_i, ixN_3_0, ixN_3_1, ixN_3_2, ixN_2_0, ixN_2_1, ixN_1_0, truD_i, truD_b, intD_i, intD_b, absD_i, lenD_l, lenD_t, tupleD_l, tupleD_t, listD_l, listD_t, List.map_cons, List.map_nil, List.length_cons, List.length_nil, List.cons_append, List.nil_append, List.replicate_succ, List.replicate_zero, List.set_cons_zero, List.set_cons_succ, List.getElem?_cons_zero, List.getElem?_cons_succ, Option.getD_some, Option.bind_some, Option.map_some, true_and, and_true, Bool.false_eq_true, Nat.reduceAdd, Nat.reduceSub, Nat.reduceLeDiff, Nat.le_refl, Bool.and_true, Bool.and_self, Bool.not_true, Bool.not_false, if_true, if_false, reduceIte, Nat.zero_add, Nat.sub_self]
      exact ⟨t, rfl, ht, hb3.mono (by omega)⟩
  · refine O_mono (take_ok _ c2 4 hb2 (by omega) (by omega) (by omega)) ?_
    rintro ⟨_, c3⟩ ⟨z, rfl, h5, h6, hb3⟩
    obtain ⟨lz, rfl⟩ := Int.eq_ofNat_of_zero_le h5
    dsimp only at hb3
    simp only [T_ret, T_eName, TN_val, TN_own, T_oName, TR_some, T_oVal, T_eC, T_eFrz, celD_lst, slotD_val, slotD_own, slotD_bor, rs_d, rs_s, rss_nil, rss_cons, T_op2, T_op2L, T_op1, T_opN, T_opNL, T_eBin, T_lBin, T_eUn, T_eFn, T_lFn, T_oNil, T_oCons, T_aNil, T_aCons, T_eTup, T_lLst, TB_bool, T_tOf, T_mTru, br_true, br_false, T_mAnd, T_mOr, T_mNot, T_eAnd, T_eOr, T_eNot, T_eIf, T_lIf, T_eChain, T_eIsi, T_mCall, T_mCallK, CB_own, CB_bor, T_mCallB, T_mCallT, TSV_val, TSV_own, T_eSV, TSL_own, T_lSV, sq_nx, sq_rt, sq_bk, sq_ct, T_sSeq, T_sSkip, T_sExpr, T_sRetV, T_sRetL, T_sRetS, T_sRetN, TRN_val, TRN_own, T_sRetName, T_sIf, T_sSetV, T_sSetL, TSet_val, TSet_own, T_sSetS, L2T_two, L3T_three, T_sPar, T_sPar3, T_sParL, T_sAug, T_sAsg, gN_eq, gT_eq, gsNil_eq, gsCons_eq, IX_own, IX_bor, O_gIx, T_mNoPart, TI_int, T_mPart, TLs_list, TTs_tuple, T_lCut, T_eCut, LO_nil, LO_cons, T_lOr, TAny_list, TAny_tuple, T_iAny, T_iEnumD, TZ_list, TZ_tuple, T_iZipD, TRg1_int, T_iRange1, TRg2_int, T_iRange2, TRg3_int, T_iRange3, lpK_nx, lpK_ct, lpK_bk, lpK_rt, fcK_nx, fcK_ct, fcK_bk, fcK_rt, wlK_nx, wlK_ct, wlK_bk, wlK_rt, wipe_nil, wipe_cons, back_nil, back_cons, noC_nil, noC_cons, noC1_none, noC1_val, T_comp_nil, T_lComp, MX_own, MX_bor, isCellLst_own, isCellLst_bor, T_eMut, T_eMeth, RP_lst, T_lRep, gL_eq, T_sParLL, T_sParVL, RG_int, T_lRange1, T_inK, T_eInK, T_eNinK, dictD_own, keyD_int, T_lDict, TO_nx, TO_val, TO_own, T0_bor, O_mkP, O_mkB, O_some, O_none, O_ite, O_bind, O_map, fAdd_i, fAddI_i, fSub_i, fMul_i, fDiv_i, fMod_i, fShl_i, fAnd_i, fXor_i, fShr_i, fLt_i, fLe_i, fGt_i, fGe_i, fEq_i, fNe_i, fNeg_i, ixN_3_0, ixN_3_1, ixN_3_2, ixN_2_0, ixN_2_1, ixN_1_0, truD_i, truD_b, intD_i, intD_b, absD_i, lenD_l, lenD_t, tupleD_l, tupleD_t, listD_l, listD_t, List.map_cons, List.map_nil, List.length_cons, List.length_nil, List.cons_append, List.nil_append, List.replicate_succ, List.replicate_zero, List.set_cons_zero, List.set_cons_succ, List.getElem?_cons_zero, List.getElem?_cons_succ, Option.getD_some, Option.bind_some, Option.map_some, true_and, and_true, Bool.false_eq_true, Nat.reduceAdd, Nat.reduceSub, Nat.reduceLeDiff, Nat.le_refl, Bool.and_true, Bool.and_self, Bool.not_true, Bool.not_false, if_true, if_false, reduceIte, Nat.zero_add, Nat.sub_self]
    refine ⟨⟨by omega, by omega⟩, T_forN (fun i S => ∃ c t x y, S = [some (.bor c), some (.val (.int m)), some (.val (.int ((2 ^ m : Nat) : Int))), some (.val (.int row)), x, some (.own (.lst (tb (2 ^ m) t))), y, none] ∧ Box (k0 + 1 + 1 + 1 + i) c ∧ Bits m t) ⟨c3, _, none, none, rfl, hb3, fun j _ => by have := pp j row; dsimp only; omega⟩ ?_ ?_⟩
    · rintro i hi S ⟨c, t, x, y, rfl, hb4, ht⟩
      simp only [T_ret, T_eName, TN_val, TN_own, T_oName, TR_some, T_oVal, T_eC, T_eFrz, celD_lst, slotD_val, slotD_own, slotD_bor, rs_d, rs_s, rss_nil, rss_cons, T_op2, T_op2L, T_op1, T_opN, T_opNL, T_eBin, T_lBin, T_eUn, T_eFn, T_lFn, T_oNil, T_oCons, T_aNil, T_aCons, T_eTup, T_lLst, TB_bool, T_tOf, T_mTru, br_true, br_false, T_mAnd, T_mOr, T_mNot, T_eAnd, T_eOr, T_eNot, T_eIf, T_lIf, T_eChain, T_eIsi, T_mCall, T_mCallK, CB_own, CB_bor, T_mCallB, T_mCallT, TSV_val, TSV_own, T_eSV, TSL_own, T_lSV, sq_nx, sq_rt, sq_bk, sq_ct, T_sSeq, T_sSkip, T_sExpr, T_sRetV, T_sRetL, T_sRetS, T_sRetN, TRN_val, TRN_own, T_sRetName, T_sIf, T_sSetV, T_sSetL, TSet_val, TSet_own, T_sSetS, L2T_two, L3T_three, T_sPar, T_sPar3, T_sParL, T_sAug, T_sAsg, gN_eq, gT_eq, gsNil_eq, gsCons_eq, IX_own, IX_bor, O_gIx, T_mNoPart, TI_int, T_mPart, TLs_list, TTs_tuple, T_lCut, T_eCut, LO_nil, LO_cons, T_lOr, TAny_list, TAny_tuple, T_iAny, T_iEnumD, TZ_list, TZ_tuple, T_iZipD, TRg1_int, T_iRange1, TRg2_int, T_iRange2, TRg3_int, T_iRange3, lpK_nx, lpK_ct, lpK_bk, lpK_rt, fcK_nx, fcK_ct, fcK_bk, fcK_rt, wlK_nx, wlK_ct, wlK_bk, wlK_rt, wipe_nil, wipe_cons, back_nil, back_cons, noC_nil, noC_cons, noC1_none, noC1_val, T_comp_nil, T_lComp, MX_own, MX_bor, isCellLst_own, isCellLst_bor, T_eMut, T_eMeth, RP_lst, T_lRep, gL_eq, T_sParLL, T_sParVL, RG_int, T_lRange1, T_inK, T_eInK, T_eNinK, dictD_own, keyD_int, T_lDict, TO_nx, TO_val, TO_own, T0_bor, O_mkP, O_mkB, O_some, O_none, O_ite, O_bind, O_map, fAdd_i, fAddI_i, fSub_i, fMul_i, fDiv_i, fMod_i, fShl_i, fAnd_i, fXor_i, fShr_i, fLt_i, fLe_i, fGt_i, fGe_i, fEq_i, fNe_i, fNeg_i, ixN_3_0, ixN_3_1, ixN_3_2, ixN_2_0, ixN_2_1, ixN_1_0, truD_i, truD_b, intD_i, intD_b, absD_i, lenD_l, lenD_t, tupleD_l, tupleD_t, listD_l, listD_t, List.map_cons, List.map_nil, List.length_cons, List.length_nil, List.cons_append, List.nil_append, List.replicate_succ, List.replicate_zero, List.set_cons_zero, List.set_cons_succ, List.getElem?_cons_zero, List.getElem?_cons_succ, Option.getD_some, Option.bind_some, Option.map_some, true_and, and_true, Bool.false_eq_true, Nat.reduceAdd, Nat.reduceSub, Nat.reduceLeDiff, Nat.le_refl, Bool.and_true, Bool.and_self, Bool.not_true, Bool.not_false, if_true, if_false, reduceIte, Nat.zero_add, Nat.sub_self]
      refine O_mono (take_ok _ c _ hb4 (by omega) (by omega) (by omega)) ?_
      rintro ⟨_, c4⟩ ⟨w, rfl, h7, h8, hb5⟩
      obtain ⟨wz, rfl⟩ := Int.eq_ofNat_of_zero_le h7
      dsimp only at hb5
      simp only [T_ret, T_eName, TN_val, TN_own, T_oName, TR_some, T_oVal, T_eC, T_eFrz, celD_lst, slotD_val, slotD_own, slotD_bor, rs_d, rs_s, rss_nil, rss_cons, T_op2, T_op2L, T_op1, T_opN, T_opNL, T_eBin, T_lBin, T_eUn, T_eFn, T_lFn, T_oNil, T_oCons, T_aNil, T_aCons, T_eTup, T_lLst, TB_bool, T_tOf, T_mTru, br_true, br_false, T_mAnd, T_mOr, T_mNot, T_eAnd, T_eOr, T_eNot, T_eIf, T_lIf, T_eChain, T_eIsi, T_mCall, T_mCallK, CB_own, CB_bor, T_mCallB, T_mCallT, TSV_val, TSV_own, T_eSV, TSL_own, T_lSV, sq_nx, sq_rt, sq_bk, sq_ct, T_sSeq, T_sSkip, T_sExpr, T_sRetV, T_sRetL, T_sRetS, T_sRetN, TRN_val, TRN_own, T_sRetName, T_sIf, T_sSetV, T_sSetL, TSet_val, TSet_own, T_sSetS, L2T_two, L3T_three, T_sPar, T_sPar3, T_sParL, T_sAug, T_sAsg, gN_eq, gT_eq, gsNil_eq, gsCons_eq, IX_own, IX_bor, O_gIx, T_mNoPart, TI_int, T_mPart, TLs_list, TTs_tuple, T_lCut, T_eCut, LO_nil, LO_cons, T_lOr, TAny_list, TAny_tuple, T_iAny, T_iEnumD, TZ_list, TZ_tuple, T_iZipD, TRg1_int, T_iRange1, TRg2_int, T_iRange2, TRg3_int, T_iRange3, lpK_nx, lpK_ct, lpK_bk, lpK_rt, fcK_nx, fcK_ct, fcK_bk, fcK_rt, wlK_nx, wlK_ct, wlK_bk, wlK_rt, wipe_nil, wipe_cons, back_nil, back_cons, noC_nil, noC_cons, noC1_none, noC1_val, T_comp_nil, T_lComp, MX_own, MX_bor, isCellLst_own, isCellLst_bor, T_eMut, T_eMeth, RP_lst, T_lRep, gL_eq, T_sParLL, T_sParVL, RG_int, T_lRange1, T_inK, T_eInK, T_eNinK, dictD_own, keyD_int, T_lDict, TO_nx, TO_val, TO_own, T0_bor, O_mkP, O_mkB, O_some, O_none, O_ite, O_bind, O_map, fAdd_i, fAddI_i, fSub_i, fMul_i, fDiv_i, fMod_i, fShl_i, fAnd_i, fXor_i, fShr_i, fLt_i, fLe_i, fGt_i, fGe_i, fEq_i, fNe_i, fNeg_i, ixN_3_0, ixN_3_1, ixN_3_2, ixN_2_0, ixN_2_1, ixN_1_0, truD_i, truD_b, intD_i, intD_b, absD_i, lenD_l, lenD_t, tupleD_l, tupleD_t, listD_l, listD_t, List.map_cons, List.map_nil, List.length_cons, List.length_nil, List.cons_append, List.nil_append, List.replicate_succ, List.replicate_zero, List.set_cons_zero, List.set_cons_succ, List.getElem?_cons_zero, List.getElem?_cons_succ, Option.getD_some, Option.bind_some, Option.map_some, true_and, and_true, Bool.false_eq_true, Nat.reduceAdd, Nat.reduceSub, Nat.reduceLeDiff, Nat.le_refl, Bool.and_true, Bool.and_self, Bool.not_true, Bool.not_false, if_true, if_false, reduceIte, Nat.zero_add, Nat.sub_self, tb_atL (n := 2 ^ m) (k := wz) rfl (by omega), tb_len, ixN_nat (n := 2 ^ m) (k := wz) (by omega), tb_set]
      refine ⟨c4, _, _, _, rfl, hb5, fun j hj => ?_⟩
      dsimp only
      by_cases e : j = wz
      · rw [if_pos e]; have := ht wz (by omega); omega
      · rw [if_neg e]; exact ht j hj
    · rintro S ⟨c, t, x, y, rfl, hb4, ht⟩
      simp only [T_ret, T_eName, TN_val, TN_own, T_oName, TR_some, T_oVal, T_eC, T_eFrz, celD_lst, slotD_val, slotD_own, slotD_bor, rs_d, rs_s, rss_nil, rss_cons, T_op2, T_op2L, T_op1, T_opN, T_opNL, T_eBin, T_lBin, T_eUn, T_eFn, T_lFn, T_oNil, T_oCons, T_aNil, T_aCons, T_eTup, T_lLst, TB_bool, T_tOf, T_mTru, br_true, br_false, T_mAnd, T_mOr, T_mNot, T_eAnd, T_eOr, T_eNot, T_eIf, T_lIf, T_eChain, T_eIsi, T_mCall, T_mCallK, CB_own, CB_bor, T_mCallB, T_mCallT, TSV_val, TSV_own, T_eSV, TSL_own, T_lSV, sq_nx, sq_rt, sq_bk, sq_ct, T_sSeq, T_sSkip, T_sExpr, T_sRetV, T_sRetL, T_sRetS, T_sRetN, TRN_val, TRN_own, T_sRetName, T_sIf, T_sSetV, T_sSetL, TSet_val, TSet_own, T_sSetS, L2T_two, L3T_three, T_sPar, T_sPar3, T_sParL, T_sAug, T_sAsg, gN_eq, gT_eq, gsNil_eq, gsCons_eq, IX_own, IX_bor, O_gIx, T_mNoPart, TI_int, T_mPart, TLs_list, TTs_tuple, T_lCut, T_eCut, LO_nil, LO_cons, T_lOr, TAny_list, TAny_tuple, T_iAny, T_iEnumD, TZ_list, TZ_tuple, T_iZipD, TRg1_int, T_iRange1, TRg2_int, T_iRange2, TRg3_int, T_iRange3, lpK_nx, lpK_ct, lpK_bk, lpK_rt, fcK_nx, fcK_ct, fcK_bk, fcK_rt, wlK_nx, wlK_ct, wlK_bk, wlK_rt, wipe_nil, wipe_cons, back_nil, back_cons, noC_nil, noC_cons, noC1_none, noC1_val, T_comp_nil, T_lComp, MX_own, MX_bor, isCellLst_own, isCellLst_bor, T_eMut, T_eMeth, RP_lst, T_lRep, gL_eq, T_sParLL, T_sParVL, RG_int, T_lRange1, T_inK, T_eInK, T_eNinK, dictD_own, keyD_int, T_lDict, TO_nx, TO_val, TO_own, T0_bor, O_mkP, O_mkB, O_some, O_none, O_ite, O_bind, O_map, fAdd_i, fAddI_i, fSub_i, fMul_i, fDiv_i, fMod_i, fShl_i, fAnd_i, fXor_i, fShr_i, fLt_i, fLe_i, fGt_i, fGe_i, fEq_i, fNe_i, fNeg_i, ixN_3_0, ixN_3_1, ixN_3_2, ixN_2_0, ixN_2_1, ixN_1_0, truD_i, truD_b, intD_i, intD_b, absD_i, lenD_l, lenD_t, tupleD_l, tupleD_t, listD_l, listD_t, List.map_cons, List.map_nil, List.length_cons, List.length_nil, List.cons_append, List.nil_append, List.replicate_succ, List.replicate_zero, List.set_cons_zero, List.set_cons_succ, List.getElem?_cons_zero, List.getElem?_cons_succ, Option.getD_some, Option.bind_some, Option.map_some, true_and, and_true, Bool.false_eq_true, Nat.reduceAdd, Nat.reduceSub, Nat.reduceLeDiff, Nat.le_refl, Bool.and_true, Bool.and_self, Bool.not_true, Bool.not_false, if_true, if_false, reduceIte, Nat.zero_add, Nat.sub_self, tb_len]
      refine ⟨by omega, T_compMap id ?_ ?_⟩
      · intro d hd
        obtain ⟨k, hk, rfl⟩ := tb_mem hd
        simp only [T_ret, T_eName, TN_val, TN_own, T_oName, TR_some, T_oVal, T_eC, T_eFrz, celD_lst, slotD_val, slotD_own, slotD_bor, rs_d, rs_s, rss_nil, rss_cons, T_op2, T_op2L, T_op1, T_opN, T_opNL, T_eBin, T_lBin, T_eUn, T_eFn, T_lFn, T_oNil, T_oCons, T_aNil, T_aCons, T_eTup, T_lLst, TB_bool, T_tOf, T_mTru, br_true, br_false, T_mAnd, T_mOr, T_mNot, T_eAnd, T_eOr, T_eNot, T_eIf, T_lIf, T_eChain, T_eIsi, T_mCall, T_mCallK, CB_own, CB_bor, T_mCallB, T_mCallT, TSV_val, TSV_own, T_eSV, TSL_own, T_lSV, sq_nx, sq_rt, sq_bk, sq_ct, T_sSeq, T_sSkip, T_sExpr, T_sRetV, T_sRetL, T_sRetS, T_sRetN, TRN_val, TRN_own, T_sRetName, T_sIf, T_sSetV, T_sSetL, TSet_val, TSet_own, T_sSetS, L2T_two, L3T_three, T_sPar, T_sPar3, T_sParL, T_sAug, T_sAsg, gN_eq, gT_eq, gsNil_eq, gsCons_eq, IX_own, IX_bor, O_gIx, T_mNoPart, TI_int, T_mPart, TLs_list, TTs_tuple, T_lCut, T_eCut, LO_nil, LO_cons, T_lOr, TAny_list, TAny_tuple, T_iAny, T_iEnumD, TZ_list, TZ_tuple, T_iZipD, TRg1_int, T_iRange1, TRg2_int, T_iRange2, TRg3_int, T_iRange3, lpK_nx, lpK_ct, lpK_bk, lpK_rt, fcK_nx, fcK_ct, fcK_bk, fcK_rt, wlK_nx, wlK_ct, wlK_bk, wlK_rt, wipe_nil, wipe_cons, back_nil, back_cons, noC_nil, noC_cons, noC1_none, noC1_val, T_comp_nil, T_lComp, MX_own, MX_bor, isCellLst_own, isCellLst_bor, T_eMut, T_eMeth, RP_lst, T_lRep, gL_eq, T_sParLL, T_sParVL, RG_int, T_lRange1, T_inK, T_eInK, T_eNinK, dictD_own, keyD_int, T_lDict, TO_nx, TO_val, TO_own, T0_bor, O_mkP, O_mkB, O_some, O_none, O_ite, O_bind, O_map, fAdd_i, fAddI_i, fSub_i, fMul_i, fDiv_i, fMod_i, fShl_i, fAnd_i, fXor_i, fShr_i, fLt_i, fLe_i, fGt_i, fGe_i, fEq_i, fNe_i, fNeg_i, ixN_3_0, ixN_3_1, ixN_3_2, ixN_2_0, ixN_2_1, ixN_1_0, truD_i, truD_b, intD_i, intD_b, absD_i, lenD_l, lenD_t, tupleD_l, tupleD_t, listD_l, listD_t, List.map_cons, List.map_nil, List.length_cons, List.length_nil, List.cons_append, List.nil_append, List.replicate_succ, List.replicate_zero, List.set_cons_zero, List.set_cons_succ, List.getElem?_cons_zero, List.getElem?_cons_succ, Option.getD_some, Option.bind_some, Option.map_some, true_and, and_true, Bool.false_eq_true, Nat.reduceAdd, Nat.reduceSub, Nat.reduceLeDiff, Nat.le_refl, Bool.and_true, Bool.and_self, Bool.not_true, Bool.not_false, if_true, if_false, reduceIte, Nat.zero_add, Nat.sub_self]
        rfl
      · simp only [T_ret, T_eName, TN_val, TN_own, T_oName, TR_some, T_oVal, T_eC, T_eFrz, celD_lst, slotD_val, slotD_own, slotD_bor, rs_d, rs_s, rss_nil, rss_cons, T_op2, T_op2L, T_op1, T_opN, T_opNL, T_eBin, T_lBin, T_eUn, T_eFn, T_lFn, T_oNil, T_oCons, T_aNil, T_aCons, T_eTup, T_lLst, TB_bool, T_tOf, T_mTru, br_true, br_false, T_mAnd, T_mOr, T_mNot, T_eAnd, T_eOr, T_eNot, T_eIf, T_lIf, T_eChain, T_eIsi, T_mCall, T_mCallK, CB_own, CB_bor, T_mCallB, T_mCallT, TSV_val, TSV_own, T_eSV, TSL_own, T_lSV, sq_nx, sq_rt, sq_bk, sq_ct, T_sSeq, T_sSkip, T_sExpr, T_sRetV, T_sRetL, T_sRetS, T_sRetN, TRN_val, TRN_own, T_sRetName, T_sIf, T_sSetV, T_sSetL, TSet_val, TSet_own, T_sSetS, L2T_two, L3T_three, T_sPar, T_sPar3, T_sParL, T_sAug, T_sAsg, gN_eq, gT_eq, gsNil_eq, gsCons_eq, IX_own, IX_bor, O_gIx, T_mNoPart, TI_int, T_mPart, TLs_list, TTs_tuple, T_lCut, T_eCut, LO_nil, LO_cons, T_lOr, TAny_list, TAny_tuple, T_iAny, T_iEnumD, TZ_list, TZ_tuple, T_iZipD, TRg1_int, T_iRange1, TRg2_int, T_iRange2, TRg3_int, T_iRange3, lpK_nx, lpK_ct, lpK_bk, lpK_rt, fcK_nx, fcK_ct, fcK_bk, fcK_rt, wlK_nx, wlK_ct, wlK_bk, wlK_rt, wipe_nil, wipe_cons, back_nil, back_cons, noC_nil, noC_cons, noC1_none, noC1_val, T_comp_nil, T_lComp, MX_own, MX_bor, isCellLst_own, isCellLst_bor, T_eMut, T_eMeth, RP_lst, T_lRep, gL_eq, T_sParLL, T_sParVL, RG_int, T_lRange1, T_inK, T_eInK, T_eNinK, dictD_own, keyD_int, T_lDict, TO_nx, TO_val, TO_own, T0_bor, O_mkP, O_mkB, O_some, O_none, O_ite, O_bind, O_map, fAdd_i, fAddI_i, fSub_i, fMul_i, fDiv_i, fMod_i, fShl_i, fAnd_i, fXor_i, fShr_i, fLt_i, fLe_i, fGt_i, fGe_i, fEq_i, fNe_i, fNeg_i, ixN_3_0, ixN_3_1, ixN_3_2, ixN_2_0, ixN_2_1, ixN_1_0, truD_i, truD_b, intD_i, intD_b, absD_i, lenD_l, lenD_t, tupleD_l, tupleD_t, listD_l, listD_t, List.map_cons, List.map_nil, List.length_cons, List.length_nil, List.cons_append, List.nil_append, List.replicate_succ, List.replicate_zero, List.set_cons_zero, List.set_cons_succ, List.getElem?_cons_zero, List.getElem?_cons_succ, Option.getD_some, Option.bind_some, Option.map_some, true_and, and_true, Bool.false_eq_true, Nat.reduceAdd, Nat.reduceSub, Nat.reduceLeDiff, Nat.le_refl, Bool.and_true, Bool.and_self, Bool.not_true, Bool.not_false, if_true, if_false, reduceIte, Nat.zero_add, Nat.sub_self, List.map_id]
        exact ⟨t, rfl, ht, hb4.mono (by omega)⟩
/-- how many places a shift moves -/
def Wk (m : Nat) (t : Nat → Int) (k : Nat) : Nat := ((List.range (2 ^ m)).filter fun j => !decide (t j = t (j ^^^ k))).length
theorem Sm_count {n : Nat} {f : Nat → Int} {p : Nat → Bool} (h : ∀ q, q < n → f q = if p q = true then -1 else 1) : Sm n f = n - 2 * ((List.range n).filter p).length := by
  induction n with
  | zero => rfl
  | succ n ih =>
    rw [Sm_succ, ih fun q hq => h q (by omega), h n (by omega), List.range_succ, List.filter_append, List.length_append]
    cases hp : p n <;> simp [hp] <;> omega
theorem AC_count {m k : Nat} {t : Nat → Int} (hk : k < 2 ^ m) (ht : Bits m t) : AC m (fun k => 1 - 2 * t k) k = ((2 ^ m : Nat) : Int) - 2 * Wk m t k := by
  unfold AC Wk
  refine Sm_count fun q hq => ?_
  dsimp only
  rcases ht q hq with h1 | h1 <;> rcases ht (q ^^^ k) (xor_lt hq hk) with h2 | h2 <;> rw [h1, h2] <;> decide
theorem pow_cast {m : Nat} : ((2 : Int) ^ m) = ((2 ^ m : Nat) : Int) := by rw [Int.natCast_pow]; rfl
theorem sq_turn {m k : Nat} {t : Nat → Int} (hk : k < 2 ^ m) (ht : Bits m t) : Sm (2 ^ m) (fun r => sg m k r * (WH m (fun k => 1 - 2 * t k) r * WH m (fun k => 1 - 2 * t k) r)) = ((2 ^ m : Nat) : Int) * (((2 ^ m : Nat) : Int) - 2 * Wk m t k) := by
  rw [turn_sq hk, AC_count hk ht, pow_cast]
theorem US_eq {m k : Nat} {t : Nat → Int} (hk : k < 2 ^ m) (ht : Bits m t) : US m t k = Wk m t k := by
  have pm0 := Nat.two_pow_pos m
  have h : WH m (fun r => WH m (fun k => 1 - 2 * t k) r * WH m (fun k => 1 - 2 * t k) r) k = ((2 ^ m : Nat) : Int) * (((2 ^ m : Nat) : Int) - 2 * Wk m t k) := by
    rw [← sq_turn hk ht]
    unfold WH
    exact Sm_congr fun q _ => by rw [sg_comm]
  unfold US
  rw [h, fdiv_pos (b := ((2 ^ m : Nat) : Int)) (by omega), Int.mul_ediv_cancel_left _ (by omega), fdiv_pos (by decide)]
  omega
theorem mixed_ok {m k0 : Nat} {c : Cel} {f : Nat → Int} (hm : m ≤ 12) (hb : Box k0 c) (h0 : k0 < 2 ^ 40) : O (F__law_mixed c [.tuple (tb (2 ^ m) f)]) fun p => ∃ d, p.1 = .val d ∧ (d = .tuple (tb (2 ^ m) f) ∨ d = .list (tb (2 ^ m) f)) ∧ Box (k0 + 1) p.2 := by
  have pm12 : 2 ^ m ≤ 2 ^ 12 := Nat.pow_le_pow_right (by decide) (by omega)
  refine O_mono (mixed_tab (n := 28) (k := 2 ^ m) (by omega) hb h0) ?_
  rintro ⟨_, c'⟩ ⟨rfl | rfl, h2⟩
  · exact ⟨_, rfl, .inl rfl, h2⟩
  · exact ⟨_, rfl, .inr rfl, h2⟩
theorem shr_nat {x s : Nat} : ((x : Nat) : Int) / 2 ^ s = ((x >>> s : Nat) : Int) := by
  rw [Nat.shiftRight_eq_div_pow, Int.natCast_ediv, Int.natCast_pow]; rfl
theorem bt1 {x : Nat} : Builtin.bitAnd (x : Int) 1 = ((x % 2 : Nat) : Int) := by
  have := bitAnd_nat (a := x) (b := 1)
  rw [Nat.and_one_is_mod] at this
  exact this
theorem cShrP {a : Int} {b : Nat} : cShr a (b : Int) = true := decide_eq_true (by omega)
theorem fold_loop : ∀ (ss : List Nat) (x : Nat) (a c : Option SV) (Q : Out → Slots → Prop), (∀ c', Q .nx [a, some (.val (.int (ss.foldl (fun x s => x ^^^ (x >>> s)) x : Nat))), c']) →
    T (forL (gN 2) (sAug fXor 1 (oVal (eBin fShr (oName 1) (oName 2)))) (ss.map fun (s : Nat) => PyData.int (s : Int))) [a, some (.val (.int (x : Nat))), c] Q
  | [], x, a, c, Q, h => T_for_nil.mpr (h c)
  | s :: ss, x, a, c, Q, h => by
    rw [List.map_cons, T_for_cons]
    simp only [T_ret, T_eName, TN_val, TN_own, T_oName, TR_some, T_oVal, T_eC, T_eFrz, celD_lst, slotD_val, slotD_own, slotD_bor, rs_d, rs_s, rss_nil, rss_cons, T_op2, T_op2L, T_op1, T_opN, T_opNL, T_eBin, T_lBin, T_eUn, T_eFn, T_lFn, T_oNil, T_oCons, T_aNil, T_aCons, T_eTup, T_lLst, TB_bool, T_tOf, T_mTru, br_true, br_false, T_mAnd, T_mOr, T_mNot, T_eAnd, T_eOr, T_eNot, T_eIf, T_lIf, T_eChain, T_eIsi, T_mCall, T_mCallK, CB_own, CB_bor, T_mCallB, T_mCallT, TSV_val, TSV_own, T_eSV, TSL_own, T_lSV, sq_nx, sq_rt, sq_bk, sq_ct, T_sSeq, T_sSkip, T_sExpr, T_sRetV, T_sRetL, T_sRetS, T_sRetN, TRN_val, TRN_own, T_sRetName, T_sIf, T_sSetV, T_sSetL, TSet_val, TSet_own, T_sSetS, L2T_two, L3T_three, T_sPar, T_sPar3, T_sParL, T_sAug, T_sAsg, gN_eq, gT_eq, gsNil_eq, gsCons_eq, IX_own, IX_bor, O_gIx, T_mNoPart, TI_int, T_mPart, TLs_list, TTs_tuple, T_lCut, T_eCut, LO_nil, LO_cons, T_lOr, TAny_list, TAny_tuple, T_iAny, T_iEnumD, TZ_list, TZ_tuple, T_iZipD, TRg1_int, T_iRange1, TRg2_int, T_iRange2, TRg3_int, T_iRange3, lpK_nx, lpK_ct, lpK_bk, lpK_rt, fcK_nx, fcK_ct, fcK_bk, fcK_rt, wlK_nx, wlK_ct, wlK_bk, wlK_rt, wipe_nil, wipe_cons, back_nil, back_cons, noC_nil, noC_cons, noC1_none, noC1_val, T_comp_nil, T_lComp, MX_own, MX_bor, isCellLst_own, isCellLst_bor, T_eMut, T_eMeth, RP_lst, T_lRep, gL_eq, T_sParLL, T_sParVL, RG_int, T_lRange1, T_inK, T_eInK, T_eNinK, dictD_own, keyD_int, T_lDict, TO_nx, TO_val, TO_own, T0_bor, O_mkP, O_mkB, O_some, O_none, O_ite, O_bind, O_map, fAdd_i, fAddI_i, fSub_i, fMul_i, fDiv_i, fMod_i, fShl_i, fAnd_i, fXor_i, fShr_i, fLt_i, fLe_i, fGt_i, fGe_i, fEq_i, fNe_i, fNeg_i, ixN_3_0, ixN_3_1, ixN_3_2, ixN_2_0, ixN_2_1, ixN_1_0, truD_i, truD_b, intD_i, intD_b, absD_i, lenD_l, lenD_t, tupleD_l, tupleD_t, listD_l, listD_t, List.map_cons, List.map_nil, List.length_cons, List.length_nil, List.cons_append, List.nil_append, List.replicate_succ, List.replicate_zero, List.set_cons_zero, List.set_cons_succ, List.getElem?_cons_zero, List.getElem?_cons_succ, Option.getD_some, Option.bind_some, Option.map_some, true_and, and_true, Bool.false_eq_true, Nat.reduceAdd, Nat.reduceSub, Nat.reduceLeDiff, Nat.le_refl, Bool.and_true, Bool.and_self, Bool.not_true, Bool.not_false, if_true, if_false, reduceIte, Nat.zero_add, Nat.sub_self]
    refine ⟨cShrP, ?_⟩
    rw [Int.toNat_natCast, shr_nat, bitXor_nat]
    exact fold_loop ss _ a _ Q h
theorem oddF_ok {x : Nat} : F_odd [.int x] = some (.val (.int (pb 1024 x).toNat)) := by
  apply O_is.mp
  unfold F_odd b_odd
  simp only [T_ret, T_eName, TN_val, TN_own, T_oName, TR_some, T_oVal, T_eC, T_eFrz, celD_lst, slotD_val, slotD_own, slotD_bor, rs_d, rs_s, rss_nil, rss_cons, T_op2, T_op2L, T_op1, T_opN, T_opNL, T_eBin, T_lBin, T_eUn, T_eFn, T_lFn, T_oNil, T_oCons, T_aNil, T_aCons, T_eTup, T_lLst, TB_bool, T_tOf, T_mTru, br_true, br_false, T_mAnd, T_mOr, T_mNot, T_eAnd, T_eOr, T_eNot, T_eIf, T_lIf, T_eChain, T_eIsi, T_mCall, T_mCallK, CB_own, CB_bor, T_mCallB, T_mCallT, TSV_val, TSV_own, T_eSV, TSL_own, T_lSV, sq_nx, sq_rt, sq_bk, sq_ct, T_sSeq, T_sSkip, T_sExpr, T_sRetV, T_sRetL, T_sRetS, T_sRetN, TRN_val, TRN_own, T_sRetName, T_sIf, T_sSetV, T_sSetL, TSet_val, TSet_own, T_sSetS, L2T_two, L3T_three, T_sPar, T_sPar3, T_sParL, T_sAug, T_sAsg, gN_eq, gT_eq, gsNil_eq, gsCons_eq, IX_own, IX_bor, O_gIx, T_mNoPart, TI_int, T_mPart, TLs_list, TTs_tuple, T_lCut, T_eCut, LO_nil, LO_cons, T_lOr, TAny_list, TAny_tuple, T_iAny, T_iEnumD, TZ_list, TZ_tuple, T_iZipD, TRg1_int, T_iRange1, TRg2_int, T_iRange2, TRg3_int, T_iRange3, lpK_nx, lpK_ct, lpK_bk, lpK_rt, fcK_nx, fcK_ct, fcK_bk, fcK_rt, wlK_nx, wlK_ct, wlK_bk, wlK_rt, wipe_nil, wipe_cons, back_nil, back_cons, noC_nil, noC_cons, noC1_none, noC1_val, T_comp_nil, T_lComp, MX_own, MX_bor, isCellLst_own, isCellLst_bor, T_eMut, T_eMeth, RP_lst, T_lRep, gL_eq, T_sParLL, T_sParVL, RG_int, T_lRange1, T_inK, T_eInK, T_eNinK, dictD_own, keyD_int, T_lDict, TO_nx, TO_val, TO_own, T0_bor, O_mkP, O_mkB, O_some, O_none, O_ite, O_bind, O_map, fAdd_i, fAddI_i, fSub_i, fMul_i, fDiv_i, fMod_i, fShl_i, fAnd_i, fXor_i, fShr_i, fLt_i, fLe_i, fGt_i, fGe_i, fEq_i, fNe_i, fNeg_i, ixN_3_0, ixN_3_1, ixN_3_2, ixN_2_0, ixN_2_1, ixN_1_0, truD_i, truD_b, intD_i, intD_b, absD_i, lenD_l, lenD_t, tupleD_l, tupleD_t, listD_l, listD_t, List.map_cons, List.map_nil, List.length_cons, List.length_nil, List.cons_append, List.nil_append, List.replicate_succ, List.replicate_zero, List.set_cons_zero, List.set_cons_succ, List.getElem?_cons_zero, List.getElem?_cons_succ, Option.getD_some, Option.bind_some, Option.map_some, true_and, and_true, Bool.false_eq_true, Nat.reduceAdd, Nat.reduceSub, Nat.reduceLeDiff, Nat.le_refl, Bool.and_true, Bool.and_self, Bool.not_true, Bool.not_false, if_true, if_false, reduceIte, Nat.zero_add, Nat.sub_self, T_sFor]
  refine fold_loop [512, 256, 128, 64, 32, 16, 8, 4, 2, 1] x _ _ _ fun c' => ?_
  simp only [T_ret, T_eName, TN_val, TN_own, T_oName, TR_some, T_oVal, T_eC, T_eFrz, celD_lst, slotD_val, slotD_own, slotD_bor, rs_d, rs_s, rss_nil, rss_cons, T_op2, T_op2L, T_op1, T_opN, T_opNL, T_eBin, T_lBin, T_eUn, T_eFn, T_lFn, T_oNil, T_oCons, T_aNil, T_aCons, T_eTup, T_lLst, TB_bool, T_tOf, T_mTru, br_true, br_false, T_mAnd, T_mOr, T_mNot, T_eAnd, T_eOr, T_eNot, T_eIf, T_lIf, T_eChain, T_eIsi, T_mCall, T_mCallK, CB_own, CB_bor, T_mCallB, T_mCallT, TSV_val, TSV_own, T_eSV, TSL_own, T_lSV, sq_nx, sq_rt, sq_bk, sq_ct, T_sSeq, T_sSkip, T_sExpr, T_sRetV, T_sRetL, T_sRetS, T_sRetN, TRN_val, TRN_own, T_sRetName, T_sIf, T_sSetV, T_sSetL, TSet_val, TSet_own, T_sSetS, L2T_two, L3T_three, T_sPar, T_sPar3, T_sParL, T_sAug, T_sAsg, gN_eq, gT_eq, gsNil_eq, gsCons_eq, IX_own, IX_bor, O_gIx, T_mNoPart, TI_int, T_mPart, TLs_list, TTs_tuple, T_lCut, T_eCut, LO_nil, LO_cons, T_lOr, TAny_list, TAny_tuple, T_iAny, T_iEnumD, TZ_list, TZ_tuple, T_iZipD, TRg1_int, T_iRange1, TRg2_int, T_iRange2, TRg3_int, T_iRange3, lpK_nx, lpK_ct, lpK_bk, lpK_rt, fcK_nx, fcK_ct, fcK_bk, fcK_rt, wlK_nx, wlK_ct, wlK_bk, wlK_rt, wipe_nil, wipe_cons, back_nil, back_cons, noC_nil, noC_cons, noC1_none, noC1_val, T_comp_nil, T_lComp, MX_own, MX_bor, isCellLst_own, isCellLst_bor, T_eMut, T_eMeth, RP_lst, T_lRep, gL_eq, T_sParLL, T_sParVL, RG_int, T_lRange1, T_inK, T_eInK, T_eNinK, dictD_own, keyD_int, T_lDict, TO_nx, TO_val, TO_own, T0_bor, O_mkP, O_mkB, O_some, O_none, O_ite, O_bind, O_map, fAdd_i, fAddI_i, fSub_i, fMul_i, fDiv_i, fMod_i, fShl_i, fAnd_i, fXor_i, fShr_i, fLt_i, fLe_i, fGt_i, fGe_i, fEq_i, fNe_i, fNeg_i, ixN_3_0, ixN_3_1, ixN_3_2, ixN_2_0, ixN_2_1, ixN_1_0, truD_i, truD_b, intD_i, intD_b, absD_i, lenD_l, lenD_t, tupleD_l, tupleD_t, listD_l, listD_t, List.map_cons, List.map_nil, List.length_cons, List.length_nil, List.cons_append, List.nil_append, List.replicate_succ, List.replicate_zero, List.set_cons_zero, List.set_cons_succ, List.getElem?_cons_zero, List.getElem?_cons_succ, Option.getD_some, Option.bind_some, Option.map_some, true_and, and_true, Bool.false_eq_true, Nat.reduceAdd, Nat.reduceSub, Nat.reduceLeDiff, Nat.le_refl, Bool.and_true, Bool.and_self, Bool.not_true, Bool.not_false, if_true, if_false, reduceIte, Nat.zero_add, Nat.sub_self]
  rw [bt1, ← fold10_bit]
  rfl
theorem is_from_ok {x : Nat} : F_is_from [.int x, .int 0] = some (.val (.bool true)) := by
  apply O_is.mp
  unfold F_is_from b_is_from F_is_number b_is_number
  simp only [T_ret, T_eName, TN_val, TN_own, T_oName, TR_some, T_oVal, T_eC, T_eFrz, celD_lst, slotD_val, slotD_own, slotD_bor, rs_d, rs_s, rss_nil, rss_cons, T_op2, T_op2L, T_op1, T_opN, T_opNL, T_eBin, T_lBin, T_eUn, T_eFn, T_lFn, T_oNil, T_oCons, T_aNil, T_aCons, T_eTup, T_lLst, TB_bool, T_tOf, T_mTru, br_true, br_false, T_mAnd, T_mOr, T_mNot, T_eAnd, T_eOr, T_eNot, T_eIf, T_lIf, T_eChain, T_eIsi, T_mCall, T_mCallK, CB_own, CB_bor, T_mCallB, T_mCallT, TSV_val, TSV_own, T_eSV, TSL_own, T_lSV, sq_nx, sq_rt, sq_bk, sq_ct, T_sSeq, T_sSkip, T_sExpr, T_sRetV, T_sRetL, T_sRetS, T_sRetN, TRN_val, TRN_own, T_sRetName, T_sIf, T_sSetV, T_sSetL, TSet_val, TSet_own, T_sSetS, L2T_two, L3T_three, T_sPar, T_sPar3, T_sParL, T_sAug, T_sAsg, gN_eq, gT_eq, gsNil_eq, gsCons_eq, IX_own, IX_bor, O_gIx, T_mNoPart, TI_int, T_mPart, TLs_list, TTs_tuple, T_lCut, T_eCut, LO_nil, LO_cons, T_lOr, TAny_list, TAny_tuple, T_iAny, T_iEnumD, TZ_list, TZ_tuple, T_iZipD, TRg1_int, T_iRange1, TRg2_int, T_iRange2, TRg3_int, T_iRange3, lpK_nx, lpK_ct, lpK_bk, lpK_rt, fcK_nx, fcK_ct, fcK_bk, fcK_rt, wlK_nx, wlK_ct, wlK_bk, wlK_rt, wipe_nil, wipe_cons, back_nil, back_cons, noC_nil, noC_cons, noC1_none, noC1_val, T_comp_nil, T_lComp, MX_own, MX_bor, isCellLst_own, isCellLst_bor, T_eMut, T_eMeth, RP_lst, T_lRep, gL_eq, T_sParLL, T_sParVL, RG_int, T_lRange1, T_inK, T_eInK, T_eNinK, dictD_own, keyD_int, T_lDict, TO_nx, TO_val, TO_own, T0_bor, O_mkP, O_mkB, O_some, O_none, O_ite, O_bind, O_map, fAdd_i, fAddI_i, fSub_i, fMul_i, fDiv_i, fMod_i, fShl_i, fAnd_i, fXor_i, fShr_i, fLt_i, fLe_i, fGt_i, fGe_i, fEq_i, fNe_i, fNeg_i, ixN_3_0, ixN_3_1, ixN_3_2, ixN_2_0, ixN_2_1, ixN_1_0, truD_i, truD_b, intD_i, intD_b, absD_i, lenD_l, lenD_t, tupleD_l, tupleD_t, listD_l, listD_t, List.map_cons, List.map_nil, List.length_cons, List.length_nil, List.cons_append, List.nil_append, List.replicate_succ, List.replicate_zero, List.set_cons_zero, List.set_cons_succ, List.getElem?_cons_zero, List.getElem?_cons_succ, Option.getD_some, Option.bind_some, Option.map_some, true_and, and_true, Bool.false_eq_true, Nat.reduceAdd, Nat.reduceSub, Nat.reduceLeDiff, Nat.le_refl, Bool.and_true, Bool.and_self, Bool.not_true, Bool.not_false, if_true, if_false, reduceIte, Nat.zero_add, Nat.sub_self, isTys_int_int, isTys_bool_int]
  rw [decide_eq_true (by omega)]
theorem is_within_ok {x a b : Int} (h1 : a ≤ x) (h2 : x ≤ b) : F_is_within [.int x, .int a, .int b] = some (.val (.bool true)) := by
  apply O_is.mp
  unfold F_is_within b_is_within F_is_number b_is_number
  simp only [T_ret, T_eName, TN_val, TN_own, T_oName, TR_some, T_oVal, T_eC, T_eFrz, celD_lst, slotD_val, slotD_own, slotD_bor, rs_d, rs_s, rss_nil, rss_cons, T_op2, T_op2L, T_op1, T_opN, T_opNL, T_eBin, T_lBin, T_eUn, T_eFn, T_lFn, T_oNil, T_oCons, T_aNil, T_aCons, T_eTup, T_lLst, TB_bool, T_tOf, T_mTru, br_true, br_false, T_mAnd, T_mOr, T_mNot, T_eAnd, T_eOr, T_eNot, T_eIf, T_lIf, T_eChain, T_eIsi, T_mCall, T_mCallK, CB_own, CB_bor, T_mCallB, T_mCallT, TSV_val, TSV_own, T_eSV, TSL_own, T_lSV, sq_nx, sq_rt, sq_bk, sq_ct, T_sSeq, T_sSkip, T_sExpr, T_sRetV, T_sRetL, T_sRetS, T_sRetN, TRN_val, TRN_own, T_sRetName, T_sIf, T_sSetV, T_sSetL, TSet_val, TSet_own, T_sSetS, L2T_two, L3T_three, T_sPar, T_sPar3, T_sParL, T_sAug, T_sAsg, gN_eq, gT_eq, gsNil_eq, gsCons_eq, IX_own, IX_bor, O_gIx, T_mNoPart, TI_int, T_mPart, TLs_list, TTs_tuple, T_lCut, T_eCut, LO_nil, LO_cons, T_lOr, TAny_list, TAny_tuple, T_iAny, T_iEnumD, TZ_list, TZ_tuple, T_iZipD, TRg1_int, T_iRange1, TRg2_int, T_iRange2, TRg3_int, T_iRange3, lpK_nx, lpK_ct, lpK_bk, lpK_rt, fcK_nx, fcK_ct, fcK_bk, fcK_rt, wlK_nx, wlK_ct, wlK_bk, wlK_rt, wipe_nil, wipe_cons, back_nil, back_cons, noC_nil, noC_cons, noC1_none, noC1_val, T_comp_nil, T_lComp, MX_own, MX_bor, isCellLst_own, isCellLst_bor, T_eMut, T_eMeth, RP_lst, T_lRep, gL_eq, T_sParLL, T_sParVL, RG_int, T_lRange1, T_inK, T_eInK, T_eNinK, dictD_own, keyD_int, T_lDict, TO_nx, TO_val, TO_own, T0_bor, O_mkP, O_mkB, O_some, O_none, O_ite, O_bind, O_map, fAdd_i, fAddI_i, fSub_i, fMul_i, fDiv_i, fMod_i, fShl_i, fAnd_i, fXor_i, fShr_i, fLt_i, fLe_i, fGt_i, fGe_i, fEq_i, fNe_i, fNeg_i, ixN_3_0, ixN_3_1, ixN_3_2, ixN_2_0, ixN_2_1, ixN_1_0, truD_i, truD_b, intD_i, intD_b, absD_i, lenD_l, lenD_t, tupleD_l, tupleD_t, listD_l, listD_t, List.map_cons, List.map_nil, List.length_cons, List.length_nil, List.cons_append, List.nil_append, List.replicate_succ, List.replicate_zero, List.set_cons_zero, List.set_cons_succ, List.getElem?_cons_zero, List.getElem?_cons_succ, Option.getD_some, Option.bind_some, Option.map_some, true_and, and_true, Bool.false_eq_true, Nat.reduceAdd, Nat.reduceSub, Nat.reduceLeDiff, Nat.le_refl, Bool.and_true, Bool.and_self, Bool.not_true, Bool.not_false, if_true, if_false, reduceIte, Nat.zero_add, Nat.sub_self, isTys_int_int, isTys_bool_int]
  rw [decide_eq_true h1, decide_eq_true h2]
  simp only [T_ret, T_eName, TN_val, TN_own, T_oName, TR_some, T_oVal, T_eC, T_eFrz, celD_lst, slotD_val, slotD_own, slotD_bor, rs_d, rs_s, rss_nil, rss_cons, T_op2, T_op2L, T_op1, T_opN, T_opNL, T_eBin, T_lBin, T_eUn, T_eFn, T_lFn, T_oNil, T_oCons, T_aNil, T_aCons, T_eTup, T_lLst, TB_bool, T_tOf, T_mTru, br_true, br_false, T_mAnd, T_mOr, T_mNot, T_eAnd, T_eOr, T_eNot, T_eIf, T_lIf, T_eChain, T_eIsi, T_mCall, T_mCallK, CB_own, CB_bor, T_mCallB, T_mCallT, TSV_val, TSV_own, T_eSV, TSL_own, T_lSV, sq_nx, sq_rt, sq_bk, sq_ct, T_sSeq, T_sSkip, T_sExpr, T_sRetV, T_sRetL, T_sRetS, T_sRetN, TRN_val, TRN_own, T_sRetName, T_sIf, T_sSetV, T_sSetL, TSet_val, TSet_own, T_sSetS, L2T_two, L3T_three, T_sPar, T_sPar3, T_sParL, T_sAug, T_sAsg, gN_eq, gT_eq, gsNil_eq, gsCons_eq, IX_own, IX_bor, O_gIx, T_mNoPart, TI_int, T_mPart, TLs_list, TTs_tuple, T_lCut, T_eCut, LO_nil, LO_cons, T_lOr, TAny_list, TAny_tuple, T_iAny, T_iEnumD, TZ_list, TZ_tuple, T_iZipD, TRg1_int, T_iRange1, TRg2_int, T_iRange2, TRg3_int, T_iRange3, lpK_nx, lpK_ct, lpK_bk, lpK_rt, fcK_nx, fcK_ct, fcK_bk, fcK_rt, wlK_nx, wlK_ct, wlK_bk, wlK_rt, wipe_nil, wipe_cons, back_nil, back_cons, noC_nil, noC_cons, noC1_none, noC1_val, T_comp_nil, T_lComp, MX_own, MX_bor, isCellLst_own, isCellLst_bor, T_eMut, T_eMeth, RP_lst, T_lRep, gL_eq, T_sParLL, T_sParVL, RG_int, T_lRange1, T_inK, T_eInK, T_eNinK, dictD_own, keyD_int, T_lDict, TO_nx, TO_val, TO_own, T0_bor, O_mkP, O_mkB, O_some, O_none, O_ite, O_bind, O_map, fAdd_i, fAddI_i, fSub_i, fMul_i, fDiv_i, fMod_i, fShl_i, fAnd_i, fXor_i, fShr_i, fLt_i, fLe_i, fGt_i, fGe_i, fEq_i, fNe_i, fNeg_i, ixN_3_0, ixN_3_1, ixN_3_2, ixN_2_0, ixN_2_1, ixN_1_0, truD_i, truD_b, intD_i, intD_b, absD_i, lenD_l, lenD_t, tupleD_l, tupleD_t, listD_l, listD_t, List.map_cons, List.map_nil, List.length_cons, List.length_nil, List.cons_append, List.nil_append, List.replicate_succ, List.replicate_zero, List.set_cons_zero, List.set_cons_succ, List.getElem?_cons_zero, List.getElem?_cons_succ, Option.getD_some, Option.bind_some, Option.map_some, true_and, and_true, Bool.false_eq_true, Nat.reduceAdd, Nat.reduceSub, Nat.reduceLeDiff, Nat.le_refl, Bool.and_true, Bool.and_self, Bool.not_true, Bool.not_false, if_true, if_false, reduceIte, Nat.zero_add, Nat.sub_self]
theorem one_shl {m : Nat} : (1 : Int) * 2 ^ (m : Int).toNat = ((2 ^ m : Nat) : Int) := by rw [Int.toNat_natCast, Int.one_mul, Int.natCast_pow]; rfl
end Toy

namespace Toy
open PySem PySem.Spec PyProof.Rows L2 PD PM PX
/-- signs of a table of bits -/
abbrev sgn (t : Nat → Int) : Nat → Int := fun k => 1 - 2 * t k
theorem sgn_sq {m : Nat} {t : Nat → Int} (ht : Bits m t) : ∀ k, k < 2 ^ m → sgn t k * sgn t k = 1 := fun k hk => by
  show (1 - 2 * t k) * (1 - 2 * t k) = 1
  rcases ht k hk with e | e <;> rw [e] <;> rfl
/-- where a straight look fails, from one place -/
def lf (m : Nat) (t : Nat → Int) (x : Nat) : Nat := ((List.range (2 ^ m)).filter fun k => !decide (Builtin.bitXor (t x) (t k) = t (x ^^^ k))).length
theorem xor_bits {a b : Int} (ha : a = 0 ∨ a = 1) (hb : b = 0 ∨ b = 1) : Builtin.bitXor a b = a + b - 2 * a * b := by
  rcases ha with rfl | rfl <;> rcases hb with rfl | rfl <;> rfl
theorem EE_lf {m : Nat} {t : Nat → Int} (ht : Bits m t) : EE m (sgn t) = ((2 ^ m : Nat) : Int) * ((2 ^ m : Nat) : Int) - 2 * Sm (2 ^ m) fun x => (lf m t x : Int) := by
  have h : EE m (sgn t) = Sm (2 ^ m) fun x => ((2 ^ m : Nat) : Int) - 2 * (lf m t x : Int) := by
    unfold EE
    refine Sm_congr fun x hx => ?_
    unfold AC
    rw [← Sm_mul]
    refine Sm_count fun q hq => ?_
    show (1 - 2 * t x) * ((1 - 2 * t q) * (1 - 2 * t (q ^^^ x))) = _
    rw [xor_bits (ht x hx) (ht q hq), Nat.xor_comm q x]
    rcases ht x hx with h1 | h1 <;> rcases ht q hq with h2 | h2 <;> rcases ht (x ^^^ q) (xor_lt hx hq) with h3 | h3 <;> rw [h1, h2, h3] <;> rfl
  rw [h, Sm_sub, Sm_const, Sm_mul]
theorem SF_lf {m : Nat} {t : Nat → Int} (ht : Bits m t) : SF m t = Sm (2 ^ m) fun x => (lf m t x : Int) := by
  have pm0 := Nat.two_pow_pos m
  have c := turn_cube (m := m) (g := sgn t)
  have e := EE_lf ht
  unfold EE at e
  unfold SF
  rw [c, e, pow_cast, fdiv_pos (b := ((2 ^ m : Nat) : Int)) (by omega), Int.mul_ediv_cancel_left _ (by omega), fdiv_pos (by decide)]
  generalize ((2 ^ m : Nat) : Int) * ((2 ^ m : Nat) : Int) = Z
  omega
theorem EE_SF {m : Nat} {t : Nat → Int} (ht : Bits m t) : EE m (sgn t) = ((2 ^ m : Nat) : Int) * ((2 ^ m : Nat) : Int) - 2 * SF m t := by rw [EE_lf ht, SF_lf ht]
theorem maxL_ge : ∀ {xs : List Int} {x : Int}, x ∈ xs → x ≤ maxL xs
  | [a], x, h => by rw [List.mem_singleton.mp h]; exact Int.le_refl _
  | a :: b :: r, x, h => by
    show x ≤ max a (maxL (b :: r))
    rcases List.mem_cons.mp h with e | h
    · rw [e]; omega
    · have := maxL_ge h; omega
theorem minL_le : ∀ {xs : List Int} {x : Int}, x ∈ xs → minL xs ≤ x
  | [a], x, h => by rw [List.mem_singleton.mp h]; exact Int.le_refl _
  | a :: b :: r, x, h => by
    show min a (minL (b :: r)) ≤ x
    rcases List.mem_cons.mp h with e | h
    · rw [e]; omega
    · have := minL_le h; omega
theorem minL_mem : ∀ {xs : List Int}, xs ≠ [] → minL xs ∈ xs
  | [a], _ => List.mem_cons_self
  | a :: b :: r, _ => by
    show min a (minL (b :: r)) ∈ _
    have := minL_mem (xs := b :: r) (by simp)
    rcases Int.le_total a (minL (b :: r)) with h | h
    · rw [Int.min_eq_left h]; exact List.mem_cons_self
    · rw [Int.min_eq_right h]; exact List.mem_cons_of_mem _ this
theorem top_ge {n k : Nat} {f : Nat → Int} (hk : k < n) : f k ≤ top n f := maxL_ge (List.mem_map.mpr ⟨k, List.mem_range.mpr hk, rfl⟩)
theorem top_at {n : Nat} {f : Nat → Int} (h : 0 < n) : ∃ k, k < n ∧ top n f = f k := by
  obtain ⟨k, h1, h2⟩ := List.mem_map.mp (top_mem (f := f) h)
  exact ⟨k, List.mem_range.mp h1, h2.symm⟩
def bot (n : Nat) (f : Nat → Int) : Int := minL ((List.range n).map f)
theorem bot_le {n k : Nat} {f : Nat → Int} (hk : k < n) : bot n f ≤ f k := minL_le (List.mem_map.mpr ⟨k, List.mem_range.mpr hk, rfl⟩)
theorem bot_at {n : Nat} {f : Nat → Int} (h : 0 < n) : ∃ k, k < n ∧ bot n f = f k := by
  obtain ⟨k, h1, h2⟩ := List.mem_map.mp (minL_mem (range_ne (f := f) h))
  exact ⟨k, List.mem_range.mp h1, h2.symm⟩
theorem straight_iff {m : Nat} {t : Nat → Int} (ht : Bits m t) : top (2 ^ m) (WH m (sgn t)) = ((2 ^ m : Nat) : Int) ↔ SF m t = 0 := by
  have pm0 := Nat.two_pow_pos m
  have e := EE_SF ht
  constructor
  · intro h
    obtain ⟨r, hr, h2⟩ := top_at (f := WH m (sgn t)) pm0
    have := straight_of (sgn_sq ht) hr (by rw [← h2, h, pow_cast])
    rw [this, pow_cast] at e
    omega
  · intro h
    have := best_of (T := top (2 ^ m) (WH m (sgn t))) (sgn_sq ht) (fun r hr => top_ge hr) (by rw [e, h, pow_cast]; omega)
    obtain ⟨r, hr, h2⟩ := top_at (f := WH m (sgn t)) pm0
    have h3 := WH_abs (m := m) (r := r) (g := sgn t) (b := 1) fun q hq => by
      show (1 - 2 * t q).natAbs ≤ 1
      rcases ht q hq with h | h <;> rw [h] <;> decide
    rw [pow_cast] at this
    omega
theorem law_fails_ok {m : Nat} {t : Nat → Int} (hm : m ≤ 12) (ht : Bits m t) : F__law_fails [.tuple (tb (2 ^ m) t)] = some (.val (.int (SF m t))) := by
  apply O_is.mp
  have pm12 : 2 ^ m ≤ 2 ^ 12 := Nat.pow_le_pow_right (by decide) (by omega)
  have pm0 := Nat.two_pow_pos m
  unfold F__law_fails b__law_fails
  simp only [T_ret, T_eName, TN_val, TN_own, T_oName, TR_some, T_oVal, T_eC, T_eFrz, celD_lst, slotD_val, slotD_own, slotD_bor, rs_d, rs_s, rss_nil, rss_cons, T_op2, T_op2L, T_op1, T_opN, T_opNL, T_eBin, T_lBin, T_eUn, T_eFn, T_lFn, T_oNil, T_oCons, T_aNil, T_aCons, T_eTup, T_lLst, TB_bool, T_tOf, T_mTru, br_true, br_false, T_mAnd, T_mOr, T_mNot, T_eAnd, T_eOr, T_eNot, T_eIf, T_lIf, T_eChain, T_eIsi, T_mCall, T_mCallK, CB_own, CB_bor, T_mCallB, T_mCallT, TSV_val, TSV_own, T_eSV, TSL_own, T_lSV, sq_nx, sq_rt, sq_bk, sq_ct, T_sSeq, T_sSkip, T_sExpr, T_sRetV, T_sRetL, T_sRetS, T_sRetN, TRN_val, TRN_own, T_sRetName, T_sIf, T_sSetV, T_sSetL, TSet_val, TSet_own, T_sSetS, L2T_two, L3T_three, T_sPar, T_sPar3, T_sParL, T_sAug, T_sAsg, gN_eq, gT_eq, gsNil_eq, gsCons_eq, IX_own, IX_bor, O_gIx, T_mNoPart, TI_int, T_mPart, TLs_list, TTs_tuple, T_lCut, T_eCut, LO_nil, LO_cons, T_lOr, TAny_list, TAny_tuple, T_iAny, T_iEnumD, TZ_list, TZ_tuple, T_iZipD, TRg1_int, T_iRange1, TRg2_int, T_iRange2, TRg3_int, T_iRange3, lpK_nx, lpK_ct, lpK_bk, lpK_rt, fcK_nx, fcK_ct, fcK_bk, fcK_rt, wlK_nx, wlK_ct, wlK_bk, wlK_rt, wipe_nil, wipe_cons, back_nil, back_cons, noC_nil, noC_cons, noC1_none, noC1_val, T_comp_nil, T_lComp, MX_own, MX_bor, isCellLst_own, isCellLst_bor, T_eMut, T_eMeth, RP_lst, T_lRep, gL_eq, T_sParLL, T_sParVL, RG_int, T_lRange1, T_inK, T_eInK, T_eNinK, dictD_own, keyD_int, T_lDict, TO_nx, TO_val, TO_own, T0_bor, O_mkP, O_mkB, O_some, O_none, O_ite, O_bind, O_map, fAdd_i, fAddI_i, fSub_i, fMul_i, fDiv_i, fMod_i, fShl_i, fAnd_i, fXor_i, fShr_i, fLt_i, fLe_i, fGt_i, fGe_i, fEq_i, fNe_i, fNeg_i, ixN_3_0, ixN_3_1, ixN_3_2, ixN_2_0, ixN_2_1, ixN_1_0, truD_i, truD_b, intD_i, intD_b, absD_i, lenD_l, lenD_t, tupleD_l, tupleD_t, listD_l, listD_t, List.map_cons, List.map_nil, List.length_cons, List.length_nil, List.cons_append, List.nil_append, List.replicate_succ, List.replicate_zero, List.set_cons_zero, List.set_cons_succ, List.getElem?_cons_zero, List.getElem?_cons_succ, Option.getD_some, Option.bind_some, Option.map_some, true_and, and_true, Bool.false_eq_true, Nat.reduceAdd, Nat.reduceSub, Nat.reduceLeDiff, Nat.le_refl, Bool.and_true, Bool.and_self, Bool.not_true, Bool.not_false, if_true, if_false, reduceIte, Nat.zero_add, Nat.sub_self, T_sFor, tb_len]
  refine ⟨⟨by omega, by omega⟩, T_forN (fun i S => ∃ x, S = [some (.val (.tuple (tb (2 ^ m) t))), some (.val (.int (Sm i fun x => (lf m t x : Int)))), x, none]) ⟨_, rfl⟩ ?_ ?_⟩
  · rintro i hi S ⟨x, rfl⟩
    simp only [T_ret, T_eName, TN_val, TN_own, T_oName, TR_some, T_oVal, T_eC, T_eFrz, celD_lst, slotD_val, slotD_own, slotD_bor, rs_d, rs_s, rss_nil, rss_cons, T_op2, T_op2L, T_op1, T_opN, T_opNL, T_eBin, T_lBin, T_eUn, T_eFn, T_lFn, T_oNil, T_oCons, T_aNil, T_aCons, T_eTup, T_lLst, TB_bool, T_tOf, T_mTru, br_true, br_false, T_mAnd, T_mOr, T_mNot, T_eAnd, T_eOr, T_eNot, T_eIf, T_lIf, T_eChain, T_eIsi, T_mCall, T_mCallK, CB_own, CB_bor, T_mCallB, T_mCallT, TSV_val, TSV_own, T_eSV, TSL_own, T_lSV, sq_nx, sq_rt, sq_bk, sq_ct, T_sSeq, T_sSkip, T_sExpr, T_sRetV, T_sRetL, T_sRetS, T_sRetN, TRN_val, TRN_own, T_sRetName, T_sIf, T_sSetV, T_sSetL, TSet_val, TSet_own, T_sSetS, L2T_two, L3T_three, T_sPar, T_sPar3, T_sParL, T_sAug, T_sAsg, gN_eq, gT_eq, gsNil_eq, gsCons_eq, IX_own, IX_bor, O_gIx, T_mNoPart, TI_int, T_mPart, TLs_list, TTs_tuple, T_lCut, T_eCut, LO_nil, LO_cons, T_lOr, TAny_list, TAny_tuple, T_iAny, T_iEnumD, TZ_list, TZ_tuple, T_iZipD, TRg1_int, T_iRange1, TRg2_int, T_iRange2, TRg3_int, T_iRange3, lpK_nx, lpK_ct, lpK_bk, lpK_rt, fcK_nx, fcK_ct, fcK_bk, fcK_rt, wlK_nx, wlK_ct, wlK_bk, wlK_rt, wipe_nil, wipe_cons, back_nil, back_cons, noC_nil, noC_cons, noC1_none, noC1_val, T_comp_nil, T_lComp, MX_own, MX_bor, isCellLst_own, isCellLst_bor, T_eMut, T_eMeth, RP_lst, T_lRep, gL_eq, T_sParLL, T_sParVL, RG_int, T_lRange1, T_inK, T_eInK, T_eNinK, dictD_own, keyD_int, T_lDict, TO_nx, TO_val, TO_own, T0_bor, O_mkP, O_mkB, O_some, O_none, O_ite, O_bind, O_map, fAdd_i, fAddI_i, fSub_i, fMul_i, fDiv_i, fMod_i, fShl_i, fAnd_i, fXor_i, fShr_i, fLt_i, fLe_i, fGt_i, fGe_i, fEq_i, fNe_i, fNeg_i, ixN_3_0, ixN_3_1, ixN_3_2, ixN_2_0, ixN_2_1, ixN_1_0, truD_i, truD_b, intD_i, intD_b, absD_i, lenD_l, lenD_t, tupleD_l, tupleD_t, listD_l, listD_t, List.map_cons, List.map_nil, List.length_cons, List.length_nil, List.cons_append, List.nil_append, List.replicate_succ, List.replicate_zero, List.set_cons_zero, List.set_cons_succ, List.getElem?_cons_zero, List.getElem?_cons_succ, Option.getD_some, Option.bind_some, Option.map_some, true_and, and_true, Bool.false_eq_true, Nat.reduceAdd, Nat.reduceSub, Nat.reduceLeDiff, Nat.le_refl, Bool.and_true, Bool.and_self, Bool.not_true, Bool.not_false, if_true, if_false, reduceIte, Nat.zero_add, Nat.sub_self, tb_len]
    refine ⟨⟨by omega, by omega⟩, by rw [range_len]; omega, ?_⟩
    rw [tb_range]
    obtain ⟨p, hp⟩ : ∃ p : D → Bool, p = fun d => match d with | .int k => !decide (Builtin.bitXor (t i) (t k.toNat) = t (i ^^^ k.toNat)) | _ => false := ⟨_, rfl⟩
    have pk : ∀ k : Nat, p (.int (k : Int)) = !decide (Builtin.bitXor (t i) (t k) = t (i ^^^ k)) := fun k => by rw [hp]; rfl
    refine T_compFilter p id ?_ ?_
    · intro d hd
      obtain ⟨r, hr, rfl⟩ := tb_mem hd
      simp only [T_ret, T_eName, TN_val, TN_own, T_oName, TR_some, T_oVal, T_eC, T_eFrz, celD_lst, slotD_val, slotD_own, slotD_bor, rs_d, rs_s, rss_nil, rss_cons, T_op2, T_op2L, T_op1, T_opN, T_opNL, T_eBin, T_lBin, T_eUn, T_eFn, T_lFn, T_oNil, T_oCons, T_aNil, T_aCons, T_eTup, T_lLst, TB_bool, T_tOf, T_mTru, br_true, br_false, T_mAnd, T_mOr, T_mNot, T_eAnd, T_eOr, T_eNot, T_eIf, T_lIf, T_eChain, T_eIsi, T_mCall, T_mCallK, CB_own, CB_bor, T_mCallB, T_mCallT, TSV_val, TSV_own, T_eSV, TSL_own, T_lSV, sq_nx, sq_rt, sq_bk, sq_ct, T_sSeq, T_sSkip, T_sExpr, T_sRetV, T_sRetL, T_sRetS, T_sRetN, TRN_val, TRN_own, T_sRetName, T_sIf, T_sSetV, T_sSetL, TSet_val, TSet_own, T_sSetS, L2T_two, L3T_three, T_sPar, T_sPar3, T_sParL, T_sAug, T_sAsg, gN_eq, gT_eq, gsNil_eq, gsCons_eq, IX_own, IX_bor, O_gIx, T_mNoPart, TI_int, T_mPart, TLs_list, TTs_tuple, T_lCut, T_eCut, LO_nil, LO_cons, T_lOr, TAny_list, TAny_tuple, T_iAny, T_iEnumD, TZ_list, TZ_tuple, T_iZipD, TRg1_int, T_iRange1, TRg2_int, T_iRange2, TRg3_int, T_iRange3, lpK_nx, lpK_ct, lpK_bk, lpK_rt, fcK_nx, fcK_ct, fcK_bk, fcK_rt, wlK_nx, wlK_ct, wlK_bk, wlK_rt, wipe_nil, wipe_cons, back_nil, back_cons, noC_nil, noC_cons, noC1_none, noC1_val, T_comp_nil, T_lComp, MX_own, MX_bor, isCellLst_own, isCellLst_bor, T_eMut, T_eMeth, RP_lst, T_lRep, gL_eq, T_sParLL, T_sParVL, RG_int, T_lRange1, T_inK, T_eInK, T_eNinK, dictD_own, keyD_int, T_lDict, TO_nx, TO_val, TO_own, T0_bor, O_mkP, O_mkB, O_some, O_none, O_ite, O_bind, O_map, fAdd_i, fAddI_i, fSub_i, fMul_i, fDiv_i, fMod_i, fShl_i, fAnd_i, fXor_i, fShr_i, fLt_i, fLe_i, fGt_i, fGe_i, fEq_i, fNe_i, fNeg_i, ixN_3_0, ixN_3_1, ixN_3_2, ixN_2_0, ixN_2_1, ixN_1_0, truD_i, truD_b, intD_i, intD_b, absD_i, lenD_l, lenD_t, tupleD_l, tupleD_t, listD_l, listD_t, List.map_cons, List.map_nil, List.length_cons, List.length_nil, List.cons_append, List.nil_append, List.replicate_succ, List.replicate_zero, List.set_cons_zero, List.set_cons_succ, List.getElem?_cons_zero, List.getElem?_cons_succ, Option.getD_some, Option.bind_some, Option.map_some, true_and, and_true, Bool.false_eq_true, Nat.reduceAdd, Nat.reduceSub, Nat.reduceLeDiff, Nat.le_refl, Bool.and_true, Bool.and_self, Bool.not_true, Bool.not_false, if_true, if_false, reduceIte, Nat.zero_add, Nat.sub_self, tb_at (n := 2 ^ m) (k := r) rfl hr, tb_at (n := 2 ^ m) (k := i) rfl hi, bitXor_nat, tb_at (n := 2 ^ m) (k := i ^^^ r) rfl (xor_lt hi hr), pk]
      exact ⟨fun _ => trivial, fun _ => rfl⟩
    have el : (((tb (2 ^ m) fun k => (k : Int)).filter p).map id).length = lf m t i := by
      unfold tb lf
      rw [List.map_id, List.filter_map, List.length_map]
      congr 1
      exact List.filter_congr fun k _ => pk k
    simp only [T_ret, T_eName, TN_val, TN_own, T_oName, TR_some, T_oVal, T_eC, T_eFrz, celD_lst, slotD_val, slotD_own, slotD_bor, rs_d, rs_s, rss_nil, rss_cons, T_op2, T_op2L, T_op1, T_opN, T_opNL, T_eBin, T_lBin, T_eUn, T_eFn, T_lFn, T_oNil, T_oCons, T_aNil, T_aCons, T_eTup, T_lLst, TB_bool, T_tOf, T_mTru, br_true, br_false, T_mAnd, T_mOr, T_mNot, T_eAnd, T_eOr, T_eNot, T_eIf, T_lIf, T_eChain, T_eIsi, T_mCall, T_mCallK, CB_own, CB_bor, T_mCallB, T_mCallT, TSV_val, TSV_own, T_eSV, TSL_own, T_lSV, sq_nx, sq_rt, sq_bk, sq_ct, T_sSeq, T_sSkip, T_sExpr, T_sRetV, T_sRetL, T_sRetS, T_sRetN, TRN_val, TRN_own, T_sRetName, T_sIf, T_sSetV, T_sSetL, TSet_val, TSet_own, T_sSetS, L2T_two, L3T_three, T_sPar, T_sPar3, T_sParL, T_sAug, T_sAsg, gN_eq, gT_eq, gsNil_eq, gsCons_eq, IX_own, IX_bor, O_gIx, T_mNoPart, TI_int, T_mPart, TLs_list, TTs_tuple, T_lCut, T_eCut, LO_nil, LO_cons, T_lOr, TAny_list, TAny_tuple, T_iAny, T_iEnumD, TZ_list, TZ_tuple, T_iZipD, TRg1_int, T_iRange1, TRg2_int, T_iRange2, TRg3_int, T_iRange3, lpK_nx, lpK_ct, lpK_bk, lpK_rt, fcK_nx, fcK_ct, fcK_bk, fcK_rt, wlK_nx, wlK_ct, wlK_bk, wlK_rt, wipe_nil, wipe_cons, back_nil, back_cons, noC_nil, noC_cons, noC1_none, noC1_val, T_comp_nil, T_lComp, MX_own, MX_bor, isCellLst_own, isCellLst_bor, T_eMut, T_eMeth, RP_lst, T_lRep, gL_eq, T_sParLL, T_sParVL, RG_int, T_lRange1, T_inK, T_eInK, T_eNinK, dictD_own, keyD_int, T_lDict, TO_nx, TO_val, TO_own, T0_bor, O_mkP, O_mkB, O_some, O_none, O_ite, O_bind, O_map, fAdd_i, fAddI_i, fSub_i, fMul_i, fDiv_i, fMod_i, fShl_i, fAnd_i, fXor_i, fShr_i, fLt_i, fLe_i, fGt_i, fGe_i, fEq_i, fNe_i, fNeg_i, ixN_3_0, ixN_3_1, ixN_3_2, ixN_2_0, ixN_2_1, ixN_1_0, truD_i, truD_b, intD_i, intD_b, absD_i, lenD_l, lenD_t, tupleD_l, tupleD_t, listD_l, listD_t, List.map_cons, List.map_nil, List.length_cons, List.length_nil, List.cons_append, List.nil_append, List.replicate_succ, List.replicate_zero, List.set_cons_zero, List.set_cons_succ, List.getElem?_cons_zero, List.getElem?_cons_succ, Option.getD_some, Option.bind_some, Option.map_some, true_and, and_true, Bool.false_eq_true, Nat.reduceAdd, Nat.reduceSub, Nat.reduceLeDiff, Nat.le_refl, Bool.and_true, Bool.and_self, Bool.not_true, Bool.not_false, if_true, if_false, reduceIte, Nat.zero_add, Nat.sub_self, el]
    exact ⟨_, rfl⟩
  · rintro S ⟨x, rfl⟩
    simp only [T_ret, T_eName, TN_val, TN_own, T_oName, TR_some, T_oVal, T_eC, T_eFrz, celD_lst, slotD_val, slotD_own, slotD_bor, rs_d, rs_s, rss_nil, rss_cons, T_op2, T_op2L, T_op1, T_opN, T_opNL, T_eBin, T_lBin, T_eUn, T_eFn, T_lFn, T_oNil, T_oCons, T_aNil, T_aCons, T_eTup, T_lLst, TB_bool, T_tOf, T_mTru, br_true, br_false, T_mAnd, T_mOr, T_mNot, T_eAnd, T_eOr, T_eNot, T_eIf, T_lIf, T_eChain, T_eIsi, T_mCall, T_mCallK, CB_own, CB_bor, T_mCallB, T_mCallT, TSV_val, TSV_own, T_eSV, TSL_own, T_lSV, sq_nx, sq_rt, sq_bk, sq_ct, T_sSeq, T_sSkip, T_sExpr, T_sRetV, T_sRetL, T_sRetS, T_sRetN, TRN_val, TRN_own, T_sRetName, T_sIf, T_sSetV, T_sSetL, TSet_val, TSet_own, T_sSetS, L2T_two, L3T_three, T_sPar, T_sPar3, T_sParL, T_sAug, T_sAsg, gN_eq, gT_eq, gsNil_eq, gsCons_eq, IX_own, IX_bor, O_gIx, T_mNoPart, TI_int, T_mPart, TLs_list, TTs_tuple, T_lCut, T_eCut, LO_nil, LO_cons, T_lOr, TAny_list, TAny_tuple, T_iAny, T_iEnumD, TZ_list, TZ_tuple, T_iZipD, TRg1_int, T_iRange1, TRg2_int, T_iRange2, TRg3_int, T_iRange3, lpK_nx, lpK_ct, lpK_bk, lpK_rt, fcK_nx, fcK_ct, fcK_bk, fcK_rt, wlK_nx, wlK_ct, wlK_bk, wlK_rt, wipe_nil, wipe_cons, back_nil, back_cons, noC_nil, noC_cons, noC1_none, noC1_val, T_comp_nil, T_lComp, MX_own, MX_bor, isCellLst_own, isCellLst_bor, T_eMut, T_eMeth, RP_lst, T_lRep, gL_eq, T_sParLL, T_sParVL, RG_int, T_lRange1, T_inK, T_eInK, T_eNinK, dictD_own, keyD_int, T_lDict, TO_nx, TO_val, TO_own, T0_bor, O_mkP, O_mkB, O_some, O_none, O_ite, O_bind, O_map, fAdd_i, fAddI_i, fSub_i, fMul_i, fDiv_i, fMod_i, fShl_i, fAnd_i, fXor_i, fShr_i, fLt_i, fLe_i, fGt_i, fGe_i, fEq_i, fNe_i, fNeg_i, ixN_3_0, ixN_3_1, ixN_3_2, ixN_2_0, ixN_2_1, ixN_1_0, truD_i, truD_b, intD_i, intD_b, absD_i, lenD_l, lenD_t, tupleD_l, tupleD_t, listD_l, listD_t, List.map_cons, List.map_nil, List.length_cons, List.length_nil, List.cons_append, List.nil_append, List.replicate_succ, List.replicate_zero, List.set_cons_zero, List.set_cons_succ, List.getElem?_cons_zero, List.getElem?_cons_succ, Option.getD_some, Option.bind_some, Option.map_some, true_and, and_true, Bool.false_eq_true, Nat.reduceAdd, Nat.reduceSub, Nat.reduceLeDiff, Nat.le_refl, Bool.and_true, Bool.and_self, Bool.not_true, Bool.not_false, if_true, if_false, reduceIte, Nat.zero_add, Nat.sub_self]
    rw [SF_lf ht]
theorem is_straight_ok {m : Nat} {t : Nat → Int} (hm : m ≤ 12) (ht : Bits m t) {d : D} (hd : d = .tuple (tb (2 ^ m) t) ∨ d = .list (tb (2 ^ m) t)) : F_is_straight [d] = some (.val (.bool (decide (SF m t = 0)))) := by
  apply O_is.mp
  unfold F_is_straight b_is_straight
  have e : decide (top (2 ^ m) (WH m (sgn t)) = ((2 ^ m : Nat) : Int)) = decide (SF m t = 0) := by rw [decide_eq_decide]; exact straight_iff ht
  rcases hd with rfl | rfl
  · simp only [T_ret, T_eName, TN_val, TN_own, T_oName, TR_some, T_oVal, T_eC, T_eFrz, celD_lst, slotD_val, slotD_own, slotD_bor, rs_d, rs_s, rss_nil, rss_cons, T_op2, T_op2L, T_op1, T_opN, T_opNL, T_eBin, T_lBin, T_eUn, T_eFn, T_lFn, T_oNil, T_oCons, T_aNil, T_aCons, T_eTup, T_lLst, TB_bool, T_tOf, T_mTru, br_true, br_false, T_mAnd, T_mOr, T_mNot, T_eAnd, T_eOr, T_eNot, T_eIf, T_lIf, T_eChain, T_eIsi, T_mCall, T_mCallK, CB_own, CB_bor, T_mCallB, T_mCallT, TSV_val, TSV_own, T_eSV, TSL_own, T_lSV, sq_nx, sq_rt, sq_bk, sq_ct, T_sSeq, T_sSkip, T_sExpr, T_sRetV, T_sRetL, T_sRetS, T_sRetN, TRN_val, TRN_own, T_sRetName, T_sIf, T_sSetV, T_sSetL, TSet_val, TSet_own, T_sSetS, L2T_two, L3T_three, T_sPar, T_sPar3, T_sParL, T_sAug, T_sAsg, gN_eq, gT_eq, gsNil_eq, gsCons_eq, IX_own, IX_bor, O_gIx, T_mNoPart, TI_int, T_mPart, TLs_list, TTs_tuple, T_lCut, T_eCut, LO_nil, LO_cons, T_lOr, TAny_list, TAny_tuple, T_iAny, T_iEnumD, TZ_list, TZ_tuple, T_iZipD, TRg1_int, T_iRange1, TRg2_int, T_iRange2, TRg3_int, T_iRange3, lpK_nx, lpK_ct, lpK_bk, lpK_rt, fcK_nx, fcK_ct, fcK_bk, fcK_rt, wlK_nx, wlK_ct, wlK_bk, wlK_rt, wipe_nil, wipe_cons, back_nil, back_cons, noC_nil, noC_cons, noC1_none, noC1_val, T_comp_nil, T_lComp, MX_own, MX_bor, isCellLst_own, isCellLst_bor, T_eMut, T_eMeth, RP_lst, T_lRep, gL_eq, T_sParLL, T_sParVL, RG_int, T_lRange1, T_inK, T_eInK, T_eNinK, dictD_own, keyD_int, T_lDict, TO_nx, TO_val, TO_own, T0_bor, O_mkP, O_mkB, O_some, O_none, O_ite, O_bind, O_map, fAdd_i, fAddI_i, fSub_i, fMul_i, fDiv_i, fMod_i, fShl_i, fAnd_i, fXor_i, fShr_i, fLt_i, fLe_i, fGt_i, fGe_i, fEq_i, fNe_i, fNeg_i, ixN_3_0, ixN_3_1, ixN_3_2, ixN_2_0, ixN_2_1, ixN_1_0, truD_i, truD_b, intD_i, intD_b, absD_i, lenD_l, lenD_t, tupleD_l, tupleD_t, listD_l, listD_t, List.map_cons, List.map_nil, List.length_cons, List.length_nil, List.cons_append, List.nil_append, List.replicate_succ, List.replicate_zero, List.set_cons_zero, List.set_cons_succ, List.getElem?_cons_zero, List.getElem?_cons_succ, Option.getD_some, Option.bind_some, Option.map_some, true_and, and_true, Bool.false_eq_true, Nat.reduceAdd, Nat.reduceSub, Nat.reduceLeDiff, Nat.le_refl, Bool.and_true, Bool.and_self, Bool.not_true, Bool.not_false, if_true, if_false, reduceIte, Nat.zero_add, Nat.sub_self, (sure_full_ok hm ht).1, sums_in_ok hm, max_tb (Nat.two_pow_pos m), tb_len]
    rw [e]
  · simp only [T_ret, T_eName, TN_val, TN_own, T_oName, TR_some, T_oVal, T_eC, T_eFrz, celD_lst, slotD_val, slotD_own, slotD_bor, rs_d, rs_s, rss_nil, rss_cons, T_op2, T_op2L, T_op1, T_opN, T_opNL, T_eBin, T_lBin, T_eUn, T_eFn, T_lFn, T_oNil, T_oCons, T_aNil, T_aCons, T_eTup, T_lLst, TB_bool, T_tOf, T_mTru, br_true, br_false, T_mAnd, T_mOr, T_mNot, T_eAnd, T_eOr, T_eNot, T_eIf, T_lIf, T_eChain, T_eIsi, T_mCall, T_mCallK, CB_own, CB_bor, T_mCallB, T_mCallT, TSV_val, TSV_own, T_eSV, TSL_own, T_lSV, sq_nx, sq_rt, sq_bk, sq_ct, T_sSeq, T_sSkip, T_sExpr, T_sRetV, T_sRetL, T_sRetS, T_sRetN, TRN_val, TRN_own, T_sRetName, T_sIf, T_sSetV, T_sSetL, TSet_val, TSet_own, T_sSetS, L2T_two, L3T_three, T_sPar, T_sPar3, T_sParL, T_sAug, T_sAsg, gN_eq, gT_eq, gsNil_eq, gsCons_eq, IX_own, IX_bor, O_gIx, T_mNoPart, TI_int, T_mPart, TLs_list, TTs_tuple, T_lCut, T_eCut, LO_nil, LO_cons, T_lOr, TAny_list, TAny_tuple, T_iAny, T_iEnumD, TZ_list, TZ_tuple, T_iZipD, TRg1_int, T_iRange1, TRg2_int, T_iRange2, TRg3_int, T_iRange3, lpK_nx, lpK_ct, lpK_bk, lpK_rt, fcK_nx, fcK_ct, fcK_bk, fcK_rt, wlK_nx, wlK_ct, wlK_bk, wlK_rt, wipe_nil, wipe_cons, back_nil, back_cons, noC_nil, noC_cons, noC1_none, noC1_val, T_comp_nil, T_lComp, MX_own, MX_bor, isCellLst_own, isCellLst_bor, T_eMut, T_eMeth, RP_lst, T_lRep, gL_eq, T_sParLL, T_sParVL, RG_int, T_lRange1, T_inK, T_eInK, T_eNinK, dictD_own, keyD_int, T_lDict, TO_nx, TO_val, TO_own, T0_bor, O_mkP, O_mkB, O_some, O_none, O_ite, O_bind, O_map, fAdd_i, fAddI_i, fSub_i, fMul_i, fDiv_i, fMod_i, fShl_i, fAnd_i, fXor_i, fShr_i, fLt_i, fLe_i, fGt_i, fGe_i, fEq_i, fNe_i, fNeg_i, ixN_3_0, ixN_3_1, ixN_3_2, ixN_2_0, ixN_2_1, ixN_1_0, truD_i, truD_b, intD_i, intD_b, absD_i, lenD_l, lenD_t, tupleD_l, tupleD_t, listD_l, listD_t, List.map_cons, List.map_nil, List.length_cons, List.length_nil, List.cons_append, List.nil_append, List.replicate_succ, List.replicate_zero, List.set_cons_zero, List.set_cons_succ, List.getElem?_cons_zero, List.getElem?_cons_succ, Option.getD_some, Option.bind_some, Option.map_some, true_and, and_true, Bool.false_eq_true, Nat.reduceAdd, Nat.reduceSub, Nat.reduceLeDiff, Nat.le_refl, Bool.and_true, Bool.and_self, Bool.not_true, Bool.not_false, if_true, if_false, reduceIte, Nat.zero_add, Nat.sub_self, (sure_full_ok hm ht).2, sums_in_ok hm, max_tb (Nat.two_pow_pos m), tb_len]
    rw [e]
/-- the table made of two -/
def made (a : Nat) (t1 t2 : Nat → Int) (k : Nat) : Int := Builtin.bitXor (t1 (k % 2 ^ a)) (t2 (k / 2 ^ a))
theorem made_bits {a b : Nat} {t1 t2 : Nat → Int} (h1 : Bits a t1) (h2 : Bits b t2) : Bits (a + b) (made a t1 t2) := fun k hk => by
  unfold made
  rcases h1 _ (mod_lt (k := k)) with e | e <;> rcases h2 _ (div_lt hk) with f | f <;> rw [e, f] <;> decide
theorem made_sgn {a b : Nat} {t1 t2 : Nat → Int} (h1 : Bits a t1) (h2 : Bits b t2) : ∀ k, k < 2 ^ (a + b) → sgn (made a t1 t2) k = two a (sgn t1) (sgn t2) k := fun k hk => by
  show 1 - 2 * Builtin.bitXor (t1 (k % 2 ^ a)) (t2 (k / 2 ^ a)) = (1 - 2 * t1 (k % 2 ^ a)) * (1 - 2 * t2 (k / 2 ^ a))
  rcases h1 _ (mod_lt (k := k)) with e | e <;> rcases h2 _ (div_lt hk) with f | f <;> rw [e, f] <;> rfl
theorem WH_made {a b r : Nat} {t1 t2 : Nat → Int} (h1 : Bits a t1) (h2 : Bits b t2) (hr : r < 2 ^ (a + b)) : WH (a + b) (sgn (made a t1 t2)) r = WH a (sgn t1) (r % 2 ^ a) * WH b (sgn t2) (r / 2 ^ a) := by
  rw [WH_congr (made_sgn h1 h2), WH_two hr]
theorem AC_congr {m k : Nat} {f g : Nat → Int} (hk : k < 2 ^ m) (h : ∀ q, q < 2 ^ m → f q = g q) : AC m f k = AC m g k := by
  unfold AC
  exact Sm_congr fun q hq => by rw [h q hq, h _ (xor_lt hq hk)]
theorem EE_made {a b : Nat} {t1 t2 : Nat → Int} (h1 : Bits a t1) (h2 : Bits b t2) : EE (a + b) (sgn (made a t1 t2)) = EE a (sgn t1) * EE b (sgn t2) := by
  rw [← EE_two]
  unfold EE
  exact Sm_congr fun k hk => by rw [made_sgn h1 h2 k hk, AC_congr hk (made_sgn h1 h2)]
theorem US_made {a b k : Nat} {t1 t2 : Nat → Int} (h1 : Bits a t1) (h2 : Bits b t2) (hk : k < 2 ^ (a + b)) :
    US (a + b) (made a t1 t2) k = US a t1 (k % 2 ^ a) * (((2 ^ b : Nat) : Int) - US b t2 (k / 2 ^ a)) + (((2 ^ a : Nat) : Int) - US a t1 (k % 2 ^ a)) * US b t2 (k / 2 ^ a) := by
  have e := AC_count hk (made_bits h1 h2)
  have e1 := AC_count (mod_lt (a := a) (k := k)) h1
  have e2 := AC_count (div_lt hk) h2
  have e3 : AC (a + b) (sgn (made a t1 t2)) k = AC a (sgn t1) (k % 2 ^ a) * AC b (sgn t2) (k / 2 ^ a) := by
    rw [AC_congr hk (made_sgn h1 h2), AC_two hk]
  rw [US_eq hk (made_bits h1 h2), US_eq mod_lt h1, US_eq (div_lt hk) h2]
  have e3 : AC (a + b) (fun k => 1 - 2 * made a t1 t2 k) k = AC a (fun k => 1 - 2 * t1 k) (k % 2 ^ a) * AC b (fun k => 1 - 2 * t2 k) (k / 2 ^ a) := e3
  rw [e, e1, e2, Nat.pow_add, Int.natCast_mul] at e3
  generalize ((2 ^ a : Nat) : Int) = A at *
  generalize ((2 ^ b : Nat) : Int) = B at *
  generalize ((Wk a t1 (k % 2 ^ a) : Nat) : Int) = U at *
  generalize ((Wk b t2 (k / 2 ^ a) : Nat) : Int) = V at *
  simp only [Int.mul_sub, Int.sub_mul, Int.mul_assoc, Int.mul_left_comm _ 2, Int.mul_comm B, Int.mul_comm V] at e3 ⊢
  omega
end Toy

namespace Toy
open PySem PySem.Spec PyProof.Rows L2 PD PM PX
abbrev nl (xs : List Nat) : List D := xs.map fun (x : Nat) => PyData.int (x : Int)
theorem erase_map {α β : Type} (f : α → β) : ∀ (xs : List α) (j : Nat), (xs.map f).eraseIdx j = (xs.eraseIdx j).map f
  | [], _ => rfl
  | _ :: _, 0 => rfl
  | x :: xs, j + 1 => by
    show f x :: (xs.map f).eraseIdx j = f x :: (xs.eraseIdx j).map f
    rw [erase_map f xs j]
theorem erase_perm {α : Type} : ∀ (xs : List α) (j : Nat) (h : j < xs.length), (xs[j] :: xs.eraseIdx j).Perm xs
  | x :: xs, 0, _ => List.Perm.refl _
  | x :: xs, j + 1, h => by
    have h' : j < xs.length := by simpa using h
    show (xs[j]'h' :: x :: xs.eraseIdx j).Perm (x :: xs)
    refine (List.Perm.swap x _ _).trans ?_
    exact List.Perm.cons x (erase_perm xs j h')
theorem pick_ok {c : Cel} {k0 n : Nat} {xs : List Nat} (hb : Box k0 c) (h0 : k0 < 2 ^ 30) (hn : n ≤ xs.length) (hx : xs.length ≤ 1000) : O (F__law_pick c [.list (nl xs), .int n]) fun p => ∃ ys zs : List Nat, p.1 = .own (.lst (nl ys)) ∧ (ys ++ zs).Perm xs ∧ ys.length = n ∧ Box (k0 + n) p.2 := by
  unfold F__law_pick b__law_pick
  have hm : minD [.int (n : Int), .int (xs.length : Int)] = some (.int (n : Int)) := by
    show some (PyData.int (if ((xs.length : Nat) : Int) < (n : Int) then _ else _)) = _
    rw [if_neg (by omega)]
  simp only [T_ret, T_eName, TN_val, TN_own, T_oName, TR_some, T_oVal, T_eC, T_eFrz, celD_lst, slotD_val, slotD_own, slotD_bor, rs_d, rs_s, rss_nil, rss_cons, T_op2, T_op2L, T_op1, T_opN, T_opNL, T_eBin, T_lBin, T_eUn, T_eFn, T_lFn, T_oNil, T_oCons, T_aNil, T_aCons, T_eTup, T_lLst, TB_bool, T_tOf, T_mTru, br_true, br_false, T_mAnd, T_mOr, T_mNot, T_eAnd, T_eOr, T_eNot, T_eIf, T_lIf, T_eChain, T_eIsi, T_mCall, T_mCallK, CB_own, CB_bor, T_mCallB, T_mCallT, TSV_val, TSV_own, T_eSV, TSL_own, T_lSV, sq_nx, sq_rt, sq_bk, sq_ct, T_sSeq, T_sSkip, T_sExpr, T_sRetV, T_sRetL, T_sRetS, T_sRetN, TRN_val, TRN_own, T_sRetName, T_sIf, T_sSetV, T_sSetL, TSet_val, TSet_own, T_sSetS, L2T_two, L3T_three, T_sPar, T_sPar3, T_sParL, T_sAug, T_sAsg, gN_eq, gT_eq, gsNil_eq, gsCons_eq, IX_own, IX_bor, O_gIx, T_mNoPart, TI_int, T_mPart, TLs_list, TTs_tuple, T_lCut, T_eCut, LO_nil, LO_cons, T_lOr, TAny_list, TAny_tuple, T_iAny, T_iEnumD, TZ_list, TZ_tuple, T_iZipD, TRg1_int, T_iRange1, TRg2_int, T_iRange2, TRg3_int, T_iRange3, lpK_nx, lpK_ct, lpK_bk, lpK_rt, fcK_nx, fcK_ct, fcK_bk, fcK_rt, wlK_nx, wlK_ct, wlK_bk, wlK_rt, wipe_nil, wipe_cons, back_nil, back_cons, noC_nil, noC_cons, noC1_none, noC1_val, T_comp_nil, T_lComp, MX_own, MX_bor, isCellLst_own, isCellLst_bor, T_eMut, T_eMeth, RP_lst, T_lRep, gL_eq, T_sParLL, T_sParVL, RG_int, T_lRange1, T_inK, T_eInK, T_eNinK, dictD_own, keyD_int, T_lDict, TO_nx, TO_val, TO_own, T0_bor, O_mkP, O_mkB, O_some, O_none, O_ite, O_bind, O_map, fAdd_i, fAddI_i, fSub_i, fMul_i, fDiv_i, fMod_i, fShl_i, fAnd_i, fXor_i, fShr_i, fLt_i, fLe_i, fGt_i, fGe_i, fEq_i, fNe_i, fNeg_i, ixN_3_0, ixN_3_1, ixN_3_2, ixN_2_0, ixN_2_1, ixN_1_0, truD_i, truD_b, intD_i, intD_b, absD_i, lenD_l, lenD_t, tupleD_l, tupleD_t, listD_l, listD_t, List.map_cons, List.map_nil, List.length_cons, List.length_nil, List.cons_append, List.nil_append, List.replicate_succ, List.replicate_zero, List.set_cons_zero, List.set_cons_succ, List.getElem?_cons_zero, List.getElem?_cons_succ, Option.getD_some, Option.bind_some, Option.map_some, true_and, and_true, Bool.false_eq_true, Nat.reduceAdd, Nat.reduceSub, Nat.reduceLeDiff, Nat.le_refl, Bool.and_true, Bool.and_self, Bool.not_true, Bool.not_false, if_true, if_false, reduceIte, Nat.zero_add, Nat.sub_self, T_sFor, List.length_map, hm]
  refine ⟨⟨by omega, by omega⟩, T_forN (fun i S => ∃ c x5, ∃ pool found : List Nat, S = [some (.bor c), some (.val (.list (nl xs))), some (.val (.int n)), some (.own (.lst (nl pool))), some (.own (.lst (nl found))), x5] ∧ (found ++ pool).Perm xs ∧ found.length = i ∧ Box (k0 + i) c) ⟨c, _, xs, [], rfl, List.Perm.refl _, rfl, hb⟩ ?_ ?_⟩
  · rintro i hi S ⟨c, x5, pool, found, rfl, hp, hf, hb⟩
    have hl : found.length + pool.length = xs.length := by rw [← hp.length_eq, List.length_append]
    simp only [T_ret, T_eName, TN_val, TN_own, T_oName, TR_some, T_oVal, T_eC, T_eFrz, celD_lst, slotD_val, slotD_own, slotD_bor, rs_d, rs_s, rss_nil, rss_cons, T_op2, T_op2L, T_op1, T_opN, T_opNL, T_eBin, T_lBin, T_eUn, T_eFn, T_lFn, T_oNil, T_oCons, T_aNil, T_aCons, T_eTup, T_lLst, TB_bool, T_tOf, T_mTru, br_true, br_false, T_mAnd, T_mOr, T_mNot, T_eAnd, T_eOr, T_eNot, T_eIf, T_lIf, T_eChain, T_eIsi, T_mCall, T_mCallK, CB_own, CB_bor, T_mCallB, T_mCallT, TSV_val, TSV_own, T_eSV, TSL_own, T_lSV, sq_nx, sq_rt, sq_bk, sq_ct, T_sSeq, T_sSkip, T_sExpr, T_sRetV, T_sRetL, T_sRetS, T_sRetN, TRN_val, TRN_own, T_sRetName, T_sIf, T_sSetV, T_sSetL, TSet_val, TSet_own, T_sSetS, L2T_two, L3T_three, T_sPar, T_sPar3, T_sParL, T_sAug, T_sAsg, gN_eq, gT_eq, gsNil_eq, gsCons_eq, IX_own, IX_bor, O_gIx, T_mNoPart, TI_int, T_mPart, TLs_list, TTs_tuple, T_lCut, T_eCut, LO_nil, LO_cons, T_lOr, TAny_list, TAny_tuple, T_iAny, T_iEnumD, TZ_list, TZ_tuple, T_iZipD, TRg1_int, T_iRange1, TRg2_int, T_iRange2, TRg3_int, T_iRange3, lpK_nx, lpK_ct, lpK_bk, lpK_rt, fcK_nx, fcK_ct, fcK_bk, fcK_rt, wlK_nx, wlK_ct, wlK_bk, wlK_rt, wipe_nil, wipe_cons, back_nil, back_cons, noC_nil, noC_cons, noC1_none, noC1_val, T_comp_nil, T_lComp, MX_own, MX_bor, isCellLst_own, isCellLst_bor, T_eMut, T_eMeth, RP_lst, T_lRep, gL_eq, T_sParLL, T_sParVL, RG_int, T_lRange1, T_inK, T_eInK, T_eNinK, dictD_own, keyD_int, T_lDict, TO_nx, TO_val, TO_own, T0_bor, O_mkP, O_mkB, O_some, O_none, O_ite, O_bind, O_map, fAdd_i, fAddI_i, fSub_i, fMul_i, fDiv_i, fMod_i, fShl_i, fAnd_i, fXor_i, fShr_i, fLt_i, fLe_i, fGt_i, fGe_i, fEq_i, fNe_i, fNeg_i, ixN_3_0, ixN_3_1, ixN_3_2, ixN_2_0, ixN_2_1, ixN_1_0, truD_i, truD_b, intD_i, intD_b, absD_i, lenD_l, lenD_t, tupleD_l, tupleD_t, listD_l, listD_t, List.map_cons, List.map_nil, List.length_cons, List.length_nil, List.cons_append, List.nil_append, List.replicate_succ, List.replicate_zero, List.set_cons_zero, List.set_cons_succ, List.getElem?_cons_zero, List.getElem?_cons_succ, Option.getD_some, Option.bind_some, Option.map_some, true_and, and_true, Bool.false_eq_true, Nat.reduceAdd, Nat.reduceSub, Nat.reduceLeDiff, Nat.le_refl, Bool.and_true, Bool.and_self, Bool.not_true, Bool.not_false, if_true, if_false, reduceIte, Nat.zero_add, Nat.sub_self, List.length_map]
    refine O_mono (take_ok _ c pool.length hb (by omega) (by omega) (by omega)) ?_
    rintro ⟨_, c1⟩ ⟨r, rfl, h1, h2, hb1⟩
    obtain ⟨j, rfl⟩ := Int.eq_ofNat_of_zero_le h1
    dsimp only at hb1
    have hj : j < pool.length := by omega
    simp only [T_ret, T_eName, TN_val, TN_own, T_oName, TR_some, T_oVal, T_eC, T_eFrz, celD_lst, slotD_val, slotD_own, slotD_bor, rs_d, rs_s, rss_nil, rss_cons, T_op2, T_op2L, T_op1, T_opN, T_opNL, T_eBin, T_lBin, T_eUn, T_eFn, T_lFn, T_oNil, T_oCons, T_aNil, T_aCons, T_eTup, T_lLst, TB_bool, T_tOf, T_mTru, br_true, br_false, T_mAnd, T_mOr, T_mNot, T_eAnd, T_eOr, T_eNot, T_eIf, T_lIf, T_eChain, T_eIsi, T_mCall, T_mCallK, CB_own, CB_bor, T_mCallB, T_mCallT, TSV_val, TSV_own, T_eSV, TSL_own, T_lSV, sq_nx, sq_rt, sq_bk, sq_ct, T_sSeq, T_sSkip, T_sExpr, T_sRetV, T_sRetL, T_sRetS, T_sRetN, TRN_val, TRN_own, T_sRetName, T_sIf, T_sSetV, T_sSetL, TSet_val, TSet_own, T_sSetS, L2T_two, L3T_three, T_sPar, T_sPar3, T_sParL, T_sAug, T_sAsg, gN_eq, gT_eq, gsNil_eq, gsCons_eq, IX_own, IX_bor, O_gIx, T_mNoPart, TI_int, T_mPart, TLs_list, TTs_tuple, T_lCut, T_eCut, LO_nil, LO_cons, T_lOr, TAny_list, TAny_tuple, T_iAny, T_iEnumD, TZ_list, TZ_tuple, T_iZipD, TRg1_int, T_iRange1, TRg2_int, T_iRange2, TRg3_int, T_iRange3, lpK_nx, lpK_ct, lpK_bk, lpK_rt, fcK_nx, fcK_ct, fcK_bk, fcK_rt, wlK_nx, wlK_ct, wlK_bk, wlK_rt, wipe_nil, wipe_cons, back_nil, back_cons, noC_nil, noC_cons, noC1_none, noC1_val, T_comp_nil, T_lComp, MX_own, MX_bor, isCellLst_own, isCellLst_bor, T_eMut, T_eMeth, RP_lst, T_lRep, gL_eq, T_sParLL, T_sParVL, RG_int, T_lRange1, T_inK, T_eInK, T_eNinK, dictD_own, keyD_int, T_lDict, TO_nx, TO_val, TO_own, T0_bor, O_mkP, O_mkB, O_some, O_none, O_ite, O_bind, O_map, fAdd_i, fAddI_i, fSub_i, fMul_i, fDiv_i, fMod_i, fShl_i, fAnd_i, fXor_i, fShr_i, fLt_i, fLe_i, fGt_i, fGe_i, fEq_i, fNe_i, fNeg_i, ixN_3_0, ixN_3_1, ixN_3_2, ixN_2_0, ixN_2_1, ixN_1_0, truD_i, truD_b, intD_i, intD_b, absD_i, lenD_l, lenD_t, tupleD_l, tupleD_t, listD_l, listD_t, List.map_cons, List.map_nil, List.length_cons, List.length_nil, List.cons_append, List.nil_append, List.replicate_succ, List.replicate_zero, List.set_cons_zero, List.set_cons_succ, List.getElem?_cons_zero, List.getElem?_cons_succ, Option.getD_some, Option.bind_some, Option.map_some, true_and, and_true, Bool.false_eq_true, Nat.reduceAdd, Nat.reduceSub, Nat.reduceLeDiff, Nat.le_refl, Bool.and_true, Bool.and_self, Bool.not_true, Bool.not_false, if_true, if_false, reduceIte, Nat.zero_add, Nat.sub_self]
    have e1 : popAtD (nl pool) [.int (j : Int)] = some (.int (pool[j] : Int), nl (pool.eraseIdx j)) := by
      show (if _ then _ else _) = _
      rw [if_pos ⟨by omega, by rw [List.length_map]; omega, by rw [List.length_map]; omega⟩, Int.toNat_natCast, List.getElem?_map, List.getElem?_eq_getElem hj, erase_map]
      rfl
    rw [e1]
    simp only [T_ret, T_eName, TN_val, TN_own, T_oName, TR_some, T_oVal, T_eC, T_eFrz, celD_lst, slotD_val, slotD_own, slotD_bor, rs_d, rs_s, rss_nil, rss_cons, T_op2, T_op2L, T_op1, T_opN, T_opNL, T_eBin, T_lBin, T_eUn, T_eFn, T_lFn, T_oNil, T_oCons, T_aNil, T_aCons, T_eTup, T_lLst, TB_bool, T_tOf, T_mTru, br_true, br_false, T_mAnd, T_mOr, T_mNot, T_eAnd, T_eOr, T_eNot, T_eIf, T_lIf, T_eChain, T_eIsi, T_mCall, T_mCallK, CB_own, CB_bor, T_mCallB, T_mCallT, TSV_val, TSV_own, T_eSV, TSL_own, T_lSV, sq_nx, sq_rt, sq_bk, sq_ct, T_sSeq, T_sSkip, T_sExpr, T_sRetV, T_sRetL, T_sRetS, T_sRetN, TRN_val, TRN_own, T_sRetName, T_sIf, T_sSetV, T_sSetL, TSet_val, TSet_own, T_sSetS, L2T_two, L3T_three, T_sPar, T_sPar3, T_sParL, T_sAug, T_sAsg, gN_eq, gT_eq, gsNil_eq, gsCons_eq, IX_own, IX_bor, O_gIx, T_mNoPart, TI_int, T_mPart, TLs_list, TTs_tuple, T_lCut, T_eCut, LO_nil, LO_cons, T_lOr, TAny_list, TAny_tuple, T_iAny, T_iEnumD, TZ_list, TZ_tuple, T_iZipD, TRg1_int, T_iRange1, TRg2_int, T_iRange2, TRg3_int, T_iRange3, lpK_nx, lpK_ct, lpK_bk, lpK_rt, fcK_nx, fcK_ct, fcK_bk, fcK_rt, wlK_nx, wlK_ct, wlK_bk, wlK_rt, wipe_nil, wipe_cons, back_nil, back_cons, noC_nil, noC_cons, noC1_none, noC1_val, T_comp_nil, T_lComp, MX_own, MX_bor, isCellLst_own, isCellLst_bor, T_eMut, T_eMeth, RP_lst, T_lRep, gL_eq, T_sParLL, T_sParVL, RG_int, T_lRange1, T_inK, T_eInK, T_eNinK, dictD_own, keyD_int, T_lDict, TO_nx, TO_val, TO_own, T0_bor, O_mkP, O_mkB, O_some, O_none, O_ite, O_bind, O_map, fAdd_i, fAddI_i, fSub_i, fMul_i, fDiv_i, fMod_i, fShl_i, fAnd_i, fXor_i, fShr_i, fLt_i, fLe_i, fGt_i, fGe_i, fEq_i, fNe_i, fNeg_i, ixN_3_0, ixN_3_1, ixN_3_2, ixN_2_0, ixN_2_1, ixN_1_0, truD_i, truD_b, intD_i, intD_b, absD_i, lenD_l, lenD_t, tupleD_l, tupleD_t, listD_l, listD_t, List.map_cons, List.map_nil, List.length_cons, List.length_nil, List.cons_append, List.nil_append, List.replicate_succ, List.replicate_zero, List.set_cons_zero, List.set_cons_succ, List.getElem?_cons_zero, List.getElem?_cons_succ, Option.getD_some, Option.bind_some, Option.map_some, true_and, and_true, Bool.false_eq_true, Nat.reduceAdd, Nat.reduceSub, Nat.reduceLeDiff, Nat.le_refl, Bool.and_true, Bool.and_self, Bool.not_true, Bool.not_false, if_true, if_false, reduceIte, Nat.zero_add, Nat.sub_self]
    have e2 : appendD (nl found) [.int (pool[j] : Int)] = some (.none, nl (found ++ [pool[j]])) := by
      show (if _ then _ else _) = _
      rw [if_pos (by rw [List.length_map]; omega), show nl (found ++ [pool[j]]) = nl found ++ [.int (pool[j] : Int)] from List.map_append]
    rw [e2]
    simp only [T_ret, T_eName, TN_val, TN_own, T_oName, TR_some, T_oVal, T_eC, T_eFrz, celD_lst, slotD_val, slotD_own, slotD_bor, rs_d, rs_s, rss_nil, rss_cons, T_op2, T_op2L, T_op1, T_opN, T_opNL, T_eBin, T_lBin, T_eUn, T_eFn, T_lFn, T_oNil, T_oCons, T_aNil, T_aCons, T_eTup, T_lLst, TB_bool, T_tOf, T_mTru, br_true, br_false, T_mAnd, T_mOr, T_mNot, T_eAnd, T_eOr, T_eNot, T_eIf, T_lIf, T_eChain, T_eIsi, T_mCall, T_mCallK, CB_own, CB_bor, T_mCallB, T_mCallT, TSV_val, TSV_own, T_eSV, TSL_own, T_lSV, sq_nx, sq_rt, sq_bk, sq_ct, T_sSeq, T_sSkip, T_sExpr, T_sRetV, T_sRetL, T_sRetS, T_sRetN, TRN_val, TRN_own, T_sRetName, T_sIf, T_sSetV, T_sSetL, TSet_val, TSet_own, T_sSetS, L2T_two, L3T_three, T_sPar, T_sPar3, T_sParL, T_sAug, T_sAsg, gN_eq, gT_eq, gsNil_eq, gsCons_eq, IX_own, IX_bor, O_gIx, T_mNoPart, TI_int, T_mPart, TLs_list, TTs_tuple, T_lCut, T_eCut, LO_nil, LO_cons, T_lOr, TAny_list, TAny_tuple, T_iAny, T_iEnumD, TZ_list, TZ_tuple, T_iZipD, TRg1_int, T_iRange1, TRg2_int, T_iRange2, TRg3_int, T_iRange3, lpK_nx, lpK_ct, lpK_bk, lpK_rt, fcK_nx, fcK_ct, fcK_bk, fcK_rt, wlK_nx, wlK_ct, wlK_bk, wlK_rt, wipe_nil, wipe_cons, back_nil, back_cons, noC_nil, noC_cons, noC1_none, noC1_val, T_comp_nil, T_lComp, MX_own, MX_bor, isCellLst_own, isCellLst_bor, T_eMut, T_eMeth, RP_lst, T_lRep, gL_eq, T_sParLL, T_sParVL, RG_int, T_lRange1, T_inK, T_eInK, T_eNinK, dictD_own, keyD_int, T_lDict, TO_nx, TO_val, TO_own, T0_bor, O_mkP, O_mkB, O_some, O_none, O_ite, O_bind, O_map, fAdd_i, fAddI_i, fSub_i, fMul_i, fDiv_i, fMod_i, fShl_i, fAnd_i, fXor_i, fShr_i, fLt_i, fLe_i, fGt_i, fGe_i, fEq_i, fNe_i, fNeg_i, ixN_3_0, ixN_3_1, ixN_3_2, ixN_2_0, ixN_2_1, ixN_1_0, truD_i, truD_b, intD_i, intD_b, absD_i, lenD_l, lenD_t, tupleD_l, tupleD_t, listD_l, listD_t, List.map_cons, List.map_nil, List.length_cons, List.length_nil, List.cons_append, List.nil_append, List.replicate_succ, List.replicate_zero, List.set_cons_zero, List.set_cons_succ, List.getElem?_cons_zero, List.getElem?_cons_succ, Option.getD_some, Option.bind_some, Option.map_some, true_and, and_true, Bool.false_eq_true, Nat.reduceAdd, Nat.reduceSub, Nat.reduceLeDiff, Nat.le_refl, Bool.and_true, Bool.and_self, Bool.not_true, Bool.not_false, if_true, if_false, reduceIte, Nat.zero_add, Nat.sub_self]
    refine ⟨c1, _, pool.eraseIdx j, found ++ [pool[j]], rfl, ?_, by rw [List.length_append, hf]; rfl, hb1⟩
    refine List.Perm.trans ?_ hp
    rw [List.append_assoc]
    refine List.Perm.append_left _ ?_
    exact erase_perm pool j hj
  · rintro S ⟨c, x5, pool, found, rfl, hp, hf, hb⟩
    simp only [T_ret, T_eName, TN_val, TN_own, T_oName, TR_some, T_oVal, T_eC, T_eFrz, celD_lst, slotD_val, slotD_own, slotD_bor, rs_d, rs_s, rss_nil, rss_cons, T_op2, T_op2L, T_op1, T_opN, T_opNL, T_eBin, T_lBin, T_eUn, T_eFn, T_lFn, T_oNil, T_oCons, T_aNil, T_aCons, T_eTup, T_lLst, TB_bool, T_tOf, T_mTru, br_true, br_false, T_mAnd, T_mOr, T_mNot, T_eAnd, T_eOr, T_eNot, T_eIf, T_lIf, T_eChain, T_eIsi, T_mCall, T_mCallK, CB_own, CB_bor, T_mCallB, T_mCallT, TSV_val, TSV_own, T_eSV, TSL_own, T_lSV, sq_nx, sq_rt, sq_bk, sq_ct, T_sSeq, T_sSkip, T_sExpr, T_sRetV, T_sRetL, T_sRetS, T_sRetN, TRN_val, TRN_own, T_sRetName, T_sIf, T_sSetV, T_sSetL, TSet_val, TSet_own, T_sSetS, L2T_two, L3T_three, T_sPar, T_sPar3, T_sParL, T_sAug, T_sAsg, gN_eq, gT_eq, gsNil_eq, gsCons_eq, IX_own, IX_bor, O_gIx, T_mNoPart, TI_int, T_mPart, TLs_list, TTs_tuple, T_lCut, T_eCut, LO_nil, LO_cons, T_lOr, TAny_list, TAny_tuple, T_iAny, T_iEnumD, TZ_list, TZ_tuple, T_iZipD, TRg1_int, T_iRange1, TRg2_int, T_iRange2, TRg3_int, T_iRange3, lpK_nx, lpK_ct, lpK_bk, lpK_rt, fcK_nx, fcK_ct, fcK_bk, fcK_rt, wlK_nx, wlK_ct, wlK_bk, wlK_rt, wipe_nil, wipe_cons, back_nil, back_cons, noC_nil, noC_cons, noC1_none, noC1_val, T_comp_nil, T_lComp, MX_own, MX_bor, isCellLst_own, isCellLst_bor, T_eMut, T_eMeth, RP_lst, T_lRep, gL_eq, T_sParLL, T_sParVL, RG_int, T_lRange1, T_inK, T_eInK, T_eNinK, dictD_own, keyD_int, T_lDict, TO_nx, TO_val, TO_own, T0_bor, O_mkP, O_mkB, O_some, O_none, O_ite, O_bind, O_map, fAdd_i, fAddI_i, fSub_i, fMul_i, fDiv_i, fMod_i, fShl_i, fAnd_i, fXor_i, fShr_i, fLt_i, fLe_i, fGt_i, fGe_i, fEq_i, fNe_i, fNeg_i, ixN_3_0, ixN_3_1, ixN_3_2, ixN_2_0, ixN_2_1, ixN_1_0, truD_i, truD_b, intD_i, intD_b, absD_i, lenD_l, lenD_t, tupleD_l, tupleD_t, listD_l, listD_t, List.map_cons, List.map_nil, List.length_cons, List.length_nil, List.cons_append, List.nil_append, List.replicate_succ, List.replicate_zero, List.set_cons_zero, List.set_cons_succ, List.getElem?_cons_zero, List.getElem?_cons_succ, Option.getD_some, Option.bind_some, Option.map_some, true_and, and_true, Bool.false_eq_true, Nat.reduceAdd, Nat.reduceSub, Nat.reduceLeDiff, Nat.le_refl, Bool.and_true, Bool.and_self, Bool.not_true, Bool.not_false, if_true, if_false, reduceIte, Nat.zero_add, Nat.sub_self]
    exact ⟨found, pool, rfl, hp, hf, hb⟩
/-! ### told tables -/
abbrev il (ys : List Int) : List D := ys.map PyData.int
theorem fls_il : ∀ (ys : List Int), flsD (il ys) = some (ys.map V.int)
  | [] => rfl
  | y :: ys => by
    show (some (V.int y)).bind _ = _
    rw [Option.bind_some, fls_il ys]; rfl
theorem inV_il {x : Int} : ∀ (ys : List Int), inV (.int x) (ys.map V.int) = decide (x ∈ ys)
  | [] => by simp [inV]
  | y :: ys => by
    have := inV_il (x := x) ys
    unfold inV at this ⊢
    rw [List.map_cons, List.any_cons, this]
    rw [show eqV (.int y) (.int x) = (y == x) from rfl]
    by_cases e : x = y
    · subst e; simp
    · have : (y == x) = false := by simp; exact fun z => e z.symm
      rw [this, Bool.false_or, decide_eq_decide]
      simp [e]
theorem fIn_il {x : Int} {ys : List Int} : fIn (.int x) (.tuple (il ys)) = some (.bool (decide (x ∈ ys))) := by
  show (flsD (il ys)).map _ = _
  rw [fls_il, Option.map_some, inV_il]
structure Told (m r : Nat) (ys : List Int) : Prop where
  m820 : m ≤ 820
  rlt : r < 2 ^ m
  len : ys.length ≤ 24
  up : ys.Pairwise (· < ·)
  ge : ∀ y ∈ ys, ∃ k : Nat, y = k ∧ k < 2 ^ m
abbrev tld (m r : Nat) (ys : List Int) : D := .tuple [.int m, .int r, .tuple (il ys)]
theorem ascends_ok {ys : List Int} (h : ys.Pairwise (· < ·)) (hl : ys.length ≤ 1000) : F_ascends [.tuple (il ys)] = some (.val (.bool true)) := by
  apply O_is.mp
  unfold F_ascends b_ascends
  simp only [T_ret, T_eName, TN_val, TN_own, T_oName, TR_some, T_oVal, T_eC, T_eFrz, celD_lst, slotD_val, slotD_own, slotD_bor, rs_d, rs_s, rss_nil, rss_cons, T_op2, T_op2L, T_op1, T_opN, T_opNL, T_eBin, T_lBin, T_eUn, T_eFn, T_lFn, T_oNil, T_oCons, T_aNil, T_aCons, T_eTup, T_lLst, TB_bool, T_tOf, T_mTru, br_true, br_false, T_mAnd, T_mOr, T_mNot, T_eAnd, T_eOr, T_eNot, T_eIf, T_lIf, T_eChain, T_eIsi, T_mCall, T_mCallK, CB_own, CB_bor, T_mCallB, T_mCallT, TSV_val, TSV_own, T_eSV, TSL_own, T_lSV, sq_nx, sq_rt, sq_bk, sq_ct, T_sSeq, T_sSkip, T_sExpr, T_sRetV, T_sRetL, T_sRetS, T_sRetN, TRN_val, TRN_own, T_sRetName, T_sIf, T_sSetV, T_sSetL, TSet_val, TSet_own, T_sSetS, L2T_two, L3T_three, T_sPar, T_sPar3, T_sParL, T_sAug, T_sAsg, gN_eq, gT_eq, gsNil_eq, gsCons_eq, IX_own, IX_bor, O_gIx, T_mNoPart, TI_int, T_mPart, TLs_list, TTs_tuple, T_lCut, T_eCut, LO_nil, LO_cons, T_lOr, TAny_list, TAny_tuple, T_iAny, T_iEnumD, TZ_list, TZ_tuple, T_iZipD, TRg1_int, T_iRange1, TRg2_int, T_iRange2, TRg3_int, T_iRange3, lpK_nx, lpK_ct, lpK_bk, lpK_rt, fcK_nx, fcK_ct, fcK_bk, fcK_rt, wlK_nx, wlK_ct, wlK_bk, wlK_rt, wipe_nil, wipe_cons, back_nil, back_cons, noC_nil, noC_cons, noC1_none, noC1_val, T_comp_nil, T_lComp, MX_own, MX_bor, isCellLst_own, isCellLst_bor, T_eMut, T_eMeth, RP_lst, T_lRep, gL_eq, T_sParLL, T_sParVL, RG_int, T_lRange1, T_inK, T_eInK, T_eNinK, dictD_own, keyD_int, T_lDict, TO_nx, TO_val, TO_own, T0_bor, O_mkP, O_mkB, O_some, O_none, O_ite, O_bind, O_map, fAdd_i, fAddI_i, fSub_i, fMul_i, fDiv_i, fMod_i, fShl_i, fAnd_i, fXor_i, fShr_i, fLt_i, fLe_i, fGt_i, fGe_i, fEq_i, fNe_i, fNeg_i, ixN_3_0, ixN_3_1, ixN_3_2, ixN_2_0, ixN_2_1, ixN_1_0, truD_i, truD_b, intD_i, intD_b, absD_i, lenD_l, lenD_t, tupleD_l, tupleD_t, listD_l, listD_t, List.map_cons, List.map_nil, List.length_cons, List.length_nil, List.cons_append, List.nil_append, List.replicate_succ, List.replicate_zero, List.set_cons_zero, List.set_cons_succ, List.getElem?_cons_zero, List.getElem?_cons_succ, Option.getD_some, Option.bind_some, Option.map_some, true_and, and_true, Bool.false_eq_true, Nat.reduceAdd, Nat.reduceSub, Nat.reduceLeDiff, Nat.le_refl, Bool.and_true, Bool.and_self, Bool.not_true, Bool.not_false, if_true, if_false, reduceIte, Nat.zero_add, Nat.sub_self, List.length_map]
  refine ⟨⟨by omega, by omega⟩, by rw [range_len]; omega, T_compMap (fun _ => .bool true) ?_ ?_⟩
  · intro d hd
    obtain ⟨i, hi⟩ := List.getElem?_of_mem hd
    obtain ⟨h1, rfl⟩ := range_get hi
    have g1 : i < ys.length := by omega
    have g2 : i + 1 < ys.length := by omega
    have a1 : (il ys)[i]? = some (.int ys[i]) := by rw [List.getElem?_map, List.getElem?_eq_getElem g1]; rfl
    have a2 : (il ys)[i + 1]? = some (.int ys[i + 1]) := by rw [List.getElem?_map, List.getElem?_eq_getElem g2]; rfl
    rw [Int.zero_add]
    have e : (i : Int) + 1 = ((i + 1 : Nat) : Int) := rfl
    simp only [T_ret, T_eName, TN_val, TN_own, T_oName, TR_some, T_oVal, T_eC, T_eFrz, celD_lst, slotD_val, slotD_own, slotD_bor, rs_d, rs_s, rss_nil, rss_cons, T_op2, T_op2L, T_op1, T_opN, T_opNL, T_eBin, T_lBin, T_eUn, T_eFn, T_lFn, T_oNil, T_oCons, T_aNil, T_aCons, T_eTup, T_lLst, TB_bool, T_tOf, T_mTru, br_true, br_false, T_mAnd, T_mOr, T_mNot, T_eAnd, T_eOr, T_eNot, T_eIf, T_lIf, T_eChain, T_eIsi, T_mCall, T_mCallK, CB_own, CB_bor, T_mCallB, T_mCallT, TSV_val, TSV_own, T_eSV, TSL_own, T_lSV, sq_nx, sq_rt, sq_bk, sq_ct, T_sSeq, T_sSkip, T_sExpr, T_sRetV, T_sRetL, T_sRetS, T_sRetN, TRN_val, TRN_own, T_sRetName, T_sIf, T_sSetV, T_sSetL, TSet_val, TSet_own, T_sSetS, L2T_two, L3T_three, T_sPar, T_sPar3, T_sParL, T_sAug, T_sAsg, gN_eq, gT_eq, gsNil_eq, gsCons_eq, IX_own, IX_bor, O_gIx, T_mNoPart, TI_int, T_mPart, TLs_list, TTs_tuple, T_lCut, T_eCut, LO_nil, LO_cons, T_lOr, TAny_list, TAny_tuple, T_iAny, T_iEnumD, TZ_list, TZ_tuple, T_iZipD, TRg1_int, T_iRange1, TRg2_int, T_iRange2, TRg3_int, T_iRange3, lpK_nx, lpK_ct, lpK_bk, lpK_rt, fcK_nx, fcK_ct, fcK_bk, fcK_rt, wlK_nx, wlK_ct, wlK_bk, wlK_rt, wipe_nil, wipe_cons, back_nil, back_cons, noC_nil, noC_cons, noC1_none, noC1_val, T_comp_nil, T_lComp, MX_own, MX_bor, isCellLst_own, isCellLst_bor, T_eMut, T_eMeth, RP_lst, T_lRep, gL_eq, T_sParLL, T_sParVL, RG_int, T_lRange1, T_inK, T_eInK, T_eNinK, dictD_own, keyD_int, T_lDict, TO_nx, TO_val, TO_own, T0_bor, O_mkP, O_mkB, O_some, O_none, O_ite, O_bind, O_map, fAdd_i, fAddI_i, fSub_i, fMul_i, fDiv_i, fMod_i, fShl_i, fAnd_i, fXor_i, fShr_i, fLt_i, fLe_i, fGt_i, fGe_i, fEq_i, fNe_i, fNeg_i, ixN_3_0, ixN_3_1, ixN_3_2, ixN_2_0, ixN_2_1, ixN_1_0, truD_i, truD_b, intD_i, intD_b, absD_i, lenD_l, lenD_t, tupleD_l, tupleD_t, listD_l, listD_t, List.map_cons, List.map_nil, List.length_cons, List.length_nil, List.cons_append, List.nil_append, List.replicate_succ, List.replicate_zero, List.set_cons_zero, List.set_cons_succ, List.getElem?_cons_zero, List.getElem?_cons_succ, Option.getD_some, Option.bind_some, Option.map_some, true_and, and_true, Bool.false_eq_true, Nat.reduceAdd, Nat.reduceSub, Nat.reduceLeDiff, Nat.le_refl, Bool.and_true, Bool.and_self, Bool.not_true, Bool.not_false, if_true, if_false, reduceIte, Nat.zero_add, Nat.sub_self, e, atD_t, List.length_map, ixN_nat (n := ys.length) (k := i) g1, ixN_nat (n := ys.length) (k := i + 1) g2, a1, a2]
    rw [decide_eq_true (List.pairwise_iff_getElem.mp h i (i + 1) g1 g2 (by omega))]
  · simp only [T_ret, T_eName, TN_val, TN_own, T_oName, TR_some, T_oVal, T_eC, T_eFrz, celD_lst, slotD_val, slotD_own, slotD_bor, rs_d, rs_s, rss_nil, rss_cons, T_op2, T_op2L, T_op1, T_opN, T_opNL, T_eBin, T_lBin, T_eUn, T_eFn, T_lFn, T_oNil, T_oCons, T_aNil, T_aCons, T_eTup, T_lLst, TB_bool, T_tOf, T_mTru, br_true, br_false, T_mAnd, T_mOr, T_mNot, T_eAnd, T_eOr, T_eNot, T_eIf, T_lIf, T_eChain, T_eIsi, T_mCall, T_mCallK, CB_own, CB_bor, T_mCallB, T_mCallT, TSV_val, TSV_own, T_eSV, TSL_own, T_lSV, sq_nx, sq_rt, sq_bk, sq_ct, T_sSeq, T_sSkip, T_sExpr, T_sRetV, T_sRetL, T_sRetS, T_sRetN, TRN_val, TRN_own, T_sRetName, T_sIf, T_sSetV, T_sSetL, TSet_val, TSet_own, T_sSetS, L2T_two, L3T_three, T_sPar, T_sPar3, T_sParL, T_sAug, T_sAsg, gN_eq, gT_eq, gsNil_eq, gsCons_eq, IX_own, IX_bor, O_gIx, T_mNoPart, TI_int, T_mPart, TLs_list, TTs_tuple, T_lCut, T_eCut, LO_nil, LO_cons, T_lOr, TAny_list, TAny_tuple, T_iAny, T_iEnumD, TZ_list, TZ_tuple, T_iZipD, TRg1_int, T_iRange1, TRg2_int, T_iRange2, TRg3_int, T_iRange3, lpK_nx, lpK_ct, lpK_bk, lpK_rt, fcK_nx, fcK_ct, fcK_bk, fcK_rt, wlK_nx, wlK_ct, wlK_bk, wlK_rt, wipe_nil, wipe_cons, back_nil, back_cons, noC_nil, noC_cons, noC1_none, noC1_val, T_comp_nil, T_lComp, MX_own, MX_bor, isCellLst_own, isCellLst_bor, T_eMut, T_eMeth, RP_lst, T_lRep, gL_eq, T_sParLL, T_sParVL, RG_int, T_lRange1, T_inK, T_eInK, T_eNinK, dictD_own, keyD_int, T_lDict, TO_nx, TO_val, TO_own, T0_bor, O_mkP, O_mkB, O_some, O_none, O_ite, O_bind, O_map, fAdd_i, fAddI_i, fSub_i, fMul_i, fDiv_i, fMod_i, fShl_i, fAnd_i, fXor_i, fShr_i, fLt_i, fLe_i, fGt_i, fGe_i, fEq_i, fNe_i, fNeg_i, ixN_3_0, ixN_3_1, ixN_3_2, ixN_2_0, ixN_2_1, ixN_1_0, truD_i, truD_b, intD_i, intD_b, absD_i, lenD_l, lenD_t, tupleD_l, tupleD_t, listD_l, listD_t, List.map_cons, List.map_nil, List.length_cons, List.length_nil, List.cons_append, List.nil_append, List.replicate_succ, List.replicate_zero, List.set_cons_zero, List.set_cons_succ, List.getElem?_cons_zero, List.getElem?_cons_succ, Option.getD_some, Option.bind_some, Option.map_some, true_and, and_true, Bool.false_eq_true, Nat.reduceAdd, Nat.reduceSub, Nat.reduceLeDiff, Nat.le_refl, Bool.and_true, Bool.and_self, Bool.not_true, Bool.not_false, if_true, if_false, reduceIte, Nat.zero_add, Nat.sub_self, all_true]
theorem tupled_il {n : Nat} {ys : List Int} (hl : ys.length ≤ 1000000) : R_tupled (n + 2) [.tuple (il ys)] = some (.val (.tuple (il ys))) := by
  apply O_is.mp
  unfold R_tupled b_tupled
  simp only [T_ret, T_eName, TN_val, TN_own, T_oName, TR_some, T_oVal, T_eC, T_eFrz, celD_lst, slotD_val, slotD_own, slotD_bor, rs_d, rs_s, rss_nil, rss_cons, T_op2, T_op2L, T_op1, T_opN, T_opNL, T_eBin, T_lBin, T_eUn, T_eFn, T_lFn, T_oNil, T_oCons, T_aNil, T_aCons, T_eTup, T_lLst, TB_bool, T_tOf, T_mTru, br_true, br_false, T_mAnd, T_mOr, T_mNot, T_eAnd, T_eOr, T_eNot, T_eIf, T_lIf, T_eChain, T_eIsi, T_mCall, T_mCallK, CB_own, CB_bor, T_mCallB, T_mCallT, TSV_val, TSV_own, T_eSV, TSL_own, T_lSV, sq_nx, sq_rt, sq_bk, sq_ct, T_sSeq, T_sSkip, T_sExpr, T_sRetV, T_sRetL, T_sRetS, T_sRetN, TRN_val, TRN_own, T_sRetName, T_sIf, T_sSetV, T_sSetL, TSet_val, TSet_own, T_sSetS, L2T_two, L3T_three, T_sPar, T_sPar3, T_sParL, T_sAug, T_sAsg, gN_eq, gT_eq, gsNil_eq, gsCons_eq, IX_own, IX_bor, O_gIx, T_mNoPart, TI_int, T_mPart, TLs_list, TTs_tuple, T_lCut, T_eCut, LO_nil, LO_cons, T_lOr, TAny_list, TAny_tuple, T_iAny, T_iEnumD, TZ_list, TZ_tuple, T_iZipD, TRg1_int, T_iRange1, TRg2_int, T_iRange2, TRg3_int, T_iRange3, lpK_nx, lpK_ct, lpK_bk, lpK_rt, fcK_nx, fcK_ct, fcK_bk, fcK_rt, wlK_nx, wlK_ct, wlK_bk, wlK_rt, wipe_nil, wipe_cons, back_nil, back_cons, noC_nil, noC_cons, noC1_none, noC1_val, T_comp_nil, T_lComp, MX_own, MX_bor, isCellLst_own, isCellLst_bor, T_eMut, T_eMeth, RP_lst, T_lRep, gL_eq, T_sParLL, T_sParVL, RG_int, T_lRange1, T_inK, T_eInK, T_eNinK, dictD_own, keyD_int, T_lDict, TO_nx, TO_val, TO_own, T0_bor, O_mkP, O_mkB, O_some, O_none, O_ite, O_bind, O_map, fAdd_i, fAddI_i, fSub_i, fMul_i, fDiv_i, fMod_i, fShl_i, fAnd_i, fXor_i, fShr_i, fLt_i, fLe_i, fGt_i, fGe_i, fEq_i, fNe_i, fNeg_i, ixN_3_0, ixN_3_1, ixN_3_2, ixN_2_0, ixN_2_1, ixN_1_0, truD_i, truD_b, intD_i, intD_b, absD_i, lenD_l, lenD_t, tupleD_l, tupleD_t, listD_l, listD_t, List.map_cons, List.map_nil, List.length_cons, List.length_nil, List.cons_append, List.nil_append, List.replicate_succ, List.replicate_zero, List.set_cons_zero, List.set_cons_succ, List.getElem?_cons_zero, List.getElem?_cons_succ, Option.getD_some, Option.bind_some, Option.map_some, true_and, and_true, Bool.false_eq_true, Nat.reduceAdd, Nat.reduceSub, Nat.reduceLeDiff, Nat.le_refl, Bool.and_true, Bool.and_self, Bool.not_true, Bool.not_false, if_true, if_false, reduceIte, Nat.zero_add, Nat.sub_self, isTys_lt_tuple, List.length_map]
  refine ⟨hl, T_compMap id ?_ ?_⟩
  · intro d hd
    obtain ⟨x, _, rfl⟩ := List.mem_map.mp hd
    simp only [T_ret, T_eName, TN_val, TN_own, T_oName, TR_some, T_oVal, T_eC, T_eFrz, celD_lst, slotD_val, slotD_own, slotD_bor, rs_d, rs_s, rss_nil, rss_cons, T_op2, T_op2L, T_op1, T_opN, T_opNL, T_eBin, T_lBin, T_eUn, T_eFn, T_lFn, T_oNil, T_oCons, T_aNil, T_aCons, T_eTup, T_lLst, TB_bool, T_tOf, T_mTru, br_true, br_false, T_mAnd, T_mOr, T_mNot, T_eAnd, T_eOr, T_eNot, T_eIf, T_lIf, T_eChain, T_eIsi, T_mCall, T_mCallK, CB_own, CB_bor, T_mCallB, T_mCallT, TSV_val, TSV_own, T_eSV, TSL_own, T_lSV, sq_nx, sq_rt, sq_bk, sq_ct, T_sSeq, T_sSkip, T_sExpr, T_sRetV, T_sRetL, T_sRetS, T_sRetN, TRN_val, TRN_own, T_sRetName, T_sIf, T_sSetV, T_sSetL, TSet_val, TSet_own, T_sSetS, L2T_two, L3T_three, T_sPar, T_sPar3, T_sParL, T_sAug, T_sAsg, gN_eq, gT_eq, gsNil_eq, gsCons_eq, IX_own, IX_bor, O_gIx, T_mNoPart, TI_int, T_mPart, TLs_list, TTs_tuple, T_lCut, T_eCut, LO_nil, LO_cons, T_lOr, TAny_list, TAny_tuple, T_iAny, T_iEnumD, TZ_list, TZ_tuple, T_iZipD, TRg1_int, T_iRange1, TRg2_int, T_iRange2, TRg3_int, T_iRange3, lpK_nx, lpK_ct, lpK_bk, lpK_rt, fcK_nx, fcK_ct, fcK_bk, fcK_rt, wlK_nx, wlK_ct, wlK_bk, wlK_rt, wipe_nil, wipe_cons, back_nil, back_cons, noC_nil, noC_cons, noC1_none, noC1_val, T_comp_nil, T_lComp, MX_own, MX_bor, isCellLst_own, isCellLst_bor, T_eMut, T_eMeth, RP_lst, T_lRep, gL_eq, T_sParLL, T_sParVL, RG_int, T_lRange1, T_inK, T_eInK, T_eNinK, dictD_own, keyD_int, T_lDict, TO_nx, TO_val, TO_own, T0_bor, O_mkP, O_mkB, O_some, O_none, O_ite, O_bind, O_map, fAdd_i, fAddI_i, fSub_i, fMul_i, fDiv_i, fMod_i, fShl_i, fAnd_i, fXor_i, fShr_i, fLt_i, fLe_i, fGt_i, fGe_i, fEq_i, fNe_i, fNeg_i, ixN_3_0, ixN_3_1, ixN_3_2, ixN_2_0, ixN_2_1, ixN_1_0, truD_i, truD_b, intD_i, intD_b, absD_i, lenD_l, lenD_t, tupleD_l, tupleD_t, listD_l, listD_t, List.map_cons, List.map_nil, List.length_cons, List.length_nil, List.cons_append, List.nil_append, List.replicate_succ, List.replicate_zero, List.set_cons_zero, List.set_cons_succ, List.getElem?_cons_zero, List.getElem?_cons_succ, Option.getD_some, Option.bind_some, Option.map_some, true_and, and_true, Bool.false_eq_true, Nat.reduceAdd, Nat.reduceSub, Nat.reduceLeDiff, Nat.le_refl, Bool.and_true, Bool.and_self, Bool.not_true, Bool.not_false, if_true, if_false, reduceIte, Nat.zero_add, Nat.sub_self, tupled_int]
    rfl
  · simp only [T_ret, T_eName, TN_val, TN_own, T_oName, TR_some, T_oVal, T_eC, T_eFrz, celD_lst, slotD_val, slotD_own, slotD_bor, rs_d, rs_s, rss_nil, rss_cons, T_op2, T_op2L, T_op1, T_opN, T_opNL, T_eBin, T_lBin, T_eUn, T_eFn, T_lFn, T_oNil, T_oCons, T_aNil, T_aCons, T_eTup, T_lLst, TB_bool, T_tOf, T_mTru, br_true, br_false, T_mAnd, T_mOr, T_mNot, T_eAnd, T_eOr, T_eNot, T_eIf, T_lIf, T_eChain, T_eIsi, T_mCall, T_mCallK, CB_own, CB_bor, T_mCallB, T_mCallT, TSV_val, TSV_own, T_eSV, TSL_own, T_lSV, sq_nx, sq_rt, sq_bk, sq_ct, T_sSeq, T_sSkip, T_sExpr, T_sRetV, T_sRetL, T_sRetS, T_sRetN, TRN_val, TRN_own, T_sRetName, T_sIf, T_sSetV, T_sSetL, TSet_val, TSet_own, T_sSetS, L2T_two, L3T_three, T_sPar, T_sPar3, T_sParL, T_sAug, T_sAsg, gN_eq, gT_eq, gsNil_eq, gsCons_eq, IX_own, IX_bor, O_gIx, T_mNoPart, TI_int, T_mPart, TLs_list, TTs_tuple, T_lCut, T_eCut, LO_nil, LO_cons, T_lOr, TAny_list, TAny_tuple, T_iAny, T_iEnumD, TZ_list, TZ_tuple, T_iZipD, TRg1_int, T_iRange1, TRg2_int, T_iRange2, TRg3_int, T_iRange3, lpK_nx, lpK_ct, lpK_bk, lpK_rt, fcK_nx, fcK_ct, fcK_bk, fcK_rt, wlK_nx, wlK_ct, wlK_bk, wlK_rt, wipe_nil, wipe_cons, back_nil, back_cons, noC_nil, noC_cons, noC1_none, noC1_val, T_comp_nil, T_lComp, MX_own, MX_bor, isCellLst_own, isCellLst_bor, T_eMut, T_eMeth, RP_lst, T_lRep, gL_eq, T_sParLL, T_sParVL, RG_int, T_lRange1, T_inK, T_eInK, T_eNinK, dictD_own, keyD_int, T_lDict, TO_nx, TO_val, TO_own, T0_bor, O_mkP, O_mkB, O_some, O_none, O_ite, O_bind, O_map, fAdd_i, fAddI_i, fSub_i, fMul_i, fDiv_i, fMod_i, fShl_i, fAnd_i, fXor_i, fShr_i, fLt_i, fLe_i, fGt_i, fGe_i, fEq_i, fNe_i, fNeg_i, ixN_3_0, ixN_3_1, ixN_3_2, ixN_2_0, ixN_2_1, ixN_1_0, truD_i, truD_b, intD_i, intD_b, absD_i, lenD_l, lenD_t, tupleD_l, tupleD_t, listD_l, listD_t, List.map_cons, List.map_nil, List.length_cons, List.length_nil, List.cons_append, List.nil_append, List.replicate_succ, List.replicate_zero, List.set_cons_zero, List.set_cons_succ, List.getElem?_cons_zero, List.getElem?_cons_succ, Option.getD_some, Option.bind_some, Option.map_some, true_and, and_true, Bool.false_eq_true, Nat.reduceAdd, Nat.reduceSub, Nat.reduceLeDiff, Nat.le_refl, Bool.and_true, Bool.and_self, Bool.not_true, Bool.not_false, if_true, if_false, reduceIte, Nat.zero_add, Nat.sub_self, List.map_id]
theorem tupled_tld {n m r : Nat} {ys : List Int} (hl : ys.length ≤ 1000000) : R_tupled (n + 3) [tld m r ys] = some (.val (tld m r ys)) := by
  apply O_is.mp
  unfold R_tupled b_tupled
  simp only [T_ret, T_eName, TN_val, TN_own, T_oName, TR_some, T_oVal, T_eC, T_eFrz, celD_lst, slotD_val, slotD_own, slotD_bor, rs_d, rs_s, rss_nil, rss_cons, T_op2, T_op2L, T_op1, T_opN, T_opNL, T_eBin, T_lBin, T_eUn, T_eFn, T_lFn, T_oNil, T_oCons, T_aNil, T_aCons, T_eTup, T_lLst, TB_bool, T_tOf, T_mTru, br_true, br_false, T_mAnd, T_mOr, T_mNot, T_eAnd, T_eOr, T_eNot, T_eIf, T_lIf, T_eChain, T_eIsi, T_mCall, T_mCallK, CB_own, CB_bor, T_mCallB, T_mCallT, TSV_val, TSV_own, T_eSV, TSL_own, T_lSV, sq_nx, sq_rt, sq_bk, sq_ct, T_sSeq, T_sSkip, T_sExpr, T_sRetV, T_sRetL, T_sRetS, T_sRetN, TRN_val, TRN_own, T_sRetName, T_sIf, T_sSetV, T_sSetL, TSet_val, TSet_own, T_sSetS, L2T_two, L3T_three, T_sPar, T_sPar3, T_sParL, T_sAug, T_sAsg, gN_eq, gT_eq, gsNil_eq, gsCons_eq, IX_own, IX_bor, O_gIx, T_mNoPart, TI_int, T_mPart, TLs_list, TTs_tuple, T_lCut, T_eCut, LO_nil, LO_cons, T_lOr, TAny_list, TAny_tuple, T_iAny, T_iEnumD, TZ_list, TZ_tuple, T_iZipD, TRg1_int, T_iRange1, TRg2_int, T_iRange2, TRg3_int, T_iRange3, lpK_nx, lpK_ct, lpK_bk, lpK_rt, fcK_nx, fcK_ct, fcK_bk, fcK_rt, wlK_nx, wlK_ct, wlK_bk, wlK_rt, wipe_nil, wipe_cons, back_nil, back_cons, noC_nil, noC_cons, noC1_none, noC1_val, T_comp_nil, T_lComp, MX_own, MX_bor, isCellLst_own, isCellLst_bor, T_eMut, T_eMeth, RP_lst, T_lRep, gL_eq, T_sParLL, T_sParVL, RG_int, T_lRange1, T_inK, T_eInK, T_eNinK, dictD_own, keyD_int, T_lDict, TO_nx, TO_val, TO_own, T0_bor, O_mkP, O_mkB, O_some, O_none, O_ite, O_bind, O_map, fAdd_i, fAddI_i, fSub_i, fMul_i, fDiv_i, fMod_i, fShl_i, fAnd_i, fXor_i, fShr_i, fLt_i, fLe_i, fGt_i, fGe_i, fEq_i, fNe_i, fNeg_i, ixN_3_0, ixN_3_1, ixN_3_2, ixN_2_0, ixN_2_1, ixN_1_0, truD_i, truD_b, intD_i, intD_b, absD_i, lenD_l, lenD_t, tupleD_l, tupleD_t, listD_l, listD_t, List.map_cons, List.map_nil, List.length_cons, List.length_nil, List.cons_append, List.nil_append, List.replicate_succ, List.replicate_zero, List.set_cons_zero, List.set_cons_succ, List.getElem?_cons_zero, List.getElem?_cons_succ, Option.getD_some, Option.bind_some, Option.map_some, true_and, and_true, Bool.false_eq_true, Nat.reduceAdd, Nat.reduceSub, Nat.reduceLeDiff, Nat.le_refl, Bool.and_true, Bool.and_self, Bool.not_true, Bool.not_false, if_true, if_false, reduceIte, Nat.zero_add, Nat.sub_self, isTys_lt_tuple]
  refine T_compMap id ?_ ?_
  · intro d hd
    simp only [List.mem_cons, List.not_mem_nil, or_false] at hd
    rcases hd with rfl | rfl | rfl
    · simp only [T_ret, T_eName, TN_val, TN_own, T_oName, TR_some, T_oVal, T_eC, T_eFrz, celD_lst, slotD_val, slotD_own, slotD_bor, rs_d, rs_s, rss_nil, rss_cons, T_op2, T_op2L, T_op1, T_opN, T_opNL, T_eBin, T_lBin, T_eUn, T_eFn, T_lFn, T_oNil, T_oCons, T_aNil, T_aCons, T_eTup, T_lLst, TB_bool, T_tOf, T_mTru, br_true, br_false, T_mAnd, T_mOr, T_mNot, T_eAnd, T_eOr, T_eNot, T_eIf, T_lIf, T_eChain, T_eIsi, T_mCall, T_mCallK, CB_own, CB_bor, T_mCallB, T_mCallT, TSV_val, TSV_own, T_eSV, TSL_own, T_lSV, sq_nx, sq_rt, sq_bk, sq_ct, T_sSeq, T_sSkip, T_sExpr, T_sRetV, T_sRetL, T_sRetS, T_sRetN, TRN_val, TRN_own, T_sRetName, T_sIf, T_sSetV, T_sSetL, TSet_val, TSet_own, T_sSetS, L2T_two, L3T_three, T_sPar, T_sPar3, T_sParL, T_sAug, T_sAsg, gN_eq, gT_eq, gsNil_eq, gsCons_eq, IX_own, IX_bor, O_gIx, T_mNoPart, TI_int, T_mPart, TLs_list, TTs_tuple, T_lCut, T_eCut, LO_nil, LO_cons, T_lOr, TAny_list, TAny_tuple, T_iAny, T_iEnumD, TZ_list, TZ_tuple, T_iZipD, TRg1_int, T_iRange1, TRg2_int, T_iRange2, TRg3_int, T_iRange3, lpK_nx, lpK_ct, lpK_bk, lpK_rt, fcK_nx, fcK_ct, fcK_bk, fcK_rt, wlK_nx, wlK_ct, wlK_bk, wlK_rt, wipe_nil, wipe_cons, back_nil, back_cons, noC_nil, noC_cons, noC1_none, noC1_val, T_comp_nil, T_lComp, MX_own, MX_bor, isCellLst_own, isCellLst_bor, T_eMut, T_eMeth, RP_lst, T_lRep, gL_eq, T_sParLL, T_sParVL, RG_int, T_lRange1, T_inK, T_eInK, T_eNinK, dictD_own, keyD_int, T_lDict, TO_nx, TO_val, TO_own, T0_bor, O_mkP, O_mkB, O_some, O_none, O_ite, O_bind, O_map, fAdd_i, fAddI_i, fSub_i, fMul_i, fDiv_i, fMod_i, fShl_i, fAnd_i, fXor_i, fShr_i, fLt_i, fLe_i, fGt_i, fGe_i, fEq_i, fNe_i, fNeg_i, ixN_3_0, ixN_3_1, ixN_3_2, ixN_2_0, ixN_2_1, ixN_1_0, truD_i, truD_b, intD_i, intD_b, absD_i, lenD_l, lenD_t, tupleD_l, tupleD_t, listD_l, listD_t, List.map_cons, List.map_nil, List.length_cons, List.length_nil, List.cons_append, List.nil_append, List.replicate_succ, List.replicate_zero, List.set_cons_zero, List.set_cons_succ, List.getElem?_cons_zero, List.getElem?_cons_succ, Option.getD_some, Option.bind_some, Option.map_some, true_and, and_true, Bool.false_eq_true, Nat.reduceAdd, Nat.reduceSub, Nat.reduceLeDiff, Nat.le_refl, Bool.and_true, Bool.and_self, Bool.not_true, Bool.not_false, if_true, if_false, reduceIte, Nat.zero_add, Nat.sub_self, show R_tupled (n + 2) [.int (m : Int)] = _ from tupled_int]; rfl
    · simp only [T_ret, T_eName, TN_val, TN_own, T_oName, TR_some, T_oVal, T_eC, T_eFrz, celD_lst, slotD_val, slotD_own, slotD_bor, rs_d, rs_s, rss_nil, rss_cons, T_op2, T_op2L, T_op1, T_opN, T_opNL, T_eBin, T_lBin, T_eUn, T_eFn, T_lFn, T_oNil, T_oCons, T_aNil, T_aCons, T_eTup, T_lLst, TB_bool, T_tOf, T_mTru, br_true, br_false, T_mAnd, T_mOr, T_mNot, T_eAnd, T_eOr, T_eNot, T_eIf, T_lIf, T_eChain, T_eIsi, T_mCall, T_mCallK, CB_own, CB_bor, T_mCallB, T_mCallT, TSV_val, TSV_own, T_eSV, TSL_own, T_lSV, sq_nx, sq_rt, sq_bk, sq_ct, T_sSeq, T_sSkip, T_sExpr, T_sRetV, T_sRetL, T_sRetS, T_sRetN, TRN_val, TRN_own, T_sRetName, T_sIf, T_sSetV, T_sSetL, TSet_val, TSet_own, T_sSetS, L2T_two, L3T_three, T_sPar, T_sPar3, T_sParL, T_sAug, T_sAsg, gN_eq, gT_eq, gsNil_eq, gsCons_eq, IX_own, IX_bor, O_gIx, T_mNoPart, TI_int, T_mPart, TLs_list, TTs_tuple, T_lCut, T_eCut, LO_nil, LO_cons, T_lOr, TAny_list, TAny_tuple, T_iAny, T_iEnumD, TZ_list, TZ_tuple, T_iZipD, TRg1_int, T_iRange1, TRg2_int, T_iRange2, TRg3_int, T_iRange3, lpK_nx, lpK_ct, lpK_bk, lpK_rt, fcK_nx, fcK_ct, fcK_bk, fcK_rt, wlK_nx, wlK_ct, wlK_bk, wlK_rt, wipe_nil, wipe_cons, back_nil, back_cons, noC_nil, noC_cons, noC1_none, noC1_val, T_comp_nil, T_lComp, MX_own, MX_bor, isCellLst_own, isCellLst_bor, T_eMut, T_eMeth, RP_lst, T_lRep, gL_eq, T_sParLL, T_sParVL, RG_int, T_lRange1, T_inK, T_eInK, T_eNinK, dictD_own, keyD_int, T_lDict, TO_nx, TO_val, TO_own, T0_bor, O_mkP, O_mkB, O_some, O_none, O_ite, O_bind, O_map, fAdd_i, fAddI_i, fSub_i, fMul_i, fDiv_i, fMod_i, fShl_i, fAnd_i, fXor_i, fShr_i, fLt_i, fLe_i, fGt_i, fGe_i, fEq_i, fNe_i, fNeg_i, ixN_3_0, ixN_3_1, ixN_3_2, ixN_2_0, ixN_2_1, ixN_1_0, truD_i, truD_b, intD_i, intD_b, absD_i, lenD_l, lenD_t, tupleD_l, tupleD_t, listD_l, listD_t, List.map_cons, List.map_nil, List.length_cons, List.length_nil, List.cons_append, List.nil_append, List.replicate_succ, List.replicate_zero, List.set_cons_zero, List.set_cons_succ, List.getElem?_cons_zero, List.getElem?_cons_succ, Option.getD_some, Option.bind_some, Option.map_some, true_and, and_true, Bool.false_eq_true, Nat.reduceAdd, Nat.reduceSub, Nat.reduceLeDiff, Nat.le_refl, Bool.and_true, Bool.and_self, Bool.not_true, Bool.not_false, if_true, if_false, reduceIte, Nat.zero_add, Nat.sub_self, show R_tupled (n + 2) [.int (r : Int)] = _ from tupled_int]; rfl
    · simp only [T_ret, T_eName, TN_val, TN_own, T_oName, TR_some, T_oVal, T_eC, T_eFrz, celD_lst, slotD_val, slotD_own, slotD_bor, rs_d, rs_s, rss_nil, rss_cons, T_op2, T_op2L, T_op1, T_opN, T_opNL, T_eBin, T_lBin, T_eUn, T_eFn, T_lFn, T_oNil, T_oCons, T_aNil, T_aCons, T_eTup, T_lLst, TB_bool, T_tOf, T_mTru, br_true, br_false, T_mAnd, T_mOr, T_mNot, T_eAnd, T_eOr, T_eNot, T_eIf, T_lIf, T_eChain, T_eIsi, T_mCall, T_mCallK, CB_own, CB_bor, T_mCallB, T_mCallT, TSV_val, TSV_own, T_eSV, TSL_own, T_lSV, sq_nx, sq_rt, sq_bk, sq_ct, T_sSeq, T_sSkip, T_sExpr, T_sRetV, T_sRetL, T_sRetS, T_sRetN, TRN_val, TRN_own, T_sRetName, T_sIf, T_sSetV, T_sSetL, TSet_val, TSet_own, T_sSetS, L2T_two, L3T_three, T_sPar, T_sPar3, T_sParL, T_sAug, T_sAsg, gN_eq, gT_eq, gsNil_eq, gsCons_eq, IX_own, IX_bor, O_gIx, T_mNoPart, TI_int, T_mPart, TLs_list, TTs_tuple, T_lCut, T_eCut, LO_nil, LO_cons, T_lOr, TAny_list, TAny_tuple, T_iAny, T_iEnumD, TZ_list, TZ_tuple, T_iZipD, TRg1_int, T_iRange1, TRg2_int, T_iRange2, TRg3_int, T_iRange3, lpK_nx, lpK_ct, lpK_bk, lpK_rt, fcK_nx, fcK_ct, fcK_bk, fcK_rt, wlK_nx, wlK_ct, wlK_bk, wlK_rt, wipe_nil, wipe_cons, back_nil, back_cons, noC_nil, noC_cons, noC1_none, noC1_val, T_comp_nil, T_lComp, MX_own, MX_bor, isCellLst_own, isCellLst_bor, T_eMut, T_eMeth, RP_lst, T_lRep, gL_eq, T_sParLL, T_sParVL, RG_int, T_lRange1, T_inK, T_eInK, T_eNinK, dictD_own, keyD_int, T_lDict, TO_nx, TO_val, TO_own, T0_bor, O_mkP, O_mkB, O_some, O_none, O_ite, O_bind, O_map, fAdd_i, fAddI_i, fSub_i, fMul_i, fDiv_i, fMod_i, fShl_i, fAnd_i, fXor_i, fShr_i, fLt_i, fLe_i, fGt_i, fGe_i, fEq_i, fNe_i, fNeg_i, ixN_3_0, ixN_3_1, ixN_3_2, ixN_2_0, ixN_2_1, ixN_1_0, truD_i, truD_b, intD_i, intD_b, absD_i, lenD_l, lenD_t, tupleD_l, tupleD_t, listD_l, listD_t, List.map_cons, List.map_nil, List.length_cons, List.length_nil, List.cons_append, List.nil_append, List.replicate_succ, List.replicate_zero, List.set_cons_zero, List.set_cons_succ, List.getElem?_cons_zero, List.getElem?_cons_succ, Option.getD_some, Option.bind_some, Option.map_some, true_and, and_true, Bool.false_eq_true, Nat.reduceAdd, Nat.reduceSub, Nat.reduceLeDiff, Nat.le_refl, Bool.and_true, Bool.and_self, Bool.not_true, Bool.not_false, if_true, if_false, reduceIte, Nat.zero_add, Nat.sub_self, tupled_il hl]; rfl
  · simp only [T_ret, T_eName, TN_val, TN_own, T_oName, TR_some, T_oVal, T_eC, T_eFrz, celD_lst, slotD_val, slotD_own, slotD_bor, rs_d, rs_s, rss_nil, rss_cons, T_op2, T_op2L, T_op1, T_opN, T_opNL, T_eBin, T_lBin, T_eUn, T_eFn, T_lFn, T_oNil, T_oCons, T_aNil, T_aCons, T_eTup, T_lLst, TB_bool, T_tOf, T_mTru, br_true, br_false, T_mAnd, T_mOr, T_mNot, T_eAnd, T_eOr, T_eNot, T_eIf, T_lIf, T_eChain, T_eIsi, T_mCall, T_mCallK, CB_own, CB_bor, T_mCallB, T_mCallT, TSV_val, TSV_own, T_eSV, TSL_own, T_lSV, sq_nx, sq_rt, sq_bk, sq_ct, T_sSeq, T_sSkip, T_sExpr, T_sRetV, T_sRetL, T_sRetS, T_sRetN, TRN_val, TRN_own, T_sRetName, T_sIf, T_sSetV, T_sSetL, TSet_val, TSet_own, T_sSetS, L2T_two, L3T_three, T_sPar, T_sPar3, T_sParL, T_sAug, T_sAsg, gN_eq, gT_eq, gsNil_eq, gsCons_eq, IX_own, IX_bor, O_gIx, T_mNoPart, TI_int, T_mPart, TLs_list, TTs_tuple, T_lCut, T_eCut, LO_nil, LO_cons, T_lOr, TAny_list, TAny_tuple, T_iAny, T_iEnumD, TZ_list, TZ_tuple, T_iZipD, TRg1_int, T_iRange1, TRg2_int, T_iRange2, TRg3_int, T_iRange3, lpK_nx, lpK_ct, lpK_bk, lpK_rt, fcK_nx, fcK_ct, fcK_bk, fcK_rt, wlK_nx, wlK_ct, wlK_bk, wlK_rt, wipe_nil, wipe_cons, back_nil, back_cons, noC_nil, noC_cons, noC1_none, noC1_val, T_comp_nil, T_lComp, MX_own, MX_bor, isCellLst_own, isCellLst_bor, T_eMut, T_eMeth, RP_lst, T_lRep, gL_eq, T_sParLL, T_sParVL, RG_int, T_lRange1, T_inK, T_eInK, T_eNinK, dictD_own, keyD_int, T_lDict, TO_nx, TO_val, TO_own, T0_bor, O_mkP, O_mkB, O_some, O_none, O_ite, O_bind, O_map, fAdd_i, fAddI_i, fSub_i, fMul_i, fDiv_i, fMod_i, fShl_i, fAnd_i, fXor_i, fShr_i, fLt_i, fLe_i, fGt_i, fGe_i, fEq_i, fNe_i, fNeg_i, ixN_3_0, ixN_3_1, ixN_3_2, ixN_2_0, ixN_2_1, ixN_1_0, truD_i, truD_b, intD_i, intD_b, absD_i, lenD_l, lenD_t, tupleD_l, tupleD_t, listD_l, listD_t, List.map_cons, List.map_nil, List.length_cons, List.length_nil, List.cons_append, List.nil_append, List.replicate_succ, List.replicate_zero, List.set_cons_zero, List.set_cons_succ, List.getElem?_cons_zero, List.getElem?_cons_succ, Option.getD_some, Option.bind_some, Option.map_some, true_and, and_true, Bool.false_eq_true, Nat.reduceAdd, Nat.reduceSub, Nat.reduceLeDiff, Nat.le_refl, Bool.and_true, Bool.and_self, Bool.not_true, Bool.not_false, if_true, if_false, reduceIte, Nat.zero_add, Nat.sub_self, id_eq]
theorem sure_told_ok {m r : Nat} {ys : List Int} (h : Told m r ys) : F_sure_told_table [tld m r ys] = some (.val (tld m r ys)) := by
  apply O_is.mp
  have hl := h.len
  have hm := h.m820
  have hr := h.rlt
  have t0 : F_tupled [tld m r ys] = some (.val (tld m r ys)) := tupled_tld (n := 27) (by omega)
  have c1 : cPow 1 (m : Int) = true := cPowP (by omega) (by omega) (by decide)
  have c2 : decide (((2 ^ m : Nat) : Int) ≤ (r : Int)) = false := decide_eq_false (by omega)
  have c3 : decide (24 < ((ys.length : Nat) : Int)) = false := decide_eq_false (by omega)
  have ti : F_is_told [tld m r ys] = some (.val (.bool true)) := by
    apply O_is.mp
    unfold F_is_told b_is_told F_is_long b_is_long
    simp only [T_ret, T_eName, TN_val, TN_own, T_oName, TR_some, T_oVal, T_eC, T_eFrz, celD_lst, slotD_val, slotD_own, slotD_bor, rs_d, rs_s, rss_nil, rss_cons, T_op2, T_op2L, T_op1, T_opN, T_opNL, T_eBin, T_lBin, T_eUn, T_eFn, T_lFn, T_oNil, T_oCons, T_aNil, T_aCons, T_eTup, T_lLst, TB_bool, T_tOf, T_mTru, br_true, br_false, T_mAnd, T_mOr, T_mNot, T_eAnd, T_eOr, T_eNot, T_eIf, T_lIf, T_eChain, T_eIsi, T_mCall, T_mCallK, CB_own, CB_bor, T_mCallB, T_mCallT, TSV_val, TSV_own, T_eSV, TSL_own, T_lSV, sq_nx, sq_rt, sq_bk, sq_ct, T_sSeq, T_sSkip, T_sExpr, T_sRetV, T_sRetL, T_sRetS, T_sRetN, TRN_val, TRN_own, T_sRetName, T_sIf, T_sSetV, T_sSetL, TSet_val, TSet_own, T_sSetS, L2T_two, L3T_three, T_sPar, T_sPar3, T_sParL, T_sAug, T_sAsg, gN_eq, gT_eq, gsNil_eq, gsCons_eq, IX_own, IX_bor, O_gIx, T_mNoPart, TI_int, T_mPart, TLs_list, TTs_tuple, T_lCut, T_eCut, LO_nil, LO_cons, T_lOr, TAny_list, TAny_tuple, T_iAny, T_iEnumD, TZ_list, TZ_tuple, T_iZipD, TRg1_int, T_iRange1, TRg2_int, T_iRange2, TRg3_int, T_iRange3, lpK_nx, lpK_ct, lpK_bk, lpK_rt, fcK_nx, fcK_ct, fcK_bk, fcK_rt, wlK_nx, wlK_ct, wlK_bk, wlK_rt, wipe_nil, wipe_cons, back_nil, back_cons, noC_nil, noC_cons, noC1_none, noC1_val, T_comp_nil, T_lComp, MX_own, MX_bor, isCellLst_own, isCellLst_bor, T_eMut, T_eMeth, RP_lst, T_lRep, gL_eq, T_sParLL, T_sParVL, RG_int, T_lRange1, T_inK, T_eInK, T_eNinK, dictD_own, keyD_int, T_lDict, TO_nx, TO_val, TO_own, T0_bor, O_mkP, O_mkB, O_some, O_none, O_ite, O_bind, O_map, fAdd_i, fAddI_i, fSub_i, fMul_i, fDiv_i, fMod_i, fShl_i, fAnd_i, fXor_i, fShr_i, fLt_i, fLe_i, fGt_i, fGe_i, fEq_i, fNe_i, fNeg_i, ixN_3_0, ixN_3_1, ixN_3_2, ixN_2_0, ixN_2_1, ixN_1_0, truD_i, truD_b, intD_i, intD_b, absD_i, lenD_l, lenD_t, tupleD_l, tupleD_t, listD_l, listD_t, List.map_cons, List.map_nil, List.length_cons, List.length_nil, List.cons_append, List.nil_append, List.replicate_succ, List.replicate_zero, List.set_cons_zero, List.set_cons_succ, List.getElem?_cons_zero, List.getElem?_cons_succ, Option.getD_some, Option.bind_some, Option.map_some, true_and, and_true, Bool.false_eq_true, Nat.reduceAdd, Nat.reduceSub, Nat.reduceLeDiff, Nat.le_refl, Bool.and_true, Bool.and_self, Bool.not_true, Bool.not_false, if_true, if_false, reduceIte, Nat.zero_add, Nat.sub_self, isTys_tuple_tuple, atD_t, is_within_ok (x := m) (a := 0) (b := 820) (by omega) (by omega), is_from_ok, decide_true, one_shl, c1, c2, c3, show decide (((3 : Nat) : Int) = 3) = true from rfl, List.length_map]
    refine ⟨by omega, T_compMap (fun _ => .bool true) ?_ ?_⟩
    · intro d hd
      obtain ⟨y, hy, rfl⟩ := List.mem_map.mp hd
      obtain ⟨k, rfl, hk⟩ := h.ge y hy
      have c4 : decide ((k : Int) < ((2 ^ m : Nat) : Int)) = true := decide_eq_true (by omega)
      simp only [T_ret, T_eName, TN_val, TN_own, T_oName, TR_some, T_oVal, T_eC, T_eFrz, celD_lst, slotD_val, slotD_own, slotD_bor, rs_d, rs_s, rss_nil, rss_cons, T_op2, T_op2L, T_op1, T_opN, T_opNL, T_eBin, T_lBin, T_eUn, T_eFn, T_lFn, T_oNil, T_oCons, T_aNil, T_aCons, T_eTup, T_lLst, TB_bool, T_tOf, T_mTru, br_true, br_false, T_mAnd, T_mOr, T_mNot, T_eAnd, T_eOr, T_eNot, T_eIf, T_lIf, T_eChain, T_eIsi, T_mCall, T_mCallK, CB_own, CB_bor, T_mCallB, T_mCallT, TSV_val, TSV_own, T_eSV, TSL_own, T_lSV, sq_nx, sq_rt, sq_bk, sq_ct, T_sSeq, T_sSkip, T_sExpr, T_sRetV, T_sRetL, T_sRetS, T_sRetN, TRN_val, TRN_own, T_sRetName, T_sIf, T_sSetV, T_sSetL, TSet_val, TSet_own, T_sSetS, L2T_two, L3T_three, T_sPar, T_sPar3, T_sParL, T_sAug, T_sAsg, gN_eq, gT_eq, gsNil_eq, gsCons_eq, IX_own, IX_bor, O_gIx, T_mNoPart, TI_int, T_mPart, TLs_list, TTs_tuple, T_lCut, T_eCut, LO_nil, LO_cons, T_lOr, TAny_list, TAny_tuple, T_iAny, T_iEnumD, TZ_list, TZ_tuple, T_iZipD, TRg1_int, T_iRange1, TRg2_int, T_iRange2, TRg3_int, T_iRange3, lpK_nx, lpK_ct, lpK_bk, lpK_rt, fcK_nx, fcK_ct, fcK_bk, fcK_rt, wlK_nx, wlK_ct, wlK_bk, wlK_rt, wipe_nil, wipe_cons, back_nil, back_cons, noC_nil, noC_cons, noC1_none, noC1_val, T_comp_nil, T_lComp, MX_own, MX_bor, isCellLst_own, isCellLst_bor, T_eMut, T_eMeth, RP_lst, T_lRep, gL_eq, T_sParLL, T_sParVL, RG_int, T_lRange1, T_inK, T_eInK, T_eNinK, dictD_own, keyD_int, T_lDict, TO_nx, TO_val, TO_own, T0_bor, O_mkP, O_mkB, O_some, O_none, O_ite, O_bind, O_map, fAdd_i, fAddI_i, fSub_i, fMul_i, fDiv_i, fMod_i, fShl_i, fAnd_i, fXor_i, fShr_i, fLt_i, fLe_i, fGt_i, fGe_i, fEq_i, fNe_i, fNeg_i, ixN_3_0, ixN_3_1, ixN_3_2, ixN_2_0, ixN_2_1, ixN_1_0, truD_i, truD_b, intD_i, intD_b, absD_i, lenD_l, lenD_t, tupleD_l, tupleD_t, listD_l, listD_t, List.map_cons, List.map_nil, List.length_cons, List.length_nil, List.cons_append, List.nil_append, List.replicate_succ, List.replicate_zero, List.set_cons_zero, List.set_cons_succ, List.getElem?_cons_zero, List.getElem?_cons_succ, Option.getD_some, Option.bind_some, Option.map_some, true_and, and_true, Bool.false_eq_true, Nat.reduceAdd, Nat.reduceSub, Nat.reduceLeDiff, Nat.le_refl, Bool.and_true, Bool.and_self, Bool.not_true, Bool.not_false, if_true, if_false, reduceIte, Nat.zero_add, Nat.sub_self, is_from_ok, one_shl, c1, c4]
    · simp only [T_ret, T_eName, TN_val, TN_own, T_oName, TR_some, T_oVal, T_eC, T_eFrz, celD_lst, slotD_val, slotD_own, slotD_bor, rs_d, rs_s, rss_nil, rss_cons, T_op2, T_op2L, T_op1, T_opN, T_opNL, T_eBin, T_lBin, T_eUn, T_eFn, T_lFn, T_oNil, T_oCons, T_aNil, T_aCons, T_eTup, T_lLst, TB_bool, T_tOf, T_mTru, br_true, br_false, T_mAnd, T_mOr, T_mNot, T_eAnd, T_eOr, T_eNot, T_eIf, T_lIf, T_eChain, T_eIsi, T_mCall, T_mCallK, CB_own, CB_bor, T_mCallB, T_mCallT, TSV_val, TSV_own, T_eSV, TSL_own, T_lSV, sq_nx, sq_rt, sq_bk, sq_ct, T_sSeq, T_sSkip, T_sExpr, T_sRetV, T_sRetL, T_sRetS, T_sRetN, TRN_val, TRN_own, T_sRetName, T_sIf, T_sSetV, T_sSetL, TSet_val, TSet_own, T_sSetS, L2T_two, L3T_three, T_sPar, T_sPar3, T_sParL, T_sAug, T_sAsg, gN_eq, gT_eq, gsNil_eq, gsCons_eq, IX_own, IX_bor, O_gIx, T_mNoPart, TI_int, T_mPart, TLs_list, TTs_tuple, T_lCut, T_eCut, LO_nil, LO_cons, T_lOr, TAny_list, TAny_tuple, T_iAny, T_iEnumD, TZ_list, TZ_tuple, T_iZipD, TRg1_int, T_iRange1, TRg2_int, T_iRange2, TRg3_int, T_iRange3, lpK_nx, lpK_ct, lpK_bk, lpK_rt, fcK_nx, fcK_ct, fcK_bk, fcK_rt, wlK_nx, wlK_ct, wlK_bk, wlK_rt, wipe_nil, wipe_cons, back_nil, back_cons, noC_nil, noC_cons, noC1_none, noC1_val, T_comp_nil, T_lComp, MX_own, MX_bor, isCellLst_own, isCellLst_bor, T_eMut, T_eMeth, RP_lst, T_lRep, gL_eq, T_sParLL, T_sParVL, RG_int, T_lRange1, T_inK, T_eInK, T_eNinK, dictD_own, keyD_int, T_lDict, TO_nx, TO_val, TO_own, T0_bor, O_mkP, O_mkB, O_some, O_none, O_ite, O_bind, O_map, fAdd_i, fAddI_i, fSub_i, fMul_i, fDiv_i, fMod_i, fShl_i, fAnd_i, fXor_i, fShr_i, fLt_i, fLe_i, fGt_i, fGe_i, fEq_i, fNe_i, fNeg_i, ixN_3_0, ixN_3_1, ixN_3_2, ixN_2_0, ixN_2_1, ixN_1_0, truD_i, truD_b, intD_i, intD_b, absD_i, lenD_l, lenD_t, tupleD_l, tupleD_t, listD_l, listD_t, List.map_cons, List.map_nil, List.length_cons, List.length_nil, List.cons_append, List.nil_append, List.replicate_succ, List.replicate_zero, List.set_cons_zero, List.set_cons_succ, List.getElem?_cons_zero, List.getElem?_cons_succ, Option.getD_some, Option.bind_some, Option.map_some, true_and, and_true, Bool.false_eq_true, Nat.reduceAdd, Nat.reduceSub, Nat.reduceLeDiff, Nat.le_refl, Bool.and_true, Bool.and_self, Bool.not_true, Bool.not_false, if_true, if_false, reduceIte, Nat.zero_add, Nat.sub_self, all_true, ascends_ok h.up (by omega)]
  unfold F_sure_told_table b_sure_told_table
  simp only [T_ret, T_eName, TN_val, TN_own, T_oName, TR_some, T_oVal, T_eC, T_eFrz, celD_lst, slotD_val, slotD_own, slotD_bor, rs_d, rs_s, rss_nil, rss_cons, T_op2, T_op2L, T_op1, T_opN, T_opNL, T_eBin, T_lBin, T_eUn, T_eFn, T_lFn, T_oNil, T_oCons, T_aNil, T_aCons, T_eTup, T_lLst, TB_bool, T_tOf, T_mTru, br_true, br_false, T_mAnd, T_mOr, T_mNot, T_eAnd, T_eOr, T_eNot, T_eIf, T_lIf, T_eChain, T_eIsi, T_mCall, T_mCallK, CB_own, CB_bor, T_mCallB, T_mCallT, TSV_val, TSV_own, T_eSV, TSL_own, T_lSV, sq_nx, sq_rt, sq_bk, sq_ct, T_sSeq, T_sSkip, T_sExpr, T_sRetV, T_sRetL, T_sRetS, T_sRetN, TRN_val, TRN_own, T_sRetName, T_sIf, T_sSetV, T_sSetL, TSet_val, TSet_own, T_sSetS, L2T_two, L3T_three, T_sPar, T_sPar3, T_sParL, T_sAug, T_sAsg, gN_eq, gT_eq, gsNil_eq, gsCons_eq, IX_own, IX_bor, O_gIx, T_mNoPart, TI_int, T_mPart, TLs_list, TTs_tuple, T_lCut, T_eCut, LO_nil, LO_cons, T_lOr, TAny_list, TAny_tuple, T_iAny, T_iEnumD, TZ_list, TZ_tuple, T_iZipD, TRg1_int, T_iRange1, TRg2_int, T_iRange2, TRg3_int, T_iRange3, lpK_nx, lpK_ct, lpK_bk, lpK_rt, fcK_nx, fcK_ct, fcK_bk, fcK_rt, wlK_nx, wlK_ct, wlK_bk, wlK_rt, wipe_nil, wipe_cons, back_nil, back_cons, noC_nil, noC_cons, noC1_none, noC1_val, T_comp_nil, T_lComp, MX_own, MX_bor, isCellLst_own, isCellLst_bor, T_eMut, T_eMeth, RP_lst, T_lRep, gL_eq, T_sParLL, T_sParVL, RG_int, T_lRange1, T_inK, T_eInK, T_eNinK, dictD_own, keyD_int, T_lDict, TO_nx, TO_val, TO_own, T0_bor, O_mkP, O_mkB, O_some, O_none, O_ite, O_bind, O_map, fAdd_i, fAddI_i, fSub_i, fMul_i, fDiv_i, fMod_i, fShl_i, fAnd_i, fXor_i, fShr_i, fLt_i, fLe_i, fGt_i, fGe_i, fEq_i, fNe_i, fNeg_i, ixN_3_0, ixN_3_1, ixN_3_2, ixN_2_0, ixN_2_1, ixN_1_0, truD_i, truD_b, intD_i, intD_b, absD_i, lenD_l, lenD_t, tupleD_l, tupleD_t, listD_l, listD_t, List.map_cons, List.map_nil, List.length_cons, List.length_nil, List.cons_append, List.nil_append, List.replicate_succ, List.replicate_zero, List.set_cons_zero, List.set_cons_succ, List.getElem?_cons_zero, List.getElem?_cons_succ, Option.getD_some, Option.bind_some, Option.map_some, true_and, and_true, Bool.false_eq_true, Nat.reduceAdd, Nat.reduceSub, Nat.reduceLeDiff, Nat.le_refl, Bool.and_true, Bool.and_self, Bool.not_true, Bool.not_false, if_true, if_false, reduceIte, Nat.zero_add, Nat.sub_self, t0, ti]
/-- how many of ys meet, shifted -/
def meet (ys : List Int) (y : Int) : Nat := (ys.filter fun x => decide (Builtin.bitXor x y ∈ ys)).length
theorem meetings_ok {m r : Nat} {ys : List Int} (hl : ys.length ≤ 1000) {y : Int} : F_meetings [tld m r ys, .int y] = some (.val (.int (meet ys y : Nat))) := by
  apply O_is.mp
  unfold F_meetings b_meetings
  simp only [T_ret, T_eName, TN_val, TN_own, T_oName, TR_some, T_oVal, T_eC, T_eFrz, celD_lst, slotD_val, slotD_own, slotD_bor, rs_d, rs_s, rss_nil, rss_cons, T_op2, T_op2L, T_op1, T_opN, T_opNL, T_eBin, T_lBin, T_eUn, T_eFn, T_lFn, T_oNil, T_oCons, T_aNil, T_aCons, T_eTup, T_lLst, TB_bool, T_tOf, T_mTru, br_true, br_false, T_mAnd, T_mOr, T_mNot, T_eAnd, T_eOr, T_eNot, T_eIf, T_lIf, T_eChain, T_eIsi, T_mCall, T_mCallK, CB_own, CB_bor, T_mCallB, T_mCallT, TSV_val, TSV_own, T_eSV, TSL_own, T_lSV, sq_nx, sq_rt, sq_bk, sq_ct, T_sSeq, T_sSkip, T_sExpr, T_sRetV, T_sRetL, T_sRetS, T_sRetN, TRN_val, TRN_own, T_sRetName, T_sIf, T_sSetV, T_sSetL, TSet_val, TSet_own, T_sSetS, L2T_two, L3T_three, T_sPar, T_sPar3, T_sParL, T_sAug, T_sAsg, gN_eq, gT_eq, gsNil_eq, gsCons_eq, IX_own, IX_bor, O_gIx, T_mNoPart, TI_int, T_mPart, TLs_list, TTs_tuple, T_lCut, T_eCut, LO_nil, LO_cons, T_lOr, TAny_list, TAny_tuple, T_iAny, T_iEnumD, TZ_list, TZ_tuple, T_iZipD, TRg1_int, T_iRange1, TRg2_int, T_iRange2, TRg3_int, T_iRange3, lpK_nx, lpK_ct, lpK_bk, lpK_rt, fcK_nx, fcK_ct, fcK_bk, fcK_rt, wlK_nx, wlK_ct, wlK_bk, wlK_rt, wipe_nil, wipe_cons, back_nil, back_cons, noC_nil, noC_cons, noC1_none, noC1_val, T_comp_nil, T_lComp, MX_own, MX_bor, isCellLst_own, isCellLst_bor, T_eMut, T_eMeth, RP_lst, T_lRep, gL_eq, T_sParLL, T_sParVL, RG_int, T_lRange1, T_inK, T_eInK, T_eNinK, dictD_own, keyD_int, T_lDict, TO_nx, TO_val, TO_own, T0_bor, O_mkP, O_mkB, O_some, O_none, O_ite, O_bind, O_map, fAdd_i, fAddI_i, fSub_i, fMul_i, fDiv_i, fMod_i, fShl_i, fAnd_i, fXor_i, fShr_i, fLt_i, fLe_i, fGt_i, fGe_i, fEq_i, fNe_i, fNeg_i, ixN_3_0, ixN_3_1, ixN_3_2, ixN_2_0, ixN_2_1, ixN_1_0, truD_i, truD_b, intD_i, intD_b, absD_i, lenD_l, lenD_t, tupleD_l, tupleD_t, listD_l, listD_t, List.map_cons, List.map_nil, List.length_cons, List.length_nil, List.cons_append, List.nil_append, List.replicate_succ, List.replicate_zero, List.set_cons_zero, List.set_cons_succ, List.getElem?_cons_zero, List.getElem?_cons_succ, Option.getD_some, Option.bind_some, Option.map_some, true_and, and_true, Bool.false_eq_true, Nat.reduceAdd, Nat.reduceSub, Nat.reduceLeDiff, Nat.le_refl, Bool.and_true, Bool.and_self, Bool.not_true, Bool.not_false, if_true, if_false, reduceIte, Nat.zero_add, Nat.sub_self, atD_t, List.length_map]
  refine ⟨by omega, T_dcL (fun i acc S => S = [some (.val (tld m r ys)), some (.val (.int y)), none, none] ∧ ∀ k, hasD acc (.inl k) = decide (k ∈ ys.take i)) ⟨rfl, fun k => by simp [hasD]⟩ ?_ ?_⟩
  · rintro i d hd acc S ⟨rfl, ha⟩
    rw [List.getElem?_map] at hd
    obtain ⟨x, hx, rfl⟩ := Option.map_eq_some_iff.mp hd
    simp only [T_ret, T_eName, TN_val, TN_own, T_oName, TR_some, T_oVal, T_eC, T_eFrz, celD_lst, slotD_val, slotD_own, slotD_bor, rs_d, rs_s, rss_nil, rss_cons, T_op2, T_op2L, T_op1, T_opN, T_opNL, T_eBin, T_lBin, T_eUn, T_eFn, T_lFn, T_oNil, T_oCons, T_aNil, T_aCons, T_eTup, T_lLst, TB_bool, T_tOf, T_mTru, br_true, br_false, T_mAnd, T_mOr, T_mNot, T_eAnd, T_eOr, T_eNot, T_eIf, T_lIf, T_eChain, T_eIsi, T_mCall, T_mCallK, CB_own, CB_bor, T_mCallB, T_mCallT, TSV_val, TSV_own, T_eSV, TSL_own, T_lSV, sq_nx, sq_rt, sq_bk, sq_ct, T_sSeq, T_sSkip, T_sExpr, T_sRetV, T_sRetL, T_sRetS, T_sRetN, TRN_val, TRN_own, T_sRetName, T_sIf, T_sSetV, T_sSetL, TSet_val, TSet_own, T_sSetS, L2T_two, L3T_three, T_sPar, T_sPar3, T_sParL, T_sAug, T_sAsg, gN_eq, gT_eq, gsNil_eq, gsCons_eq, IX_own, IX_bor, O_gIx, T_mNoPart, TI_int, T_mPart, TLs_list, TTs_tuple, T_lCut, T_eCut, LO_nil, LO_cons, T_lOr, TAny_list, TAny_tuple, T_iAny, T_iEnumD, TZ_list, TZ_tuple, T_iZipD, TRg1_int, T_iRange1, TRg2_int, T_iRange2, TRg3_int, T_iRange3, lpK_nx, lpK_ct, lpK_bk, lpK_rt, fcK_nx, fcK_ct, fcK_bk, fcK_rt, wlK_nx, wlK_ct, wlK_bk, wlK_rt, wipe_nil, wipe_cons, back_nil, back_cons, noC_nil, noC_cons, noC1_none, noC1_val, T_comp_nil, T_lComp, MX_own, MX_bor, isCellLst_own, isCellLst_bor, T_eMut, T_eMeth, RP_lst, T_lRep, gL_eq, T_sParLL, T_sParVL, RG_int, T_lRange1, T_inK, T_eInK, T_eNinK, dictD_own, keyD_int, T_lDict, TO_nx, TO_val, TO_own, T0_bor, O_mkP, O_mkB, O_some, O_none, O_ite, O_bind, O_map, fAdd_i, fAddI_i, fSub_i, fMul_i, fDiv_i, fMod_i, fShl_i, fAnd_i, fXor_i, fShr_i, fLt_i, fLe_i, fGt_i, fGe_i, fEq_i, fNe_i, fNeg_i, ixN_3_0, ixN_3_1, ixN_3_2, ixN_2_0, ixN_2_1, ixN_1_0, truD_i, truD_b, intD_i, intD_b, absD_i, lenD_l, lenD_t, tupleD_l, tupleD_t, listD_l, listD_t, List.map_cons, List.map_nil, List.length_cons, List.length_nil, List.cons_append, List.nil_append, List.replicate_succ, List.replicate_zero, List.set_cons_zero, List.set_cons_succ, List.getElem?_cons_zero, List.getElem?_cons_succ, Option.getD_some, Option.bind_some, Option.map_some, true_and, and_true, Bool.false_eq_true, Nat.reduceAdd, Nat.reduceSub, Nat.reduceLeDiff, Nat.le_refl, Bool.and_true, Bool.and_self, Bool.not_true, Bool.not_false, if_true, if_false, reduceIte, Nat.zero_add, Nat.sub_self]
    intro k
    rw [has_put, ha, List.take_add_one, hx]
    simp only [Option.toList_some, List.mem_append, List.mem_singleton]
    by_cases e : x = k
    · subst e; simp
    · have : (Sum.inl x : Key) ≠ Sum.inl k := fun z => e (Sum.inl.inj z)
      rw [decide_eq_false this, Bool.false_or, decide_eq_decide]
      simp [Ne.symm e]
  · rintro out S ⟨rfl, ha⟩
    rw [List.length_map, List.take_length] at ha
    simp only [T_ret, T_eName, TN_val, TN_own, T_oName, TR_some, T_oVal, T_eC, T_eFrz, celD_lst, slotD_val, slotD_own, slotD_bor, rs_d, rs_s, rss_nil, rss_cons, T_op2, T_op2L, T_op1, T_opN, T_opNL, T_eBin, T_lBin, T_eUn, T_eFn, T_lFn, T_oNil, T_oCons, T_aNil, T_aCons, T_eTup, T_lLst, TB_bool, T_tOf, T_mTru, br_true, br_false, T_mAnd, T_mOr, T_mNot, T_eAnd, T_eOr, T_eNot, T_eIf, T_lIf, T_eChain, T_eIsi, T_mCall, T_mCallK, CB_own, CB_bor, T_mCallB, T_mCallT, TSV_val, TSV_own, T_eSV, TSL_own, T_lSV, sq_nx, sq_rt, sq_bk, sq_ct, T_sSeq, T_sSkip, T_sExpr, T_sRetV, T_sRetL, T_sRetS, T_sRetN, TRN_val, TRN_own, T_sRetName, T_sIf, T_sSetV, T_sSetL, TSet_val, TSet_own, T_sSetS, L2T_two, L3T_three, T_sPar, T_sPar3, T_sParL, T_sAug, T_sAsg, gN_eq, gT_eq, gsNil_eq, gsCons_eq, IX_own, IX_bor, O_gIx, T_mNoPart, TI_int, T_mPart, TLs_list, TTs_tuple, T_lCut, T_eCut, LO_nil, LO_cons, T_lOr, TAny_list, TAny_tuple, T_iAny, T_iEnumD, TZ_list, TZ_tuple, T_iZipD, TRg1_int, T_iRange1, TRg2_int, T_iRange2, TRg3_int, T_iRange3, lpK_nx, lpK_ct, lpK_bk, lpK_rt, fcK_nx, fcK_ct, fcK_bk, fcK_rt, wlK_nx, wlK_ct, wlK_bk, wlK_rt, wipe_nil, wipe_cons, back_nil, back_cons, noC_nil, noC_cons, noC1_none, noC1_val, T_comp_nil, T_lComp, MX_own, MX_bor, isCellLst_own, isCellLst_bor, T_eMut, T_eMeth, RP_lst, T_lRep, gL_eq, T_sParLL, T_sParVL, RG_int, T_lRange1, T_inK, T_eInK, T_eNinK, dictD_own, keyD_int, T_lDict, TO_nx, TO_val, TO_own, T0_bor, O_mkP, O_mkB, O_some, O_none, O_ite, O_bind, O_map, fAdd_i, fAddI_i, fSub_i, fMul_i, fDiv_i, fMod_i, fShl_i, fAnd_i, fXor_i, fShr_i, fLt_i, fLe_i, fGt_i, fGe_i, fEq_i, fNe_i, fNeg_i, ixN_3_0, ixN_3_1, ixN_3_2, ixN_2_0, ixN_2_1, ixN_1_0, truD_i, truD_b, intD_i, intD_b, absD_i, lenD_l, lenD_t, tupleD_l, tupleD_t, listD_l, listD_t, List.map_cons, List.map_nil, List.length_cons, List.length_nil, List.cons_append, List.nil_append, List.replicate_succ, List.replicate_zero, List.set_cons_zero, List.set_cons_succ, List.getElem?_cons_zero, List.getElem?_cons_succ, Option.getD_some, Option.bind_some, Option.map_some, true_and, and_true, Bool.false_eq_true, Nat.reduceAdd, Nat.reduceSub, Nat.reduceLeDiff, Nat.le_refl, Bool.and_true, Bool.and_self, Bool.not_true, Bool.not_false, if_true, if_false, reduceIte, Nat.zero_add, Nat.sub_self, atD_t, List.length_map]
    obtain ⟨p, hp⟩ : ∃ p : D → Bool, p = fun d => match d with | .int x => decide (Builtin.bitXor x y ∈ ys) | _ => false := ⟨_, rfl⟩
    have pk : ∀ x : Int, p (.int x) = decide (Builtin.bitXor x y ∈ ys) := fun k => by rw [hp]
    refine ⟨by omega, T_compFilter p id ?_ ?_⟩
    · intro d hd
      obtain ⟨x, _, rfl⟩ := List.mem_map.mp hd
      simp only [T_ret, T_eName, TN_val, TN_own, T_oName, TR_some, T_oVal, T_eC, T_eFrz, celD_lst, slotD_val, slotD_own, slotD_bor, rs_d, rs_s, rss_nil, rss_cons, T_op2, T_op2L, T_op1, T_opN, T_opNL, T_eBin, T_lBin, T_eUn, T_eFn, T_lFn, T_oNil, T_oCons, T_aNil, T_aCons, T_eTup, T_lLst, TB_bool, T_tOf, T_mTru, br_true, br_false, T_mAnd, T_mOr, T_mNot, T_eAnd, T_eOr, T_eNot, T_eIf, T_lIf, T_eChain, T_eIsi, T_mCall, T_mCallK, CB_own, CB_bor, T_mCallB, T_mCallT, TSV_val, TSV_own, T_eSV, TSL_own, T_lSV, sq_nx, sq_rt, sq_bk, sq_ct, T_sSeq, T_sSkip, T_sExpr, T_sRetV, T_sRetL, T_sRetS, T_sRetN, TRN_val, TRN_own, T_sRetName, T_sIf, T_sSetV, T_sSetL, TSet_val, TSet_own, T_sSetS, L2T_two, L3T_three, T_sPar, T_sPar3, T_sParL, T_sAug, T_sAsg, gN_eq, gT_eq, gsNil_eq, gsCons_eq, IX_own, IX_bor, O_gIx, T_mNoPart, TI_int, T_mPart, TLs_list, TTs_tuple, T_lCut, T_eCut, LO_nil, LO_cons, T_lOr, TAny_list, TAny_tuple, T_iAny, T_iEnumD, TZ_list, TZ_tuple, T_iZipD, TRg1_int, T_iRange1, TRg2_int, T_iRange2, TRg3_int, T_iRange3, lpK_nx, lpK_ct, lpK_bk, lpK_rt, fcK_nx, fcK_ct, fcK_bk, fcK_rt, wlK_nx, wlK_ct, wlK_bk, wlK_rt, wipe_nil, wipe_cons, back_nil, back_cons, noC_nil, noC_cons, noC1_none, noC1_val, T_comp_nil, T_lComp, MX_own, MX_bor, isCellLst_own, isCellLst_bor, T_eMut, T_eMeth, RP_lst, T_lRep, gL_eq, T_sParLL, T_sParVL, RG_int, T_lRange1, T_inK, T_eInK, T_eNinK, dictD_own, keyD_int, T_lDict, TO_nx, TO_val, TO_own, T0_bor, O_mkP, O_mkB, O_some, O_none, O_ite, O_bind, O_map, fAdd_i, fAddI_i, fSub_i, fMul_i, fDiv_i, fMod_i, fShl_i, fAnd_i, fXor_i, fShr_i, fLt_i, fLe_i, fGt_i, fGe_i, fEq_i, fNe_i, fNeg_i, ixN_3_0, ixN_3_1, ixN_3_2, ixN_2_0, ixN_2_1, ixN_1_0, truD_i, truD_b, intD_i, intD_b, absD_i, lenD_l, lenD_t, tupleD_l, tupleD_t, listD_l, listD_t, List.map_cons, List.map_nil, List.length_cons, List.length_nil, List.cons_append, List.nil_append, List.replicate_succ, List.replicate_zero, List.set_cons_zero, List.set_cons_succ, List.getElem?_cons_zero, List.getElem?_cons_succ, Option.getD_some, Option.bind_some, Option.map_some, true_and, and_true, Bool.false_eq_true, Nat.reduceAdd, Nat.reduceSub, Nat.reduceLeDiff, Nat.le_refl, Bool.and_true, Bool.and_self, Bool.not_true, Bool.not_false, if_true, if_false, reduceIte, Nat.zero_add, Nat.sub_self, ha, pk]
      exact ⟨fun _ => trivial, fun _ => rfl⟩
    have el : (((il ys).filter p).map id).length = meet ys y := by
      rw [List.map_id, List.filter_map, List.length_map]
      unfold meet
      congr 1
      exact List.filter_congr fun k _ => pk k
    simp only [T_ret, T_eName, TN_val, TN_own, T_oName, TR_some, T_oVal, T_eC, T_eFrz, celD_lst, slotD_val, slotD_own, slotD_bor, rs_d, rs_s, rss_nil, rss_cons, T_op2, T_op2L, T_op1, T_opN, T_opNL, T_eBin, T_lBin, T_eUn, T_eFn, T_lFn, T_oNil, T_oCons, T_aNil, T_aCons, T_eTup, T_lLst, TB_bool, T_tOf, T_mTru, br_true, br_false, T_mAnd, T_mOr, T_mNot, T_eAnd, T_eOr, T_eNot, T_eIf, T_lIf, T_eChain, T_eIsi, T_mCall, T_mCallK, CB_own, CB_bor, T_mCallB, T_mCallT, TSV_val, TSV_own, T_eSV, TSL_own, T_lSV, sq_nx, sq_rt, sq_bk, sq_ct, T_sSeq, T_sSkip, T_sExpr, T_sRetV, T_sRetL, T_sRetS, T_sRetN, TRN_val, TRN_own, T_sRetName, T_sIf, T_sSetV, T_sSetL, TSet_val, TSet_own, T_sSetS, L2T_two, L3T_three, T_sPar, T_sPar3, T_sParL, T_sAug, T_sAsg, gN_eq, gT_eq, gsNil_eq, gsCons_eq, IX_own, IX_bor, O_gIx, T_mNoPart, TI_int, T_mPart, TLs_list, TTs_tuple, T_lCut, T_eCut, LO_nil, LO_cons, T_lOr, TAny_list, TAny_tuple, T_iAny, T_iEnumD, TZ_list, TZ_tuple, T_iZipD, TRg1_int, T_iRange1, TRg2_int, T_iRange2, TRg3_int, T_iRange3, lpK_nx, lpK_ct, lpK_bk, lpK_rt, fcK_nx, fcK_ct, fcK_bk, fcK_rt, wlK_nx, wlK_ct, wlK_bk, wlK_rt, wipe_nil, wipe_cons, back_nil, back_cons, noC_nil, noC_cons, noC1_none, noC1_val, T_comp_nil, T_lComp, MX_own, MX_bor, isCellLst_own, isCellLst_bor, T_eMut, T_eMeth, RP_lst, T_lRep, gL_eq, T_sParLL, T_sParVL, RG_int, T_lRange1, T_inK, T_eInK, T_eNinK, dictD_own, keyD_int, T_lDict, TO_nx, TO_val, TO_own, T0_bor, O_mkP, O_mkB, O_some, O_none, O_ite, O_bind, O_map, fAdd_i, fAddI_i, fSub_i, fMul_i, fDiv_i, fMod_i, fShl_i, fAnd_i, fXor_i, fShr_i, fLt_i, fLe_i, fGt_i, fGe_i, fEq_i, fNe_i, fNeg_i, ixN_3_0, ixN_3_1, ixN_3_2, ixN_2_0, ixN_2_1, ixN_1_0, truD_i, truD_b, intD_i, intD_b, absD_i, lenD_l, lenD_t, tupleD_l, tupleD_t, listD_l, listD_t, List.map_cons, List.map_nil, List.length_cons, List.length_nil, List.cons_append, List.nil_append, List.replicate_succ, List.replicate_zero, List.set_cons_zero, List.set_cons_succ, List.getElem?_cons_zero, List.getElem?_cons_succ, Option.getD_some, Option.bind_some, Option.map_some, true_and, and_true, Bool.false_eq_true, Nat.reduceAdd, Nat.reduceSub, Nat.reduceLeDiff, Nat.le_refl, Bool.and_true, Bool.and_self, Bool.not_true, Bool.not_false, if_true, if_false, reduceIte, Nat.zero_add, Nat.sub_self, el]
theorem il_ints {xs : List Int} {f : Int → Int} : ((il xs).map fun d => match d with | .int x => PyData.int (f x) | d => d) = (xs.map f).map .int := by
  rw [List.map_map, List.map_map]; rfl
theorem triples_ok {m r : Nat} {ys : List Int} (hl : ys.length ≤ 1000) : F_triples_in [tld m r ys] = some (.val (.int (ys.map fun y => (meet ys y : Int)).sum)) := by
  apply O_is.mp
  unfold F_triples_in b_triples_in
  simp only [T_ret, T_eName, TN_val, TN_own, T_oName, TR_some, T_oVal, T_eC, T_eFrz, celD_lst, slotD_val, slotD_own, slotD_bor, rs_d, rs_s, rss_nil, rss_cons, T_op2, T_op2L, T_op1, T_opN, T_opNL, T_eBin, T_lBin, T_eUn, T_eFn, T_lFn, T_oNil, T_oCons, T_aNil, T_aCons, T_eTup, T_lLst, TB_bool, T_tOf, T_mTru, br_true, br_false, T_mAnd, T_mOr, T_mNot, T_eAnd, T_eOr, T_eNot, T_eIf, T_lIf, T_eChain, T_eIsi, T_mCall, T_mCallK, CB_own, CB_bor, T_mCallB, T_mCallT, TSV_val, TSV_own, T_eSV, TSL_own, T_lSV, sq_nx, sq_rt, sq_bk, sq_ct, T_sSeq, T_sSkip, T_sExpr, T_sRetV, T_sRetL, T_sRetS, T_sRetN, TRN_val, TRN_own, T_sRetName, T_sIf, T_sSetV, T_sSetL, TSet_val, TSet_own, T_sSetS, L2T_two, L3T_three, T_sPar, T_sPar3, T_sParL, T_sAug, T_sAsg, gN_eq, gT_eq, gsNil_eq, gsCons_eq, IX_own, IX_bor, O_gIx, T_mNoPart, TI_int, T_mPart, TLs_list, TTs_tuple, T_lCut, T_eCut, LO_nil, LO_cons, T_lOr, TAny_list, TAny_tuple, T_iAny, T_iEnumD, TZ_list, TZ_tuple, T_iZipD, TRg1_int, T_iRange1, TRg2_int, T_iRange2, TRg3_int, T_iRange3, lpK_nx, lpK_ct, lpK_bk, lpK_rt, fcK_nx, fcK_ct, fcK_bk, fcK_rt, wlK_nx, wlK_ct, wlK_bk, wlK_rt, wipe_nil, wipe_cons, back_nil, back_cons, noC_nil, noC_cons, noC1_none, noC1_val, T_comp_nil, T_lComp, MX_own, MX_bor, isCellLst_own, isCellLst_bor, T_eMut, T_eMeth, RP_lst, T_lRep, gL_eq, T_sParLL, T_sParVL, RG_int, T_lRange1, T_inK, T_eInK, T_eNinK, dictD_own, keyD_int, T_lDict, TO_nx, TO_val, TO_own, T0_bor, O_mkP, O_mkB, O_some, O_none, O_ite, O_bind, O_map, fAdd_i, fAddI_i, fSub_i, fMul_i, fDiv_i, fMod_i, fShl_i, fAnd_i, fXor_i, fShr_i, fLt_i, fLe_i, fGt_i, fGe_i, fEq_i, fNe_i, fNeg_i, ixN_3_0, ixN_3_1, ixN_3_2, ixN_2_0, ixN_2_1, ixN_1_0, truD_i, truD_b, intD_i, intD_b, absD_i, lenD_l, lenD_t, tupleD_l, tupleD_t, listD_l, listD_t, List.map_cons, List.map_nil, List.length_cons, List.length_nil, List.cons_append, List.nil_append, List.replicate_succ, List.replicate_zero, List.set_cons_zero, List.set_cons_succ, List.getElem?_cons_zero, List.getElem?_cons_succ, Option.getD_some, Option.bind_some, Option.map_some, true_and, and_true, Bool.false_eq_true, Nat.reduceAdd, Nat.reduceSub, Nat.reduceLeDiff, Nat.le_refl, Bool.and_true, Bool.and_self, Bool.not_true, Bool.not_false, if_true, if_false, reduceIte, Nat.zero_add, Nat.sub_self, atD_t, List.length_map]
  obtain ⟨p, hp⟩ : ∃ p : D → D, p = fun d => match d with | .int x => .int (meet ys x : Int) | d => d := ⟨_, rfl⟩
  have pk : ∀ x : Int, p (.int x) = .int (meet ys x : Int) := fun k => by rw [hp]
  refine ⟨by omega, T_compMap p ?_ ?_⟩
  · intro d hd
    obtain ⟨x, _, rfl⟩ := List.mem_map.mp hd
    simp only [T_ret, T_eName, TN_val, TN_own, T_oName, TR_some, T_oVal, T_eC, T_eFrz, celD_lst, slotD_val, slotD_own, slotD_bor, rs_d, rs_s, rss_nil, rss_cons, T_op2, T_op2L, T_op1, T_opN, T_opNL, T_eBin, T_lBin, T_eUn, T_eFn, T_lFn, T_oNil, T_oCons, T_aNil, T_aCons, T_eTup, T_lLst, TB_bool, T_tOf, T_mTru, br_true, br_false, T_mAnd, T_mOr, T_mNot, T_eAnd, T_eOr, T_eNot, T_eIf, T_lIf, T_eChain, T_eIsi, T_mCall, T_mCallK, CB_own, CB_bor, T_mCallB, T_mCallT, TSV_val, TSV_own, T_eSV, TSL_own, T_lSV, sq_nx, sq_rt, sq_bk, sq_ct, T_sSeq, T_sSkip, T_sExpr, T_sRetV, T_sRetL, T_sRetS, T_sRetN, TRN_val, TRN_own, T_sRetName, T_sIf, T_sSetV, T_sSetL, TSet_val, TSet_own, T_sSetS, L2T_two, L3T_three, T_sPar, T_sPar3, T_sParL, T_sAug, T_sAsg, gN_eq, gT_eq, gsNil_eq, gsCons_eq, IX_own, IX_bor, O_gIx, T_mNoPart, TI_int, T_mPart, TLs_list, TTs_tuple, T_lCut, T_eCut, LO_nil, LO_cons, T_lOr, TAny_list, TAny_tuple, T_iAny, T_iEnumD, TZ_list, TZ_tuple, T_iZipD, TRg1_int, T_iRange1, TRg2_int, T_iRange2, TRg3_int, T_iRange3, lpK_nx, lpK_ct, lpK_bk, lpK_rt, fcK_nx, fcK_ct, fcK_bk, fcK_rt, wlK_nx, wlK_ct, wlK_bk, wlK_rt, wipe_nil, wipe_cons, back_nil, back_cons, noC_nil, noC_cons, noC1_none, noC1_val, T_comp_nil, T_lComp, MX_own, MX_bor, isCellLst_own, isCellLst_bor, T_eMut, T_eMeth, RP_lst, T_lRep, gL_eq, T_sParLL, T_sParVL, RG_int, T_lRange1, T_inK, T_eInK, T_eNinK, dictD_own, keyD_int, T_lDict, TO_nx, TO_val, TO_own, T0_bor, O_mkP, O_mkB, O_some, O_none, O_ite, O_bind, O_map, fAdd_i, fAddI_i, fSub_i, fMul_i, fDiv_i, fMod_i, fShl_i, fAnd_i, fXor_i, fShr_i, fLt_i, fLe_i, fGt_i, fGe_i, fEq_i, fNe_i, fNeg_i, ixN_3_0, ixN_3_1, ixN_3_2, ixN_2_0, ixN_2_1, ixN_1_0, truD_i, truD_b, intD_i, intD_b, absD_i, lenD_l, lenD_t, tupleD_l, tupleD_t, listD_l, listD_t, List.map_cons, List.map_nil, List.length_cons, List.length_nil, List.cons_append, List.nil_append, List.replicate_succ, List.replicate_zero, List.set_cons_zero, List.set_cons_succ, List.getElem?_cons_zero, List.getElem?_cons_succ, Option.getD_some, Option.bind_some, Option.map_some, true_and, and_true, Bool.false_eq_true, Nat.reduceAdd, Nat.reduceSub, Nat.reduceLeDiff, Nat.le_refl, Bool.and_true, Bool.and_self, Bool.not_true, Bool.not_false, if_true, if_false, reduceIte, Nat.zero_add, Nat.sub_self, meetings_ok (m := m) (r := r) hl, pk]
  · have e : (il ys).map p = (ys.map fun y => (meet ys y : Int)).map PyData.int := by
      rw [List.map_map, List.map_map]
      exact List.map_congr_left fun x _ => pk x
    rw [e]
    simp only [T_ret, T_eName, TN_val, TN_own, T_oName, TR_some, T_oVal, T_eC, T_eFrz, celD_lst, slotD_val, slotD_own, slotD_bor, rs_d, rs_s, rss_nil, rss_cons, T_op2, T_op2L, T_op1, T_opN, T_opNL, T_eBin, T_lBin, T_eUn, T_eFn, T_lFn, T_oNil, T_oCons, T_aNil, T_aCons, T_eTup, T_lLst, TB_bool, T_tOf, T_mTru, br_true, br_false, T_mAnd, T_mOr, T_mNot, T_eAnd, T_eOr, T_eNot, T_eIf, T_lIf, T_eChain, T_eIsi, T_mCall, T_mCallK, CB_own, CB_bor, T_mCallB, T_mCallT, TSV_val, TSV_own, T_eSV, TSL_own, T_lSV, sq_nx, sq_rt, sq_bk, sq_ct, T_sSeq, T_sSkip, T_sExpr, T_sRetV, T_sRetL, T_sRetS, T_sRetN, TRN_val, TRN_own, T_sRetName, T_sIf, T_sSetV, T_sSetL, TSet_val, TSet_own, T_sSetS, L2T_two, L3T_three, T_sPar, T_sPar3, T_sParL, T_sAug, T_sAsg, gN_eq, gT_eq, gsNil_eq, gsCons_eq, IX_own, IX_bor, O_gIx, T_mNoPart, TI_int, T_mPart, TLs_list, TTs_tuple, T_lCut, T_eCut, LO_nil, LO_cons, T_lOr, TAny_list, TAny_tuple, T_iAny, T_iEnumD, TZ_list, TZ_tuple, T_iZipD, TRg1_int, T_iRange1, TRg2_int, T_iRange2, TRg3_int, T_iRange3, lpK_nx, lpK_ct, lpK_bk, lpK_rt, fcK_nx, fcK_ct, fcK_bk, fcK_rt, wlK_nx, wlK_ct, wlK_bk, wlK_rt, wipe_nil, wipe_cons, back_nil, back_cons, noC_nil, noC_cons, noC1_none, noC1_val, T_comp_nil, T_lComp, MX_own, MX_bor, isCellLst_own, isCellLst_bor, T_eMut, T_eMeth, RP_lst, T_lRep, gL_eq, T_sParLL, T_sParVL, RG_int, T_lRange1, T_inK, T_eInK, T_eNinK, dictD_own, keyD_int, T_lDict, TO_nx, TO_val, TO_own, T0_bor, O_mkP, O_mkB, O_some, O_none, O_ite, O_bind, O_map, fAdd_i, fAddI_i, fSub_i, fMul_i, fDiv_i, fMod_i, fShl_i, fAnd_i, fXor_i, fShr_i, fLt_i, fLe_i, fGt_i, fGe_i, fEq_i, fNe_i, fNeg_i, ixN_3_0, ixN_3_1, ixN_3_2, ixN_2_0, ixN_2_1, ixN_1_0, truD_i, truD_b, intD_i, intD_b, absD_i, lenD_l, lenD_t, tupleD_l, tupleD_t, listD_l, listD_t, List.map_cons, List.map_nil, List.length_cons, List.length_nil, List.cons_append, List.nil_append, List.replicate_succ, List.replicate_zero, List.set_cons_zero, List.set_cons_succ, List.getElem?_cons_zero, List.getElem?_cons_succ, Option.getD_some, Option.bind_some, Option.map_some, true_and, and_true, Bool.false_eq_true, Nat.reduceAdd, Nat.reduceSub, Nat.reduceLeDiff, Nat.le_refl, Bool.and_true, Bool.and_self, Bool.not_true, Bool.not_false, if_true, if_false, reduceIte, Nat.zero_add, Nat.sub_self, sumD_l, intsOf_map]
theorem line_ok {m r : Nat} {ys : List Int} (h : Told m r ys) : F_line_fails [tld m r ys] = some (.val (.int (3 * (ys.length : Int) * ((2 ^ m : Nat) : Int) - 6 * (ys.length : Int) * (ys.length : Int) + 4 * (ys.map fun y => (meet ys y : Int)).sum))) := by
  have hl := h.len
  have hm := h.m820
  apply O_is.mp
  unfold F_line_fails b_line_fails F_line_fails_in b_line_fails_in
  simp only [T_ret, T_eName, TN_val, TN_own, T_oName, TR_some, T_oVal, T_eC, T_eFrz, celD_lst, slotD_val, slotD_own, slotD_bor, rs_d, rs_s, rss_nil, rss_cons, T_op2, T_op2L, T_op1, T_opN, T_opNL, T_eBin, T_lBin, T_eUn, T_eFn, T_lFn, T_oNil, T_oCons, T_aNil, T_aCons, T_eTup, T_lLst, TB_bool, T_tOf, T_mTru, br_true, br_false, T_mAnd, T_mOr, T_mNot, T_eAnd, T_eOr, T_eNot, T_eIf, T_lIf, T_eChain, T_eIsi, T_mCall, T_mCallK, CB_own, CB_bor, T_mCallB, T_mCallT, TSV_val, TSV_own, T_eSV, TSL_own, T_lSV, sq_nx, sq_rt, sq_bk, sq_ct, T_sSeq, T_sSkip, T_sExpr, T_sRetV, T_sRetL, T_sRetS, T_sRetN, TRN_val, TRN_own, T_sRetName, T_sIf, T_sSetV, T_sSetL, TSet_val, TSet_own, T_sSetS, L2T_two, L3T_three, T_sPar, T_sPar3, T_sParL, T_sAug, T_sAsg, gN_eq, gT_eq, gsNil_eq, gsCons_eq, IX_own, IX_bor, O_gIx, T_mNoPart, TI_int, T_mPart, TLs_list, TTs_tuple, T_lCut, T_eCut, LO_nil, LO_cons, T_lOr, TAny_list, TAny_tuple, T_iAny, T_iEnumD, TZ_list, TZ_tuple, T_iZipD, TRg1_int, T_iRange1, TRg2_int, T_iRange2, TRg3_int, T_iRange3, lpK_nx, lpK_ct, lpK_bk, lpK_rt, fcK_nx, fcK_ct, fcK_bk, fcK_rt, wlK_nx, wlK_ct, wlK_bk, wlK_rt, wipe_nil, wipe_cons, back_nil, back_cons, noC_nil, noC_cons, noC1_none, noC1_val, T_comp_nil, T_lComp, MX_own, MX_bor, isCellLst_own, isCellLst_bor, T_eMut, T_eMeth, RP_lst, T_lRep, gL_eq, T_sParLL, T_sParVL, RG_int, T_lRange1, T_inK, T_eInK, T_eNinK, dictD_own, keyD_int, T_lDict, TO_nx, TO_val, TO_own, T0_bor, O_mkP, O_mkB, O_some, O_none, O_ite, O_bind, O_map, fAdd_i, fAddI_i, fSub_i, fMul_i, fDiv_i, fMod_i, fShl_i, fAnd_i, fXor_i, fShr_i, fLt_i, fLe_i, fGt_i, fGe_i, fEq_i, fNe_i, fNeg_i, ixN_3_0, ixN_3_1, ixN_3_2, ixN_2_0, ixN_2_1, ixN_1_0, truD_i, truD_b, intD_i, intD_b, absD_i, lenD_l, lenD_t, tupleD_l, tupleD_t, listD_l, listD_t, List.map_cons, List.map_nil, List.length_cons, List.length_nil, List.cons_append, List.nil_append, List.replicate_succ, List.replicate_zero, List.set_cons_zero, List.set_cons_succ, List.getElem?_cons_zero, List.getElem?_cons_succ, Option.getD_some, Option.bind_some, Option.map_some, true_and, and_true, Bool.false_eq_true, Nat.reduceAdd, Nat.reduceSub, Nat.reduceLeDiff, Nat.le_refl, Bool.and_true, Bool.and_self, Bool.not_true, Bool.not_false, if_true, if_false, reduceIte, Nat.zero_add, Nat.sub_self, sure_told_ok h, atD_t, List.length_map, triples_ok (m := m) (r := r) (ys := ys) (by omega), one_shl]
  exact ⟨cPowP (by omega) (by omega) (by decide), cMulL (by decide), cMulL (by omega), cMulL (by decide), cMulL (by omega), cMulL (by decide)⟩
/-- the ones of a told table -/
def oddc (r : Nat) (ys : List Int) : Nat := (ys.filter fun y => decide (pb 1024 (y.toNat &&& r) = true)).length
theorem sum_odd {r : Nat} : ∀ {ys : List Int}, (ys.map fun y => 1 - 2 * (((pb 1024 (y.toNat &&& r)).toNat : Nat) : Int)).sum = (ys.length : Int) - 2 * (oddc r ys : Int)
  | [] => rfl
  | y :: ys => by
    rw [List.map_cons, List.sum_cons, sum_odd (ys := ys)]
    unfold oddc
    rw [List.filter_cons, List.length_cons]
    cases pb 1024 (y.toNat &&& r) <;> simp <;> omega
theorem ones_ok {m r : Nat} {ys : List Int} (h : Told m r ys) (h1 : 1 ≤ m) : F_many_ones [tld m r ys] = some (.val (.int ((if r = 0 then 0 else ((2 ^ (m - 1) : Nat) : Int)) + ((ys.length : Int) - 2 * (oddc r ys : Int))))) := by
  have hl := h.len
  have hm := h.m820
  apply O_is.mp
  obtain ⟨p, hp⟩ : ∃ p : D → D, p = fun d => match d with | .int x => .int (1 - 2 * (((pb 1024 (x.toNat &&& r)).toNat : Nat) : Int)) | d => d := ⟨_, rfl⟩
  have pk : ∀ x : Int, p (.int x) = .int (1 - 2 * (((pb 1024 (x.toNat &&& r)).toNat : Nat) : Int)) := fun k => by rw [hp]
  have e : (il ys).map p = (ys.map fun y => 1 - 2 * (((pb 1024 (y.toNat &&& r)).toNat : Nat) : Int)).map PyData.int := by
    rw [List.map_map, List.map_map]
    exact List.map_congr_left fun x _ => pk x
  have main : ∀ v : Int, T (compL (gN 2) (mret true) (eBin fSub (oVal (eC (.int 1))) (oVal (eBin fMul (oVal (eC (.int 2))) (oVal (eSV (mCall F_odd (aCons (eBin fAnd (oVal (eBin atD (oName 0) (oVal (eC (.int 1))))) (oName 2)) aNil))))))) [2] (il ys)) [some (.val (tld m r ys)), some (.val (.int v)), none] fun out S2 => S2 = [some (.val (tld m r ys)), some (.val (.int v)), none] ∧ out = (il ys).map p := fun v => by
    refine T_compMap p ?_ ⟨rfl, rfl⟩
    intro d hd
    obtain ⟨x, hx, rfl⟩ := List.mem_map.mp hd
    obtain ⟨k, rfl, hk⟩ := h.ge x hx
    simp only [T_ret, T_eName, TN_val, TN_own, T_oName, TR_some, T_oVal, T_eC, T_eFrz, celD_lst, slotD_val, slotD_own, slotD_bor, rs_d, rs_s, rss_nil, rss_cons, T_op2, T_op2L, T_op1, T_opN, T_opNL, T_eBin, T_lBin, T_eUn, T_eFn, T_lFn, T_oNil, T_oCons, T_aNil, T_aCons, T_eTup, T_lLst, TB_bool, T_tOf, T_mTru, br_true, br_false, T_mAnd, T_mOr, T_mNot, T_eAnd, T_eOr, T_eNot, T_eIf, T_lIf, T_eChain, T_eIsi, T_mCall, T_mCallK, CB_own, CB_bor, T_mCallB, T_mCallT, TSV_val, TSV_own, T_eSV, TSL_own, T_lSV, sq_nx, sq_rt, sq_bk, sq_ct, T_sSeq, T_sSkip, T_sExpr, T_sRetV, T_sRetL, T_sRetS, T_sRetN, TRN_val, TRN_own, T_sRetName, T_sIf, T_sSetV, T_sSetL, TSet_val, TSet_own, T_sSetS, L2T_two, L3T_three, T_sPar, T_sPar3, T_sParL, T_sAug, T_sAsg, gN_eq, gT_eq, gsNil_eq, gsCons_eq, IX_own, IX_bor, O_gIx, T_mNoPart, TI_int, T_mPart, TLs_list, TTs_tuple, T_lCut, T_eCut, LO_nil, LO_cons, T_lOr, TAny_list, TAny_tuple, T_iAny, T_iEnumD, TZ_list, TZ_tuple, T_iZipD, TRg1_int, T_iRange1, TRg2_int, T_iRange2, TRg3_int, T_iRange3, lpK_nx, lpK_ct, lpK_bk, lpK_rt, fcK_nx, fcK_ct, fcK_bk, fcK_rt, wlK_nx, wlK_ct, wlK_bk, wlK_rt, wipe_nil, wipe_cons, back_nil, back_cons, noC_nil, noC_cons, noC1_none, noC1_val, T_comp_nil, T_lComp, MX_own, MX_bor, isCellLst_own, isCellLst_bor, T_eMut, T_eMeth, RP_lst, T_lRep, gL_eq, T_sParLL, T_sParVL, RG_int, T_lRange1, T_inK, T_eInK, T_eNinK, dictD_own, keyD_int, T_lDict, TO_nx, TO_val, TO_own, T0_bor, O_mkP, O_mkB, O_some, O_none, O_ite, O_bind, O_map, fAdd_i, fAddI_i, fSub_i, fMul_i, fDiv_i, fMod_i, fShl_i, fAnd_i, fXor_i, fShr_i, fLt_i, fLe_i, fGt_i, fGe_i, fEq_i, fNe_i, fNeg_i, ixN_3_0, ixN_3_1, ixN_3_2, ixN_2_0, ixN_2_1, ixN_1_0, truD_i, truD_b, intD_i, intD_b, absD_i, lenD_l, lenD_t, tupleD_l, tupleD_t, listD_l, listD_t, List.map_cons, List.map_nil, List.length_cons, List.length_nil, List.cons_append, List.nil_append, List.replicate_succ, List.replicate_zero, List.set_cons_zero, List.set_cons_succ, List.getElem?_cons_zero, List.getElem?_cons_succ, Option.getD_some, Option.bind_some, Option.map_some, true_and, and_true, Bool.false_eq_true, Nat.reduceAdd, Nat.reduceSub, Nat.reduceLeDiff, Nat.le_refl, Bool.and_true, Bool.and_self, Bool.not_true, Bool.not_false, if_true, if_false, reduceIte, Nat.zero_add, Nat.sub_self, atD_t, bitAnd_nat, oddF_ok, pk]
    rw [Int.toNat_natCast, Nat.and_comm]
    exact ⟨cMulL (by decide), rfl⟩
  unfold F_many_ones b_many_ones F_ones_in b_ones_in
  by_cases hr : r = 0
  · subst hr
    simp only [T_ret, T_eName, TN_val, TN_own, T_oName, TR_some, T_oVal, T_eC, T_eFrz, celD_lst, slotD_val, slotD_own, slotD_bor, rs_d, rs_s, rss_nil, rss_cons, T_op2, T_op2L, T_op1, T_opN, T_opNL, T_eBin, T_lBin, T_eUn, T_eFn, T_lFn, T_oNil, T_oCons, T_aNil, T_aCons, T_eTup, T_lLst, TB_bool, T_tOf, T_mTru, br_true, br_false, T_mAnd, T_mOr, T_mNot, T_eAnd, T_eOr, T_eNot, T_eIf, T_lIf, T_eChain, T_eIsi, T_mCall, T_mCallK, CB_own, CB_bor, T_mCallB, T_mCallT, TSV_val, TSV_own, T_eSV, TSL_own, T_lSV, sq_nx, sq_rt, sq_bk, sq_ct, T_sSeq, T_sSkip, T_sExpr, T_sRetV, T_sRetL, T_sRetS, T_sRetN, TRN_val, TRN_own, T_sRetName, T_sIf, T_sSetV, T_sSetL, TSet_val, TSet_own, T_sSetS, L2T_two, L3T_three, T_sPar, T_sPar3, T_sParL, T_sAug, T_sAsg, gN_eq, gT_eq, gsNil_eq, gsCons_eq, IX_own, IX_bor, O_gIx, T_mNoPart, TI_int, T_mPart, TLs_list, TTs_tuple, T_lCut, T_eCut, LO_nil, LO_cons, T_lOr, TAny_list, TAny_tuple, T_iAny, T_iEnumD, TZ_list, TZ_tuple, T_iZipD, TRg1_int, T_iRange1, TRg2_int, T_iRange2, TRg3_int, T_iRange3, lpK_nx, lpK_ct, lpK_bk, lpK_rt, fcK_nx, fcK_ct, fcK_bk, fcK_rt, wlK_nx, wlK_ct, wlK_bk, wlK_rt, wipe_nil, wipe_cons, back_nil, back_cons, noC_nil, noC_cons, noC1_none, noC1_val, T_comp_nil, T_lComp, MX_own, MX_bor, isCellLst_own, isCellLst_bor, T_eMut, T_eMeth, RP_lst, T_lRep, gL_eq, T_sParLL, T_sParVL, RG_int, T_lRange1, T_inK, T_eInK, T_eNinK, dictD_own, keyD_int, T_lDict, TO_nx, TO_val, TO_own, T0_bor, O_mkP, O_mkB, O_some, O_none, O_ite, O_bind, O_map, fAdd_i, fAddI_i, fSub_i, fMul_i, fDiv_i, fMod_i, fShl_i, fAnd_i, fXor_i, fShr_i, fLt_i, fLe_i, fGt_i, fGe_i, fEq_i, fNe_i, fNeg_i, ixN_3_0, ixN_3_1, ixN_3_2, ixN_2_0, ixN_2_1, ixN_1_0, truD_i, truD_b, intD_i, intD_b, absD_i, lenD_l, lenD_t, tupleD_l, tupleD_t, listD_l, listD_t, List.map_cons, List.map_nil, List.length_cons, List.length_nil, List.cons_append, List.nil_append, List.replicate_succ, List.replicate_zero, List.set_cons_zero, List.set_cons_succ, List.getElem?_cons_zero, List.getElem?_cons_succ, Option.getD_some, Option.bind_some, Option.map_some, true_and, and_true, Bool.false_eq_true, Nat.reduceAdd, Nat.reduceSub, Nat.reduceLeDiff, Nat.le_refl, Bool.and_true, Bool.and_self, Bool.not_true, Bool.not_false, if_true, if_false, reduceIte, Nat.zero_add, Nat.sub_self, sure_told_ok h, atD_t, show decide ((((0 : Nat) : Int)) = 0) = true from rfl, List.length_map]
    refine ⟨by omega, T_mono (main 0) ?_⟩
    rintro out S ⟨rfl, rfl⟩
    rw [e]
    simp only [T_ret, T_eName, TN_val, TN_own, T_oName, TR_some, T_oVal, T_eC, T_eFrz, celD_lst, slotD_val, slotD_own, slotD_bor, rs_d, rs_s, rss_nil, rss_cons, T_op2, T_op2L, T_op1, T_opN, T_opNL, T_eBin, T_lBin, T_eUn, T_eFn, T_lFn, T_oNil, T_oCons, T_aNil, T_aCons, T_eTup, T_lLst, TB_bool, T_tOf, T_mTru, br_true, br_false, T_mAnd, T_mOr, T_mNot, T_eAnd, T_eOr, T_eNot, T_eIf, T_lIf, T_eChain, T_eIsi, T_mCall, T_mCallK, CB_own, CB_bor, T_mCallB, T_mCallT, TSV_val, TSV_own, T_eSV, TSL_own, T_lSV, sq_nx, sq_rt, sq_bk, sq_ct, T_sSeq, T_sSkip, T_sExpr, T_sRetV, T_sRetL, T_sRetS, T_sRetN, TRN_val, TRN_own, T_sRetName, T_sIf, T_sSetV, T_sSetL, TSet_val, TSet_own, T_sSetS, L2T_two, L3T_three, T_sPar, T_sPar3, T_sParL, T_sAug, T_sAsg, gN_eq, gT_eq, gsNil_eq, gsCons_eq, IX_own, IX_bor, O_gIx, T_mNoPart, TI_int, T_mPart, TLs_list, TTs_tuple, T_lCut, T_eCut, LO_nil, LO_cons, T_lOr, TAny_list, TAny_tuple, T_iAny, T_iEnumD, TZ_list, TZ_tuple, T_iZipD, TRg1_int, T_iRange1, TRg2_int, T_iRange2, TRg3_int, T_iRange3, lpK_nx, lpK_ct, lpK_bk, lpK_rt, fcK_nx, fcK_ct, fcK_bk, fcK_rt, wlK_nx, wlK_ct, wlK_bk, wlK_rt, wipe_nil, wipe_cons, back_nil, back_cons, noC_nil, noC_cons, noC1_none, noC1_val, T_comp_nil, T_lComp, MX_own, MX_bor, isCellLst_own, isCellLst_bor, T_eMut, T_eMeth, RP_lst, T_lRep, gL_eq, T_sParLL, T_sParVL, RG_int, T_lRange1, T_inK, T_eInK, T_eNinK, dictD_own, keyD_int, T_lDict, TO_nx, TO_val, TO_own, T0_bor, O_mkP, O_mkB, O_some, O_none, O_ite, O_bind, O_map, fAdd_i, fAddI_i, fSub_i, fMul_i, fDiv_i, fMod_i, fShl_i, fAnd_i, fXor_i, fShr_i, fLt_i, fLe_i, fGt_i, fGe_i, fEq_i, fNe_i, fNeg_i, ixN_3_0, ixN_3_1, ixN_3_2, ixN_2_0, ixN_2_1, ixN_1_0, truD_i, truD_b, intD_i, intD_b, absD_i, lenD_l, lenD_t, tupleD_l, tupleD_t, listD_l, listD_t, List.map_cons, List.map_nil, List.length_cons, List.length_nil, List.cons_append, List.nil_append, List.replicate_succ, List.replicate_zero, List.set_cons_zero, List.set_cons_succ, List.getElem?_cons_zero, List.getElem?_cons_succ, Option.getD_some, Option.bind_some, Option.map_some, true_and, and_true, Bool.false_eq_true, Nat.reduceAdd, Nat.reduceSub, Nat.reduceLeDiff, Nat.le_refl, Bool.and_true, Bool.and_self, Bool.not_true, Bool.not_false, if_true, if_false, reduceIte, Nat.zero_add, Nat.sub_self, sumD_l, intsOf_map, sum_odd]
  · have d0 : decide (((r : Nat) : Int) = 0) = false := decide_eq_false (by omega)
    have em : (m : Int) - 1 = ((m - 1 : Nat) : Int) := by omega
    simp only [T_ret, T_eName, TN_val, TN_own, T_oName, TR_some, T_oVal, T_eC, T_eFrz, celD_lst, slotD_val, slotD_own, slotD_bor, rs_d, rs_s, rss_nil, rss_cons, T_op2, T_op2L, T_op1, T_opN, T_opNL, T_eBin, T_lBin, T_eUn, T_eFn, T_lFn, T_oNil, T_oCons, T_aNil, T_aCons, T_eTup, T_lLst, TB_bool, T_tOf, T_mTru, br_true, br_false, T_mAnd, T_mOr, T_mNot, T_eAnd, T_eOr, T_eNot, T_eIf, T_lIf, T_eChain, T_eIsi, T_mCall, T_mCallK, CB_own, CB_bor, T_mCallB, T_mCallT, TSV_val, TSV_own, T_eSV, TSL_own, T_lSV, sq_nx, sq_rt, sq_bk, sq_ct, T_sSeq, T_sSkip, T_sExpr, T_sRetV, T_sRetL, T_sRetS, T_sRetN, TRN_val, TRN_own, T_sRetName, T_sIf, T_sSetV, T_sSetL, TSet_val, TSet_own, T_sSetS, L2T_two, L3T_three, T_sPar, T_sPar3, T_sParL, T_sAug, T_sAsg, gN_eq, gT_eq, gsNil_eq, gsCons_eq, IX_own, IX_bor, O_gIx, T_mNoPart, TI_int, T_mPart, TLs_list, TTs_tuple, T_lCut, T_eCut, LO_nil, LO_cons, T_lOr, TAny_list, TAny_tuple, T_iAny, T_iEnumD, TZ_list, TZ_tuple, T_iZipD, TRg1_int, T_iRange1, TRg2_int, T_iRange2, TRg3_int, T_iRange3, lpK_nx, lpK_ct, lpK_bk, lpK_rt, fcK_nx, fcK_ct, fcK_bk, fcK_rt, wlK_nx, wlK_ct, wlK_bk, wlK_rt, wipe_nil, wipe_cons, back_nil, back_cons, noC_nil, noC_cons, noC1_none, noC1_val, T_comp_nil, T_lComp, MX_own, MX_bor, isCellLst_own, isCellLst_bor, T_eMut, T_eMeth, RP_lst, T_lRep, gL_eq, T_sParLL, T_sParVL, RG_int, T_lRange1, T_inK, T_eInK, T_eNinK, dictD_own, keyD_int, T_lDict, TO_nx, TO_val, TO_own, T0_bor, O_mkP, O_mkB, O_some, O_none, O_ite, O_bind, O_map, fAdd_i, fAddI_i, fSub_i, fMul_i, fDiv_i, fMod_i, fShl_i, fAnd_i, fXor_i, fShr_i, fLt_i, fLe_i, fGt_i, fGe_i, fEq_i, fNe_i, fNeg_i, ixN_3_0, ixN_3_1, ixN_3_2, ixN_2_0, ixN_2_1, ixN_1_0, truD_i, truD_b, intD_i, intD_b, absD_i, lenD_l, lenD_t, tupleD_l, tupleD_t, listD_l, listD_t, List.map_cons, List.map_nil, List.length_cons, List.length_nil, List.cons_append, List.nil_append, List.replicate_succ, List.replicate_zero, List.set_cons_zero, List.set_cons_succ, List.getElem?_cons_zero, List.getElem?_cons_succ, Option.getD_some, Option.bind_some, Option.map_some, true_and, and_true, Bool.false_eq_true, Nat.reduceAdd, Nat.reduceSub, Nat.reduceLeDiff, Nat.le_refl, Bool.and_true, Bool.and_self, Bool.not_true, Bool.not_false, if_true, if_false, reduceIte, Nat.zero_add, Nat.sub_self, sure_told_ok h, atD_t, d0, List.length_map, em, one_shl]
    refine ⟨cPowP (by omega) (by omega) (by decide), by omega, T_mono (main _) ?_⟩
    rintro out S ⟨rfl, rfl⟩
    rw [e]
    simp only [T_ret, T_eName, TN_val, TN_own, T_oName, TR_some, T_oVal, T_eC, T_eFrz, celD_lst, slotD_val, slotD_own, slotD_bor, rs_d, rs_s, rss_nil, rss_cons, T_op2, T_op2L, T_op1, T_opN, T_opNL, T_eBin, T_lBin, T_eUn, T_eFn, T_lFn, T_oNil, T_oCons, T_aNil, T_aCons, T_eTup, T_lLst, TB_bool, T_tOf, T_mTru, br_true, br_false, T_mAnd, T_mOr, T_mNot, T_eAnd, T_eOr, T_eNot, T_eIf, T_lIf, T_eChain, T_eIsi, T_mCall, T_mCallK, CB_own, CB_bor, T_mCallB, T_mCallT, TSV_val, TSV_own, T_eSV, TSL_own, T_lSV, sq_nx, sq_rt, sq_bk, sq_ct, T_sSeq, T_sSkip, T_sExpr, T_sRetV, T_sRetL, T_sRetS, T_sRetN, TRN_val, TRN_own, T_sRetName, T_sIf, T_sSetV, T_sSetL, TSet_val, TSet_own, T_sSetS, L2T_two, L3T_three, T_sPar, T_sPar3, T_sParL, T_sAug, T_sAsg, gN_eq, gT_eq, gsNil_eq, gsCons_eq, IX_own, IX_bor, O_gIx, T_mNoPart, TI_int, T_mPart, TLs_list, TTs_tuple, T_lCut, T_eCut, LO_nil, LO_cons, T_lOr, TAny_list, TAny_tuple, T_iAny, T_iEnumD, TZ_list, TZ_tuple, T_iZipD, TRg1_int, T_iRange1, TRg2_int, T_iRange2, TRg3_int, T_iRange3, lpK_nx, lpK_ct, lpK_bk, lpK_rt, fcK_nx, fcK_ct, fcK_bk, fcK_rt, wlK_nx, wlK_ct, wlK_bk, wlK_rt, wipe_nil, wipe_cons, back_nil, back_cons, noC_nil, noC_cons, noC1_none, noC1_val, T_comp_nil, T_lComp, MX_own, MX_bor, isCellLst_own, isCellLst_bor, T_eMut, T_eMeth, RP_lst, T_lRep, gL_eq, T_sParLL, T_sParVL, RG_int, T_lRange1, T_inK, T_eInK, T_eNinK, dictD_own, keyD_int, T_lDict, TO_nx, TO_val, TO_own, T0_bor, O_mkP, O_mkB, O_some, O_none, O_ite, O_bind, O_map, fAdd_i, fAddI_i, fSub_i, fMul_i, fDiv_i, fMod_i, fShl_i, fAnd_i, fXor_i, fShr_i, fLt_i, fLe_i, fGt_i, fGe_i, fEq_i, fNe_i, fNeg_i, ixN_3_0, ixN_3_1, ixN_3_2, ixN_2_0, ixN_2_1, ixN_1_0, truD_i, truD_b, intD_i, intD_b, absD_i, lenD_l, lenD_t, tupleD_l, tupleD_t, listD_l, listD_t, List.map_cons, List.map_nil, List.length_cons, List.length_nil, List.cons_append, List.nil_append, List.replicate_succ, List.replicate_zero, List.set_cons_zero, List.set_cons_succ, List.getElem?_cons_zero, List.getElem?_cons_succ, Option.getD_some, Option.bind_some, Option.map_some, true_and, and_true, Bool.false_eq_true, Nat.reduceAdd, Nat.reduceSub, Nat.reduceLeDiff, Nat.le_refl, Bool.and_true, Bool.and_self, Bool.not_true, Bool.not_false, if_true, if_false, reduceIte, Nat.zero_add, Nat.sub_self, sumD_l, intsOf_map, sum_odd]
    rw [if_neg hr]
end Toy

namespace Toy
open PySem PySem.Spec PyProof.Rows L2 PD PM PX
theorem fmod_nat {k n : Nat} (hn : 0 < n) : ((k : Nat) : Int).fmod (n : Int) = ((k % n : Nat) : Int) := by rw [fmod_pos (by omega)]; rfl
theorem fdiv_nat {k n : Nat} (hn : 0 < n) : ((k : Nat) : Int).fdiv (n : Int) = ((k / n : Nat) : Int) := by rw [fdiv_pos (by omega)]; rfl
theorem same2 {a b : Int} : F__law_same [.list [.int a, .int b], .list [.int a, .int b]] = some (.val (.bool true)) := same_ints (xs := [a, b]) (by show 2 ≤ 1000000; decide) 28
theorem br3 {A B C : Bool} {F R : Prop} (h : A = true → B = true → C = true) (r : R) : br A (br B (br (!decide (C = true)) F R) R) R := by
  cases A
  · exact br_false.mpr r
  · refine br_true.mpr ?_
    cases B
    · exact br_false.mpr r
    · rw [h rfl rfl]; exact br_true.mpr (br_false.mpr r)
theorem SF_le {m : Nat} {t : Nat → Int} (ht : Bits m t) : 0 ≤ SF m t ∧ SF m t ≤ ((2 ^ m : Nat) : Int) * ((2 ^ m : Nat) : Int) := by
  rw [SF_lf ht]
  have h : ∀ x, lf m t x ≤ 2 ^ m := fun x => by
    unfold lf
    refine Nat.le_trans (List.length_filter_le _ _) ?_
    rw [List.length_range]
    exact Nat.le_refl _
  have a := Sm_abs (n := 2 ^ m) (f := fun x => (lf m t x : Int)) (b := 2 ^ m) fun k _ => by rw [Int.natAbs_natCast]; exact h k
  have b := Sm_nonneg (n := 2 ^ m) (f := fun x => (lf m t x : Int)) fun k _ => by omega
  rw [← Int.natCast_mul]
  omega
theorem SF_made {a b : Nat} {t1 t2 : Nat → Int} (h1 : Bits a t1) (h2 : Bits b t2) (e1 : SF a t1 = 0) (e2 : SF b t2 = 0) : SF (a + b) (made a t1 t2) = 0 := by
  have e := EE_made h1 h2
  rw [EE_SF (made_bits h1 h2), EE_SF h1, EE_SF h2, e1, e2, Nat.pow_add, Int.natCast_mul] at e
  have : ((2 ^ a : Nat) : Int) * ((2 ^ b : Nat) : Int) * (((2 ^ a : Nat) : Int) * ((2 ^ b : Nat) : Int)) = ((2 ^ a : Nat) : Int) * ((2 ^ a : Nat) : Int) * (((2 ^ b : Nat) : Int) * ((2 ^ b : Nat) : Int)) := by
    simp only [Int.mul_assoc, Int.mul_comm, Int.mul_left_comm]
  rw [Int.mul_zero, Int.sub_zero, Int.sub_zero] at e
  omega
/-- the best rows -/
def bestR (m : Nat) (t : Nat → Int) : List Int := ((List.range (2 ^ m)).filter fun k => decide (WH m (fun k => 1 - 2 * t k) k = top (2 ^ m) (WH m fun k => 1 - 2 * t k))).map fun (k : Nat) => (k : Int)
theorem bestR_len {m : Nat} {t : Nat → Int} : (bestR m t).length ≤ 2 ^ m := by
  unfold bestR
  rw [List.length_map]
  refine Nat.le_trans (List.length_filter_le _ _) ?_
  rw [List.length_range]
  exact Nat.le_refl _
theorem bestR_eq {m : Nat} {t : Nat → Int} : ((List.range (2 ^ m)).filter fun k => decide (WH m (fun k => 1 - 2 * t k) k = top (2 ^ m) (WH m fun k => 1 - 2 * t k))).map (fun (k : Nat) => PyData.int (k : Int)) = (bestR m t).map .int := by
  unfold bestR
  rw [List.map_map]; rfl
def bestP (m : Nat) (t : Nat → Int) : D → Bool
  | .int k => decide (WH m (fun k => 1 - 2 * t k) k.toNat = top (2 ^ m) (WH m fun k => 1 - 2 * t k))
  | _ => false
theorem bestP_eq {m : Nat} {t : Nat → Int} : ((tb (2 ^ m) fun k => (k : Int)).filter (bestP m t)).map id = (bestR m t).map .int := by
  unfold tb bestR
  rw [List.map_id, List.filter_map, List.map_map]
  rfl
theorem same_best {xs : List Int} (h : xs.length ≤ 1000000) : F__law_same [.list (xs.map .int), .list (xs.map .int)] = some (.val (.bool true)) := same_ints h 28
/-- the best of all is the best of the corners -/
theorem top_made {a b : Nat} {t1 t2 : Nat → Int} (h1 : Bits a t1) (h2 : Bits b t2) :
    maxL [top (2 ^ a) (WH a (sgn t1)) * top (2 ^ b) (WH b (sgn t2)), bot (2 ^ a) (WH a (sgn t1)) * top (2 ^ b) (WH b (sgn t2)), top (2 ^ a) (WH a (sgn t1)) * bot (2 ^ b) (WH b (sgn t2)), bot (2 ^ a) (WH a (sgn t1)) * bot (2 ^ b) (WH b (sgn t2))] = top (2 ^ (a + b)) (WH (a + b) (sgn (made a t1 t2))) := by
  have pa := Nat.two_pow_pos a
  have pb := Nat.two_pow_pos b
  have under : ∀ x y, x < 2 ^ a → y < 2 ^ b → WH a (sgn t1) x * WH b (sgn t2) y ≤ top (2 ^ (a + b)) (WH (a + b) (sgn (made a t1 t2))) := fun x y hx hy => by
    have := top_ge (f := WH (a + b) (sgn (made a t1 t2))) (pair_lt hx hy)
    rwa [WH_made h1 h2 (pair_lt hx hy), pair_mod hx, pair_div hx] at this
  obtain ⟨x2, hx2, ex2⟩ := top_at (f := WH a (sgn t1)) pa
  obtain ⟨x1, hx1, ex1⟩ := bot_at (f := WH a (sgn t1)) pa
  obtain ⟨y2, hy2, ey2⟩ := top_at (f := WH b (sgn t2)) pb
  obtain ⟨y1, hy1, ey1⟩ := bot_at (f := WH b (sgn t2)) pb
  apply Int.le_antisymm
  · have hm := maxL_mem (ns := [top (2 ^ a) (WH a (sgn t1)) * top (2 ^ b) (WH b (sgn t2)), bot (2 ^ a) (WH a (sgn t1)) * top (2 ^ b) (WH b (sgn t2)), top (2 ^ a) (WH a (sgn t1)) * bot (2 ^ b) (WH b (sgn t2)), bot (2 ^ a) (WH a (sgn t1)) * bot (2 ^ b) (WH b (sgn t2))]) (by simp)
    generalize maxL _ = M at hm ⊢
    simp only [List.mem_cons, List.not_mem_nil, or_false] at hm
    rcases hm with rfl | rfl | rfl | rfl
    · rw [ex2, ey2]; exact under _ _ hx2 hy2
    · rw [ex1, ey2]; exact under _ _ hx1 hy2
    · rw [ex2, ey1]; exact under _ _ hx2 hy1
    · rw [ex1, ey1]; exact under _ _ hx1 hy1
  · obtain ⟨r, hr, er⟩ := top_at (f := WH (a + b) (sgn (made a t1 t2))) (Nat.two_pow_pos (a + b))
    rw [er, WH_made h1 h2 hr]
    exact corner (bot_le mod_lt) (top_ge mod_lt) (bot_le (div_lt hr)) (top_ge (div_lt hr)) (maxL_ge (by simp)) (maxL_ge (by simp)) (maxL_ge (by simp)) (maxL_ge (by simp))
theorem rg40 : rangeD 0 40 = nl (List.range 40) := by
  have : rangeD 0 ((40 : Nat) : Int) = nl (List.range 40) := tb_range
  exact this
theorem sorted_nl {ys : List Nat} : sortedD [.list (nl ys)] = some (il (sortI (ys.map fun (x : Nat) => (x : Int)))) := by
  have : nl ys = (ys.map fun (x : Nat) => (x : Int)).map .int := by rw [List.map_map]; rfl
  rw [this]
  show (intsOf _).map _ = _
  rw [intsOf_map]; rfl
theorem told_of_pick {m r n : Nat} {ys zs : List Nat} (hp : (ys ++ zs).Perm (List.range 40)) (hn : ys.length = n) (h4 : n ≤ 24) (hm : 10 ≤ m) (hm2 : m ≤ 820) (hr : r < 256) : Told m r (sortI (ys.map fun (x : Nat) => (x : Int))) := by
  have p10 : 2 ^ 10 ≤ 2 ^ m := Nat.pow_le_pow_right (by decide) hm
  have pm := sortI_perm (ns := ys.map fun (x : Nat) => (x : Int))
  have nd : ys.Nodup := (List.nodup_append.mp (hp.nodup_iff.mpr List.nodup_range)).1
  have nd2 : (ys.map fun (x : Nat) => (x : Int)).Nodup := by
    unfold List.Nodup at nd ⊢
    rw [List.pairwise_map]
    exact nd.imp fun h e => h (by omega)
  have nd3 := pm.nodup_iff.mpr nd2
  refine ⟨hm2, by omega, by rw [pm.length_eq, List.length_map]; omega, ?_, fun y hy => ?_⟩
  · have := (sortI_ord (ns := ys.map fun (x : Nat) => (x : Int))).and nd3
    exact this.imp fun ⟨a, b⟩ => by omega
  · obtain ⟨k, hk, rfl⟩ := List.mem_map.mp (pm.mem_iff.mp hy)
    have : k ∈ List.range 40 := hp.mem_iff.mp (List.mem_append_left _ hk)
    have := List.mem_range.mp this
    exact ⟨k, rfl, by omega⟩
def oddP (r : Nat) : D → Bool
  | .int y => decide (pb 1024 (y.toNat &&& r) = true)
  | _ => false
theorem oddP_len {r : Nat} {ys : List Int} : (((il ys).filter (oddP r)).map id).length = oddc r ys := by
  rw [List.map_id, List.filter_map, List.length_map]
  rfl
def meetP (ys : List Int) (y : Int) : D → Bool
  | .int x => decide (Builtin.bitXor y x ∈ ys)
  | _ => false
theorem meetP_len {m r : Nat} {ys : List Int} (h : Told m r ys) {y : Int} (hy : y ∈ ys) : (((il ys).filter (meetP ys y)).map id).length = meet ys y := by
  rw [List.map_id, List.filter_map, List.length_map]
  unfold meet
  congr 1
  refine List.filter_congr fun x hx => ?_
  obtain ⟨k, rfl, _⟩ := h.ge y hy
  obtain ⟨j, rfl, _⟩ := h.ge x hx
  show decide (Builtin.bitXor (k : Int) (j : Int) ∈ ys) = _
  rw [bitXor_nat, bitXor_nat, Nat.xor_comm]
theorem br_slot {α : Type} {c : Bool} {m : M α} {S1 S2 : Slots} {Q : α → Slots → Prop} (h : ∀ S, (c = true ∧ S = S1 ∨ c = false ∧ S = S2) → T m S Q) : br c (T m S1 Q) (T m S2 Q) :=
  ⟨fun e => h _ (.inl ⟨e, rfl⟩), fun e => h _ (.inr ⟨e, rfl⟩)⟩
theorem right_ok {c : Cel} (hb : Box 0 c) : O (F__law_right c []) fun p => p.1 = .val (.bool true) := by
  unfold F__law_right b__law_right
  simp only [T_ret, T_eName, TN_val, TN_own, T_oName, TR_some, T_oVal, T_eC, T_eFrz, celD_lst, slotD_val, slotD_own, slotD_bor, rs_d, rs_s, rss_nil, rss_cons, T_op2, T_op2L, T_op1, T_opN, T_opNL, T_eBin, T_lBin, T_eUn, T_eFn, T_lFn, T_oNil, T_oCons, T_aNil, T_aCons, T_eTup, T_lLst, TB_bool, T_tOf, T_mTru, br_true, br_false, T_mAnd, T_mOr, T_mNot, T_eAnd, T_eOr, T_eNot, T_eIf, T_lIf, T_eChain, T_eIsi, T_mCall, T_mCallK, CB_own, CB_bor, T_mCallB, T_mCallT, TSV_val, TSV_own, T_eSV, TSL_own, T_lSV, sq_nx, sq_rt, sq_bk, sq_ct, T_sSeq, T_sSkip, T_sExpr, T_sRetV, T_sRetL, T_sRetS, T_sRetN, TRN_val, TRN_own, T_sRetName, T_sIf, T_sSetV, T_sSetL, TSet_val, TSet_own, T_sSetS, L2T_two, L3T_three, T_sPar, T_sPar3, T_sParL, T_sAug, T_sAsg, gN_eq, gT_eq, gsNil_eq, gsCons_eq, IX_own, IX_bor, O_gIx, T_mNoPart, TI_int, T_mPart, TLs_list, TTs_tuple, T_lCut, T_eCut, LO_nil, LO_cons, T_lOr, TAny_list, TAny_tuple, T_iAny, T_iEnumD, TZ_list, TZ_tuple, T_iZipD, TRg1_int, T_iRange1, TRg2_int, T_iRange2, TRg3_int, T_iRange3, lpK_nx, lpK_ct, lpK_bk, lpK_rt, fcK_nx, fcK_ct, fcK_bk, fcK_rt, wlK_nx, wlK_ct, wlK_bk, wlK_rt, wipe_nil, wipe_cons, back_nil, back_cons, noC_nil, noC_cons, noC1_none, noC1_val, T_comp_nil, T_lComp, MX_own, MX_bor, isCellLst_own, isCellLst_bor, T_eMut, T_eMeth, RP_lst, T_lRep, gL_eq, T_sParLL, T_sParVL, RG_int, T_lRange1, T_inK, T_eInK, T_eNinK, dictD_own, keyD_int, T_lDict, TO_nx, TO_val, TO_own, T0_bor, O_mkP, O_mkB, O_some, O_none, O_ite, O_bind, O_map, fAdd_i, fAddI_i, fSub_i, fMul_i, fDiv_i, fMod_i, fShl_i, fAnd_i, fXor_i, fShr_i, fLt_i, fLe_i, fGt_i, fGe_i, fEq_i, fNe_i, fNeg_i, ixN_3_0, ixN_3_1, ixN_3_2, ixN_2_0, ixN_2_1, ixN_1_0, truD_i, truD_b, intD_i, intD_b, absD_i, lenD_l, lenD_t, tupleD_l, tupleD_t, listD_l, listD_t, List.map_cons, List.map_nil, List.length_cons, List.length_nil, List.cons_append, List.nil_append, List.replicate_succ, List.replicate_zero, List.set_cons_zero, List.set_cons_succ, List.getElem?_cons_zero, List.getElem?_cons_succ, Option.getD_some, Option.bind_some, Option.map_some, true_and, and_true, Bool.false_eq_true, Nat.reduceAdd, Nat.reduceSub, Nat.reduceLeDiff, Nat.le_refl, Bool.and_true, Bool.and_self, Bool.not_true, Bool.not_false, if_true, if_false, reduceIte, Nat.zero_add, Nat.sub_self, T_sFor, show (3 : Int) = ((3 : Nat) : Int) from rfl]
  refine ⟨by decide, T_forN (fun i S => ∃ c x1 x2 x3 x4 x5 x6 x7 x8 x9 x10 x11 x12 x13 x14 x15 x16 x17 x18 x19 x20 x21 x22 x23, S = [some (.bor c), x1, x2, x3, x4, x5, x6, x7, x8, x9, x10, x11, x12, x13, x14, x15, x16, x17, x18, x19, x20, x21, x22, x23, none] ∧ noC1 (some x8) = true ∧ noC1 (some x12) = true ∧ Box (i * 100000) c) ⟨c, none, none, none, none, none, none, none, none, none, none, none, none, none, none, none, none, none, none, none, none, none, none, none, rfl, rfl, rfl, by rw [Nat.zero_mul]; exact hb⟩ ?_ ?_⟩
  · rintro i hi S ⟨c, x1, x2, x3, x4, x5, x6, x7, x8, x9, x10, x11, x12, x13, x14, x15, x16, x17, x18, x19, x20, x21, x22, x23, rfl, hx8, hx12, hb⟩
    simp only [T_ret, T_eName, TN_val, TN_own, T_oName, TR_some, T_oVal, T_eC, T_eFrz, celD_lst, slotD_val, slotD_own, slotD_bor, rs_d, rs_s, rss_nil, rss_cons, T_op2, T_op2L, T_op1, T_opN, T_opNL, T_eBin, T_lBin, T_eUn, T_eFn, T_lFn, T_oNil, T_oCons, T_aNil, T_aCons, T_eTup, T_lLst, TB_bool, T_tOf, T_mTru, br_true, br_false, T_mAnd, T_mOr, T_mNot, T_eAnd, T_eOr, T_eNot, T_eIf, T_lIf, T_eChain, T_eIsi, T_mCall, T_mCallK, CB_own, CB_bor, T_mCallB, T_mCallT, TSV_val, TSV_own, T_eSV, TSL_own, T_lSV, sq_nx, sq_rt, sq_bk, sq_ct, T_sSeq, T_sSkip, T_sExpr, T_sRetV, T_sRetL, T_sRetS, T_sRetN, TRN_val, TRN_own, T_sRetName, T_sIf, T_sSetV, T_sSetL, TSet_val, TSet_own, T_sSetS, L2T_two, L3T_three, T_sPar, T_sPar3, T_sParL, T_sAug, T_sAsg, gN_eq, gT_eq, gsNil_eq, gsCons_eq, IX_own, IX_bor, O_gIx, T_mNoPart, TI_int, T_mPart, TLs_list, TTs_tuple, T_lCut, T_eCut, LO_nil, LO_cons, T_lOr, TAny_list, TAny_tuple, T_iAny, T_iEnumD, TZ_list, TZ_tuple, T_iZipD, TRg1_int, T_iRange1, TRg2_int, T_iRange2, TRg3_int, T_iRange3, lpK_nx, lpK_ct, lpK_bk, lpK_rt, fcK_nx, fcK_ct, fcK_bk, fcK_rt, wlK_nx, wlK_ct, wlK_bk, wlK_rt, wipe_nil, wipe_cons, back_nil, back_cons, noC_nil, noC_cons, noC1_none, noC1_val, T_comp_nil, T_lComp, MX_own, MX_bor, isCellLst_own, isCellLst_bor, T_eMut, T_eMeth, RP_lst, T_lRep, gL_eq, T_sParLL, T_sParVL, RG_int, T_lRange1, T_inK, T_eInK, T_eNinK, dictD_own, keyD_int, T_lDict, TO_nx, TO_val, TO_own, T0_bor, O_mkP, O_mkB, O_some, O_none, O_ite, O_bind, O_map, fAdd_i, fAddI_i, fSub_i, fMul_i, fDiv_i, fMod_i, fShl_i, fAnd_i, fXor_i, fShr_i, fLt_i, fLe_i, fGt_i, fGe_i, fEq_i, fNe_i, fNeg_i, ixN_3_0, ixN_3_1, ixN_3_2, ixN_2_0, ixN_2_1, ixN_1_0, truD_i, truD_b, intD_i, intD_b, absD_i, lenD_l, lenD_t, tupleD_l, tupleD_t, listD_l, listD_t, List.map_cons, List.map_nil, List.length_cons, List.length_nil, List.cons_append, List.nil_append, List.replicate_succ, List.replicate_zero, List.set_cons_zero, List.set_cons_succ, List.getElem?_cons_zero, List.getElem?_cons_succ, Option.getD_some, Option.bind_some, Option.map_some, true_and, and_true, Bool.false_eq_true, Nat.reduceAdd, Nat.reduceSub, Nat.reduceLeDiff, Nat.le_refl, Bool.and_true, Bool.and_self, Bool.not_true, Bool.not_false, if_true, if_false, reduceIte, Nat.zero_add, Nat.sub_self]
    refine O_mono (take_ok _ c 4 hb (by omega) (by omega) (by omega)) ?_
    rintro ⟨_, c1⟩ ⟨az, rfl, h1, h2, hb1⟩
    obtain ⟨a, rfl⟩ := Int.eq_ofNat_of_zero_le h1
    dsimp only at hb1
    simp only [T_ret, T_eName, TN_val, TN_own, T_oName, TR_some, T_oVal, T_eC, T_eFrz, celD_lst, slotD_val, slotD_own, slotD_bor, rs_d, rs_s, rss_nil, rss_cons, T_op2, T_op2L, T_op1, T_opN, T_opNL, T_eBin, T_lBin, T_eUn, T_eFn, T_lFn, T_oNil, T_oCons, T_aNil, T_aCons, T_eTup, T_lLst, TB_bool, T_tOf, T_mTru, br_true, br_false, T_mAnd, T_mOr, T_mNot, T_eAnd, T_eOr, T_eNot, T_eIf, T_lIf, T_eChain, T_eIsi, T_mCall, T_mCallK, CB_own, CB_bor, T_mCallB, T_mCallT, TSV_val, TSV_own, T_eSV, TSL_own, T_lSV, sq_nx, sq_rt, sq_bk, sq_ct, T_sSeq, T_sSkip, T_sExpr, T_sRetV, T_sRetL, T_sRetS, T_sRetN, TRN_val, TRN_own, T_sRetName, T_sIf, T_sSetV, T_sSetL, TSet_val, TSet_own, T_sSetS, L2T_two, L3T_three, T_sPar, T_sPar3, T_sParL, T_sAug, T_sAsg, gN_eq, gT_eq, gsNil_eq, gsCons_eq, IX_own, IX_bor, O_gIx, T_mNoPart, TI_int, T_mPart, TLs_list, TTs_tuple, T_lCut, T_eCut, LO_nil, LO_cons, T_lOr, TAny_list, TAny_tuple, T_iAny, T_iEnumD, TZ_list, TZ_tuple, T_iZipD, TRg1_int, T_iRange1, TRg2_int, T_iRange2, TRg3_int, T_iRange3, lpK_nx, lpK_ct, lpK_bk, lpK_rt, fcK_nx, fcK_ct, fcK_bk, fcK_rt, wlK_nx, wlK_ct, wlK_bk, wlK_rt, wipe_nil, wipe_cons, back_nil, back_cons, noC_nil, noC_cons, noC1_none, noC1_val, T_comp_nil, T_lComp, MX_own, MX_bor, isCellLst_own, isCellLst_bor, T_eMut, T_eMeth, RP_lst, T_lRep, gL_eq, T_sParLL, T_sParVL, RG_int, T_lRange1, T_inK, T_eInK, T_eNinK, dictD_own, keyD_int, T_lDict, TO_nx, TO_val, TO_own, T0_bor, O_mkP, O_mkB, O_some, O_none, O_ite, O_bind, O_map, fAdd_i, fAddI_i, fSub_i, fMul_i, fDiv_i, fMod_i, fShl_i, fAnd_i, fXor_i, fShr_i, fLt_i, fLe_i, fGt_i, fGe_i, fEq_i, fNe_i, fNeg_i, ixN_3_0, ixN_3_1, ixN_3_2, ixN_2_0, ixN_2_1, ixN_1_0, truD_i, truD_b, intD_i, intD_b, absD_i, lenD_l, lenD_t, tupleD_l, tupleD_t, listD_l, listD_t, List.map_cons, List.map_nil, List.length_cons, List.length_nil, List.cons_append, List.nil_append, List.replicate_succ, List.replicate_zero, List.set_cons_zero, List.set_cons_succ, List.getElem?_cons_zero, List.getElem?_cons_succ, Option.getD_some, Option.bind_some, Option.map_some, true_and, and_true, Bool.false_eq_true, Nat.reduceAdd, Nat.reduceSub, Nat.reduceLeDiff, Nat.le_refl, Bool.and_true, Bool.and_self, Bool.not_true, Bool.not_false, if_true, if_false, reduceIte, Nat.zero_add, Nat.sub_self]
    refine O_mono (take_ok _ c1 4 hb1 (by omega) (by omega) (by omega)) ?_
    rintro ⟨_, c2⟩ ⟨bz, rfl, h3, h4, hb2⟩
    obtain ⟨b, rfl⟩ := Int.eq_ofNat_of_zero_le h3
    dsimp only at hb2
    have ha : a ≤ 12 := by omega
    have hbb : b ≤ 12 := by omega
    have hab : a + b ≤ 12 := by omega
    have pa0 := Nat.two_pow_pos a
    have pb0 := Nat.two_pow_pos b
    have p0 := Nat.two_pow_pos (a + b)
    have pa3 : 2 ^ a ≤ 2 ^ 3 := Nat.pow_le_pow_right (by decide) (by omega)
    have pb3 : 2 ^ b ≤ 2 ^ 3 := Nat.pow_le_pow_right (by decide) (by omega)
    have p6 : 2 ^ (a + b) ≤ 2 ^ 6 := Nat.pow_le_pow_right (by decide) (by omega)
    have ea : (1 : Int) * 2 ^ (a : Int).toNat = ((2 ^ a : Nat) : Int) := one_shl
    have eb : (1 : Int) * 2 ^ (b : Int).toNat = ((2 ^ b : Nat) : Int) := one_shl
    have eN : ((2 ^ a : Nat) : Int) * ((2 ^ b : Nat) : Int) = ((2 ^ (a + b) : Nat) : Int) := by rw [Nat.pow_add, Int.natCast_mul]
    have ca : cPow 1 (a : Int) = true := cPowP (by omega) (by omega) (by decide)
    have cb : cPow 1 (b : Int) = true := cPowP (by omega) (by omega) (by decide)
    have cN : cMul ((2 ^ a : Nat) : Int) ((2 ^ b : Nat) : Int) = true := cMulL (by omega)
    simp only [T_ret, T_eName, TN_val, TN_own, T_oName, TR_some, T_oVal, T_eC, T_eFrz, celD_lst, slotD_val, slotD_own, slotD_bor, rs_d, rs_s, rss_nil, rss_cons, T_op2, T_op2L, T_op1, T_opN, T_opNL, T_eBin, T_lBin, T_eUn, T_eFn, T_lFn, T_oNil, T_oCons, T_aNil, T_aCons, T_eTup, T_lLst, TB_bool, T_tOf, T_mTru, br_true, br_false, T_mAnd, T_mOr, T_mNot, T_eAnd, T_eOr, T_eNot, T_eIf, T_lIf, T_eChain, T_eIsi, T_mCall, T_mCallK, CB_own, CB_bor, T_mCallB, T_mCallT, TSV_val, TSV_own, T_eSV, TSL_own, T_lSV, sq_nx, sq_rt, sq_bk, sq_ct, T_sSeq, T_sSkip, T_sExpr, T_sRetV, T_sRetL, T_sRetS, T_sRetN, TRN_val, TRN_own, T_sRetName, T_sIf, T_sSetV, T_sSetL, TSet_val, TSet_own, T_sSetS, L2T_two, L3T_three, T_sPar, T_sPar3, T_sParL, T_sAug, T_sAsg, gN_eq, gT_eq, gsNil_eq, gsCons_eq, IX_own, IX_bor, O_gIx, T_mNoPart, TI_int, T_mPart, TLs_list, TTs_tuple, T_lCut, T_eCut, LO_nil, LO_cons, T_lOr, TAny_list, TAny_tuple, T_iAny, T_iEnumD, TZ_list, TZ_tuple, T_iZipD, TRg1_int, T_iRange1, TRg2_int, T_iRange2, TRg3_int, T_iRange3, lpK_nx, lpK_ct, lpK_bk, lpK_rt, fcK_nx, fcK_ct, fcK_bk, fcK_rt, wlK_nx, wlK_ct, wlK_bk, wlK_rt, wipe_nil, wipe_cons, back_nil, back_cons, noC_nil, noC_cons, noC1_none, noC1_val, T_comp_nil, T_lComp, MX_own, MX_bor, isCellLst_own, isCellLst_bor, T_eMut, T_eMeth, RP_lst, T_lRep, gL_eq, T_sParLL, T_sParVL, RG_int, T_lRange1, T_inK, T_eInK, T_eNinK, dictD_own, keyD_int, T_lDict, TO_nx, TO_val, TO_own, T0_bor, O_mkP, O_mkB, O_some, O_none, O_ite, O_bind, O_map, fAdd_i, fAddI_i, fSub_i, fMul_i, fDiv_i, fMod_i, fShl_i, fAnd_i, fXor_i, fShr_i, fLt_i, fLe_i, fGt_i, fGe_i, fEq_i, fNe_i, fNeg_i, ixN_3_0, ixN_3_1, ixN_3_2, ixN_2_0, ixN_2_1, ixN_1_0, truD_i, truD_b, intD_i, intD_b, absD_i, lenD_l, lenD_t, tupleD_l, tupleD_t, listD_l, listD_t, List.map_cons, List.map_nil, List.length_cons, List.length_nil, List.cons_append, List.nil_append, List.replicate_succ, List.replicate_zero, List.set_cons_zero, List.set_cons_succ, List.getElem?_cons_zero, List.getElem?_cons_succ, Option.getD_some, Option.bind_some, Option.map_some, true_and, and_true, Bool.false_eq_true, Nat.reduceAdd, Nat.reduceSub, Nat.reduceLeDiff, Nat.le_refl, Bool.and_true, Bool.and_self, Bool.not_true, Bool.not_false, if_true, if_false, reduceIte, Nat.zero_add, Nat.sub_self]
    refine O_mono (near_ok ha hb2 (by omega)) ?_
    rintro ⟨_, c3⟩ ⟨t1, rfl, ht1, hb3⟩
    dsimp only at hb3
    simp only [T_ret, T_eName, TN_val, TN_own, T_oName, TR_some, T_oVal, T_eC, T_eFrz, celD_lst, slotD_val, slotD_own, slotD_bor, rs_d, rs_s, rss_nil, rss_cons, T_op2, T_op2L, T_op1, T_opN, T_opNL, T_eBin, T_lBin, T_eUn, T_eFn, T_lFn, T_oNil, T_oCons, T_aNil, T_aCons, T_eTup, T_lLst, TB_bool, T_tOf, T_mTru, br_true, br_false, T_mAnd, T_mOr, T_mNot, T_eAnd, T_eOr, T_eNot, T_eIf, T_lIf, T_eChain, T_eIsi, T_mCall, T_mCallK, CB_own, CB_bor, T_mCallB, T_mCallT, TSV_val, TSV_own, T_eSV, TSL_own, T_lSV, sq_nx, sq_rt, sq_bk, sq_ct, T_sSeq, T_sSkip, T_sExpr, T_sRetV, T_sRetL, T_sRetS, T_sRetN, TRN_val, TRN_own, T_sRetName, T_sIf, T_sSetV, T_sSetL, TSet_val, TSet_own, T_sSetS, L2T_two, L3T_three, T_sPar, T_sPar3, T_sParL, T_sAug, T_sAsg, gN_eq, gT_eq, gsNil_eq, gsCons_eq, IX_own, IX_bor, O_gIx, T_mNoPart, TI_int, T_mPart, TLs_list, TTs_tuple, T_lCut, T_eCut, LO_nil, LO_cons, T_lOr, TAny_list, TAny_tuple, T_iAny, T_iEnumD, TZ_list, TZ_tuple, T_iZipD, TRg1_int, T_iRange1, TRg2_int, T_iRange2, TRg3_int, T_iRange3, lpK_nx, lpK_ct, lpK_bk, lpK_rt, fcK_nx, fcK_ct, fcK_bk, fcK_rt, wlK_nx, wlK_ct, wlK_bk, wlK_rt, wipe_nil, wipe_cons, back_nil, back_cons, noC_nil, noC_cons, noC1_none, noC1_val, T_comp_nil, T_lComp, MX_own, MX_bor, isCellLst_own, isCellLst_bor, T_eMut, T_eMeth, RP_lst, T_lRep, gL_eq, T_sParLL, T_sParVL, RG_int, T_lRange1, T_inK, T_eInK, T_eNinK, dictD_own, keyD_int, T_lDict, TO_nx, TO_val, TO_own, T0_bor, O_mkP, O_mkB, O_some, O_none, O_ite, O_bind, O_map, fAdd_i, fAddI_i, fSub_i, fMul_i, fDiv_i, fMod_i, fShl_i, fAnd_i, fXor_i, fShr_i, fLt_i, fLe_i, fGt_i, fGe_i, fEq_i, fNe_i, fNeg_i, ixN_3_0, ixN_3_1, ixN_3_2, ixN_2_0, ixN_2_1, ixN_1_0, truD_i, truD_b, intD_i, intD_b, absD_i, lenD_l, lenD_t, tupleD_l, tupleD_t, listD_l, listD_t, List.map_cons, List.map_nil, List.length_cons, List.length_nil, List.cons_append, List.nil_append, List.replicate_succ, List.replicate_zero, List.set_cons_zero, List.set_cons_succ, List.getElem?_cons_zero, List.getElem?_cons_succ, Option.getD_some, Option.bind_some, Option.map_some, true_and, and_true, Bool.false_eq_true, Nat.reduceAdd, Nat.reduceSub, Nat.reduceLeDiff, Nat.le_refl, Bool.and_true, Bool.and_self, Bool.not_true, Bool.not_false, if_true, if_false, reduceIte, Nat.zero_add, Nat.sub_self]
    refine O_mono (near_ok hbb hb3 (by omega)) ?_
    rintro ⟨_, c4⟩ ⟨t2, rfl, ht2, hb4⟩
    dsimp only at hb4
    have htm := made_bits ht1 ht2
    simp only [T_ret, T_eName, TN_val, TN_own, T_oName, TR_some, T_oVal, T_eC, T_eFrz, celD_lst, slotD_val, slotD_own, slotD_bor, rs_d, rs_s, rss_nil, rss_cons, T_op2, T_op2L, T_op1, T_opN, T_opNL, T_eBin, T_lBin, T_eUn, T_eFn, T_lFn, T_oNil, T_oCons, T_aNil, T_aCons, T_eTup, T_lLst, TB_bool, T_tOf, T_mTru, br_true, br_false, T_mAnd, T_mOr, T_mNot, T_eAnd, T_eOr, T_eNot, T_eIf, T_lIf, T_eChain, T_eIsi, T_mCall, T_mCallK, CB_own, CB_bor, T_mCallB, T_mCallT, TSV_val, TSV_own, T_eSV, TSL_own, T_lSV, sq_nx, sq_rt, sq_bk, sq_ct, T_sSeq, T_sSkip, T_sExpr, T_sRetV, T_sRetL, T_sRetS, T_sRetN, TRN_val, TRN_own, T_sRetName, T_sIf, T_sSetV, T_sSetL, TSet_val, TSet_own, T_sSetS, L2T_two, L3T_three, T_sPar, T_sPar3, T_sParL, T_sAug, T_sAsg, gN_eq, gT_eq, gsNil_eq, gsCons_eq, IX_own, IX_bor, O_gIx, T_mNoPart, TI_int, T_mPart, TLs_list, TTs_tuple, T_lCut, T_eCut, LO_nil, LO_cons, T_lOr, TAny_list, TAny_tuple, T_iAny, T_iEnumD, TZ_list, TZ_tuple, T_iZipD, TRg1_int, T_iRange1, TRg2_int, T_iRange2, TRg3_int, T_iRange3, lpK_nx, lpK_ct, lpK_bk, lpK_rt, fcK_nx, fcK_ct, fcK_bk, fcK_rt, wlK_nx, wlK_ct, wlK_bk, wlK_rt, wipe_nil, wipe_cons, back_nil, back_cons, noC_nil, noC_cons, noC1_none, noC1_val, T_comp_nil, T_lComp, MX_own, MX_bor, isCellLst_own, isCellLst_bor, T_eMut, T_eMeth, RP_lst, T_lRep, gL_eq, T_sParLL, T_sParVL, RG_int, T_lRange1, T_inK, T_eInK, T_eNinK, dictD_own, keyD_int, T_lDict, TO_nx, TO_val, TO_own, T0_bor, O_mkP, O_mkB, O_some, O_none, O_ite, O_bind, O_map, fAdd_i, fAddI_i, fSub_i, fMul_i, fDiv_i, fMod_i, fShl_i, fAnd_i, fXor_i, fShr_i, fLt_i, fLe_i, fGt_i, fGe_i, fEq_i, fNe_i, fNeg_i, ixN_3_0, ixN_3_1, ixN_3_2, ixN_2_0, ixN_2_1, ixN_1_0, truD_i, truD_b, intD_i, intD_b, absD_i, lenD_l, lenD_t, tupleD_l, tupleD_t, listD_l, listD_t, List.map_cons, List.map_nil, List.length_cons, List.length_nil, List.cons_append, List.nil_append, List.replicate_succ, List.replicate_zero, List.set_cons_zero, List.set_cons_succ, List.getElem?_cons_zero, List.getElem?_cons_succ, Option.getD_some, Option.bind_some, Option.map_some, true_and, and_true, Bool.false_eq_true, Nat.reduceAdd, Nat.reduceSub, Nat.reduceLeDiff, Nat.le_refl, Bool.and_true, Bool.and_self, Bool.not_true, Bool.not_false, if_true, if_false, reduceIte, Nat.zero_add, Nat.sub_self, ea, eb, ca, cb, eN, cN, hx8]
    refine ⟨⟨by omega, by omega⟩, by rw [range_len]; omega, ?_⟩
    rw [tb_range]
    have kd : ∀ k : Nat, k < 2 ^ (a + b) → k % 2 ^ a < 2 ^ a ∧ k / 2 ^ a < 2 ^ b := fun k hk => ⟨mod_lt, div_lt hk⟩
    have cm : ∀ k : Nat, cMod (k : Int) ((2 ^ a : Nat) : Int) = true := fun k => cModP (by omega)
    have cd : ∀ k : Nat, cDiv (k : Int) ((2 ^ a : Nat) : Int) = true := fun k => cDivP (by omega) (by omega)
    obtain ⟨p, hp⟩ : ∃ p : D → D, p = fun d => match d with | .int k => .int (made a t1 t2 k.toNat) | d => d := ⟨_, rfl⟩
    have pk : ∀ k : Nat, p (.int (k : Int)) = .int (made a t1 t2 k) := fun k => by rw [hp]; rfl
    refine T_compMap p ?_ ?_
    · intro d hd
      obtain ⟨k, hk, rfl⟩ := tb_mem hd
      simp only [T_ret, T_eName, TN_val, TN_own, T_oName, TR_some, T_oVal, T_eC, T_eFrz, celD_lst, slotD_val, slotD_own, slotD_bor, rs_d, rs_s, rss_nil, rss_cons, T_op2, T_op2L, T_op1, T_opN, T_opNL, T_eBin, T_lBin, T_eUn, T_eFn, T_lFn, T_oNil, T_oCons, T_aNil, T_aCons, T_eTup, T_lLst, TB_bool, T_tOf, T_mTru, br_true, br_false, T_mAnd, T_mOr, T_mNot, T_eAnd, T_eOr, T_eNot, T_eIf, T_lIf, T_eChain, T_eIsi, T_mCall, T_mCallK, CB_own, CB_bor, T_mCallB, T_mCallT, TSV_val, TSV_own, T_eSV, TSL_own, T_lSV, sq_nx, sq_rt, sq_bk, sq_ct, T_sSeq, T_sSkip, T_sExpr, T_sRetV, T_sRetL, T_sRetS, T_sRetN, TRN_val, TRN_own, T_sRetName, T_sIf, T_sSetV, T_sSetL, TSet_val, TSet_own, T_sSetS, L2T_two, L3T_three, T_sPar, T_sPar3, T_sParL, T_sAug, T_sAsg, gN_eq, gT_eq, gsNil_eq, gsCons_eq, IX_own, IX_bor, O_gIx, T_mNoPart, TI_int, T_mPart, TLs_list, TTs_tuple, T_lCut, T_eCut, LO_nil, LO_cons, T_lOr, TAny_list, TAny_tuple, T_iAny, T_iEnumD, TZ_list, TZ_tuple, T_iZipD, TRg1_int, T_iRange1, TRg2_int, T_iRange2, TRg3_int, T_iRange3, lpK_nx, lpK_ct, lpK_bk, lpK_rt, fcK_nx, fcK_ct, fcK_bk, fcK_rt, wlK_nx, wlK_ct, wlK_bk, wlK_rt, wipe_nil, wipe_cons, back_nil, back_cons, noC_nil, noC_cons, noC1_none, noC1_val, T_comp_nil, T_lComp, MX_own, MX_bor, isCellLst_own, isCellLst_bor, T_eMut, T_eMeth, RP_lst, T_lRep, gL_eq, T_sParLL, T_sParVL, RG_int, T_lRange1, T_inK, T_eInK, T_eNinK, dictD_own, keyD_int, T_lDict, TO_nx, TO_val, TO_own, T0_bor, O_mkP, O_mkB, O_some, O_none, O_ite, O_bind, O_map, fAdd_i, fAddI_i, fSub_i, fMul_i, fDiv_i, fMod_i, fShl_i, fAnd_i, fXor_i, fShr_i, fLt_i, fLe_i, fGt_i, fGe_i, fEq_i, fNe_i, fNeg_i, ixN_3_0, ixN_3_1, ixN_3_2, ixN_2_0, ixN_2_1, ixN_1_0, truD_i, truD_b, intD_i, intD_b, absD_i, lenD_l, lenD_t, tupleD_l, tupleD_t, listD_l, listD_t, List.map_cons, List.map_nil, List.length_cons, List.length_nil, List.cons_append, List.nil_append, List.replicate_succ, List.replicate_zero, List.set_cons_zero, List.set_cons_succ, List.getElem?_cons_zero, List.getElem?_cons_succ, Option.getD_some, Option.bind_some, Option.map_some, true_and, and_true, Bool.false_eq_true, Nat.reduceAdd, Nat.reduceSub, Nat.reduceLeDiff, Nat.le_refl, Bool.and_true, Bool.and_self, Bool.not_true, Bool.not_false, if_true, if_false, reduceIte, Nat.zero_add, Nat.sub_self, fmod_nat pa0, fdiv_nat pa0, cm, cd, tb_at (n := 2 ^ a) (k := k % 2 ^ a) rfl (kd k hk).1, tb_at (n := 2 ^ b) (k := k / 2 ^ a) rfl (kd k hk).2, pk]
      rfl
    rw [tb_map (g := made a t1 t2) fun k _ => pk k]
    simp only [T_ret, T_eName, TN_val, TN_own, T_oName, TR_some, T_oVal, T_eC, T_eFrz, celD_lst, slotD_val, slotD_own, slotD_bor, rs_d, rs_s, rss_nil, rss_cons, T_op2, T_op2L, T_op1, T_opN, T_opNL, T_eBin, T_lBin, T_eUn, T_eFn, T_lFn, T_oNil, T_oCons, T_aNil, T_aCons, T_eTup, T_lLst, TB_bool, T_tOf, T_mTru, br_true, br_false, T_mAnd, T_mOr, T_mNot, T_eAnd, T_eOr, T_eNot, T_eIf, T_lIf, T_eChain, T_eIsi, T_mCall, T_mCallK, CB_own, CB_bor, T_mCallB, T_mCallT, TSV_val, TSV_own, T_eSV, TSL_own, T_lSV, sq_nx, sq_rt, sq_bk, sq_ct, T_sSeq, T_sSkip, T_sExpr, T_sRetV, T_sRetL, T_sRetS, T_sRetN, TRN_val, TRN_own, T_sRetName, T_sIf, T_sSetV, T_sSetL, TSet_val, TSet_own, T_sSetS, L2T_two, L3T_three, T_sPar, T_sPar3, T_sParL, T_sAug, T_sAsg, gN_eq, gT_eq, gsNil_eq, gsCons_eq, IX_own, IX_bor, O_gIx, T_mNoPart, TI_int, T_mPart, TLs_list, TTs_tuple, T_lCut, T_eCut, LO_nil, LO_cons, T_lOr, TAny_list, TAny_tuple, T_iAny, T_iEnumD, TZ_list, TZ_tuple, T_iZipD, TRg1_int, T_iRange1, TRg2_int, T_iRange2, TRg3_int, T_iRange3, lpK_nx, lpK_ct, lpK_bk, lpK_rt, fcK_nx, fcK_ct, fcK_bk, fcK_rt, wlK_nx, wlK_ct, wlK_bk, wlK_rt, wipe_nil, wipe_cons, back_nil, back_cons, noC_nil, noC_cons, noC1_none, noC1_val, T_comp_nil, T_lComp, MX_own, MX_bor, isCellLst_own, isCellLst_bor, T_eMut, T_eMeth, RP_lst, T_lRep, gL_eq, T_sParLL, T_sParVL, RG_int, T_lRange1, T_inK, T_eInK, T_eNinK, dictD_own, keyD_int, T_lDict, TO_nx, TO_val, TO_own, T0_bor, O_mkP, O_mkB, O_some, O_none, O_ite, O_bind, O_map, fAdd_i, fAddI_i, fSub_i, fMul_i, fDiv_i, fMod_i, fShl_i, fAnd_i, fXor_i, fShr_i, fLt_i, fLe_i, fGt_i, fGe_i, fEq_i, fNe_i, fNeg_i, ixN_3_0, ixN_3_1, ixN_3_2, ixN_2_0, ixN_2_1, ixN_1_0, truD_i, truD_b, intD_i, intD_b, absD_i, lenD_l, lenD_t, tupleD_l, tupleD_t, listD_l, listD_t, List.map_cons, List.map_nil, List.length_cons, List.length_nil, List.cons_append, List.nil_append, List.replicate_succ, List.replicate_zero, List.set_cons_zero, List.set_cons_succ, List.getElem?_cons_zero, List.getElem?_cons_succ, Option.getD_some, Option.bind_some, Option.map_some, true_and, and_true, Bool.false_eq_true, Nat.reduceAdd, Nat.reduceSub, Nat.reduceLeDiff, Nat.le_refl, Bool.and_true, Bool.and_self, Bool.not_true, Bool.not_false, if_true, if_false, reduceIte, Nat.zero_add, Nat.sub_self, turned_ok ha ht1 (.inl rfl), turned_ok hbb ht2 (.inl rfl)]
    refine O_mono (mixed_ok hab hb4 (by omega)) ?_
    rintro ⟨_, c5⟩ ⟨d, rfl, hd, hb5⟩
    dsimp only at hb5
    simp only [T_ret, T_eName, TN_val, TN_own, T_oName, TR_some, T_oVal, T_eC, T_eFrz, celD_lst, slotD_val, slotD_own, slotD_bor, rs_d, rs_s, rss_nil, rss_cons, T_op2, T_op2L, T_op1, T_opN, T_opNL, T_eBin, T_lBin, T_eUn, T_eFn, T_lFn, T_oNil, T_oCons, T_aNil, T_aCons, T_eTup, T_lLst, TB_bool, T_tOf, T_mTru, br_true, br_false, T_mAnd, T_mOr, T_mNot, T_eAnd, T_eOr, T_eNot, T_eIf, T_lIf, T_eChain, T_eIsi, T_mCall, T_mCallK, CB_own, CB_bor, T_mCallB, T_mCallT, TSV_val, TSV_own, T_eSV, TSL_own, T_lSV, sq_nx, sq_rt, sq_bk, sq_ct, T_sSeq, T_sSkip, T_sExpr, T_sRetV, T_sRetL, T_sRetS, T_sRetN, TRN_val, TRN_own, T_sRetName, T_sIf, T_sSetV, T_sSetL, TSet_val, TSet_own, T_sSetS, L2T_two, L3T_three, T_sPar, T_sPar3, T_sParL, T_sAug, T_sAsg, gN_eq, gT_eq, gsNil_eq, gsCons_eq, IX_own, IX_bor, O_gIx, T_mNoPart, TI_int, T_mPart, TLs_list, TTs_tuple, T_lCut, T_eCut, LO_nil, LO_cons, T_lOr, TAny_list, TAny_tuple, T_iAny, T_iEnumD, TZ_list, TZ_tuple, T_iZipD, TRg1_int, T_iRange1, TRg2_int, T_iRange2, TRg3_int, T_iRange3, lpK_nx, lpK_ct, lpK_bk, lpK_rt, fcK_nx, fcK_ct, fcK_bk, fcK_rt, wlK_nx, wlK_ct, wlK_bk, wlK_rt, wipe_nil, wipe_cons, back_nil, back_cons, noC_nil, noC_cons, noC1_none, noC1_val, T_comp_nil, T_lComp, MX_own, MX_bor, isCellLst_own, isCellLst_bor, T_eMut, T_eMeth, RP_lst, T_lRep, gL_eq, T_sParLL, T_sParVL, RG_int, T_lRange1, T_inK, T_eInK, T_eNinK, dictD_own, keyD_int, T_lDict, TO_nx, TO_val, TO_own, T0_bor, O_mkP, O_mkB, O_some, O_none, O_ite, O_bind, O_map, fAdd_i, fAddI_i, fSub_i, fMul_i, fDiv_i, fMod_i, fShl_i, fAnd_i, fXor_i, fShr_i, fLt_i, fLe_i, fGt_i, fGe_i, fEq_i, fNe_i, fNeg_i, ixN_3_0, ixN_3_1, ixN_3_2, ixN_2_0, ixN_2_1, ixN_1_0, truD_i, truD_b, intD_i, intD_b, absD_i, lenD_l, lenD_t, tupleD_l, tupleD_t, listD_l, listD_t, List.map_cons, List.map_nil, List.length_cons, List.length_nil, List.cons_append, List.nil_append, List.replicate_succ, List.replicate_zero, List.set_cons_zero, List.set_cons_succ, List.getElem?_cons_zero, List.getElem?_cons_succ, Option.getD_some, Option.bind_some, Option.map_some, true_and, and_true, Bool.false_eq_true, Nat.reduceAdd, Nat.reduceSub, Nat.reduceLeDiff, Nat.le_refl, Bool.and_true, Bool.and_self, Bool.not_true, Bool.not_false, if_true, if_false, reduceIte, Nat.zero_add, Nat.sub_self, turned_ok hab htm hd, eN, cN, hx8]
    refine ⟨⟨by omega, by omega⟩, by rw [range_len]; omega, ?_⟩
    rw [tb_range]
    obtain ⟨q, hq⟩ : ∃ q : D → D, q = fun d => match d with | .int k => .int (WH (a + b) (sgn (made a t1 t2)) k.toNat) | d => d := ⟨_, rfl⟩
    have qk : ∀ k : Nat, q (.int (k : Int)) = .int (WH (a + b) (sgn (made a t1 t2)) k) := fun k => by rw [hq]; rfl
    have wl : ∀ k, cMul (WH a (fun k => 1 - 2 * t1 k) (k % 2 ^ a)) (WH b (fun k => 1 - 2 * t2 k) (k / 2 ^ a)) = true := fun k => cMulL (by have := WH_le (r := k % 2 ^ a) ha ht1; omega)
    refine T_compMap q ?_ ?_
    · intro d hd
      obtain ⟨k, hk, rfl⟩ := tb_mem hd
      simp only [T_ret, T_eName, TN_val, TN_own, T_oName, TR_some, T_oVal, T_eC, T_eFrz, celD_lst, slotD_val, slotD_own, slotD_bor, rs_d, rs_s, rss_nil, rss_cons, T_op2, T_op2L, T_op1, T_opN, T_opNL, T_eBin, T_lBin, T_eUn, T_eFn, T_lFn, T_oNil, T_oCons, T_aNil, T_aCons, T_eTup, T_lLst, TB_bool, T_tOf, T_mTru, br_true, br_false, T_mAnd, T_mOr, T_mNot, T_eAnd, T_eOr, T_eNot, T_eIf, T_lIf, T_eChain, T_eIsi, T_mCall, T_mCallK, CB_own, CB_bor, T_mCallB, T_mCallT, TSV_val, TSV_own, T_eSV, TSL_own, T_lSV, sq_nx, sq_rt, sq_bk, sq_ct, T_sSeq, T_sSkip, T_sExpr, T_sRetV, T_sRetL, T_sRetS, T_sRetN, TRN_val, TRN_own, T_sRetName, T_sIf, T_sSetV, T_sSetL, TSet_val, TSet_own, T_sSetS, L2T_two, L3T_three, T_sPar, T_sPar3, T_sParL, T_sAug, T_sAsg, gN_eq, gT_eq, gsNil_eq, gsCons_eq, IX_own, IX_bor, O_gIx, T_mNoPart, TI_int, T_mPart, TLs_list, TTs_tuple, T_lCut, T_eCut, LO_nil, LO_cons, T_lOr, TAny_list, TAny_tuple, T_iAny, T_iEnumD, TZ_list, TZ_tuple, T_iZipD, TRg1_int, T_iRange1, TRg2_int, T_iRange2, TRg3_int, T_iRange3, lpK_nx, lpK_ct, lpK_bk, lpK_rt, fcK_nx, fcK_ct, fcK_bk, fcK_rt, wlK_nx, wlK_ct, wlK_bk, wlK_rt, wipe_nil, wipe_cons, back_nil, back_cons, noC_nil, noC_cons, noC1_none, noC1_val, T_comp_nil, T_lComp, MX_own, MX_bor, isCellLst_own, isCellLst_bor, T_eMut, T_eMeth, RP_lst, T_lRep, gL_eq, T_sParLL, T_sParVL, RG_int, T_lRange1, T_inK, T_eInK, T_eNinK, dictD_own, keyD_int, T_lDict, TO_nx, TO_val, TO_own, T0_bor, O_mkP, O_mkB, O_some, O_none, O_ite, O_bind, O_map, fAdd_i, fAddI_i, fSub_i, fMul_i, fDiv_i, fMod_i, fShl_i, fAnd_i, fXor_i, fShr_i, fLt_i, fLe_i, fGt_i, fGe_i, fEq_i, fNe_i, fNeg_i, ixN_3_0, ixN_3_1, ixN_3_2, ixN_2_0, ixN_2_1, ixN_1_0, truD_i, truD_b, intD_i, intD_b, absD_i, lenD_l, lenD_t, tupleD_l, tupleD_t, listD_l, listD_t, List.map_cons, List.map_nil, List.length_cons, List.length_nil, List.cons_append, List.nil_append, List.replicate_succ, List.replicate_zero, List.set_cons_zero, List.set_cons_succ, List.getElem?_cons_zero, List.getElem?_cons_succ, Option.getD_some, Option.bind_some, Option.map_some, true_and, and_true, Bool.false_eq_true, Nat.reduceAdd, Nat.reduceSub, Nat.reduceLeDiff, Nat.le_refl, Bool.and_true, Bool.and_self, Bool.not_true, Bool.not_false, if_true, if_false, reduceIte, Nat.zero_add, Nat.sub_self, fmod_nat pa0, fdiv_nat pa0, cm, cd, tb_atL (n := 2 ^ a) (k := k % 2 ^ a) rfl (kd k hk).1, tb_atL (n := 2 ^ b) (k := k / 2 ^ a) rfl (kd k hk).2, qk, wl]
      rw [WH_made ht1 ht2 hk]
    rw [tb_map (g := WH (a + b) (sgn (made a t1 t2))) fun k _ => qk k]
    simp only [T_ret, T_eName, TN_val, TN_own, T_oName, TR_some, T_oVal, T_eC, T_eFrz, celD_lst, slotD_val, slotD_own, slotD_bor, rs_d, rs_s, rss_nil, rss_cons, T_op2, T_op2L, T_op1, T_opN, T_opNL, T_eBin, T_lBin, T_eUn, T_eFn, T_lFn, T_oNil, T_oCons, T_aNil, T_aCons, T_eTup, T_lLst, TB_bool, T_tOf, T_mTru, br_true, br_false, T_mAnd, T_mOr, T_mNot, T_eAnd, T_eOr, T_eNot, T_eIf, T_lIf, T_eChain, T_eIsi, T_mCall, T_mCallK, CB_own, CB_bor, T_mCallB, T_mCallT, TSV_val, TSV_own, T_eSV, TSL_own, T_lSV, sq_nx, sq_rt, sq_bk, sq_ct, T_sSeq, T_sSkip, T_sExpr, T_sRetV, T_sRetL, T_sRetS, T_sRetN, TRN_val, TRN_own, T_sRetName, T_sIf, T_sSetV, T_sSetL, TSet_val, TSet_own, T_sSetS, L2T_two, L3T_three, T_sPar, T_sPar3, T_sParL, T_sAug, T_sAsg, gN_eq, gT_eq, gsNil_eq, gsCons_eq, IX_own, IX_bor, O_gIx, T_mNoPart, TI_int, T_mPart, TLs_list, TTs_tuple, T_lCut, T_eCut, LO_nil, LO_cons, T_lOr, TAny_list, TAny_tuple, T_iAny, T_iEnumD, TZ_list, TZ_tuple, T_iZipD, TRg1_int, T_iRange1, TRg2_int, T_iRange2, TRg3_int, T_iRange3, lpK_nx, lpK_ct, lpK_bk, lpK_rt, fcK_nx, fcK_ct, fcK_bk, fcK_rt, wlK_nx, wlK_ct, wlK_bk, wlK_rt, wipe_nil, wipe_cons, back_nil, back_cons, noC_nil, noC_cons, noC1_none, noC1_val, T_comp_nil, T_lComp, MX_own, MX_bor, isCellLst_own, isCellLst_bor, T_eMut, T_eMeth, RP_lst, T_lRep, gL_eq, T_sParLL, T_sParVL, RG_int, T_lRange1, T_inK, T_eInK, T_eNinK, dictD_own, keyD_int, T_lDict, TO_nx, TO_val, TO_own, T0_bor, O_mkP, O_mkB, O_some, O_none, O_ite, O_bind, O_map, fAdd_i, fAddI_i, fSub_i, fMul_i, fDiv_i, fMod_i, fShl_i, fAnd_i, fXor_i, fShr_i, fLt_i, fLe_i, fGt_i, fGe_i, fEq_i, fNe_i, fNeg_i, ixN_3_0, ixN_3_1, ixN_3_2, ixN_2_0, ixN_2_1, ixN_1_0, truD_i, truD_b, intD_i, intD_b, absD_i, lenD_l, lenD_t, tupleD_l, tupleD_t, listD_l, listD_t, List.map_cons, List.map_nil, List.length_cons, List.length_nil, List.cons_append, List.nil_append, List.replicate_succ, List.replicate_zero, List.set_cons_zero, List.set_cons_succ, List.getElem?_cons_zero, List.getElem?_cons_succ, Option.getD_some, Option.bind_some, Option.map_some, true_and, and_true, Bool.false_eq_true, Nat.reduceAdd, Nat.reduceSub, Nat.reduceLeDiff, Nat.le_refl, Bool.and_true, Bool.and_self, Bool.not_true, Bool.not_false, if_true, if_false, reduceIte, Nat.zero_add, Nat.sub_self, same_tab (k := 2 ^ (a + b)) (by omega), hx12, T_comp_cons, tb_len, fails_ok ha ht1 (.inl rfl), fails_ok hbb ht2 (.inl rfl), fails_ok hab htm (.inl rfl), eN, cN]
    have s1 := SF_le ht1
    have s2 := SF_le ht2
    have s3 := SF_le htm
    have n1 : ((2 ^ a : Nat) : Int) * ((2 ^ a : Nat) : Int) ≤ 64 := by
      have : 2 ^ a * 2 ^ a ≤ 8 * 8 := Nat.mul_le_mul (by omega) (by omega)
      rw [← Int.natCast_mul]; omega
    have n2 : ((2 ^ b : Nat) : Int) * ((2 ^ b : Nat) : Int) ≤ 64 := by
      have : 2 ^ b * 2 ^ b ≤ 8 * 8 := Nat.mul_le_mul (by omega) (by omega)
      rw [← Int.natCast_mul]; omega
    have n1' : 0 ≤ ((2 ^ a : Nat) : Int) * ((2 ^ a : Nat) : Int) := by rw [← Int.natCast_mul]; omega
    have eM : (((2 ^ a : Nat) : Int) * ((2 ^ a : Nat) : Int) - 2 * SF a t1) * (((2 ^ b : Nat) : Int) * ((2 ^ b : Nat) : Int) - 2 * SF b t2) = ((2 ^ (a + b) : Nat) : Int) * ((2 ^ (a + b) : Nat) : Int) - 2 * SF (a + b) (made a t1 t2) := by
      rw [← EE_SF ht1, ← EE_SF ht2, ← EE_SF htm, EE_made ht1 ht2]
    have cE : cMul (((2 ^ a : Nat) : Int) * ((2 ^ a : Nat) : Int) - 2 * SF a t1) (((2 ^ b : Nat) : Int) * ((2 ^ b : Nat) : Int) - 2 * SF b t2) = true := cMulL (by omega)
    have st1 := is_straight_ok ha ht1 (.inl rfl)
    have st2 := is_straight_ok hbb ht2 (.inl rfl)
    have st3 := is_straight_ok hab htm (.inl rfl)
    refine ⟨cMulL (by omega), cMulL (by decide), cMulL (by omega), cMulL (by decide), cMulL (by omega), cMulL (by decide), ?_⟩
    simp only [T_ret, T_eName, TN_val, TN_own, T_oName, TR_some, T_oVal, T_eC, T_eFrz, celD_lst, slotD_val, slotD_own, slotD_bor, rs_d, rs_s, rss_nil, rss_cons, T_op2, T_op2L, T_op1, T_opN, T_opNL, T_eBin, T_lBin, T_eUn, T_eFn, T_lFn, T_oNil, T_oCons, T_aNil, T_aCons, T_eTup, T_lLst, TB_bool, T_tOf, T_mTru, br_true, br_false, T_mAnd, T_mOr, T_mNot, T_eAnd, T_eOr, T_eNot, T_eIf, T_lIf, T_eChain, T_eIsi, T_mCall, T_mCallK, CB_own, CB_bor, T_mCallB, T_mCallT, TSV_val, TSV_own, T_eSV, TSL_own, T_lSV, sq_nx, sq_rt, sq_bk, sq_ct, T_sSeq, T_sSkip, T_sExpr, T_sRetV, T_sRetL, T_sRetS, T_sRetN, TRN_val, TRN_own, T_sRetName, T_sIf, T_sSetV, T_sSetL, TSet_val, TSet_own, T_sSetS, L2T_two, L3T_three, T_sPar, T_sPar3, T_sParL, T_sAug, T_sAsg, gN_eq, gT_eq, gsNil_eq, gsCons_eq, IX_own, IX_bor, O_gIx, T_mNoPart, TI_int, T_mPart, TLs_list, TTs_tuple, T_lCut, T_eCut, LO_nil, LO_cons, T_lOr, TAny_list, TAny_tuple, T_iAny, T_iEnumD, TZ_list, TZ_tuple, T_iZipD, TRg1_int, T_iRange1, TRg2_int, T_iRange2, TRg3_int, T_iRange3, lpK_nx, lpK_ct, lpK_bk, lpK_rt, fcK_nx, fcK_ct, fcK_bk, fcK_rt, wlK_nx, wlK_ct, wlK_bk, wlK_rt, wipe_nil, wipe_cons, back_nil, back_cons, noC_nil, noC_cons, noC1_none, noC1_val, T_comp_nil, T_lComp, MX_own, MX_bor, isCellLst_own, isCellLst_bor, T_eMut, T_eMeth, RP_lst, T_lRep, gL_eq, T_sParLL, T_sParVL, RG_int, T_lRange1, T_inK, T_eInK, T_eNinK, dictD_own, keyD_int, T_lDict, TO_nx, TO_val, TO_own, T0_bor, O_mkP, O_mkB, O_some, O_none, O_ite, O_bind, O_map, fAdd_i, fAddI_i, fSub_i, fMul_i, fDiv_i, fMod_i, fShl_i, fAnd_i, fXor_i, fShr_i, fLt_i, fLe_i, fGt_i, fGe_i, fEq_i, fNe_i, fNeg_i, ixN_3_0, ixN_3_1, ixN_3_2, ixN_2_0, ixN_2_1, ixN_1_0, truD_i, truD_b, intD_i, intD_b, absD_i, lenD_l, lenD_t, tupleD_l, tupleD_t, listD_l, listD_t, List.map_cons, List.map_nil, List.length_cons, List.length_nil, List.cons_append, List.nil_append, List.replicate_succ, List.replicate_zero, List.set_cons_zero, List.set_cons_succ, List.getElem?_cons_zero, List.getElem?_cons_succ, Option.getD_some, Option.bind_some, Option.map_some, true_and, and_true, Bool.false_eq_true, Nat.reduceAdd, Nat.reduceSub, Nat.reduceLeDiff, Nat.le_refl, Bool.and_true, Bool.and_self, Bool.not_true, Bool.not_false, if_true, if_false, reduceIte, Nat.zero_add, Nat.sub_self, atD_l, show ixN 3 2 = some 2 from rfl, show ixN 3 0 = some 0 from rfl, show ixN 3 1 = some 1 from rfl, eM, cE, law_fails_ok hab htm, same2, st1, st2, st3, fNe_b, decide_true]
    refine br3 (fun e1 e2 => decide_eq_true (SF_made ht1 ht2 (of_decide_eq_true e1) (of_decide_eq_true e2))) ?_
    simp only [T_ret, T_eName, TN_val, TN_own, T_oName, TR_some, T_oVal, T_eC, T_eFrz, celD_lst, slotD_val, slotD_own, slotD_bor, rs_d, rs_s, rss_nil, rss_cons, T_op2, T_op2L, T_op1, T_opN, T_opNL, T_eBin, T_lBin, T_eUn, T_eFn, T_lFn, T_oNil, T_oCons, T_aNil, T_aCons, T_eTup, T_lLst, TB_bool, T_tOf, T_mTru, br_true, br_false, T_mAnd, T_mOr, T_mNot, T_eAnd, T_eOr, T_eNot, T_eIf, T_lIf, T_eChain, T_eIsi, T_mCall, T_mCallK, CB_own, CB_bor, T_mCallB, T_mCallT, TSV_val, TSV_own, T_eSV, TSL_own, T_lSV, sq_nx, sq_rt, sq_bk, sq_ct, T_sSeq, T_sSkip, T_sExpr, T_sRetV, T_sRetL, T_sRetS, T_sRetN, TRN_val, TRN_own, T_sRetName, T_sIf, T_sSetV, T_sSetL, TSet_val, TSet_own, T_sSetS, L2T_two, L3T_three, T_sPar, T_sPar3, T_sParL, T_sAug, T_sAsg, gN_eq, gT_eq, gsNil_eq, gsCons_eq, IX_own, IX_bor, O_gIx, T_mNoPart, TI_int, T_mPart, TLs_list, TTs_tuple, T_lCut, T_eCut, LO_nil, LO_cons, T_lOr, TAny_list, TAny_tuple, T_iAny, T_iEnumD, TZ_list, TZ_tuple, T_iZipD, TRg1_int, T_iRange1, TRg2_int, T_iRange2, TRg3_int, T_iRange3, lpK_nx, lpK_ct, lpK_bk, lpK_rt, fcK_nx, fcK_ct, fcK_bk, fcK_rt, wlK_nx, wlK_ct, wlK_bk, wlK_rt, wipe_nil, wipe_cons, back_nil, back_cons, noC_nil, noC_cons, noC1_none, noC1_val, T_comp_nil, T_lComp, MX_own, MX_bor, isCellLst_own, isCellLst_bor, T_eMut, T_eMeth, RP_lst, T_lRep, gL_eq, T_sParLL, T_sParVL, RG_int, T_lRange1, T_inK, T_eInK, T_eNinK, dictD_own, keyD_int, T_lDict, TO_nx, TO_val, TO_own, T0_bor, O_mkP, O_mkB, O_some, O_none, O_ite, O_bind, O_map, fAdd_i, fAddI_i, fSub_i, fMul_i, fDiv_i, fMod_i, fShl_i, fAnd_i, fXor_i, fShr_i, fLt_i, fLe_i, fGt_i, fGe_i, fEq_i, fNe_i, fNeg_i, ixN_3_0, ixN_3_1, ixN_3_2, ixN_2_0, ixN_2_1, ixN_1_0, truD_i, truD_b, intD_i, intD_b, absD_i, lenD_l, lenD_t, tupleD_l, tupleD_t, listD_l, listD_t, List.map_cons, List.map_nil, List.length_cons, List.length_nil, List.cons_append, List.nil_append, List.replicate_succ, List.replicate_zero, List.set_cons_zero, List.set_cons_succ, List.getElem?_cons_zero, List.getElem?_cons_succ, Option.getD_some, Option.bind_some, Option.map_some, true_and, and_true, Bool.false_eq_true, Nat.reduceAdd, Nat.reduceSub, Nat.reduceLeDiff, Nat.le_refl, Bool.and_true, Bool.and_self, Bool.not_true, Bool.not_false, if_true, if_false, reduceIte, Nat.zero_add, Nat.sub_self, T_comp_cons, hx12, unlike_ok ha ht1 (.inl rfl), unlike_ok hbb ht2 (.inl rfl), unlike_ok hab htm (.inl rfl)]
    rw [T_sFor]
    simp only [T_ret, T_eName, TN_val, TN_own, T_oName, TR_some, T_oVal, T_eC, T_eFrz, celD_lst, slotD_val, slotD_own, slotD_bor, rs_d, rs_s, rss_nil, rss_cons, T_op2, T_op2L, T_op1, T_opN, T_opNL, T_eBin, T_lBin, T_eUn, T_eFn, T_lFn, T_oNil, T_oCons, T_aNil, T_aCons, T_eTup, T_lLst, TB_bool, T_tOf, T_mTru, br_true, br_false, T_mAnd, T_mOr, T_mNot, T_eAnd, T_eOr, T_eNot, T_eIf, T_lIf, T_eChain, T_eIsi, T_mCall, T_mCallK, CB_own, CB_bor, T_mCallB, T_mCallT, TSV_val, TSV_own, T_eSV, TSL_own, T_lSV, sq_nx, sq_rt, sq_bk, sq_ct, T_sSeq, T_sSkip, T_sExpr, T_sRetV, T_sRetL, T_sRetS, T_sRetN, TRN_val, TRN_own, T_sRetName, T_sIf, T_sSetV, T_sSetL, TSet_val, TSet_own, T_sSetS, L2T_two, L3T_three, T_sPar, T_sPar3, T_sParL, T_sAug, T_sAsg, gN_eq, gT_eq, gsNil_eq, gsCons_eq, IX_own, IX_bor, O_gIx, T_mNoPart, TI_int, T_mPart, TLs_list, TTs_tuple, T_lCut, T_eCut, LO_nil, LO_cons, T_lOr, TAny_list, TAny_tuple, T_iAny, T_iEnumD, TZ_list, TZ_tuple, T_iZipD, TRg1_int, T_iRange1, TRg2_int, T_iRange2, TRg3_int, T_iRange3, lpK_nx, lpK_ct, lpK_bk, lpK_rt, fcK_nx, fcK_ct, fcK_bk, fcK_rt, wlK_nx, wlK_ct, wlK_bk, wlK_rt, wipe_nil, wipe_cons, back_nil, back_cons, noC_nil, noC_cons, noC1_none, noC1_val, T_comp_nil, T_lComp, MX_own, MX_bor, isCellLst_own, isCellLst_bor, T_eMut, T_eMeth, RP_lst, T_lRep, gL_eq, T_sParLL, T_sParVL, RG_int, T_lRange1, T_inK, T_eInK, T_eNinK, dictD_own, keyD_int, T_lDict, TO_nx, TO_val, TO_own, T0_bor, O_mkP, O_mkB, O_some, O_none, O_ite, O_bind, O_map, fAdd_i, fAddI_i, fSub_i, fMul_i, fDiv_i, fMod_i, fShl_i, fAnd_i, fXor_i, fShr_i, fLt_i, fLe_i, fGt_i, fGe_i, fEq_i, fNe_i, fNeg_i, ixN_3_0, ixN_3_1, ixN_3_2, ixN_2_0, ixN_2_1, ixN_1_0, truD_i, truD_b, intD_i, intD_b, absD_i, lenD_l, lenD_t, tupleD_l, tupleD_t, listD_l, listD_t, List.map_cons, List.map_nil, List.length_cons, List.length_nil, List.cons_append, List.nil_append, List.replicate_succ, List.replicate_zero, List.set_cons_zero, List.set_cons_succ, List.getElem?_cons_zero, List.getElem?_cons_succ, Option.getD_some, Option.bind_some, Option.map_some, true_and, and_true, Bool.false_eq_true, Nat.reduceAdd, Nat.reduceSub, Nat.reduceLeDiff, Nat.le_refl, Bool.and_true, Bool.and_self, Bool.not_true, Bool.not_false, if_true, if_false, reduceIte, Nat.zero_add, Nat.sub_self, eN, cN]
    refine ⟨⟨by omega, by omega⟩, T_forN (fun j S => ∃ x8 x15 x16, S = [some (.bor c5), some (.val (.int i)), some (.val (.int a)), some (.val (.int b)), some (.val (.tuple (tb (2 ^ a) t1))), some (.val (.tuple (tb (2 ^ b) t2))), some (.val (.int ((2 ^ a : Nat) : Int))), some (.val (.int ((2 ^ b : Nat) : Int))), x8, some (.val (.tuple (tb (2 ^ (a + b)) (made a t1 t2)))), some (.val (.list (tb (2 ^ a) (WH a fun k => 1 - 2 * t1 k)))), some (.val (.list (tb (2 ^ b) (WH b fun k => 1 - 2 * t2 k)))), x12, some (.own (.lst [.int (((2 ^ a : Nat) : Int) * ((2 ^ a : Nat) : Int) - 2 * SF a t1), .int (((2 ^ b : Nat) : Int) * ((2 ^ b : Nat) : Int) - 2 * SF b t2), .int (((2 ^ (a + b) : Nat) : Int) * ((2 ^ (a + b) : Nat) : Int) - 2 * SF (a + b) (made a t1 t2))])), some (.own (.lst [.list (tb (2 ^ a) (US a t1)), .list (tb (2 ^ b) (US b t2)), .list (tb (2 ^ (a + b)) (US (a + b) (made a t1 t2)))])), x15, x16, x17, x18, x19, x20, x21, x22, x23, none] ∧ noC1 (some x8) = true) ⟨x8, x15, x16, rfl, hx8⟩ ?_ ?_⟩
    · rintro k hk S ⟨x8, x15, x16, rfl, hx8⟩
      have kk := kd k hk
      have u1 : US a t1 (k % 2 ^ a) = Wk a t1 (k % 2 ^ a) := US_eq kk.1 ht1
      have u2 : US b t2 (k / 2 ^ a) = Wk b t2 (k / 2 ^ a) := US_eq kk.2 ht2
      have w1 : Wk a t1 (k % 2 ^ a) ≤ 2 ^ a := by
        unfold Wk; refine Nat.le_trans (List.length_filter_le _ _) ?_; rw [List.length_range]; exact Nat.le_refl _
      have w2 : Wk b t2 (k / 2 ^ a) ≤ 2 ^ b := by
        unfold Wk; refine Nat.le_trans (List.length_filter_le _ _) ?_; rw [List.length_range]; exact Nat.le_refl _
      simp only [T_ret, T_eName, TN_val, TN_own, T_oName, TR_some, T_oVal, T_eC, T_eFrz, celD_lst, slotD_val, slotD_own, slotD_bor, rs_d, rs_s, rss_nil, rss_cons, T_op2, T_op2L, T_op1, T_opN, T_opNL, T_eBin, T_lBin, T_eUn, T_eFn, T_lFn, T_oNil, T_oCons, T_aNil, T_aCons, T_eTup, T_lLst, TB_bool, T_tOf, T_mTru, br_true, br_false, T_mAnd, T_mOr, T_mNot, T_eAnd, T_eOr, T_eNot, T_eIf, T_lIf, T_eChain, T_eIsi, T_mCall, T_mCallK, CB_own, CB_bor, T_mCallB, T_mCallT, TSV_val, TSV_own, T_eSV, TSL_own, T_lSV, sq_nx, sq_rt, sq_bk, sq_ct, T_sSeq, T_sSkip, T_sExpr, T_sRetV, T_sRetL, T_sRetS, T_sRetN, TRN_val, TRN_own, T_sRetName, T_sIf, T_sSetV, T_sSetL, TSet_val, TSet_own, T_sSetS, L2T_two, L3T_three, T_sPar, T_sPar3, T_sParL, T_sAug, T_sAsg, gN_eq, gT_eq, gsNil_eq, gsCons_eq, IX_own, IX_bor, O_gIx, T_mNoPart, TI_int, T_mPart, TLs_list, TTs_tuple, T_lCut, T_eCut, LO_nil, LO_cons, T_lOr, TAny_list, TAny_tuple, T_iAny, T_iEnumD, TZ_list, TZ_tuple, T_iZipD, TRg1_int, T_iRange1, TRg2_int, T_iRange2, TRg3_int, T_iRange3, lpK_nx, lpK_ct, lpK_bk, lpK_rt, fcK_nx, fcK_ct, fcK_bk, fcK_rt, wlK_nx, wlK_ct, wlK_bk, wlK_rt, wipe_nil, wipe_cons, back_nil, back_cons, noC_nil, noC_cons, noC1_none, noC1_val, T_comp_nil, T_lComp, MX_own, MX_bor, isCellLst_own, isCellLst_bor, T_eMut, T_eMeth, RP_lst, T_lRep, gL_eq, T_sParLL, T_sParVL, RG_int, T_lRange1, T_inK, T_eInK, T_eNinK, dictD_own, keyD_int, T_lDict, TO_nx, TO_val, TO_own, T0_bor, O_mkP, O_mkB, O_some, O_none, O_ite, O_bind, O_map, fAdd_i, fAddI_i, fSub_i, fMul_i, fDiv_i, fMod_i, fShl_i, fAnd_i, fXor_i, fShr_i, fLt_i, fLe_i, fGt_i, fGe_i, fEq_i, fNe_i, fNeg_i, ixN_3_0, ixN_3_1, ixN_3_2, ixN_2_0, ixN_2_1, ixN_1_0, truD_i, truD_b, intD_i, intD_b, absD_i, lenD_l, lenD_t, tupleD_l, tupleD_t, listD_l, listD_t, List.map_cons, List.map_nil, List.length_cons, List.length_nil, List.cons_append, List.nil_append, List.replicate_succ, List.replicate_zero, List.set_cons_zero, List.set_cons_succ, List.getElem?_cons_zero, List.getElem?_cons_succ, Option.getD_some, Option.bind_some, Option.map_some, true_and, and_true, Bool.false_eq_true, Nat.reduceAdd, Nat.reduceSub, Nat.reduceLeDiff, Nat.le_refl, Bool.and_true, Bool.and_self, Bool.not_true, Bool.not_false, if_true, if_false, reduceIte, Nat.zero_add, Nat.sub_self, atD_l (ds := [_, _, _]), fmod_nat pa0, fdiv_nat pa0, cm, cd]
      simp only [T_ret, T_eName, TN_val, TN_own, T_oName, TR_some, T_oVal, T_eC, T_eFrz, celD_lst, slotD_val, slotD_own, slotD_bor, rs_d, rs_s, rss_nil, rss_cons, T_op2, T_op2L, T_op1, T_opN, T_opNL, T_eBin, T_lBin, T_eUn, T_eFn, T_lFn, T_oNil, T_oCons, T_aNil, T_aCons, T_eTup, T_lLst, TB_bool, T_tOf, T_mTru, br_true, br_false, T_mAnd, T_mOr, T_mNot, T_eAnd, T_eOr, T_eNot, T_eIf, T_lIf, T_eChain, T_eIsi, T_mCall, T_mCallK, CB_own, CB_bor, T_mCallB, T_mCallT, TSV_val, TSV_own, T_eSV, TSL_own, T_lSV, sq_nx, sq_rt, sq_bk, sq_ct, T_sSeq, T_sSkip, T_sExpr, T_sRetV, T_sRetL, T_sRetS, T_sRetN, TRN_val, TRN_own, T_sRetName, T_sIf, T_sSetV, T_sSetL, TSet_val, TSet_own, T_sSetS, L2T_two, L3T_three, T_sPar, T_sPar3, T_sParL, T_sAug, T_sAsg, gN_eq, gT_eq, gsNil_eq, gsCons_eq, IX_own, IX_bor, O_gIx, T_mNoPart, TI_int, T_mPart, TLs_list, TTs_tuple, T_lCut, T_eCut, LO_nil, LO_cons, T_lOr, TAny_list, TAny_tuple, T_iAny, T_iEnumD, TZ_list, TZ_tuple, T_iZipD, TRg1_int, T_iRange1, TRg2_int, T_iRange2, TRg3_int, T_iRange3, lpK_nx, lpK_ct, lpK_bk, lpK_rt, fcK_nx, fcK_ct, fcK_bk, fcK_rt, wlK_nx, wlK_ct, wlK_bk, wlK_rt, wipe_nil, wipe_cons, back_nil, back_cons, noC_nil, noC_cons, noC1_none, noC1_val, T_comp_nil, T_lComp, MX_own, MX_bor, isCellLst_own, isCellLst_bor, T_eMut, T_eMeth, RP_lst, T_lRep, gL_eq, T_sParLL, T_sParVL, RG_int, T_lRange1, T_inK, T_eInK, T_eNinK, dictD_own, keyD_int, T_lDict, TO_nx, TO_val, TO_own, T0_bor, O_mkP, O_mkB, O_some, O_none, O_ite, O_bind, O_map, fAdd_i, fAddI_i, fSub_i, fMul_i, fDiv_i, fMod_i, fShl_i, fAnd_i, fXor_i, fShr_i, fLt_i, fLe_i, fGt_i, fGe_i, fEq_i, fNe_i, fNeg_i, ixN_3_0, ixN_3_1, ixN_3_2, ixN_2_0, ixN_2_1, ixN_1_0, truD_i, truD_b, intD_i, intD_b, absD_i, lenD_l, lenD_t, tupleD_l, tupleD_t, listD_l, listD_t, List.map_cons, List.map_nil, List.length_cons, List.length_nil, List.cons_append, List.nil_append, List.replicate_succ, List.replicate_zero, List.set_cons_zero, List.set_cons_succ, List.getElem?_cons_zero, List.getElem?_cons_succ, Option.getD_some, Option.bind_some, Option.map_some, true_and, and_true, Bool.false_eq_true, Nat.reduceAdd, Nat.reduceSub, Nat.reduceLeDiff, Nat.le_refl, Bool.and_true, Bool.and_self, Bool.not_true, Bool.not_false, if_true, if_false, reduceIte, Nat.zero_add, Nat.sub_self, tb_atL (n := 2 ^ a) (k := k % 2 ^ a) (f := US a t1) rfl kk.1, tb_atL (n := 2 ^ b) (k := k / 2 ^ a) (f := US b t2) rfl kk.2, tb_atL (n := 2 ^ (a + b)) (k := k) (f := US (a + b) (made a t1 t2)) rfl hk, US_made ht1 ht2 hk, decide_true]
      refine ⟨cMulL (by omega), cMulL (by omega), ?_⟩
      exact ⟨_, _, _, rfl, rfl⟩
    rintro S ⟨x8, x15, x16, rfl, hx8⟩
    have tm := top_made ht1 ht2
    have cT : ∀ r, r < 2 ^ a → cMul (WH a (sgn t1) r) = cMul (WH a (sgn t1) r) := fun _ _ => rfl
    have b1 : (top (2 ^ a) (WH a (sgn t1))).natAbs ≤ 4096 := by
      obtain ⟨r, hr, e⟩ := top_at (f := WH a (sgn t1)) pa0
      rw [e]; exact WH_le ha ht1
    have b2 : (bot (2 ^ a) (WH a (sgn t1))).natAbs ≤ 4096 := by
      obtain ⟨r, hr, e⟩ := bot_at (f := WH a (sgn t1)) pa0
      rw [e]; exact WH_le ha ht1
    have mx1 : maxD [.list (tb (2 ^ a) (WH a fun k => 1 - 2 * t1 k))] = some (.int (top (2 ^ a) (WH a (sgn t1)))) := max_tb pa0
    have mx2 : maxD [.list (tb (2 ^ b) (WH b fun k => 1 - 2 * t2 k))] = some (.int (top (2 ^ b) (WH b (sgn t2)))) := max_tb pb0
    have mn1 : minD [.list (tb (2 ^ a) (WH a fun k => 1 - 2 * t1 k))] = some (.int (bot (2 ^ a) (WH a (sgn t1)))) := min_tb pa0
    have mn2 : minD [.list (tb (2 ^ b) (WH b fun k => 1 - 2 * t2 k))] = some (.int (bot (2 ^ b) (WH b (sgn t2)))) := min_tb pb0
    have mx4 : ∀ x y z w : Int, maxD [.list [.int x, .int y, .int z, .int w]] = some (.int (maxL [x, y, z, w])) := fun _ _ _ _ => rfl
    simp only [T_ret, T_eName, TN_val, TN_own, T_oName, TR_some, T_oVal, T_eC, T_eFrz, celD_lst, slotD_val, slotD_own, slotD_bor, rs_d, rs_s, rss_nil, rss_cons, T_op2, T_op2L, T_op1, T_opN, T_opNL, T_eBin, T_lBin, T_eUn, T_eFn, T_lFn, T_oNil, T_oCons, T_aNil, T_aCons, T_eTup, T_lLst, TB_bool, T_tOf, T_mTru, br_true, br_false, T_mAnd, T_mOr, T_mNot, T_eAnd, T_eOr, T_eNot, T_eIf, T_lIf, T_eChain, T_eIsi, T_mCall, T_mCallK, CB_own, CB_bor, T_mCallB, T_mCallT, TSV_val, TSV_own, T_eSV, TSL_own, T_lSV, sq_nx, sq_rt, sq_bk, sq_ct, T_sSeq, T_sSkip, T_sExpr, T_sRetV, T_sRetL, T_sRetS, T_sRetN, TRN_val, TRN_own, T_sRetName, T_sIf, T_sSetV, T_sSetL, TSet_val, TSet_own, T_sSetS, L2T_two, L3T_three, T_sPar, T_sPar3, T_sParL, T_sAug, T_sAsg, gN_eq, gT_eq, gsNil_eq, gsCons_eq, IX_own, IX_bor, O_gIx, T_mNoPart, TI_int, T_mPart, TLs_list, TTs_tuple, T_lCut, T_eCut, LO_nil, LO_cons, T_lOr, TAny_list, TAny_tuple, T_iAny, T_iEnumD, TZ_list, TZ_tuple, T_iZipD, TRg1_int, T_iRange1, TRg2_int, T_iRange2, TRg3_int, T_iRange3, lpK_nx, lpK_ct, lpK_bk, lpK_rt, fcK_nx, fcK_ct, fcK_bk, fcK_rt, wlK_nx, wlK_ct, wlK_bk, wlK_rt, wipe_nil, wipe_cons, back_nil, back_cons, noC_nil, noC_cons, noC1_none, noC1_val, T_comp_nil, T_lComp, MX_own, MX_bor, isCellLst_own, isCellLst_bor, T_eMut, T_eMeth, RP_lst, T_lRep, gL_eq, T_sParLL, T_sParVL, RG_int, T_lRange1, T_inK, T_eInK, T_eNinK, dictD_own, keyD_int, T_lDict, TO_nx, TO_val, TO_own, T0_bor, O_mkP, O_mkB, O_some, O_none, O_ite, O_bind, O_map, fAdd_i, fAddI_i, fSub_i, fMul_i, fDiv_i, fMod_i, fShl_i, fAnd_i, fXor_i, fShr_i, fLt_i, fLe_i, fGt_i, fGe_i, fEq_i, fNe_i, fNeg_i, ixN_3_0, ixN_3_1, ixN_3_2, ixN_2_0, ixN_2_1, ixN_1_0, truD_i, truD_b, intD_i, intD_b, absD_i, lenD_l, lenD_t, tupleD_l, tupleD_t, listD_l, listD_t, List.map_cons, List.map_nil, List.length_cons, List.length_nil, List.cons_append, List.nil_append, List.replicate_succ, List.replicate_zero, List.set_cons_zero, List.set_cons_succ, List.getElem?_cons_zero, List.getElem?_cons_succ, Option.getD_some, Option.bind_some, Option.map_some, true_and, and_true, Bool.false_eq_true, Nat.reduceAdd, Nat.reduceSub, Nat.reduceLeDiff, Nat.le_refl, Bool.and_true, Bool.and_self, Bool.not_true, Bool.not_false, if_true, if_false, reduceIte, Nat.zero_add, Nat.sub_self, mx1, mx2, mn1, mn2, mx4, tm, eN, cN, hx8]
    refine ⟨cMulL (by omega), cMulL (by omega), cMulL (by omega), cMulL (by omega), ⟨by omega, by omega⟩, by rw [range_len]; omega, ?_⟩
    rw [tb_range]
    refine T_compFilter (bestP (a + b) (made a t1 t2)) id ?_ ?_
    · intro d hd
      obtain ⟨k, hk, rfl⟩ := tb_mem hd
      simp only [T_ret, T_eName, TN_val, TN_own, T_oName, TR_some, T_oVal, T_eC, T_eFrz, celD_lst, slotD_val, slotD_own, slotD_bor, rs_d, rs_s, rss_nil, rss_cons, T_op2, T_op2L, T_op1, T_opN, T_opNL, T_eBin, T_lBin, T_eUn, T_eFn, T_lFn, T_oNil, T_oCons, T_aNil, T_aCons, T_eTup, T_lLst, TB_bool, T_tOf, T_mTru, br_true, br_false, T_mAnd, T_mOr, T_mNot, T_eAnd, T_eOr, T_eNot, T_eIf, T_lIf, T_eChain, T_eIsi, T_mCall, T_mCallK, CB_own, CB_bor, T_mCallB, T_mCallT, TSV_val, TSV_own, T_eSV, TSL_own, T_lSV, sq_nx, sq_rt, sq_bk, sq_ct, T_sSeq, T_sSkip, T_sExpr, T_sRetV, T_sRetL, T_sRetS, T_sRetN, TRN_val, TRN_own, T_sRetName, T_sIf, T_sSetV, T_sSetL, TSet_val, TSet_own, T_sSetS, L2T_two, L3T_three, T_sPar, T_sPar3, T_sParL, T_sAug, T_sAsg, gN_eq, gT_eq, gsNil_eq, gsCons_eq, IX_own, IX_bor, O_gIx, T_mNoPart, TI_int, T_mPart, TLs_list, TTs_tuple, T_lCut, T_eCut, LO_nil, LO_cons, T_lOr, TAny_list, TAny_tuple, T_iAny, T_iEnumD, TZ_list, TZ_tuple, T_iZipD, TRg1_int, T_iRange1, TRg2_int, T_iRange2, TRg3_int, T_iRange3, lpK_nx, lpK_ct, lpK_bk, lpK_rt, fcK_nx, fcK_ct, fcK_bk, fcK_rt, wlK_nx, wlK_ct, wlK_bk, wlK_rt, wipe_nil, wipe_cons, back_nil, back_cons, noC_nil, noC_cons, noC1_none, noC1_val, T_comp_nil, T_lComp, MX_own, MX_bor, isCellLst_own, isCellLst_bor, T_eMut, T_eMeth, RP_lst, T_lRep, gL_eq, T_sParLL, T_sParVL, RG_int, T_lRange1, T_inK, T_eInK, T_eNinK, dictD_own, keyD_int, T_lDict, TO_nx, TO_val, TO_own, T0_bor, O_mkP, O_mkB, O_some, O_none, O_ite, O_bind, O_map, fAdd_i, fAddI_i, fSub_i, fMul_i, fDiv_i, fMod_i, fShl_i, fAnd_i, fXor_i, fShr_i, fLt_i, fLe_i, fGt_i, fGe_i, fEq_i, fNe_i, fNeg_i, ixN_3_0, ixN_3_1, ixN_3_2, ixN_2_0, ixN_2_1, ixN_1_0, truD_i, truD_b, intD_i, intD_b, absD_i, lenD_l, lenD_t, tupleD_l, tupleD_t, listD_l, listD_t, List.map_cons, List.map_nil, List.length_cons, List.length_nil, List.cons_append, List.nil_append, List.replicate_succ, List.replicate_zero, List.set_cons_zero, List.set_cons_succ, List.getElem?_cons_zero, List.getElem?_cons_succ, Option.getD_some, Option.bind_some, Option.map_some, true_and, and_true, Bool.false_eq_true, Nat.reduceAdd, Nat.reduceSub, Nat.reduceLeDiff, Nat.le_refl, Bool.and_true, Bool.and_self, Bool.not_true, Bool.not_false, if_true, if_false, reduceIte, Nat.zero_add, Nat.sub_self, fmod_nat pa0, fdiv_nat pa0, cm, cd, tb_atL (n := 2 ^ a) (k := k % 2 ^ a) rfl (kd k hk).1, tb_atL (n := 2 ^ b) (k := k / 2 ^ a) rfl (kd k hk).2, wl]
      have e := WH_made ht1 ht2 hk
      refine ⟨?_, fun _ => trivial, fun _ => rfl⟩
      show _ = decide (WH (a + b) (sgn (made a t1 t2)) k = _)
      rw [e]
    rw [bestP_eq]
    simp only [T_ret, T_eName, TN_val, TN_own, T_oName, TR_some, T_oVal, T_eC, T_eFrz, celD_lst, slotD_val, slotD_own, slotD_bor, rs_d, rs_s, rss_nil, rss_cons, T_op2, T_op2L, T_op1, T_opN, T_opNL, T_eBin, T_lBin, T_eUn, T_eFn, T_lFn, T_oNil, T_oCons, T_aNil, T_aCons, T_eTup, T_lLst, TB_bool, T_tOf, T_mTru, br_true, br_false, T_mAnd, T_mOr, T_mNot, T_eAnd, T_eOr, T_eNot, T_eIf, T_lIf, T_eChain, T_eIsi, T_mCall, T_mCallK, CB_own, CB_bor, T_mCallB, T_mCallT, TSV_val, TSV_own, T_eSV, TSL_own, T_lSV, sq_nx, sq_rt, sq_bk, sq_ct, T_sSeq, T_sSkip, T_sExpr, T_sRetV, T_sRetL, T_sRetS, T_sRetN, TRN_val, TRN_own, T_sRetName, T_sIf, T_sSetV, T_sSetL, TSet_val, TSet_own, T_sSetS, L2T_two, L3T_three, T_sPar, T_sPar3, T_sParL, T_sAug, T_sAsg, gN_eq, gT_eq, gsNil_eq, gsCons_eq, IX_own, IX_bor, O_gIx, T_mNoPart, TI_int, T_mPart, TLs_list, TTs_tuple, T_lCut, T_eCut, LO_nil, LO_cons, T_lOr, TAny_list, TAny_tuple, T_iAny, T_iEnumD, TZ_list, TZ_tuple, T_iZipD, TRg1_int, T_iRange1, TRg2_int, T_iRange2, TRg3_int, T_iRange3, lpK_nx, lpK_ct, lpK_bk, lpK_rt, fcK_nx, fcK_ct, fcK_bk, fcK_rt, wlK_nx, wlK_ct, wlK_bk, wlK_rt, wipe_nil, wipe_cons, back_nil, back_cons, noC_nil, noC_cons, noC1_none, noC1_val, T_comp_nil, T_lComp, MX_own, MX_bor, isCellLst_own, isCellLst_bor, T_eMut, T_eMeth, RP_lst, T_lRep, gL_eq, T_sParLL, T_sParVL, RG_int, T_lRange1, T_inK, T_eInK, T_eNinK, dictD_own, keyD_int, T_lDict, TO_nx, TO_val, TO_own, T0_bor, O_mkP, O_mkB, O_some, O_none, O_ite, O_bind, O_map, fAdd_i, fAddI_i, fSub_i, fMul_i, fDiv_i, fMod_i, fShl_i, fAnd_i, fXor_i, fShr_i, fLt_i, fLe_i, fGt_i, fGe_i, fEq_i, fNe_i, fNeg_i, ixN_3_0, ixN_3_1, ixN_3_2, ixN_2_0, ixN_2_1, ixN_1_0, truD_i, truD_b, intD_i, intD_b, absD_i, lenD_l, lenD_t, tupleD_l, tupleD_t, listD_l, listD_t, List.map_cons, List.map_nil, List.length_cons, List.length_nil, List.cons_append, List.nil_append, List.replicate_succ, List.replicate_zero, List.set_cons_zero, List.set_cons_succ, List.getElem?_cons_zero, List.getElem?_cons_succ, Option.getD_some, Option.bind_some, Option.map_some, true_and, and_true, Bool.false_eq_true, Nat.reduceAdd, Nat.reduceSub, Nat.reduceLeDiff, Nat.le_refl, Bool.and_true, Bool.and_self, Bool.not_true, Bool.not_false, if_true, if_false, reduceIte, Nat.zero_add, Nat.sub_self, rows_ok hab htm (.inl rfl), bestR_eq, same_best (xs := bestR (a + b) (made a t1 t2)) (Nat.le_trans bestR_len (by omega))]
    refine O_mono (take_ok _ c5 30 hb5 (by omega) (by omega) (by omega)) ?_
    rintro ⟨_, c6⟩ ⟨mz, rfl, h5, h6, hb6⟩
    obtain ⟨m', rfl⟩ := Int.eq_ofNat_of_zero_le h5
    obtain ⟨m, hm⟩ : ∃ m, m = 10 + m' := ⟨_, rfl⟩
    have em : (10 : Int) + (m' : Int) = (m : Int) := by omega
    dsimp only at hb6
    simp only [T_ret, T_eName, TN_val, TN_own, T_oName, TR_some, T_oVal, T_eC, T_eFrz, celD_lst, slotD_val, slotD_own, slotD_bor, rs_d, rs_s, rss_nil, rss_cons, T_op2, T_op2L, T_op1, T_opN, T_opNL, T_eBin, T_lBin, T_eUn, T_eFn, T_lFn, T_oNil, T_oCons, T_aNil, T_aCons, T_eTup, T_lLst, TB_bool, T_tOf, T_mTru, br_true, br_false, T_mAnd, T_mOr, T_mNot, T_eAnd, T_eOr, T_eNot, T_eIf, T_lIf, T_eChain, T_eIsi, T_mCall, T_mCallK, CB_own, CB_bor, T_mCallB, T_mCallT, TSV_val, TSV_own, T_eSV, TSL_own, T_lSV, sq_nx, sq_rt, sq_bk, sq_ct, T_sSeq, T_sSkip, T_sExpr, T_sRetV, T_sRetL, T_sRetS, T_sRetN, TRN_val, TRN_own, T_sRetName, T_sIf, T_sSetV, T_sSetL, TSet_val, TSet_own, T_sSetS, L2T_two, L3T_three, T_sPar, T_sPar3, T_sParL, T_sAug, T_sAsg, gN_eq, gT_eq, gsNil_eq, gsCons_eq, IX_own, IX_bor, O_gIx, T_mNoPart, TI_int, T_mPart, TLs_list, TTs_tuple, T_lCut, T_eCut, LO_nil, LO_cons, T_lOr, TAny_list, TAny_tuple, T_iAny, T_iEnumD, TZ_list, TZ_tuple, T_iZipD, TRg1_int, T_iRange1, TRg2_int, T_iRange2, TRg3_int, T_iRange3, lpK_nx, lpK_ct, lpK_bk, lpK_rt, fcK_nx, fcK_ct, fcK_bk, fcK_rt, wlK_nx, wlK_ct, wlK_bk, wlK_rt, wipe_nil, wipe_cons, back_nil, back_cons, noC_nil, noC_cons, noC1_none, noC1_val, T_comp_nil, T_lComp, MX_own, MX_bor, isCellLst_own, isCellLst_bor, T_eMut, T_eMeth, RP_lst, T_lRep, gL_eq, T_sParLL, T_sParVL, RG_int, T_lRange1, T_inK, T_eInK, T_eNinK, dictD_own, keyD_int, T_lDict, TO_nx, TO_val, TO_own, T0_bor, O_mkP, O_mkB, O_some, O_none, O_ite, O_bind, O_map, fAdd_i, fAddI_i, fSub_i, fMul_i, fDiv_i, fMod_i, fShl_i, fAnd_i, fXor_i, fShr_i, fLt_i, fLe_i, fGt_i, fGe_i, fEq_i, fNe_i, fNeg_i, ixN_3_0, ixN_3_1, ixN_3_2, ixN_2_0, ixN_2_1, ixN_1_0, truD_i, truD_b, intD_i, intD_b, absD_i, lenD_l, lenD_t, tupleD_l, tupleD_t, listD_l, listD_t, List.map_cons, List.map_nil, List.length_cons, List.length_nil, List.cons_append, List.nil_append, List.replicate_succ, List.replicate_zero, List.set_cons_zero, List.set_cons_succ, List.getElem?_cons_zero, List.getElem?_cons_succ, Option.getD_some, Option.bind_some, Option.map_some, true_and, and_true, Bool.false_eq_true, Nat.reduceAdd, Nat.reduceSub, Nat.reduceLeDiff, Nat.le_refl, Bool.and_true, Bool.and_self, Bool.not_true, Bool.not_false, if_true, if_false, reduceIte, Nat.zero_add, Nat.sub_self, em, show (1 : Int) * 2 ^ Int.toNat 8 = 256 from rfl]
    refine ⟨by decide, O_mono (take_ok _ c6 256 hb6 (by omega) (by omega) (by omega)) ?_⟩
    rintro ⟨_, c7⟩ ⟨rz, rfl, h7, h8, hb7⟩
    obtain ⟨r, rfl⟩ := Int.eq_ofNat_of_zero_le h7
    dsimp only at hb7
    simp only [T_ret, T_eName, TN_val, TN_own, T_oName, TR_some, T_oVal, T_eC, T_eFrz, celD_lst, slotD_val, slotD_own, slotD_bor, rs_d, rs_s, rss_nil, rss_cons, T_op2, T_op2L, T_op1, T_opN, T_opNL, T_eBin, T_lBin, T_eUn, T_eFn, T_lFn, T_oNil, T_oCons, T_aNil, T_aCons, T_eTup, T_lLst, TB_bool, T_tOf, T_mTru, br_true, br_false, T_mAnd, T_mOr, T_mNot, T_eAnd, T_eOr, T_eNot, T_eIf, T_lIf, T_eChain, T_eIsi, T_mCall, T_mCallK, CB_own, CB_bor, T_mCallB, T_mCallT, TSV_val, TSV_own, T_eSV, TSL_own, T_lSV, sq_nx, sq_rt, sq_bk, sq_ct, T_sSeq, T_sSkip, T_sExpr, T_sRetV, T_sRetL, T_sRetS, T_sRetN, TRN_val, TRN_own, T_sRetName, T_sIf, T_sSetV, T_sSetL, TSet_val, TSet_own, T_sSetS, L2T_two, L3T_three, T_sPar, T_sPar3, T_sParL, T_sAug, T_sAsg, gN_eq, gT_eq, gsNil_eq, gsCons_eq, IX_own, IX_bor, O_gIx, T_mNoPart, TI_int, T_mPart, TLs_list, TTs_tuple, T_lCut, T_eCut, LO_nil, LO_cons, T_lOr, TAny_list, TAny_tuple, T_iAny, T_iEnumD, TZ_list, TZ_tuple, T_iZipD, TRg1_int, T_iRange1, TRg2_int, T_iRange2, TRg3_int, T_iRange3, lpK_nx, lpK_ct, lpK_bk, lpK_rt, fcK_nx, fcK_ct, fcK_bk, fcK_rt, wlK_nx, wlK_ct, wlK_bk, wlK_rt, wipe_nil, wipe_cons, back_nil, back_cons, noC_nil, noC_cons, noC1_none, noC1_val, T_comp_nil, T_lComp, MX_own, MX_bor, isCellLst_own, isCellLst_bor, T_eMut, T_eMeth, RP_lst, T_lRep, gL_eq, T_sParLL, T_sParVL, RG_int, T_lRange1, T_inK, T_eInK, T_eNinK, dictD_own, keyD_int, T_lDict, TO_nx, TO_val, TO_own, T0_bor, O_mkP, O_mkB, O_some, O_none, O_ite, O_bind, O_map, fAdd_i, fAddI_i, fSub_i, fMul_i, fDiv_i, fMod_i, fShl_i, fAnd_i, fXor_i, fShr_i, fLt_i, fLe_i, fGt_i, fGe_i, fEq_i, fNe_i, fNeg_i, ixN_3_0, ixN_3_1, ixN_3_2, ixN_2_0, ixN_2_1, ixN_1_0, truD_i, truD_b, intD_i, intD_b, absD_i, lenD_l, lenD_t, tupleD_l, tupleD_t, listD_l, listD_t, List.map_cons, List.map_nil, List.length_cons, List.length_nil, List.cons_append, List.nil_append, List.replicate_succ, List.replicate_zero, List.set_cons_zero, List.set_cons_succ, List.getElem?_cons_zero, List.getElem?_cons_succ, Option.getD_some, Option.bind_some, Option.map_some, true_and, and_true, Bool.false_eq_true, Nat.reduceAdd, Nat.reduceSub, Nat.reduceLeDiff, Nat.le_refl, Bool.and_true, Bool.and_self, Bool.not_true, Bool.not_false, if_true, if_false, reduceIte, Nat.zero_add, Nat.sub_self]
    refine ⟨by decide, O_mono (take_ok _ c7 5 hb7 (by omega) (by omega) (by omega)) ?_⟩
    rintro ⟨_, c8⟩ ⟨nz, rfl, h9, h10, hb8⟩
    obtain ⟨n, rfl⟩ := Int.eq_ofNat_of_zero_le h9
    dsimp only at hb8
    simp only [T_ret, T_eName, TN_val, TN_own, T_oName, TR_some, T_oVal, T_eC, T_eFrz, celD_lst, slotD_val, slotD_own, slotD_bor, rs_d, rs_s, rss_nil, rss_cons, T_op2, T_op2L, T_op1, T_opN, T_opNL, T_eBin, T_lBin, T_eUn, T_eFn, T_lFn, T_oNil, T_oCons, T_aNil, T_aCons, T_eTup, T_lLst, TB_bool, T_tOf, T_mTru, br_true, br_false, T_mAnd, T_mOr, T_mNot, T_eAnd, T_eOr, T_eNot, T_eIf, T_lIf, T_eChain, T_eIsi, T_mCall, T_mCallK, CB_own, CB_bor, T_mCallB, T_mCallT, TSV_val, TSV_own, T_eSV, TSL_own, T_lSV, sq_nx, sq_rt, sq_bk, sq_ct, T_sSeq, T_sSkip, T_sExpr, T_sRetV, T_sRetL, T_sRetS, T_sRetN, TRN_val, TRN_own, T_sRetName, T_sIf, T_sSetV, T_sSetL, TSet_val, TSet_own, T_sSetS, L2T_two, L3T_three, T_sPar, T_sPar3, T_sParL, T_sAug, T_sAsg, gN_eq, gT_eq, gsNil_eq, gsCons_eq, IX_own, IX_bor, O_gIx, T_mNoPart, TI_int, T_mPart, TLs_list, TTs_tuple, T_lCut, T_eCut, LO_nil, LO_cons, T_lOr, TAny_list, TAny_tuple, T_iAny, T_iEnumD, TZ_list, TZ_tuple, T_iZipD, TRg1_int, T_iRange1, TRg2_int, T_iRange2, TRg3_int, T_iRange3, lpK_nx, lpK_ct, lpK_bk, lpK_rt, fcK_nx, fcK_ct, fcK_bk, fcK_rt, wlK_nx, wlK_ct, wlK_bk, wlK_rt, wipe_nil, wipe_cons, back_nil, back_cons, noC_nil, noC_cons, noC1_none, noC1_val, T_comp_nil, T_lComp, MX_own, MX_bor, isCellLst_own, isCellLst_bor, T_eMut, T_eMeth, RP_lst, T_lRep, gL_eq, T_sParLL, T_sParVL, RG_int, T_lRange1, T_inK, T_eInK, T_eNinK, dictD_own, keyD_int, T_lDict, TO_nx, TO_val, TO_own, T0_bor, O_mkP, O_mkB, O_some, O_none, O_ite, O_bind, O_map, fAdd_i, fAddI_i, fSub_i, fMul_i, fDiv_i, fMod_i, fShl_i, fAnd_i, fXor_i, fShr_i, fLt_i, fLe_i, fGt_i, fGe_i, fEq_i, fNe_i, fNeg_i, ixN_3_0, ixN_3_1, ixN_3_2, ixN_2_0, ixN_2_1, ixN_1_0, truD_i, truD_b, intD_i, intD_b, absD_i, lenD_l, lenD_t, tupleD_l, tupleD_t, listD_l, listD_t, List.map_cons, List.map_nil, List.length_cons, List.length_nil, List.cons_append, List.nil_append, List.replicate_succ, List.replicate_zero, List.set_cons_zero, List.set_cons_succ, List.getElem?_cons_zero, List.getElem?_cons_succ, Option.getD_some, Option.bind_some, Option.map_some, true_and, and_true, Bool.false_eq_true, Nat.reduceAdd, Nat.reduceSub, Nat.reduceLeDiff, Nat.le_refl, Bool.and_true, Bool.and_self, Bool.not_true, Bool.not_false, if_true, if_false, reduceIte, Nat.zero_add, Nat.sub_self, rg40]
    refine O_mono (pick_ok hb8 (by omega) (by rw [List.length_range]; omega) (by rw [List.length_range]; omega)) ?_
    rintro ⟨_, c9⟩ ⟨ys0, zs0, rfl, hp0, hn0, hb9⟩
    dsimp only at hb9
    have hT : Told m r (sortI (ys0.map fun (x : Nat) => (x : Int))) := told_of_pick hp0 hn0 (by omega) (by omega) (by omega) (by omega)
    simp only [T_ret, T_eName, TN_val, TN_own, T_oName, TR_some, T_oVal, T_eC, T_eFrz, celD_lst, slotD_val, slotD_own, slotD_bor, rs_d, rs_s, rss_nil, rss_cons, T_op2, T_op2L, T_op1, T_opN, T_opNL, T_eBin, T_lBin, T_eUn, T_eFn, T_lFn, T_oNil, T_oCons, T_aNil, T_aCons, T_eTup, T_lLst, TB_bool, T_tOf, T_mTru, br_true, br_false, T_mAnd, T_mOr, T_mNot, T_eAnd, T_eOr, T_eNot, T_eIf, T_lIf, T_eChain, T_eIsi, T_mCall, T_mCallK, CB_own, CB_bor, T_mCallB, T_mCallT, TSV_val, TSV_own, T_eSV, TSL_own, T_lSV, sq_nx, sq_rt, sq_bk, sq_ct, T_sSeq, T_sSkip, T_sExpr, T_sRetV, T_sRetL, T_sRetS, T_sRetN, TRN_val, TRN_own, T_sRetName, T_sIf, T_sSetV, T_sSetL, TSet_val, TSet_own, T_sSetS, L2T_two, L3T_three, T_sPar, T_sPar3, T_sParL, T_sAug, T_sAsg, gN_eq, gT_eq, gsNil_eq, gsCons_eq, IX_own, IX_bor, O_gIx, T_mNoPart, TI_int, T_mPart, TLs_list, TTs_tuple, T_lCut, T_eCut, LO_nil, LO_cons, T_lOr, TAny_list, TAny_tuple, T_iAny, T_iEnumD, TZ_list, TZ_tuple, T_iZipD, TRg1_int, T_iRange1, TRg2_int, T_iRange2, TRg3_int, T_iRange3, lpK_nx, lpK_ct, lpK_bk, lpK_rt, fcK_nx, fcK_ct, fcK_bk, fcK_rt, wlK_nx, wlK_ct, wlK_bk, wlK_rt, wipe_nil, wipe_cons, back_nil, back_cons, noC_nil, noC_cons, noC1_none, noC1_val, T_comp_nil, T_lComp, MX_own, MX_bor, isCellLst_own, isCellLst_bor, T_eMut, T_eMeth, RP_lst, T_lRep, gL_eq, T_sParLL, T_sParVL, RG_int, T_lRange1, T_inK, T_eInK, T_eNinK, dictD_own, keyD_int, T_lDict, TO_nx, TO_val, TO_own, T0_bor, O_mkP, O_mkB, O_some, O_none, O_ite, O_bind, O_map, fAdd_i, fAddI_i, fSub_i, fMul_i, fDiv_i, fMod_i, fShl_i, fAnd_i, fXor_i, fShr_i, fLt_i, fLe_i, fGt_i, fGe_i, fEq_i, fNe_i, fNeg_i, ixN_3_0, ixN_3_1, ixN_3_2, ixN_2_0, ixN_2_1, ixN_1_0, truD_i, truD_b, intD_i, intD_b, absD_i, lenD_l, lenD_t, tupleD_l, tupleD_t, listD_l, listD_t, List.map_cons, List.map_nil, List.length_cons, List.length_nil, List.cons_append, List.nil_append, List.replicate_succ, List.replicate_zero, List.set_cons_zero, List.set_cons_succ, List.getElem?_cons_zero, List.getElem?_cons_succ, Option.getD_some, Option.bind_some, Option.map_some, true_and, and_true, Bool.false_eq_true, Nat.reduceAdd, Nat.reduceSub, Nat.reduceLeDiff, Nat.le_refl, Bool.and_true, Bool.and_self, Bool.not_true, Bool.not_false, if_true, if_false, reduceIte, Nat.zero_add, Nat.sub_self, sorted_nl]
    generalize sortI (ys0.map fun (x : Nat) => (x : Int)) = zs at hT ⊢
    have hzl := hT.len
    simp only [T_ret, T_eName, TN_val, TN_own, T_oName, TR_some, T_oVal, T_eC, T_eFrz, celD_lst, slotD_val, slotD_own, slotD_bor, rs_d, rs_s, rss_nil, rss_cons, T_op2, T_op2L, T_op1, T_opN, T_opNL, T_eBin, T_lBin, T_eUn, T_eFn, T_lFn, T_oNil, T_oCons, T_aNil, T_aCons, T_eTup, T_lLst, TB_bool, T_tOf, T_mTru, br_true, br_false, T_mAnd, T_mOr, T_mNot, T_eAnd, T_eOr, T_eNot, T_eIf, T_lIf, T_eChain, T_eIsi, T_mCall, T_mCallK, CB_own, CB_bor, T_mCallB, T_mCallT, TSV_val, TSV_own, T_eSV, TSL_own, T_lSV, sq_nx, sq_rt, sq_bk, sq_ct, T_sSeq, T_sSkip, T_sExpr, T_sRetV, T_sRetL, T_sRetS, T_sRetN, TRN_val, TRN_own, T_sRetName, T_sIf, T_sSetV, T_sSetL, TSet_val, TSet_own, T_sSetS, L2T_two, L3T_three, T_sPar, T_sPar3, T_sParL, T_sAug, T_sAsg, gN_eq, gT_eq, gsNil_eq, gsCons_eq, IX_own, IX_bor, O_gIx, T_mNoPart, TI_int, T_mPart, TLs_list, TTs_tuple, T_lCut, T_eCut, LO_nil, LO_cons, T_lOr, TAny_list, TAny_tuple, T_iAny, T_iEnumD, TZ_list, TZ_tuple, T_iZipD, TRg1_int, T_iRange1, TRg2_int, T_iRange2, TRg3_int, T_iRange3, lpK_nx, lpK_ct, lpK_bk, lpK_rt, fcK_nx, fcK_ct, fcK_bk, fcK_rt, wlK_nx, wlK_ct, wlK_bk, wlK_rt, wipe_nil, wipe_cons, back_nil, back_cons, noC_nil, noC_cons, noC1_none, noC1_val, T_comp_nil, T_lComp, MX_own, MX_bor, isCellLst_own, isCellLst_bor, T_eMut, T_eMeth, RP_lst, T_lRep, gL_eq, T_sParLL, T_sParVL, RG_int, T_lRange1, T_inK, T_eInK, T_eNinK, dictD_own, keyD_int, T_lDict, TO_nx, TO_val, TO_own, T0_bor, O_mkP, O_mkB, O_some, O_none, O_ite, O_bind, O_map, fAdd_i, fAddI_i, fSub_i, fMul_i, fDiv_i, fMod_i, fShl_i, fAnd_i, fXor_i, fShr_i, fLt_i, fLe_i, fGt_i, fGe_i, fEq_i, fNe_i, fNeg_i, ixN_3_0, ixN_3_1, ixN_3_2, ixN_2_0, ixN_2_1, ixN_1_0, truD_i, truD_b, intD_i, intD_b, absD_i, lenD_l, lenD_t, tupleD_l, tupleD_t, listD_l, listD_t, List.map_cons, List.map_nil, List.length_cons, List.length_nil, List.cons_append, List.nil_append, List.replicate_succ, List.replicate_zero, List.set_cons_zero, List.set_cons_succ, List.getElem?_cons_zero, List.getElem?_cons_succ, Option.getD_some, Option.bind_some, Option.map_some, true_and, and_true, Bool.false_eq_true, Nat.reduceAdd, Nat.reduceSub, Nat.reduceLeDiff, Nat.le_refl, Bool.and_true, Bool.and_self, Bool.not_true, Bool.not_false, if_true, if_false, reduceIte, Nat.zero_add, Nat.sub_self, atD_t (ds := [_, _, _]), List.length_map, hx12]
    refine ⟨by omega, T_compFilter (oddP r) id ?_ ?_⟩
    · intro d hd
      obtain ⟨y, hy, rfl⟩ := List.mem_map.mp hd
      obtain ⟨k, rfl, hk⟩ := hT.ge y hy
      simp only [T_ret, T_eName, TN_val, TN_own, T_oName, TR_some, T_oVal, T_eC, T_eFrz, celD_lst, slotD_val, slotD_own, slotD_bor, rs_d, rs_s, rss_nil, rss_cons, T_op2, T_op2L, T_op1, T_opN, T_opNL, T_eBin, T_lBin, T_eUn, T_eFn, T_lFn, T_oNil, T_oCons, T_aNil, T_aCons, T_eTup, T_lLst, TB_bool, T_tOf, T_mTru, br_true, br_false, T_mAnd, T_mOr, T_mNot, T_eAnd, T_eOr, T_eNot, T_eIf, T_lIf, T_eChain, T_eIsi, T_mCall, T_mCallK, CB_own, CB_bor, T_mCallB, T_mCallT, TSV_val, TSV_own, T_eSV, TSL_own, T_lSV, sq_nx, sq_rt, sq_bk, sq_ct, T_sSeq, T_sSkip, T_sExpr, T_sRetV, T_sRetL, T_sRetS, T_sRetN, TRN_val, TRN_own, T_sRetName, T_sIf, T_sSetV, T_sSetL, TSet_val, TSet_own, T_sSetS, L2T_two, L3T_three, T_sPar, T_sPar3, T_sParL, T_sAug, T_sAsg, gN_eq, gT_eq, gsNil_eq, gsCons_eq, IX_own, IX_bor, O_gIx, T_mNoPart, TI_int, T_mPart, TLs_list, TTs_tuple, T_lCut, T_eCut, LO_nil, LO_cons, T_lOr, TAny_list, TAny_tuple, T_iAny, T_iEnumD, TZ_list, TZ_tuple, T_iZipD, TRg1_int, T_iRange1, TRg2_int, T_iRange2, TRg3_int, T_iRange3, lpK_nx, lpK_ct, lpK_bk, lpK_rt, fcK_nx, fcK_ct, fcK_bk, fcK_rt, wlK_nx, wlK_ct, wlK_bk, wlK_rt, wipe_nil, wipe_cons, back_nil, back_cons, noC_nil, noC_cons, noC1_none, noC1_val, T_comp_nil, T_lComp, MX_own, MX_bor, isCellLst_own, isCellLst_bor, T_eMut, T_eMeth, RP_lst, T_lRep, gL_eq, T_sParLL, T_sParVL, RG_int, T_lRange1, T_inK, T_eInK, T_eNinK, dictD_own, keyD_int, T_lDict, TO_nx, TO_val, TO_own, T0_bor, O_mkP, O_mkB, O_some, O_none, O_ite, O_bind, O_map, fAdd_i, fAddI_i, fSub_i, fMul_i, fDiv_i, fMod_i, fShl_i, fAnd_i, fXor_i, fShr_i, fLt_i, fLe_i, fGt_i, fGe_i, fEq_i, fNe_i, fNeg_i, ixN_3_0, ixN_3_1, ixN_3_2, ixN_2_0, ixN_2_1, ixN_1_0, truD_i, truD_b, intD_i, intD_b, absD_i, lenD_l, lenD_t, tupleD_l, tupleD_t, listD_l, listD_t, List.map_cons, List.map_nil, List.length_cons, List.length_nil, List.cons_append, List.nil_append, List.replicate_succ, List.replicate_zero, List.set_cons_zero, List.set_cons_succ, List.getElem?_cons_zero, List.getElem?_cons_succ, Option.getD_some, Option.bind_some, Option.map_some, true_and, and_true, Bool.false_eq_true, Nat.reduceAdd, Nat.reduceSub, Nat.reduceLeDiff, Nat.le_refl, Bool.and_true, Bool.and_self, Bool.not_true, Bool.not_false, if_true, if_false, reduceIte, Nat.zero_add, Nat.sub_self, atD_t (ds := [_, _, _]), odd_and (b := r) (by omega) hk, pb_pc]
      refine ⟨?_, fun _ => trivial, fun _ => rfl⟩
      show _ = decide (pb 1024 ((k : Int).toNat &&& r) = true)
      rw [Int.toNat_natCast, pb_same (m := 1024) (and_lt hk) (Nat.lt_of_lt_of_le (and_lt hk) (Nat.pow_le_pow_right (by decide) (by omega)))]
      cases pb 1024 (k &&& r) <;> rfl
    have cm1 : cPow 1 (((m - 1 : Nat) : Int)) = true := cPowP (by omega) (by omega) (by decide)
    have em1 : (m : Int) - 1 = ((m - 1 : Nat) : Int) := by omega
    simp only [T_ret, T_eName, TN_val, TN_own, T_oName, TR_some, T_oVal, T_eC, T_eFrz, celD_lst, slotD_val, slotD_own, slotD_bor, rs_d, rs_s, rss_nil, rss_cons, T_op2, T_op2L, T_op1, T_opN, T_opNL, T_eBin, T_lBin, T_eUn, T_eFn, T_lFn, T_oNil, T_oCons, T_aNil, T_aCons, T_eTup, T_lLst, TB_bool, T_tOf, T_mTru, br_true, br_false, T_mAnd, T_mOr, T_mNot, T_eAnd, T_eOr, T_eNot, T_eIf, T_lIf, T_eChain, T_eIsi, T_mCall, T_mCallK, CB_own, CB_bor, T_mCallB, T_mCallT, TSV_val, TSV_own, T_eSV, TSL_own, T_lSV, sq_nx, sq_rt, sq_bk, sq_ct, T_sSeq, T_sSkip, T_sExpr, T_sRetV, T_sRetL, T_sRetS, T_sRetN, TRN_val, TRN_own, T_sRetName, T_sIf, T_sSetV, T_sSetL, TSet_val, TSet_own, T_sSetS, L2T_two, L3T_three, T_sPar, T_sPar3, T_sParL, T_sAug, T_sAsg, gN_eq, gT_eq, gsNil_eq, gsCons_eq, IX_own, IX_bor, O_gIx, T_mNoPart, TI_int, T_mPart, TLs_list, TTs_tuple, T_lCut, T_eCut, LO_nil, LO_cons, T_lOr, TAny_list, TAny_tuple, T_iAny, T_iEnumD, TZ_list, TZ_tuple, T_iZipD, TRg1_int, T_iRange1, TRg2_int, T_iRange2, TRg3_int, T_iRange3, lpK_nx, lpK_ct, lpK_bk, lpK_rt, fcK_nx, fcK_ct, fcK_bk, fcK_rt, wlK_nx, wlK_ct, wlK_bk, wlK_rt, wipe_nil, wipe_cons, back_nil, back_cons, noC_nil, noC_cons, noC1_none, noC1_val, T_comp_nil, T_lComp, MX_own, MX_bor, isCellLst_own, isCellLst_bor, T_eMut, T_eMeth, RP_lst, T_lRep, gL_eq, T_sParLL, T_sParVL, RG_int, T_lRange1, T_inK, T_eInK, T_eNinK, dictD_own, keyD_int, T_lDict, TO_nx, TO_val, TO_own, T0_bor, O_mkP, O_mkB, O_some, O_none, O_ite, O_bind, O_map, fAdd_i, fAddI_i, fSub_i, fMul_i, fDiv_i, fMod_i, fShl_i, fAnd_i, fXor_i, fShr_i, fLt_i, fLe_i, fGt_i, fGe_i, fEq_i, fNe_i, fNeg_i, ixN_3_0, ixN_3_1, ixN_3_2, ixN_2_0, ixN_2_1, ixN_1_0, truD_i, truD_b, intD_i, intD_b, absD_i, lenD_l, lenD_t, tupleD_l, tupleD_t, listD_l, listD_t, List.map_cons, List.map_nil, List.length_cons, List.length_nil, List.cons_append, List.nil_append, List.replicate_succ, List.replicate_zero, List.set_cons_zero, List.set_cons_succ, List.getElem?_cons_zero, List.getElem?_cons_succ, Option.getD_some, Option.bind_some, Option.map_some, true_and, and_true, Bool.false_eq_true, Nat.reduceAdd, Nat.reduceSub, Nat.reduceLeDiff, Nat.le_refl, Bool.and_true, Bool.and_self, Bool.not_true, Bool.not_false, if_true, if_false, reduceIte, Nat.zero_add, Nat.sub_self, oddP_len, atD_t (ds := [_, _, _]), em1, one_shl, cm1]
    refine br_slot fun S hS => ?_
    obtain ⟨v, hv, rfl⟩ : ∃ v : Int, v = (if r = 0 then 0 else ((2 ^ (m - 1) : Nat) : Int)) + ((zs.length : Int) - 2 * (oddc r zs : Int)) ∧ S = [some (.bor c9), some (.val (.int i)), some (.val (.int a)), some (.val (.int b)), some (.val (.tuple (tb (2 ^ a) t1))), some (.val (.tuple (tb (2 ^ b) t2))), some (.val (.int ((2 ^ a : Nat) : Int))), some (.val (.int ((2 ^ b : Nat) : Int))), x8, some (.val (.tuple (tb (2 ^ (a + b)) (made a t1 t2)))), some (.val (.list (tb (2 ^ a) (WH a fun k => 1 - 2 * t1 k)))), some (.val (.list (tb (2 ^ b) (WH b fun k => 1 - 2 * t2 k)))), x12, some (.own (.lst [.int (((2 ^ a : Nat) : Int) * ((2 ^ a : Nat) : Int) - 2 * SF a t1), .int (((2 ^ b : Nat) : Int) * ((2 ^ b : Nat) : Int) - 2 * SF b t2), .int (((2 ^ (a + b) : Nat) : Int) * ((2 ^ (a + b) : Nat) : Int) - 2 * SF (a + b) (made a t1 t2))])), some (.own (.lst [.list (tb (2 ^ a) (US a t1)), .list (tb (2 ^ b) (US b t2)), .list (tb (2 ^ (a + b)) (US (a + b) (made a t1 t2)))])), x15, x16, some (.val (.int (top (2 ^ (a + b)) (WH (a + b) (sgn (made a t1 t2)))))), some (.val (.list ((bestR (a + b) (made a t1 t2)).map .int))), some (.val (.int m)), some (.val (tld m r zs)), some (.val (.int (oddc r zs : Int))), some (.val (.int v)), some (.val (.int 0)), none] := by
      rcases hS with ⟨h, rfl⟩ | ⟨h, rfl⟩
      · have h := of_decide_eq_true h
        refine ⟨_, ?_, rfl⟩
        rw [if_neg (by omega), List.length_map]; omega
      · have h := of_decide_eq_false h
        refine ⟨_, ?_, rfl⟩
        rw [if_pos (by omega), List.length_map]; omega
    clear hS
    rw [T_sFor]
    simp only [T_ret, T_eName, TN_val, TN_own, T_oName, TR_some, T_oVal, T_eC, T_eFrz, celD_lst, slotD_val, slotD_own, slotD_bor, rs_d, rs_s, rss_nil, rss_cons, T_op2, T_op2L, T_op1, T_opN, T_opNL, T_eBin, T_lBin, T_eUn, T_eFn, T_lFn, T_oNil, T_oCons, T_aNil, T_aCons, T_eTup, T_lLst, TB_bool, T_tOf, T_mTru, br_true, br_false, T_mAnd, T_mOr, T_mNot, T_eAnd, T_eOr, T_eNot, T_eIf, T_lIf, T_eChain, T_eIsi, T_mCall, T_mCallK, CB_own, CB_bor, T_mCallB, T_mCallT, TSV_val, TSV_own, T_eSV, TSL_own, T_lSV, sq_nx, sq_rt, sq_bk, sq_ct, T_sSeq, T_sSkip, T_sExpr, T_sRetV, T_sRetL, T_sRetS, T_sRetN, TRN_val, TRN_own, T_sRetName, T_sIf, T_sSetV, T_sSetL, TSet_val, TSet_own, T_sSetS, L2T_two, L3T_three, T_sPar, T_sPar3, T_sParL, T_sAug, T_sAsg, gN_eq, gT_eq, gsNil_eq, gsCons_eq, IX_own, IX_bor, O_gIx, T_mNoPart, TI_int, T_mPart, TLs_list, TTs_tuple, T_lCut, T_eCut, LO_nil, LO_cons, T_lOr, TAny_list, TAny_tuple, T_iAny, T_iEnumD, TZ_list, TZ_tuple, T_iZipD, TRg1_int, T_iRange1, TRg2_int, T_iRange2, TRg3_int, T_iRange3, lpK_nx, lpK_ct, lpK_bk, lpK_rt, fcK_nx, fcK_ct, fcK_bk, fcK_rt, wlK_nx, wlK_ct, wlK_bk, wlK_rt, wipe_nil, wipe_cons, back_nil, back_cons, noC_nil, noC_cons, noC1_none, noC1_val, T_comp_nil, T_lComp, MX_own, MX_bor, isCellLst_own, isCellLst_bor, T_eMut, T_eMeth, RP_lst, T_lRep, gL_eq, T_sParLL, T_sParVL, RG_int, T_lRange1, T_inK, T_eInK, T_eNinK, dictD_own, keyD_int, T_lDict, TO_nx, TO_val, TO_own, T0_bor, O_mkP, O_mkB, O_some, O_none, O_ite, O_bind, O_map, fAdd_i, fAddI_i, fSub_i, fMul_i, fDiv_i, fMod_i, fShl_i, fAnd_i, fXor_i, fShr_i, fLt_i, fLe_i, fGt_i, fGe_i, fEq_i, fNe_i, fNeg_i, ixN_3_0, ixN_3_1, ixN_3_2, ixN_2_0, ixN_2_1, ixN_1_0, truD_i, truD_b, intD_i, intD_b, absD_i, lenD_l, lenD_t, tupleD_l, tupleD_t, listD_l, listD_t, List.map_cons, List.map_nil, List.length_cons, List.length_nil, List.cons_append, List.nil_append, List.replicate_succ, List.replicate_zero, List.set_cons_zero, List.set_cons_succ, List.getElem?_cons_zero, List.getElem?_cons_succ, Option.getD_some, Option.bind_some, Option.map_some, true_and, and_true, Bool.false_eq_true, Nat.reduceAdd, Nat.reduceSub, Nat.reduceLeDiff, Nat.le_refl, Bool.and_true, Bool.and_self, Bool.not_true, Bool.not_false, if_true, if_false, reduceIte, Nat.zero_add, Nat.sub_self, atD_t (ds := [_, _, _])]
    refine T_forL (fun j S => ∃ x12, S = [some (.bor c9), some (.val (.int i)), some (.val (.int a)), some (.val (.int b)), some (.val (.tuple (tb (2 ^ a) t1))), some (.val (.tuple (tb (2 ^ b) t2))), some (.val (.int ((2 ^ a : Nat) : Int))), some (.val (.int ((2 ^ b : Nat) : Int))), x8, some (.val (.tuple (tb (2 ^ (a + b)) (made a t1 t2)))), some (.val (.list (tb (2 ^ a) (WH a fun k => 1 - 2 * t1 k)))), some (.val (.list (tb (2 ^ b) (WH b fun k => 1 - 2 * t2 k)))), x12, some (.own (.lst [.int (((2 ^ a : Nat) : Int) * ((2 ^ a : Nat) : Int) - 2 * SF a t1), .int (((2 ^ b : Nat) : Int) * ((2 ^ b : Nat) : Int) - 2 * SF b t2), .int (((2 ^ (a + b) : Nat) : Int) * ((2 ^ (a + b) : Nat) : Int) - 2 * SF (a + b) (made a t1 t2))])), some (.own (.lst [.list (tb (2 ^ a) (US a t1)), .list (tb (2 ^ b) (US b t2)), .list (tb (2 ^ (a + b)) (US (a + b) (made a t1 t2)))])), x15, x16, some (.val (.int (top (2 ^ (a + b)) (WH (a + b) (sgn (made a t1 t2)))))), some (.val (.list ((bestR (a + b) (made a t1 t2)).map .int))), some (.val (.int m)), some (.val (tld m r zs)), some (.val (.int (oddc r zs : Int))), some (.val (.int v)), some (.val (.int ((zs.take j).map fun y => (meet zs y : Int)).sum)), none] ∧ noC1 (some x12) = true) ⟨x12, rfl, hx12⟩ ?_ ?_
    · rintro j d hd S ⟨x12, rfl, hx12⟩
      rw [List.getElem?_map] at hd
      obtain ⟨y, hy, rfl⟩ := Option.map_eq_some_iff.mp hd
      have hym : y ∈ zs := List.mem_of_getElem? hy
      simp only [T_ret, T_eName, TN_val, TN_own, T_oName, TR_some, T_oVal, T_eC, T_eFrz, celD_lst, slotD_val, slotD_own, slotD_bor, rs_d, rs_s, rss_nil, rss_cons, T_op2, T_op2L, T_op1, T_opN, T_opNL, T_eBin, T_lBin, T_eUn, T_eFn, T_lFn, T_oNil, T_oCons, T_aNil, T_aCons, T_eTup, T_lLst, TB_bool, T_tOf, T_mTru, br_true, br_false, T_mAnd, T_mOr, T_mNot, T_eAnd, T_eOr, T_eNot, T_eIf, T_lIf, T_eChain, T_eIsi, T_mCall, T_mCallK, CB_own, CB_bor, T_mCallB, T_mCallT, TSV_val, TSV_own, T_eSV, TSL_own, T_lSV, sq_nx, sq_rt, sq_bk, sq_ct, T_sSeq, T_sSkip, T_sExpr, T_sRetV, T_sRetL, T_sRetS, T_sRetN, TRN_val, TRN_own, T_sRetName, T_sIf, T_sSetV, T_sSetL, TSet_val, TSet_own, T_sSetS, L2T_two, L3T_three, T_sPar, T_sPar3, T_sParL, T_sAug, T_sAsg, gN_eq, gT_eq, gsNil_eq, gsCons_eq, IX_own, IX_bor, O_gIx, T_mNoPart, TI_int, T_mPart, TLs_list, TTs_tuple, T_lCut, T_eCut, LO_nil, LO_cons, T_lOr, TAny_list, TAny_tuple, T_iAny, T_iEnumD, TZ_list, TZ_tuple, T_iZipD, TRg1_int, T_iRange1, TRg2_int, T_iRange2, TRg3_int, T_iRange3, lpK_nx, lpK_ct, lpK_bk, lpK_rt, fcK_nx, fcK_ct, fcK_bk, fcK_rt, wlK_nx, wlK_ct, wlK_bk, wlK_rt, wipe_nil, wipe_cons, back_nil, back_cons, noC_nil, noC_cons, noC1_none, noC1_val, T_comp_nil, T_lComp, MX_own, MX_bor, isCellLst_own, isCellLst_bor, T_eMut, T_eMeth, RP_lst, T_lRep, gL_eq, T_sParLL, T_sParVL, RG_int, T_lRange1, T_inK, T_eInK, T_eNinK, dictD_own, keyD_int, T_lDict, TO_nx, TO_val, TO_own, T0_bor, O_mkP, O_mkB, O_some, O_none, O_ite, O_bind, O_map, fAdd_i, fAddI_i, fSub_i, fMul_i, fDiv_i, fMod_i, fShl_i, fAnd_i, fXor_i, fShr_i, fLt_i, fLe_i, fGt_i, fGe_i, fEq_i, fNe_i, fNeg_i, ixN_3_0, ixN_3_1, ixN_3_2, ixN_2_0, ixN_2_1, ixN_1_0, truD_i, truD_b, intD_i, intD_b, absD_i, lenD_l, lenD_t, tupleD_l, tupleD_t, listD_l, listD_t, List.map_cons, List.map_nil, List.length_cons, List.length_nil, List.cons_append, List.nil_append, List.replicate_succ, List.replicate_zero, List.set_cons_zero, List.set_cons_succ, List.getElem?_cons_zero, List.getElem?_cons_succ, Option.getD_some, Option.bind_some, Option.map_some, true_and, and_true, Bool.false_eq_true, Nat.reduceAdd, Nat.reduceSub, Nat.reduceLeDiff, Nat.le_refl, Bool.and_true, Bool.and_self, Bool.not_true, Bool.not_false, if_true, if_false, reduceIte, Nat.zero_add, Nat.sub_self, atD_t (ds := [_, _, _]), List.length_map]
      refine ⟨by omega, T_compFilter (meetP zs y) id ?_ ?_⟩
      · intro d hd
        obtain ⟨x, hx, rfl⟩ := List.mem_map.mp hd
        simp only [T_ret, T_eName, TN_val, TN_own, T_oName, TR_some, T_oVal, T_eC, T_eFrz, celD_lst, slotD_val, slotD_own, slotD_bor, rs_d, rs_s, rss_nil, rss_cons, T_op2, T_op2L, T_op1, T_opN, T_opNL, T_eBin, T_lBin, T_eUn, T_eFn, T_lFn, T_oNil, T_oCons, T_aNil, T_aCons, T_eTup, T_lLst, TB_bool, T_tOf, T_mTru, br_true, br_false, T_mAnd, T_mOr, T_mNot, T_eAnd, T_eOr, T_eNot, T_eIf, T_lIf, T_eChain, T_eIsi, T_mCall, T_mCallK, CB_own, CB_bor, T_mCallB, T_mCallT, TSV_val, TSV_own, T_eSV, TSL_own, T_lSV, sq_nx, sq_rt, sq_bk, sq_ct, T_sSeq, T_sSkip, T_sExpr, T_sRetV, T_sRetL, T_sRetS, T_sRetN, TRN_val, TRN_own, T_sRetName, T_sIf, T_sSetV, T_sSetL, TSet_val, TSet_own, T_sSetS, L2T_two, L3T_three, T_sPar, T_sPar3, T_sParL, T_sAug, T_sAsg, gN_eq, gT_eq, gsNil_eq, gsCons_eq, IX_own, IX_bor, O_gIx, T_mNoPart, TI_int, T_mPart, TLs_list, TTs_tuple, T_lCut, T_eCut, LO_nil, LO_cons, T_lOr, TAny_list, TAny_tuple, T_iAny, T_iEnumD, TZ_list, TZ_tuple, T_iZipD, TRg1_int, T_iRange1, TRg2_int, T_iRange2, TRg3_int, T_iRange3, lpK_nx, lpK_ct, lpK_bk, lpK_rt, fcK_nx, fcK_ct, fcK_bk, fcK_rt, wlK_nx, wlK_ct, wlK_bk, wlK_rt, wipe_nil, wipe_cons, back_nil, back_cons, noC_nil, noC_cons, noC1_none, noC1_val, T_comp_nil, T_lComp, MX_own, MX_bor, isCellLst_own, isCellLst_bor, T_eMut, T_eMeth, RP_lst, T_lRep, gL_eq, T_sParLL, T_sParVL, RG_int, T_lRange1, T_inK, T_eInK, T_eNinK, dictD_own, keyD_int, T_lDict, TO_nx, TO_val, TO_own, T0_bor, O_mkP, O_mkB, O_some, O_none, O_ite, O_bind, O_map, fAdd_i, fAddI_i, fSub_i, fMul_i, fDiv_i, fMod_i, fShl_i, fAnd_i, fXor_i, fShr_i, fLt_i, fLe_i, fGt_i, fGe_i, fEq_i, fNe_i, fNeg_i, ixN_3_0, ixN_3_1, ixN_3_2, ixN_2_0, ixN_2_1, ixN_1_0, truD_i, truD_b, intD_i, intD_b, absD_i, lenD_l, lenD_t, tupleD_l, tupleD_t, listD_l, listD_t, List.map_cons, List.map_nil, List.length_cons, List.length_nil, List.cons_append, List.nil_append, List.replicate_succ, List.replicate_zero, List.set_cons_zero, List.set_cons_succ, List.getElem?_cons_zero, List.getElem?_cons_succ, Option.getD_some, Option.bind_some, Option.map_some, true_and, and_true, Bool.false_eq_true, Nat.reduceAdd, Nat.reduceSub, Nat.reduceLeDiff, Nat.le_refl, Bool.and_true, Bool.and_self, Bool.not_true, Bool.not_false, if_true, if_false, reduceIte, Nat.zero_add, Nat.sub_self, atD_t (ds := [_, _, _]), fIn_il]
        exact ⟨rfl, fun _ => trivial, fun _ => rfl⟩
      simp only [T_ret, T_eName, TN_val, TN_own, T_oName, TR_some, T_oVal, T_eC, T_eFrz, celD_lst, slotD_val, slotD_own, slotD_bor, rs_d, rs_s, rss_nil, rss_cons, T_op2, T_op2L, T_op1, T_opN, T_opNL, T_eBin, T_lBin, T_eUn, T_eFn, T_lFn, T_oNil, T_oCons, T_aNil, T_aCons, T_eTup, T_lLst, TB_bool, T_tOf, T_mTru, br_true, br_false, T_mAnd, T_mOr, T_mNot, T_eAnd, T_eOr, T_eNot, T_eIf, T_lIf, T_eChain, T_eIsi, T_mCall, T_mCallK, CB_own, CB_bor, T_mCallB, T_mCallT, TSV_val, TSV_own, T_eSV, TSL_own, T_lSV, sq_nx, sq_rt, sq_bk, sq_ct, T_sSeq, T_sSkip, T_sExpr, T_sRetV, T_sRetL, T_sRetS, T_sRetN, TRN_val, TRN_own, T_sRetName, T_sIf, T_sSetV, T_sSetL, TSet_val, TSet_own, T_sSetS, L2T_two, L3T_three, T_sPar, T_sPar3, T_sParL, T_sAug, T_sAsg, gN_eq, gT_eq, gsNil_eq, gsCons_eq, IX_own, IX_bor, O_gIx, T_mNoPart, TI_int, T_mPart, TLs_list, TTs_tuple, T_lCut, T_eCut, LO_nil, LO_cons, T_lOr, TAny_list, TAny_tuple, T_iAny, T_iEnumD, TZ_list, TZ_tuple, T_iZipD, TRg1_int, T_iRange1, TRg2_int, T_iRange2, TRg3_int, T_iRange3, lpK_nx, lpK_ct, lpK_bk, lpK_rt, fcK_nx, fcK_ct, fcK_bk, fcK_rt, wlK_nx, wlK_ct, wlK_bk, wlK_rt, wipe_nil, wipe_cons, back_nil, back_cons, noC_nil, noC_cons, noC1_none, noC1_val, T_comp_nil, T_lComp, MX_own, MX_bor, isCellLst_own, isCellLst_bor, T_eMut, T_eMeth, RP_lst, T_lRep, gL_eq, T_sParLL, T_sParVL, RG_int, T_lRange1, T_inK, T_eInK, T_eNinK, dictD_own, keyD_int, T_lDict, TO_nx, TO_val, TO_own, T0_bor, O_mkP, O_mkB, O_some, O_none, O_ite, O_bind, O_map, fAdd_i, fAddI_i, fSub_i, fMul_i, fDiv_i, fMod_i, fShl_i, fAnd_i, fXor_i, fShr_i, fLt_i, fLe_i, fGt_i, fGe_i, fEq_i, fNe_i, fNeg_i, ixN_3_0, ixN_3_1, ixN_3_2, ixN_2_0, ixN_2_1, ixN_1_0, truD_i, truD_b, intD_i, intD_b, absD_i, lenD_l, lenD_t, tupleD_l, tupleD_t, listD_l, listD_t, List.map_cons, List.map_nil, List.length_cons, List.length_nil, List.cons_append, List.nil_append, List.replicate_succ, List.replicate_zero, List.set_cons_zero, List.set_cons_succ, List.getElem?_cons_zero, List.getElem?_cons_succ, Option.getD_some, Option.bind_some, Option.map_some, true_and, and_true, Bool.false_eq_true, Nat.reduceAdd, Nat.reduceSub, Nat.reduceLeDiff, Nat.le_refl, Bool.and_true, Bool.and_self, Bool.not_true, Bool.not_false, if_true, if_false, reduceIte, Nat.zero_add, Nat.sub_self, meetP_len hT hym]
      refine ⟨some (.val (.int y)), ?_, rfl⟩
      have e : ((zs.take (j + 1)).map fun y => (meet zs y : Int)).sum = ((zs.take j).map fun y => (meet zs y : Int)).sum + (meet zs y : Int) := by
        rw [List.take_add_one, hy, List.map_append, List.sum_append]
        simp
      rw [e]
    · rintro S ⟨x12, rfl, hx12⟩
      rw [List.length_map, List.take_length]
      have cm : cPow 1 (m : Int) = true := cPowP (by omega) (by omega) (by decide)
      simp only [T_ret, T_eName, TN_val, TN_own, T_oName, TR_some, T_oVal, T_eC, T_eFrz, celD_lst, slotD_val, slotD_own, slotD_bor, rs_d, rs_s, rss_nil, rss_cons, T_op2, T_op2L, T_op1, T_opN, T_opNL, T_eBin, T_lBin, T_eUn, T_eFn, T_lFn, T_oNil, T_oCons, T_aNil, T_aCons, T_eTup, T_lLst, TB_bool, T_tOf, T_mTru, br_true, br_false, T_mAnd, T_mOr, T_mNot, T_eAnd, T_eOr, T_eNot, T_eIf, T_lIf, T_eChain, T_eIsi, T_mCall, T_mCallK, CB_own, CB_bor, T_mCallB, T_mCallT, TSV_val, TSV_own, T_eSV, TSL_own, T_lSV, sq_nx, sq_rt, sq_bk, sq_ct, T_sSeq, T_sSkip, T_sExpr, T_sRetV, T_sRetL, T_sRetS, T_sRetN, TRN_val, TRN_own, T_sRetName, T_sIf, T_sSetV, T_sSetL, TSet_val, TSet_own, T_sSetS, L2T_two, L3T_three, T_sPar, T_sPar3, T_sParL, T_sAug, T_sAsg, gN_eq, gT_eq, gsNil_eq, gsCons_eq, IX_own, IX_bor, O_gIx, T_mNoPart, TI_int, T_mPart, TLs_list, TTs_tuple, T_lCut, T_eCut, LO_nil, LO_cons, T_lOr, TAny_list, TAny_tuple, T_iAny, T_iEnumD, TZ_list, TZ_tuple, T_iZipD, TRg1_int, T_iRange1, TRg2_int, T_iRange2, TRg3_int, T_iRange3, lpK_nx, lpK_ct, lpK_bk, lpK_rt, fcK_nx, fcK_ct, fcK_bk, fcK_rt, wlK_nx, wlK_ct, wlK_bk, wlK_rt, wipe_nil, wipe_cons, back_nil, back_cons, noC_nil, noC_cons, noC1_none, noC1_val, T_comp_nil, T_lComp, MX_own, MX_bor, isCellLst_own, isCellLst_bor, T_eMut, T_eMeth, RP_lst, T_lRep, gL_eq, T_sParLL, T_sParVL, RG_int, T_lRange1, T_inK, T_eInK, T_eNinK, dictD_own, keyD_int, T_lDict, TO_nx, TO_val, TO_own, T0_bor, O_mkP, O_mkB, O_some, O_none, O_ite, O_bind, O_map, fAdd_i, fAddI_i, fSub_i, fMul_i, fDiv_i, fMod_i, fShl_i, fAnd_i, fXor_i, fShr_i, fLt_i, fLe_i, fGt_i, fGe_i, fEq_i, fNe_i, fNeg_i, ixN_3_0, ixN_3_1, ixN_3_2, ixN_2_0, ixN_2_1, ixN_1_0, truD_i, truD_b, intD_i, intD_b, absD_i, lenD_l, lenD_t, tupleD_l, tupleD_t, listD_l, listD_t, List.map_cons, List.map_nil, List.length_cons, List.length_nil, List.cons_append, List.nil_append, List.replicate_succ, List.replicate_zero, List.set_cons_zero, List.set_cons_succ, List.getElem?_cons_zero, List.getElem?_cons_succ, Option.getD_some, Option.bind_some, Option.map_some, true_and, and_true, Bool.false_eq_true, Nat.reduceAdd, Nat.reduceSub, Nat.reduceLeDiff, Nat.le_refl, Bool.and_true, Bool.and_self, Bool.not_true, Bool.not_false, if_true, if_false, reduceIte, Nat.zero_add, Nat.sub_self, atD_t (ds := [_, _, _]), ones_ok hT (by omega), line_ok hT, List.length_map, one_shl, cm]
      rw [← hv]
      refine ⟨cMulL (by decide), cMulL (by omega), cMulL (by decide), cMulL (by omega), cMulL (by decide), ?_⟩
      rw [show (((3 : Nat) : Int)) = 3 from rfl, same2]
      simp only [T_ret, T_eName, TN_val, TN_own, T_oName, TR_some, T_oVal, T_eC, T_eFrz, celD_lst, slotD_val, slotD_own, slotD_bor, rs_d, rs_s, rss_nil, rss_cons, T_op2, T_op2L, T_op1, T_opN, T_opNL, T_eBin, T_lBin, T_eUn, T_eFn, T_lFn, T_oNil, T_oCons, T_aNil, T_aCons, T_eTup, T_lLst, TB_bool, T_tOf, T_mTru, br_true, br_false, T_mAnd, T_mOr, T_mNot, T_eAnd, T_eOr, T_eNot, T_eIf, T_lIf, T_eChain, T_eIsi, T_mCall, T_mCallK, CB_own, CB_bor, T_mCallB, T_mCallT, TSV_val, TSV_own, T_eSV, TSL_own, T_lSV, sq_nx, sq_rt, sq_bk, sq_ct, T_sSeq, T_sSkip, T_sExpr, T_sRetV, T_sRetL, T_sRetS, T_sRetN, TRN_val, TRN_own, T_sRetName, T_sIf, T_sSetV, T_sSetL, TSet_val, TSet_own, T_sSetS, L2T_two, L3T_three, T_sPar, T_sPar3, T_sParL, T_sAug, T_sAsg, gN_eq, gT_eq, gsNil_eq, gsCons_eq, IX_own, IX_bor, O_gIx, T_mNoPart, TI_int, T_mPart, TLs_list, TTs_tuple, T_lCut, T_eCut, LO_nil, LO_cons, T_lOr, TAny_list, TAny_tuple, T_iAny, T_iEnumD, TZ_list, TZ_tuple, T_iZipD, TRg1_int, T_iRange1, TRg2_int, T_iRange2, TRg3_int, T_iRange3, lpK_nx, lpK_ct, lpK_bk, lpK_rt, fcK_nx, fcK_ct, fcK_bk, fcK_rt, wlK_nx, wlK_ct, wlK_bk, wlK_rt, wipe_nil, wipe_cons, back_nil, back_cons, noC_nil, noC_cons, noC1_none, noC1_val, T_comp_nil, T_lComp, MX_own, MX_bor, isCellLst_own, isCellLst_bor, T_eMut, T_eMeth, RP_lst, T_lRep, gL_eq, T_sParLL, T_sParVL, RG_int, T_lRange1, T_inK, T_eInK, T_eNinK, dictD_own, keyD_int, T_lDict, TO_nx, TO_val, TO_own, T0_bor, O_mkP, O_mkB, O_some, O_none, O_ite, O_bind, O_map, fAdd_i, fAddI_i, fSub_i, fMul_i, fDiv_i, fMod_i, fShl_i, fAnd_i, fXor_i, fShr_i, fLt_i, fLe_i, fGt_i, fGe_i, fEq_i, fNe_i, fNeg_i, ixN_3_0, ixN_3_1, ixN_3_2, ixN_2_0, ixN_2_1, ixN_1_0, truD_i, truD_b, intD_i, intD_b, absD_i, lenD_l, lenD_t, tupleD_l, tupleD_t, listD_l, listD_t, List.map_cons, List.map_nil, List.length_cons, List.length_nil, List.cons_append, List.nil_append, List.replicate_succ, List.replicate_zero, List.set_cons_zero, List.set_cons_succ, List.getElem?_cons_zero, List.getElem?_cons_succ, Option.getD_some, Option.bind_some, Option.map_some, true_and, and_true, Bool.false_eq_true, Nat.reduceAdd, Nat.reduceSub, Nat.reduceLeDiff, Nat.le_refl, Bool.and_true, Bool.and_self, Bool.not_true, Bool.not_false, if_true, if_false, reduceIte, Nat.zero_add, Nat.sub_self]
      exact ⟨_, _, _, _, _, _, _, _, _, _, _, _, _, _, _, _, _, _, _, _, _, _, _, _, rfl, hx8, hx12, hb9.mono (by rw [Nat.add_mul]; omega)⟩
  · rintro S ⟨c, x1, x2, x3, x4, x5, x6, x7, x8, x9, x10, x11, x12, x13, x14, x15, x16, x17, x18, x19, x20, x21, x22, x23, rfl, hx8, hx12, hb⟩
    simp only [T_ret, T_eName, TN_val, TN_own, T_oName, TR_some, T_oVal, T_eC, T_eFrz, celD_lst, slotD_val, slotD_own, slotD_bor, rs_d, rs_s, rss_nil, rss_cons, T_op2, T_op2L, T_op1, T_opN, T_opNL, T_eBin, T_lBin, T_eUn, T_eFn, T_lFn, T_oNil, T_oCons, T_aNil, T_aCons, T_eTup, T_lLst, TB_bool, T_tOf, T_mTru, br_true, br_false, T_mAnd, T_mOr, T_mNot, T_eAnd, T_eOr, T_eNot, T_eIf, T_lIf, T_eChain, T_eIsi, T_mCall, T_mCallK, CB_own, CB_bor, T_mCallB, T_mCallT, TSV_val, TSV_own, T_eSV, TSL_own, T_lSV, sq_nx, sq_rt, sq_bk, sq_ct, T_sSeq, T_sSkip, T_sExpr, T_sRetV, T_sRetL, T_sRetS, T_sRetN, TRN_val, TRN_own, T_sRetName, T_sIf, T_sSetV, T_sSetL, TSet_val, TSet_own, T_sSetS, L2T_two, L3T_three, T_sPar, T_sPar3, T_sParL, T_sAug, T_sAsg, gN_eq, gT_eq, gsNil_eq, gsCons_eq, IX_own, IX_bor, O_gIx, T_mNoPart, TI_int, T_mPart, TLs_list, TTs_tuple, T_lCut, T_eCut, LO_nil, LO_cons, T_lOr, TAny_list, TAny_tuple, T_iAny, T_iEnumD, TZ_list, TZ_tuple, T_iZipD, TRg1_int, T_iRange1, TRg2_int, T_iRange2, TRg3_int, T_iRange3, lpK_nx, lpK_ct, lpK_bk, lpK_rt, fcK_nx, fcK_ct, fcK_bk, fcK_rt, wlK_nx, wlK_ct, wlK_bk, wlK_rt, wipe_nil, wipe_cons, back_nil, back_cons, noC_nil, noC_cons, noC1_none, noC1_val, T_comp_nil, T_lComp, MX_own, MX_bor, isCellLst_own, isCellLst_bor, T_eMut, T_eMeth, RP_lst, T_lRep, gL_eq, T_sParLL, T_sParVL, RG_int, T_lRange1, T_inK, T_eInK, T_eNinK, dictD_own, keyD_int, T_lDict, TO_nx, TO_val, TO_own, T0_bor, O_mkP, O_mkB, O_some, O_none, O_ite, O_bind, O_map, fAdd_i, fAddI_i, fSub_i, fMul_i, fDiv_i, fMod_i, fShl_i, fAnd_i, fXor_i, fShr_i, fLt_i, fLe_i, fGt_i, fGe_i, fEq_i, fNe_i, fNeg_i, ixN_3_0, ixN_3_1, ixN_3_2, ixN_2_0, ixN_2_1, ixN_1_0, truD_i, truD_b, intD_i, intD_b, absD_i, lenD_l, lenD_t, tupleD_l, tupleD_t, listD_l, listD_t, List.map_cons, List.map_nil, List.length_cons, List.length_nil, List.cons_append, List.nil_append, List.replicate_succ, List.replicate_zero, List.set_cons_zero, List.set_cons_succ, List.getElem?_cons_zero, List.getElem?_cons_succ, Option.getD_some, Option.bind_some, Option.map_some, true_and, and_true, Bool.false_eq_true, Nat.reduceAdd, Nat.reduceSub, Nat.reduceLeDiff, Nat.le_refl, Bool.and_true, Bool.and_self, Bool.not_true, Bool.not_false, if_true, if_false, reduceIte, Nat.zero_add, Nat.sub_self]
theorem law_true (ns : List Int) (h : ns.length ≤ 63) : F_law [.list (ns.map .int)] = some (.val (.bool true)) := by
  apply O_is.mp
  unfold F_law b_law
  simp only [T_ret, T_eName, TN_val, TN_own, T_oName, TR_some, T_oVal, T_eC, T_eFrz, celD_lst, slotD_val, slotD_own, slotD_bor, rs_d, rs_s, rss_nil, rss_cons, T_op2, T_op2L, T_op1, T_opN, T_opNL, T_eBin, T_lBin, T_eUn, T_eFn, T_lFn, T_oNil, T_oCons, T_aNil, T_aCons, T_eTup, T_lLst, TB_bool, T_tOf, T_mTru, br_true, br_false, T_mAnd, T_mOr, T_mNot, T_eAnd, T_eOr, T_eNot, T_eIf, T_lIf, T_eChain, T_eIsi, T_mCall, T_mCallK, CB_own, CB_bor, T_mCallB, T_mCallT, TSV_val, TSV_own, T_eSV, TSL_own, T_lSV, sq_nx, sq_rt, sq_bk, sq_ct, T_sSeq, T_sSkip, T_sExpr, T_sRetV, T_sRetL, T_sRetS, T_sRetN, TRN_val, TRN_own, T_sRetName, T_sIf, T_sSetV, T_sSetL, TSet_val, TSet_own, T_sSetS, L2T_two, L3T_three, T_sPar, T_sPar3, T_sParL, T_sAug, T_sAsg, gN_eq, gT_eq, gsNil_eq, gsCons_eq, IX_own, IX_bor, O_gIx, T_mNoPart, TI_int, T_mPart, TLs_list, TTs_tuple, T_lCut, T_eCut, LO_nil, LO_cons, T_lOr, TAny_list, TAny_tuple, T_iAny, T_iEnumD, TZ_list, TZ_tuple, T_iZipD, TRg1_int, T_iRange1, TRg2_int, T_iRange2, TRg3_int, T_iRange3, lpK_nx, lpK_ct, lpK_bk, lpK_rt, fcK_nx, fcK_ct, fcK_bk, fcK_rt, wlK_nx, wlK_ct, wlK_bk, wlK_rt, wipe_nil, wipe_cons, back_nil, back_cons, noC_nil, noC_cons, noC1_none, noC1_val, T_comp_nil, T_lComp, MX_own, MX_bor, isCellLst_own, isCellLst_bor, T_eMut, T_eMeth, RP_lst, T_lRep, gL_eq, T_sParLL, T_sParVL, RG_int, T_lRange1, T_inK, T_eInK, T_eNinK, dictD_own, keyD_int, T_lDict, TO_nx, TO_val, TO_own, T0_bor, O_mkP, O_mkB, O_some, O_none, O_ite, O_bind, O_map, fAdd_i, fAddI_i, fSub_i, fMul_i, fDiv_i, fMod_i, fShl_i, fAnd_i, fXor_i, fShr_i, fLt_i, fLe_i, fGt_i, fGe_i, fEq_i, fNe_i, fNeg_i, ixN_3_0, ixN_3_1, ixN_3_2, ixN_2_0, ixN_2_1, ixN_1_0, truD_i, truD_b, intD_i, intD_b, absD_i, lenD_l, lenD_t, tupleD_l, tupleD_t, listD_l, listD_t, List.map_cons, List.map_nil, List.length_cons, List.length_nil, List.cons_append, List.nil_append, List.replicate_succ, List.replicate_zero, List.set_cons_zero, List.set_cons_succ, List.getElem?_cons_zero, List.getElem?_cons_succ, Option.getD_some, Option.bind_some, Option.map_some, true_and, and_true, Bool.false_eq_true, Nat.reduceAdd, Nat.reduceSub, Nat.reduceLeDiff, Nat.le_refl, Bool.and_true, Bool.and_self, Bool.not_true, Bool.not_false, if_true, if_false, reduceIte, Nat.zero_add, Nat.sub_self]
  refine O_mono (cells_ok h) ?_
  rintro _ ⟨xs, rfl, hx⟩
  simp only [T_ret, T_eName, TN_val, TN_own, T_oName, TR_some, T_oVal, T_eC, T_eFrz, celD_lst, slotD_val, slotD_own, slotD_bor, rs_d, rs_s, rss_nil, rss_cons, T_op2, T_op2L, T_op1, T_opN, T_opNL, T_eBin, T_lBin, T_eUn, T_eFn, T_lFn, T_oNil, T_oCons, T_aNil, T_aCons, T_eTup, T_lLst, TB_bool, T_tOf, T_mTru, br_true, br_false, T_mAnd, T_mOr, T_mNot, T_eAnd, T_eOr, T_eNot, T_eIf, T_lIf, T_eChain, T_eIsi, T_mCall, T_mCallK, CB_own, CB_bor, T_mCallB, T_mCallT, TSV_val, TSV_own, T_eSV, TSL_own, T_lSV, sq_nx, sq_rt, sq_bk, sq_ct, T_sSeq, T_sSkip, T_sExpr, T_sRetV, T_sRetL, T_sRetS, T_sRetN, TRN_val, TRN_own, T_sRetName, T_sIf, T_sSetV, T_sSetL, TSet_val, TSet_own, T_sSetS, L2T_two, L3T_three, T_sPar, T_sPar3, T_sParL, T_sAug, T_sAsg, gN_eq, gT_eq, gsNil_eq, gsCons_eq, IX_own, IX_bor, O_gIx, T_mNoPart, TI_int, T_mPart, TLs_list, TTs_tuple, T_lCut, T_eCut, LO_nil, LO_cons, T_lOr, TAny_list, TAny_tuple, T_iAny, T_iEnumD, TZ_list, TZ_tuple, T_iZipD, TRg1_int, T_iRange1, TRg2_int, T_iRange2, TRg3_int, T_iRange3, lpK_nx, lpK_ct, lpK_bk, lpK_rt, fcK_nx, fcK_ct, fcK_bk, fcK_rt, wlK_nx, wlK_ct, wlK_bk, wlK_rt, wipe_nil, wipe_cons, back_nil, back_cons, noC_nil, noC_cons, noC1_none, noC1_val, T_comp_nil, T_lComp, MX_own, MX_bor, isCellLst_own, isCellLst_bor, T_eMut, T_eMeth, RP_lst, T_lRep, gL_eq, T_sParLL, T_sParVL, RG_int, T_lRange1, T_inK, T_eInK, T_eNinK, dictD_own, keyD_int, T_lDict, TO_nx, TO_val, TO_own, T0_bor, O_mkP, O_mkB, O_some, O_none, O_ite, O_bind, O_map, fAdd_i, fAddI_i, fSub_i, fMul_i, fDiv_i, fMod_i, fShl_i, fAnd_i, fXor_i, fShr_i, fLt_i, fLe_i, fGt_i, fGe_i, fEq_i, fNe_i, fNeg_i, ixN_3_0, ixN_3_1, ixN_3_2, ixN_2_0, ixN_2_1, ixN_1_0, truD_i, truD_b, intD_i, intD_b, absD_i, lenD_l, lenD_t, tupleD_l, tupleD_t, listD_l, listD_t, List.map_cons, List.map_nil, List.length_cons, List.length_nil, List.cons_append, List.nil_append, List.replicate_succ, List.replicate_zero, List.set_cons_zero, List.set_cons_succ, List.getElem?_cons_zero, List.getElem?_cons_succ, Option.getD_some, Option.bind_some, Option.map_some, true_and, and_true, Bool.false_eq_true, Nat.reduceAdd, Nat.reduceSub, Nat.reduceLeDiff, Nat.le_refl, Bool.and_true, Bool.and_self, Bool.not_true, Bool.not_false, if_true, if_false, reduceIte, Nat.zero_add, Nat.sub_self, List.length_map]
  refine ⟨⟨by omega, by omega⟩, by rw [range_len]; omega, ?_⟩
  rw [tb_range]
  refine T_compL (fun i out S => (S = [some (.val (.list (ns.map .int))), some (.own (.lst (xs.map .int))), none] ∨ S = [some (.val (.list (ns.map .int))), some (.val (.list (xs.map .int))), none]) ∧ out = (List.range i).map fun _ => .bool true) ⟨.inl rfl, rfl⟩ ?_ ?_
  · rintro i d hd out S ⟨hS, rfl⟩
    obtain ⟨hk, rfl⟩ := tb_get' hd
    rcases hS with rfl | rfl
    all_goals
      simp only [T_ret, T_eName, TN_val, TN_own, T_oName, TR_some, T_oVal, T_eC, T_eFrz, celD_lst, slotD_val, slotD_own, slotD_bor, rs_d, rs_s, rss_nil, rss_cons, T_op2, T_op2L, T_op1, T_opN, T_opNL, T_eBin, T_lBin, T_eUn, T_eFn, T_lFn, T_oNil, T_oCons, T_aNil, T_aCons, T_eTup, T_lLst, TB_bool, T_tOf, T_mTru, br_true, br_false, T_mAnd, T_mOr, T_mNot, T_eAnd, T_eOr, T_eNot, T_eIf, T_lIf, T_eChain, T_eIsi, T_mCall, T_mCallK, CB_own, CB_bor, T_mCallB, T_mCallT, TSV_val, TSV_own, T_eSV, TSL_own, T_lSV, sq_nx, sq_rt, sq_bk, sq_ct, T_sSeq, T_sSkip, T_sExpr, T_sRetV, T_sRetL, T_sRetS, T_sRetN, TRN_val, TRN_own, T_sRetName, T_sIf, T_sSetV, T_sSetL, TSet_val, TSet_own, T_sSetS, L2T_two, L3T_three, T_sPar, T_sPar3, T_sParL, T_sAug, T_sAsg, gN_eq, gT_eq, gsNil_eq, gsCons_eq, IX_own, IX_bor, O_gIx, T_mNoPart, TI_int, T_mPart, TLs_list, TTs_tuple, T_lCut, T_eCut, LO_nil, LO_cons, T_lOr, TAny_list, TAny_tuple, T_iAny, T_iEnumD, TZ_list, TZ_tuple, T_iZipD, TRg1_int, T_iRange1, TRg2_int, T_iRange2, TRg3_int, T_iRange3, lpK_nx, lpK_ct, lpK_bk, lpK_rt, fcK_nx, fcK_ct, fcK_bk, fcK_rt, wlK_nx, wlK_ct, wlK_bk, wlK_rt, wipe_nil, wipe_cons, back_nil, back_cons, noC_nil, noC_cons, noC1_none, noC1_val, T_comp_nil, T_lComp, MX_own, MX_bor, isCellLst_own, isCellLst_bor, T_eMut, T_eMeth, RP_lst, T_lRep, gL_eq, T_sParLL, T_sParVL, RG_int, T_lRange1, T_inK, T_eInK, T_eNinK, dictD_own, keyD_int, T_lDict, TO_nx, TO_val, TO_own, T0_bor, O_mkP, O_mkB, O_some, O_none, O_ite, O_bind, O_map, fAdd_i, fAddI_i, fSub_i, fMul_i, fDiv_i, fMod_i, fShl_i, fAnd_i, fXor_i, fShr_i, fLt_i, fLe_i, fGt_i, fGe_i, fEq_i, fNe_i, fNeg_i, ixN_3_0, ixN_3_1, ixN_3_2, ixN_2_0, ixN_2_1, ixN_1_0, truD_i, truD_b, intD_i, intD_b, absD_i, lenD_l, lenD_t, tupleD_l, tupleD_t, listD_l, listD_t, List.map_cons, List.map_nil, List.length_cons, List.length_nil, List.cons_append, List.nil_append, List.replicate_succ, List.replicate_zero, List.set_cons_zero, List.set_cons_succ, List.getElem?_cons_zero, List.getElem?_cons_succ, Option.getD_some, Option.bind_some, Option.map_some, true_and, and_true, Bool.false_eq_true, Nat.reduceAdd, Nat.reduceSub, Nat.reduceLeDiff, Nat.le_refl, Bool.and_true, Bool.and_self, Bool.not_true, Bool.not_false, if_true, if_false, reduceIte, Nat.zero_add, Nat.sub_self]
      refine O_mono (box_ok hx hk) ?_
      rintro _ ⟨c, rfl, hc⟩
      simp only [T_ret, T_eName, TN_val, TN_own, T_oName, TR_some, T_oVal, T_eC, T_eFrz, celD_lst, slotD_val, slotD_own, slotD_bor, rs_d, rs_s, rss_nil, rss_cons, T_op2, T_op2L, T_op1, T_opN, T_opNL, T_eBin, T_lBin, T_eUn, T_eFn, T_lFn, T_oNil, T_oCons, T_aNil, T_aCons, T_eTup, T_lLst, TB_bool, T_tOf, T_mTru, br_true, br_false, T_mAnd, T_mOr, T_mNot, T_eAnd, T_eOr, T_eNot, T_eIf, T_lIf, T_eChain, T_eIsi, T_mCall, T_mCallK, CB_own, CB_bor, T_mCallB, T_mCallT, TSV_val, TSV_own, T_eSV, TSL_own, T_lSV, sq_nx, sq_rt, sq_bk, sq_ct, T_sSeq, T_sSkip, T_sExpr, T_sRetV, T_sRetL, T_sRetS, T_sRetN, TRN_val, TRN_own, T_sRetName, T_sIf, T_sSetV, T_sSetL, TSet_val, TSet_own, T_sSetS, L2T_two, L3T_three, T_sPar, T_sPar3, T_sParL, T_sAug, T_sAsg, gN_eq, gT_eq, gsNil_eq, gsCons_eq, IX_own, IX_bor, O_gIx, T_mNoPart, TI_int, T_mPart, TLs_list, TTs_tuple, T_lCut, T_eCut, LO_nil, LO_cons, T_lOr, TAny_list, TAny_tuple, T_iAny, T_iEnumD, TZ_list, TZ_tuple, T_iZipD, TRg1_int, T_iRange1, TRg2_int, T_iRange2, TRg3_int, T_iRange3, lpK_nx, lpK_ct, lpK_bk, lpK_rt, fcK_nx, fcK_ct, fcK_bk, fcK_rt, wlK_nx, wlK_ct, wlK_bk, wlK_rt, wipe_nil, wipe_cons, back_nil, back_cons, noC_nil, noC_cons, noC1_none, noC1_val, T_comp_nil, T_lComp, MX_own, MX_bor, isCellLst_own, isCellLst_bor, T_eMut, T_eMeth, RP_lst, T_lRep, gL_eq, T_sParLL, T_sParVL, RG_int, T_lRange1, T_inK, T_eInK, T_eNinK, dictD_own, keyD_int, T_lDict, TO_nx, TO_val, TO_own, T0_bor, O_mkP, O_mkB, O_some, O_none, O_ite, O_bind, O_map, fAdd_i, fAddI_i, fSub_i, fMul_i, fDiv_i, fMod_i, fShl_i, fAnd_i, fXor_i, fShr_i, fLt_i, fLe_i, fGt_i, fGe_i, fEq_i, fNe_i, fNeg_i, ixN_3_0, ixN_3_1, ixN_3_2, ixN_2_0, ixN_2_1, ixN_1_0, truD_i, truD_b, intD_i, intD_b, absD_i, lenD_l, lenD_t, tupleD_l, tupleD_t, listD_l, listD_t, List.map_cons, List.map_nil, List.length_cons, List.length_nil, List.cons_append, List.nil_append, List.replicate_succ, List.replicate_zero, List.set_cons_zero, List.set_cons_succ, List.getElem?_cons_zero, List.getElem?_cons_succ, Option.getD_some, Option.bind_some, Option.map_some, true_and, and_true, Bool.false_eq_true, Nat.reduceAdd, Nat.reduceSub, Nat.reduceLeDiff, Nat.le_refl, Bool.and_true, Bool.and_self, Bool.not_true, Bool.not_false, if_true, if_false, reduceIte, Nat.zero_add, Nat.sub_self]
      refine O_mono (right_ok hc) ?_
      rintro ⟨_, c'⟩ rfl
      simp only [T_ret, T_eName, TN_val, TN_own, T_oName, TR_some, T_oVal, T_eC, T_eFrz, celD_lst, slotD_val, slotD_own, slotD_bor, rs_d, rs_s, rss_nil, rss_cons, T_op2, T_op2L, T_op1, T_opN, T_opNL, T_eBin, T_lBin, T_eUn, T_eFn, T_lFn, T_oNil, T_oCons, T_aNil, T_aCons, T_eTup, T_lLst, TB_bool, T_tOf, T_mTru, br_true, br_false, T_mAnd, T_mOr, T_mNot, T_eAnd, T_eOr, T_eNot, T_eIf, T_lIf, T_eChain, T_eIsi, T_mCall, T_mCallK, CB_own, CB_bor, T_mCallB, T_mCallT, TSV_val, TSV_own, T_eSV, TSL_own, T_lSV, sq_nx, sq_rt, sq_bk, sq_ct, T_sSeq, T_sSkip, T_sExpr, T_sRetV, T_sRetL, T_sRetS, T_sRetN, TRN_val, TRN_own, T_sRetName, T_sIf, T_sSetV, T_sSetL, TSet_val, TSet_own, T_sSetS, L2T_two, L3T_three, T_sPar, T_sPar3, T_sParL, T_sAug, T_sAsg, gN_eq, gT_eq, gsNil_eq, gsCons_eq, IX_own, IX_bor, O_gIx, T_mNoPart, TI_int, T_mPart, TLs_list, TTs_tuple, T_lCut, T_eCut, LO_nil, LO_cons, T_lOr, TAny_list, TAny_tuple, T_iAny, T_iEnumD, TZ_list, TZ_tuple, T_iZipD, TRg1_int, T_iRange1, TRg2_int, T_iRange2, TRg3_int, T_iRange3, lpK_nx, lpK_ct, lpK_bk, lpK_rt, fcK_nx, fcK_ct, fcK_bk, fcK_rt, wlK_nx, wlK_ct, wlK_bk, wlK_rt, wipe_nil, wipe_cons, back_nil, back_cons, noC_nil, noC_cons, noC1_none, noC1_val, T_comp_nil, T_lComp, MX_own, MX_bor, isCellLst_own, isCellLst_bor, T_eMut, T_eMeth, RP_lst, T_lRep, gL_eq, T_sParLL, T_sParVL, RG_int, T_lRange1, T_inK, T_eInK, T_eNinK, dictD_own, keyD_int, T_lDict, TO_nx, TO_val, TO_own, T0_bor, O_mkP, O_mkB, O_some, O_none, O_ite, O_bind, O_map, fAdd_i, fAddI_i, fSub_i, fMul_i, fDiv_i, fMod_i, fShl_i, fAnd_i, fXor_i, fShr_i, fLt_i, fLe_i, fGt_i, fGe_i, fEq_i, fNe_i, fNeg_i, ixN_3_0, ixN_3_1, ixN_3_2, ixN_2_0, ixN_2_1, ixN_1_0, truD_i, truD_b, intD_i, intD_b, absD_i, lenD_l, lenD_t, tupleD_l, tupleD_t, listD_l, listD_t, List.map_cons, List.map_nil, List.length_cons, List.length_nil, List.cons_append, List.nil_append, List.replicate_succ, List.replicate_zero, List.set_cons_zero, List.set_cons_succ, List.getElem?_cons_zero, List.getElem?_cons_succ, Option.getD_some, Option.bind_some, Option.map_some, true_and, and_true, Bool.false_eq_true, Nat.reduceAdd, Nat.reduceSub, Nat.reduceLeDiff, Nat.le_refl, Bool.and_true, Bool.and_self, Bool.not_true, Bool.not_false, if_true, if_false, reduceIte, Nat.zero_add, Nat.sub_self]
      exact ⟨.inr trivial, by rw [List.range_succ, List.map_append]; rfl⟩
  · rintro out S ⟨hS, rfl⟩
    rw [all_true]
    simp only [T_ret, T_eName, TN_val, TN_own, T_oName, TR_some, T_oVal, T_eC, T_eFrz, celD_lst, slotD_val, slotD_own, slotD_bor, rs_d, rs_s, rss_nil, rss_cons, T_op2, T_op2L, T_op1, T_opN, T_opNL, T_eBin, T_lBin, T_eUn, T_eFn, T_lFn, T_oNil, T_oCons, T_aNil, T_aCons, T_eTup, T_lLst, TB_bool, T_tOf, T_mTru, br_true, br_false, T_mAnd, T_mOr, T_mNot, T_eAnd, T_eOr, T_eNot, T_eIf, T_lIf, T_eChain, T_eIsi, T_mCall, T_mCallK, CB_own, CB_bor, T_mCallB, T_mCallT, TSV_val, TSV_own, T_eSV, TSL_own, T_lSV, sq_nx, sq_rt, sq_bk, sq_ct, T_sSeq, T_sSkip, T_sExpr, T_sRetV, T_sRetL, T_sRetS, T_sRetN, TRN_val, TRN_own, T_sRetName, T_sIf, T_sSetV, T_sSetL, TSet_val, TSet_own, T_sSetS, L2T_two, L3T_three, T_sPar, T_sPar3, T_sParL, T_sAug, T_sAsg, gN_eq, gT_eq, gsNil_eq, gsCons_eq, IX_own, IX_bor, O_gIx, T_mNoPart, TI_int, T_mPart, TLs_list, TTs_tuple, T_lCut, T_eCut, LO_nil, LO_cons, T_lOr, TAny_list, TAny_tuple, T_iAny, T_iEnumD, TZ_list, TZ_tuple, T_iZipD, TRg1_int, T_iRange1, TRg2_int, T_iRange2, TRg3_int, T_iRange3, lpK_nx, lpK_ct, lpK_bk, lpK_rt, fcK_nx, fcK_ct, fcK_bk, fcK_rt, wlK_nx, wlK_ct, wlK_bk, wlK_rt, wipe_nil, wipe_cons, back_nil, back_cons, noC_nil, noC_cons, noC1_none, noC1_val, T_comp_nil, T_lComp, MX_own, MX_bor, isCellLst_own, isCellLst_bor, T_eMut, T_eMeth, RP_lst, T_lRep, gL_eq, T_sParLL, T_sParVL, RG_int, T_lRange1, T_inK, T_eInK, T_eNinK, dictD_own, keyD_int, T_lDict, TO_nx, TO_val, TO_own, T0_bor, O_mkP, O_mkB, O_some, O_none, O_ite, O_bind, O_map, fAdd_i, fAddI_i, fSub_i, fMul_i, fDiv_i, fMod_i, fShl_i, fAnd_i, fXor_i, fShr_i, fLt_i, fLe_i, fGt_i, fGe_i, fEq_i, fNe_i, fNeg_i, ixN_3_0, ixN_3_1, ixN_3_2, ixN_2_0, ixN_2_1, ixN_1_0, truD_i, truD_b, intD_i, intD_b, absD_i, lenD_l, lenD_t, tupleD_l, tupleD_t, listD_l, listD_t, List.map_cons, List.map_nil, List.length_cons, List.length_nil, List.cons_append, List.nil_append, List.replicate_succ, List.replicate_zero, List.set_cons_zero, List.set_cons_succ, List.getElem?_cons_zero, List.getElem?_cons_succ, Option.getD_some, Option.bind_some, Option.map_some, true_and, and_true, Bool.false_eq_true, Nat.reduceAdd, Nat.reduceSub, Nat.reduceLeDiff, Nat.le_refl, Bool.and_true, Bool.and_self, Bool.not_true, Bool.not_false, if_true, if_false, reduceIte, Nat.zero_add, Nat.sub_self]
end Toy

namespace Toy
open PySem PySem.Spec PyProof.Rows L2 PD
structure Facts (K : PySem.W.Frag) (mg : Str → Option Value) : Type where
  _law_cells : FnF K mg "_law_cells" s__law_cells ["script", "most_so"]
  _law_take : FnF K mg "_law_take" s__law_take ["tin", "below_so"]
  _law_odd : FnF K mg "_law_odd" s__law_odd ["number_so"]
  _law_near : FnF K mg "_law_near" s__law_near ["tin", "many_so"]
  sums_in : FnF K mg "sums_in" s_sums_in ["table"]
  tupled : FnF K mg "tupled" s_tupled ["value"]
  is_number : FnF K mg "is_number" s_is_number ["thing"]
  is_within : FnF K mg "is_within" s_is_within ["thing", "least", "most"]
  is_bit : FnF K mg "is_bit" s_is_bit ["thing"]
  length_of : FnF K mg "length_of" s_length_of ["thing"]
  is_full : FnF K mg "is_full" s_is_full ["thing"]
  sure_full : FnF K mg "sure_full" s_sure_full ["value"]
  turned_sums : FnF K mg "turned_sums" s_turned_sums ["table"]
  _law_same : FnF K mg "_law_same" s__law_same ["got", "due"]
  is_straight : FnF K mg "is_straight" s_is_straight ["table"]
  unlike_shifted_in : FnF K mg "unlike_shifted_in" s_unlike_shifted_in ["table"]
  unlike_shifted : FnF K mg "unlike_shifted" s_unlike_shifted ["table"]
  nearest_rows : FnF K mg "nearest_rows" s_nearest_rows ["table"]
  _law_mixed : FnF K mg "_law_mixed" s__law_mixed ["tin", "matter"]
  straight_fails_in : FnF K mg "straight_fails_in" s_straight_fails_in ["table"]
  straight_fails : FnF K mg "straight_fails" s_straight_fails ["table"]
  _law_fails : FnF K mg "_law_fails" s__law_fails ["table_so"]
  _law_pick : FnF K mg "_law_pick" s__law_pick ["tin", "goods_so", "count_so"]
  odd : FnF K mg "odd" s_odd ["number"]
  ones_in : FnF K mg "ones_in" s_ones_in ["table"]
  ascends : FnF K mg "ascends" s_ascends ["row"]
  is_long : FnF K mg "is_long" s_is_long ["thing", "length"]
  is_from : FnF K mg "is_from" s_is_from ["thing", "least"]
  is_told : FnF K mg "is_told" s_is_told ["thing"]
  sure_told_table : FnF K mg "sure_told_table" s_sure_told_table ["value"]
  many_ones : FnF K mg "many_ones" s_many_ones ["table"]
  meetings : FnF K mg "meetings" s_meetings ["table", "shift"]
  triples_in : FnF K mg "triples_in" s_triples_in ["table"]
  line_fails_in : FnF K mg "line_fails_in" s_line_fails_in ["table"]
  line_fails : FnF K mg "line_fails" s_line_fails ["table"]
  _law_right : FnF K mg "_law_right" s__law_right ["tin"]
  _law_box : FnF K mg "_law_box" s__law_box ["script", "k"]
  law : FnF K mg "law" s_law ["script"]
  z_abs : mg "abs" = none
  z_all : mg "all" = none
  z_bool : mg "bool" = none
  z_enumerate : mg "enumerate" = none
  z_int : mg "int" = none
  z_isinstance : mg "isinstance" = none
  z_len : mg "len" = none
  z_list : mg "list" = none
  z_max : mg "max" = none
  z_min : mg "min" = none
  z_range : mg "range" = none
  z_sorted : mg "sorted" = none
  z_str : mg "str" = none
  z_sum : mg "sum" = none
  z_tuple : mg "tuple" = none
  z_zip : mg "zip" = none
  c_MOST_BITS : ∃ t, mg "MOST_BITS" = some (.int 12 t)
  c_MOST_CHANGES : ∃ t, mg "MOST_CHANGES" = some (.int 24 t)
  c_MOST_LONG : ∃ t, mg "MOST_LONG" = some (.int 820 t)
section
variable {P : Program} {w : World} {K : PySem.W.Frag} {mg : Str → Option Value} {base : Heap}
theorem ok__law_cells (T : Facts K mg) : FnOk P w K mg base CX0 1 T._law_cells.a T._law_cells.d ["script", "most_so"] (spP K F__law_cells) := okP T._law_cells.F sc__law_cells (by decide) fun cdv A outer s H E hr =>
    dss_cons (ds_setL (i := 2) sc__law_cells.nd rfl (by first | exact Or.inl rfl | exact Or.inr rfl) (dl_or (dl_callTy call_list_of ad_list (by rfl) T.z_list (by decide +kernel) (dos_cons (do_val (de_frz (dl_cut (on 0) (dp_none) (dp_some (en 1))))) (dos_nil))) (dl_lst (da_cons (de_int) (da_nil)))))
    (dss_cons (ds_for PassesOwn.never rfl (di_enum (by rfl) T.z_enumerate (de_frz (dl_cut (on 0) (dp_some (en 1)) (dp_some (de_int))))) (dg_tup rfl (dgs_cons (dg_name (i := 3) sc__law_cells.nd rfl (by first | exact Or.inl rfl | exact Or.inr rfl)) (dgs_cons (dg_name (i := 4) sc__law_cells.nd rfl (by first | exact Or.inl rfl | exact Or.inr rfl)) (dgs_nil)))) (dss_cons (ds_setV (i := 5) sc__law_cells.nd rfl (by first | exact Or.inl rfl | exact Or.inr rfl) (de_bin op_modN ad_mod (do_val (de_callTy call_int1 ad_int (by rfl) T.z_int (by decide +kernel) (dos_cons (on 3) (dos_nil)))) (on 1)))
    (dss_one (ds_asg (de_bin op_addP ad_add (do_val (de_ix (on 2) (on 5))) (do_val (de_bin op_mul ad_mul (on 4) (do_val (de_bin op_addP ad_add (on 3) (do_val (de_int))))))) (dg_ix (j := 2) (by rfl) (by first | exact Or.inl rfl | exact Or.inr (Or.inl rfl) | exact Or.inr (Or.inr rfl)) (en 5))))))
    (dss_one (ds_retName 2)))
theorem ok__law_take (T : Facts K mg) : FnOk P w K mg base CX0 1 T._law_take.a T._law_take.d ["tin", "below_so"] (spB K F__law_take) := okB T._law_take.F sc__law_take (by decide) fun cdv A outer s H E hr =>
    dss_cons (ds_if (dt_cmp op_gt ad_gt (do_val (de_ix (on 0) (do_val (de_int)))) (do_val (de_int)) (nomark _)) (dss_cons (ds_setV (i := 2) sc__law_take.nd rfl (by first | exact Or.inl rfl | exact Or.inr rfl) (de_bin op_modN ad_mod (do_val (de_callTy call_int1 ad_int (by rfl) T.z_int (by decide +kernel) (dos_cons (do_val (de_ix (on 0) (do_val (de_int)))) (dos_nil)))) (on 1)))
    (dss_cons (ds_asg (de_bin op_fdivN ad_div (do_val (de_ix (on 0) (do_val (de_int)))) (on 1)) (dg_ix (j := 0) (by rfl) (by first | exact Or.inl rfl | exact Or.inr (Or.inl rfl) | exact Or.inr (Or.inr rfl)) (de_int)))
    (dss_one (ds_retName 2)))) (dss_nil))
    (dss_cons (ds_asg (de_bin op_addP ad_add (do_val (de_ix (on 0) (do_val (de_int)))) (do_val (de_int))) (dg_ix (j := 0) (by rfl) (by first | exact Or.inl rfl | exact Or.inr (Or.inl rfl) | exact Or.inr (Or.inr rfl)) (de_int)))
    (dss_cons (ds_setV (i := 3) sc__law_take.nd rfl (by first | exact Or.inl rfl | exact Or.inr rfl) (de_bin op_modN ad_mod (do_val (de_callTy call_int1 ad_int (by rfl) T.z_int (by decide +kernel) (dos_cons (do_val (de_bin op_mul ad_mul (do_val (de_bin op_addP ad_add (do_val (de_ix (on 0) (do_val (de_int)))) (do_val (de_bin op_mul ad_mul (do_val (de_int)) (do_val (de_ix (on 0) (do_val (de_int)))))))) (do_val (de_bin op_addP ad_add (do_val (de_int)) (do_val (de_ix (on 0) (do_val (de_int)))))))) (dos_nil)))) (do_val (de_int))))
    (dss_cons (ds_setV (i := 4) sc__law_take.nd rfl (by first | exact Or.inl rfl | exact Or.inr rfl) (de_bin op_addP ad_add (do_val (de_bin op_modN ad_mod (do_val (de_callTy call_int1 ad_int (by rfl) T.z_int (by decide +kernel) (dos_cons (on 3) (dos_nil)))) (do_val (de_int)))) (do_val (de_int))))
    (dss_cons (ds_setV (i := 5) sc__law_take.nd rfl (by first | exact Or.inl rfl | exact Or.inr rfl) (de_bin op_modN ad_mod (do_val (de_callTy call_int1 ad_int (by rfl) T.z_int (by decide +kernel) (dos_cons (do_val (de_bin op_mul ad_mul (do_val (de_bin op_addP ad_add (do_val (de_bin op_addP ad_add (on 3) (do_val (de_ix (on 0) (do_val (de_int)))))) (do_val (de_bin op_fdivN ad_div (do_val (de_ix (on 0) (do_val (de_int)))) (do_val (de_int)))))) (on 4))) (dos_nil)))) (do_val (de_int))))
    (dss_one (ds_retV (de_bin op_modN ad_mod (do_val (de_callTy call_int1 ad_int (by rfl) T.z_int (by decide +kernel) (dos_cons (do_val (de_bin op_fdivN ad_div (do_val (de_bin op_modN ad_mod (do_val (de_callTy call_int1 ad_int (by rfl) T.z_int (by decide +kernel) (dos_cons (do_val (de_bin op_addP ad_add (do_val (de_bin op_mul ad_mul (on 5) (do_val (de_int)))) (on 3))) (dos_nil)))) (do_val (de_int)))) (do_val (de_int)))) (dos_nil)))) (on 1))))))))
theorem ok__law_odd (T : Facts K mg) : FnOk P w K mg base CX0 1 T._law_odd.a T._law_odd.d ["number_so"] (spP K F__law_odd) := okP T._law_odd.F sc__law_odd (by decide) fun cdv A outer s H E hr =>
    dss_cons (ds_setV (i := 1) sc__law_odd.nd rfl (by first | exact Or.inl rfl | exact Or.inr rfl) (de_int))
    (dss_cons (ds_for PassesOwn.never rfl (di_range1 (by rfl) T.z_range (dos_cons (do_val (de_int)) (dos_nil))) (dg_name (i := 2) sc__law_odd.nd rfl (by first | exact Or.inl rfl | exact Or.inr rfl)) (dss_cons (ds_if (dt_cmp (op_eqP hr.units) ad_eq (on 0) (do_val (de_int)) (nomark _)) (dss_one (ds_break)) (dss_nil))
    (dss_one (ds_par (i := 1) (j := 0) rfl sc__law_odd.nd rfl rfl (by decide) rfl rfl (da_cons (de_bin op_addP ad_add (on 1) (do_val (de_bin op_modN ad_mod (do_val (de_callTy call_int1 ad_int (by rfl) T.z_int (by decide +kernel) (dos_cons (on 0) (dos_nil)))) (do_val (de_int))))) (da_cons (de_bin op_fdivN ad_div (on 0) (do_val (de_int))) (da_nil)))))))
    (dss_one (ds_retV (de_bin op_modN ad_mod (do_val (de_callTy call_int1 ad_int (by rfl) T.z_int (by decide +kernel) (dos_cons (on 1) (dos_nil)))) (do_val (de_int))))))
theorem ok__law_near (T : Facts K mg) : FnOk P w K mg base CX0 2 T._law_near.a T._law_near.d ["tin", "many_so"] (spB K F__law_near) := okB T._law_near.F sc__law_near (by decide) fun cdv A outer s H E hr =>
    dss_cons (ds_asg (de_tup (da_cons (de_bin op_shl ad_shl (do_val (de_int)) (on 1)) (da_cons (de_sv (dsv_callB (ok__law_take T) (hr.mono (by decide)) (by rfl) T._law_take.g T._law_take.F.kp T._law_take.b (dab (by rfl) (by first | exact Or.inl rfl | exact Or.inr (Or.inl rfl) | exact Or.inr (Or.inr rfl)) (da_cons (de_bin op_shl ad_shl (do_val (de_int)) (on 1)) (da_nil))))) (da_nil)))) (dg_tup rfl (dgs_cons (dg_name (i := 2) sc__law_near.nd rfl (by first | exact Or.inl rfl | exact Or.inr rfl)) (dgs_cons (dg_name (i := 3) sc__law_near.nd rfl (by first | exact Or.inl rfl | exact Or.inr rfl)) (dgs_nil)))))
    (dss_cons (ds_setComp (i := 5) (own := [("k", 4)]) rfl sc__law_near.nd rfl rfl (sw_true rfl rfl rfl (by decide +kernel)) (di_range1 (by rfl) T.z_range (dos_cons (on 2) (dos_nil))) (blkOk_by (N := N__law_near) (sc := defScope s__law_near) (by decide +kernel)) (fun _ _ _ _ _ => dg_name (i := 4) sc__law_near.nd rfl (by first | exact Or.inl rfl | exact Or.inr rfl)) (fun _ _ _ _ _ => dts_nil) (fun _ _ _ _ _ => de_sv (dsv_call (ok__law_odd T) (hr.mono (by decide)) (by rfl) T._law_odd.g T._law_odd.F.kp T._law_odd.b (da_cons (de_bin op_and ad_and (on 4) (on 3)) (da_nil)))))
    (dss_cons (ds_if (dt_cmp (op_eqP hr.units) ad_eq (do_val (de_sv (dsv_callB (ok__law_take T) (hr.mono (by decide)) (by rfl) T._law_take.g T._law_take.F.kp T._law_take.b (dab (by rfl) (by first | exact Or.inl rfl | exact Or.inr (Or.inl rfl) | exact Or.inr (Or.inr rfl)) (da_cons (de_int) (da_nil)))))) (do_val (de_int)) (nomark _)) (dss_one (ds_retV (de_callTy call_tuple_of ad_tuple (by rfl) T.z_tuple (by decide +kernel) (dos_cons (do_val (de_frz (dl_comp (own := [("k", 4)]) rfl sc__law_near.nd (di_range1 (by rfl) T.z_range (dos_cons (on 2) (dos_nil))) (blkOk_by (N := N__law_near) (sc := defScope s__law_near) (by decide +kernel)) (fun _ _ _ _ _ => dg_name (i := 4) sc__law_near.nd rfl (by first | exact Or.inl rfl | exact Or.inr rfl)) (fun _ _ _ _ _ => dts_nil) (fun _ _ _ _ _ => de_sv (dsv_callB (ok__law_take T) (hr.mono (by decide)) (by rfl) T._law_take.g T._law_take.F.kp T._law_take.b (dab (by rfl) (by first | exact Or.inl rfl | exact Or.inr (Or.inl rfl) | exact Or.inr (Or.inr rfl)) (da_cons (de_int) (da_nil)))))))) (dos_nil))))) (dss_nil))
    (dss_cons (ds_for PassesOwn.never rfl (di_range1 (by rfl) T.z_range (dos_cons (do_val (de_sv (dsv_callB (ok__law_take T) (hr.mono (by decide)) (by rfl) T._law_take.g T._law_take.F.kp T._law_take.b (dab (by rfl) (by first | exact Or.inl rfl | exact Or.inr (Or.inl rfl) | exact Or.inr (Or.inr rfl)) (da_cons (de_int) (da_nil)))))) (dos_nil))) (dg_name (i := 6) sc__law_near.nd rfl (by first | exact Or.inl rfl | exact Or.inr rfl)) (dss_cons (ds_setS (i := 4) sc__law_near.nd rfl (by first | exact Or.inl rfl | exact Or.inr rfl) (dsv_callB (ok__law_take T) (hr.mono (by decide)) (by rfl) T._law_take.g T._law_take.F.kp T._law_take.b (dab (by rfl) (by first | exact Or.inl rfl | exact Or.inr (Or.inl rfl) | exact Or.inr (Or.inr rfl)) (da_cons (en 2) (da_nil)))))
    (dss_one (ds_asg (de_bin op_sub ad_sub (do_val (de_int)) (do_val (de_ix (on 5) (on 4)))) (dg_ix (j := 5) (by rfl) (by first | exact Or.inl rfl | exact Or.inr (Or.inl rfl) | exact Or.inr (Or.inr rfl)) (en 4))))))
    (dss_one (ds_retV (de_callTy call_tuple_of ad_tuple (by rfl) T.z_tuple (by decide +kernel) (dos_cons (do_val (de_frz (dl_comp (own := [("own", 7)]) rfl sc__law_near.nd (di_any (en 5)) (blkOk_by (N := N__law_near) (sc := defScope s__law_near) (by decide +kernel)) (fun _ _ _ _ _ => dg_name (i := 7) sc__law_near.nd rfl (by first | exact Or.inl rfl | exact Or.inr rfl)) (fun _ _ _ _ _ => dts_nil) (fun _ _ _ _ _ => de_callTy call_int1 ad_int (by rfl) T.z_int (by decide +kernel) (dos_cons (on 7) (dos_nil)))))) (dos_nil))))))))
theorem ok_sums_in (T : Facts K mg) : FnOk P w K mg base CX0 1 T.sums_in.a T.sums_in.d ["table"] (spP K F_sums_in) := okP T.sums_in.F sc_sums_in (by decide) fun cdv A outer s H E hr =>
    dss_cons (ds_parL (i := 1) (j := 2) rfl sc_sums_in.nd rfl rfl (by decide) rfl rfl (dl_comp (own := [("own", 7)]) rfl sc_sums_in.nd (di_any (en 0)) (blkOk_by (N := N_sums_in) (sc := defScope s_sums_in) (by decide +kernel)) (fun _ _ _ _ _ => dg_name (i := 7) sc_sums_in.nd rfl (by first | exact Or.inl rfl | exact Or.inr rfl)) (fun _ _ _ _ _ => dts_nil) (fun _ _ _ _ _ => de_bin op_sub ad_sub (do_val (de_int)) (do_val (de_bin op_mul ad_mul (do_val (de_int)) (on 7))))) (de_int))
    (dss_cons (ds_while PassesOwn.never (dt_cmp op_lt ad_lt (on 2) (do_val (de_callB call_len ad_len (by rfl) T.z_len (by decide +kernel) (dos_cons (on 1) (dos_nil)))) (nomark _)) (dss_cons (ds_for PassesOwn.never rfl (di_range3 (by rfl) T.z_range (dos_cons (do_val (de_int)) (dos_cons (do_val (de_callB call_len ad_len (by rfl) T.z_len (by decide +kernel) (dos_cons (on 1) (dos_nil)))) (dos_cons (do_val (de_bin op_mul ad_mul (do_val (de_int)) (on 2))) (dos_nil))))) (dg_name (i := 3) sc_sums_in.nd rfl (by first | exact Or.inl rfl | exact Or.inr rfl)) (dss_one (ds_for PassesOwn.never rfl (di_range2 (by rfl) T.z_range (dos_cons (on 3) (dos_cons (do_val (de_bin op_addP ad_add (on 3) (on 2))) (dos_nil)))) (dg_name (i := 4) sc_sums_in.nd rfl (by first | exact Or.inl rfl | exact Or.inr rfl)) (dss_cons (ds_par (i := 5) (j := 6) rfl sc_sums_in.nd rfl rfl (by decide) rfl rfl (da_cons (de_ix (on 1) (on 4)) (da_cons (de_ix (on 1) (do_val (de_bin op_addP ad_add (on 4) (on 2)))) (da_nil))))
    (dss_one (ds_asg (de_tup (da_cons (de_bin op_addP ad_add (on 5) (on 6)) (da_cons (de_bin op_sub ad_sub (on 5) (on 6)) (da_nil)))) (dg_tup rfl (dgs_cons (dg_ix (j := 1) (by rfl) (by first | exact Or.inl rfl | exact Or.inr (Or.inl rfl) | exact Or.inr (Or.inr rfl)) (en 4)) (dgs_cons (dg_ix (j := 1) (by rfl) (by first | exact Or.inl rfl | exact Or.inr (Or.inl rfl) | exact Or.inr (Or.inr rfl)) (de_bin op_addP ad_add (on 4) (on 2))) (dgs_nil))))))))))
    (dss_one (ds_aug (i := 2) sc_sums_in.nd rfl (by first | exact Or.inl rfl | exact Or.inr rfl) (do_val (de_int)) iop_mul ad_mul))))
    (dss_one (ds_retName 1)))
theorem okr_tupled (T : Facts K mg) : ∀ n : Nat, FnOk P w K mg base CX0 (0 + n) T.tupled.a T.tupled.d ["value"] (spP K (R_tupled n))
  | 0 => noneP
  | n + 1 =>
    have ih := okr_tupled T n
    okP T.tupled.F sc_tupled (by decide) fun cdv A outer s H E hr =>
    dss_one (ds_retV (de_ifExp (dt_val (de_isi2 (by decide) (by decide) (by rfl) T.z_isinstance (on 0) (by rfl) T.z_list (by decide +kernel) (by rfl) T.z_tuple (by decide +kernel))) (de_callTy call_tuple_of ad_tuple (by rfl) T.z_tuple (by decide +kernel) (dos_cons (do_val (de_frz (dl_comp (own := [("own", 1)]) rfl sc_tupled.nd (di_any (en 0)) (blkOk_by (N := N_tupled) (sc := defScope s_tupled) (by decide +kernel)) (fun _ _ _ _ _ => dg_name (i := 1) sc_tupled.nd rfl (by first | exact Or.inl rfl | exact Or.inr rfl)) (fun _ _ _ _ _ => dts_nil) (fun _ _ _ _ _ => de_sv (dsv_call ih hr (by rfl) T.tupled.g T.tupled.F.kp T.tupled.b (da_cons (en 1) (da_nil))))))) (dos_nil))) (en 0)))
theorem ok_tupled (T : Facts K mg) : FnOk P w K mg base CX0 30 T.tupled.a T.tupled.d ["value"] (spP K F_tupled) := okr_tupled T 30
theorem ok_is_number (T : Facts K mg) : FnOk P w K mg base CX0 1 T.is_number.a T.is_number.d ["thing"] (spP K F_is_number) := okP T.is_number.F sc_is_number (by decide) fun cdv A outer s H E hr =>
    dss_one (ds_retV (de_and (de_isi (by decide) (by rfl) T.z_isinstance (on 0) (by rfl) T.z_int (by decide +kernel)) (de_one (de_not (de_isi (by decide) (by rfl) T.z_isinstance (on 0) (by rfl) T.z_bool (by decide +kernel))))))
theorem ok_is_within (T : Facts K mg) : FnOk P w K mg base CX0 2 T.is_within.a T.is_within.d ["thing", "least", "most"] (spP K F_is_within) := okP T.is_within.F sc_is_within (by decide) fun cdv A outer s H E hr =>
    dss_one (ds_retV (de_and (de_sv (dsv_call (ok_is_number T) (hr.mono (by decide)) (by rfl) T.is_number.g T.is_number.F.kp T.is_number.b (da_cons (en 0) (da_nil)))) (de_one (de_chain op_le op_le ad_le ad_le (on 1) (on 0) (on 2)))))
theorem ok_is_bit (T : Facts K mg) : FnOk P w K mg base CX0 3 T.is_bit.a T.is_bit.d ["thing"] (spP K F_is_bit) := okP T.is_bit.F sc_is_bit (by decide) fun cdv A outer s H E hr =>
    dss_one (ds_retS (dsv_call (ok_is_within T) (hr.mono (by decide)) (by rfl) T.is_within.g T.is_within.F.kp T.is_within.b (da_cons (en 0) (da_cons (de_int) (da_cons (de_int) (da_nil))))))
theorem ok_length_of (T : Facts K mg) : FnOk P w K mg base CX0 4 T.length_of.a T.length_of.d ["thing"] (spP K F_length_of) := okP T.length_of.F sc_length_of (by decide) fun cdv A outer s H E hr =>
    dss_cons (ds_if (PW.pt (dw_or (dt_not (dt_val (de_isi (by decide) (by rfl) T.z_isinstance (on 0) (by rfl) T.z_tuple (by decide +kernel)))) (dw_or1 (dt_not (dt_val (de_callB (cr_all rfl) ad_all (by rfl) T.z_all (by decide +kernel) (dos_cons (do_val (de_frz (dl_comp (own := [("own", 2)]) rfl sc_length_of.nd (di_any (en 0)) (blkOk_by (N := N_length_of) (sc := defScope s_length_of) (by decide +kernel)) (fun _ _ _ _ _ => dg_name (i := 2) sc_length_of.nd rfl (by first | exact Or.inl rfl | exact Or.inr rfl)) (fun _ _ _ _ _ => dts_nil) (fun _ _ _ _ _ => de_sv (dsv_call (ok_is_bit T) (hr.mono (by decide)) (by rfl) T.is_bit.g T.is_bit.F.kp T.is_bit.b (da_cons (en 2) (da_nil))))))) (dos_nil)))))))) (dss_one (ds_retV (de_none))) (dss_nil))
    (dss_cons (ds_setV (i := 1) sc_length_of.nd rfl (by first | exact Or.inl rfl | exact Or.inr rfl) (de_int))
    (dss_cons (ds_while PassesOwn.never (PW.pt (dw_and (dt_cmp op_lt ad_lt (do_val (de_bin op_shl ad_shl (do_val (de_int)) (on 1))) (do_val (de_callB call_len ad_len (by rfl) T.z_len (by decide +kernel) (dos_cons (on 0) (dos_nil)))) (nomark _)) (dw_and1 (dt_cmp op_lt ad_lt (on 1) (do_val (de_globI (by rfl) T.c_MOST_BITS.choose_spec)) (nomark _))))) (dss_one (ds_aug (i := 1) sc_length_of.nd rfl (by first | exact Or.inl rfl | exact Or.inr rfl) (do_val (de_int)) iop_add ad_addI)))
    (dss_one (ds_retV (de_ifExp (dt_cmp (op_eqP hr.units) ad_eq (do_val (de_bin op_shl ad_shl (do_val (de_int)) (on 1))) (do_val (de_callB call_len ad_len (by rfl) T.z_len (by decide +kernel) (dos_cons (on 0) (dos_nil)))) (nomark _)) (en 1) (de_none))))))
theorem ok_is_full (T : Facts K mg) : FnOk P w K mg base CX0 5 T.is_full.a T.is_full.d ["thing"] (spP K F_is_full) := okP T.is_full.F sc_is_full (by decide) fun cdv A outer s H E hr =>
    dss_one (ds_retV (de_cmp op_notN ad_notN (do_val (de_sv (dsv_call (ok_length_of T) (hr.mono (by decide)) (by rfl) T.length_of.g T.length_of.F.kp T.length_of.b (da_cons (en 0) (da_nil))))) (do_val (de_none)) (nomark _)))
theorem ok_sure_full (T : Facts K mg) : FnOk P w K mg base CX0 31 T.sure_full.a T.sure_full.d ["value"] (spP K F_sure_full) := okP T.sure_full.F sc_sure_full (by decide) fun cdv A outer s H E hr =>
    dss_cons (ds_setS (i := 1) sc_sure_full.nd rfl (by first | exact Or.inl rfl | exact Or.inr rfl) (dsv_call (ok_tupled T) (hr.mono (by decide)) (by rfl) T.tupled.g T.tupled.F.kp T.tupled.b (da_cons (en 0) (da_nil))))
    (dss_cons (ds_if (dt_not (dt_val (de_sv (dsv_call (ok_is_full T) (hr.mono (by decide)) (by rfl) T.is_full.g T.is_full.F.kp T.is_full.b (da_cons (en 1) (da_nil)))))) (dss_one (ds_never)) (dss_nil))
    (dss_one (ds_retName 1)))
theorem ok_turned_sums (T : Facts K mg) : FnOk P w K mg base CX0 32 T.turned_sums.a T.turned_sums.d ["table"] (spP K F_turned_sums) := okP T.turned_sums.F sc_turned_sums (by decide) fun cdv A outer s H E hr =>
    dss_one (ds_retS (dsv_call (ok_sums_in T) (hr.mono (by decide)) (by rfl) T.sums_in.g T.sums_in.F.kp T.sums_in.b (da_cons (de_sv (dsv_call (ok_sure_full T) (hr.mono (by decide)) (by rfl) T.sure_full.g T.sure_full.F.kp T.sure_full.b (da_cons (en 0) (da_nil)))) (da_nil))))
theorem okr__law_same (T : Facts K mg) : ∀ n : Nat, FnOk P w K mg base CX0 (0 + n) T._law_same.a T._law_same.d ["got", "due"] (spP K (R__law_same n))
  | 0 => noneP
  | n + 1 =>
    have ih := okr__law_same T n
    okP T._law_same.F sc__law_same (by decide) fun cdv A outer s H E hr =>
    dss_cons (ds_if (dt_val (de_isi2 (by decide) (by decide) (by rfl) T.z_isinstance (on 1) (by rfl) T.z_list (by decide +kernel) (by rfl) T.z_tuple (by decide +kernel))) (dss_cons (ds_if (PW.pt (dw_or (dt_cmp (op_neP hr.units) ad_ne (do_val (de_isi (by decide) (by rfl) T.z_isinstance (on 0) (by rfl) T.z_list (by decide +kernel))) (do_val (de_isi (by decide) (by rfl) T.z_isinstance (on 1) (by rfl) T.z_list (by decide +kernel))) (nomark _)) (dw_or1 (dt_cmp (op_neP hr.units) ad_ne (do_val (de_isi (by decide) (by rfl) T.z_isinstance (on 0) (by rfl) T.z_tuple (by decide +kernel))) (do_val (de_isi (by decide) (by rfl) T.z_isinstance (on 1) (by rfl) T.z_tuple (by decide +kernel))) (nomark _))))) (dss_one (ds_retV (de_bool))) (dss_nil))
    (dss_one (ds_retV (de_and (de_cmp (op_eqP hr.units) ad_eq (do_val (de_callB call_len ad_len (by rfl) T.z_len (by decide +kernel) (dos_cons (on 0) (dos_nil)))) (do_val (de_callB call_len ad_len (by rfl) T.z_len (by decide +kernel) (dos_cons (on 1) (dos_nil)))) (nomark _)) (de_one (de_callB (cr_all rfl) ad_all (by rfl) T.z_all (by decide +kernel) (dos_cons (do_val (de_frz (dl_comp (own := [("mine", 2), ("its", 3)]) rfl sc__law_same.nd (di_zip (by rfl) T.z_zip (en 0) (en 1)) (blkOk_by (N := N__law_same) (sc := defScope s__law_same) (by decide +kernel)) (fun _ _ _ _ _ => dg_tup rfl (dgs_cons (dg_name (i := 2) sc__law_same.nd rfl (by first | exact Or.inl rfl | exact Or.inr rfl)) (dgs_cons (dg_name (i := 3) sc__law_same.nd rfl (by first | exact Or.inl rfl | exact Or.inr rfl)) (dgs_nil)))) (fun _ _ _ _ _ => dts_nil) (fun _ _ _ _ _ => de_sv (dsv_call ih hr (by rfl) T._law_same.g T._law_same.F.kp T._law_same.b (da_cons (en 2) (da_cons (en 3) (da_nil)))))))) (dos_nil)))))))) (dss_nil))
    (dss_cons (ds_if (dt_cmp op_isN ad_isN (on 1) (do_val (de_none)) (nomark _)) (dss_one (ds_retV (de_cmp op_isN ad_isN (on 0) (do_val (de_none)) (nomark _)))) (dss_nil))
    (dss_cons (ds_if (dt_val (de_isi2 (by decide) (by decide) (by rfl) T.z_isinstance (on 1) (by rfl) T.z_bool (by decide +kernel) (by rfl) T.z_str (by decide +kernel))) (dss_one (ds_retV (de_and (de_cmp (op_eqP hr.units) ad_eq (do_val (de_isi (by decide) (by rfl) T.z_isinstance (on 0) (by rfl) T.z_bool (by decide +kernel))) (do_val (de_isi (by decide) (by rfl) T.z_isinstance (on 1) (by rfl) T.z_bool (by decide +kernel))) (nomark _)) (de_and (de_cmp (op_eqP hr.units) ad_eq (do_val (de_isi (by decide) (by rfl) T.z_isinstance (on 0) (by rfl) T.z_str (by decide +kernel))) (do_val (de_isi (by decide) (by rfl) T.z_isinstance (on 1) (by rfl) T.z_str (by decide +kernel))) (nomark _)) (de_one (de_cmp (op_eqP hr.units) ad_eq (on 0) (on 1) (nomark _))))))) (dss_nil))
    (dss_one (ds_retV (de_and (de_isi (by decide) (by rfl) T.z_isinstance (on 0) (by rfl) T.z_int (by decide +kernel)) (de_and (de_not (de_isi (by decide) (by rfl) T.z_isinstance (on 0) (by rfl) T.z_bool (by decide +kernel))) (de_one (de_cmp (op_eqP hr.units) ad_eq (on 0) (on 1) (nomark _)))))))))
theorem ok__law_same (T : Facts K mg) : FnOk P w K mg base CX0 30 T._law_same.a T._law_same.d ["got", "due"] (spP K F__law_same) := okr__law_same T 30
theorem ok_is_straight (T : Facts K mg) : FnOk P w K mg base CX0 32 T.is_straight.a T.is_straight.d ["table"] (spP K F_is_straight) := okP T.is_straight.F sc_is_straight (by decide) fun cdv A outer s H E hr =>
    dss_cons (ds_setS (i := 1) sc_is_straight.nd rfl (by first | exact Or.inl rfl | exact Or.inr rfl) (dsv_call (ok_sure_full T) (hr.mono (by decide)) (by rfl) T.sure_full.g T.sure_full.F.kp T.sure_full.b (da_cons (en 0) (da_nil))))
    (dss_one (ds_retV (de_cmp (op_eqP hr.units) ad_eq (do_val (de_callB (cr_maxP rfl) ad_max (by rfl) T.z_max (by decide +kernel) (dos_cons (do_val (de_sv (dsv_call (ok_sums_in T) (hr.mono (by decide)) (by rfl) T.sums_in.g T.sums_in.F.kp T.sums_in.b (da_cons (en 1) (da_nil))))) (dos_nil)))) (do_val (de_callB call_len ad_len (by rfl) T.z_len (by decide +kernel) (dos_cons (on 1) (dos_nil)))) (nomark _))))
theorem ok_unlike_shifted_in (T : Facts K mg) : FnOk P w K mg base CX0 2 T.unlike_shifted_in.a T.unlike_shifted_in.d ["table"] (spP K F_unlike_shifted_in) := okP T.unlike_shifted_in.F sc_unlike_shifted_in (by decide) fun cdv A outer s H E hr =>
    dss_cons (ds_tupL (i := 1) (j := 2) rfl sc_unlike_shifted_in.nd rfl rfl (by decide) (by first | exact Or.inl rfl | exact Or.inr rfl) (by first | exact Or.inl rfl | exact Or.inr rfl) (by first | exact .inl rfl | exact .inr rfl) (by first | exact .inl rfl | exact .inr rfl) (dl_comp (own := [("own", 8)]) rfl sc_unlike_shifted_in.nd (di_any (de_sv (dsv_call (ok_sums_in T) (hr.mono (by decide)) (by rfl) T.sums_in.g T.sums_in.F.kp T.sums_in.b (da_cons (en 0) (da_nil))))) (blkOk_by (N := N_unlike_shifted_in) (sc := defScope s_unlike_shifted_in) (by decide +kernel)) (fun _ _ _ _ _ => dg_name (i := 8) sc_unlike_shifted_in.nd rfl (by first | exact Or.inl rfl | exact Or.inr rfl)) (fun _ _ _ _ _ => dts_nil) (fun _ _ _ _ _ => de_bin op_mul ad_mul (on 8) (on 8))) (de_callB call_len ad_len (by rfl) T.z_len (by decide +kernel) (dos_cons (on 0) (dos_nil))))
    (dss_cons (ds_setV (i := 3) sc_unlike_shifted_in.nd rfl (by first | exact Or.inl rfl | exact Or.inr rfl) (de_int))
    (dss_cons (ds_while PassesOwn.never (dt_cmp op_lt ad_lt (on 3) (on 2) (nomark _)) (dss_cons (ds_for PassesOwn.never rfl (di_range3 (by rfl) T.z_range (dos_cons (do_val (de_int)) (dos_cons (on 2) (dos_cons (do_val (de_bin op_mul ad_mul (do_val (de_int)) (on 3))) (dos_nil))))) (dg_name (i := 4) sc_unlike_shifted_in.nd rfl (by first | exact Or.inl rfl | exact Or.inr rfl)) (dss_one (ds_for PassesOwn.never rfl (di_range2 (by rfl) T.z_range (dos_cons (on 4) (dos_cons (do_val (de_bin op_addP ad_add (on 4) (on 3))) (dos_nil)))) (dg_name (i := 5) sc_unlike_shifted_in.nd rfl (by first | exact Or.inl rfl | exact Or.inr rfl)) (dss_cons (ds_par (i := 6) (j := 7) rfl sc_unlike_shifted_in.nd rfl rfl (by decide) rfl rfl (da_cons (de_ix (on 1) (on 5)) (da_cons (de_ix (on 1) (do_val (de_bin op_addP ad_add (on 5) (on 3)))) (da_nil))))
    (dss_one (ds_asg (de_tup (da_cons (de_bin op_addP ad_add (on 6) (on 7)) (da_cons (de_bin op_sub ad_sub (on 6) (on 7)) (da_nil)))) (dg_tup rfl (dgs_cons (dg_ix (j := 1) (by rfl) (by first | exact Or.inl rfl | exact Or.inr (Or.inl rfl) | exact Or.inr (Or.inr rfl)) (en 5)) (dgs_cons (dg_ix (j := 1) (by rfl) (by first | exact Or.inl rfl | exact Or.inr (Or.inl rfl) | exact Or.inr (Or.inr rfl)) (de_bin op_addP ad_add (on 5) (on 3))) (dgs_nil))))))))))
    (dss_one (ds_aug (i := 3) sc_unlike_shifted_in.nd rfl (by first | exact Or.inl rfl | exact Or.inr rfl) (do_val (de_int)) iop_mul ad_mul))))
    (dss_one (ds_retL (dl_comp (own := [("own", 8)]) rfl sc_unlike_shifted_in.nd (di_any (en 1)) (blkOk_by (N := N_unlike_shifted_in) (sc := defScope s_unlike_shifted_in) (by decide +kernel)) (fun _ _ _ _ _ => dg_name (i := 8) sc_unlike_shifted_in.nd rfl (by first | exact Or.inl rfl | exact Or.inr rfl)) (fun _ _ _ _ _ => dts_nil) (fun _ _ _ _ _ => de_bin op_fdivN ad_div (do_val (de_bin op_sub ad_sub (on 2) (do_val (de_bin op_fdivN ad_div (on 8) (on 2))))) (do_val (de_int))))))))
theorem ok_unlike_shifted (T : Facts K mg) : FnOk P w K mg base CX0 32 T.unlike_shifted.a T.unlike_shifted.d ["table"] (spP K F_unlike_shifted) := okP T.unlike_shifted.F sc_unlike_shifted (by decide) fun cdv A outer s H E hr =>
    dss_one (ds_retS (dsv_call (ok_unlike_shifted_in T) (hr.mono (by decide)) (by rfl) T.unlike_shifted_in.g T.unlike_shifted_in.F.kp T.unlike_shifted_in.b (da_cons (de_sv (dsv_call (ok_sure_full T) (hr.mono (by decide)) (by rfl) T.sure_full.g T.sure_full.F.kp T.sure_full.b (da_cons (en 0) (da_nil)))) (da_nil))))
theorem ok_nearest_rows (T : Facts K mg) : FnOk P w K mg base CX0 33 T.nearest_rows.a T.nearest_rows.d ["table"] (spP K F_nearest_rows) := okP T.nearest_rows.F sc_nearest_rows (by decide) fun cdv A outer s H E hr =>
    dss_cons (ds_setS (i := 1) sc_nearest_rows.nd rfl (by first | exact Or.inl rfl | exact Or.inr rfl) (dsv_call (ok_turned_sums T) (hr.mono (by decide)) (by rfl) T.turned_sums.g T.turned_sums.F.kp T.turned_sums.b (da_cons (en 0) (da_nil))))
    (dss_cons (ds_setV (i := 2) sc_nearest_rows.nd rfl (by first | exact Or.inl rfl | exact Or.inr rfl) (de_callB (cr_maxP rfl) ad_max (by rfl) T.z_max (by decide +kernel) (dos_cons (on 1) (dos_nil))))
    (dss_one (ds_retL (dl_comp (own := [("row", 3), ("own", 4)]) rfl sc_nearest_rows.nd (di_enum (by rfl) T.z_enumerate (en 1)) (blkOk_by (N := N_nearest_rows) (sc := defScope s_nearest_rows) (by decide +kernel)) (fun _ _ _ _ _ => dg_tup rfl (dgs_cons (dg_name (i := 3) sc_nearest_rows.nd rfl (by first | exact Or.inl rfl | exact Or.inr rfl)) (dgs_cons (dg_name (i := 4) sc_nearest_rows.nd rfl (by first | exact Or.inl rfl | exact Or.inr rfl)) (dgs_nil)))) (fun _ _ _ _ _ => dts_one (dt_cmp (op_eqP hr.units) ad_eq (on 4) (on 2) (nomark _))) (fun _ _ _ _ _ => en 3)))))
theorem okr__law_mixed (T : Facts K mg) : ∀ n : Nat, FnOk P w K mg base CX0 (1 + n) T._law_mixed.a T._law_mixed.d ["tin", "matter"] (spB K (R__law_mixed n))
  | 0 => noneB
  | n + 1 =>
    have ih := okr__law_mixed T n
    okB T._law_mixed.F sc__law_mixed (by decide) fun cdv A outer s H E hr =>
    dss_cons (ds_if (dt_not (dt_val (de_isi2 (by decide) (by decide) (by rfl) T.z_isinstance (on 1) (by rfl) T.z_list (by decide +kernel) (by rfl) T.z_tuple (by decide +kernel)))) (dss_one (ds_retName 1)) (dss_nil))
    (dss_cons (ds_setComp (i := 2) (own := [("bit", 3)]) rfl sc__law_mixed.nd rfl rfl (sw_true rfl rfl rfl (by decide +kernel)) (di_any (en 1)) (blkOk_by (N := N__law_mixed) (sc := defScope s__law_mixed) (by decide +kernel)) (fun _ _ _ _ _ => dg_name (i := 3) sc__law_mixed.nd rfl (by first | exact Or.inl rfl | exact Or.inr rfl)) (fun _ _ _ _ _ => dts_nil) (fun _ _ _ _ _ => de_sv (dsv_callB ih hr (by rfl) T._law_mixed.g T._law_mixed.F.kp T._law_mixed.b (dab (by rfl) (by first | exact Or.inl rfl | exact Or.inr (Or.inl rfl) | exact Or.inr (Or.inr rfl)) (da_cons (en 3) (da_nil))))))
    (dss_one (ds_retV (de_ifExp (dt_cmp (op_eqP hr.units) ad_eq (do_val (de_sv (dsv_callB (ok__law_take T) (hr.mono (Nat.le_trans (by decide : 1 ≤ 1) (Nat.le_add_right _ _))) (by rfl) T._law_take.g T._law_take.F.kp T._law_take.b (dab (by rfl) (by first | exact Or.inl rfl | exact Or.inr (Or.inl rfl) | exact Or.inr (Or.inr rfl)) (da_cons (de_int) (da_nil)))))) (do_val (de_int)) (nomark _)) (en 2) (de_callTy call_tuple_of ad_tuple (by rfl) T.z_tuple (by decide +kernel) (dos_cons (on 2) (dos_nil)))))))
theorem ok__law_mixed (T : Facts K mg) : FnOk P w K mg base CX0 31 T._law_mixed.a T._law_mixed.d ["tin", "matter"] (spB K F__law_mixed) := okr__law_mixed T 30
theorem ok_straight_fails_in (T : Facts K mg) : FnOk P w K mg base CX0 2 T.straight_fails_in.a T.straight_fails_in.d ["table"] (spP K F_straight_fails_in) := okP T.straight_fails_in.F sc_straight_fails_in (by decide) fun cdv A outer s H E hr =>
    dss_cons (ds_setV (i := 1) sc_straight_fails_in.nd rfl (by first | exact Or.inl rfl | exact Or.inr rfl) (de_callB call_len ad_len (by rfl) T.z_len (by decide +kernel) (dos_cons (on 0) (dos_nil))))
    (dss_one (ds_retV (de_bin op_fdivN ad_div (do_val (de_bin op_sub ad_sub (do_val (de_bin op_mul ad_mul (on 1) (on 1))) (do_val (de_bin op_fdivN ad_div (do_val (de_callB (cr_sum rfl) ad_sum (by rfl) T.z_sum (by decide +kernel) (dos_cons (do_val (de_frz (dl_comp (own := [("own", 2)]) rfl sc_straight_fails_in.nd (di_any (de_sv (dsv_call (ok_sums_in T) (hr.mono (by decide)) (by rfl) T.sums_in.g T.sums_in.F.kp T.sums_in.b (da_cons (en 0) (da_nil))))) (blkOk_by (N := N_straight_fails_in) (sc := defScope s_straight_fails_in) (by decide +kernel)) (fun _ _ _ _ _ => dg_name (i := 2) sc_straight_fails_in.nd rfl (by first | exact Or.inl rfl | exact Or.inr rfl)) (fun _ _ _ _ _ => dts_nil) (fun _ _ _ _ _ => de_bin op_mul ad_mul (do_val (de_bin op_mul ad_mul (on 2) (on 2))) (on 2))))) (dos_nil)))) (on 1))))) (do_val (de_int)))))
theorem ok_straight_fails (T : Facts K mg) : FnOk P w K mg base CX0 32 T.straight_fails.a T.straight_fails.d ["table"] (spP K F_straight_fails) := okP T.straight_fails.F sc_straight_fails (by decide) fun cdv A outer s H E hr =>
    dss_one (ds_retS (dsv_call (ok_straight_fails_in T) (hr.mono (by decide)) (by rfl) T.straight_fails_in.g T.straight_fails_in.F.kp T.straight_fails_in.b (da_cons (de_sv (dsv_call (ok_sure_full T) (hr.mono (by decide)) (by rfl) T.sure_full.g T.sure_full.F.kp T.sure_full.b (da_cons (en 0) (da_nil)))) (da_nil))))
theorem ok__law_fails (T : Facts K mg) : FnOk P w K mg base CX0 1 T._law_fails.a T._law_fails.d ["table_so"] (spP K F__law_fails) := okP T._law_fails.F sc__law_fails (by decide) fun cdv A outer s H E hr =>
    dss_cons (ds_setV (i := 1) sc__law_fails.nd rfl (by first | exact Or.inl rfl | exact Or.inr rfl) (de_int))
    (dss_cons (ds_for PassesOwn.never rfl (di_range1 (by rfl) T.z_range (dos_cons (do_val (de_callB call_len ad_len (by rfl) T.z_len (by decide +kernel) (dos_cons (on 0) (dos_nil)))) (dos_nil))) (dg_name (i := 2) sc__law_fails.nd rfl (by first | exact Or.inl rfl | exact Or.inr rfl)) (dss_one (ds_setV (i := 1) sc__law_fails.nd rfl (by first | exact Or.inl rfl | exact Or.inr rfl) (de_bin op_addP ad_add (on 1) (do_val (de_callB call_len ad_len (by rfl) T.z_len (by decide +kernel) (dos_cons (do_val (de_frz (dl_comp (own := [("k", 3)]) rfl sc__law_fails.nd (di_range1 (by rfl) T.z_range (dos_cons (do_val (de_callB call_len ad_len (by rfl) T.z_len (by decide +kernel) (dos_cons (on 0) (dos_nil)))) (dos_nil))) (blkOk_by (N := N__law_fails) (sc := defScope s__law_fails) (by decide +kernel)) (fun _ _ _ _ _ => dg_name (i := 3) sc__law_fails.nd rfl (by first | exact Or.inl rfl | exact Or.inr rfl)) (fun _ _ _ _ _ => dts_one (dt_cmp (op_neP hr.units) ad_ne (do_val (de_bin op_xor ad_xor (do_val (de_ix (on 0) (on 2))) (do_val (de_ix (on 0) (on 3))))) (do_val (de_ix (on 0) (do_val (de_bin op_xor ad_xor (on 2) (on 3))))) (nomark _))) (fun _ _ _ _ _ => en 3)))) (dos_nil))))))))
    (dss_one (ds_retName 1)))
theorem ok__law_pick (T : Facts K mg) : FnOk P w K mg base CX0 2 T._law_pick.a T._law_pick.d ["tin", "goods_so", "count_so"] (spB K F__law_pick) := okB T._law_pick.F sc__law_pick (by decide) fun cdv A outer s H E hr =>
    dss_cons (ds_parLL (i := 3) (j := 4) rfl sc__law_pick.nd rfl rfl (by decide) rfl rfl (dl_callTy call_list_of ad_list (by rfl) T.z_list (by decide +kernel) (dos_cons (on 1) (dos_nil))) (dl_lst (da_nil)))
    (dss_cons (ds_for PassesOwn.never rfl (di_range1 (by rfl) T.z_range (dos_cons (do_val (de_callB (cr_minP rfl) ad_min (by rfl) T.z_min (by decide +kernel) (dos_cons (do_val (de_callTy call_int1 ad_int (by rfl) T.z_int (by decide +kernel) (dos_cons (on 2) (dos_nil)))) (dos_cons (do_val (de_callB call_len ad_len (by rfl) T.z_len (by decide +kernel) (dos_cons (on 3) (dos_nil)))) (dos_nil))))) (dos_nil))) (dg_name (i := 5) sc__law_pick.nd rfl (by first | exact Or.inl rfl | exact Or.inr rfl)) (dss_one (ds_expr (de_mut PySem.F.slot_list_append PySem.F.type_list_append mt_append ad_append (by rfl) (by first | exact Or.inl rfl | exact Or.inr (Or.inl rfl) | exact Or.inr (Or.inr rfl)) (da_cons (de_mut PySem.F.slot_list_pop PySem.F.type_list_pop mt_popAt ad_popAt (by rfl) (by first | exact Or.inl rfl | exact Or.inr (Or.inl rfl) | exact Or.inr (Or.inr rfl)) (da_cons (de_sv (dsv_callB (ok__law_take T) (hr.mono (by decide)) (by rfl) T._law_take.g T._law_take.F.kp T._law_take.b (dab (by rfl) (by first | exact Or.inl rfl | exact Or.inr (Or.inl rfl) | exact Or.inr (Or.inr rfl)) (da_cons (de_callB call_len ad_len (by rfl) T.z_len (by decide +kernel) (dos_cons (on 3) (dos_nil))) (da_nil))))) (da_nil))) (da_nil))))))
    (dss_one (ds_retName 4)))
theorem ok_odd (T : Facts K mg) : FnOk P w K mg base CX0 1 T.odd.a T.odd.d ["number"] (spP K F_odd) := okP T.odd.F sc_odd (by decide) fun cdv A outer s H E hr =>
    dss_cons (ds_setV (i := 1) sc_odd.nd rfl (by first | exact Or.inl rfl | exact Or.inr rfl) (en 0))
    (dss_cons (ds_for PassesOwn.never rfl (di_any (de_tup (da_cons (de_int) (da_cons (de_int) (da_cons (de_int) (da_cons (de_int) (da_cons (de_int) (da_cons (de_int) (da_cons (de_int) (da_cons (de_int) (da_cons (de_int) (da_cons (de_int) (da_nil))))))))))))) (dg_name (i := 2) sc_odd.nd rfl (by first | exact Or.inl rfl | exact Or.inr rfl)) (dss_one (ds_aug (i := 1) sc_odd.nd rfl (by first | exact Or.inl rfl | exact Or.inr rfl) (do_val (de_bin op_shr ad_shr (on 1) (on 2))) iop_xor ad_xor)))
    (dss_one (ds_retV (de_bin op_and ad_and (on 1) (do_val (de_int))))))
theorem ok_ones_in (T : Facts K mg) : FnOk P w K mg base CX0 2 T.ones_in.a T.ones_in.d ["table"] (spP K F_ones_in) := okP T.ones_in.F sc_ones_in (by decide) fun cdv A outer s H E hr =>
    dss_cons (ds_setV (i := 1) sc_ones_in.nd rfl (by first | exact Or.inl rfl | exact Or.inr rfl) (de_ifExp (dt_cmp (op_neP hr.units) ad_ne (do_val (de_ix (on 0) (do_val (de_int)))) (do_val (de_int)) (nomark _)) (de_bin op_shl ad_shl (do_val (de_int)) (do_val (de_bin op_sub ad_sub (do_val (de_ix (on 0) (do_val (de_int)))) (do_val (de_int))))) (de_int)))
    (dss_one (ds_retV (de_bin op_addP ad_add (on 1) (do_val (de_callB (cr_sum rfl) ad_sum (by rfl) T.z_sum (by decide +kernel) (dos_cons (do_val (de_frz (dl_comp (own := [("place", 2)]) rfl sc_ones_in.nd (di_any (de_ix (on 0) (do_val (de_int)))) (blkOk_by (N := N_ones_in) (sc := defScope s_ones_in) (by decide +kernel)) (fun _ _ _ _ _ => dg_name (i := 2) sc_ones_in.nd rfl (by first | exact Or.inl rfl | exact Or.inr rfl)) (fun _ _ _ _ _ => dts_nil) (fun _ _ _ _ _ => de_bin op_sub ad_sub (do_val (de_int)) (do_val (de_bin op_mul ad_mul (do_val (de_int)) (do_val (de_sv (dsv_call (ok_odd T) (hr.mono (by decide)) (by rfl) T.odd.g T.odd.F.kp T.odd.b (da_cons (de_bin op_and ad_and (do_val (de_ix (on 0) (do_val (de_int)))) (on 2)) (da_nil))))))))))) (dos_nil)))))))
theorem ok_ascends (T : Facts K mg) : FnOk P w K mg base CX0 1 T.ascends.a T.ascends.d ["row"] (spP K F_ascends) := okP T.ascends.F sc_ascends (by decide) fun cdv A outer s H E hr =>
    dss_one (ds_retV (de_callB (cr_all rfl) ad_all (by rfl) T.z_all (by decide +kernel) (dos_cons (do_val (de_frz (dl_comp (own := [("k", 1)]) rfl sc_ascends.nd (di_range1 (by rfl) T.z_range (dos_cons (do_val (de_bin op_sub ad_sub (do_val (de_callB call_len ad_len (by rfl) T.z_len (by decide +kernel) (dos_cons (on 0) (dos_nil)))) (do_val (de_int)))) (dos_nil))) (blkOk_by (N := N_ascends) (sc := defScope s_ascends) (by decide +kernel)) (fun _ _ _ _ _ => dg_name (i := 1) sc_ascends.nd rfl (by first | exact Or.inl rfl | exact Or.inr rfl)) (fun _ _ _ _ _ => dts_nil) (fun _ _ _ _ _ => de_cmp op_lt ad_lt (do_val (de_ix (on 0) (on 1))) (do_val (de_ix (on 0) (do_val (de_bin op_addP ad_add (on 1) (do_val (de_int)))))) (nomark _))))) (dos_nil))))
theorem ok_is_long (T : Facts K mg) : FnOk P w K mg base CX0 1 T.is_long.a T.is_long.d ["thing", "length"] (spP K F_is_long) := okP T.is_long.F sc_is_long (by decide) fun cdv A outer s H E hr =>
    dss_one (ds_retV (de_and (de_isi (by decide) (by rfl) T.z_isinstance (on 0) (by rfl) T.z_tuple (by decide +kernel)) (de_one (de_cmp (op_eqP hr.units) ad_eq (do_val (de_callB call_len ad_len (by rfl) T.z_len (by decide +kernel) (dos_cons (on 0) (dos_nil)))) (on 1) (nomark _)))))
theorem ok_is_from (T : Facts K mg) : FnOk P w K mg base CX0 2 T.is_from.a T.is_from.d ["thing", "least"] (spP K F_is_from) := okP T.is_from.F sc_is_from (by decide) fun cdv A outer s H E hr =>
    dss_one (ds_retV (de_and (de_sv (dsv_call (ok_is_number T) (hr.mono (by decide)) (by rfl) T.is_number.g T.is_number.F.kp T.is_number.b (da_cons (en 0) (da_nil)))) (de_one (de_cmp op_ge ad_ge (on 0) (on 1) (nomark _)))))
theorem ok_is_told (T : Facts K mg) : FnOk P w K mg base CX0 3 T.is_told.a T.is_told.d ["thing"] (spP K F_is_told) := okP T.is_told.F sc_is_told (by decide) fun cdv A outer s H E hr =>
    dss_cons (ds_if (PW.pt (dw_or (dt_not (dt_val (de_sv (dsv_call (ok_is_long T) (hr.mono (by decide)) (by rfl) T.is_long.g T.is_long.F.kp T.is_long.b (da_cons (en 0) (da_cons (de_int) (da_nil))))))) (dw_or (dt_not (dt_val (de_sv (dsv_call (ok_is_within T) (hr.mono (by decide)) (by rfl) T.is_within.g T.is_within.F.kp T.is_within.b (da_cons (de_ix (on 0) (do_val (de_int))) (da_cons (de_int) (da_cons (de_globI (by rfl) T.c_MOST_LONG.choose_spec) (da_nil)))))))) (dw_or1 (dt_not (dt_val (de_isi (by decide) (by rfl) T.z_isinstance (do_val (de_ix (on 0) (do_val (de_int)))) (by rfl) T.z_tuple (by decide +kernel)))))))) (dss_one (ds_retV (de_bool))) (dss_nil))
    (dss_cons (ds_asg (en 0) (dg_tup rfl (dgs_cons (dg_name (i := 1) sc_is_told.nd rfl (by first | exact Or.inl rfl | exact Or.inr rfl)) (dgs_cons (dg_name (i := 2) sc_is_told.nd rfl (by first | exact Or.inl rfl | exact Or.inr rfl)) (dgs_cons (dg_name (i := 3) sc_is_told.nd rfl (by first | exact Or.inl rfl | exact Or.inr rfl)) (dgs_nil))))))
    (dss_cons (ds_if (PW.pt (dw_or (dt_not (dt_val (de_sv (dsv_call (ok_is_from T) (hr.mono (by decide)) (by rfl) T.is_from.g T.is_from.F.kp T.is_from.b (da_cons (en 2) (da_cons (de_int) (da_nil))))))) (dw_or (dt_cmp op_ge ad_ge (on 2) (do_val (de_bin op_shl ad_shl (do_val (de_int)) (on 1))) (nomark _)) (dw_or1 (dt_cmp op_gt ad_gt (do_val (de_callB call_len ad_len (by rfl) T.z_len (by decide +kernel) (dos_cons (on 3) (dos_nil)))) (do_val (de_globI (by rfl) T.c_MOST_CHANGES.choose_spec)) (nomark _)))))) (dss_one (ds_retV (de_bool))) (dss_nil))
    (dss_one (ds_retV (de_and (de_callB (cr_all rfl) ad_all (by rfl) T.z_all (by decide +kernel) (dos_cons (do_val (de_frz (dl_comp (own := [("own", 4)]) rfl sc_is_told.nd (di_any (en 3)) (blkOk_by (N := N_is_told) (sc := defScope s_is_told) (by decide +kernel)) (fun _ _ _ _ _ => dg_name (i := 4) sc_is_told.nd rfl (by first | exact Or.inl rfl | exact Or.inr rfl)) (fun _ _ _ _ _ => dts_nil) (fun _ _ _ _ _ => de_and (de_sv (dsv_call (ok_is_from T) (hr.mono (by decide)) (by rfl) T.is_from.g T.is_from.F.kp T.is_from.b (da_cons (en 4) (da_cons (de_int) (da_nil))))) (de_one (de_cmp op_lt ad_lt (on 4) (do_val (de_bin op_shl ad_shl (do_val (de_int)) (on 1))) (nomark _))))))) (dos_nil))) (de_one (de_sv (dsv_call (ok_ascends T) (hr.mono (by decide)) (by rfl) T.ascends.g T.ascends.F.kp T.ascends.b (da_cons (en 3) (da_nil))))))))))
theorem ok_sure_told_table (T : Facts K mg) : FnOk P w K mg base CX0 31 T.sure_told_table.a T.sure_told_table.d ["value"] (spP K F_sure_told_table) := okP T.sure_told_table.F sc_sure_told_table (by decide) fun cdv A outer s H E hr =>
    dss_cons (ds_setS (i := 1) sc_sure_told_table.nd rfl (by first | exact Or.inl rfl | exact Or.inr rfl) (dsv_call (ok_tupled T) (hr.mono (by decide)) (by rfl) T.tupled.g T.tupled.F.kp T.tupled.b (da_cons (en 0) (da_nil))))
    (dss_cons (ds_if (dt_not (dt_val (de_sv (dsv_call (ok_is_told T) (hr.mono (by decide)) (by rfl) T.is_told.g T.is_told.F.kp T.is_told.b (da_cons (en 1) (da_nil)))))) (dss_one (ds_never)) (dss_nil))
    (dss_one (ds_retName 1)))
theorem ok_many_ones (T : Facts K mg) : FnOk P w K mg base CX0 32 T.many_ones.a T.many_ones.d ["table"] (spP K F_many_ones) := okP T.many_ones.F sc_many_ones (by decide) fun cdv A outer s H E hr =>
    dss_one (ds_retS (dsv_call (ok_ones_in T) (hr.mono (by decide)) (by rfl) T.ones_in.g T.ones_in.F.kp T.ones_in.b (da_cons (de_sv (dsv_call (ok_sure_told_table T) (hr.mono (by decide)) (by rfl) T.sure_told_table.g T.sure_told_table.F.kp T.sure_told_table.b (da_cons (en 0) (da_nil)))) (da_nil))))
theorem ok_meetings (T : Facts K mg) : FnOk P w K mg base CX0 1 T.meetings.a T.meetings.d ["table", "shift"] (spP K F_meetings) := okP T.meetings.F sc_meetings (by decide) fun cdv A outer s H E hr =>
    dss_cons (ds_setL (i := 2) sc_meetings.nd rfl (by first | exact Or.inl rfl | exact Or.inr rfl) (dl_dict (own := [("place", 3)]) rfl sc_meetings.nd (di_any (de_ix (on 0) (do_val (de_int)))) (blkOk_by (N := N_meetings) (sc := defScope s_meetings) (by decide +kernel)) (fun _ _ _ _ _ => dg_name (i := 3) sc_meetings.nd rfl (by first | exact Or.inl rfl | exact Or.inr rfl)) (fun _ _ _ _ _ => dts_nil) (fun _ _ _ _ _ => en 3) (fun _ _ _ _ _ => de_bool)))
    (dss_one (ds_retV (de_callB call_len ad_len (by rfl) T.z_len (by decide +kernel) (dos_cons (do_val (de_frz (dl_comp (own := [("place", 3)]) rfl sc_meetings.nd (di_any (de_ix (on 0) (do_val (de_int)))) (blkOk_by (N := N_meetings) (sc := defScope s_meetings) (by decide +kernel)) (fun _ _ _ _ _ => dg_name (i := 3) sc_meetings.nd rfl (by first | exact Or.inl rfl | exact Or.inr rfl)) (fun _ _ _ _ _ => dts_one (dt_inK (by have := hr.units; show _ + 1 < cLine; exact Nat.lt_of_le_of_lt (Nat.add_le_add_left (by decide) _) this) (do_val (de_bin op_xor ad_xor (on 3) (on 1))) (by rfl) (by first | exact Or.inl rfl | exact Or.inr (Or.inl rfl) | exact Or.inr (Or.inr rfl)))) (fun _ _ _ _ _ => en 3)))) (dos_nil)))))
theorem ok_triples_in (T : Facts K mg) : FnOk P w K mg base CX0 2 T.triples_in.a T.triples_in.d ["table"] (spP K F_triples_in) := okP T.triples_in.F sc_triples_in (by decide) fun cdv A outer s H E hr =>
    dss_one (ds_retV (de_callB (cr_sum rfl) ad_sum (by rfl) T.z_sum (by decide +kernel) (dos_cons (do_val (de_frz (dl_comp (own := [("place", 1)]) rfl sc_triples_in.nd (di_any (de_ix (on 0) (do_val (de_int)))) (blkOk_by (N := N_triples_in) (sc := defScope s_triples_in) (by decide +kernel)) (fun _ _ _ _ _ => dg_name (i := 1) sc_triples_in.nd rfl (by first | exact Or.inl rfl | exact Or.inr rfl)) (fun _ _ _ _ _ => dts_nil) (fun _ _ _ _ _ => de_sv (dsv_call (ok_meetings T) (hr.mono (by decide)) (by rfl) T.meetings.g T.meetings.F.kp T.meetings.b (da_cons (en 0) (da_cons (en 1) (da_nil)))))))) (dos_nil))))
theorem ok_line_fails_in (T : Facts K mg) : FnOk P w K mg base CX0 3 T.line_fails_in.a T.line_fails_in.d ["table"] (spP K F_line_fails_in) := okP T.line_fails_in.F sc_line_fails_in (by decide) fun cdv A outer s H E hr =>
    dss_cons (ds_par (i := 1) (j := 2) rfl sc_line_fails_in.nd rfl rfl (by decide) rfl rfl (da_cons (de_bin op_shl ad_shl (do_val (de_int)) (do_val (de_ix (on 0) (do_val (de_int))))) (da_cons (de_callB call_len ad_len (by rfl) T.z_len (by decide +kernel) (dos_cons (do_val (de_ix (on 0) (do_val (de_int)))) (dos_nil))) (da_nil))))
    (dss_one (ds_retV (de_bin op_addP ad_add (do_val (de_bin op_sub ad_sub (do_val (de_bin op_mul ad_mul (do_val (de_bin op_mul ad_mul (do_val (de_int)) (on 2))) (on 1))) (do_val (de_bin op_mul ad_mul (do_val (de_bin op_mul ad_mul (do_val (de_int)) (on 2))) (on 2))))) (do_val (de_bin op_mul ad_mul (do_val (de_int)) (do_val (de_sv (dsv_call (ok_triples_in T) (hr.mono (by decide)) (by rfl) T.triples_in.g T.triples_in.F.kp T.triples_in.b (da_cons (en 0) (da_nil))))))))))
theorem ok_line_fails (T : Facts K mg) : FnOk P w K mg base CX0 32 T.line_fails.a T.line_fails.d ["table"] (spP K F_line_fails) := okP T.line_fails.F sc_line_fails (by decide) fun cdv A outer s H E hr =>
    dss_one (ds_retS (dsv_call (ok_line_fails_in T) (hr.mono (by decide)) (by rfl) T.line_fails_in.g T.line_fails_in.F.kp T.line_fails_in.b (da_cons (de_sv (dsv_call (ok_sure_told_table T) (hr.mono (by decide)) (by rfl) T.sure_told_table.g T.sure_told_table.F.kp T.sure_told_table.b (da_cons (en 0) (da_nil)))) (da_nil))))
theorem ok__law_right (T : Facts K mg) : FnOk P w K mg base CX0 34 T._law_right.a T._law_right.d ["tin"] (spB K F__law_right) := okB T._law_right.F sc__law_right (by decide) fun cdv A outer s H E hr =>
    dss_cons (ds_for PassesOwn.never rfl (di_range1 (by rfl) T.z_range (dos_cons (do_val (de_int)) (dos_nil))) (dg_name (i := 1) sc__law_right.nd rfl (by first | exact Or.inl rfl | exact Or.inr rfl)) (dss_cons (ds_par (i := 2) (j := 3) rfl sc__law_right.nd rfl rfl (by decide) rfl rfl (da_cons (de_sv (dsv_callB (ok__law_take T) (hr.mono (by decide)) (by rfl) T._law_take.g T._law_take.F.kp T._law_take.b (dab (by rfl) (by first | exact Or.inl rfl | exact Or.inr (Or.inl rfl) | exact Or.inr (Or.inr rfl)) (da_cons (de_int) (da_nil))))) (da_cons (de_sv (dsv_callB (ok__law_take T) (hr.mono (by decide)) (by rfl) T._law_take.g T._law_take.F.kp T._law_take.b (dab (by rfl) (by first | exact Or.inl rfl | exact Or.inr (Or.inl rfl) | exact Or.inr (Or.inr rfl)) (da_cons (de_int) (da_nil))))) (da_nil))))
    (dss_cons (ds_asg (de_tup (da_cons (de_sv (dsv_callB (ok__law_near T) (hr.mono (by decide)) (by rfl) T._law_near.g T._law_near.F.kp T._law_near.b (dab (by rfl) (by first | exact Or.inl rfl | exact Or.inr (Or.inl rfl) | exact Or.inr (Or.inr rfl)) (da_cons (en 2) (da_nil))))) (da_cons (de_sv (dsv_callB (ok__law_near T) (hr.mono (by decide)) (by rfl) T._law_near.g T._law_near.F.kp T._law_near.b (dab (by rfl) (by first | exact Or.inl rfl | exact Or.inr (Or.inl rfl) | exact Or.inr (Or.inr rfl)) (da_cons (en 3) (da_nil))))) (da_nil)))) (dg_tup rfl (dgs_cons (dg_name (i := 4) sc__law_right.nd rfl (by first | exact Or.inl rfl | exact Or.inr rfl)) (dgs_cons (dg_name (i := 5) sc__law_right.nd rfl (by first | exact Or.inl rfl | exact Or.inr rfl)) (dgs_nil)))))
    (dss_cons (ds_asg (de_tup (da_cons (de_bin op_shl ad_shl (do_val (de_int)) (on 2)) (da_cons (de_bin op_shl ad_shl (do_val (de_int)) (on 3)) (da_nil)))) (dg_tup rfl (dgs_cons (dg_name (i := 6) sc__law_right.nd rfl (by first | exact Or.inl rfl | exact Or.inr rfl)) (dgs_cons (dg_name (i := 7) sc__law_right.nd rfl (by first | exact Or.inl rfl | exact Or.inr rfl)) (dgs_nil)))))
    (dss_cons (ds_setV (i := 9) sc__law_right.nd rfl (by first | exact Or.inl rfl | exact Or.inr rfl) (de_callTy call_tuple_of ad_tuple (by rfl) T.z_tuple (by decide +kernel) (dos_cons (do_val (de_frz (dl_comp (own := [("k", 8)]) rfl sc__law_right.nd (di_range1 (by rfl) T.z_range (dos_cons (do_val (de_bin op_mul ad_mul (on 6) (on 7))) (dos_nil))) (blkOk_by (N := N__law_right) (sc := defScope s__law_right) (by decide +kernel)) (fun _ _ _ _ _ => dg_name (i := 8) sc__law_right.nd rfl (by first | exact Or.inl rfl | exact Or.inr rfl)) (fun _ _ _ _ _ => dts_nil) (fun _ _ _ _ _ => de_bin op_xor ad_xor (do_val (de_ix (on 4) (do_val (de_bin op_modN ad_mod (on 8) (on 6))))) (do_val (de_ix (on 5) (do_val (de_bin op_fdivN ad_div (on 8) (on 6))))))))) (dos_nil))))
    (dss_cons (ds_asg (de_tup (da_cons (de_sv (dsv_call (ok_turned_sums T) (hr.mono (by decide)) (by rfl) T.turned_sums.g T.turned_sums.F.kp T.turned_sums.b (da_cons (en 4) (da_nil)))) (da_cons (de_sv (dsv_call (ok_turned_sums T) (hr.mono (by decide)) (by rfl) T.turned_sums.g T.turned_sums.F.kp T.turned_sums.b (da_cons (en 5) (da_nil)))) (da_nil)))) (dg_tup rfl (dgs_cons (dg_name (i := 10) sc__law_right.nd rfl (by first | exact Or.inl rfl | exact Or.inr rfl)) (dgs_cons (dg_name (i := 11) sc__law_right.nd rfl (by first | exact Or.inl rfl | exact Or.inr rfl)) (dgs_nil)))))
    (dss_cons (ds_if (dt_not (dt_val (de_sv (dsv_call (ok__law_same T) (hr.mono (by decide)) (by rfl) T._law_same.g T._law_same.F.kp T._law_same.b (da_cons (de_sv (dsv_call (ok_turned_sums T) (hr.mono (by decide)) (by rfl) T.turned_sums.g T.turned_sums.F.kp T.turned_sums.b (da_cons (de_sv (dsv_callB (ok__law_mixed T) (hr.mono (by decide)) (by rfl) T._law_mixed.g T._law_mixed.F.kp T._law_mixed.b (dab (by rfl) (by first | exact Or.inl rfl | exact Or.inr (Or.inl rfl) | exact Or.inr (Or.inr rfl)) (da_cons (en 9) (da_nil))))) (da_nil)))) (da_cons (de_frz (dl_comp (own := [("k", 8)]) rfl sc__law_right.nd (di_range1 (by rfl) T.z_range (dos_cons (do_val (de_bin op_mul ad_mul (on 6) (on 7))) (dos_nil))) (blkOk_by (N := N__law_right) (sc := defScope s__law_right) (by decide +kernel)) (fun _ _ _ _ _ => dg_name (i := 8) sc__law_right.nd rfl (by first | exact Or.inl rfl | exact Or.inr rfl)) (fun _ _ _ _ _ => dts_nil) (fun _ _ _ _ _ => de_bin op_mul ad_mul (do_val (de_ix (on 10) (do_val (de_bin op_modN ad_mod (on 8) (on 6))))) (do_val (de_ix (on 11) (do_val (de_bin op_fdivN ad_div (on 8) (on 6)))))))) (da_nil))))))) (dss_one (ds_retV (de_bool))) (dss_nil))
    (dss_cons (ds_setComp (i := 13) (own := [("own", 12)]) rfl sc__law_right.nd rfl rfl (sw_true rfl rfl rfl (by decide +kernel)) (di_any (de_tup (da_cons (en 4) (da_cons (en 5) (da_cons (en 9) (da_nil)))))) (blkOk_by (N := N__law_right) (sc := defScope s__law_right) (by decide +kernel)) (fun _ _ _ _ _ => dg_name (i := 12) sc__law_right.nd rfl (by first | exact Or.inl rfl | exact Or.inr rfl)) (fun _ _ _ _ _ => dts_nil) (fun _ _ _ _ _ => de_bin op_sub ad_sub (do_val (de_bin op_mul ad_mul (do_val (de_callB call_len ad_len (by rfl) T.z_len (by decide +kernel) (dos_cons (on 12) (dos_nil)))) (do_val (de_callB call_len ad_len (by rfl) T.z_len (by decide +kernel) (dos_cons (on 12) (dos_nil)))))) (do_val (de_bin op_mul ad_mul (do_val (de_int)) (do_val (de_sv (dsv_call (ok_straight_fails T) (hr.mono (by decide)) (by rfl) T.straight_fails.g T.straight_fails.F.kp T.straight_fails.b (da_cons (en 12) (da_nil)))))))))
    (dss_cons (ds_if (dt_not (dt_val (de_sv (dsv_call (ok__law_same T) (hr.mono (by decide)) (by rfl) T._law_same.g T._law_same.F.kp T._law_same.b (da_cons (de_frz (dl_lst (da_cons (de_ix (on 13) (do_val (de_int))) (da_cons (de_sv (dsv_call (ok_straight_fails T) (hr.mono (by decide)) (by rfl) T.straight_fails.g T.straight_fails.F.kp T.straight_fails.b (da_cons (en 9) (da_nil)))) (da_nil))))) (da_cons (de_frz (dl_lst (da_cons (de_bin op_mul ad_mul (do_val (de_ix (on 13) (do_val (de_int)))) (do_val (de_ix (on 13) (do_val (de_int))))) (da_cons (de_sv (dsv_call (ok__law_fails T) (hr.mono (by decide)) (by rfl) T._law_fails.g T._law_fails.F.kp T._law_fails.b (da_cons (en 9) (da_nil)))) (da_nil))))) (da_nil))))))) (dss_one (ds_retV (de_bool))) (dss_nil))
    (dss_cons (ds_if (dt_cmp (op_neP hr.units) ad_ne (do_val (de_sv (dsv_call (ok_is_straight T) (hr.mono (by decide)) (by rfl) T.is_straight.g T.is_straight.F.kp T.is_straight.b (da_cons (en 9) (da_nil))))) (do_val (de_or (de_and (de_sv (dsv_call (ok_is_straight T) (hr.mono (by decide)) (by rfl) T.is_straight.g T.is_straight.F.kp T.is_straight.b (da_cons (en 4) (da_nil)))) (de_one (de_sv (dsv_call (ok_is_straight T) (hr.mono (by decide)) (by rfl) T.is_straight.g T.is_straight.F.kp T.is_straight.b (da_cons (en 5) (da_nil)))))) (de_one (de_cmp (op_eqP hr.units) ad_eq (do_val (de_sv (dsv_call (ok__law_fails T) (hr.mono (by decide)) (by rfl) T._law_fails.g T._law_fails.F.kp T._law_fails.b (da_cons (en 9) (da_nil))))) (do_val (de_int)) (nomark _))))) (nomark _)) (dss_one (ds_retV (de_bool))) (dss_nil))
    (dss_cons (ds_setComp (i := 14) (own := [("own", 12)]) rfl sc__law_right.nd rfl rfl (sw_true rfl rfl rfl (by decide +kernel)) (di_any (de_tup (da_cons (en 4) (da_cons (en 5) (da_cons (en 9) (da_nil)))))) (blkOk_by (N := N__law_right) (sc := defScope s__law_right) (by decide +kernel)) (fun _ _ _ _ _ => dg_name (i := 12) sc__law_right.nd rfl (by first | exact Or.inl rfl | exact Or.inr rfl)) (fun _ _ _ _ _ => dts_nil) (fun _ _ _ _ _ => de_sv (dsv_call (ok_unlike_shifted T) (hr.mono (by decide)) (by rfl) T.unlike_shifted.g T.unlike_shifted.F.kp T.unlike_shifted.b (da_cons (en 12) (da_nil)))))
    (dss_cons (ds_for PassesOwn.never rfl (di_range1 (by rfl) T.z_range (dos_cons (do_val (de_bin op_mul ad_mul (on 6) (on 7))) (dos_nil))) (dg_name (i := 8) sc__law_right.nd rfl (by first | exact Or.inl rfl | exact Or.inr rfl)) (dss_cons (ds_par (i := 15) (j := 16) rfl sc__law_right.nd rfl rfl (by decide) rfl rfl (da_cons (de_ix (do_val (de_ix (on 14) (do_val (de_int)))) (do_val (de_bin op_modN ad_mod (on 8) (on 6)))) (da_cons (de_ix (do_val (de_ix (on 14) (do_val (de_int)))) (do_val (de_bin op_fdivN ad_div (on 8) (on 6)))) (da_nil))))
    (dss_one (ds_if (dt_cmp (op_neP hr.units) ad_ne (do_val (de_ix (do_val (de_ix (on 14) (do_val (de_int)))) (on 8))) (do_val (de_bin op_addP ad_add (do_val (de_bin op_mul ad_mul (on 15) (do_val (de_bin op_sub ad_sub (on 7) (on 16))))) (do_val (de_bin op_mul ad_mul (do_val (de_bin op_sub ad_sub (on 6) (on 15))) (on 16))))) (nomark _)) (dss_one (ds_retV (de_bool))) (dss_nil)))))
    (dss_cons (ds_setV (i := 17) sc__law_right.nd rfl (by first | exact Or.inl rfl | exact Or.inr rfl) (de_callB (cr_maxP rfl) ad_max (by rfl) T.z_max (by decide +kernel) (dos_cons (do_val (de_frz (dl_lst (da_cons (de_bin op_mul ad_mul (do_val (de_callB (cr_maxP rfl) ad_max (by rfl) T.z_max (by decide +kernel) (dos_cons (on 10) (dos_nil)))) (do_val (de_callB (cr_maxP rfl) ad_max (by rfl) T.z_max (by decide +kernel) (dos_cons (on 11) (dos_nil))))) (da_cons (de_bin op_mul ad_mul (do_val (de_callB (cr_minP rfl) ad_min (by rfl) T.z_min (by decide +kernel) (dos_cons (on 10) (dos_nil)))) (do_val (de_callB (cr_maxP rfl) ad_max (by rfl) T.z_max (by decide +kernel) (dos_cons (on 11) (dos_nil))))) (da_cons (de_bin op_mul ad_mul (do_val (de_callB (cr_maxP rfl) ad_max (by rfl) T.z_max (by decide +kernel) (dos_cons (on 10) (dos_nil)))) (do_val (de_callB (cr_minP rfl) ad_min (by rfl) T.z_min (by decide +kernel) (dos_cons (on 11) (dos_nil))))) (da_cons (de_bin op_mul ad_mul (do_val (de_callB (cr_minP rfl) ad_min (by rfl) T.z_min (by decide +kernel) (dos_cons (on 10) (dos_nil)))) (do_val (de_callB (cr_minP rfl) ad_min (by rfl) T.z_min (by decide +kernel) (dos_cons (on 11) (dos_nil))))) (da_nil)))))))) (dos_nil))))
    (dss_cons (ds_setComp (i := 18) (own := [("k", 8)]) rfl sc__law_right.nd rfl rfl (sw_true rfl rfl rfl (by decide +kernel)) (di_range1 (by rfl) T.z_range (dos_cons (do_val (de_bin op_mul ad_mul (on 6) (on 7))) (dos_nil))) (blkOk_by (N := N__law_right) (sc := defScope s__law_right) (by decide +kernel)) (fun _ _ _ _ _ => dg_name (i := 8) sc__law_right.nd rfl (by first | exact Or.inl rfl | exact Or.inr rfl)) (fun _ _ _ _ _ => dts_one (dt_cmp (op_eqP hr.units) ad_eq (do_val (de_bin op_mul ad_mul (do_val (de_ix (on 10) (do_val (de_bin op_modN ad_mod (on 8) (on 6))))) (do_val (de_ix (on 11) (do_val (de_bin op_fdivN ad_div (on 8) (on 6))))))) (on 17) (nomark _))) (fun _ _ _ _ _ => en 8))
    (dss_cons (ds_if (dt_not (dt_val (de_sv (dsv_call (ok__law_same T) (hr.mono (by decide)) (by rfl) T._law_same.g T._law_same.F.kp T._law_same.b (da_cons (de_sv (dsv_call (ok_nearest_rows T) (hr.mono (by decide)) (by rfl) T.nearest_rows.g T.nearest_rows.F.kp T.nearest_rows.b (da_cons (en 9) (da_nil)))) (da_cons (en 18) (da_nil))))))) (dss_one (ds_retV (de_bool))) (dss_nil))
    (dss_cons (ds_setV (i := 19) sc__law_right.nd rfl (by first | exact Or.inl rfl | exact Or.inr rfl) (de_bin op_addP ad_add (do_val (de_int)) (do_val (de_sv (dsv_callB (ok__law_take T) (hr.mono (by decide)) (by rfl) T._law_take.g T._law_take.F.kp T._law_take.b (dab (by rfl) (by first | exact Or.inl rfl | exact Or.inr (Or.inl rfl) | exact Or.inr (Or.inr rfl)) (da_cons (de_int) (da_nil))))))))
    (dss_cons (ds_setV (i := 20) sc__law_right.nd rfl (by first | exact Or.inl rfl | exact Or.inr rfl) (de_tup (da_cons (en 19) (da_cons (de_sv (dsv_callB (ok__law_take T) (hr.mono (by decide)) (by rfl) T._law_take.g T._law_take.F.kp T._law_take.b (dab (by rfl) (by first | exact Or.inl rfl | exact Or.inr (Or.inl rfl) | exact Or.inr (Or.inr rfl)) (da_cons (de_bin op_shl ad_shl (do_val (de_int)) (do_val (de_int))) (da_nil))))) (da_cons (de_callTy call_tuple_of ad_tuple (by rfl) T.z_tuple (by decide +kernel) (dos_cons (do_val (de_frz (dl_callB cr_sortedI ad_sorted (by rfl) T.z_sorted (by decide +kernel) (dos_cons (do_val (de_sv (dsv_callB (ok__law_pick T) (hr.mono (by decide)) (by rfl) T._law_pick.g T._law_pick.F.kp T._law_pick.b (dab (by rfl) (by first | exact Or.inl rfl | exact Or.inr (Or.inl rfl) | exact Or.inr (Or.inr rfl)) (da_cons (de_frz (dl_range1 rfl (by rfl) T.z_list (by rfl) T.z_range (de_int))) (da_cons (de_sv (dsv_callB (ok__law_take T) (hr.mono (by decide)) (by rfl) T._law_take.g T._law_take.F.kp T._law_take.b (dab (by rfl) (by first | exact Or.inl rfl | exact Or.inr (Or.inl rfl) | exact Or.inr (Or.inr rfl)) (da_cons (de_int) (da_nil))))) (da_nil))))))) (dos_nil))))) (dos_nil))) (da_nil))))))
    (dss_cons (ds_setV (i := 21) sc__law_right.nd rfl (by first | exact Or.inl rfl | exact Or.inr rfl) (de_callB call_len ad_len (by rfl) T.z_len (by decide +kernel) (dos_cons (do_val (de_frz (dl_comp (own := [("own", 12)]) rfl sc__law_right.nd (di_any (de_ix (on 20) (do_val (de_int)))) (blkOk_by (N := N__law_right) (sc := defScope s__law_right) (by decide +kernel)) (fun _ _ _ _ _ => dg_name (i := 12) sc__law_right.nd rfl (by first | exact Or.inl rfl | exact Or.inr rfl)) (fun _ _ _ _ _ => dts_one (dt_cmp (op_eqP hr.units) ad_eq (do_val (de_callTy call_int1 ad_int (by rfl) T.z_int (by decide +kernel) (dos_cons (do_val (de_sv (dsv_call (ok__law_odd T) (hr.mono (by decide)) (by rfl) T._law_odd.g T._law_odd.F.kp T._law_odd.b (da_cons (de_bin op_and ad_and (on 12) (do_val (de_ix (on 20) (do_val (de_int))))) (da_nil))))) (dos_nil)))) (do_val (de_int)) (nomark _))) (fun _ _ _ _ _ => en 12)))) (dos_nil))))
    (dss_cons (ds_setV (i := 22) sc__law_right.nd rfl (by first | exact Or.inl rfl | exact Or.inr rfl) (de_bin op_addP ad_add (do_val (de_bin op_sub ad_sub (do_val (de_ifExp (dt_cmp op_gt ad_gt (do_val (de_ix (on 20) (do_val (de_int)))) (do_val (de_int)) (nomark _)) (de_bin op_shl ad_shl (do_val (de_int)) (do_val (de_bin op_sub ad_sub (on 19) (do_val (de_int))))) (de_int))) (on 21))) (do_val (de_bin op_sub ad_sub (do_val (de_callB call_len ad_len (by rfl) T.z_len (by decide +kernel) (dos_cons (do_val (de_ix (on 20) (do_val (de_int)))) (dos_nil)))) (on 21)))))
    (dss_cons (ds_setV (i := 23) sc__law_right.nd rfl (by first | exact Or.inl rfl | exact Or.inr rfl) (de_int))
    (dss_cons (ds_for PassesOwn.never rfl (di_any (de_ix (on 20) (do_val (de_int)))) (dg_name (i := 12) sc__law_right.nd rfl (by first | exact Or.inl rfl | exact Or.inr rfl)) (dss_one (ds_setV (i := 23) sc__law_right.nd rfl (by first | exact Or.inl rfl | exact Or.inr rfl) (de_bin op_addP ad_add (on 23) (do_val (de_callB call_len ad_len (by rfl) T.z_len (by decide +kernel) (dos_cons (do_val (de_frz (dl_comp (own := [("its", 24)]) rfl sc__law_right.nd (di_any (de_ix (on 20) (do_val (de_int)))) (blkOk_by (N := N__law_right) (sc := defScope s__law_right) (by decide +kernel)) (fun _ _ _ _ _ => dg_name (i := 24) sc__law_right.nd rfl (by first | exact Or.inl rfl | exact Or.inr rfl)) (fun _ _ _ _ _ => dts_one (dt_cmp op_in_seq ad_in (do_val (de_bin op_xor ad_xor (on 12) (on 24))) (do_val (de_ix (on 20) (do_val (de_int)))) (by rfl))) (fun _ _ _ _ _ => en 24)))) (dos_nil))))))))
    (dss_one (ds_if (dt_not (dt_val (de_sv (dsv_call (ok__law_same T) (hr.mono (by decide)) (by rfl) T._law_same.g T._law_same.F.kp T._law_same.b (da_cons (de_frz (dl_lst (da_cons (de_sv (dsv_call (ok_many_ones T) (hr.mono (by decide)) (by rfl) T.many_ones.g T.many_ones.F.kp T.many_ones.b (da_cons (en 20) (da_nil)))) (da_cons (de_sv (dsv_call (ok_line_fails T) (hr.mono (by decide)) (by rfl) T.line_fails.g T.line_fails.F.kp T.line_fails.b (da_cons (en 20) (da_nil)))) (da_nil))))) (da_cons (de_frz (dl_lst (da_cons (en 22) (da_cons (de_bin op_addP ad_add (do_val (de_bin op_sub ad_sub (do_val (de_bin op_mul ad_mul (do_val (de_bin op_mul ad_mul (do_val (de_int)) (do_val (de_callB call_len ad_len (by rfl) T.z_len (by decide +kernel) (dos_cons (do_val (de_ix (on 20) (do_val (de_int)))) (dos_nil)))))) (do_val (de_bin op_shl ad_shl (do_val (de_int)) (on 19))))) (do_val (de_bin op_mul ad_mul (do_val (de_bin op_mul ad_mul (do_val (de_int)) (do_val (de_callB call_len ad_len (by rfl) T.z_len (by decide +kernel) (dos_cons (do_val (de_ix (on 20) (do_val (de_int)))) (dos_nil)))))) (do_val (de_callB call_len ad_len (by rfl) T.z_len (by decide +kernel) (dos_cons (do_val (de_ix (on 20) (do_val (de_int)))) (dos_nil)))))))) (do_val (de_bin op_mul ad_mul (do_val (de_int)) (on 23)))) (da_nil))))) (da_nil))))))) (dss_one (ds_retV (de_bool))) (dss_nil))))))))))))))))))))))))
    (dss_one (ds_retV (de_bool)))
theorem ok__law_box (T : Facts K mg) : FnOk P w K mg base CX0 1 T._law_box.a T._law_box.d ["script", "k"] (spP K F__law_box) := okP T._law_box.F sc__law_box (by decide) fun cdv A outer s H E hr =>
    dss_cons (ds_setV (i := 2) sc__law_box.nd rfl (by first | exact Or.inl rfl | exact Or.inr rfl) (de_ifExp (dt_cmp op_lt ad_lt (on 1) (do_val (de_callB call_len ad_len (by rfl) T.z_len (by decide +kernel) (dos_cons (on 0) (dos_nil)))) (nomark _)) (de_ix (on 0) (on 1)) (de_int)))
    (dss_one (ds_retL (dl_lst (da_cons (de_bin op_mul ad_mul (do_val (de_callB call_abs ad_abs (by rfl) T.z_abs (by decide +kernel) (dos_cons (on 2) (dos_nil)))) (do_val (de_callTy call_int1 ad_int (by rfl) T.z_int (by decide +kernel) (dos_cons (do_val (de_cmp op_ge ad_ge (do_val (de_callB call_abs ad_abs (by rfl) T.z_abs (by decide +kernel) (dos_cons (on 2) (dos_nil)))) (do_val (de_bin op_pow ad_pow (do_val (de_int)) (do_val (de_int)))) (nomark _))) (dos_nil))))) (da_cons (de_bin op_addP ad_add (do_val (de_bin op_addP ad_add (do_val (de_bin op_modN ad_mod (do_val (de_callTy call_int1 ad_int (by rfl) T.z_int (by decide +kernel) (dos_cons (on 2) (dos_nil)))) (do_val (de_int)))) (do_val (de_bin op_mul ad_mul (do_val (de_int)) (on 1))))) (do_val (de_int))) (da_cons (de_int) (da_nil)))))))
theorem ok_law (T : Facts K mg) : FnOk P w K mg base CX0 35 T.law.a T.law.d ["script"] (spP K F_law) := okP T.law.F sc_law (by decide) fun cdv A outer s H E hr =>
    dss_cons (ds_setS (i := 1) sc_law.nd rfl (by first | exact Or.inl rfl | exact Or.inr rfl) (dsv_call (ok__law_cells T) (hr.mono (by decide)) (by rfl) T._law_cells.g T._law_cells.F.kp T._law_cells.b (da_cons (en 0) (da_cons (de_int) (da_nil)))))
    (dss_one (ds_retV (de_callB (cr_all rfl) ad_all (by rfl) T.z_all (by decide +kernel) (dos_cons (do_val (de_frz (dl_comp (own := [("k", 2)]) rfl sc_law.nd (di_range1 (by rfl) T.z_range (dos_cons (do_val (de_callB call_len ad_len (by rfl) T.z_len (by decide +kernel) (dos_cons (on 1) (dos_nil)))) (dos_nil))) (blkOk_by (N := N_law) (sc := defScope s_law) (by decide +kernel)) (fun _ _ _ _ _ => dg_name (i := 2) sc_law.nd rfl (by first | exact Or.inl rfl | exact Or.inr rfl)) (fun _ _ _ _ _ => dts_nil) (fun _ _ _ _ _ => de_sv (dsv_callT (ok__law_right T) (hr.mono (by decide)) (by rfl) T._law_right.g T._law_right.F.kp T._law_right.b (dl_sv (dsv_call (ok__law_box T) (hr.mono (by decide)) (by rfl) T._law_box.g T._law_box.F.kp T._law_box.b (da_cons (en 1) (da_cons (en 2) (da_nil)))))))))) (dos_nil)))))
end
end Toy

namespace Toy
open PySem PySem.Spec PyProof.Rows L2 PD
def spLaw (K : PySem.W.Frag) : Sp := spP K F_law
theorem all_mk {l : PySem.W.OpenLaw} {w : World} {K : PySem.W.Frag} {h : Heap} {mg : Str → Option Value} {fa : Addr} (X : K.In h) (G : h.Ns mainGlobals mg) (hfa : mg "law" = some (.ref fa))
    {f0 : Addr} {od0 an0 : Option Addr} {sl0 : Array (Option Value)} {oc0 kV0 dc0 pm0 cd0 ct0 : Value}
    {f1 : Addr} {od1 an1 : Option Addr} {sl1 : Array (Option Value)} {oc1 kV1 dc1 pm1 cd1 ct1 : Value}
    {f2 : Addr} {od2 an2 : Option Addr} {sl2 : Array (Option Value)} {oc2 kV2 dc2 pm2 cd2 ct2 : Value}
    {f3 : Addr} {od3 an3 : Option Addr} {sl3 : Array (Option Value)} {oc3 kV3 dc3 pm3 cd3 ct3 : Value}
    {f4 : Addr} {od4 an4 : Option Addr} {sl4 : Array (Option Value)} {oc4 kV4 dc4 pm4 cd4 ct4 : Value}
    {f5 : Addr} {od5 an5 : Option Addr} {sl5 : Array (Option Value)} {oc5 kV5 dc5 pm5 cd5 ct5 : Value}
    {f6 : Addr} {od6 an6 : Option Addr} {sl6 : Array (Option Value)} {oc6 kV6 dc6 pm6 cd6 ct6 : Value}
    {f7 : Addr} {od7 an7 : Option Addr} {sl7 : Array (Option Value)} {oc7 kV7 dc7 pm7 cd7 ct7 : Value}
    {f8 : Addr} {od8 an8 : Option Addr} {sl8 : Array (Option Value)} {oc8 kV8 dc8 pm8 cd8 ct8 : Value}
    {f9 : Addr} {od9 an9 : Option Addr} {sl9 : Array (Option Value)} {oc9 kV9 dc9 pm9 cd9 ct9 : Value}
    {f10 : Addr} {od10 an10 : Option Addr} {sl10 : Array (Option Value)} {oc10 kV10 dc10 pm10 cd10 ct10 : Value}
    {f11 : Addr} {od11 an11 : Option Addr} {sl11 : Array (Option Value)} {oc11 kV11 dc11 pm11 cd11 ct11 : Value}
    {f12 : Addr} {od12 an12 : Option Addr} {sl12 : Array (Option Value)} {oc12 kV12 dc12 pm12 cd12 ct12 : Value}
    {f13 : Addr} {od13 an13 : Option Addr} {sl13 : Array (Option Value)} {oc13 kV13 dc13 pm13 cd13 ct13 : Value}
    {f14 : Addr} {od14 an14 : Option Addr} {sl14 : Array (Option Value)} {oc14 kV14 dc14 pm14 cd14 ct14 : Value}
    {f15 : Addr} {od15 an15 : Option Addr} {sl15 : Array (Option Value)} {oc15 kV15 dc15 pm15 cd15 ct15 : Value}
    {f16 : Addr} {od16 an16 : Option Addr} {sl16 : Array (Option Value)} {oc16 kV16 dc16 pm16 cd16 ct16 : Value}
    {f17 : Addr} {od17 an17 : Option Addr} {sl17 : Array (Option Value)} {oc17 kV17 dc17 pm17 cd17 ct17 : Value}
    {f18 : Addr} {od18 an18 : Option Addr} {sl18 : Array (Option Value)} {oc18 kV18 dc18 pm18 cd18 ct18 : Value}
    {f19 : Addr} {od19 an19 : Option Addr} {sl19 : Array (Option Value)} {oc19 kV19 dc19 pm19 cd19 ct19 : Value}
    {f20 : Addr} {od20 an20 : Option Addr} {sl20 : Array (Option Value)} {oc20 kV20 dc20 pm20 cd20 ct20 : Value}
    {f21 : Addr} {od21 an21 : Option Addr} {sl21 : Array (Option Value)} {oc21 kV21 dc21 pm21 cd21 ct21 : Value}
    {f22 : Addr} {od22 an22 : Option Addr} {sl22 : Array (Option Value)} {oc22 kV22 dc22 pm22 cd22 ct22 : Value}
    {f23 : Addr} {od23 an23 : Option Addr} {sl23 : Array (Option Value)} {oc23 kV23 dc23 pm23 cd23 ct23 : Value}
    {f24 : Addr} {od24 an24 : Option Addr} {sl24 : Array (Option Value)} {oc24 kV24 dc24 pm24 cd24 ct24 : Value}
    {f25 : Addr} {od25 an25 : Option Addr} {sl25 : Array (Option Value)} {oc25 kV25 dc25 pm25 cd25 ct25 : Value}
    {f26 : Addr} {od26 an26 : Option Addr} {sl26 : Array (Option Value)} {oc26 kV26 dc26 pm26 cd26 ct26 : Value}
    {f27 : Addr} {od27 an27 : Option Addr} {sl27 : Array (Option Value)} {oc27 kV27 dc27 pm27 cd27 ct27 : Value}
    {f28 : Addr} {od28 an28 : Option Addr} {sl28 : Array (Option Value)} {oc28 kV28 dc28 pm28 cd28 ct28 : Value}
    {f29 : Addr} {od29 an29 : Option Addr} {sl29 : Array (Option Value)} {oc29 kV29 dc29 pm29 cd29 ct29 : Value}
    {f30 : Addr} {od30 an30 : Option Addr} {sl30 : Array (Option Value)} {oc30 kV30 dc30 pm30 cd30 ct30 : Value}
    {f31 : Addr} {od31 an31 : Option Addr} {sl31 : Array (Option Value)} {oc31 kV31 dc31 pm31 cd31 ct31 : Value}
    {f32 : Addr} {od32 an32 : Option Addr} {sl32 : Array (Option Value)} {oc32 kV32 dc32 pm32 cd32 ct32 : Value}
    {f33 : Addr} {od33 an33 : Option Addr} {sl33 : Array (Option Value)} {oc33 kV33 dc33 pm33 cd33 ct33 : Value}
    {f34 : Addr} {od34 an34 : Option Addr} {sl34 : Array (Option Value)} {oc34 kV34 dc34 pm34 cd34 ct34 : Value}
    {f35 : Addr} {od35 an35 : Option Addr} {sl35 : Array (Option Value)} {oc35 kV35 dc35 pm35 cd35 ct35 : Value}
    {f36 : Addr} {od36 an36 : Option Addr} {sl36 : Array (Option Value)} {oc36 kV36 dc36 pm36 cd36 ct36 : Value}
    {f37 : Addr} {od37 an37 : Option Addr} {sl37 : Array (Option Value)} {oc37 kV37 dc37 pm37 cd37 ct37 : Value}
    (a0 : PySem.W.nsIn K mainGlobals "_law_cells" = some (some (.ref f0))) (l0 : K.lookup f0 = some ⟨oc0, od0, .func (PySem.W.fnOf "_law_cells" "_law_cells" (defArgs s__law_cells) (defBody s__law_cells) (defScope s__law_cells) .none kV0 dc0 pm0 an0 cd0 ct0), sl0⟩) (c0 : PySem.W.codeIn K cd0 "_law_cells" = true) (k0 : PySem.W.keepIn K (.ref f0) = true)
    (a1 : PySem.W.nsIn K mainGlobals "_law_take" = some (some (.ref f1))) (l1 : K.lookup f1 = some ⟨oc1, od1, .func (PySem.W.fnOf "_law_take" "_law_take" (defArgs s__law_take) (defBody s__law_take) (defScope s__law_take) .none kV1 dc1 pm1 an1 cd1 ct1), sl1⟩) (c1 : PySem.W.codeIn K cd1 "_law_take" = true) (k1 : PySem.W.keepIn K (.ref f1) = true)
    (a2 : PySem.W.nsIn K mainGlobals "_law_odd" = some (some (.ref f2))) (l2 : K.lookup f2 = some ⟨oc2, od2, .func (PySem.W.fnOf "_law_odd" "_law_odd" (defArgs s__law_odd) (defBody s__law_odd) (defScope s__law_odd) .none kV2 dc2 pm2 an2 cd2 ct2), sl2⟩) (c2 : PySem.W.codeIn K cd2 "_law_odd" = true) (k2 : PySem.W.keepIn K (.ref f2) = true)
    (a3 : PySem.W.nsIn K mainGlobals "_law_near" = some (some (.ref f3))) (l3 : K.lookup f3 = some ⟨oc3, od3, .func (PySem.W.fnOf "_law_near" "_law_near" (defArgs s__law_near) (defBody s__law_near) (defScope s__law_near) .none kV3 dc3 pm3 an3 cd3 ct3), sl3⟩) (c3 : PySem.W.codeIn K cd3 "_law_near" = true) (k3 : PySem.W.keepIn K (.ref f3) = true)
    (a4 : PySem.W.nsIn K mainGlobals "sums_in" = some (some (.ref f4))) (l4 : K.lookup f4 = some ⟨oc4, od4, .func (PySem.W.fnOf "sums_in" "sums_in" (defArgs s_sums_in) (defBody s_sums_in) (defScope s_sums_in) .none kV4 dc4 pm4 an4 cd4 ct4), sl4⟩) (c4 : PySem.W.codeIn K cd4 "sums_in" = true) (k4 : PySem.W.keepIn K (.ref f4) = true)
    (a5 : PySem.W.nsIn K mainGlobals "tupled" = some (some (.ref f5))) (l5 : K.lookup f5 = some ⟨oc5, od5, .func (PySem.W.fnOf "tupled" "tupled" (defArgs s_tupled) (defBody s_tupled) (defScope s_tupled) .none kV5 dc5 pm5 an5 cd5 ct5), sl5⟩) (c5 : PySem.W.codeIn K cd5 "tupled" = true) (k5 : PySem.W.keepIn K (.ref f5) = true)
    (a6 : PySem.W.nsIn K mainGlobals "is_number" = some (some (.ref f6))) (l6 : K.lookup f6 = some ⟨oc6, od6, .func (PySem.W.fnOf "is_number" "is_number" (defArgs s_is_number) (defBody s_is_number) (defScope s_is_number) .none kV6 dc6 pm6 an6 cd6 ct6), sl6⟩) (c6 : PySem.W.codeIn K cd6 "is_number" = true) (k6 : PySem.W.keepIn K (.ref f6) = true)
    (a7 : PySem.W.nsIn K mainGlobals "is_within" = some (some (.ref f7))) (l7 : K.lookup f7 = some ⟨oc7, od7, .func (PySem.W.fnOf "is_within" "is_within" (defArgs s_is_within) (defBody s_is_within) (defScope s_is_within) .none kV7 dc7 pm7 an7 cd7 ct7), sl7⟩) (c7 : PySem.W.codeIn K cd7 "is_within" = true) (k7 : PySem.W.keepIn K (.ref f7) = true)
    (a8 : PySem.W.nsIn K mainGlobals "is_bit" = some (some (.ref f8))) (l8 : K.lookup f8 = some ⟨oc8, od8, .func (PySem.W.fnOf "is_bit" "is_bit" (defArgs s_is_bit) (defBody s_is_bit) (defScope s_is_bit) .none kV8 dc8 pm8 an8 cd8 ct8), sl8⟩) (c8 : PySem.W.codeIn K cd8 "is_bit" = true) (k8 : PySem.W.keepIn K (.ref f8) = true)
    (a9 : PySem.W.nsIn K mainGlobals "length_of" = some (some (.ref f9))) (l9 : K.lookup f9 = some ⟨oc9, od9, .func (PySem.W.fnOf "length_of" "length_of" (defArgs s_length_of) (defBody s_length_of) (defScope s_length_of) .none kV9 dc9 pm9 an9 cd9 ct9), sl9⟩) (c9 : PySem.W.codeIn K cd9 "length_of" = true) (k9 : PySem.W.keepIn K (.ref f9) = true)
    (a10 : PySem.W.nsIn K mainGlobals "is_full" = some (some (.ref f10))) (l10 : K.lookup f10 = some ⟨oc10, od10, .func (PySem.W.fnOf "is_full" "is_full" (defArgs s_is_full) (defBody s_is_full) (defScope s_is_full) .none kV10 dc10 pm10 an10 cd10 ct10), sl10⟩) (c10 : PySem.W.codeIn K cd10 "is_full" = true) (k10 : PySem.W.keepIn K (.ref f10) = true)
    (a11 : PySem.W.nsIn K mainGlobals "sure_full" = some (some (.ref f11))) (l11 : K.lookup f11 = some ⟨oc11, od11, .func (PySem.W.fnOf "sure_full" "sure_full" (defArgs s_sure_full) (defBody s_sure_full) (defScope s_sure_full) .none kV11 dc11 pm11 an11 cd11 ct11), sl11⟩) (c11 : PySem.W.codeIn K cd11 "sure_full" = true) (k11 : PySem.W.keepIn K (.ref f11) = true)
    (a12 : PySem.W.nsIn K mainGlobals "turned_sums" = some (some (.ref f12))) (l12 : K.lookup f12 = some ⟨oc12, od12, .func (PySem.W.fnOf "turned_sums" "turned_sums" (defArgs s_turned_sums) (defBody s_turned_sums) (defScope s_turned_sums) .none kV12 dc12 pm12 an12 cd12 ct12), sl12⟩) (c12 : PySem.W.codeIn K cd12 "turned_sums" = true) (k12 : PySem.W.keepIn K (.ref f12) = true)
    (a13 : PySem.W.nsIn K mainGlobals "_law_same" = some (some (.ref f13))) (l13 : K.lookup f13 = some ⟨oc13, od13, .func (PySem.W.fnOf "_law_same" "_law_same" (defArgs s__law_same) (defBody s__law_same) (defScope s__law_same) .none kV13 dc13 pm13 an13 cd13 ct13), sl13⟩) (c13 : PySem.W.codeIn K cd13 "_law_same" = true) (k13 : PySem.W.keepIn K (.ref f13) = true)
    (a14 : PySem.W.nsIn K mainGlobals "is_straight" = some (some (.ref f14))) (l14 : K.lookup f14 = some ⟨oc14, od14, .func (PySem.W.fnOf "is_straight" "is_straight" (defArgs s_is_straight) (defBody s_is_straight) (defScope s_is_straight) .none kV14 dc14 pm14 an14 cd14 ct14), sl14⟩) (c14 : PySem.W.codeIn K cd14 "is_straight" = true) (k14 : PySem.W.keepIn K (.ref f14) = true)
    (a15 : PySem.W.nsIn K mainGlobals "unlike_shifted_in" = some (some (.ref f15))) (l15 : K.lookup f15 = some ⟨oc15, od15, .func (PySem.W.fnOf "unlike_shifted_in" "unlike_shifted_in" (defArgs s_unlike_shifted_in) (defBody s_unlike_shifted_in) (defScope s_unlike_shifted_in) .none kV15 dc15 pm15 an15 cd15 ct15), sl15⟩) (c15 : PySem.W.codeIn K cd15 "unlike_shifted_in" = true) (k15 : PySem.W.keepIn K (.ref f15) = true)
    (a16 : PySem.W.nsIn K mainGlobals "unlike_shifted" = some (some (.ref f16))) (l16 : K.lookup f16 = some ⟨oc16, od16, .func (PySem.W.fnOf "unlike_shifted" "unlike_shifted" (defArgs s_unlike_shifted) (defBody s_unlike_shifted) (defScope s_unlike_shifted) .none kV16 dc16 pm16 an16 cd16 ct16), sl16⟩) (c16 : PySem.W.codeIn K cd16 "unlike_shifted" = true) (k16 : PySem.W.keepIn K (.ref f16) = true)
    (a17 : PySem.W.nsIn K mainGlobals "nearest_rows" = some (some (.ref f17))) (l17 : K.lookup f17 = some ⟨oc17, od17, .func (PySem.W.fnOf "nearest_rows" "nearest_rows" (defArgs s_nearest_rows) (defBody s_nearest_rows) (defScope s_nearest_rows) .none kV17 dc17 pm17 an17 cd17 ct17), sl17⟩) (c17 : PySem.W.codeIn K cd17 "nearest_rows" = true) (k17 : PySem.W.keepIn K (.ref f17) = true)
    (a18 : PySem.W.nsIn K mainGlobals "_law_mixed" = some (some (.ref f18))) (l18 : K.lookup f18 = some ⟨oc18, od18, .func (PySem.W.fnOf "_law_mixed" "_law_mixed" (defArgs s__law_mixed) (defBody s__law_mixed) (defScope s__law_mixed) .none kV18 dc18 pm18 an18 cd18 ct18), sl18⟩) (c18 : PySem.W.codeIn K cd18 "_law_mixed" = true) (k18 : PySem.W.keepIn K (.ref f18) = true)
    (a19 : PySem.W.nsIn K mainGlobals "straight_fails_in" = some (some (.ref f19))) (l19 : K.lookup f19 = some ⟨oc19, od19, .func (PySem.W.fnOf "straight_fails_in" "straight_fails_in" (defArgs s_straight_fails_in) (defBody s_straight_fails_in) (defScope s_straight_fails_in) .none kV19 dc19 pm19 an19 cd19 ct19), sl19⟩) (c19 : PySem.W.codeIn K cd19 "straight_fails_in" = true) (k19 : PySem.W.keepIn K (.ref f19) = true)
    (a20 : PySem.W.nsIn K mainGlobals "straight_fails" = some (some (.ref f20))) (l20 : K.lookup f20 = some ⟨oc20, od20, .func (PySem.W.fnOf "straight_fails" "straight_fails" (defArgs s_straight_fails) (defBody s_straight_fails) (defScope s_straight_fails) .none kV20 dc20 pm20 an20 cd20 ct20), sl20⟩) (c20 : PySem.W.codeIn K cd20 "straight_fails" = true) (k20 : PySem.W.keepIn K (.ref f20) = true)
    (a21 : PySem.W.nsIn K mainGlobals "_law_fails" = some (some (.ref f21))) (l21 : K.lookup f21 = some ⟨oc21, od21, .func (PySem.W.fnOf "_law_fails" "_law_fails" (defArgs s__law_fails) (defBody s__law_fails) (defScope s__law_fails) .none kV21 dc21 pm21 an21 cd21 ct21), sl21⟩) (c21 : PySem.W.codeIn K cd21 "_law_fails" = true) (k21 : PySem.W.keepIn K (.ref f21) = true)
    (a22 : PySem.W.nsIn K mainGlobals "_law_pick" = some (some (.ref f22))) (l22 : K.lookup f22 = some ⟨oc22, od22, .func (PySem.W.fnOf "_law_pick" "_law_pick" (defArgs s__law_pick) (defBody s__law_pick) (defScope s__law_pick) .none kV22 dc22 pm22 an22 cd22 ct22), sl22⟩) (c22 : PySem.W.codeIn K cd22 "_law_pick" = true) (k22 : PySem.W.keepIn K (.ref f22) = true)
    (a23 : PySem.W.nsIn K mainGlobals "odd" = some (some (.ref f23))) (l23 : K.lookup f23 = some ⟨oc23, od23, .func (PySem.W.fnOf "odd" "odd" (defArgs s_odd) (defBody s_odd) (defScope s_odd) .none kV23 dc23 pm23 an23 cd23 ct23), sl23⟩) (c23 : PySem.W.codeIn K cd23 "odd" = true) (k23 : PySem.W.keepIn K (.ref f23) = true)
    (a24 : PySem.W.nsIn K mainGlobals "ones_in" = some (some (.ref f24))) (l24 : K.lookup f24 = some ⟨oc24, od24, .func (PySem.W.fnOf "ones_in" "ones_in" (defArgs s_ones_in) (defBody s_ones_in) (defScope s_ones_in) .none kV24 dc24 pm24 an24 cd24 ct24), sl24⟩) (c24 : PySem.W.codeIn K cd24 "ones_in" = true) (k24 : PySem.W.keepIn K (.ref f24) = true)
    (a25 : PySem.W.nsIn K mainGlobals "ascends" = some (some (.ref f25))) (l25 : K.lookup f25 = some ⟨oc25, od25, .func (PySem.W.fnOf "ascends" "ascends" (defArgs s_ascends) (defBody s_ascends) (defScope s_ascends) .none kV25 dc25 pm25 an25 cd25 ct25), sl25⟩) (c25 : PySem.W.codeIn K cd25 "ascends" = true) (k25 : PySem.W.keepIn K (.ref f25) = true)
    (a26 : PySem.W.nsIn K mainGlobals "is_long" = some (some (.ref f26))) (l26 : K.lookup f26 = some ⟨oc26, od26, .func (PySem.W.fnOf "is_long" "is_long" (defArgs s_is_long) (defBody s_is_long) (defScope s_is_long) .none kV26 dc26 pm26 an26 cd26 ct26), sl26⟩) (c26 : PySem.W.codeIn K cd26 "is_long" = true) (k26 : PySem.W.keepIn K (.ref f26) = true)
    (a27 : PySem.W.nsIn K mainGlobals "is_from" = some (some (.ref f27))) (l27 : K.lookup f27 = some ⟨oc27, od27, .func (PySem.W.fnOf "is_from" "is_from" (defArgs s_is_from) (defBody s_is_from) (defScope s_is_from) .none kV27 dc27 pm27 an27 cd27 ct27), sl27⟩) (c27 : PySem.W.codeIn K cd27 "is_from" = true) (k27 : PySem.W.keepIn K (.ref f27) = true)
    (a28 : PySem.W.nsIn K mainGlobals "is_told" = some (some (.ref f28))) (l28 : K.lookup f28 = some ⟨oc28, od28, .func (PySem.W.fnOf "is_told" "is_told" (defArgs s_is_told) (defBody s_is_told) (defScope s_is_told) .none kV28 dc28 pm28 an28 cd28 ct28), sl28⟩) (c28 : PySem.W.codeIn K cd28 "is_told" = true) (k28 : PySem.W.keepIn K (.ref f28) = true)
    (a29 : PySem.W.nsIn K mainGlobals "sure_told_table" = some (some (.ref f29))) (l29 : K.lookup f29 = some ⟨oc29, od29, .func (PySem.W.fnOf "sure_told_table" "sure_told_table" (defArgs s_sure_told_table) (defBody s_sure_told_table) (defScope s_sure_told_table) .none kV29 dc29 pm29 an29 cd29 ct29), sl29⟩) (c29 : PySem.W.codeIn K cd29 "sure_told_table" = true) (k29 : PySem.W.keepIn K (.ref f29) = true)
    (a30 : PySem.W.nsIn K mainGlobals "many_ones" = some (some (.ref f30))) (l30 : K.lookup f30 = some ⟨oc30, od30, .func (PySem.W.fnOf "many_ones" "many_ones" (defArgs s_many_ones) (defBody s_many_ones) (defScope s_many_ones) .none kV30 dc30 pm30 an30 cd30 ct30), sl30⟩) (c30 : PySem.W.codeIn K cd30 "many_ones" = true) (k30 : PySem.W.keepIn K (.ref f30) = true)
    (a31 : PySem.W.nsIn K mainGlobals "meetings" = some (some (.ref f31))) (l31 : K.lookup f31 = some ⟨oc31, od31, .func (PySem.W.fnOf "meetings" "meetings" (defArgs s_meetings) (defBody s_meetings) (defScope s_meetings) .none kV31 dc31 pm31 an31 cd31 ct31), sl31⟩) (c31 : PySem.W.codeIn K cd31 "meetings" = true) (k31 : PySem.W.keepIn K (.ref f31) = true)
    (a32 : PySem.W.nsIn K mainGlobals "triples_in" = some (some (.ref f32))) (l32 : K.lookup f32 = some ⟨oc32, od32, .func (PySem.W.fnOf "triples_in" "triples_in" (defArgs s_triples_in) (defBody s_triples_in) (defScope s_triples_in) .none kV32 dc32 pm32 an32 cd32 ct32), sl32⟩) (c32 : PySem.W.codeIn K cd32 "triples_in" = true) (k32 : PySem.W.keepIn K (.ref f32) = true)
    (a33 : PySem.W.nsIn K mainGlobals "line_fails_in" = some (some (.ref f33))) (l33 : K.lookup f33 = some ⟨oc33, od33, .func (PySem.W.fnOf "line_fails_in" "line_fails_in" (defArgs s_line_fails_in) (defBody s_line_fails_in) (defScope s_line_fails_in) .none kV33 dc33 pm33 an33 cd33 ct33), sl33⟩) (c33 : PySem.W.codeIn K cd33 "line_fails_in" = true) (k33 : PySem.W.keepIn K (.ref f33) = true)
    (a34 : PySem.W.nsIn K mainGlobals "line_fails" = some (some (.ref f34))) (l34 : K.lookup f34 = some ⟨oc34, od34, .func (PySem.W.fnOf "line_fails" "line_fails" (defArgs s_line_fails) (defBody s_line_fails) (defScope s_line_fails) .none kV34 dc34 pm34 an34 cd34 ct34), sl34⟩) (c34 : PySem.W.codeIn K cd34 "line_fails" = true) (k34 : PySem.W.keepIn K (.ref f34) = true)
    (a35 : PySem.W.nsIn K mainGlobals "_law_right" = some (some (.ref f35))) (l35 : K.lookup f35 = some ⟨oc35, od35, .func (PySem.W.fnOf "_law_right" "_law_right" (defArgs s__law_right) (defBody s__law_right) (defScope s__law_right) .none kV35 dc35 pm35 an35 cd35 ct35), sl35⟩) (c35 : PySem.W.codeIn K cd35 "_law_right" = true) (k35 : PySem.W.keepIn K (.ref f35) = true)
    (a36 : PySem.W.nsIn K mainGlobals "_law_box" = some (some (.ref f36))) (l36 : K.lookup f36 = some ⟨oc36, od36, .func (PySem.W.fnOf "_law_box" "_law_box" (defArgs s__law_box) (defBody s__law_box) (defScope s__law_box) .none kV36 dc36 pm36 an36 cd36 ct36), sl36⟩) (c36 : PySem.W.codeIn K cd36 "_law_box" = true) (k36 : PySem.W.keepIn K (.ref f36) = true)
    (a37 : PySem.W.nsIn K mainGlobals "law" = some (some (.ref f37))) (l37 : K.lookup f37 = some ⟨oc37, od37, .func (PySem.W.fnOf "law" "law" (defArgs s_law) (defBody s_law) (defScope s_law) .none kV37 dc37 pm37 an37 cd37 ct37), sl37⟩) (c37 : PySem.W.codeIn K cd37 "law" = true) (k37 : PySem.W.keepIn K (.ref f37) = true)
    (z_abs : PySem.W.nsIn K mainGlobals "abs" = some none)
    (z_all : PySem.W.nsIn K mainGlobals "all" = some none)
    (z_bool : PySem.W.nsIn K mainGlobals "bool" = some none)
    (z_enumerate : PySem.W.nsIn K mainGlobals "enumerate" = some none)
    (z_int : PySem.W.nsIn K mainGlobals "int" = some none)
    (z_isinstance : PySem.W.nsIn K mainGlobals "isinstance" = some none)
    (z_len : PySem.W.nsIn K mainGlobals "len" = some none)
    (z_list : PySem.W.nsIn K mainGlobals "list" = some none)
    (z_max : PySem.W.nsIn K mainGlobals "max" = some none)
    (z_min : PySem.W.nsIn K mainGlobals "min" = some none)
    (z_range : PySem.W.nsIn K mainGlobals "range" = some none)
    (z_sorted : PySem.W.nsIn K mainGlobals "sorted" = some none)
    (z_str : PySem.W.nsIn K mainGlobals "str" = some none)
    (z_sum : PySem.W.nsIn K mainGlobals "sum" = some none)
    (z_tuple : PySem.W.nsIn K mainGlobals "tuple" = some none)
    (z_zip : PySem.W.nsIn K mainGlobals "zip" = some none)
    {t_MOST_BITS : Tok} (c_MOST_BITS : PySem.W.nsIn K mainGlobals "MOST_BITS" = some (some (.int 12 t_MOST_BITS)))
    {t_MOST_CHANGES : Tok} (c_MOST_CHANGES : PySem.W.nsIn K mainGlobals "MOST_CHANGES" = some (some (.int 24 t_MOST_CHANGES)))
    {t_MOST_LONG : Tok} (c_MOST_LONG : PySem.W.nsIn K mainGlobals "MOST_LONG" = some (some (.int 820 t_MOST_LONG)))
    : ∃ fd : FuncData, (∀ (s : Shared) (v : Value), BindsTo s fd ⟨[v], []⟩ [("script", v)]) ∧ ∀ base : Heap, K.In base → base.Ns mainGlobals mg → FnOk l.prog w K mg base CX0 35 fa fd ["script"] (spLaw K) := by
  have e := hfa.symm.trans (PySem.W.mg_of X G a37)
  cases e
  let T : Facts K mg := ⟨⟨f0, _, fun_mk l0 c0 k0, PySem.W.mg_of X G a0, (fun_mk l0 c0 k0).binds fun _ _ _ _ _ _ us hl => match us, hl with | [_, _], _ => rfl⟩,
    ⟨f1, _, fun_mk l1 c1 k1, PySem.W.mg_of X G a1, (fun_mk l1 c1 k1).binds fun _ _ _ _ _ _ us hl => match us, hl with | [_, _], _ => rfl⟩,
    ⟨f2, _, fun_mk l2 c2 k2, PySem.W.mg_of X G a2, (fun_mk l2 c2 k2).binds fun _ _ _ _ _ _ us hl => match us, hl with | [_], _ => rfl⟩,
    ⟨f3, _, fun_mk l3 c3 k3, PySem.W.mg_of X G a3, (fun_mk l3 c3 k3).binds fun _ _ _ _ _ _ us hl => match us, hl with | [_, _], _ => rfl⟩,
    ⟨f4, _, fun_mk l4 c4 k4, PySem.W.mg_of X G a4, (fun_mk l4 c4 k4).binds fun _ _ _ _ _ _ us hl => match us, hl with | [_], _ => rfl⟩,
    ⟨f5, _, fun_mk l5 c5 k5, PySem.W.mg_of X G a5, (fun_mk l5 c5 k5).binds fun _ _ _ _ _ _ us hl => match us, hl with | [_], _ => rfl⟩,
    ⟨f6, _, fun_mk l6 c6 k6, PySem.W.mg_of X G a6, (fun_mk l6 c6 k6).binds fun _ _ _ _ _ _ us hl => match us, hl with | [_], _ => rfl⟩,
    ⟨f7, _, fun_mk l7 c7 k7, PySem.W.mg_of X G a7, (fun_mk l7 c7 k7).binds fun _ _ _ _ _ _ us hl => match us, hl with | [_, _, _], _ => rfl⟩,
    ⟨f8, _, fun_mk l8 c8 k8, PySem.W.mg_of X G a8, (fun_mk l8 c8 k8).binds fun _ _ _ _ _ _ us hl => match us, hl with | [_], _ => rfl⟩,
    ⟨f9, _, fun_mk l9 c9 k9, PySem.W.mg_of X G a9, (fun_mk l9 c9 k9).binds fun _ _ _ _ _ _ us hl => match us, hl with | [_], _ => rfl⟩,
    ⟨f10, _, fun_mk l10 c10 k10, PySem.W.mg_of X G a10, (fun_mk l10 c10 k10).binds fun _ _ _ _ _ _ us hl => match us, hl with | [_], _ => rfl⟩,
    ⟨f11, _, fun_mk l11 c11 k11, PySem.W.mg_of X G a11, (fun_mk l11 c11 k11).binds fun _ _ _ _ _ _ us hl => match us, hl with | [_], _ => rfl⟩,
    ⟨f12, _, fun_mk l12 c12 k12, PySem.W.mg_of X G a12, (fun_mk l12 c12 k12).binds fun _ _ _ _ _ _ us hl => match us, hl with | [_], _ => rfl⟩,
    ⟨f13, _, fun_mk l13 c13 k13, PySem.W.mg_of X G a13, (fun_mk l13 c13 k13).binds fun _ _ _ _ _ _ us hl => match us, hl with | [_, _], _ => rfl⟩,
    ⟨f14, _, fun_mk l14 c14 k14, PySem.W.mg_of X G a14, (fun_mk l14 c14 k14).binds fun _ _ _ _ _ _ us hl => match us, hl with | [_], _ => rfl⟩,
    ⟨f15, _, fun_mk l15 c15 k15, PySem.W.mg_of X G a15, (fun_mk l15 c15 k15).binds fun _ _ _ _ _ _ us hl => match us, hl with | [_], _ => rfl⟩,
    ⟨f16, _, fun_mk l16 c16 k16, PySem.W.mg_of X G a16, (fun_mk l16 c16 k16).binds fun _ _ _ _ _ _ us hl => match us, hl with | [_], _ => rfl⟩,
    ⟨f17, _, fun_mk l17 c17 k17, PySem.W.mg_of X G a17, (fun_mk l17 c17 k17).binds fun _ _ _ _ _ _ us hl => match us, hl with | [_], _ => rfl⟩,
    ⟨f18, _, fun_mk l18 c18 k18, PySem.W.mg_of X G a18, (fun_mk l18 c18 k18).binds fun _ _ _ _ _ _ us hl => match us, hl with | [_, _], _ => rfl⟩,
    ⟨f19, _, fun_mk l19 c19 k19, PySem.W.mg_of X G a19, (fun_mk l19 c19 k19).binds fun _ _ _ _ _ _ us hl => match us, hl with | [_], _ => rfl⟩,
    ⟨f20, _, fun_mk l20 c20 k20, PySem.W.mg_of X G a20, (fun_mk l20 c20 k20).binds fun _ _ _ _ _ _ us hl => match us, hl with | [_], _ => rfl⟩,
    ⟨f21, _, fun_mk l21 c21 k21, PySem.W.mg_of X G a21, (fun_mk l21 c21 k21).binds fun _ _ _ _ _ _ us hl => match us, hl with | [_], _ => rfl⟩,
    ⟨f22, _, fun_mk l22 c22 k22, PySem.W.mg_of X G a22, (fun_mk l22 c22 k22).binds fun _ _ _ _ _ _ us hl => match us, hl with | [_, _, _], _ => rfl⟩,
    ⟨f23, _, fun_mk l23 c23 k23, PySem.W.mg_of X G a23, (fun_mk l23 c23 k23).binds fun _ _ _ _ _ _ us hl => match us, hl with | [_], _ => rfl⟩,
    ⟨f24, _, fun_mk l24 c24 k24, PySem.W.mg_of X G a24, (fun_mk l24 c24 k24).binds fun _ _ _ _ _ _ us hl => match us, hl with | [_], _ => rfl⟩,
    ⟨f25, _, fun_mk l25 c25 k25, PySem.W.mg_of X G a25, (fun_mk l25 c25 k25).binds fun _ _ _ _ _ _ us hl => match us, hl with | [_], _ => rfl⟩,
    ⟨f26, _, fun_mk l26 c26 k26, PySem.W.mg_of X G a26, (fun_mk l26 c26 k26).binds fun _ _ _ _ _ _ us hl => match us, hl with | [_, _], _ => rfl⟩,
    ⟨f27, _, fun_mk l27 c27 k27, PySem.W.mg_of X G a27, (fun_mk l27 c27 k27).binds fun _ _ _ _ _ _ us hl => match us, hl with | [_, _], _ => rfl⟩,
    ⟨f28, _, fun_mk l28 c28 k28, PySem.W.mg_of X G a28, (fun_mk l28 c28 k28).binds fun _ _ _ _ _ _ us hl => match us, hl with | [_], _ => rfl⟩,
    ⟨f29, _, fun_mk l29 c29 k29, PySem.W.mg_of X G a29, (fun_mk l29 c29 k29).binds fun _ _ _ _ _ _ us hl => match us, hl with | [_], _ => rfl⟩,
    ⟨f30, _, fun_mk l30 c30 k30, PySem.W.mg_of X G a30, (fun_mk l30 c30 k30).binds fun _ _ _ _ _ _ us hl => match us, hl with | [_], _ => rfl⟩,
    ⟨f31, _, fun_mk l31 c31 k31, PySem.W.mg_of X G a31, (fun_mk l31 c31 k31).binds fun _ _ _ _ _ _ us hl => match us, hl with | [_, _], _ => rfl⟩,
    ⟨f32, _, fun_mk l32 c32 k32, PySem.W.mg_of X G a32, (fun_mk l32 c32 k32).binds fun _ _ _ _ _ _ us hl => match us, hl with | [_], _ => rfl⟩,
    ⟨f33, _, fun_mk l33 c33 k33, PySem.W.mg_of X G a33, (fun_mk l33 c33 k33).binds fun _ _ _ _ _ _ us hl => match us, hl with | [_], _ => rfl⟩,
    ⟨f34, _, fun_mk l34 c34 k34, PySem.W.mg_of X G a34, (fun_mk l34 c34 k34).binds fun _ _ _ _ _ _ us hl => match us, hl with | [_], _ => rfl⟩,
    ⟨f35, _, fun_mk l35 c35 k35, PySem.W.mg_of X G a35, (fun_mk l35 c35 k35).binds fun _ _ _ _ _ _ us hl => match us, hl with | [_], _ => rfl⟩,
    ⟨f36, _, fun_mk l36 c36 k36, PySem.W.mg_of X G a36, (fun_mk l36 c36 k36).binds fun _ _ _ _ _ _ us hl => match us, hl with | [_, _], _ => rfl⟩,
    ⟨fa, _, fun_mk l37 c37 k37, PySem.W.mg_of X G a37, (fun_mk l37 c37 k37).binds fun _ _ _ _ _ _ us hl => match us, hl with | [_], _ => rfl⟩,
    PySem.W.mg_none_of X G z_abs,
    PySem.W.mg_none_of X G z_all,
    PySem.W.mg_none_of X G z_bool,
    PySem.W.mg_none_of X G z_enumerate,
    PySem.W.mg_none_of X G z_int,
    PySem.W.mg_none_of X G z_isinstance,
    PySem.W.mg_none_of X G z_len,
    PySem.W.mg_none_of X G z_list,
    PySem.W.mg_none_of X G z_max,
    PySem.W.mg_none_of X G z_min,
    PySem.W.mg_none_of X G z_range,
    PySem.W.mg_none_of X G z_sorted,
    PySem.W.mg_none_of X G z_str,
    PySem.W.mg_none_of X G z_sum,
    PySem.W.mg_none_of X G z_tuple,
    PySem.W.mg_none_of X G z_zip,
    ⟨_, PySem.W.mg_of X G c_MOST_BITS⟩,
    ⟨_, PySem.W.mg_of X G c_MOST_CHANGES⟩,
    ⟨_, PySem.W.mg_of X G c_MOST_LONG⟩⟩
  exact ⟨_, fun s v => .of_eq rfl, fun base _ _ => ok_law (P := l.prog) (w := w) (base := base) T⟩
theorem fin {K : PySem.W.Frag} {H : Hp} {a : Addr} {ns : List Int} {E : XK} (hl : ns.length ≤ 63) (hS : SqL K H a (ns.map V.int)) : spLaw K [.ref a] H (fun v _ => v = .bl true) E :=
  ⟨H, [.list (ns.map .int)], .val (.bool true), Same.refl _, .cons (.lst hS (DpAll.ofInts ns)) .nil, law_true ns hl, fun v H' G' _ r => by cases r; rfl⟩
end Toy

open PySem PySem.W PyProof.Rows
set_option maxHeartbeats 0 in
theorem PySem.Challenge.cw_twoshown_k47_main_tables_of_two_parts_holds : PySem.Challenge.rw_twoshown_k47_main_tables_of_two_parts.Holds := by
  w_on; o_law; k_head; (case hw => w_witness2)
  k_fill
  refine L2.walk_of (l := PySem.Challenge.rw_twoshown_k47_main_tables_of_two_parts) (n := 63) (k := 35) (x := "script") (CX := fun _ => L2.CX0) (sp := fun w => Toy.spLaw _) rfl (by decide) rfl ⟨rfl, by decide, by decide⟩ (fun w h Y => PySem.W.kIn_of Y) ?F (fun _ H a ns hl _ hS => Toy.fin hl hS) (fun _ _ _ _ _ h => h)
  case F =>
    intro w mg fa h KX G hmg
    refine' Toy.all_mk KX G hmg ?a0 ?l0 ?c0 ?k0 ?a1 ?l1 ?c1 ?k1 ?a2 ?l2 ?c2 ?k2 ?a3 ?l3 ?c3 ?k3 ?a4 ?l4 ?c4 ?k4 ?a5 ?l5 ?c5 ?k5 ?a6 ?l6 ?c6 ?k6 ?a7 ?l7 ?c7 ?k7 ?a8 ?l8 ?c8 ?k8 ?a9 ?l9 ?c9 ?k9 ?a10 ?l10 ?c10 ?k10 ?a11 ?l11 ?c11 ?k11 ?a12 ?l12 ?c12 ?k12 ?a13 ?l13 ?c13 ?k13 ?a14 ?l14 ?c14 ?k14 ?a15 ?l15 ?c15 ?k15 ?a16 ?l16 ?c16 ?k16 ?a17 ?l17 ?c17 ?k17 ?a18 ?l18 ?c18 ?k18 ?a19 ?l19 ?c19 ?k19 ?a20 ?l20 ?c20 ?k20 ?a21 ?l21 ?c21 ?k21 ?a22 ?l22 ?c22 ?k22 ?a23 ?l23 ?c23 ?k23 ?a24 ?l24 ?c24 ?k24 ?a25 ?l25 ?c25 ?k25 ?a26 ?l26 ?c26 ?k26 ?a27 ?l27 ?c27 ?k27 ?a28 ?l28 ?c28 ?k28 ?a29 ?l29 ?c29 ?k29 ?a30 ?l30 ?c30 ?k30 ?a31 ?l31 ?c31 ?k31 ?a32 ?l32 ?c32 ?k32 ?a33 ?l33 ?c33 ?k33 ?a34 ?l34 ?c34 ?k34 ?a35 ?l35 ?c35 ?k35 ?a36 ?l36 ?c36 ?k36 ?a37 ?l37 ?c37 ?k37 ?z_abs ?z_all ?z_bool ?z_enumerate ?z_int ?z_isinstance ?z_len ?z_list ?z_max ?z_min ?z_range ?z_sorted ?z_str ?z_sum ?z_tuple ?z_zip ?c_MOST_BITS ?c_MOST_CHANGES ?c_MOST_LONG
    (case a0 => k_is)
    (case l0 => k_is)
    (case c0 => k_is)
    (case k0 => k_is)
    (case a1 => k_is)
    (case l1 => k_is)
    (case c1 => k_is)
    (case k1 => k_is)
    (case a2 => k_is)
    (case l2 => k_is)
    (case c2 => k_is)
    (case k2 => k_is)
    (case a3 => k_is)
    (case l3 => k_is)
    (case c3 => k_is)
    (case k3 => k_is)
    (case a4 => k_is)
    (case l4 => k_is)
    (case c4 => k_is)
    (case k4 => k_is)
    (case a5 => k_is)
    (case l5 => k_is)
    (case c5 => k_is)
    (case k5 => k_is)
    (case a6 => k_is)
    (case l6 => k_is)
    (case c6 => k_is)
    (case k6 => k_is)
    (case a7 => k_is)
    (case l7 => k_is)
    (case c7 => k_is)
    (case k7 => k_is)
    (case a8 => k_is)
    (case l8 => k_is)
    (case c8 => k_is)
    (case k8 => k_is)
    (case a9 => k_is)
    (case l9 => k_is)
    (case c9 => k_is)
    (case k9 => k_is)
    (case a10 => k_is)
    (case l10 => k_is)
    (case c10 => k_is)
    (case k10 => k_is)
    (case a11 => k_is)
    (case l11 => k_is)
    (case c11 => k_is)
    (case k11 => k_is)
    (case a12 => k_is)
    (case l12 => k_is)
    (case c12 => k_is)
    (case k12 => k_is)
    (case a13 => k_is)
    (case l13 => k_is)
    (case c13 => k_is)
    (case k13 => k_is)
    (case a14 => k_is)
    (case l14 => k_is)
    (case c14 => k_is)
    (case k14 => k_is)
    (case a15 => k_is)
    (case l15 => k_is)
    (case c15 => k_is)
    (case k15 => k_is)
    (case a16 => k_is)
    (case l16 => k_is)
    (case c16 => k_is)
    (case k16 => k_is)
    (case a17 => k_is)
    (case l17 => k_is)
    (case c17 => k_is)
    (case k17 => k_is)
    (case a18 => k_is)
    (case l18 => k_is)
    (case c18 => k_is)
    (case k18 => k_is)
    (case a19 => k_is)
    (case l19 => k_is)
    (case c19 => k_is)
    (case k19 => k_is)
    (case a20 => k_is)
    (case l20 => k_is)
    (case c20 => k_is)
    (case k20 => k_is)
    (case a21 => k_is)
    (case l21 => k_is)
    (case c21 => k_is)
    (case k21 => k_is)
    (case a22 => k_is)
    (case l22 => k_is)
    (case c22 => k_is)
    (case k22 => k_is)
    (case a23 => k_is)
    (case l23 => k_is)
    (case c23 => k_is)
    (case k23 => k_is)
    (case a24 => k_is)
    (case l24 => k_is)
    (case c24 => k_is)
    (case k24 => k_is)
    (case a25 => k_is)
    (case l25 => k_is)
    (case c25 => k_is)
    (case k25 => k_is)
    (case a26 => k_is)
    (case l26 => k_is)
    (case c26 => k_is)
    (case k26 => k_is)
    (case a27 => k_is)
    (case l27 => k_is)
    (case c27 => k_is)
    (case k27 => k_is)
    (case a28 => k_is)
    (case l28 => k_is)
    (case c28 => k_is)
    (case k28 => k_is)
    (case a29 => k_is)
    (case l29 => k_is)
    (case c29 => k_is)
    (case k29 => k_is)
    (case a30 => k_is)
    (case l30 => k_is)
    (case c30 => k_is)
    (case k30 => k_is)
    (case a31 => k_is)
    (case l31 => k_is)
    (case c31 => k_is)
    (case k31 => k_is)
    (case a32 => k_is)
    (case l32 => k_is)
    (case c32 => k_is)
    (case k32 => k_is)
    (case a33 => k_is)
    (case l33 => k_is)
    (case c33 => k_is)
    (case k33 => k_is)
    (case a34 => k_is)
    (case l34 => k_is)
    (case c34 => k_is)
    (case k34 => k_is)
    (case a35 => k_is)
    (case l35 => k_is)
    (case c35 => k_is)
    (case k35 => k_is)
    (case a36 => k_is)
    (case l36 => k_is)
    (case c36 => k_is)
    (case k36 => k_is)
    (case a37 => k_is)
    (case l37 => k_is)
    (case c37 => k_is)
    (case k37 => k_is)
    (case z_abs => k_is)
    (case z_all => k_is)
    (case z_bool => k_is)
    (case z_enumerate => k_is)
    (case z_int => k_is)
    (case z_isinstance => k_is)
    (case z_len => k_is)
    (case z_list => k_is)
    (case z_max => k_is)
    (case z_min => k_is)
    (case z_range => k_is)
    (case z_sorted => k_is)
    (case z_str => k_is)
    (case z_sum => k_is)
    (case z_tuple => k_is)
    (case z_zip => k_is)
    (case c_MOST_BITS => k_is)
    (case c_MOST_CHANGES => k_is)
    (case c_MOST_LONG => k_is)
