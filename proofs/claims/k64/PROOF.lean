import PyProof.Rows.All
import Wide.All
import OpenK.AllK
import Wide.FinOn
import HandS.ForMost
import HandS.IsInst
import HandS.Wide
import HandS.Flow
import HandS.Style
import HandS.RaiseMore
import KE.GoesEnum
import PySem.Challenge.RW_bendkinds_k64_whole_sums_and_kernels
set_option Elab.async false
set_option linter.all false
set_option maxRecDepth 100000
set_option maxHeartbeats 4000000
/-! Bk1: data over the abstract heap; what a reading computes on data. -/
namespace Bk
open PySem L2

/-! ## data -/
inductive D where
  | non | bl (b : Bool) | int (i : Int) | str (x : PySem.Str)
  | lst (xs : List D) | frz (xs : List D) | tup (xs : List D) | obj (c : Addr) (ns : List PySem.Str) (xs : List D) | ty (n : String) | cl (c : Addr)

mutual
inductive DR (K : PySem.W.Frag) (H : Hp) : V → D → Prop
  | non : DR K H .non .non
  | bl (b : Bool) : DR K H (.bl b) (.bl b)
  | int (i : Int) : DR K H (.int i) (.int i)
  | str (x : PySem.Str) : DR K H (.str x) (.str x)
  | lst {a : Addr} {xs : List V} {ds : List D} : H a = some (.lst xs) → DRs K H xs ds → DR K H (.ref a) (.lst ds)
  | frz {a : Addr} {xs : List V} {ds : List D} : SqL K H a xs → DRs K H xs ds → DR K H (.ref a) (.frz ds)
  | tup {a : Addr} {xs : List V} {ds : List D} : SqT K H a xs → DRs K H xs ds → DR K H (.ref a) (.tup ds)
  | obj {a C dx : Addr} {fs : List (PySem.Str × V)} {ns : List PySem.Str} {vs : List V} {ds : List D} : H a = some (.ins C dx fs) → fs.map (·.1) = ns → fs.map (·.2) = vs → DRs K H vs ds → DR K H (.ref a) (.obj C ns ds)
  | ty (n : String) : DR K H (.ty n) (.ty n)
  | cl (c : Addr) : DR K H (.ref c) (.cl c)
inductive DRs (K : PySem.W.Frag) (H : Hp) : List V → List D → Prop
  | nil : DRs K H [] []
  | cons {v : V} {vs : List V} {d : D} {ds : List D} : DR K H v d → DRs K H vs ds → DRs K H (v :: vs) (d :: ds)
end

theorem same_rd {H H' : Hp} (e : Same H H') {a : Addr} {u : HO} (r : Rd H a u) : Rd H' a u := by
  cases r with
  | inl h => exact .inl (e _ _ h)
  | inr h =>
    obtain ⟨o, h⟩ := h
    exact .inr ⟨o, e _ _ h⟩
theorem same_tup {K : PySem.W.Frag} {H H' : Hp} (e : Same H H') {a : Addr} {xs : List V} (h : SqT K H a xs) : SqT K H' a xs := by
  cases h with
  | inl h => exact .inl (same_rd e h)
  | inr h => exact .inr h
theorem same_lst {K : PySem.W.Frag} {H H' : Hp} (e : Same H H') {a : Addr} {xs : List V} (h : SqL K H a xs) : SqL K H' a xs := by
  cases h with
  | inl h => exact .inl (same_rd e h)
  | inr h => exact .inr h

mutual
theorem DR.mono {K : PySem.W.Frag} {H H' : Hp} (e : Same H H') : ∀ {v : V} {d : D}, DR K H v d → DR K H' v d
  | _, _, .non => .non
  | _, _, .bl b => .bl b
  | _, _, .int i => .int i
  | _, _, .str x => .str x
  | _, _, .lst h hs => .lst (e _ _ h) (DRs.mono e hs)
  | _, _, .frz h hs => .frz (same_lst e h) (DRs.mono e hs)
  | _, _, .tup h hs => .tup (same_tup e h) (DRs.mono e hs)
  | _, _, .obj h h1 h2 hs => .obj (e _ _ h) h1 h2 (DRs.mono e hs)
  | _, _, .ty n => .ty n
  | _, _, .cl c => .cl c
theorem DRs.mono {K : PySem.W.Frag} {H H' : Hp} (e : Same H H') : ∀ {vs : List V} {ds : List D}, DRs K H vs ds → DRs K H' vs ds
  | _, _, .nil => .nil
  | _, _, .cons h hs => .cons (DR.mono e h) (DRs.mono e hs)
end

section
variable {K : PySem.W.Frag} {H : Hp}
theorem DRs.len : ∀ {vs : List V} {ds : List D}, DRs K H vs ds → vs.length = ds.length
  | _, _, .nil => rfl
  | _, _, .cons _ hs => congrArg Nat.succ (DRs.len hs)
theorem DRs.at : ∀ {vs : List V} {ds : List D} {i : Nat} {d : D}, DRs K H vs ds → ds[i]? = some d → ∃ v, vs[i]? = some v ∧ DR K H v d
  | _, _, _, _, .nil, e => by simp at e
  | _, _, 0, _, .cons h _, e => by simp at e; subst e; exact ⟨_, rfl, h⟩
  | _, _, i + 1, _, .cons _ hs, e => by
    obtain ⟨v, h1, h2⟩ := DRs.at (i := i) hs (by simpa using e)
    exact ⟨v, by simpa using h1, h2⟩
theorem DRs.ta : ∀ {vs : List V} {ds : List D} {i : Nat} {v : V}, DRs K H vs ds → vs[i]? = some v → ∃ d, ds[i]? = some d ∧ DR K H v d
  | _, _, _, _, .nil, e => by simp at e
  | _, _, 0, _, .cons h _, e => by simp at e; subst e; exact ⟨_, rfl, h⟩
  | _, _, i + 1, _, .cons _ hs, e => by
    obtain ⟨v, h1, h2⟩ := DRs.ta (i := i) hs (by simpa using e)
    exact ⟨v, by simpa using h1, h2⟩
theorem DRs.app : ∀ {vs ws : List V} {ds es : List D}, DRs K H vs ds → DRs K H ws es → DRs K H (vs ++ ws) (ds ++ es)
  | _, _, _, _, .nil, h => h
  | _, _, _, _, .cons a t, h => .cons a (DRs.app t h)
theorem DRs.one {v : V} {d : D} (h : DR K H v d) : DRs K H [v] [d] := .cons h .nil
theorem DRs.drop : ∀ {vs : List V} {ds : List D} (n : Nat), DRs K H vs ds → DRs K H (vs.drop n) (ds.drop n)
  | _, _, 0, h => h
  | _, _, _ + 1, .nil => .nil
  | _, _, n + 1, .cons _ t => DRs.drop n t
theorem DRs.take : ∀ {vs : List V} {ds : List D} (n : Nat), DRs K H vs ds → DRs K H (vs.take n) (ds.take n)
  | _, _, 0, _ => .nil
  | _, _, _ + 1, .nil => .nil
  | _, _, n + 1, .cons a t => .cons a (DRs.take n t)
theorem DRs.set {v : V} {d : D} (h : DR K H v d) : ∀ {vs : List V} {ds : List D} (i : Nat), DRs K H vs ds → DRs K H (vs.set i v) (ds.set i d)
  | _, _, _, .nil => .nil
  | _, _, 0, .cons _ t => .cons h t
  | _, _, i + 1, .cons a t => .cons a (DRs.set h i t)
theorem DRs.rev : ∀ {vs : List V} {ds : List D}, DRs K H vs ds → DRs K H vs.reverse ds.reverse
  | _, _, .nil => .nil
  | _, _, .cons a t => by
    rw [List.reverse_cons, List.reverse_cons]
    exact DRs.app (DRs.rev t) (.cons a .nil)
theorem DRs.rep {vs : List V} {ds : List D} (h : DRs K H vs ds) : ∀ k : Nat, DRs K H (List.replicate k vs).flatten (List.replicate k ds).flatten
  | 0 => .nil
  | k + 1 => by
    rw [List.replicate_succ, List.replicate_succ, List.flatten_cons, List.flatten_cons]
    exact DRs.app h (DRs.rep h k)
theorem DRs.ints : ∀ (ns : List Int), DRs K H (ns.map V.int) (ns.map D.int)
  | [] => .nil
  | n :: ns => .cons (.int n) (DRs.ints ns)
end

/-! ## slots -/
inductive Ent where
  | un | im (d : D) | ow (ds : List D) | bx (ds : List D)
def Ent.mu : Ent → Option (List D)
  | .ow ds => some ds
  | .bx ds => some ds
  | _ => none
abbrev Gam := List Ent
inductive R where
  | im (d : D) | ow (ds : List D)
def R.d : R → D
  | .im d => d
  | .ow ds => .lst ds
def R.ent : R → Ent
  | .im d => .im d
  | .ow ds => .ow ds
abbrev M (α : Type) := Gam → Option (α × Gam)

structure Rel (K : PySem.W.Frag) (Fz : Hp) (ba : Nat → Addr) (G : Gam) (σ : L2.St) (H Hs : Hp) : Prop where
  sub : Same Hs H
  fz : ∀ a o, Fz a = some o → H a = some o ∧ Hs a = none
  len : σ.length = G.length
  im : ∀ (i : Nat) (d : D), G[i]? = some (.im d) → ∃ v, σ[i]? = some (some v) ∧ DR K Hs v d
  mu : ∀ (i : Nat) (e : Ent) (ds : List D), G[i]? = some e → e.mu = some ds → ∃ l vs, σ[i]? = some (some (.ref l)) ∧ H l = some (.lst vs) ∧ Hs l = none ∧ Fz l = none ∧ DRs K Hs vs ds
  dj : ∀ (i j : Nat) (e e' : Ent) (l : Addr), G[i]? = some e → G[j]? = some e' → e.mu ≠ none → e'.mu ≠ none → σ[i]? = some (some (.ref l)) → σ[j]? = some (some (.ref l)) → i = j
  bx : ∀ (i : Nat) (ds : List D), G[i]? = some (.bx ds) → σ[i]? = some (some (.ref (ba i)))

/-- more was laid, nothing that stood was touched; what is hidden stays hidden -/
structure Ext (H Hs H' Hs' : Hp) : Prop where
  a : Same H H'
  b : Same Hs Hs'
  c : Same Hs' H'
  n : ∀ x o, H x = some o → Hs x = none → Hs' x = none
theorem Ext.refl {H Hs : Hp} (s : Same Hs H) : Ext H Hs H Hs := ⟨Same.refl _, Same.refl _, s, fun _ _ _ h => h⟩
theorem Ext.trans {H Hs H1 Hs1 H2 Hs2 : Hp} (p : Ext H Hs H1 Hs1) (q : Ext H1 Hs1 H2 Hs2) : Ext H Hs H2 Hs2 :=
  ⟨p.a.trans q.a, p.b.trans q.b, q.c, fun x o h1 h2 => q.n x o (p.a x o h1) (p.n x o h1 h2)⟩
theorem same_new {H : Hp} {p : Addr} {o : HO} (h : H p = none) : Same H (upd H p o) := fun a u e => by
  rw [upd_ne (ne_of_none e h)]
  exact e
theorem none_sub {Hs H : Hp} (s : Same Hs H) {p : Addr} (h : H p = none) : Hs p = none := s.free h
theorem same_upd2 {Hs H : Hp} (s : Same Hs H) {p : Addr} {o : HO} : Same (upd Hs p o) (upd H p o) := fun a u e => by
  by_cases z : a = p
  · subst z
    rw [upd_same] at e ⊢
    exact e
  · rw [upd_ne z] at e ⊢
    exact s a u e
theorem Ext.new {H Hs : Hp} {p : Addr} {o : HO} (s : Same Hs H) (h : H p = none) : Ext H Hs (upd H p o) (upd Hs p o) :=
  ⟨same_new h, same_new (none_sub s h), same_upd2 s, fun x u h1 h2 => by rw [upd_ne (ne_of_none h1 h)]; exact h2⟩
theorem Ext.hid {H Hs : Hp} {p : Addr} {o : HO} (s : Same Hs H) (h : H p = none) : Ext H Hs (upd H p o) Hs :=
  ⟨same_new h, Same.refl _, s.trans (same_new h), fun x u _ h2 => h2⟩

section
variable {K : PySem.W.Frag} {Fz : Hp} {ba : Nat → Addr} {G : Gam} {σ : L2.St} {H Hs H' Hs' : Hp}
theorem Rel.ext (r : Rel K Fz ba G σ H Hs) (e : Ext H Hs H' Hs') : Rel K Fz ba G σ H' Hs' where
  sub := e.c
  fz := fun a o h => let ⟨h1, h2⟩ := r.fz a o h; ⟨e.a a o h1, e.n a o h1 h2⟩
  len := r.len
  im := fun i d h => let ⟨v, h1, h2⟩ := r.im i d h; ⟨v, h1, h2.mono e.b⟩
  mu := fun i en ds h h0 => let ⟨l, vs, h1, h2, h3, h4, h5⟩ := r.mu i en ds h h0; ⟨l, vs, h1, e.a l _ h2, e.n l _ h2 h3, h4, h5.mono e.b⟩
  dj := r.dj
  bx := r.bx

def Res (K : PySem.W.Frag) (Fz : Hp) (G : Gam) (σ : L2.St) (H Hs : Hp) (v : V) : R → Prop
  | .im d => DR K Hs v d
  | .ow ds => ∃ p vs, v = .ref p ∧ H p = some (.lst vs) ∧ Hs p = none ∧ Fz p = none ∧ DRs K Hs vs ds ∧ ∀ (i : Nat) (e : Ent), G[i]? = some e → e.mu ≠ none → σ[i]? ≠ some (some (.ref p))

/-- an owned object becomes a shared one -/
theorem Rel.froze (r : Rel K Fz ba G σ H Hs) {p : Addr} {o : HO} (h : H p = some o) (hs : Hs p = none) (hf : Fz p = none) (hn : ∀ (i : Nat) (e : Ent), G[i]? = some e → e.mu ≠ none → σ[i]? ≠ some (some (.ref p))) :
    Rel K Fz ba G σ H (upd Hs p o) ∧ Same Hs (upd Hs p o) := by
  have sm : Same Hs (upd Hs p o) := same_new hs
  refine ⟨⟨fun a u e => ?_, fun a u e => ?_, r.len, fun i d e => ?_, fun i en ds e e0 => ?_, r.dj, r.bx⟩, sm⟩
  · by_cases z : a = p
    · subst z
      rw [upd_same] at e
      rw [h]
      exact e
    · rw [upd_ne z] at e
      exact r.sub a u e
  · obtain ⟨h1, h2⟩ := r.fz a u e
    refine ⟨h1, ?_⟩
    rw [upd_ne (ne_of_none e hf)]
    exact h2
  · obtain ⟨v, h1, h2⟩ := r.im i d e
    exact ⟨v, h1, h2.mono sm⟩
  · obtain ⟨l, vs, h1, h2, h3, h4, h5⟩ := r.mu i en ds e e0
    refine ⟨l, vs, h1, h2, ?_, h4, h5.mono sm⟩
    have z : l ≠ p := by
      intro z
      subst z
      exact hn i en e (by rw [e0]; simp) h1
    rw [upd_ne z]
    exact h3
theorem Rel.fzr (r : Rel K Fz ba G σ H Hs) {v : V} {x : R} (h : Res K Fz G σ H Hs v x) : ∃ Hs', Rel K Fz ba G σ H Hs' ∧ Same Hs Hs' ∧ DR K Hs' v x.d := by
  cases x with
  | im d => exact ⟨Hs, r, Same.refl _, h⟩
  | ow ds =>
    obtain ⟨p, vs, rfl, h1, h2, h3, h4, h5⟩ := h
    obtain ⟨q1, q2⟩ := r.froze h1 h2 h3 h5
    exact ⟨_, q1, q2, .lst upd_same (h4.mono q2)⟩
theorem get_set {α : Type} {l : List α} {i j : Nat} {a b : α} (h : (l.set i a)[j]? = some b) : (i = j ∧ b = a ∧ i < l.length) ∨ (i ≠ j ∧ l[j]? = some b) := by
  by_cases z : i = j
  · subst z
    by_cases hi : i < l.length
    · rw [List.getElem?_set_self hi] at h
      cases h
      exact .inl ⟨rfl, rfl, hi⟩
    · rw [List.getElem?_eq_none (by simp; omega)] at h
      cases h
  · rw [List.getElem?_set_ne z] at h
    exact .inr ⟨z, h⟩
/-- a name is stored -/
theorem Rel.set (r : Rel K Fz ba G σ H Hs) {i : Nat} {v : V} {x : R} (h : Res K Fz G σ H Hs v x) : Rel K Fz ba (G.set i x.ent) (σ.set i (some v)) H Hs where
  sub := r.sub
  fz := r.fz
  len := by rw [List.length_set, List.length_set]; exact r.len
  im := fun j d e => by
    rcases get_set e with ⟨rfl, e1, hi⟩ | ⟨z, e1⟩
    · refine ⟨v, by rw [List.getElem?_set_self (by rw [r.len]; exact hi)], ?_⟩
      cases x with
      | im d' => cases e1; exact h
      | ow ds => cases e1
    · obtain ⟨v', h1, h2⟩ := r.im j d e1
      exact ⟨v', by rw [List.getElem?_set_ne z]; exact h1, h2⟩
  mu := fun j en ds e e0 => by
    rcases get_set e with ⟨rfl, e1, hi⟩ | ⟨z, e1⟩
    · cases x with
      | im d' => subst e1; cases e0
      | ow ds' =>
        subst e1
        cases e0
        obtain ⟨p, vs, rfl, h1, h2, h3, h4, _⟩ := h
        exact ⟨p, vs, by rw [List.getElem?_set_self (by rw [r.len]; exact hi)], h1, h2, h3, h4⟩
    · obtain ⟨l, vs, h1, h2⟩ := r.mu j en ds e1 e0
      exact ⟨l, vs, by rw [List.getElem?_set_ne z]; exact h1, h2⟩
  dj := fun j k e e' l h1 h2 m1 m2 s1 s2 => by
    rcases get_set h1 with ⟨z1, e1, hi⟩ | ⟨z1, e1⟩
    · rcases get_set h2 with ⟨z2, e2, _⟩ | ⟨z2, e2⟩
      · exact z1.symm.trans z2
      · exfalso
        subst z1
        rw [List.getElem?_set_self (by rw [r.len]; exact hi)] at s1
        rw [List.getElem?_set_ne z2] at s2
        cases s1
        cases x with
        | im d' => subst e1; exact m1 rfl
        | ow ds' =>
          obtain ⟨p, vs, q, _, _, _, _, q2⟩ := h
          cases q
          exact q2 k e' e2 m2 s2
    · rcases get_set h2 with ⟨z2, e2, hi⟩ | ⟨z2, e2⟩
      · exfalso
        subst z2
        rw [List.getElem?_set_self (by rw [r.len]; exact hi)] at s2
        rw [List.getElem?_set_ne z1] at s1
        cases s2
        cases x with
        | im d' => subst e2; exact m2 rfl
        | ow ds' =>
          obtain ⟨p, vs, q, _, _, _, _, q2⟩ := h
          cases q
          exact q2 j e e1 m1 s1
      · rw [List.getElem?_set_ne z1] at s1
        rw [List.getElem?_set_ne z2] at s2
        exact r.dj j k e e' l e1 e2 m1 m2 s1 s2
  bx := fun j ds e => by
    rcases get_set e with ⟨_, e1, _⟩ | ⟨z, e1⟩
    · cases x <;> cases e1
    · rw [List.getElem?_set_ne z]
      exact r.bx j ds e1
/-- a slot is forgotten -/
theorem Rel.forget (r : Rel K Fz ba G σ H Hs) (i : Nat) : Rel K Fz ba (G.set i .un) (σ.set i none) H Hs where
  sub := r.sub
  fz := r.fz
  len := by rw [List.length_set, List.length_set]; exact r.len
  im := fun j d e => by
    rcases get_set e with ⟨_, e1, _⟩ | ⟨z, e1⟩
    · cases e1
    · rw [List.getElem?_set_ne z]
      exact r.im j d e1
  mu := fun j en ds e e0 => by
    rcases get_set e with ⟨_, e1, _⟩ | ⟨z, e1⟩
    · subst e1; cases e0
    · rw [List.getElem?_set_ne z]
      exact r.mu j en ds e1 e0
  dj := fun j k e e' l h1 h2 m1 m2 s1 s2 => by
    rcases get_set h1 with ⟨_, e1, _⟩ | ⟨z1, e1⟩
    · subst e1; exact absurd rfl m1
    · rcases get_set h2 with ⟨_, e2, _⟩ | ⟨z2, e2⟩
      · subst e2; exact absurd rfl m2
      · rw [List.getElem?_set_ne z1] at s1
        rw [List.getElem?_set_ne z2] at s2
        exact r.dj j k e e' l e1 e2 m1 m2 s1 s2
  bx := fun j ds e => by
    rcases get_set e with ⟨_, e1, _⟩ | ⟨z, e1⟩
    · cases e1
    · rw [List.getElem?_set_ne z]
      exact r.bx j ds e1
end

/-! ## readings that compute on data -/
def GOk (K : PySem.W.Frag) (t : TE) (f : M R) : Prop := ∀ Fz ba G σ H Hs r G', Rel K Fz ba G σ H Hs → f G = some (r, G') →
  ∀ Q : VK, (∀ v H' Hs', Rel K Fz ba G' σ H' Hs' → Same Hs Hs' → Res K Fz G' σ H' Hs' v r → Q v H') → t σ H Q
def TOk (K : PySem.W.Frag) (t : TT) (f : M Bool) : Prop := ∀ Fz ba G σ H Hs b G', Rel K Fz ba G σ H Hs → f G = some (b, G') →
  ∀ Q : Bool → Hp → Prop, (∀ H' Hs', Rel K Fz ba G' σ H' Hs' → Same Hs Hs' → Q b H') → t σ H Q
def AOk (K : PySem.W.Frag) (t : TA) (f : M (List D)) : Prop := ∀ Fz ba G σ H Hs ds G', Rel K Fz ba G σ H Hs → f G = some (ds, G') →
  ∀ Q : List V → Hp → Prop, (∀ vs H' Hs', Rel K Fz ba G' σ H' Hs' → Same Hs Hs' → DRs K Hs' vs ds → Q vs H') → t σ H Q
inductive Fl where
  | nx | bk | ct | rt (r : R)
abbrev MS := Gam → Option (Fl × Gam)
def Post (K : PySem.W.Frag) (Fz : Hp) (ba : Nat → Addr) (G' : Gam) (Hs : Hp) (Dn : Ends) : Fl → Prop
  | .nx => ∀ σ' H' Hs', Rel K Fz ba G' σ' H' Hs' → Same Hs Hs' → Dn.nx σ' H'
  | .bk => ∀ σ' H' Hs', Rel K Fz ba G' σ' H' Hs' → Same Hs Hs' → Dn.bk σ' H'
  | .ct => ∀ σ' H' Hs', Rel K Fz ba G' σ' H' Hs' → Same Hs Hs' → Dn.ct σ' H'
  | .rt r => ∀ v σ' H' Hs', Rel K Fz ba G' σ' H' Hs' → Same Hs Hs' → Res K Fz G' σ' H' Hs' v r → Dn.rt v H'
def SOk (K : PySem.W.Frag) (t : TS) (f : MS) : Prop := ∀ Fz ba G σ H Hs fl G', Rel K Fz ba G σ H Hs → f G = some (fl, G') → ∀ Dn : Ends, Post K Fz ba G' Hs Dn fl → t Dn σ H
theorem Post.mono {K : PySem.W.Frag} {Fz : Hp} {ba : Nat → Addr} {G' : Gam} {Hs Hs1 : Hp} {Dn : Ends} {fl : Fl} (h : Post K Fz ba G' Hs Dn fl) (s : Same Hs Hs1) : Post K Fz ba G' Hs1 Dn fl := by
  cases fl with
  | nx => exact fun σ' H' Hs' r q => h σ' H' Hs' r (s.trans q)
  | bk => exact fun σ' H' Hs' r q => h σ' H' Hs' r (s.trans q)
  | ct => exact fun σ' H' Hs' r q => h σ' H' Hs' r (s.trans q)
  | rt x => exact fun v σ' H' Hs' r q => h v σ' H' Hs' r (s.trans q)
/-- a target: which slots it writes -/
structure GtOk (K : PySem.W.Frag) (g : TG) (f : D → Gam → Option Gam) (js : List Nat) : Prop where
  run : ∀ Fz ba G σ H Hs v d G', Rel K Fz ba G σ H Hs → DR K Hs v d → f d G = some G' → ∀ Q : L2.St → Hp → Prop, (∀ σ', Rel K Fz ba G' σ' H Hs → σ'.length = σ.length → (∀ i : Nat, i ∉ js → σ'[i]? = σ[i]?) → Q σ' H) → g v σ H Q
/-- an iterator gives the items ds -/
structure Yl (K : PySem.W.Frag) (J : It) (ds : List D) (Hs0 : Hp) : Prop where
  go : ∀ i H, Same Hs0 H → i < ds.length → J.go i H
  stop : ∀ i H, Same Hs0 H → ds.length ≤ i → J.stop i H
  yld : ∀ i x H H' Hs, i < ds.length → Same Hs0 Hs → Same Hs H → J.yld i H x H' → ∃ d Hs', ds[i]? = some d ∧ Ext H Hs H' Hs' ∧ DR K Hs' x d
def IOk (K : PySem.W.Frag) (w : TI) (f : M (List D)) : Prop := ∀ Fz ba G σ H Hs ds G', Rel K Fz ba G σ H Hs → f G = some (ds, G') →
  ∀ Q : It → Hp → Prop, (∀ J H' Hs', Rel K Fz ba G' σ H' Hs' → Same Hs Hs' → Yl K J ds Hs' → Q J H') → w σ H Q
/-- a result that was laid behind H -/
def ResF (K : PySem.W.Frag) (H H' Hs' : Hp) (v : V) : R → Prop
  | .im d => DR K Hs' v d
  | .ow ds => ∃ p vs, v = .ref p ∧ H p = none ∧ H' p = some (.lst vs) ∧ Hs' p = none ∧ DRs K Hs' vs ds
theorem ResF.res {K : PySem.W.Frag} {Fz : Hp} {ba : Nat → Addr} {G : Gam} {σ : L2.St} {H Hs H' Hs' : Hp} {v : V} {x : R} (r : Rel K Fz ba G σ H Hs) (h : ResF K H H' Hs' v x) : Res K Fz G σ H' Hs' v x := by
  cases x with
  | im d => exact h
  | ow ds =>
    obtain ⟨p, vs, rfl, h1, h2, h3, h4⟩ := h
    refine ⟨p, vs, rfl, h2, h3, ?_, h4, fun i e g m q => ?_⟩
    · cases z : Fz p with
      | none => rfl
      | some o =>
        obtain ⟨z1, _⟩ := r.fz p o z
        rw [h1] at z1
        cases z1
    · obtain ⟨ds', hd⟩ : ∃ ds', e.mu = some ds' := by
        cases z : e.mu with
        | none => exact absurd z m
        | some ds' => exact ⟨ds', rfl⟩
      obtain ⟨l, ws, q1, q2, _⟩ := r.mu i e ds' g hd
      rw [q] at q1
      cases q1
      rw [h1] at q2
      cases q2
end Bk
/-! Bk2: what each construct computes on data, and that the readings do so. -/
namespace Bk
open PySem L2

def bd {α β : Type} (x : Option (α × Gam)) (f : α → Gam → Option β) : Option β := match x with
  | none => none
  | some (a, G) => f a G
@[simp] theorem bd_none {α β : Type} {f : α → Gam → Option β} : bd (none : Option (α × Gam)) f = none := rfl
@[simp] theorem bd_some {α β : Type} {a : α} {G : Gam} {f : α → Gam → Option β} : bd (some (a, G)) f = f a G := rfl
theorem bd_inv {α β : Type} {x : Option (α × Gam)} {f : α → Gam → Option β} {r : β} (h : bd x f = some r) : ∃ a G, x = some (a, G) ∧ f a G = some r := by
  cases x with
  | none => cases h
  | some p => exact ⟨p.1, p.2, rfl, h⟩

/-! ### combinators -/
def xv (i : Nat) : M R := fun G => match G[i]? with
  | some (.im d) => some (.im d, G)
  | some (.ow ds) => some (.im (.lst ds), G.set i (.im (.lst ds)))
  | _ => none
/-- the name's list, which the name gives away -/
def xmv (i : Nat) : M R := fun G => match G[i]? with
  | some (.im d) => some (.im d, G)
  | some (.ow ds) => some (.ow ds, G.set i .un)
  | _ => none
def xc (d : D) : M R := fun G => some (.im d, G)
def xop (o : D → D → Option R) (a b : M R) : M R := fun G => bd (a G) fun x G1 => bd (b G1) fun y G2 => match o x.d y.d with
  | none => none
  | some r => some (r, G2)
def xun (o : D → Option R) (a : M R) : M R := fun G => bd (a G) fun x G1 => match o x.d with
  | none => none
  | some r => some (r, G1)
def xnil : M (List D) := fun G => some ([], G)
def xcons (a : M R) (r : M (List D)) : M (List D) := fun G => bd (a G) fun x G1 => bd (r G1) fun xs G2 => some (x.d :: xs, G2)
def xcb (o : List D → Option R) (a : M (List D)) : M R := fun G => bd (a G) fun xs G1 => match o xs with
  | none => none
  | some r => some (r, G1)
def few (n : Nat) : Bool := decide (n ≤ 100000)
def xtup (a : M (List D)) : M R := fun G => bd (a G) fun xs G1 => if few xs.length then some (.im (.tup xs), G1) else none
def xlst (a : M (List D)) : M R := fun G => bd (a G) fun xs G1 => if few xs.length then some (.ow xs, G1) else none
def xif (t : M Bool) (a b : M R) : M R := fun G => bd (t G) fun k G1 => if k then a G1 else b G1
def xtest (a : M R) : M Bool := fun G => bd (a G) fun x G1 => match x.d with
  | .bl b => some (b, G1)
  | _ => none
def truth : D → Option Bool
  | .non => some false
  | .bl b => some b
  | .int i => some (i != 0)
  | .str x => if few x.length then some ((x.length : Int) != 0) else none
  | .lst xs => some (!xs.isEmpty)
  | .frz xs => some (!xs.isEmpty)
  | .tup xs => some (!xs.isEmpty)
  | _ => none
def xtru (a : M R) : M Bool := fun G => bd (a G) fun x G1 => match truth x.d with
  | some b => some (b, G1)
  | none => none
def xtand (a b : M Bool) : M Bool := fun G => bd (a G) fun k G1 => if k then b G1 else some (false, G1)
def xtor (a b : M Bool) : M Bool := fun G => bd (a G) fun k G1 => if k then some (true, G1) else b G1
def xtnot (a : M Bool) : M Bool := fun G => bd (a G) fun k G1 => some (!k, G1)
def xtyes : M Bool := fun G => some (true, G)
def xvand (a b : M R) : M R := fun G => bd (a G) fun x G1 => match x.d with
  | .bl k => if k then b G1 else some (.im (.bl false), G1)
  | _ => none
def xvor (a b : M R) : M R := fun G => bd (a G) fun x G1 => match x.d with
  | .bl k => if k then some (.im (.bl true), G1) else b G1
  | _ => none
def xvnot (a : M R) : M R := fun G => bd (a G) fun x G1 => match x.d with
  | .bl k => some (.im (.bl (!k)), G1)
  | _ => none
def xchain (o o' : D → D → Option R) (a b c : M R) : M R := fun G => bd (a G) fun x G1 => bd (b G1) fun y G2 => match o x.d y.d with
  | some (.im (.bl k)) => if k then bd (c G2) fun z G3 => (match o' y.d z.d with | some r => some (r, G3) | none => none) else some (.im (.bl false), G2)
  | _ => none
/-- a slice's part -/
abbrev MO := M (Option Int)
def xnop : MO := fun G => some (none, G)
def xpart (a : M R) : MO := fun G => bd (a G) fun x G1 => match x.d with
  | .int i => some (some i, G1)
  | _ => none
def xsl (o : D → Option Int → Option Int → Option R) (a : M R) (l h : MO) : M R := fun G => bd (a G) fun x G1 => bd (l G1) fun i G2 => bd (h G2) fun j G3 => match o x.d i j with
  | some r => some (r, G3)
  | none => none
def xcall (m : List D → Option R) (a : M (List D)) : M R := fun G => bd (a G) fun xs G1 => match m xs with
  | some r => some (r, G1)
  | none => none
def Ent.with (e : Ent) (ds : List D) : Ent := match e with
  | .ow _ => .ow ds
  | .bx _ => .bx ds
  | e => e
/-- a call that may change the list of the name at i -/
def isMu (G : Gam) (i : Nat) : Bool := match G[i]? with
  | some e => e.mu.isSome
  | none => false
def callB (m : List D → List D → Option (R × List D)) (i : Nat) (xs : List D) (G1 : Gam) : Option (R × Gam) := match G1[i]? with
  | some e => match e.mu with
    | some bs => match m bs xs with
      | some (r, bs') => some (r, G1.set i (e.with bs'))
      | none => none
    | none => none
  | none => none
def xcallB (m : List D → List D → Option (R × List D)) (i : Nat) (a : M (List D)) : M R := fun G => if isMu G i then bd (a G) fun xs G1 => callB m i xs G1 else none
/-- an item of the name's list at i, a number -/
def ixv (i : Nat) (y : D) (G1 : Gam) : Option (R × Gam) := match y, G1[i]? with
  | .int k, some e => match e.mu with
    | some ds => match atI ds k with
      | some d => some (.im d, G1)
      | none => none
    | none => none
  | _, _ => none
def xixv (i : Nat) (b : M R) : M R := fun G => if isMu G i then bd (b G) fun y G1 => ixv i y.d G1 else none
def xlenv (i : Nat) : M R := fun G => match G[i]? with
  | some e => match e.mu with
    | some ds => some (.im (.int ds.length), G)
    | none => none
  | none => none
/-- one way for a name that owns a list, another for a name that holds a value -/
def xby (i : Nat) (a b : M R) : M R := fun G => if isMu G i then a G else b G

/-! statements -/
def xnext : MS := fun G => some (.nx, G)
def xseq (s t : MS) : MS := fun G => match s G with
  | some (.nx, G1) => t G1
  | o => o
def xasg (a : M R) (tg : D → Gam → Option Gam) : MS := fun G => bd (a G) fun x G1 => match tg x.d G1 with
  | some G2 => some (.nx, G2)
  | none => none
def xset (i : Nat) (a : M R) : MS := fun G => bd (a G) fun x G1 => some (.nx, G1.set i x.ent)
def xpar (i j : Nat) (a : M (List D)) : MS := fun G => bd (a G) fun xs G1 => match xs with
  | [x, y] => some (.nx, (G1.set i (.im x)).set j (.im y))
  | _ => none
def xaug (i : Nat) (o : D → D → Option R) (a : M R) : MS := fun G => match G[i]? with
  | some (.im x) => bd (a G) fun y G1 => match o x y.d with
    | some r => some (.nx, G1.set i r.ent)
    | none => none
  | _ => none
def xret (a : M R) : MS := fun G => bd (a G) fun x G1 => some (.rt x, G1)
def xretN : MS := fun G => some (.rt (.im .non), G)
def xdrop (a : M R) : MS := fun G => bd (a G) fun _ G1 => some (.nx, G1)
def xifs (t : M Bool) (a b : MS) : MS := fun G => bd (t G) fun k G1 => if k then a G1 else b G1
def xbrk : MS := fun G => some (.bk, G)
def xcnt : MS := fun G => some (.ct, G)
def xnever : MS := fun _ => none
/-- the name's list grows -/
def app (i : Nat) (x : D) (G1 : Gam) : Option (Fl × Gam) := match G1[i]? with
  | some e => match e.mu with
    | some ds => if few ds.length then some (.nx, G1.set i (e.with (ds ++ [x]))) else none
    | none => none
  | none => none
def xapp (i : Nat) (a : M R) : MS := fun G => if isMu G i then bd (a G) fun x G1 => app i x.d G1 else none
/-- an item of the name's list is stored -/
def put (i : Nat) (x k : D) (G2 : Gam) : Option (Fl × Gam) := match k, G2[i]? with
  | .int k, some e => match e.mu with
    | some ds => match ixN ds.length k with
      | some j => some (.nx, G2.set i (e.with (ds.set j x)))
      | none => none
    | none => none
  | _, _ => none
def xput (i : Nat) (a b : M R) : MS := fun G => bd (a G) fun x G1 => if isMu G1 i then bd (b G1) fun k G2 => put i x.d k.d G2 else none
def xwhileN (c : M Bool) (b : MS) : Nat → MS
  | 0, _ => none
  | n + 1, G => bd (c G) fun k G1 => if k then (match b G1 with
      | some (.nx, G2) => xwhileN c b n G2
      | some (.ct, G2) => xwhileN c b n G2
      | some (.bk, G2) => some (.nx, G2)
      | some (.rt r, G2) => some (.rt r, G2)
      | none => none) else some (.nx, G1)
def xwhile (fuel : Gam → Nat) (c : M Bool) (b : MS) : MS := fun G => xwhileN c b (fuel G) G
def xforL (tg : D → Gam → Option Gam) (b : MS) : List D → MS
  | [], G => some (.nx, G)
  | d :: ds, G => match tg d G with
    | none => none
    | some G1 => match b G1 with
      | some (.nx, G2) => xforL tg b ds G2
      | some (.ct, G2) => xforL tg b ds G2
      | some (.bk, G2) => some (.nx, G2)
      | some (.rt r, G2) => some (.rt r, G2)
      | none => none
def xfor (it : M (List D)) (tg : D → Gam → Option Gam) (b : MS) : MS := fun G => bd (it G) fun ds G1 => xforL tg b ds G1

/-! targets -/
def tgn (i : Nat) : D → Gam → Option Gam := fun d G => some (G.set i (.im d))
def tgs : List (D → Gam → Option Gam) → List D → Gam → Option Gam
  | [], [], G => some G
  | t :: ts, d :: ds, G => match t d G with
    | some G1 => tgs ts ds G1
    | none => none
  | _, _, _ => none
def tgt (ts : List (D → Gam → Option Gam)) : D → Gam → Option Gam := fun d G => match d with
  | .tup ds => tgs ts ds G
  | _ => none

/-! comprehensions -/
def wipeG (G : Gam) : List Nat → Gam
  | [] => G
  | v :: vs => (wipeG G vs).set v .un
def unw (G1 G2 : Gam) : List Nat → Gam
  | [] => G2
  | v :: vs => (unw G1 G2 vs).set v (G1.getD v .un)
def noMu (G : Gam) (vs : List Nat) : Bool := vs.all fun v => match G[v]? with
  | some e => e.mu.isNone
  | none => true
def xlcL (tg : D → Gam → Option Gam) (t : M Bool) (e : M R) (vs : List Nat) : List D → M (List D)
  | [], G => some ([], G)
  | d :: ds, G => match tg d G with
    | none => none
    | some G1 => bd (t G1) fun k G2 => if k then bd (e G2) fun x G3 => bd (xlcL tg t e vs ds (wipeG G3 vs)) fun out G4 => some (x.d :: out, G4)
        else xlcL tg t e vs ds (wipeG G2 vs)
def xlc (it : M (List D)) (tg : D → Gam → Option Gam) (t : M Bool) (e : M R) (vs : List Nat) : M R := fun G => bd (it G) fun ds G1 =>
  if noMu G1 vs then bd (xlcL tg t e vs ds (wipeG G1 vs)) fun out G2 => if few out.length then some (.ow out, unw G1 G2 vs) else none else none

/-! iterables -/
def xiter (a : M R) : M (List D) := fun G => bd (a G) fun x G1 => match x.d with
  | .lst ds => some (ds, G1)
  | .frz ds => some (ds, G1)
  | _ => none
def xiterT (a : M R) : M (List D) := fun G => bd (a G) fun x G1 => match x.d with
  | .tup ds => some (ds, G1)
  | _ => none
def rng (lo : Int) (n : Nat) : List D := (List.range n).map fun (i : Nat) => .int (lo + (i : Int))
def okR (i : Int) : Bool := decide (-(2 ^ 62) ≤ i) && decide (i < 2 ^ 62)
def xrange1 (a : M (List D)) : M (List D) := fun G => bd (a G) fun xs G1 => match xs with
  | [.int n] => if okR n then some (rng 0 n.toNat, G1) else none
  | _ => none
def xrange2 (a : M (List D)) : M (List D) := fun G => bd (a G) fun xs G1 => match xs with
  | [.int l, .int n] => if okR l && okR n then some (rng l (n - l).toNat, G1) else none
  | _ => none
def asL : D → Option (List D)
  | .lst ds => some ds
  | .frz ds => some ds
  | _ => none
def xzip (a : M (List D)) : M (List D) := fun G => bd (a G) fun xs G1 => match xs with
  | [x, y] => match asL x, asL y with
    | some ds, some es => some ((ds.zip es).map fun p => .tup [p.1, p.2], G1)
    | _, _ => none
  | _ => none
def enumD (k : Nat) : List D → List D
  | [] => []
  | d :: ds => .tup [.int (k : Int), d] :: enumD (k + 1) ds
def xenum (a : M (List D)) : M (List D) := fun G => bd (a G) fun xs G1 => match xs with
  | [x] => match asL x with
    | some ds => some (enumD 0 ds, G1)
    | none => none
  | _ => none

/-! ### the readings -/
section
variable {K : PySem.W.Frag}
theorem few_ok {n : Nat} (h : few n = true) : n ≤ sizeLine := Nat.le_trans (of_decide_eq_true h) (by decide)
theorem few_lt {n : Nat} (h : few n = true) : n < sizeLine := Nat.lt_of_le_of_lt (of_decide_eq_true h) (by decide)

/-- an expression, its value shared -/
theorem GOk.im {t : TE} {f : M R} (h : GOk K t f) {Fz : Hp} {ba : Nat → Addr} {G : Gam} {σ : L2.St} {H Hs : Hp} {r : R} {G' : Gam} (q : Rel K Fz ba G σ H Hs) (e : f G = some (r, G')) {Q : VK}
    (k : ∀ v H' Hs', Rel K Fz ba G' σ H' Hs' → Same Hs Hs' → DR K Hs' v r.d → Q v H') : t σ H Q :=
  h Fz ba G σ H Hs r G' q e Q fun v H' Hs' q' s x => by
    obtain ⟨Hs2, q2, s2, d⟩ := q'.fzr x
    exact k v H' Hs2 q2 (s.trans s2) d

theorem gk_c {v : V} {d : D} (h : ∀ H, DR K H v d) : GOk K (tC v) (xc d) := fun Fz ba G σ H Hs r G' q e Q k => by
  cases e
  exact k v H Hs q (Same.refl _) (h Hs)
theorem gk_int {i : Int} : GOk K (tC (.int i)) (xc (.int i)) := gk_c fun _ => .int i
theorem gk_bl {b : Bool} : GOk K (tC (.bl b)) (xc (.bl b)) := gk_c fun _ => .bl b
theorem gk_non : GOk K (tC .non) (xc .non) := gk_c fun _ => .non
theorem gk_str {x : PySem.Str} : GOk K (tC (.str x)) (xc (.str x)) := gk_c fun _ => .str x
theorem same_frz {Hs : Hp} {p : Addr} {o : HO} (h : Hs p = none) : Same Hs (upd Hs p o) := same_new h
theorem Rel.notmu {Fz : Hp} {ba : Nat → Addr} {G : Gam} {σ : L2.St} {H Hs : Hp} (q : Rel K Fz ba G σ H Hs) {i : Nat} {e e2 : Ent} {l : Addr} (h1 : G[i]? = some e) (m1 : e.mu ≠ none) (s1 : σ[i]? = some (some (.ref l))) :
    ∀ (j : Nat) (e' : Ent), (G.set i e2)[j]? = some e' → e2.mu = none → e'.mu ≠ none → σ[j]? ≠ some (some (.ref l)) := fun j e' h2 m0 m2 s2 => by
  rcases get_set h2 with ⟨_, e1, _⟩ | ⟨z, h3⟩
  · subst e1; exact m2 m0
  · exact z (q.dj i j e e' l h1 h3 m1 m2 s1 s2)
/-- the entry at i is another, that owns nothing -/
theorem Rel.re {Fz : Hp} {ba : Nat → Addr} {G : Gam} {σ : L2.St} {H Hs : Hp} (q : Rel K Fz ba G σ H Hs) {i : Nat} {e : Ent} (m : e.mu = none) (h : ∀ d, e = .im d → ∃ v, σ[i]? = some (some v) ∧ DR K Hs v d) : Rel K Fz ba (G.set i e) σ H Hs where
  sub := q.sub
  fz := q.fz
  len := by rw [List.length_set]; exact q.len
  im := fun j d h1 => by
    rcases get_set h1 with ⟨rfl, e1, _⟩ | ⟨z, h2⟩
    · exact h d e1.symm
    · exact q.im j d h2
  mu := fun j en ds h1 h0 => by
    rcases get_set h1 with ⟨rfl, e1, _⟩ | ⟨z, h2⟩
    · subst e1; rw [m] at h0; cases h0
    · exact q.mu j en ds h2 h0
  dj := fun j k e1 e2 l h1 h2 m1 m2 s1 s2 => by
    rcases get_set h1 with ⟨_, z1, _⟩ | ⟨z1, h1⟩
    · subst z1; exact absurd m m1
    · rcases get_set h2 with ⟨_, z2, _⟩ | ⟨z2, h2⟩
      · subst z2; exact absurd m m2
      · exact q.dj j k e1 e2 l h1 h2 m1 m2 s1 s2
  bx := fun j ds h1 => by
    rcases get_set h1 with ⟨_, e1, _⟩ | ⟨z, h2⟩
    · subst e1; cases m
    · exact q.bx j ds h2
theorem gk_var {i : Nat} : GOk K (tVar i) (xv i) := fun Fz ba G σ H Hs r G' q e Q k => by
  unfold xv at e
  cases h : G[i]? with
  | none => rw [h] at e; cases e
  | some en =>
    rw [h] at e
    cases en with
    | un => cases e
    | bx ds => cases e
    | im d =>
      cases e
      obtain ⟨v, h1, h2⟩ := q.im i d h
      exact ⟨v, h1, k v H Hs q (Same.refl _) h2⟩
    | ow ds =>
      cases e
      obtain ⟨l, vs, h1, h2, h3, h4, h5⟩ := q.mu i _ ds h rfl
      have q1 : Rel K Fz ba (G.set i .un) σ H Hs := q.re rfl fun d z => nomatch z
      obtain ⟨q2, s2⟩ := q1.froze h2 h3 h4 fun j e' g m => q.notmu h (by simp [Ent.mu]) h1 j e' g rfl m
      have q3 : Rel K Fz ba ((G.set i .un).set i (.im (.lst ds))) σ H (upd Hs l (.lst vs)) := q2.re rfl fun d z => by
        cases z
        exact ⟨_, h1, .lst upd_same (h5.mono s2)⟩
      rw [List.set_set] at q3
      exact ⟨_, h1, k _ H _ q3 s2 (.lst upd_same (h5.mono s2))⟩
theorem gk_mv {i : Nat} : GOk K (tVar i) (xmv i) := fun Fz ba G σ H Hs r G' q e Q k => by
  unfold xmv at e
  cases h : G[i]? with
  | none => rw [h] at e; cases e
  | some en =>
    rw [h] at e
    cases en with
    | un => cases e
    | bx ds => cases e
    | im d =>
      cases e
      obtain ⟨v, h1, h2⟩ := q.im i d h
      exact ⟨v, h1, k v H Hs q (Same.refl _) h2⟩
    | ow ds =>
      cases e
      obtain ⟨l, vs, h1, h2, h3, h4, h5⟩ := q.mu i _ ds h rfl
      have q1 : Rel K Fz ba (G.set i .un) σ H Hs := q.re rfl fun d z => nomatch z
      exact ⟨_, h1, k _ H Hs q1 (Same.refl _) ⟨l, vs, rfl, h2, h3, h4, h5, fun j e' g m => q.notmu h (by simp [Ent.mu]) h1 j e' g rfl m⟩⟩

def OpD (K : PySem.W.Frag) (r : R2) (o : D → D → Option R) : Prop := ∀ H Hs x y dx dy res, Same Hs H → DR K Hs x dx → DR K Hs y dy → o dx dy = some res →
  ∀ Q : VK, (∀ v H' Hs', Ext H Hs H' Hs' → ResF K H H' Hs' v res → Q v H') → r x y H Q
def UnD (K : PySem.W.Frag) (r : V → Hp → VK → Prop) (o : D → Option R) : Prop := ∀ H Hs x dx res, Same Hs H → DR K Hs x dx → o dx = some res →
  ∀ Q : VK, (∀ v H' Hs', Ext H Hs H' Hs' → ResF K H H' Hs' v res → Q v H') → r x H Q
def CbD (K : PySem.W.Frag) (r : List V → Hp → VK → Prop) (o : List D → Option R) : Prop := ∀ H Hs xs ds res, Same Hs H → DRs K Hs xs ds → o ds = some res →
  ∀ Q : VK, (∀ v H' Hs', Ext H Hs H' Hs' → ResF K H H' Hs' v res → Q v H') → r xs H Q
def SlD (K : PySem.W.Frag) (r : V → Option Int → Option Int → Hp → VK → Prop) (o : D → Option Int → Option Int → Option R) : Prop := ∀ H Hs x dx l h res, Same Hs H → DR K Hs x dx → o dx l h = some res →
  ∀ Q : VK, (∀ v H' Hs', Ext H Hs H' Hs' → ResF K H H' Hs' v res → Q v H') → r x l h H Q

theorem gk_op {r : R2} {o : D → D → Option R} {ta tb : TE} {a b : M R} (ho : OpD K r o) (ha : GOk K ta a) (hb : GOk K tb b) : GOk K (tOp r ta tb) (xop o a b) := fun Fz ba G σ H Hs res G' q e Q k => by
  obtain ⟨x, G1, e1, e⟩ := bd_inv e
  obtain ⟨y, G2, e2, e⟩ := bd_inv e
  cases h : o x.d y.d with
  | none => rw [h] at e; cases e
  | some r' =>
    rw [h] at e
    cases e
    refine ha.im q e1 fun v1 H1 Hs1 q1 s1 d1 => ?_
    refine hb.im q1 e2 fun v2 H2 Hs2 q2 s2 d2 => ?_
    exact ho H2 Hs2 v1 v2 x.d y.d _ q2.sub (d1.mono s2) d2 h Q fun v H3 Hs3 ex rf => k v H3 Hs3 (q2.ext ex) ((s1.trans s2).trans ex.b) (rf.res q2)
theorem gk_un {r : V → Hp → VK → Prop} {o : D → Option R} {ta : TE} {a : M R} (ho : UnD K r o) (ha : GOk K ta a) : GOk K (tUn r ta) (xun o a) := fun Fz ba G σ H Hs res G' q e Q k => by
  obtain ⟨x, G1, e1, e⟩ := bd_inv e
  cases h : o x.d with
  | none => rw [h] at e; cases e
  | some r' =>
    rw [h] at e
    cases e
    refine ha.im q e1 fun v1 H1 Hs1 q1 s1 d1 => ?_
    exact ho H1 Hs1 v1 x.d _ q1.sub d1 h Q fun v H3 Hs3 ex rf => k v H3 Hs3 (q1.ext ex) (s1.trans ex.b) (rf.res q1)
theorem ak_nil : AOk K tNil xnil := fun Fz ba G σ H Hs ds G' q e Q k => by
  cases e
  exact k [] H Hs q (Same.refl _) .nil
theorem ak_cons {ta : TE} {tr : TA} {a : M R} {r : M (List D)} (ha : GOk K ta a) (hr : AOk K tr r) : AOk K (tCons ta tr) (xcons a r) := fun Fz ba G σ H Hs ds G' q e Q k => by
  obtain ⟨x, G1, e1, e⟩ := bd_inv e
  obtain ⟨xs, G2, e2, e⟩ := bd_inv e
  cases e
  refine ha.im q e1 fun v1 H1 Hs1 q1 s1 d1 => ?_
  exact hr Fz ba G1 σ H1 Hs1 xs _ q1 e2 _ fun vs H2 Hs2 q2 s2 d2 => k _ H2 Hs2 q2 (s1.trans s2) (.cons (d1.mono s2) d2)
theorem gk_cb {r : List V → Hp → VK → Prop} {o : List D → Option R} {ta : TA} {a : M (List D)} (ho : CbD K r o) (ha : AOk K ta a) : GOk K (tCB r ta) (xcb o a) := fun Fz ba G σ H Hs res G' q e Q k => by
  obtain ⟨xs, G1, e1, e⟩ := bd_inv e
  cases h : o xs with
  | none => rw [h] at e; cases e
  | some r' =>
    rw [h] at e
    cases e
    refine ha Fz ba G σ H Hs xs _ q e1 _ fun vs H1 Hs1 q1 s1 d1 => ?_
    exact ho H1 Hs1 vs xs _ q1.sub d1 h Q fun v H3 Hs3 ex rf => k v H3 Hs3 (q1.ext ex) (s1.trans ex.b) (rf.res q1)
theorem gk_tup {ta : TA} {a : M (List D)} (ha : AOk K ta a) : GOk K (tTup ta) (xtup a) := fun Fz ba G σ H Hs res G' q e Q k => by
  obtain ⟨xs, G1, e1, e⟩ := bd_inv e
  split at e
  · rename_i hf
    cases e
    refine ha Fz ba G σ H Hs xs _ q e1 _ fun vs H1 Hs1 q1 s1 d1 => ⟨by rw [d1.len]; exact few_ok hf, fun p hp => ?_⟩
    have ex : Ext H1 Hs1 (upd H1 p (.tup vs)) (upd Hs1 p (.tup vs)) := Ext.new q1.sub hp
    exact k _ _ _ (q1.ext ex) (s1.trans ex.b) (.tup (SqT.of upd_same) (d1.mono ex.b))
  · cases e
theorem gk_lst {ta : TA} {a : M (List D)} (ha : AOk K ta a) : GOk K (tLst ta) (xlst a) := fun Fz ba G σ H Hs res G' q e Q k => by
  obtain ⟨xs, G1, e1, e⟩ := bd_inv e
  split at e
  · rename_i hf
    cases e
    refine ha Fz ba G σ H Hs xs _ q e1 _ fun vs H1 Hs1 q1 s1 d1 => ⟨by rw [d1.len]; exact few_ok hf, fun p hp => ?_⟩
    have ex : Ext H1 Hs1 (upd H1 p (.lst vs)) Hs1 := Ext.hid q1.sub hp
    have rf : ResF K H1 (upd H1 p (.lst vs)) Hs1 (.ref p) (.ow xs) := ⟨p, vs, rfl, hp, upd_same, none_sub q1.sub hp, d1⟩
    exact k _ _ _ (q1.ext ex) (s1.trans ex.b) (rf.res q1)
  · cases e
theorem gk_if {t : TT} {ta tb : TE} {c : M Bool} {a b : M R} (hc : TOk K t c) (ha : GOk K ta a) (hb : GOk K tb b) : GOk K (tIf t ta tb) (xif c a b) := fun Fz ba G σ H Hs res G' q e Q k => by
  obtain ⟨x, G1, e1, e⟩ := bd_inv e
  refine hc Fz ba G σ H Hs x G1 q e1 _ fun H1 Hs1 q1 s1 => ?_
  cases x with
  | true => exact ha Fz ba G1 σ H1 Hs1 res G' q1 e Q fun v H2 Hs2 q2 s2 d => k v H2 Hs2 q2 (s1.trans s2) d
  | false => exact hb Fz ba G1 σ H1 Hs1 res G' q1 e Q fun v H2 Hs2 q2 s2 d => k v H2 Hs2 q2 (s1.trans s2) d
theorem dr_bl {H : Hp} {v : V} {b : Bool} (h : DR K H v (.bl b)) : v = .bl b := by cases h; rfl
theorem dr_int {H : Hp} {v : V} {i : Int} (h : DR K H v (.int i)) : v = .int i := by cases h; rfl
theorem tk_test {ta : TE} {a : M R} (ha : GOk K ta a) : TOk K (tTest ta) (xtest a) := fun Fz ba G σ H Hs b G' q e Q k => by
  obtain ⟨x, G1, e1, e⟩ := bd_inv e
  refine ha.im q e1 fun v H1 Hs1 q1 s1 d => ?_
  cases h : x.d with
  | bl c =>
    rw [h] at e d
    cases e
    exact ⟨_, dr_bl d, k H1 Hs1 q1 s1⟩
  | _ => rw [h] at e; cases e
theorem tk_B {ta : TE} {a : M R} (ha : GOk K ta a) : TOk K (tB ta) (xtest a) := tk_test ha
theorem truth_ok {H : Hp} {v : V} {d : D} {b : Bool} (h : DR K H v d) (e : truth d = some b) : TruV K v H b := by
  have emp : ∀ {vs : List V} {ds : List D}, DRs K H vs ds → (!ds.isEmpty) = !vs.isEmpty := fun h => by cases h <;> rfl
  cases h with
  | non => cases e; rfl
  | bl b => cases e; rfl
  | int i => cases e; rfl
  | str x =>
    by_cases hf : few x.length = true
    · rw [show truth (.str x) = some ((x.length : Int) != 0) from if_pos hf] at e
      cases e
      exact ⟨few_ok hf, rfl⟩
    · rw [show truth (.str x) = none from if_neg hf] at e
      cases e
  | lst h hs => cases e; exact .inl ⟨_, SqL.of h, emp hs⟩
  | frz h hs => cases e; exact .inl ⟨_, h, emp hs⟩
  | tup h hs => cases e; exact .inr (.inl ⟨_, h, emp hs⟩)
  | _ => cases e
theorem tru_mono {x : V} {H H' : Hp} {k : Bool} (s : Same H H') (h : TruV K x H k) : TruV K x H' k := by
  cases x with
  | ref p =>
    rcases h with ⟨xs, h1, h2⟩ | ⟨xs, h1, h2⟩ | ⟨kvs, h1, h2⟩
    · exact .inl ⟨xs, same_lst s h1, h2⟩
    · exact .inr (.inl ⟨xs, same_tup s h1, h2⟩)
    · exact .inr (.inr ⟨kvs, s _ _ h1, h2⟩)
  | _ => exact h
theorem tk_tru {ta : TE} {a : M R} (ha : GOk K ta a) : TOk K (fun σ H Q => ta σ H fun x H' => ∃ k, TruV K x H' k ∧ Q k H') (xtru a) := fun Fz ba G σ H Hs b G' q e Q k => by
  obtain ⟨x, G1, e1, e⟩ := bd_inv e
  refine ha.im q e1 fun v H1 Hs1 q1 s1 d => ?_
  cases h : truth x.d with
  | none => rw [h] at e; cases e
  | some c =>
    rw [h] at e
    cases e
    exact ⟨_, tru_mono q1.sub (truth_ok d h), k H1 Hs1 q1 s1⟩
theorem tk_and {t u : TT} {a b : M Bool} (ha : TOk K t a) (hb : TOk K u b) : TOk K (tAnd t u) (xtand a b) := fun Fz ba G σ H Hs r G' q e Q k => by
  obtain ⟨x, G1, e1, e⟩ := bd_inv e
  refine ha Fz ba G σ H Hs x G1 q e1 _ fun H1 Hs1 q1 s1 => ?_
  cases x with
  | true => exact hb Fz ba G1 σ H1 Hs1 r G' q1 e Q fun H2 Hs2 q2 s2 => k H2 Hs2 q2 (s1.trans s2)
  | false => cases e; exact k H1 Hs1 q1 s1
theorem tk_or {t u : TT} {a b : M Bool} (ha : TOk K t a) (hb : TOk K u b) : TOk K (tOr t u) (xtor a b) := fun Fz ba G σ H Hs r G' q e Q k => by
  obtain ⟨x, G1, e1, e⟩ := bd_inv e
  refine ha Fz ba G σ H Hs x G1 q e1 _ fun H1 Hs1 q1 s1 => ?_
  cases x with
  | true => cases e; exact k H1 Hs1 q1 s1
  | false => exact hb Fz ba G1 σ H1 Hs1 r G' q1 e Q fun H2 Hs2 q2 s2 => k H2 Hs2 q2 (s1.trans s2)
theorem tk_not {t : TT} {a : M Bool} (ha : TOk K t a) : TOk K (tNot t) (xtnot a) := fun Fz ba G σ H Hs r G' q e Q k => by
  obtain ⟨x, G1, e1, e⟩ := bd_inv e
  cases e
  exact ha Fz ba G σ H Hs x _ q e1 _ fun H1 Hs1 q1 s1 => k H1 Hs1 q1 s1
theorem tk_yes : TOk K tYes xtyes := fun Fz ba G σ H Hs r G' q e Q k => by
  cases e
  exact k H Hs q (Same.refl _)
theorem gk_vand {ta tb : TE} {a b : M R} (ha : GOk K ta a) (hb : GOk K tb b) : GOk K (tAndV ta tb) (xvand a b) := fun Fz ba G σ H Hs res G' q e Q k => by
  obtain ⟨x, G1, e1, e⟩ := bd_inv e
  refine ha.im q e1 fun v H1 Hs1 q1 s1 d => ?_
  cases h : x.d with
  | bl c =>
    rw [h] at e d
    refine ⟨c, dr_bl d, ?_⟩
    cases c with
    | true => exact hb Fz ba G1 σ H1 Hs1 res G' q1 e Q fun v H2 Hs2 q2 s2 d => k v H2 Hs2 q2 (s1.trans s2) d
    | false => cases e; exact k _ H1 Hs1 q1 s1 (.bl false)
  | _ => rw [h] at e; cases e
theorem gk_vor {ta tb : TE} {a b : M R} (ha : GOk K ta a) (hb : GOk K tb b) : GOk K (tOrV ta tb) (xvor a b) := fun Fz ba G σ H Hs res G' q e Q k => by
  obtain ⟨x, G1, e1, e⟩ := bd_inv e
  refine ha.im q e1 fun v H1 Hs1 q1 s1 d => ?_
  cases h : x.d with
  | bl c =>
    rw [h] at e d
    refine ⟨c, dr_bl d, ?_⟩
    cases c with
    | false => exact hb Fz ba G1 σ H1 Hs1 res G' q1 e Q fun v H2 Hs2 q2 s2 d => k v H2 Hs2 q2 (s1.trans s2) d
    | true => cases e; exact k _ H1 Hs1 q1 s1 (.bl true)
  | _ => rw [h] at e; cases e
theorem gk_vnot {ta : TE} {a : M R} (ha : GOk K ta a) : GOk K (tNotV ta) (xvnot a) := fun Fz ba G σ H Hs res G' q e Q k => by
  obtain ⟨x, G1, e1, e⟩ := bd_inv e
  refine ha.im q e1 fun v H1 Hs1 q1 s1 d => ?_
  cases h : x.d with
  | bl c =>
    rw [h] at e d
    cases e
    exact ⟨c, dr_bl d, k _ H1 Hs1 q1 s1 (.bl _)⟩
  | _ => rw [h] at e; cases e
theorem gk_chain {r r' : R2} {o o' : D → D → Option R} {ta tb tc : TE} {a b c : M R} (ho : OpD K r o) (ho' : OpD K r' o') (ha : GOk K ta a) (hb : GOk K tb b) (hc : GOk K tc c) : GOk K (tChain r r' ta tb tc) (xchain o o' a b c) :=
  fun Fz ba G σ H Hs res G' q e Q k => by
  obtain ⟨x, G1, e1, e⟩ := bd_inv e
  obtain ⟨y, G2, e2, e⟩ := bd_inv e
  refine ha.im q e1 fun v1 H1 Hs1 q1 s1 d1 => ?_
  refine hb.im q1 e2 fun v2 H2 Hs2 q2 s2 d2 => ?_
  cases h : o x.d y.d with
  | none => rw [h] at e; cases e
  | some r1 =>
    rw [h] at e
    cases r1 with
    | ow ds => cases e
    | im dd =>
      cases dd with
      | bl kk =>
        refine ho H2 Hs2 v1 v2 x.d y.d _ q2.sub (d1.mono s2) d2 h _ fun v H3 Hs3 ex rf => ⟨kk, dr_bl rf, ?_⟩
        have q3 := q2.ext ex
        cases kk with
        | false => cases e; exact k _ H3 Hs3 q3 ((s1.trans s2).trans ex.b) (.bl false)
        | true =>
          obtain ⟨z, G3, e3, e⟩ := bd_inv e
          cases h' : o' y.d z.d with
          | none => rw [h'] at e; cases e
          | some r2 =>
            rw [h'] at e
            cases e
            refine hc.im q3 e3 fun v3 H4 Hs4 q4 s4 d4 => ?_
            exact ho' H4 Hs4 v2 v3 y.d z.d _ q4.sub (d2.mono (ex.b.trans s4)) d4 h' Q fun v H5 Hs5 ex5 rf5 => k v H5 Hs5 (q4.ext ex5) ((((s1.trans s2).trans ex.b).trans s4).trans ex5.b) (rf5.res q4)
      | _ => cases e
/-! slices -/
def POk (K : PySem.W.Frag) (t : TO) (f : MO) : Prop := ∀ Fz ba G σ H Hs o G', Rel K Fz ba G σ H Hs → f G = some (o, G') →
  ∀ Q : Option Int → Hp → Prop, (∀ H' Hs', Rel K Fz ba G' σ H' Hs' → Same Hs Hs' → Q o H') → t σ H Q
theorem pk_none : POk K tNoPart xnop := fun Fz ba G σ H Hs r G' q e Q k => by
  cases e
  exact k H Hs q (Same.refl _)
theorem pk_some {ta : TE} {a : M R} (ha : GOk K ta a) : POk K (tPart ta) (xpart a) := fun Fz ba G σ H Hs r G' q e Q k => by
  obtain ⟨x, G1, e1, e⟩ := bd_inv e
  refine ha.im q e1 fun v H1 Hs1 q1 s1 d => ?_
  cases h : x.d with
  | int i =>
    rw [h] at e d
    cases e
    exact ⟨i, dr_int d, k H1 Hs1 q1 s1⟩
  | _ => rw [h] at e; cases e
theorem gk_sl {r : V → Option Int → Option Int → Hp → VK → Prop} {o : D → Option Int → Option Int → Option R} {ta : TE} {tl th : TO} {a : M R} {l h : MO} (ho : SlD K r o) (ha : GOk K ta a) (hl : POk K tl l) (hh : POk K th h) : GOk K (tSl r ta tl th) (xsl o a l h) :=
  fun Fz ba G σ H Hs res G' q e Q k => by
  obtain ⟨x, G1, e1, e⟩ := bd_inv e
  obtain ⟨i, G2, e2, e⟩ := bd_inv e
  obtain ⟨j, G3, e3, e⟩ := bd_inv e
  cases h' : o x.d i j with
  | none => rw [h'] at e; cases e
  | some r1 =>
    rw [h'] at e
    cases e
    refine ha.im q e1 fun v1 H1 Hs1 q1 s1 d1 => ?_
    refine hl Fz ba G1 σ H1 Hs1 i G2 q1 e2 _ fun H2 Hs2 q2 s2 => ?_
    refine hh Fz ba G2 σ H2 Hs2 j _ q2 e3 _ fun H3 Hs3 q3 s3 => ?_
    exact ho H3 Hs3 v1 x.d i j _ q3.sub (d1.mono (s2.trans s3)) h' Q fun v H5 Hs5 ex5 rf5 => k v H5 Hs5 (q3.ext ex5) (((s1.trans s2).trans s3).trans ex5.b) (rf5.res q3)
end
end Bk
/-! Bk3: calls, the named lists, statements, loops, comprehensions. -/
namespace Bk
open PySem L2
section
variable {K : PySem.W.Frag}

/-! ### calls -/
/-- a def that computes m -/
def spF (K : PySem.W.Frag) (m : List D → Option R) : Sp := fun vs H Q _ => ∃ Hs ds r, Same Hs H ∧ DRs K Hs vs ds ∧ m ds = some r ∧ ∀ v H' Hs', Ext H Hs H' Hs' → ResF K H H' Hs' v r → Q v H'
structure ExtB (l : Addr) (H Hs H' Hs' : Hp) : Prop where
  a : ∀ x o, x ≠ l → H x = some o → H' x = some o
  b : Same Hs Hs'
  c : Same Hs' H'
  n : ∀ x o, H x = some o → Hs x = none → Hs' x = none
/-- a def whose first argument is a list that it may change -/
def spB (K : PySem.W.Frag) (m : List D → List D → Option (R × List D)) : Sp := fun vs H Q _ => ∃ Hs l vs' bvs bds ds r bds', vs = V.ref l :: vs' ∧ Same Hs H ∧ H l = some (.lst bvs) ∧ Hs l = none ∧ DRs K Hs bvs bds ∧ DRs K Hs vs' ds ∧
  m bds ds = some (r, bds') ∧ ∀ v H' Hs' bvs', ExtB l H Hs H' Hs' → H' l = some (.lst bvs') → Hs' l = none → DRs K Hs' bvs' bds' → ResF K H H' Hs' v r → Q v H'
theorem gk_call {m : List D → Option R} {E : XK} {ta : TA} {a : M (List D)} (ha : AOk K ta a) : GOk K (tCall (spF K m) [] E ta) (xcall m a) := fun Fz ba G σ H Hs res G' q e Q k => by
  obtain ⟨xs, G1, e1, e⟩ := bd_inv e
  cases h : m xs with
  | none => rw [h] at e; cases e
  | some r' =>
    rw [h] at e
    cases e
    refine ha Fz ba G σ H Hs xs _ q e1 _ fun vs H1 Hs1 q1 s1 d1 => ?_
    exact ⟨Hs1, xs, _, q1.sub, by rw [List.append_nil]; exact d1, h, fun v H3 Hs3 ex rf => k v H3 Hs3 (q1.ext ex) (s1.trans ex.b) (rf.res q1)⟩
theorem with_mu {e : Ent} {ds es : List D} (h : e.mu = some ds) : (e.with es).mu = some es := by
  cases e with
  | un => cases h
  | im d => cases h
  | ow _ => rfl
  | bx _ => rfl
/-- the list of the name at i has changed -/
theorem Rel.mut {Fz : Hp} {ba : Nat → Addr} {G : Gam} {σ : L2.St} {H Hs H' Hs' : Hp} (q : Rel K Fz ba G σ H Hs) {i : Nat} {e : Ent} {ds es : List D} {l : Addr} {ws : List V} (h : G[i]? = some e) (m : e.mu = some ds) (s : σ[i]? = some (some (.ref l)))
    (x : ExtB l H Hs H' Hs') (hl : H' l = some (.lst ws)) (hn : Hs' l = none) (hd : DRs K Hs' ws es) : Rel K Fz ba (G.set i (e.with es)) σ H' Hs' := by
  obtain ⟨l0, vs0, z1, z2, z3, z4, _⟩ := q.mu i e ds h m
  rw [s] at z1
  cases z1
  have me : e.mu ≠ none := by rw [m]; simp
  refine ⟨x.c, fun a o f => ?_, by rw [List.length_set]; exact q.len, fun j d f => ?_, fun j en ds' f f0 => ?_, fun j k e1 e2 l' f1 f2 m1 m2 s1 s2 => ?_, fun j ds' f => ?_⟩
  · obtain ⟨f1, f2⟩ := q.fz a o f
    have ne : a ≠ l := ne_of_none f z4
    exact ⟨x.a a o ne f1, x.n a o f1 f2⟩
  · rcases get_set f with ⟨_, e1, _⟩ | ⟨_, f⟩
    · exfalso
      have z := with_mu (es := es) m
      rw [← e1] at z
      cases z
    · obtain ⟨v, g1, g2⟩ := q.im j d f
      exact ⟨v, g1, g2.mono x.b⟩
  · rcases get_set f with ⟨rfl, e1, _⟩ | ⟨z, f⟩
    · subst e1
      rw [with_mu m] at f0
      cases f0
      exact ⟨l, ws, s, hl, hn, z4, hd⟩
    · obtain ⟨l', vs, g1, g2, g3, g4, g5⟩ := q.mu j en ds' f f0
      have ne : l' ≠ l := fun y => by
        subst y
        exact z (q.dj i j e en l' h f me (by rw [f0]; simp) s g1)
      exact ⟨l', vs, g1, x.a l' _ ne g2, x.n l' _ g2 g3, g4, g5.mono x.b⟩
  · have old : ∀ {j : Nat} {en : Ent}, (G.set i (e.with es))[j]? = some en → en.mu ≠ none → ∃ en', G[j]? = some en' ∧ en'.mu ≠ none := fun {j en} f m' => by
      rcases get_set f with ⟨rfl, _, _⟩ | ⟨_, f⟩
      · exact ⟨e, h, me⟩
      · exact ⟨en, f, m'⟩
    obtain ⟨y1, a1, a2⟩ := old f1 m1
    obtain ⟨y2, b1, b2⟩ := old f2 m2
    exact q.dj j k y1 y2 l' a1 b1 a2 b2 s1 s2
  · rcases get_set f with ⟨rfl, e1, _⟩ | ⟨_, f⟩
    · cases e with
      | un => cases m
      | im d => cases m
      | ow _ => cases e1
      | bx bs => exact q.bx i bs h
    · exact q.bx j ds' f
theorem isMu_ok {G : Gam} {i : Nat} (h : isMu G i = true) : ∃ e ds, G[i]? = some e ∧ e.mu = some ds := by
  unfold isMu at h
  cases z : G[i]? with
  | none => rw [z] at h; cases h
  | some e =>
    rw [z] at h
    cases y : e.mu with
    | none => simp only [y] at h; cases h
    | some ds => exact ⟨e, ds, rfl, y⟩
theorem gk_callB {m : List D → List D → Option (R × List D)} {E : XK} {i : Nat} {ta : TA} {a : M (List D)} (ha : AOk K ta a) : GOk K (tCall (spB K m) [] E (tCons (tVar i) ta)) (xcallB m i a) := fun Fz ba G σ H Hs res G' q e Q k => by
  unfold xcallB at e
  split at e
  case isFalse => cases e
  rename_i hm
  obtain ⟨e0, ds0, y1, y2⟩ := isMu_ok hm
  obtain ⟨l, vs0, y3, _⟩ := q.mu i e0 ds0 y1 y2
  obtain ⟨xs, G1, e1, e⟩ := bd_inv e
  unfold callB at e
  cases h : G1[i]? with
  | none => rw [h] at e; cases e
  | some en =>
    cases h0 : en.mu with
    | none => simp only [h, h0] at e; cases e
    | some bs =>
      simp only [h, h0] at e
      cases h1 : m bs xs with
      | none => simp only [h1] at e; cases e
      | some p =>
        obtain ⟨r1, bs'⟩ := p
        simp only [h1] at e
        cases e
        refine ⟨_, y3, ?_⟩
        refine ha Fz ba G σ H Hs xs _ q e1 _ fun vs H1 Hs1 q1 s1 d1 => ?_
        obtain ⟨l', bvs, g1, g2, g3, g4, g5⟩ := q1.mu i en bs h h0
        rw [y3] at g1
        cases g1
        refine ⟨Hs1, l, vs, bvs, bs, xs, _, bs', by rw [List.append_nil], q1.sub, g2, g3, g5, d1, h1, fun v H3 Hs3 ws ex hl hn hd rf => ?_⟩
        have q3 := q1.mut h h0 y3 ex hl hn hd
        refine k v H3 Hs3 q3 (s1.trans ex.b) ?_
        cases res with
        | im d => exact rf
        | ow ds =>
          obtain ⟨p, vs, rfl, z1, z2, z3, z4⟩ := rf
          refine ⟨p, vs, rfl, z2, z3, ?_, z4, fun j en' g mm qq => ?_⟩
          · cases z : Fz p with
            | none => rfl
            | some o =>
              obtain ⟨w1, _⟩ := q1.fz p o z
              rw [z1] at w1
              cases w1
          · obtain ⟨ds', hd'⟩ : ∃ ds', en'.mu = some ds' := by
              cases z : en'.mu with
              | none => exact absurd z mm
              | some ds' => exact ⟨ds', rfl⟩
            have old : ∃ o, H1 p = some o := by
              rcases get_set g with ⟨rfl, _, _⟩ | ⟨_, g⟩
              · rw [y3] at qq
                cases qq
                exact ⟨_, g2⟩
              · obtain ⟨l2, ws2, q1', q2', _⟩ := q1.mu j en' ds' g hd'
                rw [qq] at q1'
                cases q1'
                exact ⟨_, q2'⟩
            obtain ⟨o, ho⟩ := old
            rw [z1] at ho
            cases ho

/-! ### the named lists read -/
theorem Rel.same_slot {Fz : Hp} {ba : Nat → Addr} {G : Gam} {σ : L2.St} {H Hs : Hp} (q : Rel K Fz ba G σ H Hs) {i : Nat} (h : isMu G i = true) : ∃ l, σ[i]? = some (some (.ref l)) ∧
    ∀ G1 H1 Hs1 e ds, Rel K Fz ba G1 σ H1 Hs1 → G1[i]? = some e → e.mu = some ds → ∃ vs, H1 l = some (.lst vs) ∧ Hs1 l = none ∧ DRs K Hs1 vs ds := by
  obtain ⟨e0, ds0, y1, y2⟩ := isMu_ok h
  obtain ⟨l, vs0, y3, _⟩ := q.mu i e0 ds0 y1 y2
  refine ⟨l, y3, fun G1 H1 Hs1 e ds q1 h1 h2 => ?_⟩
  obtain ⟨l', bvs, g1, g2, g3, g4, g5⟩ := q1.mu i e ds h1 h2
  rw [y3] at g1
  cases g1
  exact ⟨bvs, g2, g3, g5⟩
theorem at_ok {H : Hp} {vs : List V} {ds : List D} {k : Int} {d : D} (h : DRs K H vs ds) (e : atI ds k = some d) : ∃ v, atI vs k = some v ∧ DR K H v d := by
  unfold atI at e ⊢
  rw [h.len]
  cases z : ixN ds.length k with
  | none => rw [z] at e; cases e
  | some j =>
    rw [z] at e
    exact h.at (i := j) e
theorem gk_ixv {i : Nat} {tb : TE} {b : M R} (hb : GOk K tb b) : GOk K (tOp (rIx K) (tVar i) tb) (xixv i b) := fun Fz ba G σ H Hs res G' q e Q k => by
  unfold xixv at e
  split at e
  case isFalse => cases e
  rename_i hm
  obtain ⟨l, y3, yk⟩ := q.same_slot hm
  obtain ⟨y, G1, e1, e⟩ := bd_inv e
  refine ⟨_, y3, ?_⟩
  refine hb.im q e1 fun v H1 Hs1 q1 s1 d1 => ?_
  unfold ixv at e
  cases hy : y.d with
  | int n =>
    rw [hy] at d1 e
    cases h : G1[i]? with
    | none => simp only [h] at e; cases e
    | some en =>
      cases h0 : en.mu with
      | none => simp only [h, h0] at e; cases e
      | some ds =>
        simp only [h, h0] at e
        cases h1 : atI ds n with
        | none => simp only [h1] at e; cases e
        | some d =>
          simp only [h1] at e
          cases e
          obtain ⟨vs, z1, z2, z3⟩ := yk _ H1 Hs1 en ds q1 h h0
          obtain ⟨w, w1, w2⟩ := at_ok z3 h1
          exact .inl ⟨l, vs, n, w, rfl, dr_int d1, SqL.of z1, w1, k w H1 Hs1 q1 s1 w2⟩
  | _ => simp only [hy] at e; cases e
def rLen (K : PySem.W.Frag) : List V → Hp → VK → Prop := fun xs H Q => ∃ x n, xs = [x] ∧ LenV K x H n ∧ Q (.int n) H
theorem gk_lenv {i : Nat} : GOk K (tCB (rLen K) (tCons (tVar i) tNil)) (xlenv i) := fun Fz ba G σ H Hs res G' q e Q k => by
  unfold xlenv at e
  cases h : G[i]? with
  | none => simp only [h] at e; cases e
  | some en =>
    cases h0 : en.mu with
    | none => simp only [h, h0] at e; cases e
    | some ds =>
      simp only [h, h0] at e
      cases e
      obtain ⟨l, vs, g1, g2, g3, g4, g5⟩ := q.mu i en ds h h0
      exact ⟨_, g1, _, ds.length, rfl, .inl ⟨vs, SqL.of g2, g5.len.symm⟩, k _ H Hs q (Same.refl _) (.int _)⟩

theorem gk_by {i : Nat} {t : TE} {a b : M R} (ha : GOk K t a) (hb : GOk K t b) : GOk K t (xby i a b) := fun Fz ba G σ H Hs res G' q e Q k => by
  unfold xby at e
  split at e
  · exact ha Fz ba G σ H Hs res G' q e Q k
  · exact hb Fz ba G σ H Hs res G' q e Q k

/-! ### statements -/
theorem sk_next : SOk K tNext xnext := fun Fz ba G σ H Hs fl G' q e Dn p => by
  cases e
  exact p σ H Hs q (Same.refl _)
theorem sk_seq {t u : TS} {a b : MS} (ha : SOk K t a) (hb : SOk K u b) : SOk K (tSeq t u) (xseq a b) := fun Fz ba G σ H Hs fl G' q e Dn p => by
  unfold xseq at e
  cases h : a G with
  | none => rw [h] at e; cases e
  | some x =>
    obtain ⟨f1, G1⟩ := x
    rw [h] at e
    refine ha Fz ba G σ H Hs f1 G1 q h { Dn with nx := u Dn } ?_
    cases f1 with
    | nx => exact fun σ1 H1 Hs1 q1 s1 => hb Fz ba G1 σ1 H1 Hs1 fl G' q1 e Dn (p.mono s1)
    | bk => cases e; exact p
    | ct => cases e; exact p
    | rt r => cases e; exact p
theorem sk_asg {ta : TE} {g : TG} {a : M R} {tg : D → Gam → Option Gam} {js : List Nat} (ha : GOk K ta a) (hg : GtOk K g tg js) : SOk K (tAsg ta g) (xasg a tg) := fun Fz ba G σ H Hs fl G' q e Dn p => by
  obtain ⟨x, G1, e1, e⟩ := bd_inv e
  cases h : tg x.d G1 with
  | none => rw [h] at e; cases e
  | some G2 =>
    rw [h] at e
    cases e
    refine ha.im q e1 fun v H1 Hs1 q1 s1 d1 => ?_
    exact hg.run Fz ba G1 σ H1 Hs1 v x.d _ q1 d1 h _ fun σ' q2 _ _ => p σ' H1 Hs1 q2 s1
theorem sk_set {i : Nat} {ta : TE} {a : M R} (ha : GOk K ta a) : SOk K (tAsg ta (gName i)) (xset i a) := fun Fz ba G σ H Hs fl G' q e Dn p => by
  obtain ⟨x, G1, e1, e⟩ := bd_inv e
  cases e
  exact ha Fz ba G σ H Hs x _ q e1 _ fun v H1 Hs1 q1 s1 r1 => p _ H1 Hs1 (q1.set r1) s1
theorem sk_par {i j : Nat} {ta : TA} {a : M (List D)} (ha : AOk K ta a) : SOk K (tPar i j ta) (xpar i j a) := fun Fz ba G σ H Hs fl G' q e Dn p => by
  obtain ⟨xs, G1, e1, e⟩ := bd_inv e
  split at e
  case h_2 => cases e
  rename_i x y
  cases e
  refine ha Fz ba G σ H Hs _ _ q e1 _ fun vs H1 Hs1 q1 s1 d1 => ?_
  cases d1 with
  | cons da d1 =>
    cases d1 with
    | cons db d1 =>
      cases d1
      have q2 := q1.set (i := i) (x := .im x) da
      exact ⟨_, _, rfl, p _ H1 Hs1 (q2.set (i := j) (x := .im y) db) s1⟩
def IpD (K : PySem.W.Frag) (r : TIp) (o : D → D → Option R) : Prop := OpD K r o
theorem sk_aug {i : Nat} {ta : TE} {r : TIp} {o : D → D → Option R} {a : M R} (ho : OpD K r o) (ha : GOk K ta a) : SOk K (tAug i ta r) (xaug i o a) := fun Fz ba G σ H Hs fl G' q e Dn p => by
  unfold xaug at e
  cases h : G[i]? with
  | none => rw [h] at e; cases e
  | some en =>
    rw [h] at e
    cases en with
    | im x =>
      obtain ⟨y, G1, e1, e⟩ := bd_inv e
      obtain ⟨v, g1, g2⟩ := q.im i x h
      cases h1 : o x y.d with
      | none => simp only [h1] at e; cases e
      | some r1 =>
        simp only [h1] at e
        cases e
        refine ⟨v, g1, ?_⟩
        refine ha.im q e1 fun w H1 Hs1 q1 s1 d1 => ?_
        exact ho H1 Hs1 v w x y.d r1 q1.sub (g2.mono s1) d1 h1 _ fun z H2 Hs2 ex rf => p _ H2 Hs2 ((q1.ext ex).set (rf.res q1)) (s1.trans ex.b)
    | _ => cases e
theorem sk_ret {ta : TE} {a : M R} (ha : GOk K ta a) : SOk K (tRet ta) (xret a) := fun Fz ba G σ H Hs fl G' q e Dn p => by
  obtain ⟨x, G1, e1, e⟩ := bd_inv e
  cases e
  exact ha Fz ba G σ H Hs x _ q e1 _ fun v H1 Hs1 q1 s1 r1 => p v σ H1 Hs1 q1 s1 r1
theorem sk_retN : SOk K tRetN xretN := fun Fz ba G σ H Hs fl G' q e Dn p => by
  cases e
  exact p .non σ H Hs q (Same.refl _) .non
theorem sk_drop {ta : TE} {a : M R} (ha : GOk K ta a) : SOk K (tDrop ta) (xdrop a) := fun Fz ba G σ H Hs fl G' q e Dn p => by
  obtain ⟨x, G1, e1, e⟩ := bd_inv e
  cases e
  exact ha Fz ba G σ H Hs x _ q e1 _ fun v H1 Hs1 q1 s1 r1 => p σ H1 Hs1 q1 s1
theorem sk_if {t : TT} {u w : TS} {c : M Bool} {a b : MS} (hc : TOk K t c) (ha : SOk K u a) (hb : SOk K w b) : SOk K (tIfS t u w) (xifs c a b) := fun Fz ba G σ H Hs fl G' q e Dn p => by
  obtain ⟨x, G1, e1, e⟩ := bd_inv e
  refine hc Fz ba G σ H Hs x G1 q e1 _ fun H1 Hs1 q1 s1 => ?_
  cases x with
  | true => exact ha Fz ba G1 σ H1 Hs1 fl G' q1 e Dn (p.mono s1)
  | false => exact hb Fz ba G1 σ H1 Hs1 fl G' q1 e Dn (p.mono s1)
theorem sk_brk : SOk K tBreak xbrk := fun Fz ba G σ H Hs fl G' q e Dn p => by
  cases e
  exact p σ H Hs q (Same.refl _)
theorem sk_cnt : SOk K tCont xcnt := fun Fz ba G σ H Hs fl G' q e Dn p => by
  cases e
  exact p σ H Hs q (Same.refl _)
theorem sk_never : SOk K tNever xnever := fun Fz ba G σ H Hs fl G' q e Dn p => by cases e
theorem extB_upd {H Hs : Hp} {l : Addr} {o : HO} (s : Same Hs H) (n : Hs l = none) : ExtB l H Hs (upd H l o) Hs :=
  ⟨fun x u ne e => by rw [upd_ne ne]; exact e, Same.refl _, fun a u e => by rw [upd_ne (ne_of_none e n)]; exact s a u e, fun x u _ h => h⟩
theorem sk_app {i : Nat} {te : TE} {a : M R} (ha : GOk K te a) : SOk K (tDrop (tBM K "list" rAppend (tVar i) (tCons te tNil))) (xapp i a) := fun Fz ba G σ H Hs fl G' q e Dn p => by
  unfold xapp at e
  split at e
  case isFalse => cases e
  rename_i hm
  obtain ⟨l, y3, yk⟩ := q.same_slot hm
  obtain ⟨x, G1, e1, e⟩ := bd_inv e
  obtain ⟨e0, ds0, y1, y2⟩ := isMu_ok hm
  obtain ⟨vs0, w1, _⟩ := yk G H Hs e0 ds0 q y1 y2
  refine ⟨_, y3, .inl ⟨rfl, vs0, SqL.of w1⟩, ?_⟩
  refine ha.im q e1 fun v H1 Hs1 q1 s1 d1 => ?_
  unfold app at e
  cases h : G1[i]? with
  | none => simp only [h] at e; cases e
  | some en =>
    cases h0 : en.mu with
    | none => simp only [h, h0] at e; cases e
    | some ds =>
      simp only [h, h0] at e
      split at e
      case isFalse => cases e
      rename_i hf
      cases e
      obtain ⟨vs, z1, z2, z3⟩ := yk _ H1 Hs1 en ds q1 h h0
      refine ⟨l, vs, v, rfl, rfl, z1, by rw [z3.len]; exact few_lt hf, ?_⟩
      exact p σ _ Hs1 (q1.mut h h0 y3 (extB_upd q1.sub z2) upd_same z2 (z3.app (.cons d1 .nil))) s1
theorem sk_put {i : Nat} {te tk : TE} {a b : M R} (ha : GOk K te a) (hb : GOk K tk b) : SOk K (tAsg te (gSub (tVar i) tk rSetL)) (xput i a b) := fun Fz ba G σ H Hs fl G' q e Dn p => by
  obtain ⟨x, G1, e1, e⟩ := bd_inv e
  split at e
  case isFalse => cases e
  rename_i hm
  obtain ⟨k, G2, e2, e⟩ := bd_inv e
  refine ha.im q e1 fun v H1 Hs1 q1 s1 d1 => ?_
  obtain ⟨l, y3, yk⟩ := q1.same_slot hm
  refine ⟨_, y3, ?_⟩
  refine hb.im q1 e2 fun w H2 Hs2 q2 s2 d2 => ?_
  unfold put at e
  cases hy : k.d with
  | int n =>
    rw [hy] at d2 e
    cases h : G2[i]? with
    | none => simp only [h] at e; cases e
    | some en =>
      cases h0 : en.mu with
      | none => simp only [h, h0] at e; cases e
      | some ds =>
        simp only [h, h0] at e
        cases h1 : ixN ds.length n with
        | none => simp only [h1] at e; cases e
        | some j =>
          simp only [h1] at e
          cases e
          obtain ⟨vs, z1, z2, z3⟩ := yk _ H2 Hs2 en ds q2 h h0
          refine ⟨l, vs, n, j, rfl, dr_int d2, z1, by rw [z3.len]; exact h1, ?_⟩
          exact p σ _ Hs2 (q2.mut h h0 y3 (extB_upd q2.sub z2) upd_same z2 (DRs.set (d1.mono s2) j z3)) (s1.trans s2)
  | _ => simp only [hy] at e; cases e
/-! targets -/
theorem gt_name {i : Nat} : GtOk K (gName i) (tgn i) [i] := ⟨fun Fz ba G σ H Hs v d G' q r e Q k => by
  cases e
  exact k _ (q.set (x := .im d) r) List.length_set fun j hj => List.getElem?_set_ne fun z => hj (by rw [z]; exact List.mem_cons_self)⟩
structure GtsOk (K : PySem.W.Frag) (g : TGs) (f : List D → Gam → Option Gam) (js : List Nat) : Prop where
  run : ∀ Fz ba G σ H Hs vs ds G', Rel K Fz ba G σ H Hs → DRs K Hs vs ds → f ds G = some G' → ∀ Q : L2.St → Hp → Prop, (∀ σ', Rel K Fz ba G' σ' H Hs → σ'.length = σ.length → (∀ i : Nat, i ∉ js → σ'[i]? = σ[i]?) → Q σ' H) → g vs σ H Q
theorem gts_nil : GtsOk K gNil (tgs []) [] := ⟨fun Fz ba G σ H Hs vs ds G' q r e Q k => by
  cases r with
  | nil => cases e; exact ⟨rfl, k σ q rfl fun _ _ => rfl⟩
  | cons _ _ => cases e⟩
theorem gts_cons {t : TG} {u : TGs} {f : D → Gam → Option Gam} {fs : List (D → Gam → Option Gam)} {js ks : List Nat} (h : GtOk K t f js) (hs : GtsOk K u (tgs fs) ks) : GtsOk K (gCons t u) (tgs (f :: fs)) (js ++ ks) := ⟨fun Fz ba G σ H Hs vs ds G' q r e Q k => by
  cases r with
  | nil => cases e
  | @cons v vs d ds r1 r2 =>
    have e' : (match f d G with | some G1 => tgs fs ds G1 | none => none) = some G' := e
    cases h1 : f d G with
    | none => rw [h1] at e'; cases e'
    | some G1 =>
      rw [h1] at e'
      refine ⟨v, vs, rfl, h.run Fz ba G σ H Hs v d G1 q r1 h1 _ fun σ1 q1 l1 k1 => ?_⟩
      refine hs.run Fz ba G1 σ1 H Hs vs ds G' q1 r2 e' _ fun σ2 q2 l2 k2 => ?_
      exact k σ2 q2 (l2.trans l1) fun i hi => (k2 i fun z => hi (List.mem_append_right _ z)).trans (k1 i fun z => hi (List.mem_append_left _ z))⟩
theorem tgs_len : ∀ {fs : List (D → Gam → Option Gam)} {ds : List D} {G G' : Gam}, tgs fs ds G = some G' → ds.length = fs.length
  | [], [], _, _, _ => rfl
  | [], _ :: _, _, _, e => by cases e
  | _ :: _, [], _, _, e => by cases e
  | f :: fs, d :: ds, G, G', e => by
    have e' : (match f d G with | some G1 => tgs fs ds G1 | none => none) = some G' := e
    cases h1 : f d G with
    | none => rw [h1] at e'; cases e'
    | some G1 =>
      rw [h1] at e'
      exact congrArg Nat.succ (tgs_len e')
theorem gt_tup {u : TGs} {fs : List (D → Gam → Option Gam)} {js : List Nat} (h : GtsOk K u (tgs fs) js) : GtOk K (gTup K fs.length u) (tgt fs) js := ⟨fun Fz ba G σ H Hs v d G' q r e Q k => by
  cases r with
  | tup ht hd => exact ⟨_, _, rfl, same_tup q.sub ht, by rw [hd.len]; exact tgs_len e, h.run Fz ba G σ H Hs _ _ G' q hd e Q k⟩
  | _ => cases e⟩

/-! ### loops -/
theorem sk_while {t : TT} {u : TS} {c : M Bool} {b : MS} (fuel : Gam → Nat) (hc : TOk K t c) (hb : SOk K u b) : SOk K (tWhile t u) (xwhile fuel c b) := fun Fz ba G σ H Hs fl G' q e Dn p => by
  refine ⟨fun m σ1 H1 => ∃ G1 Hs1, Rel K Fz ba G1 σ1 H1 Hs1 ∧ Same Hs Hs1 ∧ xwhileN c b m G1 = some (fl, G'), ⟨fuel G, G, Hs, q, Same.refl _, e⟩, ?_⟩
  rintro m σ1 H1 ⟨G1, Hs1, q1, s1, e1⟩
  cases m with
  | zero => cases e1
  | succ n =>
    obtain ⟨x, G2, e2, e3⟩ := bd_inv e1
    refine hc Fz ba G1 σ1 H1 Hs1 x G2 q1 e2 _ fun H2 Hs2 q2 s2 => ?_
    cases x with
    | false => cases e3; exact p σ1 H2 Hs2 q2 (s1.trans s2)
    | true =>
      refine ⟨fun σ' H' => ∃ G3 Hs3, Rel K Fz ba G3 σ' H' Hs3 ∧ Same Hs Hs3 ∧ xwhileN c b n G3 = some (fl, G'), fun σ' H' ⟨G3, Hs3, a1, a2, a3⟩ => ⟨n, Nat.lt_succ_self n, G3, Hs3, a1, a2, a3⟩, ?_⟩
      rw [if_pos rfl] at e3
      cases hbG : b G2 with
      | none => rw [hbG] at e3; cases e3
      | some y =>
        obtain ⟨f1, G3⟩ := y
        rw [hbG] at e3
        refine hb Fz ba G2 σ1 H2 Hs2 f1 G3 q2 hbG _ ?_
        cases f1 with
        | nx => exact fun σ' H' Hs' a1 a2 => ⟨G3, Hs', a1, (s1.trans s2).trans a2, e3⟩
        | ct => exact fun σ' H' Hs' a1 a2 => ⟨G3, Hs', a1, (s1.trans s2).trans a2, e3⟩
        | bk => cases e3; exact fun σ' H' Hs' a1 a2 => p σ' H' Hs' a1 ((s1.trans s2).trans a2)
        | rt r => cases e3; exact fun v σ' H' Hs' a1 a2 a3 => p v σ' H' Hs' a1 ((s1.trans s2).trans a2) a3
theorem sk_for {w : TI} {g : TG} {u : TS} {it : M (List D)} {tg : D → Gam → Option Gam} {js : List Nat} {b : MS} (hi : IOk K w it) (hg : GtOk K g tg js) (hb : SOk K u b) : SOk K (tFor w g u) (xfor it tg b) := fun Fz ba G σ H Hs fl G' q e Dn p => by
  obtain ⟨ds, G1, e1, e⟩ := bd_inv e
  refine hi Fz ba G σ H Hs ds G1 q e1 _ fun J H1 Hs1 q1 s1 Y => ?_
  refine ⟨fun i m σ2 H2 => m = ds.length - i ∧ i ≤ ds.length ∧ ∃ G2 Hs2, Rel K Fz ba G2 σ2 H2 Hs2 ∧ Same Hs1 Hs2 ∧ xforL tg b (ds.drop i) G2 = some (fl, G'), ⟨ds.length, rfl, Nat.zero_le _, G1, Hs1, q1, Same.refl _, e⟩, ?_⟩
  rintro i m σ2 H2 ⟨rfl, hi, G2, Hs2, q2, s2, e2⟩
  by_cases hlt : i < ds.length
  · refine .inr ⟨Y.go i H2 (s2.trans q2.sub) hlt, fun σ' H' => i + 1 ≤ ds.length ∧ ∃ G3 Hs3, Rel K Fz ba G3 σ' H' Hs3 ∧ Same Hs1 Hs3 ∧ xforL tg b (ds.drop (i + 1)) G3 = some (fl, G'), fun σ' H' ⟨z, z2⟩ => ⟨ds.length - (i + 1), by omega, rfl, z, z2⟩, fun x H' y => ?_⟩
    obtain ⟨d, Hs3, d1, ex, dr⟩ := Y.yld i x H2 H' Hs2 hlt s2 q2.sub y
    have q3 := q2.ext ex
    have ed : ds.drop i = d :: ds.drop (i + 1) := by
      rw [List.drop_eq_getElem_cons hlt]
      rw [List.getElem?_eq_getElem hlt] at d1
      cases d1
      rfl
    rw [ed] at e2
    have e2' : (match tg d G2 with | none => none | some G3 => (match b G3 with | some (.nx, G4) => xforL tg b (ds.drop (i + 1)) G4 | some (.ct, G4) => xforL tg b (ds.drop (i + 1)) G4 | some (.bk, G4) => some (.nx, G4) | some (.rt r, G4) => some (.rt r, G4) | none => none)) = some (fl, G') := e2
    cases hG : tg d G2 with
    | none => rw [hG] at e2'; cases e2'
    | some G3 =>
      rw [hG] at e2'
      refine hg.run Fz ba G2 σ2 H' Hs3 x d G3 q3 dr hG _ fun σ3 q4 _ _ => ?_
      cases hbG : b G3 with
      | none => simp only [hbG] at e2'; cases e2'
      | some y =>
        obtain ⟨f1, G4⟩ := y
        simp only [hbG] at e2'
        refine hb Fz ba G3 σ3 H' Hs3 f1 G4 q4 hbG _ ?_
        cases f1 with
        | nx => exact fun σ' H5 Hs' a1 a2 => ⟨hlt, G4, Hs', a1, (s2.trans ex.b).trans a2, e2'⟩
        | ct => exact fun σ' H5 Hs' a1 a2 => ⟨hlt, G4, Hs', a1, (s2.trans ex.b).trans a2, e2'⟩
        | bk => cases e2'; exact fun σ' H5 Hs' a1 a2 => p σ' H5 Hs' a1 (((s1.trans s2).trans ex.b).trans a2)
        | rt r => cases e2'; exact fun v σ' H5 Hs' a1 a2 a3 => p v σ' H5 Hs' a1 (((s1.trans s2).trans ex.b).trans a2) a3
  · have hend : ds.length ≤ i := by omega
    rw [List.drop_eq_nil_of_le hend] at e2
    cases e2
    exact .inl ⟨Y.stop i H2 (s2.trans q2.sub) hend, p σ2 H2 Hs2 q2 (s1.trans s2)⟩
end
end Bk
/-! Bk4: what is walked; comprehensions; defs. -/
namespace Bk
open PySem L2
section
variable {K : PySem.W.Frag}
theorem Yl.same {J : It} {ds : List D} {Hs Hs' : Hp} (y : Yl K J ds Hs) (s : Same Hs Hs') : Yl K J ds Hs' :=
  ⟨fun i H h => y.go i H (s.trans h), fun i H h => y.stop i H (s.trans h), fun i x H H' Hs1 hi h => y.yld i x H H' Hs1 hi (s.trans h)⟩
theorem yl_list {Hs : Hp} {a : Addr} {xs : List V} {ds : List D} (h : SqL K Hs a xs) (d : DRs K Hs xs ds) : Yl K (Itl K a) ds Hs where
  go := fun i H s hi => ⟨xs, xs[i]'(by rw [d.len]; exact hi), same_lst s h, by simp⟩
  stop := fun i H s hi => ⟨xs, same_lst s h, by rw [d.len]; exact hi⟩
  yld := fun i x H H' Hs1 _ s s1 y => by
    obtain ⟨rfl, y⟩ := y
    obtain ⟨e, e1, e2⟩ := d.ta (y xs (same_lst (s.trans s1) h))
    exact ⟨e, Hs1, e1, Ext.refl s1, e2.mono s⟩
theorem yl_tup {Hs : Hp} {a : Addr} {xs : List V} {ds : List D} (h : SqT K Hs a xs) (d : DRs K Hs xs ds) : Yl K (Itt K a) ds Hs where
  go := fun i H s hi => ⟨xs, xs[i]'(by rw [d.len]; exact hi), same_tup s h, by simp⟩
  stop := fun i H s hi => ⟨xs, same_tup s h, by rw [d.len]; exact hi⟩
  yld := fun i x H H' Hs1 _ s s1 y => by
    obtain ⟨rfl, y⟩ := y
    obtain ⟨e, e1, e2⟩ := d.ta (y xs (same_tup (s.trans s1) h))
    exact ⟨e, Hs1, e1, Ext.refl s1, e2.mono s⟩
theorem rng_len (lo : Int) (n : Nat) : (rng lo n).length = n := by simp [rng]
theorem yl_rng {Hs : Hp} {lo : Int} {n : Nat} : Yl K (Itr lo n) (rng lo n) Hs where
  go := fun i H s hi => by rw [rng_len] at hi; exact hi
  stop := fun i H s hi => by rw [rng_len] at hi; exact hi
  yld := fun i x H H' Hs1 hi s s1 y => by
    obtain ⟨rfl, rfl⟩ := y
    rw [rng_len] at hi
    exact ⟨.int (lo + (i : Int)), Hs1, by simp [rng, hi], Ext.refl s1, .int _⟩
theorem ik_list {ta : TE} {a : M R} (ha : GOk K ta a) : IOk K (iList K ta) (xiter a) := fun Fz ba G σ H Hs ds G' q e Q k => by
  obtain ⟨x, G1, e1, e⟩ := bd_inv e
  refine ha.im q e1 fun v H1 Hs1 q1 s1 d => ?_
  cases h : x.d with
  | lst es =>
    rw [h] at e d
    cases e
    cases d with
    | lst hl hd => exact ⟨_, rfl, ⟨_, SqL.of (q1.sub _ _ hl)⟩, k _ H1 Hs1 q1 s1 (yl_list (SqL.of hl) hd)⟩
  | frz es =>
    rw [h] at e d
    cases e
    cases d with
    | frz hl hd => exact ⟨_, rfl, ⟨_, same_lst q1.sub hl⟩, k _ H1 Hs1 q1 s1 (yl_list hl hd)⟩
  | _ => rw [h] at e; cases e
theorem ik_tup {ta : TE} {a : M R} (ha : GOk K ta a) : IOk K (iTup K ta) (xiterT a) := fun Fz ba G σ H Hs ds G' q e Q k => by
  obtain ⟨x, G1, e1, e⟩ := bd_inv e
  refine ha.im q e1 fun v H1 Hs1 q1 s1 d => ?_
  cases h : x.d with
  | tup es =>
    rw [h] at e d
    cases e
    cases d with
    | tup hl hd => exact ⟨_, rfl, ⟨_, same_tup q1.sub hl⟩, k _ H1 Hs1 q1 s1 (yl_tup hl hd)⟩
  | _ => rw [h] at e; cases e
theorem okR_inv {i : Int} (h : okR i = true) : -(2 ^ 62) ≤ i ∧ i < 2 ^ 62 := by
  unfold okR at h
  rw [Bool.and_eq_true] at h
  exact ⟨of_decide_eq_true h.1, of_decide_eq_true h.2⟩
theorem ik_range1 {ta : TA} {a : M (List D)} (ha : AOk K ta a) : IOk K (iRng1 ta) (xrange1 a) := fun Fz ba G σ H Hs ds G' q e Q k => by
  obtain ⟨xs, G1, e1, e⟩ := bd_inv e
  refine ha Fz ba G σ H Hs xs _ q e1 _ fun vs H1 Hs1 q1 s1 d => ?_
  split at e
  case h_2 => cases e
  split at e
  case isFalse => cases e
  rename_i hr
  cases e
  cases d with
  | cons d1 d2 =>
    cases d2
    cases d1
    exact ⟨_, rfl, (okR_inv hr).1, (okR_inv hr).2, k _ H1 Hs1 q1 s1 yl_rng⟩
theorem ik_range2 {ta : TA} {a : M (List D)} (ha : AOk K ta a) : IOk K (iRng2 ta) (xrange2 a) := fun Fz ba G σ H Hs ds G' q e Q k => by
  obtain ⟨xs, G1, e1, e⟩ := bd_inv e
  refine ha Fz ba G σ H Hs xs _ q e1 _ fun vs H1 Hs1 q1 s1 d => ?_
  split at e
  case h_2 => cases e
  split at e
  case isFalse => cases e
  rename_i hr
  rw [Bool.and_eq_true] at hr
  cases e
  cases d with
  | cons d1 d2 =>
    cases d2 with
    | cons d2 d3 =>
      cases d3
      cases d1
      cases d2
      exact ⟨_, _, rfl, ⟨(okR_inv hr.1).1, (okR_inv hr.1).2, (okR_inv hr.2).1, (okR_inv hr.2).2⟩, k _ H1 Hs1 q1 s1 yl_rng⟩
theorem asL_ok {H : Hp} {v : V} {d : D} {ds : List D} (h : DR K H v d) (e : asL d = some ds) : ∃ a xs, v = .ref a ∧ SqL K H a xs ∧ DRs K H xs ds := by
  cases h with
  | lst hl hd => cases e; exact ⟨_, _, rfl, SqL.of hl, hd⟩
  | frz hl hd => cases e; exact ⟨_, _, rfl, hl, hd⟩
  | _ => cases e
theorem zip_get {α β : Type} : ∀ {xs : List α} {ys : List β} {i : Nat} {x : α} {y : β}, xs[i]? = some x → ys[i]? = some y → (xs.zip ys)[i]? = some (x, y)
  | [], _, _, _, _, h, _ => by simp at h
  | _ :: _, [], _, _, _, _, h => by simp at h
  | a :: xs, b :: ys, 0, _, _, h1, h2 => by simp at h1 h2; subst h1; subst h2; rfl
  | a :: xs, b :: ys, i + 1, _, _, h1, h2 => by
    simp only [List.zip_cons_cons, List.getElem?_cons_succ] at h1 h2 ⊢
    exact zip_get h1 h2
theorem yl_zip {Hs : Hp} {a b : Addr} {xs ys : List V} {ds es : List D} (ha : SqL K Hs a xs) (hb : SqL K Hs b ys) (da : DRs K Hs xs ds) (db : DRs K Hs ys es) : Yl K (Itz K a b) ((ds.zip es).map fun p => .tup [p.1, p.2]) Hs where
  go := fun i H s hi => by
    rw [List.length_map, List.length_zip] at hi
    exact ⟨xs, ys, xs[i]'(by rw [da.len]; omega), ys[i]'(by rw [db.len]; omega), same_lst s ha, same_lst s hb, by simp, by simp⟩
  stop := fun i H s hi => by
    rw [List.length_map, List.length_zip] at hi
    exact ⟨xs, ys, same_lst s ha, same_lst s hb, by rw [da.len, db.len]; omega⟩
  yld := fun i x H H' Hs1 _ s s1 y => by
    obtain ⟨T, x1, y1, rfl, hT, rfl, h1, h2⟩ := y
    obtain ⟨d1, e1, r1⟩ := da.ta (h1 xs (same_lst (s.trans s1) ha))
    obtain ⟨d2, e2, r2⟩ := db.ta (h2 ys (same_lst (s.trans s1) hb))
    have ex : Ext H Hs1 (upd H T (.tup [x1, y1])) (upd Hs1 T (.tup [x1, y1])) := Ext.new s1 hT
    refine ⟨.tup [d1, d2], _, ?_, ex, .tup (SqT.of upd_same) (.cons (r1.mono (s.trans ex.b)) (.cons (r2.mono (s.trans ex.b)) .nil))⟩
    rw [List.getElem?_map, zip_get e1 e2]
    rfl
theorem ik_zip {ta : TA} {a : M (List D)} (ha : AOk K ta a) : IOk K (iZip K ta) (xzip a) := fun Fz ba G σ H Hs ds G' q e Q k => by
  obtain ⟨xs, G1, e1, e⟩ := bd_inv e
  refine ha Fz ba G σ H Hs xs _ q e1 _ fun vs H1 Hs1 q1 s1 d => ?_
  split at e
  case h_2 => cases e
  split at e
  case h_2 => cases e
  rename_i h1 h2
  cases e
  cases d with
  | cons d1 d2 =>
    cases d2 with
    | cons d2 d3 =>
      cases d3
      obtain ⟨a1, x1, rfl, l1, r1⟩ := asL_ok d1 h1
      obtain ⟨a2, x2, rfl, l2, r2⟩ := asL_ok d2 h2
      exact ⟨a1, a2, x1, x2, rfl, same_lst q1.sub l1, same_lst q1.sub l2, k _ H1 Hs1 q1 s1 (yl_zip l1 l2 r1 r2)⟩
theorem enum_len : ∀ (k : Nat) (ds : List D), (enumD k ds).length = ds.length
  | _, [] => rfl
  | k, d :: ds => congrArg Nat.succ (enum_len (k + 1) ds)
theorem enum_get : ∀ {k : Nat} {ds : List D} {i : Nat} {d : D}, ds[i]? = some d → (enumD k ds)[i]? = some (.tup [.int ((k + i : Nat) : Int), d])
  | _, [], _, _, h => by simp at h
  | k, e :: ds, 0, _, h => by simp at h; subst h; rfl
  | k, e :: ds, i + 1, _, h => by
    simp only [List.getElem?_cons_succ] at h
    have z := enum_get (k := k + 1) h
    show (enumD (k + 1) ds)[i]? = _
    rw [z, show k + 1 + i = k + (i + 1) by omega]
theorem yl_enum {Hs : Hp} {a : Addr} {xs : List V} {ds : List D} (ha : SqL K Hs a xs) (da : DRs K Hs xs ds) : Yl K (Ite K a) (enumD 0 ds) Hs where
  go := fun i H s hi => by
    rw [enum_len] at hi
    exact ⟨xs, xs[i]'(by rw [da.len]; omega), same_lst s ha, by simp⟩
  stop := fun i H s hi => by
    rw [enum_len] at hi
    exact ⟨xs, same_lst s ha, by rw [da.len]; omega⟩
  yld := fun i x H H' Hs1 _ s s1 y => by
    obtain ⟨T, x1, rfl, hT, rfl, h1⟩ := y
    obtain ⟨d1, e1, r1⟩ := da.ta (h1 xs (same_lst (s.trans s1) ha))
    have ex : Ext H Hs1 (upd H T (.tup [.int (i : Nat), x1])) (upd Hs1 T (.tup [.int (i : Nat), x1])) := Ext.new s1 hT
    refine ⟨.tup [.int (i : Nat), d1], _, ?_, ex, .tup (SqT.of upd_same) (.cons (.int _) (.cons (r1.mono (s.trans ex.b)) .nil))⟩
    rw [enum_get e1, Nat.zero_add]
theorem ik_enum {ta : TA} {a : M (List D)} (ha : AOk K ta a) : IOk K (iEnum K ta) (xenum a) := fun Fz ba G σ H Hs ds G' q e Q k => by
  obtain ⟨xs, G1, e1, e⟩ := bd_inv e
  refine ha Fz ba G σ H Hs xs _ q e1 _ fun vs H1 Hs1 q1 s1 d => ?_
  split at e
  case h_2 => cases e
  split at e
  case h_2 => cases e
  rename_i h1
  cases e
  cases d with
  | cons d1 d2 =>
    cases d2
    obtain ⟨a1, x1, rfl, l1, r1⟩ := asL_ok d1 h1
    exact ⟨a1, x1, rfl, same_lst q1.sub l1, k _ H1 Hs1 q1 s1 (yl_enum l1 r1)⟩

/-! ### comprehensions -/
theorem Rel.wiped {Fz : Hp} {ba : Nat → Addr} {G : Gam} {σ : L2.St} {H Hs : Hp} (q : Rel K Fz ba G σ H Hs) : ∀ vs : List Nat, Rel K Fz ba (wipeG G vs) (wipe σ vs) H Hs
  | [] => q
  | v :: vs => (Rel.wiped q vs).forget v
theorem wipe_get {σ : L2.St} {i : Nat} : ∀ {vs : List Nat}, i ∉ vs → (wipe σ vs)[i]? = σ[i]?
  | [], _ => rfl
  | v :: vs, h => by
    have h1 : v ≠ i := fun z => h (by rw [z]; exact List.mem_cons_self)
    show ((wipe σ vs).set v none)[i]? = _
    rw [List.getElem?_set_ne h1]
    exact wipe_get fun z => h (List.mem_cons_of_mem _ z)
theorem wipe_in {σ : L2.St} {i : Nat} (hl : i < σ.length) : ∀ {vs : List Nat}, i ∈ vs → (wipe σ vs)[i]? = some none
  | v :: vs, h => by
    show ((wipe σ vs).set v none)[i]? = _
    by_cases z : v = i
    · subst z
      rw [List.getElem?_set_self (by rw [wipe_length]; exact hl)]
    · rw [List.getElem?_set_ne z]
      rcases List.mem_cons.mp h with z2 | h2
      · exact absurd z2.symm z
      · exact wipe_in hl h2
/-- slots outside of vs alike: wiped they are the same -/
theorem wipe_eq {σ τ : L2.St} {vs : List Nat} (hl : τ.length = σ.length) (h : ∀ i : Nat, i ∉ vs → τ[i]? = σ[i]?) : wipe τ vs = wipe σ vs := by
  refine List.ext_getElem? fun i => ?_
  by_cases hi : i ∈ vs
  · by_cases hlt : i < σ.length
    · rw [wipe_in hlt hi, wipe_in (by rw [hl]; exact hlt) hi]
    · rw [List.getElem?_eq_none (by rw [wipe_length, hl]; omega), List.getElem?_eq_none (by rw [wipe_length]; omega)]
  · rw [wipe_get hi, wipe_get hi]
    exact h i hi
theorem unw_len (G1 G2 : Gam) : ∀ vs : List Nat, (unw G1 G2 vs).length = G2.length
  | [] => rfl
  | v :: vs => by
    show ((unw G1 G2 vs).set v _).length = _
    rw [List.length_set]
    exact unw_len G1 G2 vs
theorem unw_out {G1 G2 : Gam} {i : Nat} : ∀ {vs : List Nat}, i ∉ vs → (unw G1 G2 vs)[i]? = G2[i]?
  | [], _ => rfl
  | v :: vs, h => by
    have h1 : v ≠ i := fun z => h (by rw [z]; exact List.mem_cons_self)
    show ((unw G1 G2 vs).set v _)[i]? = _
    rw [List.getElem?_set_ne h1]
    exact unw_out fun z => h (List.mem_cons_of_mem _ z)
theorem unw_in {G1 G2 : Gam} {i : Nat} (hl : G2.length = G1.length) : ∀ {vs : List Nat}, i ∈ vs → (unw G1 G2 vs)[i]? = G1[i]?
  | v :: vs, h => by
    show ((unw G1 G2 vs).set v (G1.getD v .un))[i]? = _
    by_cases z : v = i
    · subst z
      by_cases hlt : v < G1.length
      · rw [List.getElem?_set_self (by rw [unw_len, hl]; exact hlt), List.getElem?_eq_getElem hlt, List.getD_eq_getElem?_getD, List.getElem?_eq_getElem hlt]
        rfl
      · rw [List.getElem?_eq_none (by rw [List.length_set, unw_len, hl]; omega), List.getElem?_eq_none (by omega)]
    · rw [List.getElem?_set_ne z]
      rcases List.mem_cons.mp h with z2 | h2
      · exact absurd z2.symm z
      · exact unw_in hl h2
theorem noMu_ok {G : Gam} {vs : List Nat} (h : noMu G vs = true) {i : Nat} {e : Ent} (hi : i ∈ vs) (g : G[i]? = some e) : e.mu = none := by
  unfold noMu at h
  rw [List.all_eq_true] at h
  have z := h i hi
  rw [g] at z
  simpa using z
/-- behind a block: its own slots as they were -/
theorem Rel.unwipe {Fz : Hp} {ba : Nat → Addr} {G1 G2 : Gam} {σ : L2.St} {H1 Hs1 H2 Hs2 : Hp} {vs : List Nat} (q1 : Rel K Fz ba G1 σ H1 Hs1) (q2 : Rel K Fz ba G2 (wipe σ vs) H2 Hs2) (s : Same Hs1 Hs2) (nm : noMu G1 vs = true) : Rel K Fz ba (unw G1 G2 vs) σ H2 Hs2 := by
  have hl : G2.length = G1.length := by rw [← q1.len, ← q2.len, wipe_length]
  have mo : ∀ {i : Nat} {e : Ent}, (unw G1 G2 vs)[i]? = some e → e.mu ≠ none → i ∉ vs ∧ G2[i]? = some e := fun {i e} h m => by
    by_cases hi : i ∈ vs
    · rw [unw_in hl hi] at h
      exact absurd (noMu_ok nm hi h) m
    · rw [unw_out hi] at h
      exact ⟨hi, h⟩
  refine ⟨q2.sub, q2.fz, by rw [unw_len, hl]; exact q1.len, fun i d h => ?_, fun i e ds h h0 => ?_, fun i j e e' l h1 h2 m1 m2 t1 t2 => ?_, fun i ds h => ?_⟩
  · by_cases hi : i ∈ vs
    · rw [unw_in hl hi] at h
      obtain ⟨v, a1, a2⟩ := q1.im i d h
      exact ⟨v, a1, a2.mono s⟩
    · rw [unw_out hi] at h
      obtain ⟨v, a1, a2⟩ := q2.im i d h
      exact ⟨v, by rw [← wipe_get hi]; exact a1, a2⟩
  · obtain ⟨hi, h⟩ := mo h (by rw [h0]; simp)
    obtain ⟨l, ws, a1, a2⟩ := q2.mu i e ds h h0
    exact ⟨l, ws, by rw [← wipe_get hi]; exact a1, a2⟩
  · obtain ⟨hi, h1⟩ := mo h1 m1
    obtain ⟨hj, h2⟩ := mo h2 m2
    exact q2.dj i j e e' l h1 h2 m1 m2 (by rw [wipe_get hi]; exact t1) (by rw [wipe_get hj]; exact t2)
  · obtain ⟨hi, h⟩ := mo h (by simp [Ent.mu])
    have z := q2.bx i ds h
    rw [wipe_get hi] at z
    exact z
/-- a hidden object more -/
theorem Rel.hide {Fz : Hp} {ba : Nat → Addr} {G : Gam} {σ : L2.St} {H Hs : Hp} (q : Rel K Fz ba G σ H Hs) {p : Addr} {o : HO} (h : H p = none) : Rel K (upd Fz p o) ba G σ (upd H p o) Hs := by
  refine ⟨q.sub.trans (same_new h), fun a u e => ?_, q.len, q.im, fun i e ds g g0 => ?_, q.dj, q.bx⟩
  · by_cases z : a = p
    · subst z
      rw [upd_same] at e ⊢
      exact ⟨e, none_sub q.sub h⟩
    · rw [upd_ne z] at e ⊢
      exact q.fz a u e
  · obtain ⟨l, vs, a1, a2, a3, a4, a5⟩ := q.mu i e ds g g0
    have ne : l ≠ p := ne_of_none a2 h
    exact ⟨l, vs, a1, by rw [upd_ne ne]; exact a2, a3, by rw [upd_ne ne]; exact a4, a5⟩
/-- the hidden object is another -/
theorem Rel.rehide {Fz : Hp} {ba : Nat → Addr} {G : Gam} {σ : L2.St} {H Hs : Hp} {p : Addr} {o o' : HO} (q : Rel K (upd Fz p o) ba G σ H Hs) : Rel K (upd Fz p o') ba G σ (upd H p o') Hs := by
  obtain ⟨hp, hsp⟩ := q.fz p o upd_same
  refine ⟨fun a u e => ?_, fun a u e => ?_, q.len, q.im, fun i e ds g g0 => ?_, q.dj, q.bx⟩
  · rw [upd_ne (ne_of_none e hsp)]
    exact q.sub a u e
  · by_cases z : a = p
    · subst z
      rw [upd_same] at e ⊢
      exact ⟨e, hsp⟩
    · rw [upd_ne z] at e ⊢
      exact q.fz a u (by rw [upd_ne z]; exact e)
  · obtain ⟨l, vs, a1, a2, a3, a4, a5⟩ := q.mu i e ds g g0
    have ne : l ≠ p := by
      intro z
      subst z
      rw [upd_same] at a4
      cases a4
    rw [upd_ne ne] at a4
    exact ⟨l, vs, a1, by rw [upd_ne ne]; exact a2, a3, by rw [upd_ne ne]; exact a4, a5⟩
/-- no longer hidden, not owned either -/
theorem Rel.unhide {Fz : Hp} {ba : Nat → Addr} {G : Gam} {σ : L2.St} {H Hs : Hp} {p : Addr} {o : HO} (q : Rel K (upd Fz p o) ba G σ H Hs) (hf : Fz p = none) : Rel K Fz ba G σ H Hs := by
  refine ⟨q.sub, fun a u e => ?_, q.len, q.im, fun i e ds g g0 => ?_, q.dj, q.bx⟩
  · exact q.fz a u (by rw [upd_ne (ne_of_none e hf)]; exact e)
  · obtain ⟨l, vs, a1, a2, a3, a4, a5⟩ := q.mu i e ds g g0
    refine ⟨l, vs, a1, a2, a3, ?_, a5⟩
    cases z : Fz l with
    | none => rfl
    | some u =>
      have ne : l ≠ p := ne_of_none z hf
      rw [upd_ne ne, z] at a4
      cases a4
theorem gk_lc {w : TI} {g : TG} {t : TT} {te : TE} {it : M (List D)} {tg : D → Gam → Option Gam} {js vs : List Nat} {c : M Bool} {a : M R} (hi : IOk K w it) (hg : GtOk K g tg js) (hc : TOk K t c) (ha : GOk K te a) (hj : ∀ j ∈ js, j ∈ vs) :
    GOk K (tLc w g t te vs) (xlc it tg c a vs) := fun Fz ba G σ H Hs res G' q e Q k => by
  obtain ⟨ds, G1, e1, e⟩ := bd_inv e
  split at e
  case isFalse => cases e
  rename_i nm
  obtain ⟨out, G2, e2, e⟩ := bd_inv e
  split at e
  case isFalse => cases e
  rename_i hf
  cases e
  refine hi Fz ba G σ H Hs ds _ q e1 _ fun J H1 Hs1 q1 s1 Y p hp => ?_
  have hfp : Fz p = none := by
    cases z : Fz p with
    | none => rfl
    | some o =>
      obtain ⟨z1, _⟩ := q1.fz p o z
      rw [hp] at z1
      cases z1
  have q1w := (q1.wiped vs).hide (o := .lst []) hp
  refine ⟨fun i m H2 => m = ds.length - i ∧ i ≤ ds.length ∧ ∃ G3 Hs3 acc ad more, Rel K (upd Fz p (.lst acc)) ba G3 (wipe σ vs) H2 Hs3 ∧ Same Hs1 Hs3 ∧ DRs K Hs3 acc ad ∧ xlcL tg c a vs (ds.drop i) G3 = some (more, G2) ∧ ad ++ more = out,
    ⟨ds.length, rfl, Nat.zero_le _, wipeG G1 vs, Hs1, [], [], out, q1w, Same.refl _, .nil, e2, rfl⟩, ?_⟩
  rintro i m H2 ⟨rfl, hi2, G3, Hs3, acc, ad, more, q3, s3, da, e3, eo⟩
  by_cases hlt : i < ds.length
  · refine .inr ⟨Y.go i H2 (s3.trans q3.sub) hlt, fun H' => i + 1 ≤ ds.length ∧ ∃ G4 Hs4 acc ad more, Rel K (upd Fz p (.lst acc)) ba G4 (wipe σ vs) H' Hs4 ∧ Same Hs1 Hs4 ∧ DRs K Hs4 acc ad ∧ xlcL tg c a vs (ds.drop (i + 1)) G4 = some (more, G2) ∧ ad ++ more = out,
      fun H' ⟨z, z2⟩ => ⟨ds.length - (i + 1), by omega, rfl, z, z2⟩, fun x H' y => ?_⟩
    obtain ⟨d, Hs4, d1, ex, dr⟩ := Y.yld i x H2 H' Hs3 hlt s3 q3.sub y
    have q4 := q3.ext ex
    have ed : ds.drop i = d :: ds.drop (i + 1) := by
      rw [List.drop_eq_getElem_cons hlt]
      rw [List.getElem?_eq_getElem hlt] at d1
      cases d1
      rfl
    rw [ed] at e3
    unfold xlcL at e3
    cases hG : tg d G3 with
    | none => rw [hG] at e3; cases e3
    | some G4 =>
      rw [hG] at e3
      refine hg.run _ ba G3 _ H' Hs4 x d G4 q4 dr hG _ fun σ5 q5 l5 k5 => ?_
      have hlen : σ5.length = σ.length := by rw [l5, wipe_length]
      have hw : wipe σ5 vs = wipe σ vs := by
        have z := wipe_eq (σ := wipe σ vs) (τ := σ5) (vs := vs) (by rw [wipe_length]; exact hlen) fun j hj' => k5 j fun z => hj' (hj j z)
        rw [z]
        exact wipe_eq (wipe_length σ vs) fun j hj' => wipe_get hj'
      refine ⟨hw, ?_⟩
      obtain ⟨b, G5, e5, e6⟩ := bd_inv e3
      refine hc _ ba G4 σ5 H' Hs4 b G5 q5 e5 _ fun H5 Hs5 q6 s6 => ?_
      cases b with
      | true =>
        obtain ⟨r, G6, e7, e8⟩ := bd_inv (show bd (a G5) _ = _ from e6)
        obtain ⟨out2, G7, e9, e10⟩ := bd_inv e8
        cases e10
        rw [if_pos rfl]
        refine ha.im q6 e7 fun v H6 Hs6 q7 s7 d7 => ?_
        obtain ⟨f1, f2⟩ := q7.fz p _ upd_same
        have q8 := (q7.rehide (o' := .lst (acc ++ [v]))).wiped vs
        rw [hw] at q8
        refine ⟨acc, f1, ?_, hlt, _, Hs6, _, ad ++ [r.d], out2, q8, ((s3.trans ex.b).trans s6).trans s7, (da.mono ((ex.b.trans s6).trans s7)).app (.cons d7 .nil), e9, ?_⟩
        · have z1 := da.len
          have z2 : ad.length ≤ out.length := by rw [← eo, List.length_append]; omega
          exact Nat.lt_of_le_of_lt (by omega) (few_lt hf)
        · rw [List.append_assoc]
          exact eo
      | false =>
        rw [if_neg Bool.false_ne_true] at e6 ⊢
        have q8 := q6.wiped vs
        rw [hw] at q8
        exact ⟨hlt, _, Hs5, acc, ad, more, q8, (s3.trans ex.b).trans s6, da.mono (ex.b.trans s6), e6, eo⟩
  · have hend : ds.length ≤ i := by omega
    rw [List.drop_eq_nil_of_le hend] at e3
    cases e3
    rw [List.append_nil] at eo
    subst eo
    obtain ⟨f1, f2⟩ := q3.fz p _ upd_same
    refine .inl ⟨Y.stop i H2 (s3.trans q3.sub) hend, k _ H2 Hs3 (q1.unwipe (q3.unhide hfp) s3 nm) (s1.trans s3) ⟨p, acc, rfl, f1, f2, hfp, da, fun j e' g m z => ?_⟩⟩
    have q9 := q1.unwipe (q3.unhide hfp) s3 nm
    by_cases hjv : j ∈ vs
    · have z1 := q1.len
      have z2 := q3.len
      rw [wipe_length, z1] at z2
      rw [unw_in (G1 := G1) z2.symm hjv] at g
      exact m (noMu_ok nm hjv g)
    · rw [unw_out hjv] at g
      obtain ⟨ds', hd'⟩ : ∃ ds', e'.mu = some ds' := by
        cases y : e'.mu with
        | none => exact absurd y m
        | some ds' => exact ⟨ds', rfl⟩
      obtain ⟨l, ws, a1, a2, a3, a4, a5⟩ := q3.mu j e' ds' g hd'
      rw [wipe_get hjv, z] at a1
      cases a1
      rw [upd_same] at a4
      cases a4
end
end Bk
/-! Bk5: operators and built-ins on data; defs; the law's end. -/
namespace Bk
open PySem L2

/-! ### operators -/
def opAdd : D → D → Option R
  | .int i, .int j => some (.im (.int (i + j)))
  | .str x, .str y => if few (x.length + y.length) then some (.im (.str (x ++ y))) else none
  | .lst xs, .lst ys => if few (xs.length + ys.length) then some (.ow (xs ++ ys)) else none
  | _, _ => none
def opSub : D → D → Option R
  | .int i, .int j => some (.im (.int (i - j)))
  | _, _ => none
def okMul (i j : Int) : Bool := decide (i.natAbs.log2 + j.natAbs.log2 < 1000000)
theorem okMul_ok {i j : Int} (h : okMul i j = true) : CMulW i j := by
  unfold okMul at h
  exact (of_decide_eq_true h : i.natAbs.log2 + j.natAbs.log2 < 1000000)
def opMulI : D → D → Option R
  | .int i, .int j => if okMul i j then some (.im (.int (i * j))) else none
  | _, _ => none
def opMul : D → D → Option R
  | .int i, .int j => if okMul i j then some (.im (.int (i * j))) else none
  | .lst xs, .int k => if okR k && few (xs.length * k.toNat) then some (.ow (List.replicate k.toNat xs).flatten) else none
  | _, _ => none
def okDiv (j : Int) : Bool := decide (j ≠ 0) && decide (j.natAbs.log2 < 9000)
def opFdiv : D → D → Option R
  | .int i, .int j => if okDiv j then some (.im (.int (i.fdiv j))) else none
  | _, _ => none
def opMod : D → D → Option R
  | .int i, .int j => if decide (j ≠ 0) then some (.im (.int (i.fmod j))) else none
  | _, _ => none
def okPow (i j : Int) : Bool := decide (0 ≤ j) && decide (j ≤ 1000000) && decide (i.natAbs < 2 ^ 64)
def opPow : D → D → Option R
  | .int i, .int j => if okPow i j then some (.im (.int (i ^ j.toNat))) else none
  | _, _ => none
def cmp (p : Int → Int → Bool) : D → D → Option R
  | .int i, .int j => some (.im (.bl (p i j)))
  | _, _ => none
def opLt : D → D → Option R := cmp fun i j => decide (i < j)
def opLe : D → D → Option R := cmp fun i j => decide (i ≤ j)
def opGt : D → D → Option R := cmp fun i j => decide (j < i)
def opGe : D → D → Option R := cmp fun i j => decide (j ≤ i)
mutual
def toPy : D → Option PyData
  | .non => some .none
  | .bl b => some (.bool b)
  | .int i => some (.int i)
  | .str x => some (.str x)
  | .lst xs => (toPys xs).map .list
  | .frz xs => (toPys xs).map .list
  | .tup xs => (toPys xs).map .tuple
  | .obj _ _ _ => none
  | .ty _ => none
  | .cl _ => none
def toPys : List D → Option (List PyData)
  | [] => some []
  | x :: xs => match toPy x, toPys xs with
    | some p, some ps => some (p :: ps)
    | _, _ => none
end
def eqD (a b : D) : Option Bool := match a, b with
  | .int i, .int j => some (decide (i = j))
  | .str x, .str y => some (decide (x = y))
  | a, b => match toPy a, toPy b with
    | some p, some q => if SeqAt.shaped p && SeqAt.shaped q then some (PyData.eqv p q) else none
    | _, _ => none
def opEq (a b : D) : Option R := match eqD a b with
  | some k => some (.im (.bl k))
  | none => none
def opNe (a b : D) : Option R := match eqD a b with
  | some k => some (.im (.bl (!k)))
  | none => none
def isN : D → Bool
  | .non => true
  | _ => false
def isD : D → D → Option Bool
  | a, .non => some (isN a)
  | .bl a, .bl b => some (decide (a = b))
  | _, _ => none
def opIs (a b : D) : Option R := match isD a b with
  | some k => some (.im (.bl k))
  | none => none
def opIsNot (a b : D) : Option R := match isD a b with
  | some k => some (.im (.bl (!k)))
  | none => none
def opIx : D → D → Option R
  | .lst xs, .int k => (atI xs k).map .im
  | .frz xs, .int k => (atI xs k).map .im
  | .tup xs, .int k => (atI xs k).map .im
  | .str x, .int k => if few x.length then (atI x.cps.toList k).map fun c => .im (.str ⟨#[c]⟩) else none
  | _, _ => none
def unNeg : D → Option R
  | .int i => some (.im (.int (-i)))
  | _ => none

def rAddA : R2 := fun x y H Q => rI0 (fun i j => .int (i + j)) x y H Q ∨ (∃ i j, x = .str i ∧ y = .str j ∧ i.length + j.length ≤ sizeLine ∧ Q (.str (i ++ j)) H) ∨ rCat x y H Q
theorem op_addA {X : Cx} : OpR X (binaryOp .Add) rAddA := op_add.or (op_add_str.or op_cat)
def rMulA : R2 := fun x y H Q => rI CMulW (fun i j => .int (i * j)) x y H Q ∨ rRep x y H Q
theorem op_mulA {X : Cx} : OpR X (binaryOp .Mult) rMulA := op_mulW.or op_rep
def rFdivA : R2 := rI (fun _ j => j ≠ 0 ∧ j.natAbs.log2 < 9000) fun i j => .int (i.fdiv j)
theorem op_fdivA {X : Cx} : OpR X (binaryOp .FloorDiv) rFdivA := opI fun _ _ _ _ _ _ _ hc q => PyProof.Rows.floordiv_int hc.1 q (.inl (PyProof.noPylong_of_log2 hc.2))
def rModA : R2 := rI (fun _ j => j ≠ 0) fun i j => .int (i.fmod j)
theorem op_modA {X : Cx} : OpR X (binaryOp .Mod) rModA := op_modN
theorem iop_mulA {X : Cx} : PIp X .Mult (rI CMulW fun i j => .int (i * j)) := opI (X := X) (f := inplaceOp .Mult) fun _ _ _ _ _ _ _ hc q => PyProof.Rows.imul_int q hc.ok
def rSubA : R2 := rI0 fun i j => .int (i - j)
theorem op_subA {X : Cx} : OpR X (binaryOp .Sub) rSubA := op_sub
def rPowA : R2 := rI CPow fun i j => .int (i ^ j.toNat)
theorem op_powA {X : Cx} : OpR X (binaryOp .Pow) rPowA := op_pow
def rIsA : R2 := fun x y H Q => (y = .non ∧ Q (.bl (decide (x = .non))) H) ∨ rIsB x y H Q
theorem op_isA {X : Cx} : OpR X (compareOp .Is) rIsA := op_isN.or op_isBl
def rIsNotA : R2 := fun x y H Q => (y = .non ∧ Q (.bl (!decide (x = .non))) H) ∨ rNotB x y H Q
theorem op_isNotA {X : Cx} : OpR X (compareOp .IsNot) rIsNotA := op_notN.or op_notBl

section
variable {K : PySem.W.Frag}
theorem od_add : OpD K rAddA opAdd := fun H Hs x y dx dy res s hx hy e Q k => by
  unfold opAdd at e
  split at e
  · cases e
    cases hx; cases hy
    exact .inl ⟨_, _, rfl, rfl, k _ H Hs (Ext.refl s) (.int _)⟩
  · split at e
    case isFalse => cases e
    rename_i hf
    cases e
    cases hx; cases hy
    exact .inr (.inl ⟨_, _, rfl, rfl, few_ok hf, k _ H Hs (Ext.refl s) (.str _)⟩)
  · split at e
    case isFalse => cases e
    rename_i hf
    cases e
    cases hx with
    | lst h1 d1 =>
      cases hy with
      | lst h2 d2 =>
        exact .inr (.inr ⟨_, _, _, _, rfl, rfl, s _ _ h1, s _ _ h2, by rw [d1.len, d2.len]; exact few_ok hf, fun p hp =>
          k _ _ Hs (Ext.hid s hp) ⟨p, _, rfl, hp, upd_same, none_sub s hp, d1.app d2⟩⟩)
  · cases e
theorem od_sub : OpD K rSubA opSub := fun H Hs x y dx dy res s hx hy e Q k => by
  unfold opSub at e
  split at e
  case h_2 => cases e
  cases e
  cases hx; cases hy
  exact ⟨_, _, rfl, rfl, k _ H Hs (Ext.refl s) (.int _)⟩
theorem od_mul : OpD K rMulA opMul := fun H Hs x y dx dy res s hx hy e Q k => by
  unfold opMul at e
  split at e
  · split at e
    case isFalse => cases e
    rename_i hf
    cases e
    cases hx; cases hy
    exact .inl ⟨_, _, rfl, rfl, okMul_ok hf, k _ H Hs (Ext.refl s) (.int _)⟩
  · split at e
    case isFalse => cases e
    rename_i hf
    rw [Bool.and_eq_true] at hf
    cases e
    cases hx with
    | lst h1 d1 =>
      cases hy
      obtain ⟨z1, z2⟩ : -(2 ^ 62) ≤ _ ∧ _ < 2 ^ 62 := okR_inv hf.1
      exact .inr ⟨_, _, _, rfl, rfl, s _ _ h1, by omega, by omega, by rw [d1.len]; exact few_ok hf.2, fun p hp =>
        k _ _ Hs (Ext.hid s hp) ⟨p, _, rfl, hp, upd_same, none_sub s hp, d1.rep _⟩⟩
  · cases e
theorem od_mulI : OpD K (rI CMulW fun i j => .int (i * j)) opMulI := fun H Hs x y dx dy res s hx hy e Q k => by
  unfold opMulI at e
  split at e
  case h_2 => cases e
  split at e
  case isFalse => cases e
  rename_i hf
  cases e
  cases hx; cases hy
  exact ⟨_, _, rfl, rfl, okMul_ok hf, k _ H Hs (Ext.refl s) (.int _)⟩
theorem od_fdiv : OpD K rFdivA opFdiv := fun H Hs x y dx dy res s hx hy e Q k => by
  unfold opFdiv at e
  split at e
  case h_2 => cases e
  split at e
  case isFalse => cases e
  rename_i hf
  unfold okDiv at hf
  rw [Bool.and_eq_true] at hf
  cases e
  cases hx; cases hy
  exact ⟨_, _, rfl, rfl, ⟨of_decide_eq_true hf.1, of_decide_eq_true hf.2⟩, k _ H Hs (Ext.refl s) (.int _)⟩
theorem od_mod : OpD K rModA opMod := fun H Hs x y dx dy res s hx hy e Q k => by
  unfold opMod at e
  split at e
  case h_2 => cases e
  split at e
  case isFalse => cases e
  rename_i hf
  cases e
  cases hx; cases hy
  exact ⟨_, _, rfl, rfl, of_decide_eq_true hf, k _ H Hs (Ext.refl s) (.int _)⟩
theorem od_pow : OpD K rPowA opPow := fun H Hs x y dx dy res s hx hy e Q k => by
  unfold opPow at e
  split at e
  case h_2 => cases e
  split at e
  case isFalse => cases e
  rename_i hf
  unfold okPow at hf
  rw [Bool.and_eq_true, Bool.and_eq_true] at hf
  cases e
  cases hx; cases hy
  exact ⟨_, _, rfl, rfl, ⟨of_decide_eq_true hf.1.1, of_decide_eq_true hf.1.2, of_decide_eq_true hf.2⟩, k _ H Hs (Ext.refl s) (.int _)⟩
theorem od_cmp {p : Int → Int → Bool} : OpD K (rI0 fun i j => .bl (p i j)) (cmp p) := fun H Hs x y dx dy res s hx hy e Q k => by
  unfold cmp at e
  split at e
  case h_2 => cases e
  cases e
  cases hx; cases hy
  exact ⟨_, _, rfl, rfl, k _ H Hs (Ext.refl s) (.bl _)⟩
theorem od_lt : OpD K (rI0 fun i j => .bl (decide (i < j))) opLt := od_cmp
theorem od_le : OpD K (rI0 fun i j => .bl (decide (i ≤ j))) opLe := od_cmp
theorem od_gt : OpD K (rI0 fun i j => .bl (decide (j < i))) opGt := od_cmp
theorem od_ge : OpD K (rI0 fun i j => .bl (decide (j ≤ i))) opGe := od_cmp
mutual
theorem toPy_ok {H : Hp} : ∀ {d : D} {v : V} {p : PyData}, DR K H v d → toPy d = some p → Dp K H v p
  | .non, _, _, h, e => by cases h; unfold toPy at e; cases e; exact .non
  | .bl b, _, _, h, e => by cases h; unfold toPy at e; cases e; exact .bl b
  | .int i, _, _, h, e => by cases h; unfold toPy at e; cases e; exact .int i
  | .str x, _, _, h, e => by cases h; unfold toPy at e; cases e; exact .str x
  | .lst xs, _, _, h, e => by
    unfold toPy at e
    cases z : toPys xs with
    | none => rw [z] at e; cases e
    | some ps =>
      rw [z] at e
      cases e
      cases h with
      | lst h1 d1 => exact .lst (SqL.of h1) (toPys_ok d1 z)
  | .frz xs, _, _, h, e => by
    unfold toPy at e
    cases z : toPys xs with
    | none => rw [z] at e; cases e
    | some ps =>
      rw [z] at e
      cases e
      cases h with
      | frz h1 d1 => exact .lst h1 (toPys_ok d1 z)
  | .tup xs, _, _, h, e => by
    unfold toPy at e
    cases z : toPys xs with
    | none => rw [z] at e; cases e
    | some ps =>
      rw [z] at e
      cases e
      cases h with
      | tup h1 d1 => exact .tup h1 (toPys_ok d1 z)
  | .obj _ _ _, _, _, _, e => by unfold toPy at e; cases e
  | .ty _, _, _, _, e => by unfold toPy at e; cases e
  | .cl _, _, _, _, e => by unfold toPy at e; cases e
theorem toPys_ok {H : Hp} : ∀ {ds : List D} {vs : List V} {ps : List PyData}, DRs K H vs ds → toPys ds = some ps → DpAll K H vs ps
  | [], _, _, h, e => by cases h; unfold toPys at e; cases e; exact .nil
  | d :: ds, _, _, h, e => by
    unfold toPys at e
    split at e
    case h_2 => cases e
    rename_i h1 h2
    cases e
    cases h with
    | cons a b => exact .cons (toPy_ok a h1) (toPys_ok b h2)
end
theorem shaped_int (i : Int) : SeqAt.shaped (.int i) = true := by
  unfold SeqAt.shaped
  simp [PyData.canLay0, PyData.depth]
theorem eqD_ok {H : Hp} {x y : V} {a b : D} {k : Bool} (hx : DR K H x a) (hy : DR K H y b) (e : eqD a b = some k) :
    (∃ p q, Dp K H x p ∧ Dp K H y q ∧ SeqAt.shaped p = true ∧ SeqAt.shaped q = true ∧ PyData.eqv p q = k) ∨ (scal x y = true ∧ decide (x = y) = k) := by
  unfold eqD at e
  split at e
  · cases e
    cases hx; cases hy
    exact .inl ⟨_, _, .int _, .int _, shaped_int _, shaped_int _, by simp only [PyData.eqv]; exact Bool.beq_eq_decide_eq _ _⟩
  · cases e
    cases hx; cases hy
    exact .inr ⟨rfl, by simp⟩
  · split at e
    case h_2 => cases e
    rename_i h1 h2
    split at e
    case isFalse => cases e
    rename_i hf
    rw [Bool.and_eq_true] at hf
    cases e
    exact .inl ⟨_, _, toPy_ok hx h1, toPy_ok hy h2, hf.1, hf.2, rfl⟩
def rEqA (K : PySem.W.Frag) : R2 := fun x y H Q => rEqD K x y H Q ∨ rEq x y H Q
def rNeA (K : PySem.W.Frag) : R2 := fun x y H Q => rNeD K x y H Q ∨ rNe x y H Q
theorem op_eqA {X : Cx} (hu : X.A.units + 64 < cLine) : OpR X (compareOp .Eq) (rEqA X.K) := (op_eqD hu).or op_eq
theorem op_neA {X : Cx} (hu : X.A.units + 64 < cLine) : OpR X (compareOp .NotEq) (rNeA X.K) := (op_neD hu).or op_ne
theorem dp_mono {H H' : Hp} (s : Same H H') {x : V} {d : D} {p : PyData} (h : DR K H x d) (e : toPy d = some p) : Dp K H' x p := toPy_ok (h.mono s) e
theorem od_eq : OpD K (rEqA K) opEq := fun H Hs x y dx dy res s hx hy e Q k => by
  unfold opEq at e
  cases z : eqD dx dy with
  | none => rw [z] at e; cases e
  | some b =>
    rw [z] at e
    cases e
    rcases eqD_ok (hx.mono s) (hy.mono s) z with ⟨p, q, a1, a2, a3, a4, a5⟩ | ⟨a1, a2⟩
    · exact .inl ⟨p, q, a1, a2, a3, a4, by rw [a5]; exact k _ H Hs (Ext.refl s) (.bl _)⟩
    · exact .inr ⟨a1, by rw [a2]; exact k _ H Hs (Ext.refl s) (.bl _)⟩
theorem od_ne : OpD K (rNeA K) opNe := fun H Hs x y dx dy res s hx hy e Q k => by
  unfold opNe at e
  cases z : eqD dx dy with
  | none => rw [z] at e; cases e
  | some b =>
    rw [z] at e
    cases e
    rcases eqD_ok (hx.mono s) (hy.mono s) z with ⟨p, q, a1, a2, a3, a4, a5⟩ | ⟨a1, a2⟩
    · exact .inl ⟨p, q, a1, a2, a3, a4, by rw [a5]; exact k _ H Hs (Ext.refl s) (.bl _)⟩
    · exact .inr ⟨a1, by rw [a2]; exact k _ H Hs (Ext.refl s) (.bl _)⟩
theorem isN_ok {H : Hp} {x : V} {d : D} (h : DR K H x d) : decide (x = .non) = isN d := by
  cases h <;> simp [isN]
theorem od_is : OpD K rIsA opIs := fun H Hs x y dx dy res s hx hy e Q k => by
  unfold opIs at e
  cases z : isD dx dy with
  | none => rw [z] at e; cases e
  | some b =>
    rw [z] at e
    cases e
    unfold isD at z
    split at z
    · cases z
      cases hy
      exact .inl ⟨rfl, by rw [isN_ok hx]; exact k _ H Hs (Ext.refl s) (.bl _)⟩
    · cases z
      cases hx; cases hy
      exact .inr ⟨_, _, rfl, rfl, k _ H Hs (Ext.refl s) (.bl _)⟩
    · cases z
theorem od_isNot : OpD K rIsNotA opIsNot := fun H Hs x y dx dy res s hx hy e Q k => by
  unfold opIsNot at e
  cases z : isD dx dy with
  | none => rw [z] at e; cases e
  | some b =>
    rw [z] at e
    cases e
    unfold isD at z
    split at z
    · cases z
      cases hy
      exact .inl ⟨rfl, by rw [isN_ok hx]; exact k _ H Hs (Ext.refl s) (.bl _)⟩
    · cases z
      cases hx; cases hy
      exact .inr ⟨_, _, rfl, rfl, k _ H Hs (Ext.refl s) (.bl _)⟩
    · cases z
theorem od_ix : OpD K (rIx K) opIx := fun H Hs x y dx dy res s hx hy e Q k => by
  have fin : ∀ {vs : List V} {ds : List D} {i : Int}, DRs K Hs vs ds → (atI ds i).map R.im = some res → ∃ w, atI vs i = some w ∧ Q w H := fun {vs ds i} h z => by
    cases z1 : atI ds i with
    | none => rw [z1] at z; cases z
    | some d =>
      rw [z1] at z
      cases z
      obtain ⟨w, w1, w2⟩ := at_ok h z1
      exact ⟨w, w1, k w H Hs (Ext.refl s) w2⟩
  unfold opIx at e
  split at e
  · cases hx with
    | lst h1 d1 =>
      cases hy
      obtain ⟨w, w1, w2⟩ := fin d1 e
      exact .inl ⟨_, _, _, w, rfl, rfl, SqL.of (s _ _ h1), w1, w2⟩
  · cases hx with
    | frz h1 d1 =>
      cases hy
      obtain ⟨w, w1, w2⟩ := fin d1 e
      exact .inl ⟨_, _, _, w, rfl, rfl, same_lst s h1, w1, w2⟩
  · cases hx with
    | tup h1 d1 =>
      cases hy
      obtain ⟨w, w1, w2⟩ := fin d1 e
      exact .inr (.inl ⟨_, _, _, w, rfl, rfl, same_tup s h1, w1, w2⟩)
  · split at e
    case isFalse => cases e
    rename_i hf
    rename_i z i
    cases hx; cases hy
    cases z1 : atI z.cps.toList i with
    | none => rw [z1] at e; cases e
    | some c =>
      rw [z1] at e
      cases e
      exact .inr (.inr ⟨z, i, c, rfl, rfl, few_ok hf, z1, k _ H Hs (Ext.refl s) (.str _)⟩)
  · cases e
theorem ud_neg : UnD K (rU fun i => .int (-i)) unNeg := fun H Hs x dx res s hx e Q k => by
  unfold unNeg at e
  split at e
  case h_2 => cases e
  cases e
  cases hx
  exact ⟨_, rfl, k _ H Hs (Ext.refl s) (.int _)⟩
/-- slices of lists -/
def cutD (xs : List D) (lo hi : Option Int) : List D := (xs.drop (HT.sIx xs.length 0 lo)).take (HT.sIx xs.length xs.length hi - HT.sIx xs.length 0 lo)
theorem cut_ok {H : Hp} {vs : List V} {ds : List D} (h : DRs K H vs ds) (lo hi : Option Int) : DRs K H (cutV vs lo hi) (cutD ds lo hi) := by
  unfold cutV cutD
  rw [h.len]
  exact (h.drop _).take _
def slL (d : D) (lo hi : Option Int) : Option R := match asL d with
  | some xs => some (.ow (cutD xs lo hi))
  | none => none
theorem sd_list : SlD K (rSlL K) slL := fun H Hs x dx l h res s hx e Q k => by
  unfold slL at e
  cases z : asL dx with
  | none => rw [z] at e; cases e
  | some xs =>
    rw [z] at e
    cases e
    obtain ⟨a, vs, rfl, h1, d1⟩ := asL_ok hx z
    exact ⟨a, vs, rfl, same_lst s h1, fun p hp => k _ _ Hs (Ext.hid s hp) ⟨p, _, rfl, hp, upd_same, none_sub s hp, cut_ok d1 _ _⟩⟩
def slT (d : D) (lo hi : Option Int) : Option R := match d with
  | .tup xs => if HT.sIx xs.length 0 lo = 0 ∧ HT.sIx xs.length xs.length hi = xs.length then none else some (.im (.tup (cutD xs lo hi)))
  | _ => none
theorem sd_tup : SlD K (rSlT K) slT := fun H Hs x dx l h res s hx e Q k => by
  unfold slT at e
  split at e
  case h_2 => cases e
  split at e
  case isTrue => cases e
  rename_i hf
  cases e
  cases hx with
  | tup h1 d1 => exact ⟨_, _, rfl, same_tup s h1, by rw [d1.len]; exact hf, fun p hp => k _ _ _ (Ext.new s hp) (.tup (SqT.of upd_same) (cut_ok (d1.mono (Ext.new (o := HO.tup _) s hp).b) _ _))⟩

/-! ### built-ins -/
def cbAbs : List D → Option R
  | [.int i] => some (.im (.int (if i < 0 then -i else i)))
  | _ => none
def rAbs : List V → Hp → VK → Prop := fun xs H Q => ∃ i, xs = [.int i] ∧ Q (.int (if i < 0 then -i else i)) H
theorem cr_abs {X : Cx} : CallR X (.builtin "abs") rAbs := call_abs
theorem cd_abs : CbD K rAbs cbAbs := fun H Hs xs ds res s h e Q k => by
  unfold cbAbs at e
  split at e
  case h_2 => cases e
  cases e
  cases h with
  | cons a b => cases b; cases a; exact ⟨_, rfl, k _ H Hs (Ext.refl s) (.int _)⟩
def cbInt : List D → Option R
  | [.int i] => some (.im (.int i))
  | [.bl b] => some (.im (.int (if b then 1 else 0)))
  | _ => none
def rInt : List V → Hp → VK → Prop := fun xs H Q => (∃ i, xs = [.int i] ∧ Q (.int i) H) ∨ ∃ k, xs = [.bl k] ∧ Q (.int (if k then 1 else 0)) H
theorem cr_int {X : Cx} : CallR X (.type "int") rInt := call_int1
theorem cd_int : CbD K rInt cbInt := fun H Hs xs ds res s h e Q k => by
  unfold cbInt at e
  split at e
  · cases e
    cases h with
    | cons a b => cases b; cases a; exact .inl ⟨_, rfl, k _ H Hs (Ext.refl s) (.int _)⟩
  · cases e
    cases h with
    | cons a b => cases b; cases a; exact .inr ⟨_, rfl, k _ H Hs (Ext.refl s) (.int _)⟩
  · cases e
def lenD : D → Option Nat
  | .lst xs => some xs.length
  | .frz xs => some xs.length
  | .tup xs => some xs.length
  | .str x => if few x.length then some x.length else none
  | _ => none
def cbLen : List D → Option R
  | [d] => (lenD d).map fun n => .im (.int n)
  | _ => none
theorem cr_len {X : Cx} : CallR X (.builtin "len") (rLen X.K) := call_len
theorem lenD_ok {H : Hp} {x : V} {d : D} {n : Nat} (h : DR K H x d) (e : lenD d = some n) : LenV K x H n := by
  cases h with
  | lst h1 d1 => cases e; exact .inl ⟨_, SqL.of h1, d1.len.symm⟩
  | frz h1 d1 => cases e; exact .inl ⟨_, h1, d1.len.symm⟩
  | tup h1 d1 => cases e; exact .inr ⟨_, h1, d1.len.symm⟩
  | str x =>
    by_cases hf : few x.length = true
    · rw [show lenD (.str x) = some x.length from if_pos hf] at e
      cases e
      exact ⟨few_ok hf, rfl⟩
    · rw [show lenD (.str x) = none from if_neg hf] at e
      cases e
  | _ => cases e
theorem cd_len : CbD K (rLen K) cbLen := fun H Hs xs ds res s h e Q k => by
  unfold cbLen at e
  split at e
  case h_2 => cases e
  rename_i d
  cases z : lenD d with
  | none => rw [z] at e; cases e
  | some n =>
    rw [z] at e
    cases e
    cases h with
    | cons a b =>
      cases b
      exact ⟨_, n, rfl, lenD_ok (a.mono s) z, k _ H Hs (Ext.refl s) (.int _)⟩
def cbMax2 : List D → Option R
  | [.int i, .int j] => some (.im (.int (if j > i then j else i)))
  | _ => none
def cbMin2 : List D → Option R
  | [.int i, .int j] => some (.im (.int (if j < i then j else i)))
  | _ => none
def rMax2 : List V → Hp → VK → Prop := fun xs H Q => ∃ i j, xs = [.int i, .int j] ∧ Q (.int (if j > i then j else i)) H
def rMin2 : List V → Hp → VK → Prop := fun xs H Q => ∃ i j, xs = [.int i, .int j] ∧ Q (.int (if j < i then j else i)) H
theorem cr_max2 {X : Cx} (hc : X.calm = true) : CallR X (.builtin "max") rMax2 := call_max2 hc
theorem cr_min2 {X : Cx} (hc : X.calm = true) : CallR X (.builtin "min") rMin2 := call_min2 hc
theorem cd_max2 : CbD K rMax2 cbMax2 := fun H Hs xs ds res s h e Q k => by
  unfold cbMax2 at e
  split at e
  case h_2 => cases e
  cases e
  cases h with
  | cons a b =>
    cases b with
    | cons b c => cases c; cases a; cases b; exact ⟨_, _, rfl, k _ H Hs (Ext.refl s) (.int _)⟩
theorem cd_min2 : CbD K rMin2 cbMin2 := fun H Hs xs ds res s h e Q k => by
  unfold cbMin2 at e
  split at e
  case h_2 => cases e
  cases e
  cases h with
  | cons a b =>
    cases b with
    | cons b c => cases c; cases a; cases b; exact ⟨_, _, rfl, k _ H Hs (Ext.refl s) (.int _)⟩
def bools : List D → Option (List Bool)
  | [] => some []
  | .bl b :: ds => match bools ds with
    | some bs => some (b :: bs)
    | none => none
  | _ :: _ => none
theorem bools_ok {H : Hp} : ∀ {ds : List D} {vs : List V} {bs : List Bool}, DRs K H vs ds → bools ds = some bs → vs = bs.map V.bl
  | [], _, _, h, e => by cases h; cases e; rfl
  | d :: ds, _, _, h, e => by
    cases h with
    | cons a b =>
      unfold bools at e
      split at e
      · rename_i heq; cases heq
      · rename_i heq
        cases heq
        split at e
        case h_2 => cases e
        rename_i z
        cases e
        cases a
        rw [List.map_cons, ← bools_ok b z]
      · cases e
def cbAny : List D → Option R
  | [d] => match asL d with
    | some xs => (bools xs).map fun bs => .im (.bl (bs.any id))
    | none => none
  | _ => none
def cbAll : List D → Option R
  | [d] => match asL d with
    | some xs => (bools xs).map fun bs => .im (.bl (bs.all id))
    | none => none
  | _ => none
theorem cd_any : CbD K (rAny K) cbAny := fun H Hs xs ds res s h e Q k => by
  unfold cbAny at e
  split at e
  case h_2 => cases e
  split at e
  case h_2 => cases e
  rename_i ys z
  cases z1 : bools ys with
  | none => rw [z1] at e; cases e
  | some bs =>
    rw [z1] at e
    cases e
    cases h with
    | cons a b =>
      cases b
      obtain ⟨l, vs, rfl, h1, d1⟩ := asL_ok a z
      exact ⟨l, bs, rfl, by rw [← bools_ok d1 z1]; exact same_lst s h1, k _ H Hs (Ext.refl s) (.bl _)⟩
theorem cd_all : CbD K (rAll K) cbAll := fun H Hs xs ds res s h e Q k => by
  unfold cbAll at e
  split at e
  case h_2 => cases e
  split at e
  case h_2 => cases e
  rename_i ys z
  cases z1 : bools ys with
  | none => rw [z1] at e; cases e
  | some bs =>
    rw [z1] at e
    cases e
    cases h with
    | cons a b =>
      cases b
      obtain ⟨l, vs, rfl, h1, d1⟩ := asL_ok a z
      exact ⟨l, bs, rfl, by rw [← bools_ok d1 z1]; exact same_lst s h1, k _ H Hs (Ext.refl s) (.bl _)⟩
def cbTuple : List D → Option R
  | [.tup xs] => some (.im (.tup xs))
  | [d] => (asL d).map fun xs => .im (.tup xs)
  | _ => none
def rTupleOf (K : PySem.W.Frag) : List V → Hp → VK → Prop := fun xs H Q => ∃ p ys, xs = [.ref p] ∧ ((SqL K H p ys ∧ ∀ l, H l = none → Q (.ref l) (upd H l (.tup ys))) ∨ (SqT K H p ys ∧ Q (.ref p) H))
theorem cr_tuple {X : Cx} : CallR X (.type "tuple") (rTupleOf X.K) := call_tuple_of
theorem cd_tuple : CbD K (rTupleOf K) cbTuple := fun H Hs xs ds res s h e Q k => by
  unfold cbTuple at e
  split at e
  · cases e
    cases h with
    | cons a b =>
      cases b
      cases a with
      | tup h1 d1 => exact ⟨_, _, rfl, .inr ⟨same_tup s h1, k _ H Hs (Ext.refl s) (.tup h1 d1)⟩⟩
  · rename_i d _
    cases z : asL d with
    | none => rw [z] at e; cases e
    | some ys =>
      rw [z] at e
      cases e
      cases h with
      | cons a b =>
        cases b
        obtain ⟨l, vs, rfl, h1, d1⟩ := asL_ok a z
        exact ⟨l, vs, rfl, .inl ⟨same_lst s h1, fun p hp => k _ _ _ (Ext.new s hp) (.tup (SqT.of upd_same) (d1.mono (Ext.new (o := HO.tup vs) s hp).b))⟩⟩
  · cases e
def seqD : D → Option (List D)
  | .lst xs => some xs
  | .frz xs => some xs
  | .tup xs => some xs
  | _ => none
def cbList : List D → Option R
  | [d] => (seqD d).map fun xs => .ow xs
  | _ => none
def rListOf (K : PySem.W.Frag) : List V → Hp → VK → Prop := fun xs H Q => ∃ p ys, xs = [.ref p] ∧ (SqL K H p ys ∨ SqT K H p ys) ∧ ∀ l, H l = none → Q (.ref l) (upd H l (.lst ys))
theorem cr_list {X : Cx} : CallR X (.type "list") (rListOf X.K) := call_list_of
theorem cd_list : CbD K (rListOf K) cbList := fun H Hs xs ds res s h e Q k => by
  unfold cbList at e
  split at e
  case h_2 => cases e
  rename_i d
  cases z : seqD d with
  | none => rw [z] at e; cases e
  | some ys =>
    rw [z] at e
    cases e
    cases h with
    | cons a b =>
      cases b
      cases a with
      | lst h1 d1 => cases z; exact ⟨_, _, rfl, .inl (SqL.of (s _ _ h1)), fun p hp => k _ _ Hs (Ext.hid s hp) ⟨p, _, rfl, hp, upd_same, none_sub s hp, d1⟩⟩
      | frz h1 d1 => cases z; exact ⟨_, _, rfl, .inl (same_lst s h1), fun p hp => k _ _ Hs (Ext.hid s hp) ⟨p, _, rfl, hp, upd_same, none_sub s hp, d1⟩⟩
      | tup h1 d1 => cases z; exact ⟨_, _, rfl, .inr (same_tup s h1), fun p hp => k _ _ Hs (Ext.hid s hp) ⟨p, _, rfl, hp, upd_same, none_sub s hp, d1⟩⟩
      | _ => cases z
/-! isinstance of built-in types -/
def tyS : D → Option String
  | .non => some "NoneType"
  | .bl _ => some "bool"
  | .int _ => some "int"
  | .str _ => some "str"
  | .lst _ => some "list"
  | .frz _ => some "list"
  | .tup _ => some "tuple"
  | _ => none
def isiT (a b : String) : Option Bool :=
  if ["int", "bool", "str", "list", "tuple"].contains b then some (a == b || (a == "bool" && b == "int")) else none
theorem isiT_ok {a b : String} {k : Bool} (ha : ["NoneType", "bool", "int", "str", "list", "tuple"].contains a = true) (h : isiT a b = some k) : kitB a b = some k := by
  have hb : ["int", "bool", "str", "list", "tuple"].contains b = true := by
    unfold isiT at h
    split at h
    · assumption
    · cases h
  have key : (["NoneType", "bool", "int", "str", "list", "tuple"].all fun a => ["int", "bool", "str", "list", "tuple"].all fun b => decide (kitB a b = isiT a b)) = true := by decide +kernel
  rw [List.all_eq_true] at key
  have k1 := key a (by simpa using ha)
  rw [List.all_eq_true] at k1
  have k2 := of_decide_eq_true (k1 b (by simpa using hb))
  rw [k2]
  exact h
theorem tyS_ok {H : Hp} {x : V} {d : D} {t : String} (h : DR K H x d) (e : tyS d = some t) : TyX K H x (.type t) ∧ ["NoneType", "bool", "int", "str", "list", "tuple"].contains t = true := by
  cases h with
  | non => cases e; exact ⟨.base .non, by decide⟩
  | bl b => cases e; exact ⟨.base (.bl b), by decide⟩
  | int i => cases e; exact ⟨.base (.int i), by decide⟩
  | str x => cases e; exact ⟨.base (.str x), by decide⟩
  | lst h1 d1 => cases e; exact ⟨.base (.lst h1), by decide⟩
  | frz h1 d1 =>
    cases e
    rcases h1 with (h1 | ⟨o, h1⟩) | ⟨o, its, n, h1, h2, _⟩
    · exact ⟨.base (.lst h1), by decide⟩
    · exact ⟨.base (.frz h1), by decide⟩
    · exact ⟨.kList h1 h2, by decide⟩
  | tup h1 d1 =>
    cases e
    rcases h1 with (h1 | ⟨o, h1⟩) | ⟨o, its, n, h1, h2, _⟩
    · exact ⟨.base (.tup h1), by decide⟩
    · exact ⟨.fTuple h1, by decide⟩
    · exact ⟨.kTuple h1 h2, by decide⟩
  | _ => cases e
def cbIsi : List D → Option R
  | [d, .ty c] => match tyS d with
    | some t => (isiT t c).map fun k => .im (.bl k)
    | none => none
  | _ => none
theorem cd_isi : CbD K (rIsi K) cbIsi := fun H Hs xs ds res s h e Q k => by
  unfold cbIsi at e
  split at e
  case h_2 => cases e
  rename_i d c
  cases z : tyS d with
  | none => rw [z] at e; cases e
  | some t =>
    simp only [z] at e
    cases z1 : isiT t c with
    | none => rw [z1] at e; cases e
    | some b =>
      rw [z1] at e
      cases e
      cases h with
      | cons a a2 =>
        cases a2 with
        | cons a2 a3 =>
          cases a3
          cases a2
          obtain ⟨t1, t2⟩ := tyS_ok (a.mono s) z
          exact ⟨_, _, _, _, b, rfl, .ty c, t1, kit_ty (isiT_ok t2 z1), k _ H Hs (Ext.refl s) (.bl _)⟩
end
end Bk
/-! Bk6: defs that compute on data; the law's end; repr. -/
namespace Bk
open PySem L2

/-! ### repr -/
def okShow (p : PyData) : Bool := p.showable && decide (p.depth ≤ 64) && decide (p.hasDict = false) && decide (p.shown.length ≤ sizeLine)
def cbRepr : List D → Option R
  | [d] => match toPy d with
    | some p => if okShow p then some (.im (.str p.shown)) else none
    | none => none
  | _ => none
def rRepr (K : PySem.W.Frag) : List V → Hp → VK → Prop := fun xs H Q => ∃ x p, xs = [x] ∧ Dp K H x p ∧ okShow p = true ∧ Q (.str p.shown) H
theorem cr_repr {X : Cx} (hg : X.A.guards = some []) (hu : X.A.units + 70 < cLine) : CallR X (.builtin "repr") (rRepr X.K) := by
  intro pins s σ H xs us Q I r h
  obtain ⟨x, p, rfl, hp, hok, q⟩ := h
  obtain ⟨u, rfl, rx⟩ := vals1 r
  unfold okShow at hok
  rw [Bool.and_eq_true, Bool.and_eq_true, Bool.and_eq_true] at hok
  obtain ⟨⟨⟨h1, h2⟩, h3⟩, h4⟩ := hok
  have h2 := of_decide_eq_true h2
  have h3 := of_decide_eq_true h3
  have h4 := of_decide_eq_true h4
  have fin : ∀ (h' : Heap) (tk : Nat) (t : Tok), (∀ b o, s.heap.get? b = some o → h'.get? b = some o) → EP X pins σ Q (.str p.shown t) { s with heap := h', toks := tk } :=
    fun h' tk t kp => ⟨.str p.shown, H, I.kept kp, ⟨t, rfl⟩, q⟩
  obtain ⟨as, rd⟩ := Dp.reads I p x u hp rx
  cases rd with
  | none => exact PySem.P.repr_of_none (by simpa only [PyData.shown] using fin s.heap (s.toks + 1) s.toks fun _ _ z => z)
  | bool b => exact PySem.P.repr_of_bool (by simpa only [PyData.shown] using fin s.heap (s.toks + 1) s.toks fun _ _ z => z)
  | int i t => exact PySem.P.repr_of_int (by simpa [PyData.showable] using h1) (by simpa only [PyData.shown] using fin s.heap (s.toks + 1) s.toks fun _ _ z => z)
  | str y t => exact PySem.P.repr_of_str (by simpa only [PyData.shown] using fin s.heap (s.toks + 1) s.toks fun _ _ z => z) (by simpa only [PyData.shown] using h4)
  | list a b c d => exact repr_of_reads' (.list a b c d) h1 (PyData.noDict_hsm h3) hg (by omega) (fun _ _ z => z) (fun h' t tk kp => fin h' tk t kp) h4
  | tuple a b c d => exact repr_of_reads' (.tuple a b c d) h1 (PyData.noDict_hsm h3) hg (by omega) (fun _ _ z => z) (fun h' t tk kp => fin h' tk t kp) h4
  | dict a b c d e => exact repr_of_reads' (.dict a b c d e) h1 (PyData.noDict_hsm h3) hg (by omega) (fun _ _ z => z) (fun h' t tk kp => fin h' tk t kp) h4
section
variable {K : PySem.W.Frag}
theorem cd_repr : CbD K (rRepr K) cbRepr := fun H Hs xs ds res s h e Q k => by
  unfold cbRepr at e
  split at e
  case h_2 => cases e
  split at e
  case h_2 => cases e
  rename_i p z
  split at e
  case isFalse => cases e
  rename_i hf
  cases e
  cases h with
  | cons a b => cases b; exact ⟨_, p, rfl, toPy_ok (a.mono s) z, hf, k _ H Hs (Ext.refl s) (.str _)⟩
end

/-! ### defs -/
def pad (n : Nat) (ds : List D) : Gam := ds.map Ent.im ++ List.replicate (n - ds.length) Ent.un
def outF : Option (Fl × Gam) → Option R
  | some (.rt r, _) => some r
  | some (.nx, _) => some (.im .non)
  | _ => none
def runF (k n : Nat) (b : MS) (ds : List D) : Option R := if ds.length = k then outF (b (pad n ds)) else none
def outB : Option (Fl × Gam) → Option (R × List D)
  | some (.rt r, .bx bs :: _) => some (r, bs)
  | some (.nx, .bx bs :: _) => some (.im .non, bs)
  | _ => none
def runB (k n : Nat) (b : MS) (bs ds : List D) : Option (R × List D) := if ds.length + 1 = k then outB (b (.bx bs :: pad (n - 1) ds)) else none
/-- what stands but is hidden -/
def hid (H Hs : Hp) : Hp := fun a => match Hs a with
  | none => H a
  | some _ => none
theorem hid_some {H Hs : Hp} {a : Addr} {o : HO} (h : hid H Hs a = some o) : H a = some o ∧ Hs a = none := by
  unfold hid at h
  cases z : Hs a with
  | none => rw [z] at h; exact ⟨h, rfl⟩
  | some u => rw [z] at h; cases h
theorem hid_of {H Hs : Hp} {a : Addr} {o : HO} (h : H a = some o) (n : Hs a = none) : hid H Hs a = some o := by
  unfold hid
  rw [n]
  exact h
section
variable {K : PySem.W.Frag}
theorem pad_get {n : Nat} {ds : List D} {i : Nat} {e : Ent} (h : (pad n ds)[i]? = some e) : (∃ d, ds[i]? = some d ∧ e = .im d) ∨ e = .un := by
  unfold pad at h
  rw [List.getElem?_append] at h
  split at h
  · rw [List.getElem?_map] at h
    cases z : ds[i]? with
    | none => rw [z] at h; cases h
    | some d => rw [z] at h; cases h; exact .inl ⟨d, rfl, rfl⟩
  · exact .inr (List.eq_of_mem_replicate (List.mem_of_getElem? h))
theorem pad_len (n : Nat) (ds : List D) (h : ds.length ≤ n) : (pad n ds).length = n := by
  unfold pad
  rw [List.length_append, List.length_map, List.length_replicate]
  omega
theorem start_get {N : List PySem.Str} {vs : List V} {i : Nat} {v : V} (h : vs[i]? = some v) : (L2.start N vs)[i]? = some (some v) := by
  unfold L2.start
  have hl : i < (vs.map some).length := by
    rw [List.length_map]
    exact (List.getElem?_eq_some_iff.mp h).1
  rw [List.getElem?_append_left hl, List.getElem?_map, h]
  rfl
theorem start_len {N : List PySem.Str} {vs : List V} (h : vs.length ≤ N.length) : (L2.start N vs).length = N.length := by
  unfold L2.start
  rw [List.length_append, List.length_map, List.length_replicate]
  omega
theorem rel_start {N : List PySem.Str} {H Hs : Hp} {vs : List V} {ds : List D} (s : Same Hs H) (d : DRs K Hs vs ds) (hl : vs.length ≤ N.length) : Rel K (hid H Hs) (fun _ => 0) (pad N.length ds) (L2.start N vs) H Hs := by
  refine ⟨s, fun a o h => hid_some h, by rw [start_len hl, pad_len _ _ (by rw [← d.len]; exact hl)], fun i e h => ?_, fun i e es h h0 => ?_, fun i j e e' l h1 _ m1 _ _ _ => ?_, fun i es h => ?_⟩
  · rcases pad_get h with ⟨e', h1, h2⟩ | h2
    · cases h2
      obtain ⟨v, v1, v2⟩ := d.at h1
      exact ⟨v, start_get v1, v2⟩
    · cases h2
  · rcases pad_get h with ⟨e', _, h2⟩ | h2
    · subst h2; cases h0
    · subst h2; cases h0
  · rcases pad_get h1 with ⟨e', _, h2⟩ | h2
    · subst h2; exact absurd rfl m1
    · subst h2; exact absurd rfl m1
  · rcases pad_get h with ⟨e', _, h2⟩ | h2
    · cases h2
    · cases h2
/-- behind a def's body: what the caller wants to know -/
theorem ext_end {Fz : Hp} {ba : Nat → Addr} {G : Gam} {σ : L2.St} {H Hs H' Hs' : Hp} (s : Same Hs H) (hf : Fz = hid H Hs) (q : Rel K Fz ba G σ H' Hs') (z : Same Hs Hs') : Ext H Hs H' Hs' := by
  subst hf
  refine ⟨fun a o h => ?_, z, q.sub, fun a o h n => (q.fz a o (hid_of h n)).2⟩
  cases y : Hs a with
  | none => exact (q.fz a o (hid_of h y)).1
  | some u =>
    have e := s a u y
    rw [h] at e
    cases e
    exact q.sub a o (z a o y)
theorem res_end {Fz : Hp} {G : Gam} {σ : L2.St} {H Hs H' Hs' : Hp} {v : V} {r : R} (hf : Fz = hid H Hs) (z : Same Hs Hs') (x : Res K Fz G σ H' Hs' v r) : ResF K H H' Hs' v r := by
  subst hf
  cases r with
  | im d => exact x
  | ow ds =>
    obtain ⟨p, vs, rfl, h1, h2, h3, h4, _⟩ := x
    refine ⟨p, vs, rfl, ?_, h1, h2, h4⟩
    cases y : H p with
    | none => rfl
    | some o =>
      cases y2 : Hs p with
      | some u =>
        rw [z p u y2] at h2
        cases h2
      | none =>
        rw [hid_of y y2] at h3
        cases h3
theorem fin_F {N : List PySem.Str} {k : Nat} {t : TS} {b : MS} (h : SOk K t b) (hk : k ≤ N.length) {vs : List V} {H : Hp} {Q : VK} {E : XK} (q : spF K (runF k N.length b) vs H Q E) : t { nx := fun _ H' => Q .non H', rt := Q } (L2.start N vs) H := by
  obtain ⟨Hs, ds, r, s, d, e, kk⟩ := q
  unfold runF at e
  split at e
  case isFalse => cases e
  rename_i hl
  have hv : vs.length ≤ N.length := by rw [d.len, hl]; exact hk
  have R0 := rel_start (N := N) s d hv
  cases z : b (pad N.length ds) with
  | none => rw [z] at e; cases e
  | some p =>
    obtain ⟨fl, G'⟩ := p
    rw [z] at e
    refine h _ _ _ _ _ _ fl G' R0 z _ ?_
    cases fl with
    | nx => cases e; exact fun σ' H' Hs' q1 s1 => kk .non H' Hs' (ext_end s rfl q1 s1) .non
    | rt r' => cases e; exact fun v σ' H' Hs' q1 s1 x => kk v H' Hs' (ext_end s rfl q1 s1) (res_end rfl s1 x)
    | bk => cases e
    | ct => cases e
theorem spF_len {k n : Nat} {b : MS} {vs : List V} {H : Hp} {Q : VK} {E : XK} (q : spF K (runF k n b) vs H Q E) : vs.length = k := by
  obtain ⟨Hs, ds, r, s, d, e, kk⟩ := q
  unfold runF at e
  split at e
  case isFalse => cases e
  rename_i hl
  rw [d.len, hl]
/-- the same with a list that may change -/
def hidB (l : Addr) (H Hs : Hp) : Hp := fun a => if a = l then none else hid H Hs a
theorem hidB_of {l : Addr} {H Hs : Hp} {a : Addr} {o : HO} (ne : a ≠ l) (h : H a = some o) (n : Hs a = none) : hidB l H Hs a = some o := by
  unfold hidB
  rw [if_neg ne]
  exact hid_of h n
theorem rel_startB {N : List PySem.Str} {H Hs : Hp} {l : Addr} {bvs vs : List V} {bds ds : List D} (s : Same Hs H) (hl : H l = some (.lst bvs)) (hn : Hs l = none) (hb : DRs K Hs bvs bds) (d : DRs K Hs vs ds) (hz : vs.length + 1 ≤ N.length) :
    Rel K (hidB l H Hs) (fun _ => l) (.bx bds :: pad (N.length - 1) ds) (L2.start N (.ref l :: vs)) H Hs := by
  have e0 : L2.start N (.ref l :: vs) = some (.ref l) :: (vs.map some ++ List.replicate (N.length - (vs.length + 1)) none) := rfl
  have sg : ∀ {i : Nat} {v : V}, vs[i]? = some v → (L2.start N (.ref l :: vs))[i + 1]? = some (some v) := fun {i v} h => start_get (vs := .ref l :: vs) (by simpa using h)
  refine ⟨s, fun a o h => ?_, ?_, fun i e h => ?_, fun i e es h h0 => ?_, fun i j e e' l' h1 h2 m1 m2 _ _ => ?_, fun i es h => ?_⟩
  · unfold hidB at h
    split at h
    · cases h
    · exact hid_some h
  · rw [start_len (by simpa using hz), List.length_cons, pad_len _ _ (by rw [← d.len]; omega)]
    omega
  · cases i with
    | zero => cases h
    | succ i =>
      rcases pad_get (show (pad (N.length - 1) ds)[i]? = some _ by simpa using h) with ⟨e', h1, h2⟩ | h2
      · cases h2
        obtain ⟨v, v1, v2⟩ := d.at h1
        exact ⟨v, sg v1, v2⟩
      · cases h2
  · cases i with
    | zero =>
      cases h
      cases h0
      exact ⟨l, bvs, by rw [e0]; rfl, hl, hn, by unfold hidB; rw [if_pos rfl], hb⟩
    | succ i =>
      rcases pad_get (show (pad (N.length - 1) ds)[i]? = some _ by simpa using h) with ⟨e', _, h2⟩ | h2
      · subst h2; cases h0
      · subst h2; cases h0
  · have only : ∀ {i : Nat} {e : Ent}, (Ent.bx bds :: pad (N.length - 1) ds)[i]? = some e → e.mu ≠ none → i = 0 := fun {i e} h m => by
      cases i with
      | zero => rfl
      | succ i =>
        rcases pad_get (show (pad (N.length - 1) ds)[i]? = some _ by simpa using h) with ⟨e', _, h2⟩ | h2
        · subst h2; exact absurd rfl m
        · subst h2; exact absurd rfl m
    rw [only h1 m1, only h2 m2]
  · cases i with
    | zero => rw [e0]; rfl
    | succ i =>
      rcases pad_get (show (pad (N.length - 1) ds)[i]? = some _ by simpa using h) with ⟨e', _, h2⟩ | h2
      · cases h2
      · cases h2
theorem fin_B {N : List PySem.Str} {k : Nat} {t : TS} {b : MS} (h : SOk K t b) (hk : k ≤ N.length) {vs : List V} {H : Hp} {Q : VK} {E : XK} (q : spB K (runB k N.length b) vs H Q E) : t { nx := fun _ H' => Q .non H', rt := Q } (L2.start N vs) H := by
  obtain ⟨Hs, l, vs', bvs, bds, ds, r, bds', rfl, s, hl, hn, hb, d, e, kk⟩ := q
  unfold runB at e
  split at e
  case isFalse => cases e
  rename_i hlen
  have R0 := rel_startB (N := N) s hl hn hb d (by rw [d.len, hlen]; exact hk)
  -- what the caller wants to know
  have ex : ∀ {G σ H' Hs' bs}, Rel K (hidB l H Hs) (fun _ => l) (.bx bs :: G) σ H' Hs' → Same Hs Hs' → ExtB l H Hs H' Hs' ∧ ∃ ws, H' l = some (.lst ws) ∧ Hs' l = none ∧ DRs K Hs' ws bs := fun {G σ H' Hs' bs} q1 s1 => by
    have hs0 : σ[0]? = some (some (.ref l)) := q1.bx 0 bs rfl
    obtain ⟨l', ws, a1, a2, a3, a4, a5⟩ := q1.mu 0 _ bs rfl rfl
    rw [hs0] at a1
    cases a1
    refine ⟨⟨fun a o ne h => ?_, s1, q1.sub, fun a o h n => ?_⟩, ws, a2, a3, a5⟩
    · cases y : Hs a with
      | none => exact (q1.fz a o (hidB_of ne h y)).1
      | some u =>
        have e := s a u y
        rw [h] at e
        cases e
        exact q1.sub a o (s1 a o y)
    · by_cases ne : a = l
      · rw [ne]; exact a3
      · exact (q1.fz a o (hidB_of ne h n)).2
  have rs : ∀ {G σ H' Hs' bs v r}, Rel K (hidB l H Hs) (fun _ => l) (.bx bs :: G) σ H' Hs' → Same Hs Hs' → Res K (hidB l H Hs) (.bx bs :: G) σ H' Hs' v r → ResF K H H' Hs' v r := fun {G σ H' Hs' bs v r} q1 s1 x => by
    cases r with
    | im d => exact x
    | ow ds =>
      obtain ⟨p, vs, rfl, h1, h2, h3, h4, h5⟩ := x
      have ne : p ≠ l := fun y => by
        subst y
        exact h5 0 _ rfl (by simp [Ent.mu]) (q1.bx 0 bs rfl)
      refine ⟨p, vs, rfl, ?_, h1, h2, h4⟩
      cases y : H p with
      | none => rfl
      | some o =>
        cases y2 : Hs p with
        | some u =>
          rw [s1 p u y2] at h2
          cases h2
        | none =>
          rw [hidB_of ne y y2] at h3
          cases h3
  cases z : b (.bx bds :: pad (N.length - 1) ds) with
  | none => rw [z] at e; cases e
  | some p =>
    obtain ⟨fl, G'⟩ := p
    rw [z] at e
    refine h _ _ _ _ _ _ fl G' R0 z _ ?_
    cases fl with
    | nx =>
      cases G' with
      | nil => cases e
      | cons e0 G' =>
        cases e0 with
        | bx bs =>
          cases e
          intro σ' H' Hs' q1 s1
          obtain ⟨x1, ws, x2, x3, x4⟩ := ex q1 s1
          exact kk .non H' Hs' ws x1 x2 x3 x4 .non
        | _ => cases e
    | rt r' =>
      cases G' with
      | nil => cases e
      | cons e0 G' =>
        cases e0 with
        | bx bs =>
          cases e
          intro v σ' H' Hs' q1 s1 x
          obtain ⟨x1, ws, x2, x3, x4⟩ := ex q1 s1
          exact kk v H' Hs' ws x1 x2 x3 x4 (rs q1 s1 x)
        | _ => cases e
    | bk => cases e
    | ct => cases e
theorem spB_len {k n : Nat} {b : MS} {vs : List V} {H : Hp} {Q : VK} {E : XK} (q : spB K (runB k n b) vs H Q E) : vs.length = k := by
  obtain ⟨Hs, l, vs', bvs, bds, ds, r, bds', rfl, s, hl, hn, hb, d, e, kk⟩ := q
  unfold runB at e
  split at e
  case isFalse => cases e
  rename_i hl
  rw [List.length_cons, d.len, hl]
end
theorem scope_le {N ps : List PySem.Str} {sc : Scope} (S : FnScope N ps sc) : ps.length ≤ N.length := by
  have h := congrArg List.length S.pre
  rw [List.length_take] at h
  omega
section
variable {P : Program} {w : World} {K : PySem.W.Frag} {mg : PySem.Str → Option Value} {base : Heap}
theorem data_F {x qual : PySem.Str} {st : Stmt} {f : Addr} {fd : FuncData} {N ps : List PySem.Str} {k : Nat} {b : MS} (F : Fun K x qual st f fd) (S : FnScope N ps (defScope st))
    (hb : ∀ (cdv : Value) (A : Around) (outer : List Env) (s : Shared) (H : Hp) (E : XK), Room k (A.deeper (PyProof.Rows.envOfC qual (defScope st) s.heap.objs.size f cdv)) →
      ∃ t, PSs (cxOf CX0 P w K mg base N qual (defScope st) f cdv A outer s H E).nox (defBody st) t ∧ SOk K t b) : FnOk P w K mg base CX0 (k + 1) f fd ps (spF K (runF ps.length N.length b)) :=
  F.ok S (fun vs H Q E q => spF_len q) fun cdv A outer s H vs Q E hr q => by
    obtain ⟨t, h1, h2⟩ := hb cdv A outer s H E hr
    exact ⟨t, h1, fin_F h2 (scope_le S) q⟩
theorem data_B {x qual : PySem.Str} {st : Stmt} {f : Addr} {fd : FuncData} {N ps : List PySem.Str} {k : Nat} {b : MS} (F : Fun K x qual st f fd) (S : FnScope N ps (defScope st))
    (hb : ∀ (cdv : Value) (A : Around) (outer : List Env) (s : Shared) (H : Hp) (E : XK), Room k (A.deeper (PyProof.Rows.envOfC qual (defScope st) s.heap.objs.size f cdv)) →
      ∃ t, PSs (cxOf CX0 P w K mg base N qual (defScope st) f cdv A outer s H E).nox (defBody st) t ∧ SOk K t b) : FnOk P w K mg base CX0 (k + 1) f fd ps (spB K (runB ps.length N.length b)) :=
  F.ok S (fun vs H Q E q => spB_len q) fun cdv A outer s H vs Q E hr q => by
    obtain ⟨t, h1, h2⟩ := hb cdv A outer s H E hr
    exact ⟨t, h1, fin_B h2 (scope_le S) q⟩
end
end Bk
/-! Bk7: the law's own call. -/
namespace Bk
open PySem L2 PyProof.Rows

section
variable {P : Program} {w : World} {K : PySem.W.Frag} {mg : PySem.Str → Option Value} {base : Heap}
/-- the law's def called with one object, no call around it -/
theorem call_law {nm qual x : PySem.Str} {st : Stmt} {f a : Addr} {fd : FuncData} {N : List PySem.Str} {k : Nat} {b : MS} {s : Shared} {H : Hp} {Q : VK} (F : Fun K nm qual st f fd) (S : FnScope N [x] (defScope st)) (hr : Room (k + 1) callerA)
    (hb : ∀ (cdv : Value) (s : Shared) (H : Hp) (E : XK), (callerA.deeper (PyProof.Rows.envOfC qual (defScope st) s.heap.objs.size f cdv)).guards = some [] → Room k (callerA.deeper (PyProof.Rows.envOfC qual (defScope st) s.heap.objs.size f cdv)) →
      ∃ t, PSs (cxOf CX0 P w K mg base N qual (defScope st) f cdv callerA [] s H E).nox (defBody st) t ∧ SOk K t b)
    (e0 : Env0 P w K mg base callerA [] s H) (bd0 : BindsTo s fd ⟨[.ref a], []⟩ [(x, .ref a)]) (q : spF K (runF 1 N.length b) [.ref a] H Q E0) :
    codeAny (model P w) callerA (.call (.ref f) ⟨[.ref a], []⟩) (CR CX0 [] P w H s Q E0) s := by
  obtain ⟨oc, od, kV, doc, pm, an, cdv, ct, osl, rfl, lk, hcd⟩ := F.ex
  have KX : K.In s.heap := e0.mod.kin.keeps fun c o z => (e0.bs c o z).1
  have lim : s.heap.NoLimit := e0.mod.nolimit.keeps fun c o z => (e0.bs c o z).1
  have hpar := S.par x List.mem_cons_self
  refine codeAny_call_function hr.depth (KX f _ lk) rfl S.co S.gen rfl (PySem.W.codeRec_of KX hcd) (bd0 _ _ _ _ ?_)
  have hkd : ∀ y ∈ [(x, Value.ref a)], (defScope st).names.lookup y.1 = some .local ∨ ((defScope st).names.lookup y.1 = some .cell ∧ ((cellsFrom (s.heap.objs.size + 1) (defScope st).names []).lookup y.1).isSome = true) := by
    intro y hy
    obtain rfl := List.mem_singleton.mp hy
    rcases hpar with z | z
    · exact .inl z
    · exact .inr ⟨z, PySem.W.cellsFrom_some _ _ _ (.inl z)⟩
  refine wpAny_newFunctionEnv_cells S.kind hkd fun env he s1 y => ?_
  subst he
  refine ⟨lim.keeps y.toInCall.keep, codeAny_func ?_⟩
  obtain ⟨t, ht, hs⟩ := hb cdv s H E0 rfl (hr.deeper _)
  have I : Inv (cxOf CX0 P w K mg base N qual (defScope st) f cdv callerA [] s H E0) [] (L2.start N [.ref a]) H s1 := inv_start S hr.hd e0 rfl (.cons rfl .nil) y
  refine wpAny_mono (ht.nox.run [] s1 _ H _ I (fin_F hs (scope_le S) q)) (fun fl s2 h2 => ?_) fun e s2 h2 => h2
  cases fl with
  | ret u =>
    obtain ⟨v, σ2, H2, J, rv, q2⟩ := h2
    exact ⟨v, H2, J.os, J.bare, J.base, J.hok, rv, q2⟩
  | next =>
    obtain ⟨σ2, H2, J, q2⟩ := h2
    exact ⟨V.non, H2, J.os, J.bare, J.base, J.hok, rfl, q2⟩
  | brk =>
    obtain ⟨_, _, _, q2⟩ := h2
    exact q2.elim
  | cont =>
    obtain ⟨_, _, _, q2⟩ := h2
    exact q2.elim
end

/-- the goal that the head leaves, from what the law's body computes -/
theorem law_end {l : PySem.W.OpenLaw} {q : Program} {loose : List PySem.Str} {XP : (PySem.Str → Option Value) → Heap → Prop} {YP : World → Heap → Prop} {d : DefRec} {K : Params → PySem.W.Frag} {x : PySem.Str} {m : List D → Option R}
    (hn : l.most = some 63) (hdf : d.params.defaults = []) (hY : ∀ (w : World) (h : Heap), YP w h → (K w.params).In h)
    (F : ∀ (w : World) (mg : PySem.Str → Option Value) (fa : Addr) (h : Heap), (K w.params).In h → h.Ns mainGlobals mg → mg d.name = some (.ref fa) →
      ∃ fd : FuncData, (∀ (s : Shared) (u : Value), BindsTo s fd ⟨[u], []⟩ [(x, u)]) ∧
        ∀ (base : Heap) (s : Shared) (H : Hp) (a : Addr) (Q : VK), (K w.params).In base → base.Ns mainGlobals mg → Env0 l.prog w (K w.params) mg base callerA [] s H → BindsTo s fd ⟨[.ref a], []⟩ [(x, .ref a)] → spF (K w.params) m [.ref a] H Q E0 →
          codeAny (model l.prog w) callerA (.call (.ref fa) ⟨[.ref a], []⟩) (CR CX0 [] l.prog w H s Q E0) s)
    (hm : ∀ ns : List Int, ns.length ≤ 63 → m [.frz (ns.map .int)] = some (.im (.bl true))) :
    PySem.W.WalkO q loose XP YP l.row.toRowW d [] (fun f vs => PySem.call f vs) := by
  refine Att.attach_call hn hdf fun w s0 s1 mg mb fa o pm cd doc a vs ns G Y ho hd hcd hmg hobj hints hlen hg => ?_
  have KX := hY w _ Y
  obtain ⟨fd, hb, hF⟩ := F w mg fa _ KX G.T.g hmg
  have rv := vals_ints hints
  have hz : (ns.map V.int).length ≤ sizeLine := by rw [List.length_map]; exact Nat.le_trans hlen (by decide)
  have hsz : vs.toArray.size ≤ sizeLine := by rw [List.size_toArray, ← rv.length]; exact hz
  -- the run, from an abstract heap that knows the script at most
  have go : ∀ H : Hp, (∀ c, H c ≠ none → c = a) → (∀ c, H c = none ∨ ∃ ob xs, H c = some (.frz ob (.lst xs))) → SqL (K w.params) H a (ns.map V.int) → HOk l.prog w H s1.heap → (H a ≠ none → (K w.params).lookup a = none) →
      codeAny (model l.prog w) callerA (.call (.ref fa) ⟨[.ref a], []⟩) (fun r s' => r = .ok (.ret (.bool true)) ∧ OldK s1.heap s'.heap ∧ s'.os = s1.os ∧ AllBare s'.gens) s1 := by
    intro H hA hO hS hok hK
    have keepB : ∀ {c : Addr} {ob : Obj}, s1.heap.get? c = some ob → H c = none → (hidT s1.heap H).get? c = some ob := fun e n => hidT_get e n
    have free : ∀ {c : Addr} {ob : Obj}, s1.heap.get? c = some ob → (∀ its n, ob.data ≠ .seq its n) → H c = none := fun {c ob} e nd => by
      cases z : H c with
      | none => rfl
      | some u =>
        have e' := hA c (by rw [z]; simp)
        subst e'
        rw [hobj] at e
        cases e
        exact absurd rfl (nd _ _)
    have nsB : ∀ {c : Addr} {m : PySem.Str → Option Value}, s1.heap.Ns c m → (hidT s1.heap H).Ns c m := fun {c m} ⟨ob, es, ep, e, dd, r⟩ => ⟨ob, es, ep, keepB e (free e fun its n z => by rw [dd] at z; cases z), dd, r⟩
    have KB : (K w.params).In (hidT s1.heap H) := fun c ob e => keepB (KX c ob e) (by
      cases z : H c with
      | none => rfl
      | some u =>
        have e' := hA c (by rw [z]; simp)
        subst e'
        rw [hK (by rw [z]; simp)] at e
        cases e)
    have MB : Mod (K w.params) mg (hidT s1.heap H) := ⟨KB, nsB G.T.g, ⟨mb, nsB G.T.b, G.T.builtins⟩, let ⟨mc, z1, z2⟩ := G.T.nolimit; ⟨mc, nsB z1, z2⟩⟩
    have e0 : Env0 l.prog w (K w.params) mg (hidT s1.heap H) callerA [] s1 H :=
      ⟨rfl, MB, fun c ob e => of_hidT e, Nat.le_of_eq (hidT_size _ _), trivial, fun c hc => absurd (show c ∈ ([] : List Addr) from hc) (by simp), hok, .of_eq hg⟩
    have sp : spF (K w.params) m [.ref a] H (fun v _ => v = .bl true) E0 :=
      ⟨H, _, _, Same.refl _, .cons (.frz hS (DRs.ints ns)) .nil, hm ns hlen, fun v H' Hs' _ r => dr_bl r⟩
    refine codeAny_mono (hF _ s1 H a _ KB (nsB G.T.g) e0 (hb s1 _) sp) fun r s2 h2 => ?_
    cases r with
    | error e => exact h2.elim
    | ok fl =>
      cases fl with
      | next => exact h2.elim
      | brk => exact h2.elim
      | cont => exact h2.elim
      | ret u =>
        obtain ⟨v, H2, os, bare, un, hok2, rv2, qv⟩ := h2
        have qv' : v = .bl true := qv
        subst qv'
        obtain rfl : u = Value.bool true := rv2
        refine ⟨rfl, OldK.of_keep fun c ob e => ?_, os, bare⟩
        rcases hO c with z | ⟨ob2, xs, z⟩
        · exact un.keep c ob e z (by intro y; exact absurd (show c ∈ ([] : List Addr) from y) (by simp)) (by simp)
        · have y := un.frzs c ob2 _ z
          obtain ⟨y1, _⟩ := hok c _ z
          obtain ⟨y2, _⟩ := hok2 c _ y
          rw [e] at y1
          cases y1
          exact y2
  cases hk : (K w.params).lookup a with
  | some ob =>
    have e := KX a ob hk
    rw [hobj] at e
    cases e
    exact go (fun _ => none) (fun c z => absurd rfl z) (fun _ => .inl rfl) (.inr ⟨_, vs.toArray, _, hk, rfl, rfl, rfl, hsz, by simpa using rv⟩) (fun c u z => by cases z) fun z => absurd rfl z
  | none =>
    have yes : ∀ {u : HO}, (if a = a then some u else none) = some u := fun {u} => if_pos rfl
    refine go (fun c => if c = a then some (.frz { cls := .type "list", data := .seq vs.toArray } (.lst (ns.map V.int))) else none) (fun c z => ?_) (fun c => ?_) (.inl (.inr ⟨_, yes⟩)) (fun c u z => ?_) fun _ => hk
    · refine Classical.byContradiction fun ne => z (if_neg ne)
    · by_cases e : c = a
      · exact .inr ⟨_, _, if_pos e⟩
      · exact .inl (if_neg e)
    · by_cases e : c = a
      · subst e
        have z' := yes.symm.trans z
        cases z'
        exact ⟨hobj, hz, vs, _, rv, hobj⟩
      · have z' := (if_neg e).symm.trans z
        cases z'
end Bk
/-! Bk8: more constructs; the facts of a text. -/
namespace Bk
open PySem L2 PyProof.Rows

/-! ### slices of lists and tuples; the whole turned about -/
def rSlA (K : PySem.W.Frag) : V → Option Int → Option Int → Hp → VK → Prop := fun x lo hi H Q => rSlL K x lo hi H Q ∨ rSlT K x lo hi H Q
theorem sl_any {X : Cx} : SlR X (rSlA X.K) := sl_list.or sl_tup
def slA (d : D) (lo hi : Option Int) : Option R := match d with
  | .tup xs => slT (.tup xs) lo hi
  | d => slL d lo hi
section
variable {K : PySem.W.Frag}
theorem sd_any : SlD K (rSlA K) slA := fun H Hs x dx l h res s hx e Q k => by
  unfold slA at e
  split at e
  · exact .inr (sd_tup H Hs x _ l h res s hx e Q k)
  · exact .inl (sd_list H Hs x _ l h res s hx e Q k)
/-- xs[::k], k reckoned to be -1 -/
def tRevS (K : PySem.W.Frag) (te tk : TE) : TE := fun σ H Q => te σ H fun x H1 => tk σ H1 fun y H2 => y = .int (-1) ∧ (some (-1 : Int) = some (-1) ∧ ∃ a xs, x = .ref a ∧ SqL K H2 a xs ∧ ∀ p, H2 p = none → Q (.ref p) (upd H2 p (.lst xs.reverse)))
theorem pe_revS {X : Cx} {e st : Expr} {te tk : TE} {p3 pos : Pos} (he : PE X e te) (hk : PE X st tk) :
    PE X (.Subscript e (.Slice none none (some st) p3) pos) (tRevS X.K te tk) := by
  refine ⟨fun pins s σ H Q I h => ?_⟩
  refine Subscript_ (thn (he.run pins s σ H _ I h) fun v s1 ⟨x, H1, I1, r1, q1⟩ => ?_)
  refine wpAny_Slice (thn (po_none.run pins s1 σ H1 (fun o H2 => o = none ∧ H2 = H1) I1 ⟨rfl, rfl⟩) fun vl s2 ⟨l, H2, I2, pl, el, e2⟩ => ?_)
  subst el e2
  refine thn (po_none.run pins s2 σ H2 (fun o H3 => o = none ∧ H3 = H2) I2 ⟨rfl, rfl⟩) fun vu s3 ⟨u, H3, I3, pu, eu, e3⟩ => ?_
  subst eu e3
  have hst : PO X (some st) (fun σ H Q => tk σ H fun y H2 => y = .int (-1) ∧ Q (some (-1)) H2) := by
    refine ⟨fun pins s σ H Q I hw => ?_⟩
    rw [evalPart_some]
    refine thn (hk.run pins s σ H _ I hw) fun u s1 ⟨y, H1, I1, r1, q1⟩ => ?_
    obtain ⟨rfl, q⟩ := q1
    obtain ⟨t, rfl⟩ := r1
    exact ⟨some (-1), H1, I1, .int (-1) t, q⟩
  refine thn (hst.run pins s3 σ H3 (fun o H4 => o = some (-1) ∧ ∃ a xs, x = .ref a ∧ SqL X.K H4 a xs ∧ ∀ p, H4 p = none → Q (.ref p) (upd H4 p (.lst xs.reverse))) I3 q1) fun vs s4 ⟨o, H4, I4, ps, eo, a, xs, ex, hx, q⟩ => ?_
  subst eo ex
  cases r1
  have I5 : Inv X pins σ H4 { s4 with heap := s4.heap.push { cls := .type "slice", data := .fields #[vl, vu, vs] } } := I4.kept (t' := s4.toks) fun b ob q => Heap.get?_push_of_some _ q
  obtain ⟨its, r, ht, hz⟩ := I5.list hx
  have hlen := r.length
  show wpAny (model X.prog X.w) X.A (subscriptTail e (.Slice none none (some st) p3) (.ref a) (.ref s4.heap.objs.size)) (EP X pins σ Q) X.xe { s4 with heap := s4.heap.push { cls := .type "slice", data := .fields #[vl, vu, vs] } }
  refine tail_any (ops := [.ref a, .ref s4.heap.objs.size]) ht.isList.typeIs (PySem.slot_list_getitem.lookup) ?_ (by with_unfolding_all rfl)
  refine wpAny_getItem_list_slice ht.isList (Heap.IsSliceOf.new _ vl vu vs) pl pu ps (by decide) ?_ (by rw [List.size_toArray]; omega)
  rw [PySem.W.krv_pick]
  refine ⟨.ref _, _, I5.laid (t' := s4.toks) (o := .lst xs.reverse) (fun b ob q => Heap.get?_push_of_some _ q) (Nat.le_refl _) ?_, rfl, q _ (I5.hok.fresh (Nat.le_refl _))⟩
  exact ⟨by rw [List.length_reverse]; exact hz, _, 0, r.reverse, Heap.get?_push_size _ rfl⟩
def xrev (a b : M R) : M R := fun G => bd (a G) fun x G1 => bd (b G1) fun y G2 => match asL x.d, y.d with
  | some ds, .int k => if k = -1 then some (.ow ds.reverse, G2) else none
  | _, _ => none
theorem gk_rev {te tk : TE} {a b : M R} (ha : GOk K te a) (hb : GOk K tk b) : GOk K (tRevS K te tk) (xrev a b) := fun Fz ba G σ H Hs res G' q e Q k => by
  obtain ⟨x, G1, e1, e⟩ := bd_inv e
  obtain ⟨y, G2, e2, e⟩ := bd_inv e
  split at e
  case h_2 => cases e
  rename_i ds n h1 h2
  split at e
  case isFalse => cases e
  rename_i hn
  cases e
  refine ha.im q e1 fun v1 H1 Hs1 q1 s1 d1 => ?_
  refine hb.im q1 e2 fun v2 H2 Hs2 q2 s2 d2 => ?_
  rw [h2] at d2
  obtain ⟨a1, x1, rfl, l1, r1⟩ := asL_ok (d1.mono s2) h1
  refine ⟨by rw [dr_int d2, hn], rfl, a1, x1, rfl, same_lst q2.sub l1, fun p hp => ?_⟩
  have ex : Ext H2 Hs2 (upd H2 p (.lst x1.reverse)) Hs2 := Ext.hid q2.sub hp
  have rf : ResF K H2 (upd H2 p (.lst x1.reverse)) Hs2 (.ref p) (.ow ds.reverse) := ⟨p, _, rfl, hp, upd_same, none_sub q2.sub hp, r1.rev⟩
  exact k _ _ _ (q2.ext ex) ((s1.trans s2).trans ex.b) (rf.res q2)

/-! ### lists and tuples walked -/
def iSeq (K : PySem.W.Frag) (tl : TE) : TI := fun σ H R => tl σ H fun x H1 => ∃ a, x = .ref a ∧ (((∃ xs, SqL K H1 a xs) ∧ R (Itl K a) H1) ∨ ((∃ xs, SqT K H1 a xs) ∧ R (Itt K a) H1))
theorem pi_seq {X : Cx} {tg l : Expr} {tl : TE} (hl : PE X l tl) : PI X tg l (iSeq X.K tl) := by
  refine ⟨fun pins s σ H R I h => ?_⟩
  refine thn (hl.run pins s σ H _ I h) fun v s1 ⟨x, H1, I1, r1, q1⟩ => ?_
  obtain ⟨a, ex, hh⟩ := q1
  subst ex
  cases r1
  have fp : ∀ b ∈ [s1.heap.objs.size], FpOk X pins H1 b := fun b hb => by
    have e : b = s1.heap.objs.size := by simpa using hb
    subst e
    exact I1.fpOk (Nat.le_refl _) I1.fresh
  rcases hh with ⟨⟨xs, hq⟩, q⟩ | ⟨⟨xs, hq⟩, q⟩
  · obtain ⟨its, rv, p, hz⟩ := I1.list hq
    exact wpAny_pyIter_list p.isList ⟨_, _, _, _, H1, rfl, I1.kept (t' := s1.toks) fun b o e => Heap.get?_push_of_some _ e, turn_list a _, ⟨_, Heap.get?_push_size _ rfl, rfl, rfl⟩, fp, q⟩
  · obtain ⟨its, rv, p, hz⟩ := I1.tuple hq
    exact wpAny_pyIter_tuple (show s1.heap.IsTuple a its.toArray from p) ⟨_, _, _, _, H1, rfl, I1.kept (t' := s1.toks) fun b o e => Heap.get?_push_of_some _ e, turn_tuple a _, ⟨_, Heap.get?_push_size _ rfl, rfl, rfl⟩, fp, q⟩
def xseqI (a : M R) : M (List D) := fun G => bd (a G) fun x G1 => match seqD x.d with
  | some ds => some (ds, G1)
  | none => none
theorem ik_seq {ta : TE} {a : M R} (ha : GOk K ta a) : IOk K (iSeq K ta) (xseqI a) := fun Fz ba G σ H Hs ds G' q e Q k => by
  obtain ⟨x, G1, e1, e⟩ := bd_inv e
  refine ha.im q e1 fun v H1 Hs1 q1 s1 d => ?_
  cases h : x.d with
  | lst es =>
    rw [h] at e d
    cases e
    cases d with
    | lst hl hd => exact ⟨_, rfl, .inl ⟨⟨_, SqL.of (q1.sub _ _ hl)⟩, k _ H1 Hs1 q1 s1 (yl_list (SqL.of hl) hd)⟩⟩
  | frz es =>
    rw [h] at e d
    cases e
    cases d with
    | frz hl hd => exact ⟨_, rfl, .inl ⟨⟨_, same_lst q1.sub hl⟩, k _ H1 Hs1 q1 s1 (yl_list hl hd)⟩⟩
  | tup es =>
    rw [h] at e d
    cases e
    cases d with
    | tup hl hd => exact ⟨_, rfl, .inr ⟨⟨_, same_tup q1.sub hl⟩, k _ H1 Hs1 q1 s1 (yl_tup hl hd)⟩⟩
  | _ => rw [h] at e; cases e
def opAddI : D → D → Option R
  | .int i, .int j => some (.im (.int (i + j)))
  | _, _ => none
theorem od_ipadd : OpD K (ipI fun i j => i + j) opAddI := fun H Hs x y dx dy res s hx hy e Q k => by
  unfold opAddI at e
  split at e
  case h_2 => cases e
  cases e
  cases hx; cases hy
  exact ⟨_, _, rfl, rfl, k _ H Hs (Ext.refl s) (.int _)⟩
theorem od_ipsub : OpD K (ipI fun i j => i - j) opSub := fun H Hs x y dx dy res s hx hy e Q k => by
  unfold opSub at e
  split at e
  case h_2 => cases e
  cases e
  cases hx; cases hy
  exact ⟨_, _, rfl, rfl, k _ H Hs (Ext.refl s) (.int _)⟩
end

theorem r70 {k : Nat} {A : Around} (hr : Room k A) : A.units + 70 < cLine := by
  have := hr.un
  omega
/-! ### the same rules with the written part named -/
section
variable {X : Cx} {K : PySem.W.Frag} (hK : X.K = K)
include hK
theorem kop_eq (hu : X.A.units + 64 < cLine) : OpR X (compareOp .Eq) (rEqA K) := hK ▸ op_eqA hu
theorem kop_ne (hu : X.A.units + 64 < cLine) : OpR X (compareOp .NotEq) (rNeA K) := hK ▸ op_neA hu
theorem kix : IxR X (rIx K) := hK ▸ ix_seq
theorem ksl : SlR X (rSlA K) := hK ▸ sl_any
theorem kpi_seq {tg l : Expr} {tl : TE} (hl : PE X l tl) : PI X tg l (iSeq K tl) := hK ▸ pi_seq hl
theorem kpi_zip {e e2 : Expr} {ta : TA} {p pos tpos : Pos} {elts : List Expr} {kk : Nat} (hg : Gl X "zip") (hm : X.mg "zip" = none) (ha : PA X [e, e2] ta)
    (hs : starEach [e, e2] X.env = (false, eval e X.env) :: starEach [e2] X.env := by rfl) (hpl : (backTo pos (starEach [e2] X.env)).any (·.1) = false := by rfl) :
    PI X (.Tuple elts kk tpos) (.Call (.Name "zip" p) [e, e2] [] pos) (iZip K ta) := hK ▸ pi_zip hg hm ha hs hpl
theorem kpi_enum {e : Expr} {ta : TA} {p pos tpos : Pos} {elts : List Expr} {kk : Nat} (hg : Gl X "enumerate") (hm : X.mg "enumerate" = none) (ha : PA X [e] ta) (hs : starEach [e] X.env = [(false, eval e X.env)] := by rfl) :
    PI X (.Tuple elts kk tpos) (.Call (.Name "enumerate" p) [e] [] pos) (iEnum K ta) := hK ▸ pi_enum hg hm ha hs
theorem kcr_len : CallR X (.builtin "len") (rLen K) := hK ▸ cr_len
theorem kcr_any (hc : X.calm = true) : CallR X (.builtin "any") (rAny K) := hK ▸ cr_any hc
theorem kcr_all (hc : X.calm = true) : CallR X (.builtin "all") (rAll K) := hK ▸ cr_all hc
theorem kcr_tuple : CallR X (.type "tuple") (rTupleOf K) := hK ▸ cr_tuple
theorem kcr_list : CallR X (.type "list") (rListOf K) := hK ▸ cr_list
theorem kcr_repr (hg : X.A.guards = some []) (hu : X.A.units + 70 < cLine) : CallR X (.builtin "repr") (rRepr K) := hK ▸ cr_repr hg hu
theorem kcr_isi : CallR X (.builtin "isinstance") (rIsi K) := hK ▸ call_isi
theorem kpe_rev {e st : Expr} {te tk : TE} {p3 pos : Pos} (he : PE X e te) (hk : PE X st tk) : PE X (.Subscript e (.Slice none none (some st) p3) pos) (tRevS K te tk) := hK ▸ pe_revS he hk
theorem kpg_tup {es : List Expr} {k : Nat} {t : TGs} {n : Nat} {pos : Pos} (hc : X.calm = true) (h : PGs X es t)
    (hn : (assignEach es X.env).length = n := by rfl) (hst : (assignEach es X.env).findIdx? (·.1) = none := by rfl) : PG X (.Tuple es k pos) (gTup K n t) := hK ▸ pg_tup hc h hn hst
def tTruK (K : PySem.W.Frag) (ta : TE) : TT := fun σ H Q => ta σ H fun x H' => ∃ k, TruV K x H' k ∧ Q k H'
theorem kpt_tru {a : Expr} {ta : TE} (ha : PE X a ta) (he : ∀ whole, isTrue a X.env whole = (do let v ← whole; standAt a.pos; holding [v] (truthy v))) : PT X a (tTruK K ta) := hK ▸ pt_truth ha he
theorem kpe_app {o e : Expr} {to te : TE} {apos cpos : Pos} (ho : PE X o to) (he : PE X e te)
    (hbase : attributeBase o "append" X.env (eval o X.env) = eval o X.env := by rfl)
    (hfew : ((backTo cpos (starEach [e] X.env)).all (fun x => !x.1) && (backToKw cpos (keywordEach [] X.env)).all (fun x => x.1.isSome) && decide ([e].length + ([] : List Keyword).length + (if ([] : List Keyword).isEmpty then 0 else 1) < 30)) = true := by rfl)
    (hline : (apos.endLine == cpos.line) = true := by rfl) (hs : starEach [e] X.env = (false, eval e X.env) :: starEach [] X.env := by rfl) (hplain : (backTo cpos (starEach [] X.env)).any (·.1) = false := by rfl) :
    PE X (.Call (.Attribute o "append" apos) [e] [] cpos) (tBM K "list" rAppend to (tCons te tNil)) :=
  hK ▸ pe_bm PySem.F.plainAttrs_list PySem.F.slot_list_append PySem.F.type_list_append mt_append ho (pa_cons he pa_nil hs) hbase hfew hline hs hplain
end
theorem tk_truK {K : PySem.W.Frag} {ta : TE} {a : M R} (ha : GOk K ta a) : TOk K (tTruK K ta) (xtru a) := tk_tru ha

/-- turns enough: one more than the number of the name at i -/
def fuelI (i : Nat) (G : Gam) : Nat := match G[i]? with
  | some (.im (.int j)) => j.natAbs + 1
  | _ => 0

/-! ### the facts of a text -/
/-- a def of the text, where it stands -/
structure FnT (K : PySem.W.Frag) (mg : PySem.Str → Option Value) (x : PySem.Str) (st : Stmt) where
  f : Addr
  fd : FuncData
  F : Fun K x x st f fd
  m : mg x = some (.ref f)
/-- a global that stands for data -/
structure CoT (K : PySem.W.Frag) (mg : PySem.Str → Option Value) (x : PySem.Str) (d : D) where
  v : V
  u : Value
  m : mg x = some u
  r : RelV v u
  d : ∀ H, DR K H v d
def coTup {K : PySem.W.Frag} {h : Heap} {mg : PySem.Str → Option Value} {x : PySem.Str} (X : K.In h) (G : h.Ns mainGlobals mg) {a : Addr} {dd : Option Addr} {its : Array Value} {n : Nat} {sl : Array (Option Value)} {vs : List V} {ds : List D}
    (ha : PySem.W.nsIn K mainGlobals x = some (some (.ref a))) (l : K.lookup a = some ⟨.type "tuple", dd, .seq its n, sl⟩) (hz : its.size ≤ sizeLine) (hv : Vals vs its.toList) (hd : ∀ H, DRs K H vs ds) : CoT K mg x (.tup ds) :=
  ⟨.ref a, .ref a, PySem.W.mg_of X G ha, rfl, fun H => .tup (.inr ⟨_, its, n, l, rfl, rfl, hz, hv⟩) (hd H)⟩
def fnT {K : PySem.W.Frag} {h : Heap} {mg : PySem.Str → Option Value} {x : PySem.Str} {st : Stmt} (X : K.In h) (G : h.Ns mainGlobals mg) {f : Addr} {od an : Option Addr} {sl : Array (Option Value)} {oc kV dc pm cd ct : Value}
    (a : PySem.W.nsIn K mainGlobals x = some (some (.ref f))) (l : K.lookup f = some ⟨oc, od, .func (PySem.W.fnOf x x (defArgs st) (defBody st) (defScope st) .none kV dc pm an cd ct), sl⟩) (c : PySem.W.codeIn K cd x = true) (k : PySem.W.keepIn K (.ref f) = true) : FnT K mg x st :=
  ⟨f, _, fun_mk l c k, PySem.W.mg_of X G a⟩
end Bk
/-! Bk9: enumerate over a list or a tuple. -/
namespace Bk
open PySem L2 PySem.Builtin PySem.Spec PyProof.Rows
theorem enum_of {v : Value} {o : Obj} {H : Heap → Prop} (B : Begins v o H) :
    Meets (Builtin.«enumerate.__new__» ⟨[.type "enumerate", v], []⟩) (fun _ R s => H s.heap ∧ R (.ok (.ret (.ref (s.heap.push o).objs.size)))
      { s with heap := (s.heap.push o).push { cls := .type "enumerate", data := .fields #[.none, .bool false, .ref s.heap.objs.size, rawInt 0, .none, .none] } }) :=
  .of_wp fun prog w A R s hh => by
    obtain ⟨hp, g, d, tk, os⟩ := s
    obtain ⟨hb, hr⟩ := hh
    have hsub := sub_enumerate
    have qi : ∀ {A' : Around} {E Q : Value → Shared → Prop}, Q (.ref hp.objs.size) ⟨hp.push o, g, d, tk, os⟩ → wpAny (model prog w) A' (pyIter v) Q E ⟨hp, g, d, tk, os⟩ := fun k => B.iter prog w _ _ ⟨hp, g, d, tk, os⟩ _ hb k
    wp_walk using qi
    refine wpAny_stack_any fun fr => wpAny_pure ?_
    split
    case h_1 c _ _ _ _ _ =>
      cases (c == Value.type "enumerate") <;> (wp_walk using qi; exact ⟨_, rfl, hr⟩)
    all_goals (wp_walk using qi; exact ⟨_, rfl, hr⟩)
theorem enum_call {prog : Program} {w : World} {A : Around} {E : Value → Shared → Prop} {s : Shared} {v : Value} {o : Obj} {H : Heap → Prop} {Q : Value → Shared → Prop} (B : Begins v o H) (h1 : H s.heap)
    (h : ∀ h', IsEnum h' (s.heap.objs.size + 1) s.heap.objs.size 0 .none → h'.get? s.heap.objs.size = some o → (∀ b ob, s.heap.get? b = some ob → h'.get? b = some ob) → Q (.ref (s.heap.objs.size + 1)) { s with heap := h' }) :
    wpAny (model prog w) A (call (.type "enumerate") [v]) Q E s := by
  have hz : (s.heap.push o).objs.size = s.heap.objs.size + 1 := Heap.size_push ..
  have he := Heap.get?_push_size (s.heap.push o) (o := { cls := .type "enumerate", data := .fields #[.none, .bool false, .ref s.heap.objs.size, rawInt 0, .none, .none] }) rfl
  rw [hz] at he
  refine callType_new F.called_enumerate (by decide) (F.typeCall_enumerate_1 _) (F.newCall_enumerate_1 _) (fun ob => F.args_object_init_2 ob _) F.entry_enumerate_new (enum_of B) ⟨h1, ?_⟩
  show _ ∧ _
  rw [hz]
  exact ⟨⟨_, he, rfl⟩, h _ he (Heap.get?_push_of_some _ (Heap.get?_push_size _ B.free)) fun b ob x => Heap.get?_push_of_some _ (Heap.get?_push_of_some _ x)⟩
theorem draws_end {prog : Program} {w : World} {A : Around} (hh : A.handled = none) (it t : Addr) (items : Array Value) (i : Nat) (hi : items.size ≤ i) :
    Draws prog w A it [it, t] i (fun _ _ => True) (fun j h => (h.IsTupleIter it t j ∧ h.IsTuple t items) ∧ j = i) where
  live := fun _ _ st => st.1.1.elim fun o ho => ⟨o, ho.1⟩
  frame := fun _ _ _ st hk => ⟨⟨st.1.1.at fun o e => hk it (by simp) o e, st.1.2.at fun o e => hk t (by simp) o e⟩, st.2⟩
  item := fun j s Q E hj st hQ => absurd st.2 (Nat.ne_of_lt hj)
  done := fun s Q E st hE => wpAny_nextOf_tuple_end hh st.1.1 st.1.2 (Array.getElem?_eq_none hi) hE
/-- the tuple at a, each item in a new pair -/
def Itet (K : PySem.W.Frag) (a : Addr) : It :=
  ⟨fun i H => ∃ (xs : List V) (x : V), SqT K H a xs ∧ xs[i]? = some x, fun i H v H' => ∃ T x, v = .ref T ∧ H T = none ∧ H' = upd H T (.tup [.int (i : Nat), x]) ∧ ∀ xs, SqT K H a xs → xs[i]? = some x, fun i H => ∃ xs : List V, SqT K H a xs ∧ xs.length ≤ i⟩
theorem turn_enumT {P : Program} {w : World} {K : PySem.W.Frag} {elts : List Expr} {kk : Nat} {tpos : Pos} (a e it : Addr) (hea : e ≠ a) (hta : a ≠ it) :
    Turn P w K (.Tuple elts kk tpos) (Itet K a) [e, it] e (fun i h => (∃ old, IsEnum h e it ((i : Nat) : Int) old) ∧ h.IsTupleIter it a i ∧ e ≠ it) where
  mem := by simp
  obj := fun i h st b hb => by
    obtain ⟨⟨old, he⟩, ⟨o, ho, hc, hd⟩, _⟩ := st
    have eb : b = e ∨ b = it := by simpa using hb
    rcases eb with rfl | rfl
    · exact ⟨_, he, fun v q => nomatch q⟩
    · exact ⟨o, ho, fun v q => by rw [hd] at q; cases q⟩
  keep := fun i h h' st k => ⟨st.1.elim fun old he => ⟨old, k e (by simp) _ he⟩, st.2.1.at fun o q => k it (by simp) o q, st.2.2⟩
  item := by
    intro X hP hw hK hc i pins s σ H E I hf st hg
    subst hP hw hK
    obtain ⟨⟨old, he⟩, hit, hne⟩ := st
    obtain ⟨xs, x, hq, hx⟩ := hg
    obtain ⟨its, rv, p, hz⟩ := I.tuple hq
    obtain ⟨u, hu, ru⟩ := rv.get hx
    have hlt : i < its.toArray.size := by
      have : i < its.length := (List.getElem?_eq_some_iff.mp hu).1
      simpa using this
    have hel : e < s.heap.objs.size := Heap.lt_size he
    have hil : it < s.heap.objs.size := by obtain ⟨_, q, _⟩ := hit; exact Heap.lt_size q
    refine wpAny_pyNext_enum_itemD (Draws.tuple (A := X.A.in1) (I.ok.hd hc) it a hta its.toArray) he ⟨hit, show s.heap.IsTuple a its.toArray from p⟩ hlt hne (by simp [hne, hea]) fun y h' tk hP ho st' hT hsz hk => ?_
    have ey : y = u := by
      have : its[i]? = some y := by simpa using hP
      rw [hu] at this
      cases this
      rfl
    subst ey
    refine ⟨_, rfl, wpAny_letOwnedTupleGo_enum (s := { s with heap := h', toks := tk + 1 }) ho fun h'' he' sb => ?_⟩
    have hT2 := (sb.2 _ (Nat.ne_of_gt hel)).trans hT
    have new : ObjOk X.prog X.w (upd H s.heap.objs.size (.tup [.int (i : Nat), x])) h'' s.heap.objs.size (.tup [.int (i : Nat), x]) :=
      ⟨by show 2 ≤ sizeLine; decide, [.int i tk, y], .cons ⟨_, rfl⟩ (.cons ru .nil), ⟨_, hT2, rfl, _, rfl⟩⟩
    have I1 : Inv X pins σ (upd H s.heap.objs.size (.tup [.int (i : Nat), x])) { s with heap := h'', toks := tk + 1 } :=
      I.turnedNew (ch := [e, it]) (fun b ob hb q => (sb.2 b (fun z => hb (by simp [z]))).trans (hk b ob (fun z => hb (by simp [z])) (fun z => hb (by simp [z])) q)) hf (Nat.le_refl _) new
    refine ⟨.ref s.heap.objs.size, _, I1, rfl, ⟨_, x, rfl, I.hok.fresh (Nat.le_refl _), rfl, fun ys hy => by rw [I.tuple_inj hy hq]; exact hx⟩, ⟨⟨y, ?_⟩, st'.1.at fun o q => (sb.2 it (Ne.symm hne)).trans q, hne⟩, fun b hb => ?_⟩
    · rw [show ((i + 1 : Nat) : Int) = (i : Int) + 1 by omega]
      exact he'
    · have eb : b = e ∨ b = it := by simpa using hb
      have hlb : b < s.heap.objs.size := by rcases eb with rfl | rfl; exact hel; exact hil
      rw [upd_ne (Nat.ne_of_lt hlb)]
      exact (hf b hb).1
  done := by
    intro X hP hw hK hc i pins s σ H E I hf st hg
    subst hP hw hK
    obtain ⟨⟨old, he⟩, hit, hne⟩ := st
    obtain ⟨xs, hq, hx⟩ := hg
    obtain ⟨its, rv, p, hz⟩ := I.tuple hq
    have hl := rv.length
    obtain ⟨f0, f1, f2, f3, f4, f5⟩ := hf it (by simp)
    exact wpAny_pyNext_enum_endD (draws_end (A := X.A.in1) (I.ok.hd hc) it a its.toArray i (by simp; omega)) he ⟨⟨hit, show s.heap.IsTuple a its.toArray from p⟩, rfl⟩ fun h' eb => ⟨rfl, I.turned (t' := s.toks) (fun b o hb q => eb b o hb q) f0 f1 f3 f4 f5⟩
  self := fun A i s Q E st h => let ⟨⟨_, he⟩, _⟩ := st; wpAny_pyIter_enum he h
/-- over a list or a tuple -/
def iEnumA (K : PySem.W.Frag) (ta : TA) : TI := fun σ H R => ta σ H fun vs H1 => ∃ a, vs = [.ref a] ∧ (((∃ xs, SqL K H1 a xs) ∧ R (Ite K a) H1) ∨ ((∃ xs, SqT K H1 a xs) ∧ R (Itet K a) H1))
theorem pi_enumA {X : Cx} {e : Expr} {ta : TA} {p pos tpos : Pos} {elts : List Expr} {kk : Nat} (hg : Gl X "enumerate") (hm : X.mg "enumerate" = none) (ha : PA X [e] ta) (hs : starEach [e] X.env = [(false, eval e X.env)] := by rfl) :
    PI X (.Tuple elts kk tpos) (.Call (.Name "enumerate" p) [e] [] pos) (iEnumA X.K ta) := by
  refine ⟨fun pins s σ H R I h => Call_ (ld_blt I hg hm boot_enumerate (callWith_type1 (thn (ha.run pos pins s σ H _ I h) fun us s1 ⟨vs, H1, I1, r1, a, ex, q⟩ => ?_) hs rfl))⟩
  subst ex
  cases r1 with
  | cons r rr =>
    cases rr
    cases r
    have fp : ∀ b ∈ [s1.heap.objs.size + 1, s1.heap.objs.size], FpOk X pins H1 b := fun b hb => by
      have eb : b = s1.heap.objs.size + 1 ∨ b = s1.heap.objs.size := by simpa using hb
      have hle : s1.heap.objs.size ≤ b := by
        rcases eb with rfl | rfl
        · exact Nat.le_succ _
        · exact Nat.le_refl _
      exact I1.fpOk hle (I1.hok.fresh hle)
    rcases q with ⟨⟨xs, hq⟩, q⟩ | ⟨⟨xs, hq⟩, q⟩
    · obtain ⟨its, rv, p', hz⟩ := I1.list hq
      exact call_enumerate_list p'.isList fun h' he hit hsz hk => wpAny_pyIter_enum he ⟨_, _, _, _, H1, rfl, I1.kept (t' := s1.toks) hk, turn_enum a _ _, ⟨⟨.none, he⟩, hit, Nat.succ_ne_self _⟩, fp, q⟩
    · obtain ⟨its, rv, p', hz⟩ := I1.tuple hq
      have hlt : a < s1.heap.objs.size := by obtain ⟨o, e, _⟩ := p'; exact Heap.lt_size e
      exact enum_call (begins_tuple a its.toArray) (show s1.heap.IsTuple a its.toArray from p') fun h' he hit hk => wpAny_pyIter_enum he
        ⟨_, _, _, _, H1, rfl, I1.kept (t' := s1.toks) hk, turn_enumT a _ _ (Nat.ne_of_gt (Nat.lt_succ_of_lt hlt)) (Nat.ne_of_lt hlt), ⟨⟨.none, he⟩, ⟨_, hit, rfl, rfl⟩, Nat.succ_ne_self _⟩, fp, q⟩
section
variable {K : PySem.W.Frag}
theorem yl_enumT {Hs : Hp} {a : Addr} {xs : List V} {ds : List D} (ha : SqT K Hs a xs) (da : DRs K Hs xs ds) : Yl K (Itet K a) (enumD 0 ds) Hs where
  go := fun i H s hi => by
    rw [enum_len] at hi
    exact ⟨xs, xs[i]'(by rw [da.len]; omega), same_tup s ha, by simp⟩
  stop := fun i H s hi => by
    rw [enum_len] at hi
    exact ⟨xs, same_tup s ha, by rw [da.len]; omega⟩
  yld := fun i x H H' Hs1 _ s s1 y => by
    obtain ⟨T, x1, rfl, hT, rfl, h1⟩ := y
    obtain ⟨d1, e1, r1⟩ := da.ta (h1 xs (same_tup (s.trans s1) ha))
    have ex : Ext H Hs1 (upd H T (.tup [.int (i : Nat), x1])) (upd Hs1 T (.tup [.int (i : Nat), x1])) := Ext.new s1 hT
    refine ⟨.tup [.int (i : Nat), d1], _, ?_, ex, .tup (SqT.of upd_same) (.cons (.int _) (.cons (r1.mono (s.trans ex.b)) .nil))⟩
    rw [enum_get e1, Nat.zero_add]
def xenumA (a : M (List D)) : M (List D) := fun G => bd (a G) fun xs G1 => match xs with
  | [x] => match seqD x with
    | some ds => some (enumD 0 ds, G1)
    | none => none
  | _ => none
theorem ik_enumA {ta : TA} {a : M (List D)} (ha : AOk K ta a) : IOk K (iEnumA K ta) (xenumA a) := fun Fz ba G σ H Hs ds G' q e Q k => by
  obtain ⟨xs, G1, e1, e⟩ := bd_inv e
  refine ha Fz ba G σ H Hs xs _ q e1 _ fun vs H1 Hs1 q1 s1 d => ?_
  split at e
  case h_2 => cases e
  rename_i x
  cases d with
  | cons d1 d2 =>
    cases d2
    cases h : seqD x with
    | none => rw [h] at e; cases e
    | some es =>
      rw [h] at e
      cases e
      cases x with
      | lst xs => cases h; obtain ⟨a1, x1, rfl, l1, r1⟩ := asL_ok d1 rfl; exact ⟨a1, rfl, .inl ⟨⟨_, same_lst q1.sub l1⟩, k _ H1 Hs1 q1 s1 (yl_enum l1 r1)⟩⟩
      | frz xs => cases h; obtain ⟨a1, x1, rfl, l1, r1⟩ := asL_ok d1 rfl; exact ⟨a1, rfl, .inl ⟨⟨_, same_lst q1.sub l1⟩, k _ H1 Hs1 q1 s1 (yl_enum l1 r1)⟩⟩
      | tup xs =>
        cases h
        cases d1 with
        | tup hl hd => exact ⟨_, rfl, .inr ⟨⟨_, same_tup q1.sub hl⟩, k _ H1 Hs1 q1 s1 (yl_enumT hl hd)⟩⟩
      | _ => cases h
end
theorem kpi_enumA {X : Cx} {K : PySem.W.Frag} (hK : X.K = K) {e : Expr} {ta : TA} {p pos tpos : Pos} {elts : List Expr} {kk : Nat} (hg : Gl X "enumerate") (hm : X.mg "enumerate" = none) (ha : PA X [e] ta) (hs : starEach [e] X.env = [(false, eval e X.env)] := by rfl) :
    PI X (.Tuple elts kk tpos) (.Call (.Name "enumerate" p) [e] [] pos) (iEnumA K ta) := hK ▸ pi_enumA hg hm ha hs
end Bk
/-! Bk10: zip over lists and tuples. -/
namespace Bk
open PySem L2 PySem.Builtin PySem.Spec PyProof.Rows
/-- a list (k) or a tuple -/
def SqK (K : PySem.W.Frag) (k : Bool) (a : Addr) (H : Hp) (xs : List V) : Prop := match k with
  | true => SqL K H a xs
  | false => SqT K H a xs
def ItK (k : Bool) (it a : Addr) (i : Nat) (h : Heap) : Prop := match k with
  | true => h.IsListIter it a i
  | false => h.IsTupleIter it a i
def InK (k : Bool) (a : Addr) (its : Array Value) (h : Heap) : Prop := match k with
  | true => h.IsList a its
  | false => h.IsTuple a its
def obK (k : Bool) (a : Addr) : Obj := match k with
  | true => { cls := .type "list_iterator", data := .fields #[.ref a, .int 0 0] }
  | false => { cls := .type "tuple_iterator", data := .fields #[.ref a, .int 0 0] }
theorem draws_k {prog : Program} {w : World} {A : Around} (hh : A.handled = none) (k : Bool) (it a : Addr) (hne : a ≠ it) (its : Array Value) : Draws prog w A it [it, a] its.size (fun i v => its[i]? = some v) (fun i h => ItK k it a i h ∧ InK k a its h) := by
  cases k
  · exact Draws.tuple hh it a hne its
  · exact Draws.list hh it a hne its
theorem drawsL_end {prog : Program} {w : World} {A : Around} (hh : A.handled = none) (it t : Addr) (items : Array Value) (i : Nat) (hi : items.size ≤ i) :
    Draws prog w A it [it, t] i (fun _ _ => True) (fun j h => (h.IsListIter it t j ∧ h.IsList t items) ∧ j = i) where
  live := fun _ _ st => st.1.1.elim fun o ho => ⟨o, ho.1⟩
  frame := fun _ _ _ st hk => ⟨⟨st.1.1.at fun o e => hk it (by simp) o e, st.1.2.at fun o e => hk t (by simp) o e⟩, st.2⟩
  item := fun j s Q E hj st hQ => absurd st.2 (Nat.ne_of_lt hj)
  done := fun s Q E st hE => wpAny_nextOf_list_end hh st.1.1 st.1.2 (Array.getElem?_eq_none hi) hE
theorem draws_stop {prog : Program} {w : World} {A : Around} (hh : A.handled = none) (k : Bool) (it a : Addr) (hne : a ≠ it) (its : Array Value) (i : Nat) {h : Heap} (h1 : ItK k it a i h) (h2 : InK k a its h) :
    ∃ n P St, Draws prog w A it [it, a] n P St ∧ St i h ∧ i ≤ n ∧ (its.size ≤ i → i = n) := by
  by_cases hi : its.size ≤ i
  · cases k
    · exact ⟨_, _, _, draws_end hh it a its i hi, ⟨⟨h1, h2⟩, rfl⟩, Nat.le_refl _, fun _ => rfl⟩
    · exact ⟨_, _, _, drawsL_end hh it a its i hi, ⟨⟨h1, h2⟩, rfl⟩, Nat.le_refl _, fun _ => rfl⟩
  · exact ⟨_, _, _, draws_k hh k it a hne its, ⟨h1, h2⟩, by omega, fun z => absurd z hi⟩
theorem begins_k (k : Bool) (a : Addr) (its : Array Value) : Begins (.ref a) (obK k a) (InK k a its) := by
  cases k
  · exact begins_tuple a its
  · exact begins_list a its
theorem itk_obj {k : Bool} {it a : Addr} {i : Nat} {h : Heap} (h1 : ItK k it a i h) : ∃ o, h.get? it = some o ∧ ∀ v, o.data ≠ .cell v := by
  cases k
  · obtain ⟨o, e, _, d⟩ := h1
    exact ⟨o, e, fun v q => by rw [d] at q; cases q⟩
  · obtain ⟨o, e, _, d⟩ := h1
    exact ⟨o, e, fun v q => by rw [d] at q; cases q⟩
theorem ItK.at {k : Bool} {it a : Addr} {i : Nat} {h h' : Heap} (h1 : ItK k it a i h) (hk : ∀ o, h.get? it = some o → h'.get? it = some o) : ItK k it a i h' := by
  cases k
  · exact Heap.IsTupleIter.at h1 hk
  · exact Heap.IsListIter.at h1 hk
theorem itk_new {k : Bool} {it a : Addr} {h : Heap} (e : h.get? it = some (obK k a)) : ItK k it a 0 h := by
  cases k
  · exact ⟨_, e, rfl, rfl⟩
  · exact ⟨_, e, rfl, rfl⟩
section
variable {X : Cx} {pins : List (Addr × Obj)} {σ : L2.St} {H : Hp} {s : Shared} {k : Bool} {a : Addr} {xs ys : List V}
theorem inv_k (I : Inv X pins σ H s) (h : SqK X.K k a H xs) : ∃ its : List Value, Vals xs its ∧ InK k a its.toArray s.heap ∧ a < s.heap.objs.size := by
  cases k
  · obtain ⟨its, r, p, _⟩ := I.tuple h
    exact ⟨its, r, show s.heap.IsTuple a its.toArray from p, by obtain ⟨o, e, _⟩ := p; exact Heap.lt_size e⟩
  · obtain ⟨its, r, p, _⟩ := I.list h
    exact ⟨its, r, p.isList, p.lt⟩
theorem inj_k (I : Inv X pins σ H s) (h : SqK X.K k a H xs) (h' : SqK X.K k a H ys) : xs = ys := by
  cases k
  · exact I.tuple_inj h h'
  · exact I.list_inj h h'
end
def ItZ (K : PySem.W.Frag) (k l : Bool) (a b : Addr) : It :=
  ⟨fun i H => ∃ (xs ys : List V) (x y : V), SqK K k a H xs ∧ SqK K l b H ys ∧ xs[i]? = some x ∧ ys[i]? = some y,
    fun i H v H' => ∃ T x y, v = .ref T ∧ H T = none ∧ H' = upd H T (.tup [x, y]) ∧ (∀ xs, SqK K k a H xs → xs[i]? = some x) ∧ ∀ ys, SqK K l b H ys → ys[i]? = some y,
    fun i H => ∃ xs ys : List V, SqK K k a H xs ∧ SqK K l b H ys ∧ (xs.length ≤ i ∨ ys.length ≤ i)⟩
theorem turn_zipK {P : Program} {w : World} {K : PySem.W.Frag} {elts : List Expr} {kk : Nat} {tpos : Pos} {k l : Bool} {a b z TI TO i1 i2 : Addr} (D : ZipSep2 z TI TO i1 i2 [i1, a] [i2, b]) (ha : a ≠ i1) (hb : b ≠ i2) :
    Turn P w K (.Tuple elts kk tpos) (ItZ K k l a b) [z, TI, TO, i1, i2] z (fun i h => IsZip h z TI TO .none ∧ IsTupOf2 h TI (.ref i1) (.ref i2) ∧ (∃ x y, IsTupOf2 h TO x y) ∧ ItK k i1 a i h ∧ ItK l i2 b i h) where
  mem := by simp
  obj := fun i h st c hc => by
    obtain ⟨hz, hTI, ⟨x, y, hTO⟩, h1, h2⟩ := st
    have ec : c = z ∨ c = TI ∨ c = TO ∨ c = i1 ∨ c = i2 := by simpa using hc
    rcases ec with rfl | rfl | rfl | rfl | rfl
    · exact ⟨_, hz, fun v q => nomatch q⟩
    · exact ⟨_, hTI, fun v q => nomatch q⟩
    · exact ⟨_, hTO, fun v q => nomatch q⟩
    · exact itk_obj h1
    · exact itk_obj h2
  keep := fun i h h' st kp => by
    obtain ⟨hz, hTI, ⟨x, y, hTO⟩, h1, h2⟩ := st
    exact ⟨kp z (by simp) _ hz, kp TI (by simp) _ hTI, ⟨x, y, kp TO (by simp) _ hTO⟩, h1.at fun o q => kp i1 (by simp) o q, h2.at fun o q => kp i2 (by simp) o q⟩
  item := by
    intro X hP hw hK hc i pins s σ H E I hf st hg
    subst hP hw hK
    obtain ⟨hz, hTI, ⟨x0, y0, hTO⟩, h1, h2⟩ := st
    obtain ⟨xs, ys, x, y, qx, qy, hx, hy⟩ := hg
    obtain ⟨its, rv, p, _⟩ := inv_k I qx
    obtain ⟨its2, rv2, p2, _⟩ := inv_k I qy
    obtain ⟨u, hu, ru⟩ := rv.get hx
    obtain ⟨u2, hu2, ru2⟩ := rv2.get hy
    have hlt : i < its.toArray.size := by simpa using (List.getElem?_eq_some_iff.mp hu).1
    have hlt2 : i < its2.toArray.size := by simpa using (List.getElem?_eq_some_iff.mp hu2).1
    have hzl : z < s.heap.objs.size := Heap.lt_size hz
    have lts : ∀ c ∈ [z, TI, TO, i1, i2], c < s.heap.objs.size := fun c hcm => by
      have ec : c = z ∨ c = TI ∨ c = TO ∨ c = i1 ∨ c = i2 := by simpa using hcm
      rcases ec with rfl | rfl | rfl | rfl | rfl
      · exact hzl
      · exact Heap.lt_size hTI
      · exact Heap.lt_size hTO
      · obtain ⟨_, e1, _⟩ := itk_obj h1; exact Heap.lt_size e1
      · obtain ⟨_, e2, _⟩ := itk_obj h2; exact Heap.lt_size e2
    refine wpAny_pyNext_zipD2_item D (draws_k (A := X.A.in1) (I.ok.hd hc) k i1 a ha its.toArray) (draws_k (A := X.A.in1) (I.ok.hd hc) l i2 b hb its2.toArray) hz hTI hTO ⟨h1, p⟩ ⟨h2, p2⟩ hlt hlt2 fun v1 v2 h' tk e1 e2 z' TO' st1 st2 hT hsz hk => ?_
    have ev1 : v1 = u := by
      have q : its[i]? = some v1 := by simpa using e1
      rw [hu] at q; cases q; rfl
    have ev2 : v2 = u2 := by
      have q : its2[i]? = some v2 := by simpa using e2
      rw [hu2] at q; cases q; rfl
    subst ev1 ev2
    refine ⟨_, rfl, wpAny_letOwnedTupleGo_zip (s := { s with heap := h', toks := tk }) z' fun h'' z'' sb => ?_⟩
    have hT2 : h''.get? s.heap.objs.size = some { cls := .type "tuple", data := .seq #[v1, v2] } := (sb.2 _ (Nat.ne_of_gt hzl)).trans hT
    have new : ObjOk X.prog X.w (upd H s.heap.objs.size (.tup [x, y])) h'' s.heap.objs.size (.tup [x, y]) := ⟨by show 2 ≤ sizeLine; decide, [v1, v2], .cons ru (.cons ru2 .nil), ⟨_, hT2, rfl, _, rfl⟩⟩
    have I1 : Inv X pins σ (upd H s.heap.objs.size (.tup [x, y])) { s with heap := h'', toks := tk } :=
      I.turnedNew (ch := [z, TI, TO, i1, i2]) (fun c o hcb q => (sb.2 c (fun q' => hcb (by simp [q']))).trans (hk c o (fun q' => hcb (by simp [q'])) (fun q' => hcb (by simp [q'])) (fun q' => hcb (by simp [q'])) (fun q' => hcb (by simp [q'])) q)) hf (Nat.le_refl _) new
    have n1 : i1 ≠ z := fun q => D.zf1 (q ▸ D.mem1)
    have n2 : i2 ≠ z := fun q => D.zf2 (q ▸ D.mem2)
    refine ⟨.ref s.heap.objs.size, _, I1, rfl, ⟨_, x, y, rfl, I.hok.fresh (Nat.le_refl _), rfl, fun l' hl => by rw [inj_k I hl qx]; exact hx, fun l' hl => by rw [inj_k I hl qy]; exact hy⟩, ⟨z'', ?_, ⟨v1, v2, (sb.2 _ D.TOz).trans TO'⟩, st1.1.at fun o q => (sb.2 _ n1).trans q, st2.1.at fun o q => (sb.2 _ n2).trans q⟩, fun c hcm => ?_⟩
    · exact (sb.2 _ D.TIz).trans (hk _ _ D.TIz D.TITO D.TIi1 D.TIi2 hTI)
    · rw [upd_ne (Nat.ne_of_lt (lts c hcm))]
      exact (hf c hcm).1
  done := by
    intro X hP hw hK hc i pins s σ H E I hf st hg
    subst hP hw hK
    obtain ⟨hz, hTI, ⟨x0, y0, hTO⟩, h1, h2⟩ := st
    obtain ⟨xs, ys, qx, qy, hend⟩ := hg
    obtain ⟨its, rv, p, _⟩ := inv_k I qx
    obtain ⟨its2, rv2, p2, _⟩ := inv_k I qy
    have l1 := rv.length
    have l2 := rv2.length
    obtain ⟨n1, P1, St1, D1, s1, le1, e1⟩ := draws_stop (prog := X.prog) (w := X.w) (A := X.A.in1) (I.ok.hd hc) k i1 a ha its.toArray i h1 p
    obtain ⟨n2, P2, St2, D2, s2, le2, e2⟩ := draws_stop (prog := X.prog) (w := X.w) (A := X.A.in1) (I.ok.hd hc) l i2 b hb its2.toArray i h2 p2
    exact wpAny_pyNext_zipD2_end D D1 D2 hz hTI hTO s1 s2 le1 le2 (by
      rcases hend with q | q
      · exact .inl (e1 (by simp; omega))
      · exact .inr (e2 (by simp; omega))) fun h' tk hk => ⟨rfl, I.turnedL (ch := [z, TI, TO, i1, i2]) (fun c o hcb q => hk c o (fun q' => hcb (by simp [q'])) (fun q' => hcb (by simp [q'])) (fun q' => hcb (by simp [q'])) (fun q' => hcb (by simp [q'])) q) hf⟩
  self := fun A i s Q E st h => wpAny_pyIter_zip st.1 h
def iZipA (K : PySem.W.Frag) (ta : TA) : TI := fun σ H R => ta σ H fun vs H1 => ∃ k l a b xs ys, vs = [.ref a, .ref b] ∧ SqK K k a H1 xs ∧ SqK K l b H1 ys ∧ R (ItZ K k l a b) H1
theorem pi_zipA {X : Cx} {e e2 : Expr} {ta : TA} {p pos tpos : Pos} {elts : List Expr} {kk : Nat} (hg : Gl X "zip") (hm : X.mg "zip" = none) (ha : PA X [e, e2] ta)
    (hs : starEach [e, e2] X.env = (false, eval e X.env) :: starEach [e2] X.env := by rfl) (hpl : (backTo pos (starEach [e2] X.env)).any (·.1) = false := by rfl) :
    PI X (.Tuple elts kk tpos) (.Call (.Name "zip" p) [e, e2] [] pos) (iZipA X.K ta) := by
  refine ⟨fun pins s σ H R I h => Call_ (ld_blt I hg hm PyProof.Rows.boot_zip (callWith_type1 (thn (ha.run pos pins s σ H _ I h) fun us s1 ⟨vs, H1, I1, r1, k, l, a, b, xs, ys, ex, qx, qy, q⟩ => ?_) hs hpl))⟩
  subst ex
  cases r1 with
  | cons r rr =>
    cases rr with
    | cons r' rr =>
      cases rr
      cases r
      cases r'
      obtain ⟨its, rv, p1, la⟩ := inv_k I1 qx
      obtain ⟨its2, rv2, p2, lb⟩ := inv_k I1 qy
      refine zip_begins2 (begins_k k a its.toArray) (begins_k l b its2.toArray) p1 p2 fun h' hz hTI hTO h1 h2 hsz hk => wpAny_pyIter_zip hz ?_
      have sep := zip_sep2 (N := s1.heap.objs.size) (fp1 := [a]) (fp2 := [b]) (by simpa using la) (by simpa using lb)
      refine ⟨_, _, _, _, H1, rfl, I1.kept (t' := s1.toks) hk, turn_zipK sep (Nat.ne_of_lt la) (Nat.ne_of_lt (Nat.lt_succ_of_lt lb)), ⟨hz, hTI, ⟨_, _, hTO⟩, itk_new h1, itk_new h2⟩, fun c hcm => ?_, q⟩
      have ec : c = s1.heap.objs.size + 4 ∨ c = s1.heap.objs.size + 2 ∨ c = s1.heap.objs.size + 3 ∨ c = s1.heap.objs.size ∨ c = s1.heap.objs.size + 1 := by simpa using hcm
      have hle : s1.heap.objs.size ≤ c := by
        rcases ec with rfl | rfl | rfl | rfl | rfl
        · exact Nat.le_add_right _ _
        · exact Nat.le_add_right _ _
        · exact Nat.le_add_right _ _
        · exact Nat.le_refl _
        · exact Nat.le_add_right _ _
      exact I1.fpOk hle (I1.hok.fresh hle)
theorem kpi_zipA {X : Cx} {K : PySem.W.Frag} (hK : X.K = K) {e e2 : Expr} {ta : TA} {p pos tpos : Pos} {elts : List Expr} {kk : Nat} (hg : Gl X "zip") (hm : X.mg "zip" = none) (ha : PA X [e, e2] ta)
    (hs : starEach [e, e2] X.env = (false, eval e X.env) :: starEach [e2] X.env := by rfl) (hpl : (backTo pos (starEach [e2] X.env)).any (·.1) = false := by rfl) :
    PI X (.Tuple elts kk tpos) (.Call (.Name "zip" p) [e, e2] [] pos) (iZipA K ta) := hK ▸ pi_zipA hg hm ha hs hpl
section
variable {K : PySem.W.Frag}
theorem same_k {k : Bool} {a : Addr} {H H' : Hp} {xs : List V} (s : Same H H') (h : SqK K k a H xs) : SqK K k a H' xs := by
  cases k
  · exact same_tup s h
  · exact same_lst s h
theorem seqD_ok {H : Hp} {v : V} {d : D} {ds : List D} (h : DR K H v d) (e : seqD d = some ds) : ∃ k a xs, v = .ref a ∧ SqK K k a H xs ∧ DRs K H xs ds := by
  cases d with
  | tup xs =>
    cases e
    cases h with
    | tup hl hd => exact ⟨false, _, _, rfl, hl, hd⟩
  | lst xs => obtain ⟨a, vs, z, hl, hd⟩ := asL_ok h e; exact ⟨true, a, vs, z, hl, hd⟩
  | frz xs => obtain ⟨a, vs, z, hl, hd⟩ := asL_ok h e; exact ⟨true, a, vs, z, hl, hd⟩
  | _ => cases e
theorem yl_zipA {Hs : Hp} {k l : Bool} {a b : Addr} {xs ys : List V} {ds es : List D} (ha : SqK K k a Hs xs) (hb : SqK K l b Hs ys) (da : DRs K Hs xs ds) (db : DRs K Hs ys es) : Yl K (ItZ K k l a b) ((ds.zip es).map fun p => .tup [p.1, p.2]) Hs where
  go := fun i H s hi => by
    rw [List.length_map, List.length_zip] at hi
    exact ⟨xs, ys, xs[i]'(by rw [da.len]; omega), ys[i]'(by rw [db.len]; omega), same_k s ha, same_k s hb, by simp, by simp⟩
  stop := fun i H s hi => by
    rw [List.length_map, List.length_zip] at hi
    exact ⟨xs, ys, same_k s ha, same_k s hb, by rw [da.len, db.len]; omega⟩
  yld := fun i x H H' Hs1 _ s s1 y => by
    obtain ⟨T, x1, y1, rfl, hT, rfl, h1, h2⟩ := y
    obtain ⟨d1, e1, r1⟩ := da.ta (h1 xs (same_k (s.trans s1) ha))
    obtain ⟨d2, e2, r2⟩ := db.ta (h2 ys (same_k (s.trans s1) hb))
    have ex : Ext H Hs1 (upd H T (.tup [x1, y1])) (upd Hs1 T (.tup [x1, y1])) := Ext.new s1 hT
    refine ⟨.tup [d1, d2], _, ?_, ex, .tup (SqT.of upd_same) (.cons (r1.mono (s.trans ex.b)) (.cons (r2.mono (s.trans ex.b)) .nil))⟩
    rw [List.getElem?_map, zip_get e1 e2]
    rfl
def xzipA (a : M (List D)) : M (List D) := fun G => bd (a G) fun xs G1 => match xs with
  | [x, y] => match seqD x, seqD y with
    | some ds, some es => some ((ds.zip es).map fun p => .tup [p.1, p.2], G1)
    | _, _ => none
  | _ => none
theorem ik_zipA {ta : TA} {a : M (List D)} (ha : AOk K ta a) : IOk K (iZipA K ta) (xzipA a) := fun Fz ba G σ H Hs ds G' q e Q k => by
  obtain ⟨xs, G1, e1, e⟩ := bd_inv e
  refine ha Fz ba G σ H Hs xs _ q e1 _ fun vs H1 Hs1 q1 s1 d => ?_
  split at e
  case h_2 => cases e
  split at e
  case h_2 => cases e
  rename_i h1 h2
  cases e
  cases d with
  | cons d1 d2 =>
    cases d2 with
    | cons d2 d3 =>
      cases d3
      obtain ⟨k1, a1, x1, rfl, l1, r1⟩ := seqD_ok d1 h1
      obtain ⟨k2, a2, x2, rfl, l2, r2⟩ := seqD_ok d2 h2
      exact ⟨k1, k2, a1, a2, x1, x2, rfl, same_k q1.sub l1, same_k q1.sub l2, k _ H1 Hs1 q1 s1 (yl_zipA l1 l2 r1 r2)⟩
end
end Bk
namespace Bk
open PySem L2
def c_NOUGHT : D := .tup [.int (0), .int (1)]
def b_is_integer : MS := (xret (xvand (xcb cbIsi (xcons (xv 0) (xcons (xc (.ty "int")) xnil))) (xvnot (xcb cbIsi (xcons (xv 0) (xcons (xc (.ty "bool")) xnil))))))
def r_is_integer : List D → Option R := runF 1 1 b_is_integer
def b_divisor : MS := (xseq (xpar 0 1 (xcons (xcb cbAbs (xcons (xv 0) xnil)) (xcons (xcb cbAbs (xcons (xv 1) xnil)) xnil)))
  (xseq (xwhile (fuelI 1) (xtest (xop opNe (xv 1) (xc (.int 0)))) (xpar 0 1 (xcons (xv 1) (xcons (xop opMod (xv 0) (xv 1)) xnil))))
  (xret (xmv 0))))
def r_divisor : List D → Option R := runF 2 2 b_divisor
def b_lowest : MS := (xseq (xset 2 (xcall r_divisor (xcons (xv 0) (xcons (xv 1) xnil))))
  (xseq (xset 2 (xif (xtest (xop opLt (xv 1) (xc (.int 0)))) (xun unNeg (xv 2)) (xv 2)))
  (xret (xtup (xcons (xop opFdiv (xv 0) (xv 2)) (xcons (xop opFdiv (xv 1) (xv 2)) xnil))))))
def r_lowest : List D → Option R := runF 2 3 b_lowest
def b_value_of : MS := (xret (xif (xtru (xcall r_is_integer (xcons (xv 0) xnil))) (xtup (xcons (xv 0) (xcons (xc (.int 1)) xnil))) (xv 0)))
def r_value_of : List D → Option R := runF 1 1 b_value_of
def b_added : MS := (xret (xcall r_lowest (xcons (xop opAdd (xop opMul (xop opIx (xv 0) (xc (.int 0))) (xop opIx (xv 1) (xc (.int 1)))) (xop opMul (xop opIx (xv 1) (xc (.int 0))) (xop opIx (xv 0) (xc (.int 1))))) (xcons (xop opMul (xop opIx (xv 0) (xc (.int 1))) (xop opIx (xv 1) (xc (.int 1)))) xnil))))
def r_added : List D → Option R := runF 2 2 b_added
def b_less_by : MS := (xret (xcall r_lowest (xcons (xop opSub (xop opMul (xop opIx (xv 0) (xc (.int 0))) (xop opIx (xv 1) (xc (.int 1)))) (xop opMul (xop opIx (xv 1) (xc (.int 0))) (xop opIx (xv 0) (xc (.int 1))))) (xcons (xop opMul (xop opIx (xv 0) (xc (.int 1))) (xop opIx (xv 1) (xc (.int 1)))) xnil))))
def r_less_by : List D → Option R := runF 2 2 b_less_by
def b_multiplied : MS := (xret (xcall r_lowest (xcons (xop opMul (xop opIx (xv 0) (xc (.int 0))) (xop opIx (xv 1) (xc (.int 0)))) (xcons (xop opMul (xop opIx (xv 0) (xc (.int 1))) (xop opIx (xv 1) (xc (.int 1)))) xnil))))
def r_multiplied : List D → Option R := runF 2 2 b_multiplied
def b_is_less : MS := (xret (xop opLt (xop opMul (xop opIx (xv 0) (xc (.int 0))) (xop opIx (xv 1) (xc (.int 1)))) (xop opMul (xop opIx (xv 1) (xc (.int 0))) (xop opIx (xv 0) (xc (.int 1))))))
def r_is_less : List D → Option R := runF 2 2 b_is_less
def b_summed : MS := (xseq (xset 1 (xc c_NOUGHT))
  (xseq (xfor (xseqI (xv 0)) (tgn 2)
    (xset 1 (xcall r_added (xcons (xv 1) (xcons (xv 2) xnil)))))
  (xret (xmv 1))))
def r_summed : List D → Option R := runF 1 3 b_summed
def b_product_to : MS := (xseq (xset 1 (xc (.int 1)))
  (xseq (xfor (xrange2 (xcons (xc (.int 2)) (xcons (xop opAdd (xv 0) (xc (.int 1))) xnil))) (tgn 2)
    (xaug 1 opMulI (xv 2)))
  (xret (xmv 1))))
def r_product_to : List D → Option R := runF 1 3 b_product_to
def b_ways_to_choose : MS := (xseq (xifs (xtor (xtest (xop opLt (xv 1) (xc (.int 0)))) (xtest (xop opLt (xv 0) (xv 1)))) (xret (xc (.int 0))) xnext)
  (xret (xop opFdiv (xcall r_product_to (xcons (xv 0) xnil)) (xop opMul (xcall r_product_to (xcons (xv 1) xnil)) (xcall r_product_to (xcons (xop opSub (xv 0) (xv 1)) xnil))))))
def r_ways_to_choose : List D → Option R := runF 2 2 b_ways_to_choose
def b_values_of : MS := (xret (xlc (xseqI (xv 0)) (tgn 1) xtyes (xcall r_value_of (xcons (xv 1) xnil)) [1]))
def r_values_of : List D → Option R := runF 1 2 b_values_of
def b_differences : MS := (xseq (xfor (xrange1 (xcons (xv 1) xnil)) (tgn 2)
    (xset 0 (xlc (xzipA (xcons (xv 0) (xcons (xsl slA (xv 0) (xpart (xc (.int 1))) xnop) xnil))) (tgt [(tgn 3), (tgn 4)]) xtyes (xcall r_less_by (xcons (xv 4) (xcons (xv 3) xnil))) [3, 4])))
  (xret (xmv 0)))
def r_differences : List D → Option R := runF 2 5 b_differences
def b_is_kind : MS := (xret (xvnot (xcb cbAny (xcons (xlc (xseqI (xcall r_differences (xcons (xcall r_values_of (xcons (xv 0) xnil)) (xcons (xv 1) xnil)))) (tgn 2) xtyes (xcall r_is_less (xcons (xv 2) (xcons (xc c_NOUGHT) xnil))) [2]) xnil))))
def r_is_kind : List D → Option R := runF 2 3 b_is_kind
def b_row_told : MS := (xret (xcall r_summed (xcons (xlc (xzipA (xcons (xcall r_values_of (xcons (xv 0) xnil)) (xcons (xcall r_values_of (xcons (xv 1) xnil)) xnil))) (tgt [(tgn 2), (tgn 3)]) xtyes (xcall r_multiplied (xcons (xv 2) (xcons (xv 3) xnil))) [2, 3]) xnil)))
def r_row_told : List D → Option R := runF 2 4 b_row_told
def b_unit_row : MS := (xseq (xifs (xtest (xop opEq (xv 1) (xc (.int 0)))) (xret (xlc (xrange1 (xcons (xv 0) xnil)) (tgn 3) xtyes (xcb cbInt (xcons (xop opEq (xv 3) (xv 2)) xnil)) [3])) xnext)
  (xret (xlc (xrange1 (xcons (xv 0) xnil)) (tgn 3) xtyes (xcall r_ways_to_choose (xcons (xop opSub (xop opSub (xv 3) (xv 2)) (xc (.int 1))) (xcons (xop opSub (xv 1) (xc (.int 1))) xnil))) [3])))
def r_unit_row : List D → Option R := runF 3 4 b_unit_row
def b_power_row : MS := (xret (xlc (xrange1 (xcons (xv 0) xnil)) (tgn 2) xtyes (xcall r_ways_to_choose (xcons (xv 2) (xcons (xv 1) xnil))) [2]))
def r_power_row : List D → Option R := runF 2 3 b_power_row
def b_row_kernel : MS := (xseq (xset 2 (xcb cbLen (xcons (xv 0) xnil)))
  (xret (xcb cbTuple (xcons (xlc (xrange1 (xcons (xop opSub (xv 2) (xv 1)) xnil)) (tgn 3) xtyes (xcall r_row_told (xcons (xv 0) (xcons (xcall r_unit_row (xcons (xv 2) (xcons (xv 1) (xcons (xv 3) xnil)))) xnil))) [3]) xnil))))
def r_row_kernel : List D → Option R := runF 2 4 b_row_kernel
def b_row_refuting : MS := (xseq (xset 2 (xcb cbLen (xcons (xv 0) xnil)))
  (xseq (xfor (xrange1 (xcons (xcb cbMin2 (xcons (xv 1) (xcons (xv 2) xnil))) xnil)) (tgn 3)
    (xseq (xset 4 (xcall r_power_row (xcons (xv 2) (xcons (xv 3) xnil))))
  (xseq (xset 5 (xcall r_row_told (xcons (xv 0) (xcons (xv 4) xnil))))
  (xifs (xtest (xop opNe (xv 5) (xc c_NOUGHT))) (xseq (xset 6 (xif (xtru (xcall r_is_less (xcons (xv 5) (xcons (xc c_NOUGHT) xnil)))) (xc (.int 1)) (xun unNeg (xc (.int 1)))))
  (xret (xcb cbTuple (xcons (xlc (xseqI (xv 4)) (tgn 8) xtyes (xtup (xcons (xop opMul (xv 6) (xv 8)) (xcons (xc (.int 1)) xnil))) [8]) xnil)))) xnext))))
  (xseq (xfor (xenumA (xcons (xcall r_row_kernel (xcons (xv 0) (xcons (xv 1) xnil))) xnil)) (tgt [(tgn 7), (tgn 8)])
    (xifs (xtru (xcall r_is_less (xcons (xv 8) (xcons (xc c_NOUGHT) xnil)))) (xret (xcb cbTuple (xcons (xcall r_values_of (xcons (xcall r_unit_row (xcons (xv 2) (xcons (xv 1) (xcons (xv 7) xnil)))) xnil)) xnil))) xnext))
  (xret (xc .non)))))
def r_row_refuting : List D → Option R := runF 2 9 b_row_refuting
def b_row_never_below : MS := (xret (xop opIs (xcall r_row_refuting (xcons (xv 0) (xcons (xv 1) xnil))) (xc .non)))
def r_row_never_below : List D → Option R := runF 2 2 b_row_never_below
def b_w_divisor : MS := (xseq (xpar 0 1 (xcons (xcb cbAbs (xcons (xv 0) xnil)) (xcons (xcb cbAbs (xcons (xv 1) xnil)) xnil)))
  (xseq (xwhile (fuelI 1) (xtest (xop opNe (xv 1) (xc (.int 0)))) (xpar 0 1 (xcons (xv 1) (xcons (xop opMod (xcb cbInt (xcons (xv 0) xnil)) (xv 1)) xnil))))
  (xret (xmv 0))))
def r_w_divisor : List D → Option R := runF 2 2 b_w_divisor
def b_w_choose : MS := (xseq (xifs (xtest (xop opGt (xby 0 (xixv 0 (xc (.int 0))) (xop opIx (xv 0) (xc (.int 0)))) (xc (.int 0)))) (xseq (xset 2 (xop opMod (xcb cbInt (xcons (xby 0 (xixv 0 (xc (.int 0))) (xop opIx (xv 0) (xc (.int 0)))) xnil)) (xv 1)))
  (xseq (xput 0 (xop opFdiv (xby 0 (xixv 0 (xc (.int 0))) (xop opIx (xv 0) (xc (.int 0)))) (xv 1)) (xc (.int 0)))
  (xret (xmv 2)))) xnext)
  (xseq (xset 3 (xop opMod (xcb cbInt (xcons (xop opAdd (xop opMul (xby 0 (xixv 0 (xc (.int 1))) (xop opIx (xv 0) (xc (.int 1)))) (xc (.int 40014))) (xc (.int 67))) xnil)) (xc (.int 2147483563))))
  (xseq (xput 0 (xop opAdd (xop opMod (xcb cbInt (xcons (xop opAdd (xop opMul (xv 3) (xc (.int 40692))) (xc (.int 5099))) xnil)) (xc (.int 2147483629))) (xc (.int 1))) (xc (.int 1)))
  (xret (xop opMod (xcb cbInt (xcons (xop opFdiv (xop opAdd (xop opMul (xv 3) (xc (.int 2147483647))) (xby 0 (xixv 0 (xc (.int 1))) (xop opIx (xv 0) (xc (.int 1))))) (xc (.int 8191))) xnil)) (xv 1))))))
def r_w_choose : List D → List D → Option (R × List D) := runB 2 4 b_w_choose
def b_w_one_of : MS := (xret (xop opIx (xv 1) (xcallB r_w_choose 0 (xcons (xcb cbLen (xcons (xv 1) xnil)) xnil))))
def r_w_one_of : List D → List D → Option (R × List D) := runB 2 2 b_w_one_of
def b_w_low : MS := (xseq (xset 2 (xop opMul (xcall r_w_divisor (xcons (xv 0) (xcons (xv 1) xnil))) (xif (xtest (xop opGt (xv 1) (xc (.int 0)))) (xc (.int 1)) (xop opSub (xc (.int 0)) (xc (.int 1))))))
  (xret (xtup (xcons (xop opFdiv (xv 0) (xv 2)) (xcons (xop opFdiv (xv 1) (xv 2)) xnil)))))
def r_w_low : List D → Option R := runF 2 3 b_w_low
def b_w_minus : MS := (xret (xcall r_w_low (xcons (xop opSub (xop opMul (xop opIx (xv 0) (xc (.int 0))) (xop opIx (xv 1) (xc (.int 1)))) (xop opMul (xop opIx (xv 1) (xc (.int 0))) (xop opIx (xv 0) (xc (.int 1))))) (xcons (xop opMul (xop opIx (xv 0) (xc (.int 1))) (xop opIx (xv 1) (xc (.int 1)))) xnil))))
def r_w_minus : List D → Option R := runF 2 2 b_w_minus
def b_w_plus : MS := (xret (xcall r_w_low (xcons (xop opAdd (xop opMul (xop opIx (xv 0) (xc (.int 0))) (xop opIx (xv 1) (xc (.int 1)))) (xop opMul (xop opIx (xv 1) (xc (.int 0))) (xop opIx (xv 0) (xc (.int 1))))) (xcons (xop opMul (xop opIx (xv 0) (xc (.int 1))) (xop opIx (xv 1) (xc (.int 1)))) xnil))))
def r_w_plus : List D → Option R := runF 2 2 b_w_plus
def b_w_sum : MS := (xseq (xset 1 (xtup (xcons (xc (.int 0)) (xcons (xc (.int 1)) xnil))))
  (xseq (xfor (xseqI (xv 0)) (tgn 2)
    (xset 1 (xcall r_w_plus (xcons (xv 1) (xcons (xv 2) xnil)))))
  (xret (xmv 1))))
def r_w_sum : List D → Option R := runF 1 3 b_w_sum
def b_w_seed : MS := (xseq (xset 2 (xop opAdd (xop opMul (xc (.int 8837)) (xv 1)) (xc (.int 71))))
  (xseq (xifs (xtest (xop opLt (xv 1) (xcb cbLen (xcons (xv 0) xnil)))) (xset 2 (xcb cbAbs (xcons (xop opIx (xv 0) (xv 1)) xnil))) (xifs (xtest (xop opGt (xcb cbLen (xcons (xv 0) xnil)) (xc (.int 0)))) (xset 2 (xop opAdd (xv 2) (xop opMul (xop opMod (xcb cbInt (xcons (xcb cbAbs (xcons (xop opIx (xv 0) (xop opMod (xcb cbInt (xcons (xv 1) xnil)) (xcb cbLen (xcons (xv 0) xnil)))) xnil)) xnil)) (xc (.int 2147483629))) (xc (.int 46021))))) xnext))
  (xseq (xset 3 (xif (xtest (xop opGe (xv 2) (xop opPow (xc (.int 10)) (xc (.int 18))))) (xv 2) (xc (.int 0))))
  (xret (xlst (xcons (xv 3) (xcons (xop opAdd (xop opMod (xcb cbInt (xcons (xop opAdd (xop opMul (xop opMod (xcb cbInt (xcons (xv 2) xnil)) (xc (.int 2147483629))) (xc (.int 48271))) (xop opMul (xc (.int 44017)) (xv 1))) xnil)) (xc (.int 2147483629))) (xc (.int 1))) xnil)))))))
def r_w_seed : List D → Option R := runF 2 4 b_w_seed
def b_w_times : MS := (xret (xcall r_w_low (xcons (xop opMul (xop opIx (xv 0) (xc (.int 0))) (xop opIx (xv 1) (xc (.int 0)))) (xcons (xop opMul (xop opIx (xv 0) (xc (.int 1))) (xop opIx (xv 1) (xc (.int 1)))) xnil))))
def r_w_times : List D → Option R := runF 2 2 b_w_times
def b_w_pair : MS := (xret (xif (xtru (xcb cbIsi (xcons (xv 0) (xcons (xc (.ty "tuple")) xnil)))) (xv 0) (xtup (xcons (xv 0) (xcons (xc (.int 1)) xnil)))))
def r_w_pair : List D → Option R := runF 1 1 b_w_pair
def b_w_line : MS := (xseq (xset 3 (xlst xnil))
  (xseq (xfor (xrange1 (xcons (xv 1) xnil)) (tgn 4)
    (xseq (xset 5 (xop opSub (xcallB r_w_choose 0 (xcons (xop opAdd (xop opMul (xc (.int 2)) (xv 2)) (xc (.int 1))) xnil)) (xv 2)))
  (xapp 3 (xif (xtest (xop opGt (xcallB r_w_choose 0 (xcons (xc (.int 3)) xnil)) (xc (.int 0)))) (xv 5) (xcall r_w_low (xcons (xv 5) (xcons (xcallB r_w_one_of 0 (xcons (xlst (xcons (xc (.int 2)) (xcons (xc (.int 3)) xnil))) xnil)) xnil)))))))
  (xret (xmv 3))))
def r_w_line : List D → List D → Option (R × List D) := runB 3 6 b_w_line
def b_w_differences : MS := (xseq (xset 2 (xlc (xseqI (xv 0)) (tgn 4) xtyes (xcall r_w_pair (xcons (xv 4) xnil)) [4]))
  (xseq (xfor (xrange1 (xcons (xv 1) xnil)) (tgn 3)
    (xset 2 (xlc (xrange1 (xcons (xop opSub (xcb cbLen (xcons (xv 2) xnil)) (xc (.int 1))) xnil)) (tgn 5) xtyes (xcall r_w_minus (xcons (xop opIx (xv 2) (xop opAdd (xv 5) (xc (.int 1)))) (xcons (xop opIx (xv 2) (xv 5)) xnil))) [5])))
  (xret (xmv 2))))
def r_w_differences : List D → Option R := runF 2 6 b_w_differences
def b_w_dot : MS := (xret (xcall r_w_sum (xcons (xlc (xzipA (xcons (xv 0) (xcons (xv 1) xnil))) (tgt [(tgn 2), (tgn 3)]) xtyes (xcall r_w_times (xcons (xcall r_w_pair (xcons (xv 2) xnil)) (xcons (xcall r_w_pair (xcons (xv 3) xnil)) xnil))) [2, 3]) xnil)))
def r_w_dot : List D → Option R := runF 2 4 b_w_dot
def b_w_grown : MS := (xseq (xset 2 (xlc (xseqI (xv 1)) (tgn 5) xtyes (xcall r_w_pair (xcons (xv 5) xnil)) [5]))
  (xseq (xfor (xseqI (xrev (xv 0) (xop opSub (xc (.int 0)) (xc (.int 1))))) (tgn 3)
    (xseq (xset 4 (xlst (xcons (xcall r_w_pair (xcons (xv 3) xnil)) xnil)))
  (xseq (xfor (xseqI (xv 2)) (tgn 5)
    (xapp 4 (xcall r_w_plus (xcons (xby 4 (xixv 4 (xun unNeg (xc (.int 1)))) (xop opIx (xv 4) (xun unNeg (xc (.int 1))))) (xcons (xv 5) xnil)))))
  (xset 2 (xv 4)))))
  (xret (xmv 2))))
def r_w_grown : List D → Option R := runF 2 6 b_w_grown
def b_w_kind_line : MS := (xseq (xset 4 (xcallB r_w_line 0 (xcons (xcb cbMin2 (xcons (xv 2) (xcons (xv 1) xnil))) (xcons (xv 3) xnil))))
  (xseq (xifs (xtest (xop opGt (xv 2) (xc (.int 2)))) (xset 4 (xlc (xrange1 (xcons (xcb cbMin2 (xcons (xv 2) (xcons (xv 1) xnil))) xnil)) (tgn 6) xtyes (xop opSub (xcallB r_w_choose 0 (xcons (xop opAdd (xop opMul (xc (.int 2)) (xv 3)) (xc (.int 1))) xnil)) (xv 3)) [6])) xnext)
  (xseq (xifs (xtest (xop opGe (xv 2) (xv 1))) (xret (xlc (xseqI (xv 4)) (tgn 7) xtyes (xcall r_w_pair (xcons (xv 7) xnil)) [7])) xnext)
  (xseq (xset 5 (xlc (xrange1 (xcons (xop opSub (xv 1) (xv 2)) xnil)) (tgn 6) xtyes (xtup (xcons (xcallB r_w_choose 0 (xcons (xc (.int 4)) xnil)) (xcons (xif (xtest (xop opLt (xv 2) (xc (.int 4)))) (xcallB r_w_one_of 0 (xcons (xlst (xcons (xc (.int 1)) (xcons (xc (.int 1)) (xcons (xc (.int 2)) xnil)))) xnil)) (xc (.int 1))) xnil))) [6]))
  (xret (xcall r_w_grown (xcons (xv 4) (xcons (xlc (xseqI (xv 5)) (tgt [(tgn 8), (tgn 9)]) xtyes (xcall r_w_low (xcons (xv 8) (xcons (xv 9) xnil))) [8, 9]) xnil))))))))
def r_w_kind_line : List D → List D → Option (R × List D) := runB 4 10 b_w_kind_line
def b_law : MS := (xseq (xfor (xrange1 (xcons (xcb cbMax2 (xcons (xc (.int 1)) (xcons (xcb cbMin2 (xcons (xc (.int 4)) (xcons (xcb cbLen (xcons (xv 0) xnil)) xnil))) xnil))) xnil)) (tgn 1)
    (xseq (xset 2 (xcall r_w_seed (xcons (xv 0) (xcons (xv 1) xnil))))
  (xfor (xrange1 (xcons (xc (.int 5)) xnil)) (tgn 3)
    (xseq (xasg (xtup (xcons (xop opAdd (xc (.int 1)) (xcallB r_w_choose 2 (xcons (xc (.int 8)) xnil))) (xcons (xcallB r_w_choose 2 (xcons (xc (.int 6)) xnil)) xnil))) (tgt [(tgn 4), (tgn 5)]))
  (xseq (xset 6 (xcallB r_w_line 2 (xcons (xv 4) (xcons (xc (.int 9)) xnil))))
  (xseq (xpar 7 8 (xcons (xcallB r_w_kind_line 2 (xcons (xv 4) (xcons (xv 5) (xcons (xc (.int 5)) xnil)))) (xcons (xcallB r_w_kind_line 2 (xcons (xv 4) (xcons (xv 5) (xcons (xc (.int 5)) xnil)))) xnil)))
  (xseq (xset 9 (xlc (xzipA (xcons (xv 7) (xcons (xv 8) xnil))) (tgt [(tgn 15), (tgn 16)]) xtyes (xcall r_w_plus (xcons (xv 15) (xcons (xv 16) xnil))) [15, 16]))
  (xseq (xifs (xtor (xtnot (xtru (xcall r_is_kind (xcons (xv 7) (xcons (xv 5) xnil))))) (xtnot (xtru (xcall r_is_kind (xcons (xv 9) (xcons (xv 5) xnil)))))) (xret (xc (.bl false))) xnext)
  (xseq (xset 10 (xcall r_w_grown (xcons (xop opMul (xlst (xcons (xc (.int 0)) xnil)) (xcb cbMin2 (xcons (xv 5) (xcons (xv 4) xnil)))) (xcons (xcall r_w_differences (xcons (xv 7) (xcons (xv 5) xnil))) xnil))))
  (xseq (xset 11 (xcall r_w_dot (xcons (xcall r_row_kernel (xcons (xv 6) (xcons (xv 5) xnil))) (xcons (xcall r_w_differences (xcons (xv 7) (xcons (xv 5) xnil))) xnil))))
  (xseq (xifs (xtand (xtest (xop opGe (xv 4) (xv 5))) (xtest (xop opNe (xcall r_row_told (xcons (xv 6) (xcons (xsl slA (xv 10) xnop (xpart (xv 4))) xnil))) (xv 11)))) (xret (xc (.bl false))) xnext)
  (xseq (xifs (xtest (xop opNe (xcall r_row_told (xcons (xv 6) (xcons (xv 9) xnil))) (xcall r_w_plus (xcons (xcall r_row_told (xcons (xv 6) (xcons (xv 7) xnil))) (xcons (xcall r_row_told (xcons (xv 6) (xcons (xv 8) xnil))) xnil))))) (xret (xc (.bl false))) xnext)
  (xseq (xset 12 (xlc (xseqI (xrev (xv 7) (xop opSub (xc (.int 0)) (xc (.int 1))))) (tgn 17) xtyes (xcall r_w_times (xcons (xv 17) (xcons (xtup (xcons (xif (xtest (xop opEq (xop opMod (xv 5) (xc (.int 2))) (xc (.int 1)))) (xop opSub (xc (.int 0)) (xc (.int 1))) (xc (.int 1))) (xcons (xc (.int 1)) xnil))) xnil))) [17]))
  (xseq (xifs (xtnot (xtru (xcall r_is_kind (xcons (xv 12) (xcons (xv 5) xnil))))) (xret (xc (.bl false))) xnext)
  (xseq (xset 13 (xlc (xseqI (xrev (xv 6) (xop opSub (xc (.int 0)) (xc (.int 1))))) (tgn 17) xtyes (xcall r_w_times (xcons (xcall r_w_pair (xcons (xv 17) xnil)) (xcons (xtup (xcons (xif (xtest (xop opEq (xop opMod (xv 5) (xc (.int 2))) (xc (.int 1)))) (xop opSub (xc (.int 0)) (xc (.int 1))) (xc (.int 1))) (xcons (xc (.int 1)) xnil))) xnil))) [17]))
  (xseq (xifs (xtest (xop opNe (xcall r_row_never_below (xcons (xv 13) (xcons (xv 5) xnil))) (xcall r_row_never_below (xcons (xv 6) (xcons (xv 5) xnil))))) (xret (xc (.bl false))) xnext)
  (xseq (xifs (xtand (xtru (xcall r_row_never_below (xcons (xv 6) (xcons (xv 5) xnil)))) (xtest (xop opLt (xop opIx (xcall r_row_told (xcons (xv 6) (xcons (xv 9) xnil))) (xc (.int 0))) (xc (.int 0))))) (xret (xc (.bl false))) xnext)
  (xseq (xset 14 (xcall r_row_refuting (xcons (xv 6) (xcons (xv 5) xnil))))
  (xifs (xtand (xtest (xop opIsNot (xv 14) (xc .non))) (xtest (xop opGe (xop opIx (xcall r_row_told (xcons (xv 6) (xcons (xv 14) xnil))) (xc (.int 0))) (xc (.int 0))))) (xret (xc (.bl false))) xnext)))))))))))))))))))
  (xret (xc (.bl true))))
def r_law : List D → Option R := runF 1 18 b_law
end Bk
/-! Bv1: fractions as data, their size, the divisor's loop. -/
namespace Bk
open PySem L2

/-! ### running combinators -/
theorem outF_rt {r : R} {G : Gam} : outF (some (.rt r, G)) = some r := rfl
theorem runF_eq {k n : Nat} {b : MS} {ds : List D} (h : ds.length = k) : runF k n b ds = outF (b (pad n ds)) := if_pos h
theorem run_ok {k n : Nat} {b : MS} {ds : List D} {r : R} {G : Gam} (hl : ds.length = k) (h : b (pad n ds) = some (.rt r, G)) : runF k n b ds = some r := by
  rw [runF_eq hl, h]
  rfl
theorem runB_ok {k n : Nat} {b : MS} {bs bs' ds : List D} {r : R} {G : Gam} (hl : ds.length + 1 = k) (h : b (.bx bs :: pad (n - 1) ds) = some (.rt r, .bx bs' :: G)) : runB k n b bs ds = some (r, bs') := by
  unfold runB
  rw [if_pos hl, h]
  rfl
theorem xseq_nx {s t : MS} {G G1 : Gam} (h : s G = some (.nx, G1)) : xseq s t G = t G1 := by
  unfold xseq
  rw [h]
theorem xseq_rt {s t : MS} {G G1 : Gam} {r : R} (h : s G = some (.rt r, G1)) : xseq s t G = some (.rt r, G1) := by
  unfold xseq
  rw [h]
theorem xset_ok {i : Nat} {a : M R} {G G1 : Gam} {r : R} (h : a G = some (r, G1)) : xset i a G = some (.nx, G1.set i r.ent) := by
  unfold xset
  rw [h]
  rfl
theorem xset_e {i : Nat} {a : M R} {G G1 G2 : Gam} {r : R} (h : a G = some (r, G1)) (e : G1.set i r.ent = G2) : xset i a G = some (.nx, G2) := e ▸ xset_ok h
theorem xret_ok {a : M R} {G G1 : Gam} {r : R} (h : a G = some (r, G1)) : xret a G = some (.rt r, G1) := by
  unfold xret
  rw [h]
  rfl
theorem xcall_ok {m : List D → Option R} {a : M (List D)} {G G1 : Gam} {xs : List D} {r : R} (h : a G = some (xs, G1)) (hm : m xs = some r) : xcall m a G = some (r, G1) := by
  unfold xcall
  rw [h]
  simp only [bd_some, hm]
theorem xcons_ok {a : M R} {b : M (List D)} {G G1 G2 : Gam} {r : R} {xs : List D} (h : a G = some (r, G1)) (hb : b G1 = some (xs, G2)) : xcons a b G = some (r.d :: xs, G2) := by
  unfold xcons
  rw [h]
  simp only [bd_some, hb]
theorem xnil_ok {G : Gam} : xnil G = some ([], G) := rfl
theorem runF_st {k n : Nat} {b : MS} {ds : List D} {o : Option R} (hl : ds.length = k) (h : outF (b (pad n ds)) = o) : runF k n b ds = o := (runF_eq hl).trans h
theorem st_nx {s t : MS} {G G1 : Gam} {o : Option R} (h : s G = some (.nx, G1)) (k : outF (t G1) = o) : outF (xseq s t G) = o := (congrArg outF (xseq_nx h)).trans k
theorem st_ret {a : M R} {G G1 : Gam} {r : R} (h : a G = some (r, G1)) : outF (xret a G) = some r := congrArg outF (xret_ok h)
theorem runB_st {k n : Nat} {b : MS} {bs ds : List D} {o : Option (R × List D)} (hl : ds.length + 1 = k) (h : outB (b (.bx bs :: pad (n - 1) ds)) = o) : runB k n b bs ds = o := (if_pos hl).trans h
theorem sb_nx {s t : MS} {G G1 : Gam} {o : Option (R × List D)} (h : s G = some (.nx, G1)) (k : outB (t G1) = o) : outB (xseq s t G) = o := (congrArg outB (xseq_nx h)).trans k
theorem sb_rt {s t : MS} {G G1 : Gam} {r : R} {o : Option (R × List D)} (h : s G = some (.rt r, G1)) (k : outB (some (.rt r, G1)) = o) : outB (xseq s t G) = o := (congrArg outB (xseq_rt h)).trans k
theorem st_rt {s t : MS} {G G1 : Gam} {r : R} (h : s G = some (.rt r, G1)) : outF (xseq s t G) = some r := congrArg outF (xseq_rt h)
theorem sb_ret {a : M R} {G G1 : Gam} {r : R} {bs' : List D} (h : a G = some (r, .bx bs' :: G1)) : outB (xret a G) = some (r, bs') := congrArg outB (xret_ok h)
theorem xop_ok {o : D → D → Option R} {a b : M R} {G G1 G2 : Gam} {x y r : R} (ha : a G = some (x, G1)) (hb : b G1 = some (y, G2)) (h : o x.d y.d = some r) : xop o a b G = some (r, G2) := by
  unfold xop
  rw [ha]
  simp only [bd_some, hb, h]
theorem xc1 {a : M R} {b : M (List D)} {G G1 G2 : Gam} {d : D} {xs : List D} (h : a G = some (.im d, G1)) (hb : b G1 = some (xs, G2)) : xcons a b G = some (d :: xs, G2) := xcons_ok h hb
theorem xcw {a : M R} {b : M (List D)} {G G1 G2 : Gam} {ds : List D} {xs : List D} (h : a G = some (.ow ds, G1)) (hb : b G1 = some (xs, G2)) : xcons a b G = some (.lst ds :: xs, G2) := xcons_ok h hb
theorem xo2 {o : D → D → Option R} {a b : M R} {G G1 G2 : Gam} {x y : D} {r : R} (ha : a G = some (.im x, G1)) (hb : b G1 = some (.im y, G2)) (h : o x y = some r) : xop o a b G = some (r, G2) := xop_ok ha hb h
theorem xlst_ok {a : M (List D)} {G G1 : Gam} {xs : List D} (h : a G = some (xs, G1)) (hf : few xs.length = true) : xlst a G = some (.ow xs, G1) := by
  unfold xlst
  rw [h]
  simp only [bd_some, hf]
  rfl
theorem xcallB_ok {m : List D → List D → Option (R × List D)} {i : Nat} {a : M (List D)} {G G1 G2 : Gam} {xs bs bs' : List D} {e : Ent} {r : R} (h0 : isMu G i = true) (h : a G = some (xs, G1)) (hi : G1[i]? = some e) (he : e.mu = some bs) (hm : m bs xs = some (r, bs')) (e2 : G1.set i (e.with bs') = G2) : xcallB m i a G = some (r, G2) := by
  unfold xcallB
  rw [if_pos h0, h]
  simp only [bd_some]
  unfold callB
  simp only [hi, he, hm, e2]
theorem xapp_ok {i : Nat} {a : M R} {G G1 G2 : Gam} {r : R} {bs : List D} {e : Ent} (h0 : isMu G i = true) (h : a G = some (r, G1)) (hi : G1[i]? = some e) (he : e.mu = some bs) (hf : bs.length ≤ 100000) (e2 : G1.set i (e.with (bs ++ [r.d])) = G2) : xapp i a G = some (.nx, G2) := by
  unfold xapp
  rw [if_pos h0, h]
  simp only [bd_some]
  unfold app
  simp only [hi, he]
  rw [if_pos (show few bs.length = true from decide_eq_true hf), e2]
theorem xif_ok {t : M Bool} {a b : M R} {G G1 : Gam} {k : Bool} (h : t G = some (k, G1)) : xif t a b G = if k then a G1 else b G1 := by
  unfold xif
  rw [h]
  rfl
theorem xvand_t {a b : M R} {G G1 : Gam} {o : Option (R × Gam)} (h : a G = some (.im (.bl true), G1)) (h2 : b G1 = o) : xvand a b G = o := by
  unfold xvand
  rw [h]
  exact h2
theorem xvand_f {a b : M R} {G G1 : Gam} (h : a G = some (.im (.bl false), G1)) : xvand a b G = some (.im (.bl false), G1) := by
  unfold xvand
  rw [h]
  rfl
theorem xtest_ok {a : M R} {G G1 : Gam} {k : Bool} (h : a G = some (.im (.bl k), G1)) : xtest a G = some (k, G1) := by
  unfold xtest
  rw [h]
  rfl
theorem atI_ok {α : Type} {xs : List α} {i : Int} (h : 0 ≤ i) (h1 : i < xs.length) : ∃ x, atI xs i = some x ∧ x ∈ xs := by
  have h2 : i.toNat < xs.length := by omega
  refine ⟨xs[i.toNat], ?_, List.getElem_mem h2⟩
  unfold atI ixN
  rw [if_pos h, if_pos h1]
  exact List.getElem?_eq_getElem h2
theorem xcb_ok {o : List D → Option R} {a : M (List D)} {G G1 : Gam} {xs : List D} {r : R} (h : a G = some (xs, G1)) (ho : o xs = some r) : xcb o a G = some (r, G1) := by
  unfold xcb
  rw [h]
  simp only [bd_some, ho]
theorem xtup_ok {a : M (List D)} {G G1 : Gam} {xs : List D} (h : a G = some (xs, G1)) (hf : few xs.length = true) : xtup a G = some (.im (.tup xs), G1) := by
  unfold xtup
  rw [h]
  simp only [bd_some, hf]
  rfl
theorem xifs_ok {t : M Bool} {a b : MS} {G G1 : Gam} {k : Bool} (h : t G = some (k, G1)) : xifs t a b G = if k then a G1 else b G1 := by
  unfold xifs
  rw [h]
  rfl
theorem xforL_nx {tg : D → Gam → Option Gam} {b : MS} {d : D} {ds : List D} {G G1 G2 : Gam} (h1 : tg d G = some G1) (h2 : b G1 = some (.nx, G2)) : xforL tg b (d :: ds) G = xforL tg b ds G2 := by
  conv => lhs; unfold xforL
  rw [h1]
  simp only [h2]
/-- a loop whose turns keep a word -/
theorem xforL_inv {tg : D → Gam → Option Gam} {b : MS} (Inv : Gam → Prop) : ∀ {ds : List D} {G : Gam}, Inv G → (∀ d ∈ ds, ∀ G, Inv G → ∃ G1 G2, tg d G = some G1 ∧ (b G1 = some (.nx, G2) ∨ b G1 = some (.ct, G2)) ∧ Inv G2) →
    ∃ G', xforL tg b ds G = some (.nx, G') ∧ Inv G'
  | [], G, h, _ => ⟨G, rfl, h⟩
  | d :: ds, G, h, step => by
    obtain ⟨G1, G2, h1, h2, h3⟩ := step d List.mem_cons_self G h
    obtain ⟨G', h4, h5⟩ := xforL_inv Inv h3 fun e he => step e (List.mem_cons_of_mem _ he)
    refine ⟨G', ?_, h5⟩
    unfold xforL
    rw [h1]
    rcases h2 with h2 | h2
    · simp only [h2]; exact h4
    · simp only [h2]; exact h4
/-- a loop that reckons: the turn with each item -/
theorem xforL_fold {α : Type} {tg : D → Gam → Option Gam} {b : MS} (St : α → Gam → Prop) (f : α → D → α) : ∀ {ds : List D} {a : α} {G : Gam}, St a G → (∀ d ∈ ds, ∀ a G, St a G → ∃ G1 G2, tg d G = some G1 ∧ b G1 = some (.nx, G2) ∧ St (f a d) G2) →
    ∃ G', xforL tg b ds G = some (.nx, G') ∧ St (ds.foldl f a) G'
  | [], a, G, h, _ => ⟨G, rfl, h⟩
  | d :: ds, a, G, h, step => by
    obtain ⟨G1, G2, h1, h2, h3⟩ := step d List.mem_cons_self a G h
    obtain ⟨G', h4, h5⟩ := xforL_fold St f h3 fun e he => step e (List.mem_cons_of_mem _ he)
    refine ⟨G', ?_, h5⟩
    unfold xforL
    rw [h1]
    simp only [h2]
    exact h4
/-- a loop with a count -/
theorem xforL_cnt {tg : D → Gam → Option Gam} {b : MS} (St : Nat → Gam → Prop) (N : Nat) : ∀ {ds : List D} {n : Nat} {G : Gam}, St n G → (∀ d ∈ ds, ∀ n G, n < N → St n G → ∃ G1 G2, tg d G = some G1 ∧ b G1 = some (.nx, G2) ∧ St (n + 1) G2) → n + ds.length ≤ N →
    ∃ G', xforL tg b ds G = some (.nx, G') ∧ St (n + ds.length) G'
  | [], n, G, h, _, _ => ⟨G, rfl, h⟩
  | d :: ds, n, G, h, step, hn => by
    rw [List.length_cons] at hn
    obtain ⟨G1, G2, h1, h2, h3⟩ := step d List.mem_cons_self n G (by omega) h
    obtain ⟨G', h4, h5⟩ := xforL_cnt St N h3 (fun e he => step e (List.mem_cons_of_mem _ he)) (by omega)
    refine ⟨G', (xforL_nx h1 h2).trans h4, ?_⟩
    rw [List.length_cons]
    have : n + (ds.length + 1) = n + 1 + ds.length := by omega
    rw [this]
    exact h5
/-- a comprehension without a test, whose turns change nothing else -/
theorem xlcL_map {tg : D → Gam → Option Gam} {e : M R} {vs : List Nat} {G : Gam} (f : D → D) : ∀ {ds : List D}, (∀ d ∈ ds, ∃ G1 r G2, tg d G = some G1 ∧ e G1 = some (r, G2) ∧ r.d = f d ∧ wipeG G2 vs = G) → xlcL tg xtyes e vs ds G = some (ds.map f, G)
  | [], _ => rfl
  | d :: ds, h => by
    obtain ⟨G1, r, G2, h1, h2, h3, h4⟩ := h d List.mem_cons_self
    unfold xlcL
    rw [h1]
    simp only [xtyes, bd_some, h2, h4]
    rw [if_pos True.intro, xlcL_map f fun e he => h e (List.mem_cons_of_mem _ he)]
    simp only [bd_some, h3, List.map_cons]
/-- a comprehension without a test, whose first turn may settle the names -/
theorem xlcL_map2 {tg : D → Gam → Option Gam} {e : M R} {vs : List Nat} {G0 G : Gam} (f : D → D) {ds : List D} (h0 : ∀ d ∈ ds, ∃ G1 r G2, tg d G0 = some G1 ∧ e G1 = some (r, G2) ∧ r.d = f d ∧ wipeG G2 vs = G)
    (h : ∀ d ∈ ds, ∃ G1 r G2, tg d G = some G1 ∧ e G1 = some (r, G2) ∧ r.d = f d ∧ wipeG G2 vs = G) : ∃ G', (G' = G0 ∨ G' = G) ∧ xlcL tg xtyes e vs ds G0 = some (ds.map f, G') := by
  cases ds with
  | nil => exact ⟨G0, .inl rfl, rfl⟩
  | cons d ds =>
    obtain ⟨G1, r, G2, h1, h2, h3, h4⟩ := h0 d List.mem_cons_self
    refine ⟨G, .inr rfl, ?_⟩
    unfold xlcL
    rw [h1]
    simp only [xtyes, bd_some, h2, h4]
    rw [if_pos True.intro, xlcL_map f fun e he => h e (List.mem_cons_of_mem _ he)]
    simp only [bd_some, h3, List.map_cons]
theorem rng_mem {lo : Int} {n : Nat} {d : D} (h : d ∈ rng lo n) : ∃ i : Nat, i < n ∧ d = .int (lo + (i : Int)) := by
  obtain ⟨i, hi, rfl⟩ := List.mem_map.mp h
  exact ⟨i, List.mem_range.mp hi, rfl⟩
theorem rng_ln {lo : Int} {n : Nat} : (rng lo n).length = n := by simp [rng]
theorem okR_of {m : Int} (h : -1000000 < m) (h1 : m < 1000000) : okR m = true := by
  unfold okR
  rw [Bool.and_eq_true]
  exact ⟨decide_eq_true (by omega), decide_eq_true (by omega)⟩
theorem xlc_ok {it : M (List D)} {tg : D → Gam → Option Gam} {t : M Bool} {e : M R} {vs : List Nat} {G G1 G2 : Gam} {ds out : List D} (h1 : it G = some (ds, G1)) (h2 : noMu G1 vs = true) (h3 : xlcL tg t e vs ds (wipeG G1 vs) = some (out, G2)) (h4 : few out.length = true) :
    xlc it tg t e vs G = some (.ow out, unw G1 G2 vs) := by
  unfold xlc
  rw [h1]
  simp only [bd_some]
  rw [if_pos h2, h3]
  simp only [bd_some, h4]
  rfl

theorem o_mul {i j : Int} (h : okMul i j = true) : opMul (.int i) (.int j) = some (.im (.int (i * j))) := if_pos h
theorem o_div {i j : Int} (h : okDiv j = true) : opFdiv (.int i) (.int j) = some (.im (.int (i.fdiv j))) := if_pos h
theorem o_mod {i j : Int} (h : j ≠ 0) : opMod (.int i) (.int j) = some (.im (.int (i.fmod j))) := if_pos (decide_eq_true h)
theorem o_pow {i j : Int} (h : okPow i j = true) : opPow (.int i) (.int j) = some (.im (.int (i ^ j.toNat))) := if_pos h
/-! ### sizes -/
def Sm (i : Int) (k : Nat) : Prop := i.natAbs < 2 ^ k
theorem Sm.up {i : Int} {k l : Nat} (h : Sm i k) (hk : k ≤ l) : Sm i l := Nat.lt_of_lt_of_le h (Nat.pow_le_pow_right (by decide) hk)
theorem Sm.mul {i j : Int} {k l : Nat} (h : Sm i k) (h' : Sm j l) : Sm (i * j) (k + l) := by
  unfold Sm
  rw [Int.natAbs_mul, Nat.pow_add]
  exact Nat.mul_lt_mul'' h h'
theorem Sm.add {i j : Int} {k : Nat} (h : Sm i k) (h' : Sm j k) : Sm (i + j) (k + 1) := by
  unfold Sm at *
  rw [Nat.pow_succ]
  have := Int.natAbs_add_le i j
  omega
theorem Sm.sub {i j : Int} {k : Nat} (h : Sm i k) (h' : Sm j k) : Sm (i - j) (k + 1) := by
  unfold Sm at *
  rw [Nat.pow_succ]
  have := Int.natAbs_sub_le i j
  omega
theorem Sm.log {i : Int} {k : Nat} (h : Sm i k) (hk : 0 < k) : i.natAbs.log2 < k := by
  by_cases z : i.natAbs = 0
  · rw [z]; exact hk
  · exact (Nat.log2_lt z).mpr h
theorem Sm.okMul {i j : Int} {k l : Nat} (h : Sm i k) (h' : Sm j l) (hk : k + l ≤ 900000) : okMul i j = true := by
  have h1 := (h.up (Nat.le_succ k)).log (Nat.succ_pos k)
  have h2 := (h'.up (Nat.le_succ l)).log (Nat.succ_pos l)
  unfold Bk.okMul
  exact decide_eq_true (by omega)
theorem Sm.okDiv {i : Int} {k : Nat} (h : Sm i k) (h0 : i ≠ 0) (hk : k < 9000) : okDiv i = true := by
  have h1 := (h.up (Nat.le_succ k)).log (Nat.succ_pos k)
  unfold Bk.okDiv
  rw [Bool.and_eq_true]
  exact ⟨decide_eq_true h0, decide_eq_true (by omega)⟩

/-! ### the divisor's loop -/
theorem div_loop (c : M Bool) (b : MS) (hc : ∀ x y : Nat, c [.im (.int x), .im (.int y)] = some (!decide ((y : Int) = 0), [.im (.int x), .im (.int y)]))
    (hb : ∀ x y : Nat, 0 < y → b [.im (.int x), .im (.int y)] = some (.nx, [.im (.int y), .im (.int ((x % y : Nat) : Int))])) :
    ∀ (n x y : Nat), y < n → xwhileN c b n [.im (.int x), .im (.int y)] = some (.nx, [.im (.int (Nat.gcd x y : Nat)), .im (.int 0)])
  | 0, _, _, h => absurd h (Nat.not_lt_zero _)
  | n + 1, x, y, h => by
    unfold xwhileN
    rw [hc]
    simp only [bd_some]
    by_cases z : y = 0
    · subst z
      simp
    · have z' : ¬ (y : Int) = 0 := by omega
      rw [decide_eq_false z']
      rw [hb x y (by omega)]
      simp only [Bool.not_false, if_true]
      have hl : x % y < y := Nat.mod_lt _ (by omega)
      rw [div_loop c b hc hb n y (x % y) (by omega), Nat.gcd_comm x y, Nat.gcd_rec y x, Nat.gcd_comm]
theorem abs_nat (i : Int) : (if i < 0 then -i else i) = (i.natAbs : Int) := by
  split <;> omega
theorem fmod_nat (x y : Nat) : (x : Int).fmod (y : Int) = ((x % y : Nat) : Int) := by
  rw [Int.fmod_eq_emod_of_nonneg _ (Int.natCast_nonneg y)]
  rfl

/-! ### fractions -/
def vq (q : Rat) : D := .tup [.int q.num, .int (q.den : Int)]
/-- numerator and denominator -/
def Ht (q : Rat) (k : Nat) : Prop := Sm q.num k ∧ Sm (q.den : Int) k
theorem Ht.up {q : Rat} {k l : Nat} (h : Ht q k) (hk : k ≤ l) : Ht q l := ⟨h.1.up hk, h.2.up hk⟩
theorem sm_div {n g : Int} {k : Nat} (h : Sm n k) : Sm (n / g) k ∨ True := .inr trivial
theorem natAbs_ediv_le {n g : Int} (hd : g ∣ n) : (n / g).natAbs ≤ n.natAbs := by
  obtain ⟨c, rfl⟩ := hd
  by_cases z : g = 0
  · subst z; simp
  · rw [Int.mul_ediv_cancel_left c z, Int.natAbs_mul]
    exact Nat.le_mul_of_pos_left _ (by omega)
theorem ht_divInt {n d : Int} {k : Nat} (hd : d ≠ 0) (hn : Sm n k) (hk : Sm d k) : Ht (Rat.divInt n d) k := by
  constructor
  · rw [Rat.num_divInt]
    refine Nat.lt_of_le_of_lt (natAbs_ediv_le ?_) ?_
    · exact Int.dvd_trans (Int.gcd_dvd_right d n) (Int.dvd_mul_left _ _)
    · rw [Int.natAbs_mul]
      have : d.sign.natAbs = 1 := by
        rcases Int.lt_or_gt_of_ne hd with h | h
        · rw [Int.sign_eq_neg_one_of_neg h]; rfl
        · rw [Int.sign_eq_one_of_pos h]; rfl
      rw [this, Nat.one_mul]
      exact hn
  · rw [Rat.den_divInt, if_neg hd]
    unfold Sm at *
    rw [Int.natAbs_natCast]
    exact Nat.lt_of_le_of_lt (Nat.div_le_self _ _) hk
/-- what lowest reckons -/
theorem low_num {n d : Int} (hd : d ≠ 0) : n.fdiv (if d < 0 then -((Nat.gcd n.natAbs d.natAbs : Nat) : Int) else ((Nat.gcd n.natAbs d.natAbs : Nat) : Int)) = (Rat.divInt n d).num := by
  have e : (Nat.gcd n.natAbs d.natAbs) = d.gcd n := by rw [Nat.gcd_comm]; rfl
  have hdv : ((d.gcd n : Nat) : Int) ∣ n := Int.gcd_dvd_right d n
  rw [Rat.num_divInt, e]
  split
  · rename_i h
    rw [Int.fdiv_eq_ediv_of_dvd (Int.neg_dvd.mpr hdv), Int.sign_eq_neg_one_of_neg h, Int.ediv_neg, Int.neg_mul, Int.one_mul, Int.neg_ediv_of_dvd hdv]
  · rename_i h
    have h : 0 < d := by omega
    rw [Int.fdiv_eq_ediv_of_dvd hdv, Int.sign_eq_one_of_pos h, Int.one_mul]
theorem low_den {n d : Int} (hd : d ≠ 0) : d.fdiv (if d < 0 then -((Nat.gcd n.natAbs d.natAbs : Nat) : Int) else ((Nat.gcd n.natAbs d.natAbs : Nat) : Int)) = ((Rat.divInt n d).den : Int) := by
  have e : (Nat.gcd n.natAbs d.natAbs) = d.gcd n := by rw [Nat.gcd_comm]; rfl
  have hdv : ((d.gcd n : Nat) : Int) ∣ d := Int.gcd_dvd_left d n
  rw [Rat.den_divInt, if_neg hd, e, Int.natCast_ediv]
  split
  · rename_i h
    rw [Int.fdiv_eq_ediv_of_dvd (Int.neg_dvd.mpr hdv), Int.ediv_neg, ← Int.neg_ediv_of_dvd hdv]
    congr 1
    omega
  · rename_i h
    rw [Int.fdiv_eq_ediv_of_dvd hdv]
    congr 1
    omega
theorem divInt_self (q : Rat) : Rat.divInt q.num (q.den : Int) = q := by
  rw [Rat.divInt_ofNat]
  exact Rat.mkRat_self q
theorem den_ne (q : Rat) : (q.den : Int) ≠ 0 := by
  have := q.den_nz
  omega
theorem add_divInt (a b : Rat) : Rat.divInt (a.num * b.den + b.num * a.den) (a.den * b.den) = a + b := by
  rw [← Rat.divInt_add_divInt _ _ (den_ne a) (den_ne b), divInt_self, divInt_self]
theorem mul_divInt (a b : Rat) : Rat.divInt (a.num * b.num) (a.den * b.den) = a * b := by
  rw [← Rat.divInt_mul_divInt, divInt_self, divInt_self]
theorem sub_divInt (a b : Rat) : Rat.divInt (a.num * b.den - b.num * a.den) (a.den * b.den) = a - b := by
  rw [← Rat.divInt_sub_divInt _ _ (den_ne a) (den_ne b), divInt_self, divInt_self]
theorem Ht.mul {a b : Rat} {k l : Nat} (h : Ht a k) (h' : Ht b l) : Ht (a * b) (k + l) := by
  rw [← mul_divInt]
  exact ht_divInt (Int.mul_ne_zero (den_ne a) (den_ne b)) (h.1.mul h'.1) (h.2.mul h'.2)
theorem Ht.add {a b : Rat} {k l : Nat} (h : Ht a k) (h' : Ht b l) : Ht (a + b) (k + l + 1) := by
  rw [← add_divInt]
  have h1 := h.1.mul h'.2
  have h2 := h'.1.mul h.2
  rw [Nat.add_comm l k] at h2
  exact ht_divInt (Int.mul_ne_zero (den_ne a) (den_ne b)) (h1.add h2) ((h.2.mul h'.2).up (Nat.le_succ _))
theorem Ht.sub {a b : Rat} {k l : Nat} (h : Ht a k) (h' : Ht b l) : Ht (a - b) (k + l + 1) := by
  rw [← sub_divInt]
  have h1 := h.1.mul h'.2
  have h2 := h'.1.mul h.2
  rw [Nat.add_comm l k] at h2
  exact ht_divInt (Int.mul_ne_zero (den_ne a) (den_ne b)) (h1.sub h2) ((h.2.mul h'.2).up (Nat.le_succ _))
theorem Ht.int {i : Int} {k : Nat} (h : Sm i k) (hk : 0 < k) : Ht (i : Rat) k := ⟨h, by
  show (1 : Int).natAbs < 2 ^ k
  exact Nat.one_lt_two_pow (by omega)⟩
/-- a number or a pair -/
def IsV (d : D) (q : Rat) : Prop := (∃ i : Int, d = .int i ∧ q = (i : Rat)) ∨ d = vq q
end Bk
/-! Bv2: rows of values. -/
namespace Bk
open PySem L2
theorem xfor_ok {it : M (List D)} {tg : D → Gam → Option Gam} {b : MS} {G G1 : Gam} {ds : List D} {o : Option (Fl × Gam)} (h : it G = some (ds, G1)) (h2 : xforL tg b ds G1 = o) : xfor it tg b G = o := by
  unfold xfor
  rw [h]
  exact h2
theorem xseqI_ok {a : M R} {G G1 : Gam} {d : D} {ds : List D} (h : a G = some (.im d, G1)) (hd : seqD d = some ds) : xseqI a G = some (ds, G1) := by
  unfold xseqI
  rw [h]
  simp only [bd_some, R.d, hd]
theorem xzip_ok {a : M (List D)} {G G1 : Gam} {x y : D} {ds es : List D} (h : a G = some ([x, y], G1)) (h1 : seqD x = some ds) (h2 : seqD y = some es) : xzipA a G = some ((ds.zip es).map fun p => .tup [p.1, p.2], G1) := by
  unfold xzipA
  rw [h]
  simp only [bd_some, h1, h2]
theorem xrange1_ok {a : M (List D)} {G G1 : Gam} {n : Int} (h : a G = some ([.int n], G1)) (h1 : okR n = true) : xrange1 a G = some (rng 0 n.toNat, G1) := by
  unfold xrange1
  rw [h]
  simp only [bd_some]
  rw [if_pos h1]
theorem xrange2_ok {a : M (List D)} {G G1 : Gam} {l n : Int} (h : a G = some ([.int l, .int n], G1)) (h1 : okR l = true) (h2 : okR n = true) : xrange2 a G = some (rng l (n - l).toNat, G1) := by
  unfold xrange2
  rw [h]
  simp only [bd_some]
  rw [if_pos (by rw [h1, h2]; rfl)]
def valQ : D → Rat
  | .int i => (i : Rat)
  | .tup [.int n, .int d] => Rat.divInt n d
  | _ => 0
theorem valQ_vq (q : Rat) : valQ (vq q) = q := divInt_self q
theorem valQ_int (i : Int) : valQ (.int i) = (i : Rat) := rfl
def IsV1 (d : D) : Prop := (∃ i, d = .int i) ∨ ∃ q, d = vq q
theorem IsV1.isV {d : D} (h : IsV1 d) : IsV d (valQ d) := by
  rcases h with ⟨i, rfl⟩ | ⟨q, rfl⟩
  · exact .inl ⟨i, rfl, rfl⟩
  · rw [valQ_vq]; exact .inr rfl
def sumQ (qs : List Rat) : Rat := qs.foldl (· + ·) 0
def dotQ (as bs : List D) : Rat := sumQ ((as.zip bs).map fun p => valQ p.1 * valQ p.2)
theorem ht0 : Ht 0 1 := by
  constructor
  · show (0 : Int).natAbs < 2 ^ 1; decide
  · show (1 : Int).natAbs < 2 ^ 1; decide
theorem foldl_ht {k : Nat} : ∀ (qs : List Rat) (a : Rat) (l : Nat), Ht a l → (∀ q ∈ qs, Ht q k) → Ht (qs.foldl (· + ·) a) (l + qs.length * (k + 1))
  | [], a, l, h, _ => by simpa using h
  | q :: qs, a, l, h, hq => by
    have h1 := foldl_ht qs (a + q) (l + k + 1) (h.add (hq q List.mem_cons_self)) fun r hr => hq r (List.mem_cons_of_mem _ hr)
    rw [List.foldl_cons]
    refine h1.up ?_
    rw [List.length_cons, Nat.add_mul]
    omega
theorem sumQ_ht {k : Nat} {qs : List Rat} (hq : ∀ q ∈ qs, Ht q k) : Ht (sumQ qs) (1 + qs.length * (k + 1)) := foldl_ht qs 0 1 ht0 hq
abbrev AddOk (m : List D → Option R) : Prop := ∀ (a b : Rat) (k l : Nat), Ht a k → Ht b l → k + l < 8990 → m [vq a, vq b] = some (.im (vq (a + b)))
theorem sum_loop {m : List D → Option R} (hm : AddOk m) {x0 : Ent} {k : Nat} : ∀ (qs : List Rat) (a : Rat) (l : Nat) (e : Ent), Ht a l → (∀ q ∈ qs, Ht q k) → l + qs.length * (k + 1) + k < 8990 →
    ∃ e', xforL (tgn 2) (xset 1 (xcall m (xcons (xv 1) (xcons (xv 2) xnil)))) (qs.map vq) [x0, .im (vq a), e] = some (.nx, [x0, .im (vq (qs.foldl (· + ·) a)), e'])
  | [], a, l, e, _, _, _ => ⟨e, rfl⟩
  | q :: qs, a, l, e, h, hq, h9 => by
    have hq0 := hq q List.mem_cons_self
    rw [List.length_cons, Nat.add_mul] at h9
    obtain ⟨e', h1⟩ := sum_loop hm qs (a + q) (l + k + 1) (.im (vq q)) (h.add hq0) (fun r hr => hq r (List.mem_cons_of_mem _ hr)) (by omega)
    refine ⟨e', ?_⟩
    rw [List.map_cons, List.foldl_cons, ← h1]
    exact xforL_nx rfl (xset_e (xcall_ok (xc1 rfl (xc1 rfl xnil_ok)) (hm a q l k h hq0 (by omega))) rfl)
/-- two rows, item by item, a value made of each two -/
def f2 (g : Rat → Rat → Rat) : D → D
  | .tup [x, y] => vq (g (valQ x) (valQ y))
  | d => d
theorem zip_f2 (g : Rat → Rat → Rat) (as bs : List D) : ((as.zip bs).map fun p => D.tup [p.1, p.2]).map (f2 g) = ((as.zip bs).map fun p => g (valQ p.1) (valQ p.2)).map vq := by
  rw [List.map_map, List.map_map]
  rfl
theorem zip_val (as bs : List D) : ((as.map fun x => vq (valQ x)).zip (bs.map fun x => vq (valQ x))).map (fun p => valQ p.1 * valQ p.2) = (as.zip bs).map fun p => valQ p.1 * valQ p.2 := by
  rw [List.zip_map, List.map_map]
  apply List.map_congr_left
  intro p _
  show valQ (vq (valQ p.1)) * valQ (vq (valQ p.2)) = _
  rw [valQ_vq, valQ_vq]
theorem zip_len (as bs : List D) : ((as.zip bs).map fun p => valQ p.1 * valQ p.2).length ≤ as.length := by
  rw [List.length_map, List.length_zip]
  omega
theorem dot_ht {as bs : List D} {k l : Nat} (ha : ∀ a ∈ as, Ht (valQ a) k) (hb : ∀ b ∈ bs, Ht (valQ b) l) : ∀ q ∈ (as.zip bs).map (fun p => valQ p.1 * valQ p.2), Ht q (k + l) := fun q hq => by
  obtain ⟨p, hp, rfl⟩ := List.mem_map.mp hq
  obtain ⟨h1, h2⟩ := List.of_mem_zip hp
  exact (ha _ h1).mul (hb _ h2)
theorem few_le {n : Nat} (h : n ≤ 100000) : few n = true := decide_eq_true h
def isVb : D → Bool
  | .int _ => true
  | .tup [.int n, .int d] => decide (0 < d) && decide (Nat.gcd n.natAbs d.natAbs = 1)
  | _ => false
theorem isVb_ok {d : D} (h : isVb d = true) : IsV1 d := by
  unfold isVb at h
  split at h
  · exact .inl ⟨_, rfl⟩
  · rename_i n k
    rw [Bool.and_eq_true] at h
    have h1 := of_decide_eq_true h.1
    have h2 := of_decide_eq_true h.2
    refine .inr ⟨⟨n, k.toNat, by omega, ?_⟩, ?_⟩
    · have : k.toNat = k.natAbs := by omega
      rw [this]; exact h2
    · show D.tup [.int n, .int k] = .tup [.int n, .int ((k.toNat : Nat) : Int)]
      rw [Int.toNat_of_nonneg (by omega)]
  · cases h
def smb (k : Nat) (d : D) : Bool := decide ((valQ d).num.natAbs < 2 ^ k) && decide (((valQ d).den : Int).natAbs < 2 ^ k)
theorem smb_ok {k : Nat} {d : D} (h : smb k d = true) : Ht (valQ d) k := by
  unfold smb at h
  rw [Bool.and_eq_true] at h
  exact ⟨by simpa [Sm] using h.1, by simpa [Sm] using h.2⟩

/-! ### the shown text of a row of values -/
def pyq (q : Rat) : PyData := .tuple [.int q.num, .int (q.den : Int)]
theorem toPys_vq : ∀ qs : List Rat, toPys (qs.map vq) = some (qs.map pyq)
  | [] => rfl
  | q :: qs => by
    rw [List.map_cons, toPys, toPys_vq qs]
    rfl
theorem leaf_short {i : Int} {k : Nat} (h : Sm i k) (hk : 0 < k) : PyData.leavesShort (k + 1) (.int i) = true := by
  have := int_text_length_le hk (h.log hk)
  rw [PyData.leavesShort]
  refine decide_eq_true ?_
  show (Str.ofString (toString i)).length ≤ k + 1
  rw [ofString_length]
  exact this
theorem weight_int {i : Int} {k : Nat} (h : Sm i k) (hk : 0 < k) : PyData.weight (.int i) ≤ k := by
  have := h.log hk
  rw [PyData.weight]
  split <;> omega
theorem pyq_ok {k : Nat} (hk : 8 ≤ k) (h9 : k < 1900) : ∀ {qs : List Rat}, (∀ q ∈ qs, Ht q k) → PyData.leavesShortAll (k + 1) (qs.map pyq) = true ∧ PyData.weightAll (qs.map pyq) ≤ qs.length * (2 * k + 3) ∧ PyData.showableAll (qs.map pyq) = true ∧ PyData.depthAll (qs.map pyq) ≤ 1 ∧ PyData.hasDictAll (qs.map pyq) = false ∧ PyData.canLayAll0 (qs.map pyq) = true
  | [], _ => ⟨rfl, by simp [PyData.weightAll], rfl, by simp [PyData.depthAll], rfl, rfl⟩
  | q :: qs, h => by
    obtain ⟨h1, h2, h3, h4, h5, h6⟩ := pyq_ok hk h9 fun r hr => h r (List.mem_cons_of_mem _ hr)
    have hq := h q List.mem_cons_self
    have a1 := leaf_short hq.1 (by omega)
    have a2 := leaf_short hq.2 (by omega)
    have b1 := weight_int hq.1 (by omega)
    have b2 := weight_int hq.2 (by omega)
    have c1 := hq.1.log (by omega)
    have c2 := hq.2.log (by omega)
    refine ⟨?_, ?_, ?_, ?_, ?_, ?_⟩
    · simp [pyq, PyData.leavesShortAll, PyData.leavesShort, h1] at a1 a2 ⊢
      exact ⟨a1, a2⟩
    · rw [List.map_cons, List.length_cons, Nat.add_mul]
      simp only [pyq, PyData.weightAll]
      rw [PyData.weight]
      simp only [PyData.weightAll]
      omega
    · simp [pyq, PyData.showableAll, PyData.showable, h3] at c1 c2 ⊢
      omega
    · simp only [List.map_cons, pyq, PyData.depthAll, PyData.depth]
      omega
    · simp [pyq, PyData.hasDictAll, PyData.hasDict, h5]
    · simp [pyq, PyData.canLayAll0, PyData.canLay0, h6]
theorem show_qs {k : Nat} (hk : 8 ≤ k) (h9 : k < 1900) {qs : List Rat} (h : ∀ q ∈ qs, Ht q k) (hw : (k + 3) * (qs.length * (2 * k + 3) + 1) + k + 1 ≤ 16777216) : okShow (.tuple (qs.map pyq)) = true := by
  obtain ⟨h1, h2, h3, h4, h5, h6⟩ := pyq_ok hk h9 h
  have hl := PyData.shown_le (k + 1) (by omega) (.tuple (qs.map pyq)) (by rw [PyData.leavesShort]; exact h1)
  rw [PyData.weight] at hl
  have hm : (k + 1 + 2) * PyData.weightAll (qs.map pyq) ≤ (k + 3) * (qs.length * (2 * k + 3) + 1) := Nat.mul_le_mul (Nat.le_refl _) (by omega)
  unfold okShow
  rw [Bool.and_eq_true, Bool.and_eq_true, Bool.and_eq_true]
  refine ⟨⟨⟨?_, decide_eq_true ?_⟩, decide_eq_true ?_⟩, decide_eq_true ?_⟩
  · rw [PyData.showable]; exact h3
  · rw [PyData.depth]; omega
  · rw [PyData.hasDict]; exact h5
  · show _ ≤ 16777216
    omega
theorem eq_qs {k : Nat} (hk : 8 ≤ k) (h9 : k < 1900) {qs : List Rat} (h : ∀ q ∈ qs, Ht q k) : eqD (.tup (qs.map vq)) (.tup (qs.map vq)) = some true := by
  obtain ⟨h1, h2, h3, h4, h5, h6⟩ := pyq_ok hk h9 h
  have e : toPy (.tup (qs.map vq)) = some (.tuple (qs.map pyq)) := by
    rw [toPy, toPys_vq]
    rfl
  have s : SeqAt.shaped (.tuple (qs.map pyq)) = true := by
    unfold SeqAt.shaped
    rw [Bool.and_eq_true]
    refine ⟨by rw [PyData.canLay0]; exact h6, decide_eq_true ?_⟩
    rw [PyData.depth]
    omega
  unfold eqD
  simp only [e, s, Bool.and_self, if_true]
  rw [SeqAt.eqv_refl _ (SeqAt.canLay_of_shaped s)]
theorem repr_qs {k : Nat} (hk : 8 ≤ k) (h9 : k < 1900) {qs : List Rat} (h : ∀ q ∈ qs, Ht q k) (hw : (k + 3) * (qs.length * (2 * k + 3) + 1) + k + 1 ≤ 16777216) : cbRepr [.tup (qs.map vq)] = some (.im (.str (PyData.shown (.tuple (qs.map pyq))))) := by
  have e : toPy (.tup (qs.map vq)) = some (.tuple (qs.map pyq)) := by
    rw [toPy, toPys_vq]
    rfl
  unfold cbRepr
  simp only [e]
  rw [if_pos (show_qs hk h9 h hw)]
theorem eq_str (x : PySem.Str) : opNe (.str x) (.str x) = some (.im (.bl false)) := by
  unfold opNe eqD
  simp
/-! ### draws -/
def Bx (bs : List D) : Prop := ∃ g r : Int, bs = [.int g, .int r] ∧ 0 ≤ r ∧ r < 4294967296
theorem fmod_lt (a : Int) {b : Int} (h : 0 < b) : 0 ≤ a.fmod b ∧ a.fmod b < b := ⟨Int.fmod_nonneg_of_pos a h, Int.fmod_lt_of_pos a h⟩
theorem sm_of {i : Int} (k : Nat) (h : i.natAbs < 2 ^ k) : Sm i k := h
def Ln (k : Nat) (out : List D) : Prop := ∀ x ∈ out, IsV1 x ∧ Ht (valQ x) k
theorem Ln.nil {k : Nat} : Ln k [] := fun _ h => nomatch h
theorem Ln.push {k : Nat} {out : List D} {d : D} (h : Ln k out) (hd : IsV1 d ∧ Ht (valQ d) k) : Ln k (out ++ [d]) := fun x hx => by
  rcases List.mem_append.mp hx with h1 | h1
  · exact h x h1
  · rw [List.mem_singleton.mp h1]; exact hd
theorem Ln.len {k : Nat} {ds : List D} (h : Ln k ds) : ∀ x ∈ ds, IsV1 x := fun x hx => (h x hx).1
end Bk
/-! Bf: what does not look at the names of S does not turn on them. -/
namespace Bk
open PySem L2
def Agr (S : List Nat) (G H : Gam) : Prop := G.length = H.length ∧ ∀ i, i ∉ S → G[i]? = H[i]?
def Kp (S : List Nat) (H H' : Gam) : Prop := ∀ i, i ∈ S → H'[i]? = H[i]?
def Fr {α : Type} (S : List Nat) (f : M α) : Prop := ∀ (G H : Gam), Agr S G H → ∀ r G', f G = some (r, G') → ∃ H', f H = some (r, H') ∧ Agr S G' H' ∧ Kp S H H'
variable {S : List Nat}
theorem Kp.refl {G : Gam} : Kp S G G := fun _ _ => rfl
theorem Kp.trans {F G H : Gam} (h : Kp S F G) (h' : Kp S G H) : Kp S F H := fun i hi => (h' i hi).trans (h i hi)
theorem Agr.set {G H : Gam} {i : Nat} {e : Ent} (h : Agr S G H) : Agr S (G.set i e) (H.set i e) := by
  refine ⟨by rw [List.length_set, List.length_set]; exact h.1, fun j hj => ?_⟩
  rw [List.getElem?_set, List.getElem?_set, h.1, h.2 j hj]
theorem kp_set {H : Gam} {i : Nat} {e : Ent} (hi : i ∉ S) : Kp S H (H.set i e) := fun j hj => by
  rw [List.getElem?_set, if_neg (fun z : i = j => hi (z ▸ hj))]
theorem fr_keep {α : Type} {a : α} : Fr S (fun G => some (a, G)) := fun G H ag r G' h => by
  cases h
  exact ⟨H, rfl, ag, Kp.refl⟩
theorem fr_none {α : Type} : Fr S (fun _ => (none : Option (α × Gam))) := fun G H ag r G' h => nomatch h
theorem fr_bd {α β : Type} {a : M α} {f : α → M β} (ha : Fr S a) (hf : ∀ x, Fr S (f x)) : Fr S (fun G => bd (a G) fun x G1 => f x G1) := fun G H ag r G' h => by
  obtain ⟨r1, G1, h1, h2⟩ := bd_inv h
  obtain ⟨H1, h3, a3, k3⟩ := ha G H ag r1 G1 h1
  obtain ⟨H2, h4, a4, k4⟩ := hf r1 G1 H1 a3 r G' h2
  refine ⟨H2, ?_, a4, k3.trans k4⟩
  show bd (a H) _ = _
  rw [h3]
  exact h4
theorem fr_ite {α : Type} {k : Bool} {a b : M α} (ha : Fr S a) (hb : Fr S b) : Fr S (fun G => if k then a G else b G) := by
  cases k
  · exact hb
  · exact ha
theorem fr_v {i : Nat} (h : i ∉ S) : Fr S (xv i) := fun G H ag r G' e => by
  unfold xv at e ⊢
  rw [ag.2 i h] at e
  split at e
  · cases e; exact ⟨_, rfl, ag, Kp.refl⟩
  · cases e; exact ⟨_, rfl, ag.set, kp_set h⟩
  · cases e
theorem fr_mv {i : Nat} (h : i ∉ S) : Fr S (xmv i) := fun G H ag r G' e => by
  unfold xmv at e ⊢
  rw [ag.2 i h] at e
  split at e
  · cases e; exact ⟨_, rfl, ag, Kp.refl⟩
  · cases e; exact ⟨_, rfl, ag.set, kp_set h⟩
  · cases e
theorem fr_c {d : D} : Fr S (xc d) := fr_keep
theorem fr_nil : Fr S xnil := fr_keep
theorem fr_yes : Fr S xtyes := fr_keep
theorem fr_op {o : D → D → Option R} {a b : M R} (ha : Fr S a) (hb : Fr S b) : Fr S (xop o a b) := fr_bd ha fun x => fr_bd hb fun y => by
  cases o x.d y.d
  · exact fr_none
  · exact fr_keep
theorem fr_un {o : D → Option R} {a : M R} (ha : Fr S a) : Fr S (xun o a) := fr_bd ha fun x => by
  cases o x.d
  · exact fr_none
  · exact fr_keep
theorem fr_cons {a : M R} {b : M (List D)} (ha : Fr S a) (hb : Fr S b) : Fr S (xcons a b) := fr_bd ha fun x => fr_bd hb fun y => fr_keep
theorem fr_cb {o : List D → Option R} {a : M (List D)} (ha : Fr S a) : Fr S (xcb o a) := fr_bd ha fun x => by
  cases o x
  · exact fr_none
  · exact fr_keep
theorem fr_call {o : List D → Option R} {a : M (List D)} (ha : Fr S a) : Fr S (xcall o a) := fr_bd ha fun x => by
  cases o x
  · exact fr_none
  · exact fr_keep
theorem fr_tup {a : M (List D)} (ha : Fr S a) : Fr S (xtup a) := fr_bd ha fun x => by
  cases few x.length
  · exact fr_none
  · exact fr_keep
theorem fr_lst {a : M (List D)} (ha : Fr S a) : Fr S (xlst a) := fr_bd ha fun x => by
  cases few x.length
  · exact fr_none
  · exact fr_keep
theorem fr_if {t : M Bool} {a b : M R} (ht : Fr S t) (ha : Fr S a) (hb : Fr S b) : Fr S (xif t a b) := fr_bd ht fun k => fr_ite ha hb
theorem fr_test {a : M R} (ha : Fr S a) : Fr S (xtest a) := fr_bd ha fun x => by
  cases x.d
  case bl => exact fr_keep
  all_goals exact fr_none
theorem fr_tru {a : M R} (ha : Fr S a) : Fr S (xtru a) := fr_bd ha fun x => by
  cases truth x.d
  · exact fr_none
  · exact fr_keep
theorem fr_tand {a b : M Bool} (ha : Fr S a) (hb : Fr S b) : Fr S (xtand a b) := fr_bd ha fun k => fr_ite hb fr_keep
theorem fr_tor {a b : M Bool} (ha : Fr S a) (hb : Fr S b) : Fr S (xtor a b) := fr_bd ha fun k => fr_ite fr_keep hb
theorem fr_tnot {a : M Bool} (ha : Fr S a) : Fr S (xtnot a) := fr_bd ha fun k => fr_keep
theorem fr_vand {a b : M R} (ha : Fr S a) (hb : Fr S b) : Fr S (xvand a b) := fr_bd ha fun x => by
  cases x.d
  case bl k => exact fr_ite hb fr_keep
  all_goals exact fr_none
theorem fr_vor {a b : M R} (ha : Fr S a) (hb : Fr S b) : Fr S (xvor a b) := fr_bd ha fun x => by
  cases x.d
  case bl k => exact fr_ite fr_keep hb
  all_goals exact fr_none
theorem fr_vnot {a : M R} (ha : Fr S a) : Fr S (xvnot a) := fr_bd ha fun x => by
  cases x.d
  case bl k => exact fr_keep
  all_goals exact fr_none
theorem fr_range1 {a : M (List D)} (ha : Fr S a) : Fr S (xrange1 a) := fr_bd ha fun xs => by
  split
  · split
    · exact fr_keep
    · exact fr_none
  · exact fr_none
theorem fr_range2 {a : M (List D)} (ha : Fr S a) : Fr S (xrange2 a) := fr_bd ha fun xs => by
  split
  · split
    · exact fr_keep
    · exact fr_none
  · exact fr_none
theorem fr_seqI {a : M R} (ha : Fr S a) : Fr S (xseqI a) := fr_bd ha fun x => by
  cases seqD x.d
  · exact fr_none
  · exact fr_keep
theorem fr_zip {a : M (List D)} (ha : Fr S a) : Fr S (xzip a) := fr_bd ha fun xs => by
  split
  · split
    · exact fr_keep
    · exact fr_none
  · exact fr_none
def FrG (S : List Nat) (f : D → Gam → Option Gam) : Prop := ∀ (d : D) (G H G' : Gam), Agr S G H → f d G = some G' → ∃ H', f d H = some H' ∧ Agr S G' H' ∧ Kp S H H'
theorem frg_n {i : Nat} (h : i ∉ S) : FrG S (tgn i) := fun d G H G' ag e => by
  unfold tgn at e ⊢
  cases e
  exact ⟨_, rfl, ag.set, kp_set h⟩
theorem frg_ts {ts : List (D → Gam → Option Gam)} (h : ∀ t ∈ ts, FrG S t) : ∀ (ds : List D) (G H G' : Gam), Agr S G H → tgs ts ds G = some G' → ∃ H', tgs ts ds H = some H' ∧ Agr S G' H' ∧ Kp S H H' := by
  induction ts with
  | nil => intro ds G H G' ag e; cases ds with
    | nil => cases e; exact ⟨_, rfl, ag, Kp.refl⟩
    | cons d ds => cases e
  | cons t ts ih => intro ds G H G' ag e; cases ds with
    | nil => cases e
    | cons d ds =>
      unfold tgs at e ⊢
      cases z : t d G with
      | none => rw [z] at e; cases e
      | some G1 =>
        obtain ⟨H1, h2, a2, k2⟩ := h t List.mem_cons_self d G H G1 ag z
        rw [z] at e
        rw [h2]
        obtain ⟨H2, h3, a3, k3⟩ := ih (fun t ht => h t (List.mem_cons_of_mem _ ht)) ds G1 H1 G' a2 e
        exact ⟨H2, h3, a3, k2.trans k3⟩
theorem frg_t {ts : List (D → Gam → Option Gam)} (h : ∀ t ∈ ts, FrG S t) : FrG S (tgt ts) := fun d G H G' ag e => by
  cases d with
  | tup ds => exact frg_ts h ds G H G' ag e
  | _ => cases e
theorem wipe_ap {G H : Gam} (ag : Agr S G H) : ∀ {vs : List Nat}, (∀ v ∈ vs, v ∉ S) → Agr S (wipeG G vs) (wipeG H vs) ∧ Kp S H (wipeG H vs)
  | [], _ => ⟨ag, Kp.refl⟩
  | v :: vs, h => by
    obtain ⟨h1, h2⟩ := wipe_ap ag (vs := vs) fun w hw => h w (List.mem_cons_of_mem _ hw)
    exact ⟨h1.set, h2.trans (kp_set (h v List.mem_cons_self))⟩
theorem unw_ap {G1 H1 G2 H2 : Gam} (ag1 : Agr S G1 H1) (ag2 : Agr S G2 H2) : ∀ {vs : List Nat}, (∀ v ∈ vs, v ∉ S) → Agr S (unw G1 G2 vs) (unw H1 H2 vs) ∧ Kp S H2 (unw H1 H2 vs)
  | [], _ => ⟨ag2, Kp.refl⟩
  | v :: vs, h => by
    obtain ⟨h1, h2⟩ := unw_ap ag1 ag2 (vs := vs) fun w hw => h w (List.mem_cons_of_mem _ hw)
    have hv := h v List.mem_cons_self
    have e : G1.getD v .un = H1.getD v .un := by rw [List.getD_eq_getElem?_getD, List.getD_eq_getElem?_getD, ag1.2 v hv]
    show Agr S ((unw G1 G2 vs).set v (G1.getD v .un)) ((unw H1 H2 vs).set v (H1.getD v .un)) ∧ Kp S H2 ((unw H1 H2 vs).set v (H1.getD v .un))
    rw [e]
    exact ⟨h1.set, h2.trans (kp_set hv)⟩
theorem noMu_ap {G H : Gam} (ag : Agr S G H) : ∀ {vs : List Nat}, (∀ v ∈ vs, v ∉ S) → noMu G vs = noMu H vs
  | [], _ => rfl
  | v :: vs, h => by
    have ih := noMu_ap ag (vs := vs) fun w hw => h w (List.mem_cons_of_mem _ hw)
    unfold noMu at ih ⊢
    rw [List.all_cons, List.all_cons, ih, ag.2 v (h v List.mem_cons_self)]
theorem fr_lcL {tg : D → Gam → Option Gam} {t : M Bool} {e : M R} {vs : List Nat} (hg : FrG S tg) (ht : Fr S t) (he : Fr S e) (hv : ∀ v ∈ vs, v ∉ S) : ∀ ds, Fr S (xlcL tg t e vs ds)
  | [] => fr_keep
  | d :: ds => fun G H ag r G' h => by
    have ih := fr_lcL hg ht he hv ds
    unfold xlcL at h ⊢
    cases z : tg d G with
    | none => rw [z] at h; cases h
    | some G1 =>
      obtain ⟨H1, h2, a2, k2⟩ := hg d G H G1 ag z
      rw [z] at h
      rw [h2]
      obtain ⟨k, G3, h3, h⟩ := bd_inv h
      obtain ⟨H3, h4, a4, k4⟩ := ht G1 H1 a2 k G3 h3
      simp only [h4, bd_some]
      cases k with
      | false =>
        simp only [Bool.false_eq_true, if_false] at h ⊢
        obtain ⟨w1, w2⟩ := wipe_ap a4 hv
        obtain ⟨H5, h5, a5, k5⟩ := ih _ _ w1 r G' h
        exact ⟨H5, h5, a5, ((k2.trans k4).trans w2).trans k5⟩
      | true =>
        simp only [if_true] at h ⊢
        obtain ⟨v, G5, h5, h⟩ := bd_inv h
        obtain ⟨H5, h6, a6, k6⟩ := he G3 H3 a4 v G5 h5
        simp only [h6, bd_some]
        obtain ⟨w1, w2⟩ := wipe_ap a6 hv
        obtain ⟨out, G7, h7, h⟩ := bd_inv h
        obtain ⟨H7, h8, a8, k8⟩ := ih _ _ w1 out G7 h7
        cases h
        exact ⟨H7, by rw [h8]; rfl, a8, (((k2.trans k4).trans k6).trans w2).trans k8⟩
theorem fr_lc {it : M (List D)} {tg : D → Gam → Option Gam} {t : M Bool} {e : M R} {vs : List Nat} (hi : Fr S it) (hg : FrG S tg) (ht : Fr S t) (he : Fr S e) (hv : ∀ v ∈ vs, v ∉ S) : Fr S (xlc it tg t e vs) := fr_bd hi fun ds G H ag r G' h => by
  rw [noMu_ap ag hv] at h
  split at h
  · rename_i hm
    rw [if_pos hm]
    obtain ⟨out, G1, h1, h⟩ := bd_inv h
    obtain ⟨w1, w2⟩ := wipe_ap ag hv
    obtain ⟨H1, h2, a2, k2⟩ := fr_lcL hg ht he hv ds _ _ w1 out G1 h1
    simp only [h2, bd_some]
    split at h
    · rename_i hf
      rw [if_pos hf]
      cases h
      obtain ⟨u1, u2⟩ := unw_ap ag a2 hv
      exact ⟨_, rfl, u1, (w2.trans k2).trans u2⟩
    · cases h
  · cases h
/-! statements that end in their last row: what they set need not have been alike -/
def FrS (S S' : List Nat) (s : MS) : Prop := ∀ (G H G' : Gam), Agr S G H → s G = some (.nx, G') → ∃ H', s H = some (.nx, H') ∧ Agr S' G' H' ∧ Kp S' H H'
theorem frs_set {i : Nat} {a : M R} (h : i ∉ S) (ha : Fr S a) : FrS S S (xset i a) := fun G H G' ag e => by
  unfold xset at e ⊢
  obtain ⟨r, G1, h1, h2⟩ := bd_inv e
  obtain ⟨H1, h3, a3, k3⟩ := ha G H ag r G1 h1
  rw [h3]
  cases h2
  exact ⟨_, rfl, a3.set, k3.trans (kp_set h)⟩
theorem frs_setN {i : Nat} {a : M R} (ha : Fr (i :: S) a) (hi : i ∉ S) : FrS (i :: S) S (xset i a) := fun G H G' ag e => by
  unfold xset at e ⊢
  obtain ⟨r, G1, h1, h2⟩ := bd_inv e
  obtain ⟨H1, h3, a3, k3⟩ := ha G H ag r G1 h1
  rw [h3]
  cases h2
  refine ⟨_, rfl, ⟨by rw [List.length_set, List.length_set]; exact a3.1, fun j hj => ?_⟩, Kp.trans (G := H1) (fun j hj => k3 j (List.mem_cons_of_mem _ hj)) (kp_set hi)⟩
  rw [List.getElem?_set, List.getElem?_set, a3.1]
  split
  · rfl
  · rename_i hne
    exact a3.2 j (fun z => by rcases List.mem_cons.mp z with z | z; exact hne z.symm; exact hj z)
theorem frs_next : FrS S S xnext := fun G H G' ag e => by
  cases e
  exact ⟨_, rfl, ag, Kp.refl⟩
theorem frs_ret {S' : List Nat} {a : M R} : FrS S S' (xret a) := fun G H G' ag e => by
  unfold xret at e
  obtain ⟨r, G1, h1, h2⟩ := bd_inv e
  cases h2
theorem frs_ifs {t : M Bool} {a b : MS} (ht : Fr S t) (ha : FrS S S a) (hb : FrS S S b) : FrS S S (xifs t a b) := fun G H G' ag e => by
  unfold xifs at e ⊢
  obtain ⟨k, G1, h1, h2⟩ := bd_inv e
  obtain ⟨H1, h3, a3, k3⟩ := ht G H ag k G1 h1
  rw [h3]
  simp only [bd_some]
  cases k
  · obtain ⟨H2, h4, a4, k4⟩ := hb G1 H1 G' a3 h2
    exact ⟨H2, h4, a4, k3.trans k4⟩
  · obtain ⟨H2, h4, a4, k4⟩ := ha G1 H1 G' a3 h2
    exact ⟨H2, h4, a4, k3.trans k4⟩
theorem frs_seq {S1 S2 : List Nat} {s t : MS} (hs : FrS S S1 s) (ht : FrS S1 S2 t) (hS : ∀ i ∈ S2, i ∈ S1) : FrS S S2 (xseq s t) := fun G H G' ag e => by
  unfold xseq at e ⊢
  cases z : s G with
  | none => rw [z] at e; cases e
  | some q =>
    obtain ⟨fl, G1⟩ := q
    rw [z] at e
    cases fl with
    | nx =>
      obtain ⟨H1, h2, a2, k2⟩ := hs G H G1 ag z
      rw [h2]
      obtain ⟨H2, h3, a3, k3⟩ := ht G1 H1 G' a2 e
      exact ⟨H2, h3, a3, fun i hi => (k3 i hi).trans (k2 i (hS i hi))⟩
    | _ => cases e
theorem frs_seq0 {s t : MS} (hs : FrS S S s) (ht : FrS S S t) : FrS S S (xseq s t) := frs_seq hs ht fun _ h => h
/-- it ends in its last row -/
def nxB : Option (Fl × Gam) → Bool
  | some (.nx, _) => true
  | _ => false
theorem nxB_ok {o : Option (Fl × Gam)} (h : nxB o = true) : ∃ G, o = some (.nx, G) := by
  unfold nxB at h
  split at h
  · exact ⟨_, rfl⟩
  · cases h
end Bk
/-! Bg: alike data, told by a check; a statement's turn from one state to those that are alike where it looks. -/
namespace Bk
open PySem L2
mutual
def eqB : D → D → Bool
  | .non, .non => true
  | .bl a, .bl b => decide (a = b)
  | .int a, .int b => decide (a = b)
  | .str a, .str b => decide (a = b)
  | .lst a, .lst b => eqBs a b
  | .frz a, .frz b => eqBs a b
  | .tup a, .tup b => eqBs a b
  | _, _ => false
def eqBs : List D → List D → Bool
  | [], [] => true
  | x :: xs, y :: ys => eqB x y && eqBs xs ys
  | _, _ => false
end
mutual
theorem eqB_ok : ∀ {a b : D}, eqB a b = true → a = b
  | .non, b, h => by cases b <;> first | rfl | (simp [eqB] at h; done)
  | .bl a, b, h => by cases b <;> first | (simp [eqB] at h; done) | (simp [eqB] at h; rw [h])
  | .int a, b, h => by cases b <;> first | (simp [eqB] at h; done) | (simp [eqB] at h; rw [h])
  | .str a, b, h => by cases b <;> first | (simp [eqB] at h; done) | (simp [eqB] at h; rw [h])
  | .lst a, b, h => by cases b <;> first | (simp [eqB] at h; done) | (simp [eqB] at h; rw [eqBs_ok h])
  | .frz a, b, h => by cases b <;> first | (simp [eqB] at h; done) | (simp [eqB] at h; rw [eqBs_ok h])
  | .tup a, b, h => by cases b <;> first | (simp [eqB] at h; done) | (simp [eqB] at h; rw [eqBs_ok h])
  | .obj _ _ _, b, h => by cases b <;> simp [eqB] at h
  | .ty _, b, h => by cases b <;> simp [eqB] at h
  | .cl _, b, h => by cases b <;> simp [eqB] at h
theorem eqBs_ok : ∀ {a b : List D}, eqBs a b = true → a = b
  | [], b, h => by cases b <;> first | rfl | simp [eqBs] at h
  | x :: xs, b, h => by
    cases b with
    | nil => simp [eqBs] at h
    | cons y ys =>
      simp [eqBs] at h
      rw [eqB_ok h.1, eqBs_ok h.2]
end
def enB : Ent → Ent → Bool
  | .un, .un => true
  | .im a, .im b => eqB a b
  | .ow a, .ow b => eqBs a b
  | .bx a, .bx b => eqBs a b
  | _, _ => false
theorem enB_ok {a b : Ent} (h : enB a b = true) : a = b := by
  cases a <;> cases b <;> simp [enB] at h <;> first | rfl | rw [eqB_ok h] | rw [eqBs_ok h]
def gmB : Gam → Gam → Bool
  | [], [] => true
  | x :: xs, y :: ys => enB x y && gmB xs ys
  | _, _ => false
theorem gmB_ok : ∀ {a b : Gam}, gmB a b = true → a = b
  | [], b, h => by cases b <;> first | rfl | simp [gmB] at h
  | x :: xs, b, h => by
    cases b with
    | nil => simp [gmB] at h
    | cons y ys =>
      simp [gmB] at h
      rw [enB_ok h.1, gmB_ok h.2]
/-- it ends in its last row, in the state G2 -/
def nxE (o : Option (Fl × Gam)) (G2 : Gam) : Bool := match o with
  | some (.nx, G) => gmB G G2
  | _ => false
theorem nxE_ok {o : Option (Fl × Gam)} {G2 : Gam} (h : nxE o G2 = true) : o = some (.nx, G2) := by
  unfold nxE at h
  split at h
  · rw [gmB_ok h]
  · cases h
variable {S : List Nat}
theorem FrS.at {s : MS} {G H G2 H2 : Gam} (f : FrS S S s) (ag : Agr S G H) (e : s G = some (.nx, G2)) (hl : H2.length = G2.length) (hi : ∀ i ∈ S, H2[i]? = H[i]?) (ho : ∀ i, i ∉ S → H2[i]? = G2[i]?) : s H = some (.nx, H2) := by
  obtain ⟨H', h1, h2, h3⟩ := f G H G2 ag e
  rw [h1]
  have : H' = H2 := by
    apply List.ext_getElem?
    intro i
    by_cases hs : i ∈ S
    · rw [h3 i hs, hi i hs]
    · rw [ho i hs, ← h2.2 i hs]
  rw [this]
end Bk
/-! Bq: sums of products of fractions. -/
namespace Bk
open PySem L2
def dot : List Rat → List Rat → Rat
  | a :: as, b :: bs => a * b + dot as bs
  | _, _ => 0
theorem foldl_add : ∀ (qs : List Rat) (a : Rat), qs.foldl (· + ·) a = a + qs.foldl (· + ·) 0
  | [], a => by simp [Rat.add_zero]
  | q :: qs, a => by
    rw [List.foldl_cons, List.foldl_cons, foldl_add qs (a + q), foldl_add qs (0 + q), Rat.zero_add, Rat.add_assoc]
theorem sumQ_nil : sumQ [] = 0 := rfl
theorem sumQ_cons (q : Rat) (qs : List Rat) : sumQ (q :: qs) = q + sumQ qs := by
  unfold sumQ
  rw [List.foldl_cons, foldl_add qs (0 + q), Rat.zero_add]
theorem dot_sum : ∀ (as bs : List Rat), sumQ (List.zipWith (· * ·) as bs) = dot as bs
  | [], _ => by rw [List.zipWith_nil_left]; rfl
  | _ :: _, [] => rfl
  | a :: as, b :: bs => by
    rw [List.zipWith_cons_cons, sumQ_cons, dot_sum as bs]
    rfl
theorem dotQ_dot (as bs : List D) : dotQ as bs = dot (as.map valQ) (bs.map valQ) := by
  rw [← dot_sum]
  unfold dotQ
  rw [List.zipWith_map, List.zip, List.map_zipWith]
theorem dot_neg : ∀ (as bs : List Rat), dot as (bs.map fun q => -q) = -dot as bs
  | [], _ => by simp [dot]
  | _ :: _, [] => by simp [dot]
  | a :: as, b :: bs => by
    rw [List.map_cons, dot, dot_neg as bs, dot]
    grind
theorem dot_add : ∀ (as bs cs : List Rat), bs.length = cs.length → dot as (List.zipWith (· + ·) bs cs) = dot as bs + dot as cs
  | [], _, _, _ => by simp [dot, Rat.add_zero]
  | _ :: _, [], [], _ => by simp [dot, Rat.add_zero]
  | a :: as, b :: bs, c :: cs, h => by
    rw [List.zipWith_cons_cons, dot, dot, dot, dot_add as bs cs (by simpa using h)]
    grind
theorem num_lt {q : Rat} : q.num < 0 ↔ q < 0 := by
  have := @Rat.num_nonneg q
  rw [← Rat.not_le, ← this]
  omega
theorem num_ge {q : Rat} : 0 ≤ q.num ↔ 0 ≤ q := Rat.num_nonneg
theorem vq0 : vq 0 = .tup [.int 0, .int 1] := rfl
theorem eq_vq (a b : Rat) : eqD (vq a) (vq b) = some (decide (a = b)) := by
  have e : ∀ q : Rat, toPy (vq q) = some (pyq q) := fun q => rfl
  have s : ∀ q : Rat, SeqAt.shaped (pyq q) = true := fun q => by
    unfold SeqAt.shaped
    rw [Bool.and_eq_true]
    exact ⟨by simp [pyq, PyData.canLay0, PyData.canLayAll0], decide_eq_true (by simp [pyq, PyData.depth, PyData.depthAll])⟩
  have h1 : eqD (vq a) (vq b) = some (PyData.eqv (pyq a) (pyq b)) := by
    show (match toPy (vq a), toPy (vq b) with
      | some p, some q => if SeqAt.shaped p && SeqAt.shaped q then some (PyData.eqv p q) else none
      | _, _ => none) = _
    simp only [e, s, Bool.and_self, if_true]
  rw [h1]
  congr 1
  have : PyData.eqv (pyq a) (pyq b) = (a.num == b.num && (a.den : Int) == (b.den : Int)) := by
    simp [pyq, PyData.eqv, PyData.eqvAll]
  rw [this]
  by_cases h : a = b
  · subst h
    simp
  · rw [decide_eq_false h]
    by_cases h1 : a.num = b.num
    · have h2 : a.den ≠ b.den := fun z => h (Rat.ext h1 z)
      have h3 : ¬ (a.den : Int) = (b.den : Int) := by omega
      rw [Bool.and_eq_false_iff]
      exact .inr (beq_false_of_ne h3)
    · rw [Bool.and_eq_false_iff]
      exact .inl (beq_false_of_ne h1)
/-- a loop that looks for one: each turn ends the walk or goes on -/
theorem xforL_find {tg : D → Gam → Option Gam} {b : MS} (Inv : Gam → Prop) (Miss : D → Prop) (Hit : D → R → Prop) : ∀ {ds : List D} {G : Gam}, Inv G →
    (∀ d ∈ ds, ∀ G, Inv G → ∃ G1, tg d G = some G1 ∧ ((∃ G2, b G1 = some (.nx, G2) ∧ Inv G2 ∧ Miss d) ∨ (∃ r G2, b G1 = some (.rt r, G2) ∧ Hit d r))) →
    (∃ G', xforL tg b ds G = some (.nx, G') ∧ Inv G' ∧ ∀ d ∈ ds, Miss d) ∨ (∃ d ∈ ds, ∃ r G', xforL tg b ds G = some (.rt r, G') ∧ Hit d r)
  | [], G, h, _ => .inl ⟨G, rfl, h, fun _ z => nomatch z⟩
  | d :: ds, G, h, step => by
    obtain ⟨G1, h1, h2⟩ := step d List.mem_cons_self G h
    rcases h2 with ⟨G2, h2, h3, h4⟩ | ⟨r, G2, h2, h3⟩
    · rcases xforL_find Inv Miss Hit h3 (fun e he => step e (List.mem_cons_of_mem _ he)) with ⟨G', k1, k2, k3⟩ | ⟨e, he, r, G', k1, k2⟩
      · refine .inl ⟨G', (xforL_nx h1 h2).trans k1, k2, fun e he => ?_⟩
        rcases List.mem_cons.mp he with rfl | he
        · exact h4
        · exact k3 e he
      · exact .inr ⟨e, List.mem_cons_of_mem _ he, r, G', (xforL_nx h1 h2).trans k1, k2⟩
    · refine .inr ⟨d, List.mem_cons_self, r, G2, ?_, h3⟩
      unfold xforL
      rw [h1]
      simp only [h2]
end Bk
/-! Bd: differences of rows; rows grown from differences. -/
namespace Bk
open PySem L2
def df : List Rat → List Rat
  | a :: b :: r => (b - a) :: df (b :: r)
  | _ => []
def dfs : Nat → List Rat → List Rat
  | 0, qs => qs
  | n + 1, qs => dfs n (df qs)
theorem df_zip : ∀ qs : List Rat, (qs.zip (qs.drop 1)).map (fun p => p.2 - p.1) = df qs
  | [] => rfl
  | [_] => rfl
  | a :: b :: r => by
    show (b - a) :: ((b :: r).zip r).map (fun p => p.2 - p.1) = (b - a) :: df (b :: r)
    rw [← df_zip (b :: r)]
    rfl
theorem df_len : ∀ qs : List Rat, (df qs).length = qs.length - 1
  | [] => rfl
  | [_] => rfl
  | a :: b :: r => by
    show (df (b :: r)).length + 1 = _
    rw [df_len (b :: r)]
    simp
theorem df_get : ∀ (qs : List Rat) (i : Nat) (h : i + 1 < qs.length), (df qs)[i]? = some (qs[i + 1] - qs[i])
  | [], i, h => absurd h (by simp)
  | [_], i, h => absurd h (by simp)
  | a :: b :: r, 0, h => rfl
  | a :: b :: r, i + 1, h => by
    show (df (b :: r))[i]? = _
    rw [df_get (b :: r) i (by simpa using h)]
    rfl
theorem df_ht {k : Nat} : ∀ {qs : List Rat}, (∀ q ∈ qs, Ht q k) → ∀ q ∈ df qs, Ht q (k + k + 1)
  | [], _, q, hq => nomatch hq
  | [_], _, q, hq => nomatch hq
  | a :: b :: r, h, q, hq => by
    rcases List.mem_cons.mp hq with rfl | hq
    · exact (h b (by simp)).sub (h a (by simp))
    · exact df_ht (fun q hq => h q (List.mem_cons_of_mem _ hq)) q hq
/-- of the kind: no difference of this order is below 0 -/
def kd (n : Nat) (qs : List Rat) : Bool := !(dfs n qs).any fun q => decide (q < 0)
/-- the height after n differences -/
def hgt (k : Nat) : Nat → Nat
  | 0 => k
  | n + 1 => hgt (k + k + 1) n
theorem hgt_le : ∀ (n k : Nat), k ≤ hgt k n
  | 0, _ => Nat.le_refl _
  | n + 1, k => Nat.le_trans (by omega) (hgt_le n (k + k + 1))
theorem dfs_ht : ∀ {n k : Nat} {qs : List Rat}, (∀ q ∈ qs, Ht q k) → ∀ q ∈ dfs n qs, Ht q (hgt k n)
  | 0, _, _, h => h
  | n + 1, _, _, h => dfs_ht (n := n) (df_ht h)
theorem dfs_len : ∀ (n : Nat) (qs : List Rat), (dfs n qs).length = qs.length - n
  | 0, _ => rfl
  | n + 1, qs => by
    rw [dfs, dfs_len n, df_len]
    omega
/-- a comprehension with a test, whose turns change nothing else -/
theorem xlcL_fil {tg : D → Gam → Option Gam} {t : M Bool} {e : M R} {vs : List Nat} {G : Gam} (p : D → Bool) (f : D → D) : ∀ {ds : List D}, (∀ d ∈ ds, ∃ G1 G2, tg d G = some G1 ∧ t G1 = some (p d, G2) ∧
    (p d = true → ∃ r G3, e G2 = some (r, G3) ∧ r.d = f d ∧ wipeG G3 vs = G) ∧ (p d = false → wipeG G2 vs = G)) → xlcL tg t e vs ds G = some ((ds.filter p).map f, G)
  | [], _ => rfl
  | d :: ds, h => by
    obtain ⟨G1, G2, h1, h2, h3, h4⟩ := h d List.mem_cons_self
    have ih := xlcL_fil p f (fun e he => h e (List.mem_cons_of_mem _ he))
    unfold xlcL
    rw [h1]
    simp only [h2, bd_some]
    cases z : p d with
    | true =>
      obtain ⟨r, G3, k1, k2, k3⟩ := h3 z
      simp only [k1, bd_some, k3, ih, k2, if_true]
      rw [List.filter_cons_of_pos z, List.map_cons]
    | false =>
      simp only [Bool.false_eq_true, if_false, h4 z, ih]
      rw [List.filter_cons_of_neg (by rw [z]; simp)]
theorem bools_map : ∀ bs : List Bool, bools (bs.map .bl) = some bs
  | [] => rfl
  | b :: bs => by
    rw [List.map_cons, bools, bools_map bs]
theorem any_map (bs : List Bool) : cbAny [.lst (bs.map .bl)] = some (.im (.bl (bs.any id))) := by
  show (bools (bs.map .bl)).map (fun bs => R.im (.bl (bs.any id))) = _
  rw [bools_map]
  rfl
theorem eq_nil {k : Nat} (hk : 8 ≤ k) (h9 : k < 1900) {qs : List Rat} (h : ∀ q ∈ qs, Ht q k) : opEq (.lst (qs.map vq)) (.lst []) = some (.im (.bl qs.isEmpty)) := by
  obtain ⟨h1, h2, h3, h4, h5, h6⟩ := pyq_ok hk h9 h
  have e : toPy (.lst (qs.map vq)) = some (.list (qs.map pyq)) := by
    rw [toPy, toPys_vq]
    rfl
  have s : SeqAt.shaped (.list (qs.map pyq)) = true := by
    unfold SeqAt.shaped
    rw [Bool.and_eq_true]
    refine ⟨by rw [PyData.canLay0]; exact h6, decide_eq_true ?_⟩
    rw [PyData.depth]
    omega
  have s0 : SeqAt.shaped (.list []) = true := by decide +kernel
  have e0 : toPy (.lst []) = some (.list []) := rfl
  have : eqD (.lst (qs.map vq)) (.lst []) = some (PyData.eqv (.list (qs.map pyq)) (.list [])) := by
    show (match toPy (.lst (qs.map vq)), toPy (.lst []) with
      | some p, some q => if SeqAt.shaped p && SeqAt.shaped q then some (PyData.eqv p q) else none
      | _, _ => none) = _
    simp only [e, e0, s, s0, Bool.and_self, if_true]
  unfold opEq
  rw [this]
  cases qs with
  | nil => rfl
  | cons q qs => rfl
theorem xvnot_ok {a : M R} {G G1 : Gam} {k : Bool} (h : a G = some (.im (.bl k), G1)) : xvnot a G = some (.im (.bl (!k)), G1) := by
  unfold xvnot
  rw [h]
  rfl
theorem any_fil {α : Type} (p : α → Bool) : ∀ qs : List α, (!qs.any p) = (qs.filter p).isEmpty
  | [] => rfl
  | q :: qs => by
    cases z : p q with
    | true => rw [List.any_cons, z, List.filter_cons_of_pos z]; rfl
    | false => rw [List.any_cons, z, List.filter_cons_of_neg (by rw [z]; simp), Bool.false_or, any_fil p qs]
theorem sl1 (xs : List D) : slA (.lst xs) (some 1) none = some (.ow (xs.drop 1)) := by
  show some (R.ow (cutD xs (some 1) none)) = _
  unfold cutD
  have e1 : HT.sIx xs.length 0 (some 1) = min 1 xs.length := HT.sIx_nat xs.length 0 1
  have e2 : HT.sIx xs.length xs.length none = xs.length := rfl
  rw [e1, e2]
  congr 2
  cases xs with
  | nil => rfl
  | cons x xs => simp
end Bk
/-! Be: fractions in sixths, and rows grown from their differences. -/
namespace Bk
open PySem L2
def Bd (q : Rat) (B : Nat) : Prop := ∃ i : Int, q = Rat.divInt i 6 ∧ i.natAbs ≤ B
theorem Bd.up {q : Rat} {B C : Nat} (h : Bd q B) (hC : B ≤ C) : Bd q C := let ⟨i, h1, h2⟩ := h; ⟨i, h1, Nat.le_trans h2 hC⟩
theorem Bd.add {a b : Rat} {B C : Nat} (h : Bd a B) (h' : Bd b C) : Bd (a + b) (B + C) := by
  obtain ⟨i, rfl, hi⟩ := h
  obtain ⟨j, rfl, hj⟩ := h'
  refine ⟨i + j, ?_, by have := Int.natAbs_add_le i j; omega⟩
  rw [Rat.divInt_add_divInt _ _ (by decide) (by decide), Rat.divInt_eq_divInt_iff (by decide) (by decide)]
  omega
theorem Bd.of {t z : Int} (hz : z = 1 ∨ z = 2 ∨ z = 3) {B : Nat} (h : t.natAbs ≤ B) : Bd (Rat.divInt t z) (6 * B) := by
  rcases hz with rfl | rfl | rfl
  · refine ⟨6 * t, ?_, by omega⟩
    rw [Rat.divInt_eq_divInt_iff (by decide) (by decide)]
    omega
  · refine ⟨3 * t, ?_, by omega⟩
    rw [Rat.divInt_eq_divInt_iff (by decide) (by decide)]
    omega
  · refine ⟨2 * t, ?_, by omega⟩
    rw [Rat.divInt_eq_divInt_iff (by decide) (by decide)]
    omega
theorem int_divInt (i : Int) : (i : Rat) = Rat.divInt i 1 := (divInt_self (i : Rat)).symm
theorem Bd.int {i : Int} {B : Nat} (h : i.natAbs ≤ B) : Bd (i : Rat) (6 * B) := by
  rw [int_divInt]
  exact Bd.of (.inl rfl) h
theorem Bd.ht {q : Rat} {B k : Nat} (h : Bd q B) (hk : 3 ≤ k) (hB : B < 2 ^ k) : Ht q k := by
  obtain ⟨i, rfl, hi⟩ := h
  refine ht_divInt (by decide) ?_ ?_
  · unfold Sm; omega
  · exact Nat.lt_of_lt_of_le (show (6 : Int).natAbs < 2 ^ 3 by decide) (Nat.pow_le_pow_right (by decide) hk)
/-- the row that begins with f and has these differences -/
def cum : Rat → List Rat → List Rat
  | f, [] => [f]
  | f, x :: xs => f :: cum (f + x) xs
def grown (fs ss : List Rat) : List Rat := fs.foldr cum ss
theorem cum_len : ∀ (f : Rat) (xs : List Rat), (cum f xs).length = xs.length + 1
  | _, [] => rfl
  | f, x :: xs => by
    show (cum (f + x) xs).length + 1 = _
    rw [cum_len (f + x) xs]
    rfl
theorem grown_len : ∀ (fs ss : List Rat), (grown fs ss).length = fs.length + ss.length
  | [], ss => by simp [grown]
  | f :: fs, ss => by
    show (cum f (grown fs ss)).length = _
    rw [cum_len, grown_len fs ss, List.length_cons]
    omega
theorem cum_bd {B : Nat} : ∀ {xs : List Rat} {f : Rat} {F : Nat}, Bd f F → (∀ x ∈ xs, Bd x B) → ∀ q ∈ cum f xs, Bd q (F + xs.length * B)
  | [], f, F, hf, _, q, hq => by
    rw [List.mem_singleton.mp hq]
    exact hf.up (by omega)
  | x :: xs, f, F, hf, hx, q, hq => by
    rcases List.mem_cons.mp hq with rfl | hq
    · exact hf.up (by omega)
    · have := cum_bd (hf.add (hx x List.mem_cons_self)) (fun y hy => hx y (List.mem_cons_of_mem _ hy)) q hq
      refine this.up ?_
      rw [List.length_cons, Nat.add_mul]
      omega
def bn (F : Nat) : Nat → Nat → Nat
  | 0, B => B
  | n + 1, B => bn F n (F + 9 * B)
theorem bn_le (F : Nat) : ∀ (n B : Nat), B ≤ bn F n B
  | 0, _ => Nat.le_refl _
  | n + 1, B => Nat.le_trans (by omega) (bn_le F n (F + 9 * B))
theorem atI_last {α : Type} (xs : List α) (x : α) : atI (xs ++ [x]) (-1) = some x := by
  unfold atI ixN
  rw [if_neg (by decide), List.length_append, List.length_singleton, if_pos (by omega)]
  show (xs ++ [x])[(-1 + ((xs.length + 1 : Nat) : Int)).toNat]? = _
  rw [show (-1 + ((xs.length + 1 : Nat) : Int)).toNat = xs.length by omega]
  simp
/-- a comprehension whose turns draw: what each item is, and what stays -/
theorem xlcL_st {tg : D → Gam → Option Gam} {e : M R} {vs : List Nat} (Inv : Gam → Prop) (Pd : D → Prop) : ∀ {ds : List D} {G : Gam}, Inv G → (∀ d ∈ ds, ∀ G, Inv G → ∃ G1 r G3, tg d G = some G1 ∧ e G1 = some (r, G3) ∧ Pd r.d ∧ Inv (wipeG G3 vs)) →
    ∃ out G', xlcL tg xtyes e vs ds G = some (out, G') ∧ Inv G' ∧ out.length = ds.length ∧ ∀ x ∈ out, Pd x
  | [], G, h, _ => ⟨[], G, rfl, h, rfl, fun _ z => nomatch z⟩
  | d :: ds, G, h, step => by
    obtain ⟨G1, r, G3, h1, h2, h3, h4⟩ := step d List.mem_cons_self G h
    obtain ⟨out, G', k1, k2, k3, k4⟩ := xlcL_st Inv Pd h4 fun e he => step e (List.mem_cons_of_mem _ he)
    refine ⟨r.d :: out, G', ?_, k2, by rw [List.length_cons, List.length_cons, k3], fun x hx => ?_⟩
    · unfold xlcL
      rw [h1]
      simp only [xtyes, bd_some, h2, if_true, k1]
    · rcases List.mem_cons.mp hx with rfl | hx
      · exact h3
      · exact k4 x hx
/-- a row of numbers and pairs in sixths -/
def Lb (B : Nat) (out : List D) : Prop := ∀ x ∈ out, IsV1 x ∧ Bd (valQ x) B
theorem Lb.ln {B k : Nat} {out : List D} (h : Lb B out) (hk : 3 ≤ k) (hB : B < 2 ^ k) : ∀ x ∈ out, IsV1 x ∧ Ht (valQ x) k := fun x hx => ⟨(h x hx).1, (h x hx).2.ht hk hB⟩
theorem Lb.nil {B : Nat} : Lb B [] := fun _ h => nomatch h
theorem Lb.push {B : Nat} {out : List D} {d : D} (h : Lb B out) (hd : IsV1 d ∧ Bd (valQ d) B) : Lb B (out ++ [d]) := fun x hx => by
  rcases List.mem_append.mp hx with h1 | h1
  · exact h x h1
  · rw [List.mem_singleton.mp h1]; exact hd
theorem Lb.up {B C : Nat} {out : List D} (h : Lb B out) (hC : B ≤ C) : Lb C out := fun x hx => ⟨(h x hx).1, (h x hx).2.up hC⟩
theorem bn_mono {F : Nat} : ∀ (n : Nat) {B C : Nat}, B ≤ C → bn F n B ≤ bn F n C
  | 0, _, _, h => h
  | n + 1, _, _, h => bn_mono n (by omega)
theorem bn_up {F : Nat} : ∀ {n m : Nat} (B : Nat), n ≤ m → bn F n B ≤ bn F m B
  | 0, m, B, _ => bn_le F m B
  | n + 1, 0, _, h => absurd h (by omega)
  | n + 1, m + 1, B, h => bn_up (F + 9 * B) (by omega)
theorem xif_t {t : M Bool} {a b : M R} {G G1 : Gam} {o : Option (R × Gam)} (h : t G = some (true, G1)) (h2 : a G1 = o) : xif t a b G = o := (xif_ok h).trans h2
theorem xif_f {t : M Bool} {a b : M R} {G G1 : Gam} {o : Option (R × Gam)} (h : t G = some (false, G1)) (h2 : b G1 = o) : xif t a b G = o := (xif_ok h).trans h2
end Bk
/-! Bl: sums over rows that are grown from their differences. -/
namespace Bk
open PySem L2
def sumR : List Rat → Rat
  | [] => 0
  | a :: r => a + sumR r
def sfx : List Rat → List Rat
  | [] => []
  | a :: r => (a + sumR r) :: sfx r
def lev : Nat → List Rat → List Rat
  | 0, w => w
  | n + 1, w => lev n (sfx w.tail)
theorem sfx_len : ∀ w : List Rat, (sfx w).length = w.length
  | [] => rfl
  | a :: r => by rw [sfx, List.length_cons, sfx_len r, List.length_cons]
theorem lev_len : ∀ (n : Nat) (w : List Rat), (lev n w).length = w.length - n
  | 0, _ => rfl
  | n + 1, w => by
    rw [lev, lev_len n, sfx_len, List.length_tail]
    omega
theorem dot_cum : ∀ (xs r : List Rat) (a f : Rat), r.length = xs.length → dot (a :: r) (cum f xs) = f * sumR (a :: r) + dot (sfx r) xs
  | [], [], a, f, _ => by
    simp only [cum, dot, sumR, sfx]
    grind
  | x :: xs, b :: r, a, f, h => by
    have ih := dot_cum xs r b (f + x) (by simpa using h)
    rw [cum, dot, ih]
    simp only [sumR, sfx, dot]
    grind
theorem dot_grown : ∀ (fs ss w : List Rat), w.length = fs.length + ss.length → (∀ j, j < fs.length → sumR (lev j w) = 0 ∨ fs[j]? = some 0) → dot w (grown fs ss) = dot (lev fs.length w) ss
  | [], _, _, _, _ => rfl
  | f :: fs, ss, [], h, _ => by rw [List.length_cons, List.length_nil] at h; omega
  | f :: fs, ss, a :: r, h, hs => by
    have hr : r.length = (grown fs ss).length := by
      rw [grown_len]
      rw [List.length_cons, List.length_cons] at h
      omega
    show dot (a :: r) (cum f (grown fs ss)) = _
    rw [dot_cum _ _ _ _ hr]
    have h0 := hs 0 (by simp)
    have hz : f * sumR (a :: r) = 0 := by
      rcases h0 with h0 | h0
      · have : sumR (a :: r) = 0 := h0
        rw [this, Rat.mul_zero]
      · have : f = 0 := by simpa using h0
        rw [this, Rat.zero_mul]
    rw [hz, Rat.zero_add, dot_grown fs ss (sfx r) (by rw [sfx_len, hr, grown_len]) (fun j hj => by
      have := hs (j + 1) (by rw [List.length_cons]; omega)
      simpa [lev] using this)]
    rfl
def zeros (n : Nat) : List Rat := List.replicate n 0
def ones (n : Nat) : List Rat := List.replicate n 1
def unitQ (m k : Nat) : List Rat := (List.range m).map fun i => if i = k then 1 else 0
theorem dot_grown0 {n : Nat} {ss w : List Rat} (h : w.length = n + ss.length) : dot w (grown (zeros n) ss) = dot (lev n w) ss := by
  have e : (zeros n).length = n := List.length_replicate
  have := dot_grown (zeros n) ss w (by rw [e]; exact h) (fun j hj => .inr (by
    unfold zeros
    rw [List.getElem?_replicate, if_pos (by rw [e] at hj; exact hj)]))
  rw [e] at this
  exact this
theorem dot_ones : ∀ w : List Rat, dot w (ones w.length) = sumR w
  | [] => rfl
  | a :: r => by
    show a * 1 + dot r (ones r.length) = _
    rw [dot_ones r, Rat.mul_one]
    rfl
theorem sum_lev {w : List Rat} {j : Nat} (h : j ≤ w.length) : sumR (lev j w) = dot w (grown (zeros j) (ones (w.length - j))) := by
  rw [dot_grown0 (by simp [ones]; omega), ← lev_len, dot_ones]
theorem dot_zero : ∀ (w ss : List Rat), (∀ s ∈ ss, s = 0) → dot w ss = 0
  | [], _, _ => rfl
  | _ :: _, [], _ => rfl
  | a :: w, s :: ss, h => by
    rw [dot, dot_zero w ss (fun x hx => h x (List.mem_cons_of_mem _ hx)), h s List.mem_cons_self, Rat.mul_zero, Rat.add_zero]
theorem dot_map_range : ∀ (w : List Rat) (g : Nat → Rat) , dot w ((List.range w.length).map g) = sumR ((List.range w.length).map fun i => w.getD i 0 * g i)
  | [], _ => rfl
  | a :: r, g => by
    rw [List.length_cons, List.range_succ_eq_map, List.map_cons, List.map_map, List.map_cons, List.map_map, dot, sumR]
    have := dot_map_range r (fun i => g (i + 1))
    show a * g 0 + dot r ((List.range r.length).map fun i => g (i + 1)) = _
    rw [this]
    rfl
theorem dot_unit : ∀ (w : List Rat) (k : Nat), k < w.length → dot w (unitQ w.length k) = w.getD k 0
  | [], k, h => absurd h (by simp)
  | a :: r, 0, _ => by
    unfold unitQ
    rw [List.length_cons, List.range_succ_eq_map, List.map_cons, List.map_map, dot]
    have : dot r ((List.range r.length).map ((fun i => if i = 0 then (1 : Rat) else 0) ∘ Nat.succ)) = 0 := dot_zero _ _ fun s hs => by
      obtain ⟨i, _, rfl⟩ := List.mem_map.mp hs
      show (if i + 1 = 0 then (1 : Rat) else 0) = 0
      rw [if_neg (by omega)]
    rw [this]
    simp [Rat.mul_one, Rat.add_zero]
  | a :: r, k + 1, h => by
    have ih := dot_unit r k (by simpa using h)
    unfold unitQ at ih ⊢
    rw [List.length_cons, List.range_succ_eq_map, List.map_cons, List.map_map, dot]
    have e : ((fun i => if i = k + 1 then (1 : Rat) else 0) ∘ Nat.succ) = fun i => if i = k then (1 : Rat) else 0 := by
      funext i
      show (if i + 1 = k + 1 then (1 : Rat) else 0) = _
      by_cases h : i = k
      · rw [if_pos (by omega), if_pos h]
      · rw [if_neg (by omega), if_neg h]
    rw [e, ih, if_neg (by omega), Rat.mul_zero, Rat.zero_add]
    rfl
theorem lev_get {w : List Rat} {n k : Nat} (h : k < w.length - n) : (lev n w).getD k 0 = dot w (grown (zeros n) (unitQ (w.length - n) k)) := by
  rw [dot_grown0 (by simp [unitQ]; omega), ← lev_len, dot_unit _ _ (by rw [lev_len]; exact h)]
theorem dot_nonneg : ∀ (w ss : List Rat), (∀ q ∈ w, 0 ≤ q) → (∀ s ∈ ss, 0 ≤ s) → 0 ≤ dot w ss
  | [], _, _, _ => Rat.le_refl
  | _ :: _, [], _, _ => Rat.le_refl
  | a :: w, s :: ss, h, h' => by
    rw [dot]
    exact Rat.add_nonneg (Rat.mul_nonneg (h a List.mem_cons_self) (h' s List.mem_cons_self)) (dot_nonneg w ss (fun x hx => h x (List.mem_cons_of_mem _ hx)) (fun x hx => h' x (List.mem_cons_of_mem _ hx)))
theorem cum_df : ∀ (r : List Rat) (q : Rat), cum q (df (q :: r)) = q :: r
  | [], q => rfl
  | b :: r, q => by
    show q :: cum (q + (b - q)) (df (b :: r)) = _
    have : q + (b - q) = b := by grind
    rw [this, cum_df r b]
theorem df_cum : ∀ (xs : List Rat) (f : Rat), df (cum f xs) = xs
  | [], f => rfl
  | [x], f => by
    show [f + x - f] = [x]
    have : f + x - f = x := by grind
    rw [this]
  | x :: y :: r, f => by
    show (f + x - f) :: df (cum (f + x) (y :: r)) = _
    have : f + x - f = x := by grind
    rw [this, df_cum (y :: r) (f + x)]
theorem dfs_grown : ∀ (fs ss : List Rat), dfs fs.length (grown fs ss) = ss
  | [], ss => rfl
  | f :: fs, ss => by
    show dfs fs.length (df (cum f (grown fs ss))) = ss
    rw [df_cum, dfs_grown fs ss]
/-- each row is grown -/
theorem is_grown : ∀ (n : Nat) (qs : List Rat), n ≤ qs.length → ∃ fs, fs.length = n ∧ qs = grown fs (dfs n qs)
  | 0, qs, _ => ⟨[], rfl, rfl⟩
  | n + 1, [], h => absurd h (by simp)
  | n + 1, q :: r, h => by
    obtain ⟨fs, h1, h2⟩ := is_grown n (df (q :: r)) (by rw [df_len]; simp at h ⊢; omega)
    refine ⟨q :: fs, by rw [List.length_cons, h1], ?_⟩
    show q :: r = cum q (grown fs (dfs n (df (q :: r))))
    rw [← h2, cum_df]
/-- the sum over a row of the kind, where the weights carry nothing of lower order and nothing below 0 -/
theorem dot_kind {w qs : List Rat} {n : Nat} (hl : qs.length = w.length) (h1 : ∀ j, j < min n w.length → sumR (lev j w) = 0) (h2 : ∀ q ∈ lev n w, 0 ≤ q) (h3 : n < w.length → ∀ s ∈ dfs n qs, 0 ≤ s) : 0 ≤ dot w qs := by
  by_cases hn : n < w.length
  · obtain ⟨fs, e1, e2⟩ := is_grown n qs (by omega)
    rw [e2, dot_grown fs _ w (by rw [e1, dfs_len]; omega) (fun j hj => .inl (h1 j (by omega))), e1]
    exact dot_nonneg _ _ h2 (h3 hn)
  · obtain ⟨fs, e1, e2⟩ := is_grown w.length qs (by omega)
    have e3 : dfs w.length qs = [] := List.length_eq_zero_iff.mp (by rw [dfs_len]; omega)
    rw [e2, dot_grown fs _ w (by rw [e1, dfs_len]; omega) (fun j hj => .inl (h1 j (by omega))), e1, e3]
    cases lev w.length w <;> exact Rat.le_refl
end Bk
/-! Bm: rows turned about; kinds by duality. -/
namespace Bk
open PySem L2
def addL (a b : List Rat) : List Rat := List.zipWith (· + ·) a b
def mulL (s : Rat) (a : List Rat) : List Rat := a.map fun q => s * q
theorem df_add : ∀ (a b : List Rat), a.length = b.length → df (addL a b) = addL (df a) (df b)
  | [], [], _ => rfl
  | [_], [_], _ => rfl
  | x :: y :: a, u :: v :: b, h => by
    have ih := df_add (y :: a) (v :: b) (by simpa using h)
    show ((y + v) - (x + u)) :: df (addL (y :: a) (v :: b)) = ((y - x) + (v - u)) :: addL (df (y :: a)) (df (v :: b))
    rw [ih]
    congr 1
    grind
theorem dfs_add : ∀ (n : Nat) (a b : List Rat), a.length = b.length → dfs n (addL a b) = addL (dfs n a) (dfs n b)
  | 0, _, _, _ => rfl
  | n + 1, a, b, h => by
    rw [dfs, df_add a b h, dfs_add n _ _ (by rw [df_len, df_len, h])]
    rfl
theorem addL_nonneg : ∀ {a b : List Rat}, (∀ q ∈ a, 0 ≤ q) → (∀ q ∈ b, 0 ≤ q) → ∀ q ∈ addL a b, 0 ≤ q
  | [], _, _, _, q, hq => by simp [addL] at hq
  | _ :: _, [], _, _, q, hq => by simp [addL] at hq
  | x :: a, y :: b, ha, hb, q, hq => by
    rcases List.mem_cons.mp hq with rfl | hq
    · exact Rat.add_nonneg (ha x List.mem_cons_self) (hb y List.mem_cons_self)
    · exact addL_nonneg (fun z hz => ha z (List.mem_cons_of_mem _ hz)) (fun z hz => hb z (List.mem_cons_of_mem _ hz)) q hq
theorem df_mul (s : Rat) : ∀ a : List Rat, df (mulL s a) = mulL s (df a)
  | [] => rfl
  | [_] => rfl
  | x :: y :: a => by
    have ih := df_mul s (y :: a)
    show (s * y - s * x) :: df (mulL s (y :: a)) = (s * (y - x)) :: mulL s (df (y :: a))
    rw [ih]
    congr 1
    grind
theorem dfs_mul (s : Rat) : ∀ (n : Nat) (a : List Rat), dfs n (mulL s a) = mulL s (dfs n a)
  | 0, _ => rfl
  | n + 1, a => by rw [dfs, df_mul, dfs_mul s n, dfs]
theorem df_snoc : ∀ (r : List Rat) (b a : Rat), df (r ++ [b, a]) = df (r ++ [b]) ++ [a - b]
  | [], b, a => rfl
  | [x], b, a => rfl
  | x :: y :: r, b, a => by
    show (y - x) :: df (y :: r ++ [b, a]) = (y - x) :: (df (y :: r ++ [b]) ++ [a - b])
    rw [df_snoc (y :: r) b a]
theorem df_rev : ∀ a : List Rat, df a.reverse = mulL (-1) (df a).reverse
  | [] => rfl
  | [_] => rfl
  | a :: b :: r => by
    have ih := df_rev (b :: r)
    have e : (a :: b :: r).reverse = r.reverse ++ [b, a] := by simp
    have e2 : (b :: r).reverse = r.reverse ++ [b] := by simp
    rw [e2] at ih
    rw [e, df_snoc, ih]
    show _ = mulL (-1) ((b - a) :: df (b :: r)).reverse
    unfold mulL
    rw [List.reverse_cons, List.map_append, List.map_singleton]
    congr 2
    grind
theorem mulL_mul (s t : Rat) (a : List Rat) : mulL s (mulL t a) = mulL (s * t) a := by
  unfold mulL
  rw [List.map_map]
  apply List.map_congr_left
  intro q _
  show s * (t * q) = s * t * q
  grind
theorem mulL_one (a : List Rat) : mulL 1 a = a := by
  unfold mulL
  have : (fun q : Rat => 1 * q) = id := by funext q; exact Rat.one_mul q
  rw [this, List.map_id]
theorem mulL_rev (s : Rat) (a : List Rat) : (mulL s a).reverse = mulL s a.reverse := by
  unfold mulL
  rw [List.map_reverse]
def sgQ (n : Nat) : Rat := if n % 2 = 1 then -1 else 1
theorem sgQ_succ (n : Nat) : sgQ (n + 1) = -1 * sgQ n := by
  unfold sgQ
  by_cases h : n % 2 = 1
  · rw [if_pos h, if_neg (by omega)]
    grind
  · rw [if_neg h, if_pos (by omega)]
    grind
theorem sgQ_sq (n : Nat) : sgQ n * sgQ n = 1 := by
  unfold sgQ
  split <;> grind
theorem dfs_rev : ∀ (n : Nat) (a : List Rat), dfs n a.reverse = mulL (sgQ n) (dfs n a).reverse
  | 0, a => by
    show a.reverse = mulL 1 a.reverse
    rw [mulL_one]
  | n + 1, a => by
    rw [dfs, df_rev, dfs_mul, dfs_rev n (df a), mulL_mul, sgQ_succ]
    rfl
/-- the row from its end, with the sign of the order -/
def turn (n : Nat) (a : List Rat) : List Rat := mulL (sgQ n) a.reverse
theorem dfs_turn (n : Nat) (a : List Rat) : dfs n (turn n a) = (dfs n a).reverse := by
  unfold turn
  rw [dfs_mul, dfs_rev, mulL_mul, sgQ_sq, mulL_one]
theorem turn_turn (n : Nat) (a : List Rat) : turn n (turn n a) = a := by
  unfold turn
  rw [mulL_rev, List.reverse_reverse, mulL_mul, sgQ_sq, mulL_one]
theorem turn_len (n : Nat) (a : List Rat) : (turn n a).length = a.length := by
  unfold turn mulL
  rw [List.length_map, List.length_reverse]
theorem dot_snoc : ∀ (w q : List Rat) (a b : Rat), w.length = q.length → dot (w ++ [a]) (q ++ [b]) = dot w q + a * b
  | [], [], a, b, _ => by
    show a * b + dot [] [] = 0 + a * b
    simp only [dot]
    grind
  | x :: w, y :: q, a, b, h => by
    show x * y + dot (w ++ [a]) (q ++ [b]) = x * y + dot w q + a * b
    rw [dot_snoc w q a b (by simpa using h)]
    grind
theorem dot_rev : ∀ (w q : List Rat), w.length = q.length → dot w.reverse q.reverse = dot w q
  | [], [], _ => rfl
  | x :: w, y :: q, h => by
    rw [List.reverse_cons, List.reverse_cons, dot_snoc _ _ _ _ (by simpa using h), dot_rev w q (by simpa using h)]
    show _ = x * y + dot w q
    grind
theorem dot_mulL (s : Rat) : ∀ (w q : List Rat), dot (mulL s w) q = s * dot w q
  | [], _ => by
    show (0 : Rat) = s * 0
    rw [Rat.mul_zero]
  | _ :: _, [] => by
    show (0 : Rat) = s * 0
    rw [Rat.mul_zero]
  | x :: w, y :: q => by
    show s * x * y + dot (mulL s w) q = s * (x * y + dot w q)
    rw [dot_mulL s w q]
    grind
theorem dot_mulR (s : Rat) : ∀ (w q : List Rat), dot w (mulL s q) = s * dot w q
  | [], _ => by
    show (0 : Rat) = s * 0
    rw [Rat.mul_zero]
  | _ :: _, [] => by
    show (0 : Rat) = s * 0
    rw [Rat.mul_zero]
  | x :: w, y :: q => by
    show x * (s * y) + dot w (mulL s q) = s * (x * y + dot w q)
    rw [dot_mulR s w q]
    grind
theorem dot_turn {n : Nat} {w q : List Rat} (h : w.length = q.length) : dot (turn n w) q = dot w (turn n q) := by
  unfold turn
  rw [dot_mulL, dot_mulR]
  have := dot_rev w q.reverse (by rw [List.length_reverse]; exact h)
  rw [List.reverse_reverse] at this
  rw [this]
/-- what never falls below 0 for the kind -/
def NB (n : Nat) (w : List Rat) : Prop := (∀ j, j < min n w.length → sumR (lev j w) = 0) ∧ ∀ q ∈ lev n w, 0 ≤ q
theorem zeros_dfs : ∀ (n k : Nat) , ∀ q ∈ dfs n (zeros k), q = 0
  | 0, k, q, hq => List.eq_of_mem_replicate hq
  | n + 1, 0, q, hq => by
    have : dfs n ([] : List Rat) = [] := List.length_eq_zero_iff.mp (by rw [dfs_len]; simp)
    rw [dfs] at hq
    have e : df (zeros 0) = [] := rfl
    rw [e, this] at hq
    cases hq
  | n + 1, k + 1, q, hq => by
    have e : ∀ k : Nat, df (zeros (k + 1)) = zeros k := fun k => by
      induction k with
      | zero => rfl
      | succ k ih =>
        show ((0 : Rat) - 0) :: df (zeros (k + 1)) = 0 :: zeros k
        rw [ih]
        congr 1
        grind
    rw [dfs, e] at hq
    exact zeros_dfs n k q hq
theorem df_ones : ∀ k : Nat, df (ones (k + 1)) = zeros k
  | 0 => rfl
  | k + 1 => by
    show ((1 : Rat) - 1) :: df (ones (k + 1)) = 0 :: zeros k
    rw [df_ones k]
    congr 1
    grind
theorem dfs_comp : ∀ (a b : Nat) (qs : List Rat), dfs (a + b) qs = dfs b (dfs a qs)
  | 0, b, qs => by rw [Nat.zero_add]; rfl
  | a + 1, b, qs => by
    rw [show a + 1 + b = (a + b) + 1 by omega, dfs, dfs_comp a b, dfs]
theorem base_dfs {n m j : Nat} (hj : j < min n m) : ∀ q ∈ dfs n (grown (zeros j) (ones (m - j))), q = 0 := by
  have e1 : n = j + ((n - j - 1) + 1) := by omega
  have e2 : m - j = (m - j - 1) + 1 := by omega
  have h := dfs_grown (zeros j) (ones (m - j))
  have hl : (zeros j).length = j := List.length_replicate
  rw [hl] at h
  rw [e1, dfs_comp, h, dfs, e2, df_ones]
  exact zeros_dfs _ _
theorem NB_iff {n : Nat} {w : List Rat} : NB n w ↔ ∀ qs : List Rat, qs.length = w.length → (∀ s ∈ dfs n qs, 0 ≤ s) → 0 ≤ dot w qs := by
  constructor
  · rintro ⟨h1, h2⟩ qs hl hk
    exact dot_kind hl h1 h2 fun _ => hk
  · intro h
    constructor
    · intro j hj
      have hz := base_dfs (n := n) (m := w.length) hj
      have hlen : (grown (zeros j) (ones (w.length - j))).length = w.length := by
        rw [grown_len]
        simp [zeros, ones]
        omega
      have a1 := h _ hlen (fun s hs => by rw [hz s hs]; exact Rat.le_refl)
      have a2 := h (mulL (-1) (grown (zeros j) (ones (w.length - j)))) (by unfold mulL; rw [List.length_map]; exact hlen) (fun s hs => by
        rw [dfs_mul] at hs
        obtain ⟨q, hq, rfl⟩ := List.mem_map.mp hs
        rw [hz q hq, Rat.mul_zero]
        exact Rat.le_refl)
      rw [dot_mulR] at a2
      rw [sum_lev (by omega)]
      grind
    · intro q hq
      obtain ⟨k, hk, rfl⟩ := List.mem_iff_getElem.mp hq
      have hk' : k < w.length - n := by rw [lev_len] at hk; exact hk
      have e := lev_get hk'
      rw [List.getD_eq_getElem?_getD, List.getElem?_eq_getElem hk] at e
      have e' : (lev n w)[k] = dot w (grown (zeros n) (unitQ (w.length - n) k)) := e
      rw [e']
      refine h _ ?_ ?_
      · rw [grown_len]
        simp [zeros, unitQ]
        omega
      · have hd := dfs_grown (zeros n) (unitQ (w.length - n) k)
        have hl : (zeros n).length = n := List.length_replicate
        rw [hl] at hd
        rw [hd]
        intro s hs
        obtain ⟨i, _, rfl⟩ := List.mem_map.mp hs
        split <;> decide
theorem NB_turn {n : Nat} {w : List Rat} (h : NB n w) : NB n (turn n w) := by
  rw [NB_iff] at h ⊢
  intro qs hl hk
  rw [turn_len] at hl
  rw [dot_turn hl.symm]
  refine h _ (by rw [turn_len]; exact hl) (fun s hs => ?_)
  rw [dfs_turn] at hs
  exact hk s (List.mem_reverse.mp hs)
theorem NB_turn_iff {n : Nat} {w : List Rat} : NB n (turn n w) ↔ NB n w :=
  ⟨fun h => by have := NB_turn h; rw [turn_turn] at this; exact this, NB_turn⟩
end Bk
namespace Bk
open PySem L2
theorem v_is_integer_i (i : Int) : r_is_integer [.int i] = some (.im (.bl true)) := by rfl
theorem v_is_integer_q (q : Rat) : r_is_integer [vq q] = some (.im (.bl false)) := by rfl
theorem v_value_of {d : D} {q : Rat} (h : IsV d q) : r_value_of [d] = some (.im (vq q)) := by
  rcases h with ⟨i, rfl, rfl⟩ | rfl
  · rfl
  · rfl
theorem v_divisor (a b : Int) : r_divisor [.int a, .int b] = some (.im (.int (Nat.gcd a.natAbs b.natAbs : Nat))) := by
  have key := div_loop (xtest (xop opNe (xv 1) (xc (.int 0)))) (xpar 0 1 (xcons (xv 1) (xcons (xop opMod (xv 0) (xv 1)) xnil))) (fun x y => rfl) (fun x y hy => by
    have h0 : decide ((y : Int) ≠ 0) = true := decide_eq_true (by omega)
    have e : xop opMod (xv 0) (xv 1) [.im (.int x), .im (.int y)] = some (.im (.int ((x : Int).fmod y)), [.im (.int x), .im (.int y)]) := xo2 rfl rfl (if_pos h0)
    rw [fmod_nat] at e
    unfold xpar
    rw [xc1 rfl (xc1 e xnil_ok)]
    rfl) (b.natAbs + 1) a.natAbs b.natAbs (Nat.lt_succ_self _)
  have e1 : xpar 0 1 (xcons (xcb cbAbs (xcons (xv 0) xnil)) (xcons (xcb cbAbs (xcons (xv 1) xnil)) xnil)) [.im (.int a), .im (.int b)] = some (.nx, [.im (.int a.natAbs), .im (.int b.natAbs)]) := by
    rw [← abs_nat a, ← abs_nat b]
    rfl
  refine runF_st rfl ?_
  unfold b_divisor
  refine st_nx (by exact e1) ?_
  refine st_nx (by exact key) ?_
  exact st_ret rfl
theorem v_lowest {a b : Int} {k : Nat} (hb : b ≠ 0) (hk : Sm b k) (h9 : k < 9000) : r_lowest [.int a, .int b] = some (.im (vq (Rat.divInt a b))) := by
  have e3 : xif (xtest (xop opLt (xv 1) (xc (.int 0)))) (xun unNeg (xv 2)) (xv 2) [.im (.int a), .im (.int b), .im (.int (Nat.gcd a.natAbs b.natAbs : Nat))] =
      some (.im (.int (if b < 0 then -((Nat.gcd a.natAbs b.natAbs : Nat) : Int) else ((Nat.gcd a.natAbs b.natAbs : Nat) : Int))), [.im (.int a), .im (.int b), .im (.int (Nat.gcd a.natAbs b.natAbs : Nat))]) := by
    unfold xif
    rw [show xtest (xop opLt (xv 1) (xc (.int 0))) [.im (.int a), .im (.int b), .im (.int (Nat.gcd a.natAbs b.natAbs : Nat))] = some (decide (b < 0), [.im (.int a), .im (.int b), .im (.int (Nat.gcd a.natAbs b.natAbs : Nat))]) from rfl]
    simp only [bd_some]
    by_cases h : b < 0
    · rw [if_pos h, decide_eq_true h]; rfl
    · rw [if_neg h, decide_eq_false h]; rfl
  generalize hg : (if b < 0 then -((Nat.gcd a.natAbs b.natAbs : Nat) : Int) else ((Nat.gcd a.natAbs b.natAbs : Nat) : Int)) = g at e3
  have g0 : Nat.gcd a.natAbs b.natAbs ≠ 0 := by
    intro z
    have := Nat.eq_zero_of_gcd_eq_zero_right z
    omega
  have gle : Nat.gcd a.natAbs b.natAbs ≤ b.natAbs := Nat.gcd_le_right _ (by omega)
  have gs : Sm g k := by
    unfold Sm at *
    rw [← hg]
    split <;> omega
  have gn : g ≠ 0 := by rw [← hg]; split <;> omega
  have ok := gs.okDiv gn h9
  have n1 := low_num (n := a) hb
  have n2 := low_den (n := a) hb
  rw [hg] at n1 n2
  rw [vq, ← n1, ← n2]
  refine runF_st rfl ?_
  unfold b_lowest
  refine st_nx (by exact xset_ok (xcall_ok (xc1 rfl (xc1 rfl xnil_ok)) (v_divisor a b))) ?_
  refine st_nx (by exact xset_ok e3) ?_
  exact st_ret (xtup_ok (xc1 (xo2 rfl rfl (if_pos ok)) (xc1 (xo2 rfl rfl (if_pos ok)) xnil_ok)) rfl)
theorem v_added {a b : Rat} {k l : Nat} (ha : Ht a k) (hb : Ht b l) (h9 : k + l < 8990) : r_added [vq a, vq b] = some (.im (vq (a + b))) := by
  rw [← add_divInt]
  exact runF_st rfl (st_ret (xcall_ok (xc1 (xo2 (xo2 rfl rfl (if_pos (ha.1.okMul hb.2 (by omega)))) (xo2 rfl rfl (if_pos (hb.1.okMul ha.2 (by omega)))) rfl) (xc1 (xo2 rfl rfl (if_pos (ha.2.okMul hb.2 (by omega)))) xnil_ok)) (v_lowest (Int.mul_ne_zero (den_ne a) (den_ne b)) (ha.2.mul hb.2) (by omega))))
theorem v_multiplied {a b : Rat} {k l : Nat} (ha : Ht a k) (hb : Ht b l) (h9 : k + l < 8990) : r_multiplied [vq a, vq b] = some (.im (vq (a * b))) := by
  rw [← mul_divInt]
  exact runF_st rfl (st_ret (xcall_ok (xc1 (xo2 rfl rfl (if_pos (ha.1.okMul hb.1 (by omega)))) (xc1 (xo2 rfl rfl (if_pos (ha.2.okMul hb.2 (by omega)))) xnil_ok)) (v_lowest (Int.mul_ne_zero (den_ne a) (den_ne b)) (ha.2.mul hb.2) (by omega))))
end Bk
namespace Bk
open PySem L2
theorem v_summed {d : D} {qs : List Rat} {k : Nat} (hd : seqD d = some (qs.map vq)) (hq : ∀ q ∈ qs, Ht q k) (h9 : 1 + qs.length * (k + 1) + k < 8990) : r_summed [d] = some (.im (vq (sumQ qs))) := by
  obtain ⟨e', h1⟩ := sum_loop (m := r_added) (fun a b k l ha hb h => v_added ha hb h) (x0 := .im d) qs 0 1 .un ht0 hq h9
  refine runF_st rfl ?_
  refine st_nx (by exact xset_e rfl rfl) ?_
  refine st_nx (by exact xfor_ok (xseqI_ok rfl hd) h1) ?_
  exact st_ret rfl
theorem v_values_of {d : D} {ds : List D} (hd : seqD d = some ds) (h : ∀ x ∈ ds, IsV1 x) (hf : ds.length ≤ 100000) : r_values_of [d] = some (.ow (ds.map fun x => vq (valQ x))) := by
  refine runF_st rfl ?_
  refine st_ret (by exact xlc_ok (xseqI_ok rfl hd) rfl (xlcL_map (fun x => vq (valQ x)) fun x hx => ⟨_, _, _, rfl, xcall_ok (xc1 rfl xnil_ok) (v_value_of (h x hx).isV), rfl, rfl⟩) (few_le (by rw [List.length_map]; exact hf)))
theorem v_row_told {d e : D} {as bs : List D} {k l : Nat} (hd : seqD d = some as) (he : seqD e = some bs) (h1 : ∀ x ∈ as, IsV1 x ∧ Ht (valQ x) k) (h2 : ∀ x ∈ bs, IsV1 x ∧ Ht (valQ x) l) (hf : as.length ≤ 100000) (hg : bs.length ≤ 100000)
    (h9 : 1 + as.length * (k + l + 1) + (k + l) < 8990) : r_row_told [d, e] = some (.im (vq (dotQ as bs))) := by
  have hz := zip_f2 (· * ·) (as.map fun x => vq (valQ x)) (bs.map fun x => vq (valQ x))
  rw [zip_val] at hz
  have hl := zip_len as bs
  have hm := dot_ht (fun a ha => (h1 a ha).2) (fun b hb => (h2 b hb).2)
  have hm9 : 1 + ((as.zip bs).map fun p => valQ p.1 * valQ p.2).length * (k + l + 1) + (k + l) < 8990 := by
    have := Nat.mul_le_mul hl (Nat.le_refl (k + l + 1))
    omega
  have hi : ∀ x ∈ ((as.map fun x => vq (valQ x)).zip (bs.map fun x => vq (valQ x))).map (fun p => D.tup [p.1, p.2]), ∃ G1 r G2, tgt [tgn 2, tgn 3] x [.im d, .im e, .un, .un] = some G1 ∧ xcall r_multiplied (xcons (xv 2) (xcons (xv 3) xnil)) G1 = some (r, G2) ∧ r.d = f2 (· * ·) x ∧ wipeG G2 [2, 3] = [.im d, .im e, .un, .un] := fun x hx => by
    obtain ⟨p, hp, rfl⟩ := List.mem_map.mp hx
    obtain ⟨hp1, hp2⟩ := List.of_mem_zip hp
    obtain ⟨a, ha, e1⟩ := List.mem_map.mp hp1
    obtain ⟨b, hb, e2⟩ := List.mem_map.mp hp2
    rw [← e1, ← e2]
    refine ⟨_, _, _, rfl, xcall_ok (xc1 rfl (xc1 rfl xnil_ok)) (v_multiplied (h1 a ha).2 (h2 b hb).2 (by omega)), ?_, rfl⟩
    show vq _ = vq (valQ (vq (valQ a)) * valQ (vq (valQ b)))
    rw [valQ_vq, valQ_vq]
  exact runF_st rfl (st_ret (by exact xcall_ok (xcw (xlc_ok (xzip_ok (xcw (xcall_ok (xc1 rfl xnil_ok) (v_values_of hd (fun x hx => (h1 x hx).1) hf)) (xcw (xcall_ok (xc1 rfl xnil_ok) (v_values_of he (fun x hx => (h2 x hx).1) hg)) xnil_ok)) rfl rfl) rfl
    ((xlcL_map (f2 (· * ·)) hi).trans (congrArg some (congrArg (Prod.mk · _) hz))) (few_le (by rw [List.length_map]; omega))) xnil_ok) (v_summed (d := .lst _) rfl hm hm9)))
end Bk
namespace Bk
open PySem L2
theorem v_w_divisor (a b : Int) : r_w_divisor [.int a, .int b] = some (.im (.int (Nat.gcd a.natAbs b.natAbs : Nat))) := by
  have key := div_loop (xtest (xop opNe (xv 1) (xc (.int 0)))) (xpar 0 1 (xcons (xv 1) (xcons (xop opMod (xcb cbInt (xcons (xv 0) xnil)) (xv 1)) xnil))) (fun x y => rfl) (fun x y hy => by
    have h0 : decide ((y : Int) ≠ 0) = true := decide_eq_true (by omega)
    have e : xop opMod (xcb cbInt (xcons (xv 0) xnil)) (xv 1) [.im (.int x), .im (.int y)] = some (.im (.int ((x : Int).fmod y)), [.im (.int x), .im (.int y)]) := xop_ok rfl rfl (if_pos h0)
    rw [fmod_nat] at e
    unfold xpar
    rw [xcons_ok rfl (xcons_ok e xnil_ok)]
    rfl) (b.natAbs + 1) a.natAbs b.natAbs (Nat.lt_succ_self _)
  have e1 : xpar 0 1 (xcons (xcb cbAbs (xcons (xv 0) xnil)) (xcons (xcb cbAbs (xcons (xv 1) xnil)) xnil)) [.im (.int a), .im (.int b)] = some (.nx, [.im (.int a.natAbs), .im (.int b.natAbs)]) := by
    rw [← abs_nat a, ← abs_nat b]
    rfl
  refine runF_st rfl ?_
  refine st_nx (by exact e1) ?_
  refine st_nx (by exact key) ?_
  exact st_ret rfl
theorem v_w_low {a b : Int} {k : Nat} (hb : b ≠ 0) (hk : Sm b k) (h9 : k < 9000) : r_w_low [.int a, .int b] = some (.im (vq (Rat.divInt a b))) := by
  have e3 : xif (xtest (xop opGt (xv 1) (xc (.int 0)))) (xc (.int 1)) (xop opSub (xc (.int 0)) (xc (.int 1))) [.im (.int a), .im (.int b), .un] =
      some (.im (.int (if b < 0 then -1 else 1)), [.im (.int a), .im (.int b), .un]) := by
    unfold xif
    rw [show xtest (xop opGt (xv 1) (xc (.int 0))) [.im (.int a), .im (.int b), .un] = some (decide (0 < b), [.im (.int a), .im (.int b), .un]) from rfl]
    simp only [bd_some]
    by_cases h : b < 0
    · rw [if_pos h, decide_eq_false (by omega)]; rfl
    · rw [if_neg h, decide_eq_true (by omega)]; rfl
  have eg : ((Nat.gcd a.natAbs b.natAbs : Nat) : Int) * (if b < 0 then -1 else 1) = (if b < 0 then -((Nat.gcd a.natAbs b.natAbs : Nat) : Int) else ((Nat.gcd a.natAbs b.natAbs : Nat) : Int)) := by
    split <;> omega
  have g0 : Nat.gcd a.natAbs b.natAbs ≠ 0 := by
    intro z
    have := Nat.eq_zero_of_gcd_eq_zero_right z
    omega
  have gle : Nat.gcd a.natAbs b.natAbs ≤ b.natAbs := Nat.gcd_le_right _ (by omega)
  have gs1 : Sm ((Nat.gcd a.natAbs b.natAbs : Nat) : Int) k := by
    unfold Sm at *
    omega
  have om : okMul ((Nat.gcd a.natAbs b.natAbs : Nat) : Int) (if b < 0 then -1 else 1) = true := gs1.okMul (l := 2) (by unfold Sm; split <;> decide) (by omega)
  have n1 := low_num (n := a) hb
  have n2 := low_den (n := a) hb
  have gs : Sm (if b < 0 then -((Nat.gcd a.natAbs b.natAbs : Nat) : Int) else ((Nat.gcd a.natAbs b.natAbs : Nat) : Int)) k := by
    unfold Sm at *
    split <;> omega
  have gn : (if b < 0 then -((Nat.gcd a.natAbs b.natAbs : Nat) : Int) else ((Nat.gcd a.natAbs b.natAbs : Nat) : Int)) ≠ 0 := by split <;> omega
  have ok := gs.okDiv gn h9
  rw [vq, ← n1, ← n2]
  rw [← eg] at ok ⊢
  refine runF_st rfl ?_
  refine st_nx (by exact xset_e (xop_ok (xcall_ok (xc1 rfl (xc1 rfl xnil_ok)) (v_w_divisor a b)) e3 (if_pos om)) rfl) ?_
  exact st_ret (by exact xtup_ok (xc1 (xo2 rfl rfl (if_pos ok)) (xc1 (xo2 rfl rfl (if_pos ok)) xnil_ok)) rfl)
theorem v_w_plus {a b : Rat} {k l : Nat} (ha : Ht a k) (hb : Ht b l) (h9 : k + l < 8990) : r_w_plus [vq a, vq b] = some (.im (vq (a + b))) := by
  rw [← add_divInt]
  exact runF_st rfl (st_ret (xcall_ok (xc1 (xo2 (xo2 rfl rfl (if_pos (ha.1.okMul hb.2 (by omega)))) (xo2 rfl rfl (if_pos (hb.1.okMul ha.2 (by omega)))) rfl) (xc1 (xo2 rfl rfl (if_pos (ha.2.okMul hb.2 (by omega)))) xnil_ok)) (v_w_low (Int.mul_ne_zero (den_ne a) (den_ne b)) (ha.2.mul hb.2) (by omega))))
theorem v_w_times {a b : Rat} {k l : Nat} (ha : Ht a k) (hb : Ht b l) (h9 : k + l < 8990) : r_w_times [vq a, vq b] = some (.im (vq (a * b))) := by
  rw [← mul_divInt]
  exact runF_st rfl (st_ret (xcall_ok (xc1 (xo2 rfl rfl (if_pos (ha.1.okMul hb.1 (by omega)))) (xc1 (xo2 rfl rfl (if_pos (ha.2.okMul hb.2 (by omega)))) xnil_ok)) (v_w_low (Int.mul_ne_zero (den_ne a) (den_ne b)) (ha.2.mul hb.2) (by omega))))
theorem v_w_sum {d : D} {qs : List Rat} {k : Nat} (hd : seqD d = some (qs.map vq)) (hq : ∀ q ∈ qs, Ht q k) (h9 : 1 + qs.length * (k + 1) + k < 8990) : r_w_sum [d] = some (.im (vq (sumQ qs))) := by
  obtain ⟨e', h1⟩ := sum_loop (m := r_w_plus) (fun a b k l ha hb h => v_w_plus ha hb h) (x0 := .im d) qs 0 1 .un ht0 hq h9
  refine runF_st rfl ?_
  refine st_nx (by exact xset_e (xtup_ok (xc1 rfl (xc1 rfl xnil_ok)) rfl) rfl) ?_
  refine st_nx (by exact xfor_ok (xseqI_ok rfl hd) h1) ?_
  exact st_ret rfl
theorem v_w_pair {d : D} {q : Rat} (h : IsV d q) : r_w_pair [d] = some (.im (vq q)) := by
  rcases h with ⟨i, rfl, rfl⟩ | rfl
  · rfl
  · rfl
theorem v_w_dot {d e : D} {as bs : List D} {k l : Nat} (hd : seqD d = some as) (he : seqD e = some bs) (h1 : ∀ x ∈ as, IsV1 x ∧ Ht (valQ x) k) (h2 : ∀ x ∈ bs, IsV1 x ∧ Ht (valQ x) l) (hf : as.length ≤ 100000)
    (h9 : 1 + as.length * (k + l + 1) + (k + l) < 8990) : r_w_dot [d, e] = some (.im (vq (dotQ as bs))) := by
  have hz := zip_f2 (· * ·) as bs
  have hl := zip_len as bs
  have hm := dot_ht (fun a ha => (h1 a ha).2) (fun b hb => (h2 b hb).2)
  have hm9 : 1 + ((as.zip bs).map fun p => valQ p.1 * valQ p.2).length * (k + l + 1) + (k + l) < 8990 := by
    have := Nat.mul_le_mul hl (Nat.le_refl (k + l + 1))
    omega
  have hi : ∀ x ∈ (as.zip bs).map (fun p => D.tup [p.1, p.2]), ∃ G1 r G2, tgt [tgn 2, tgn 3] x [.im d, .im e, .un, .un] = some G1 ∧ xcall r_w_times (xcons (xcall r_w_pair (xcons (xv 2) xnil)) (xcons (xcall r_w_pair (xcons (xv 3) xnil)) xnil)) G1 = some (r, G2) ∧ r.d = f2 (· * ·) x ∧ wipeG G2 [2, 3] = [.im d, .im e, .un, .un] := fun x hx => by
    obtain ⟨p, hp, rfl⟩ := List.mem_map.mp hx
    obtain ⟨hp1, hp2⟩ := List.of_mem_zip hp
    exact ⟨_, _, _, rfl, xcall_ok (xc1 (xcall_ok (xc1 rfl xnil_ok) (v_w_pair (h1 _ hp1).1.isV)) (xc1 (xcall_ok (xc1 rfl xnil_ok) (v_w_pair (h2 _ hp2).1.isV)) xnil_ok)) (v_w_times (h1 _ hp1).2 (h2 _ hp2).2 (by omega)), rfl, rfl⟩
  exact runF_st rfl (st_ret (by exact xcall_ok (xcw (xlc_ok (xzip_ok (xc1 rfl (xc1 rfl xnil_ok)) hd he) rfl
    ((xlcL_map (f2 (· * ·)) hi).trans (congrArg some (congrArg (Prod.mk · _) hz))) (few_le (by rw [List.length_map]; omega))) xnil_ok) (v_w_sum (d := .lst _) rfl hm hm9)))
end Bk
namespace Bk
open PySem L2
theorem v_w_choose {bs : List D} {m : Int} (hb : Bx bs) (hm : 0 < m) (hm9 : m < 1000000) : ∃ d bs', r_w_choose bs [.int m] = some (.im (.int d), bs') ∧ 0 ≤ d ∧ d < m ∧ Bx bs' := by
  obtain ⟨g, r, rfl, hr, hr9⟩ := hb
  have om : okDiv m = true := Sm.okDiv (k := 20) (by unfold Sm; omega) (by omega) (by decide)
  have nm : decide (m ≠ 0) = true := decide_eq_true (by omega)
  by_cases hg : 0 < g
  · refine ⟨g.fmod m, [.int (g.fdiv m), .int r], ?_, (fmod_lt g hm).1, (fmod_lt g hm).2, ⟨_, _, rfl, hr, hr9⟩⟩
    have e1 : xtest (xop opGt (xby 0 (xixv 0 (xc (.int 0))) (xop opIx (xv 0) (xc (.int 0)))) (xc (.int 0))) [.bx [.int g, .int r], .im (.int m), .un, .un] = some (true, [.bx [.int g, .int r], .im (.int m), .un, .un]) := by
      rw [← decide_eq_true hg]
      rfl
    have e2 : xput 0 (xop opFdiv (xby 0 (xixv 0 (xc (.int 0))) (xop opIx (xv 0) (xc (.int 0)))) (xv 1)) (xc (.int 0)) [.bx [.int g, .int r], .im (.int m), .im (.int (g.fmod m)), .un] = some (.nx, [.bx [.int (g.fdiv m), .int r], .im (.int m), .im (.int (g.fmod m)), .un]) := by
      unfold xput
      rw [xo2 rfl rfl (if_pos om)]
      rfl
    refine runB_st rfl ?_
    refine sb_rt (by exact (xifs_ok e1).trans (by exact (xseq_nx (xset_e (xo2 rfl rfl (if_pos nm)) rfl)).trans ((xseq_nx e2).trans rfl))) rfl
  · have e1 : xtest (xop opGt (xby 0 (xixv 0 (xc (.int 0))) (xop opIx (xv 0) (xc (.int 0)))) (xc (.int 0))) [.bx [.int g, .int r], .im (.int m), .un, .un] = some (false, [.bx [.int g, .int r], .im (.int m), .un, .un]) := by
      rw [← decide_eq_false hg]
      rfl
    have o1 : okMul r 40014 = true := Sm.okMul (k := 33) (l := 17) (by unfold Sm; omega) (by unfold Sm; decide) (by decide)
    have b1 := fmod_lt (r * 40014 + 67) (b := 2147483563) (by decide)
    generalize h1 : (r * 40014 + 67).fmod 2147483563 = w at b1
    have o2 : okMul w 40692 = true := Sm.okMul (k := 33) (l := 17) (by unfold Sm; omega) (by unfold Sm; decide) (by decide)
    have b2 := fmod_lt (w * 40692 + 5099) (b := 2147483629) (by decide)
    generalize h2 : (w * 40692 + 5099).fmod 2147483629 = u at b2
    have o3 : okMul w 2147483647 = true := Sm.okMul (k := 33) (l := 33) (by unfold Sm; omega) (by unfold Sm; decide) (by decide)
    have o4 : okDiv 8191 = true := Sm.okDiv (k := 20) (by unfold Sm; decide) (by decide) (by decide)
    refine ⟨((w * 2147483647 + (u + 1)).fdiv 8191).fmod m, [.int g, .int (u + 1)], ?_, (fmod_lt _ hm).1, (fmod_lt _ hm).2, ⟨_, _, rfl, by omega, by omega⟩⟩
    refine runB_st rfl ?_
    refine sb_nx (by exact (xifs_ok e1).trans rfl) ?_
    refine sb_nx (G1 := [.bx [.int g, .int r], .im (.int m), .un, .im (.int w)]) (by
      rw [← h1]
      exact xset_e (xo2 (xcb_ok (xc1 (xo2 (xo2 rfl rfl (if_pos o1)) rfl rfl) xnil_ok) rfl) rfl rfl) rfl) ?_
    refine sb_nx (G1 := [.bx [.int g, .int (u + 1)], .im (.int m), .un, .im (.int w)]) ?_ ?_
    · unfold xput
      have e4 : xop opAdd (xop opMod (xcb cbInt (xcons (xop opAdd (xop opMul (xv 3) (xc (.int 40692))) (xc (.int 5099))) xnil)) (xc (.int 2147483629))) (xc (.int 1)) [.bx [.int g, .int r], .im (.int m), .un, .im (.int w)] = some (.im (.int (u + 1)), [.bx [.int g, .int r], .im (.int m), .un, .im (.int w)]) := by
        rw [← h2]
        exact xo2 (xo2 (xcb_ok (xc1 (xo2 (xo2 rfl rfl (if_pos o2)) rfl rfl) xnil_ok) rfl) rfl rfl) rfl rfl
      rw [e4]
      rfl
    · exact sb_ret (G1 := [.im (.int m), .un, .im (.int w)]) (by exact xo2 (xcb_ok (xc1 (xo2 (xo2 (xo2 rfl rfl (if_pos o3)) rfl rfl) rfl (o_div o4)) xnil_ok) rfl) rfl (if_pos nm))
end Bk
namespace Bk
open PySem L2
theorem v_w_seed {ns : List Int} {k : Int} (hk : 0 ≤ k) (h9 : k < 64) : ∃ bs, r_w_seed [.frz (ns.map .int), .int k] = some (.ow bs) ∧ Bx bs := by
  have tail : ∀ c : Int, ∃ bs, Bx bs ∧ outF ((xseq (xset 3 (xif (xtest (xop opGe (xv 2) (xop opPow (xc (.int 10)) (xc (.int 18))))) (xv 2) (xc (.int 0))))
  (xret (xlst (xcons (xv 3) (xcons (xop opAdd (xop opMod (xcb cbInt (xcons (xop opAdd (xop opMul (xop opMod (xcb cbInt (xcons (xv 2) xnil)) (xc (.int 2147483629))) (xc (.int 48271))) (xop opMul (xc (.int 44017)) (xv 1))) xnil)) (xc (.int 2147483629))) (xc (.int 1))) xnil))))) [.im (.frz (ns.map .int)), .im (.int k), .im (.int c), .un]) = some (.ow bs) := fun c => by
    have b1 := fmod_lt c (b := 2147483629) (by decide)
    generalize h1 : c.fmod 2147483629 = w at b1
    have o1 : okMul w 48271 = true := Sm.okMul (k := 33) (l := 17) (by unfold Sm; omega) (by unfold Sm; decide) (by decide)
    have o2 : okMul 44017 k = true := Sm.okMul (k := 17) (l := 7) (by unfold Sm; decide) (by unfold Sm; omega) (by decide)
    have b2 := fmod_lt (w * 48271 + 44017 * k) (b := 2147483629) (by decide)
    generalize h2 : (w * 48271 + 44017 * k).fmod 2147483629 = u at b2
    have e3 : xset 3 (xif (xtest (xop opGe (xv 2) (xop opPow (xc (.int 10)) (xc (.int 18))))) (xv 2) (xc (.int 0))) [.im (.frz (ns.map .int)), .im (.int k), .im (.int c), .un] = some (.nx, [.im (.frz (ns.map .int)), .im (.int k), .im (.int c), .im (.int (if 10 ^ 18 ≤ c then c else 0))]) := by
      have t : xtest (xop opGe (xv 2) (xop opPow (xc (.int 10)) (xc (.int 18)))) [.im (.frz (ns.map .int)), .im (.int k), .im (.int c), .un] = some (decide ((10 : Int) ^ 18 ≤ c), [.im (.frz (ns.map .int)), .im (.int k), .im (.int c), .un]) := xtest_ok (xo2 rfl (xo2 rfl rfl (o_pow (by decide))) rfl)
      by_cases h : (10 : Int) ^ 18 ≤ c
      · rw [decide_eq_true h] at t
        rw [if_pos h]
        exact xset_e ((xif_ok t).trans rfl) rfl
      · rw [decide_eq_false h] at t
        rw [if_neg h]
        exact xset_e ((xif_ok t).trans rfl) rfl
    refine ⟨[.int (if 10 ^ 18 ≤ c then c else 0), .int (u + 1)], ⟨_, _, rfl, by omega, by omega⟩, ?_⟩
    refine st_nx e3 ?_
    have e4 : xop opAdd (xop opMod (xcb cbInt (xcons (xop opAdd (xop opMul (xop opMod (xcb cbInt (xcons (xv 2) xnil)) (xc (.int 2147483629))) (xc (.int 48271))) (xop opMul (xc (.int 44017)) (xv 1))) xnil)) (xc (.int 2147483629))) (xc (.int 1)) [.im (.frz (ns.map .int)), .im (.int k), .im (.int c), .im (.int (if 10 ^ 18 ≤ c then c else 0))] = some (.im (.int (u + 1)), [.im (.frz (ns.map .int)), .im (.int k), .im (.int c), .im (.int (if 10 ^ 18 ≤ c then c else 0))]) := by
      rw [← h2]
      have e5 : xop opMod (xcb cbInt (xcons (xv 2) xnil)) (xc (.int 2147483629)) [.im (.frz (ns.map .int)), .im (.int k), .im (.int c), .im (.int (if 10 ^ 18 ≤ c then c else 0))] = some (.im (.int w), [.im (.frz (ns.map .int)), .im (.int k), .im (.int c), .im (.int (if 10 ^ 18 ≤ c then c else 0))]) := by
        rw [← h1]
        exact xo2 (xcb_ok (xc1 rfl xnil_ok) rfl) rfl (o_mod (by decide))
      exact xo2 (xo2 (xcb_ok (xc1 (xo2 (xo2 e5 rfl (o_mul o1)) (xo2 rfl rfl (o_mul o2)) rfl) xnil_ok) rfl) rfl (o_mod (by decide))) rfl rfl
    exact st_ret (xlst_ok (xc1 rfl (xc1 e4 xnil_ok)) rfl)
  have cell : ∀ i : Int, 0 ≤ i → i < (ns.length : Int) → ∃ c : Int, opIx (.frz (ns.map .int)) (.int i) = some (.im (.int c)) := fun i h0 h1 => by
    obtain ⟨x, hx, hm⟩ := atI_ok (xs := ns.map D.int) (i := i) h0 (by rw [List.length_map]; exact h1)
    obtain ⟨c, _, rfl⟩ := List.mem_map.mp hm
    refine ⟨c, ?_⟩
    show (atI (ns.map D.int) i).map R.im = _
    rw [hx]
    rfl
  have hlen : cbLen [.frz (ns.map .int)] = some (.im (.int ns.length)) := by
    show some (R.im (.int (((ns.map D.int).length : Nat) : Int))) = _
    rw [List.length_map]
  have om : okMul 8837 k = true := Sm.okMul (k := 15) (l := 7) (by unfold Sm; decide) (by unfold Sm; omega) (by decide)
  have e1 : xset 2 (xop opAdd (xop opMul (xc (.int 8837)) (xv 1)) (xc (.int 71))) [.im (.frz (ns.map .int)), .im (.int k), .un, .un] = some (.nx, [.im (.frz (ns.map .int)), .im (.int k), .im (.int (8837 * k + 71)), .un]) := xset_e (xo2 (xo2 rfl rfl (o_mul om)) rfl rfl) rfl
  have t1 : xtest (xop opLt (xv 1) (xcb cbLen (xcons (xv 0) xnil))) [.im (.frz (ns.map .int)), .im (.int k), .im (.int (8837 * k + 71)), .un] = some (decide (k < (ns.length : Int)), [.im (.frz (ns.map .int)), .im (.int k), .im (.int (8837 * k + 71)), .un]) := xtest_ok (xo2 rfl (xcb_ok (xc1 rfl xnil_ok) hlen) rfl)
  have t2 : xtest (xop opGt (xcb cbLen (xcons (xv 0) xnil)) (xc (.int 0))) [.im (.frz (ns.map .int)), .im (.int k), .im (.int (8837 * k + 71)), .un] = some (decide (0 < (ns.length : Int)), [.im (.frz (ns.map .int)), .im (.int k), .im (.int (8837 * k + 71)), .un]) := xtest_ok (xo2 (xcb_ok (xc1 rfl xnil_ok) hlen) rfl rfl)
  by_cases h : k < (ns.length : Int)
  · rw [decide_eq_true h] at t1
    obtain ⟨c, hc⟩ := cell k hk h
    obtain ⟨bs, hb, ht⟩ := tail (if c < 0 then -c else c)
    exact ⟨bs, runF_st rfl (st_nx (by exact e1) (st_nx (by exact (xifs_ok t1).trans (xset_e (xcb_ok (xc1 (xo2 rfl rfl hc) xnil_ok) rfl) rfl)) ht)), hb⟩
  · rw [decide_eq_false h] at t1
    by_cases h2 : 0 < (ns.length : Int)
    · rw [decide_eq_true h2] at t2
      obtain ⟨f1, f2⟩ := fmod_lt k h2
      obtain ⟨c, hc⟩ := cell (k.fmod ns.length) f1 f2
      have b1 := fmod_lt (if c < 0 then -c else c) (b := 2147483629) (by decide)
      have o1 : okMul ((if c < 0 then -c else c).fmod 2147483629) 46021 = true := Sm.okMul (k := 33) (l := 17) (by unfold Sm; omega) (by unfold Sm; decide) (by decide)
      obtain ⟨bs, hb, ht⟩ := tail (8837 * k + 71 + (if c < 0 then -c else c).fmod 2147483629 * 46021)
      refine ⟨bs, runF_st rfl (st_nx (by exact e1) (st_nx (by exact (xifs_ok t1).trans ((xifs_ok t2).trans (xset_e (xo2 rfl (xo2 (xo2 (xcb_ok (xc1 (xcb_ok (xc1 (xo2 rfl (xo2 (xcb_ok (xc1 rfl xnil_ok) rfl) (xcb_ok (xc1 rfl xnil_ok) hlen) (o_mod (by omega))) hc) xnil_ok) rfl) xnil_ok) rfl) rfl (o_mod (by decide))) rfl (o_mul o1)) rfl) rfl))) ht)), hb⟩
    · rw [decide_eq_false h2] at t2
      obtain ⟨bs, hb, ht⟩ := tail (8837 * k + 71)
      exact ⟨bs, runF_st rfl (st_nx (by exact e1) (st_nx (by exact (xifs_ok t1).trans ((xifs_ok t2).trans rfl)) ht)), hb⟩
end Bk
namespace Bk
open PySem L2
theorem v_w_one_of {bs xs : List D} (hb : Bx bs) (h : 0 < xs.length) (h9 : xs.length < 1000000) : ∃ d bs', r_w_one_of bs [.lst xs] = some (.im d, bs') ∧ d ∈ xs ∧ Bx bs' := by
  obtain ⟨i, bs', h1, h2, h3, h4⟩ := v_w_choose (m := (xs.length : Int)) hb (by omega) (by omega)
  obtain ⟨d, hd, hm⟩ := atI_ok h2 h3
  refine ⟨d, bs', ?_, hm, h4⟩
  have ho : opIx (.lst xs) (.int i) = some (.im d) := by
    show (atI xs i).map R.im = _
    rw [hd]
    rfl
  exact runB_st rfl (sb_ret (G1 := [.im (.lst xs)]) (by exact xo2 rfl (xcallB_ok rfl (xc1 rfl xnil_ok) rfl rfl h1 rfl) ho))
theorem v_w_lineB {bs : List D} {m hi : Int} (hb : Bx bs) (hm : 0 ≤ m) (hm9 : m < 1000) (h0 : 0 ≤ hi) (h9 : hi ≤ 40) : ∃ out bs', r_w_line bs [.int m, .int hi] = some (.ow out, bs') ∧ Bx bs' ∧ (out.length : Int) = m ∧ Lb (6 * hi.toNat) out := by
  have key : ∀ d ∈ rng 0 m.toNat, ∀ (n : Nat) (G : Gam), n < 1000 → (∃ bs out e4 e5, G = [.bx bs, .im (.int m), .im (.int hi), .ow out, e4, e5] ∧ Bx bs ∧ out.length = n ∧ Lb (6 * hi.toNat) out) →
      ∃ G1 G2, tgn 4 d G = some G1 ∧ (xseq (xset 5 (xop opSub (xcallB r_w_choose 0 (xcons (xop opAdd (xop opMul (xc (.int 2)) (xv 2)) (xc (.int 1))) xnil)) (xv 2)))
        (xapp 3 (xif (xtest (xop opGt (xcallB r_w_choose 0 (xcons (xc (.int 3)) xnil)) (xc (.int 0)))) (xv 5) (xcall r_w_low (xcons (xv 5) (xcons (xcallB r_w_one_of 0 (xcons (xlst (xcons (xc (.int 2)) (xcons (xc (.int 3)) xnil))) xnil)) xnil)))))) G1 = some (.nx, G2) ∧
        (∃ bs out e4 e5, G2 = [.bx bs, .im (.int m), .im (.int hi), .ow out, e4, e5] ∧ Bx bs ∧ out.length = n + 1 ∧ Lb (6 * hi.toNat) out) := by
    rintro d - n G hn9 ⟨bs, out, e4, e5, rfl, hb, hn, hl⟩
    obtain ⟨i, b1, c1, c2, c3, c4⟩ := v_w_choose (m := 2 * hi + 1) hb (by omega) (by omega)
    obtain ⟨j, b2, d1, d2, d3, d4⟩ := v_w_choose (m := 3) c4 (by decide) (by decide)
    have om : okMul 2 hi = true := Sm.okMul (k := 3) (l := 8) (by unfold Sm; decide) (by unfold Sm; omega) (by decide)
    have s5 : xset 5 (xop opSub (xcallB r_w_choose 0 (xcons (xop opAdd (xop opMul (xc (.int 2)) (xv 2)) (xc (.int 1))) xnil)) (xv 2)) [.bx bs, .im (.int m), .im (.int hi), .ow out, .im d, e5] = some (.nx, [.bx b1, .im (.int m), .im (.int hi), .ow out, .im d, .im (.int (i - hi))]) :=
      xset_e (xo2 (xcallB_ok rfl (xc1 (xo2 (xo2 rfl rfl (o_mul om)) rfl rfl) xnil_ok) rfl rfl c1 rfl) rfl rfl) rfl
    have t6 : xtest (xop opGt (xcallB r_w_choose 0 (xcons (xc (.int 3)) xnil)) (xc (.int 0))) [.bx b1, .im (.int m), .im (.int hi), .ow out, .im d, .im (.int (i - hi))] = some (decide (0 < j), [.bx b2, .im (.int m), .im (.int hi), .ow out, .im d, .im (.int (i - hi))]) :=
      xtest_ok (xo2 (xcallB_ok rfl (xc1 rfl xnil_ok) rfl rfl d1 rfl) rfl rfl)
    have hs : Sm (i - hi) 8 := by unfold Sm; omega
    by_cases hj : 0 < j
    · rw [decide_eq_true hj] at t6
      refine ⟨_, _, rfl, (xseq_nx s5).trans (xapp_ok rfl ((xif_ok t6).trans rfl) rfl rfl (by omega) rfl), b2, out ++ [.int (i - hi)], .im d, .im (.int (i - hi)), rfl, d4, by simp [hn], hl.push ⟨.inl ⟨_, rfl⟩, Bd.int (by omega)⟩⟩
    · rw [decide_eq_false hj] at t6
      obtain ⟨w, b3, f1, f2, f3⟩ := v_w_one_of (xs := [.int 2, .int 3]) d4 (by decide) (by decide)
      have hw : ∃ z : Int, w = .int z ∧ z ≠ 0 ∧ Sm z 8 ∧ (z = 1 ∨ z = 2 ∨ z = 3) := by
        rcases List.mem_cons.mp f2 with rfl | f2
        · exact ⟨2, rfl, by decide, by unfold Sm; decide, by decide⟩
        · rw [List.mem_singleton.mp f2]
          exact ⟨3, rfl, by decide, by unfold Sm; decide, by decide⟩
      obtain ⟨z, rfl, hz, hz8, hz3⟩ := hw
      refine ⟨_, _, rfl, (xseq_nx s5).trans (xapp_ok rfl ((xif_ok t6).trans (xcall_ok (xc1 rfl (xc1 (xcallB_ok rfl (xcw (xlst_ok (xc1 rfl (xc1 rfl xnil_ok)) rfl) xnil_ok) rfl rfl f1 rfl) xnil_ok)) (v_w_low hz hz8 (by decide)))) rfl rfl (by omega) rfl), b3, out ++ [vq (Rat.divInt (i - hi) z)], .im d, .im (.int (i - hi)), rfl, f3, by simp [hn], hl.push ⟨.inr ⟨_, rfl⟩, ?_⟩⟩
      rw [valQ_vq]
      exact Bd.of hz3 (by omega)
  have hlen : (rng 0 m.toNat).length = m.toNat := by simp [rng]
  obtain ⟨G', g1, bs', out, e4, e5, rfl, g2, g3, g4⟩ := xforL_cnt (tg := tgn 4) (fun (n : Nat) G => ∃ bs out e4 e5, G = [.bx bs, .im (.int m), .im (.int hi), .ow out, e4, e5] ∧ Bx bs ∧ out.length = n ∧ Lb (6 * hi.toNat) out) 1000 (ds := rng 0 m.toNat) (n := 0) (G := [.bx bs, .im (.int m), .im (.int hi), .ow [], .un, .un])
    ⟨bs, [], .un, .un, rfl, hb, rfl, Lb.nil⟩ key (by omega)
  refine ⟨out, bs', ?_, g2, by omega, g4⟩
  have ok : okR m = true := by
    unfold okR
    rw [Bool.and_eq_true]
    exact ⟨decide_eq_true (by omega), decide_eq_true (by omega)⟩
  refine runB_st rfl ?_
  refine sb_nx (by exact xset_e (xlst_ok xnil_ok rfl) rfl) ?_
  refine sb_nx (by exact xfor_ok (xrange1_ok (xc1 rfl xnil_ok) ok) g1) ?_
  exact sb_ret (G1 := [.im (.int m), .im (.int hi), .un, e4, e5]) rfl
theorem v_w_line {bs : List D} {m hi : Int} (hb : Bx bs) (hm : 0 ≤ m) (hm9 : m < 1000) (h0 : 0 ≤ hi) (h9 : hi ≤ 40) : ∃ out bs', r_w_line bs [.int m, .int hi] = some (.ow out, bs') ∧ Bx bs' ∧ (out.length : Int) = m ∧ Ln 8 out := by
  obtain ⟨out, bs', h1, h2, h3, h4⟩ := v_w_lineB hb hm hm9 h0 h9
  exact ⟨out, bs', h1, h2, h3, h4.ln (by decide) (by omega)⟩
end Bk
namespace Bk
open PySem L2
theorem v_is_less {a b : Rat} {k l : Nat} (ha : Ht a k) (hb : Ht b l) (h9 : k + l < 8990) : r_is_less [vq a, vq b] = some (.im (.bl (decide (a < b)))) := by
  have e : decide (a < b) = decide (a.num * (b.den : Int) < b.num * (a.den : Int)) := by
    rw [decide_eq_decide]
    exact Rat.lt_iff a b
  rw [e]
  exact runF_st rfl (st_ret (xo2 (xo2 rfl rfl (o_mul (ha.1.okMul hb.2 (by omega)))) (xo2 rfl rfl (o_mul (hb.1.okMul ha.2 (by omega)))) rfl))
end Bk
namespace Bk
open PySem L2
def outL : Option R → List D
  | some r => (asL r.d).getD []
  | none => []
def isOw : Option R → Bool
  | some (.ow _) => true
  | _ => false
theorem isOw_ok {o : Option R} (h : isOw o = true) : o = some (.ow (outL o)) := by
  unfold isOw at h
  split at h
  · rfl
  · cases h
def isLs : Option R → Bool
  | some (.ow _) => true
  | some (.im (.lst _)) => true
  | _ => false
theorem isLs_ok {o : Option R} (h : isLs o = true) : ∃ r, o = some r ∧ r.d = .lst (outL o) := by
  unfold isLs at h
  split at h
  · exact ⟨_, rfl, rfl⟩
  · exact ⟨_, rfl, rfl⟩
  · cases h
def U (m n k : Nat) : List D := outL (r_unit_row [.int m, .int n, .int k])
def good (m : Nat) (xs : List D) : Bool := decide (xs.length = m) && xs.all fun x => isVb x && smb 8 x
theorem good_ok {m : Nat} {xs : List D} (h : good m xs = true) : xs.length = m ∧ Ln 8 xs := by
  unfold good at h
  rw [Bool.and_eq_true] at h
  refine ⟨of_decide_eq_true h.1, fun x hx => ?_⟩
  have h2 := List.all_eq_true.mp h.2 x hx
  rw [Bool.and_eq_true] at h2
  exact ⟨isVb_ok h2.1, smb_ok h2.2⟩
def chkU (m n k : Nat) : Bool := isOw (r_unit_row [.int m, .int n, .int k]) && good m (U m n k)
theorem unitsU : ((List.range 9).all fun m => (List.range 7).all fun n => (List.range (m - n)).all fun k => chkU m n k) = true := by decide +kernel
theorem unit_u {m n k : Nat} (hm : m < 9) (hn : n < 7) (hk : k < m - n) : r_unit_row [.int m, .int n, .int k] = some (.ow (U m n k)) ∧ (U m n k).length = m ∧ Ln 8 (U m n k) := by
  have h := List.all_eq_true.mp unitsU m (List.mem_range.mpr hm)
  have h := List.all_eq_true.mp h n (List.mem_range.mpr hn)
  have h := List.all_eq_true.mp h k (List.mem_range.mpr hk)
  unfold chkU at h
  rw [Bool.and_eq_true] at h
  exact ⟨isOw_ok h.1, good_ok h.2⟩
theorem dot_eq {as xs ys : List D} (h : xs.map valQ = ys.map valQ) : dotQ as xs = dotQ as ys := by
  rw [dotQ_dot, dotQ_dot, h]
def KQ (as : List D) (n : Nat) : List Rat := (List.range (as.length - n)).map fun k => dotQ as (U as.length n k)
theorem len_any {d : D} {as : List D} (hd : d = .lst as ∨ d = .tup as) : lenD d = some as.length ∧ seqD d = some as := by
  rcases hd with rfl | rfl <;> exact ⟨rfl, rfl⟩
theorem room8 {m kk : Nat} (hm : m < 9) (hk : kk ≤ 300) : 1 + m * (kk + 8 + 1) + (kk + 8) < 3000 := by
  have := Nat.mul_le_mul (Nat.le_of_lt_succ hm) (show kk + 8 + 1 ≤ 309 by omega)
  omega
theorem v_row_kernel {d : D} {as : List D} {n kk : Nat} (hd : d = .lst as ∨ d = .tup as) (hl : Ln kk as) (hk : kk ≤ 300) (hm : as.length < 9) (hn : n < 7) : r_row_kernel [d, .int n] = some (.im (.tup ((KQ as n).map vq))) := by
  obtain ⟨h1, h2⟩ := len_any hd
  have e0 : cbLen [d] = some (.im (.int as.length)) := by
    rcases hd with rfl | rfl <;> rfl
  let f : D → D := fun d => match d with
    | .int k => vq (dotQ as (U as.length n k.toNat))
    | d => d
  have hf : (rng 0 ((as.length : Int) - (n : Int)).toNat).map f = (KQ as n).map vq := by
    unfold rng KQ
    rw [List.map_map, List.map_map, show ((as.length : Int) - (n : Int)).toNat = as.length - n by omega]
    apply List.map_congr_left
    intro i _
    show vq (dotQ as (U as.length n ((0 + (i : Int)).toNat))) = _
    rw [Int.zero_add, Int.toNat_natCast]
    rfl
  have hi : ∀ x ∈ rng 0 ((as.length : Int) - (n : Int)).toNat, ∃ G1 r G2, tgn 3 x [.im d, .im (.int n), .im (.int as.length), .un] = some G1 ∧
      xcall r_row_told (xcons (xv 0) (xcons (xcall r_unit_row (xcons (xv 2) (xcons (xv 1) (xcons (xv 3) xnil)))) xnil)) G1 = some (r, G2) ∧ r.d = f x ∧ wipeG G2 [3] = [.im d, .im (.int n), .im (.int as.length), .un] := fun x hx => by
    obtain ⟨i, hi, rfl⟩ := rng_mem hx
    rw [Int.zero_add]
    obtain ⟨u1, u3⟩ := unit_u hm hn (k := i) (by omega)
    refine ⟨_, _, _, rfl, xcall_ok (xc1 rfl (xcw (xcall_ok (xc1 rfl (xc1 rfl (xc1 rfl xnil_ok))) u1) xnil_ok)) (v_row_told (k := kk) (l := 8) h2 rfl hl u3.2 (by omega) (by omega) (Nat.lt_of_lt_of_le (room8 hm hk) (by decide))), ?_, rfl⟩
    rfl
  refine runF_st rfl ?_
  refine st_nx (by exact xset_e (xcb_ok (xc1 rfl xnil_ok) e0) rfl) ?_
  exact st_ret (by exact xcb_ok (xcw (xlc_ok (xrange1_ok (xc1 (xo2 rfl rfl rfl) xnil_ok) (okR_of (by omega) (by omega))) rfl ((xlcL_map f hi).trans (congrArg some (congrArg (Prod.mk · _) hf))) (few_le (by rw [List.length_map]; unfold KQ; rw [List.length_map, List.length_range]; omega))) xnil_ok) rfl)
theorem KQ_ht {as : List D} {n kk : Nat} (hl : Ln kk as) (hk9 : kk ≤ 300) (hm : as.length < 9) (hn : n < 7) : ∀ q ∈ KQ as n, Ht q 2600 := fun q hq => by
  obtain ⟨k, hk, rfl⟩ := List.mem_map.mp hq
  have hk := List.mem_range.mp hk
  obtain ⟨u1, u3⟩ := unit_u hm hn hk
  have h := sumQ_ht (dot_ht (fun a ha => (hl a ha).2) (fun b hb => (u3.2 b hb).2))
  have hz := zip_len as (U as.length n k)
  refine h.up ?_
  have := Nat.mul_le_mul (Nat.le_trans hz (Nat.le_of_lt_succ hm)) (show kk + 8 + 1 ≤ 309 by omega)
  omega
theorem KQ_len {as : List D} {n : Nat} : (KQ as n).length = as.length - n := by
  unfold KQ
  rw [List.length_map, List.length_range]
end Bk
namespace Bk
open PySem L2
def P (m j : Nat) : List D := outL (r_power_row [.int m, .int j])
def isI : D → Bool
  | .int _ => true
  | _ => false
theorem isI_ok {d : D} (h : isI d = true) : ∃ i, d = .int i := by
  unfold isI at h
  split at h
  · exact ⟨_, rfl⟩
  · cases h
/-- a row with a sign -/
def sg (s : Int) (xs : List D) : List D := xs.map fun x => match x with
  | .int i => .tup [.int (s * i), .int 1]
  | d => d
def negV (xs : List D) : List Rat := xs.map fun x => -valQ x
def chkP (m j : Nat) : Bool := isOw (r_power_row [.int m, .int j]) && good m (P m j) && (P m j).all isI && good m (sg 1 (P m j)) && good m (sg (-1) (P m j)) && decide ((sg 1 (P m j)).map valQ = (P m j).map valQ) && decide ((sg (-1) (P m j)).map valQ = negV (P m j))
theorem powersP : ((List.range 9).all fun m => (List.range (min 6 m)).all fun j => chkP m j) = true := by decide +kernel
theorem power_p {m j : Nat} (hm : m < 9) (hj : j < min 6 m) : r_power_row [.int m, .int j] = some (.ow (P m j)) ∧ ((P m j).length = m ∧ Ln 8 (P m j)) ∧ (∀ x ∈ P m j, ∃ i, x = .int i) ∧ ((sg 1 (P m j)).length = m ∧ Ln 8 (sg 1 (P m j))) ∧ ((sg (-1) (P m j)).length = m ∧ Ln 8 (sg (-1) (P m j))) ∧
    (sg 1 (P m j)).map valQ = (P m j).map valQ ∧ (sg (-1) (P m j)).map valQ = negV (P m j) := by
  have h := List.all_eq_true.mp powersP m (List.mem_range.mpr hm)
  have h := List.all_eq_true.mp h j (List.mem_range.mpr hj)
  unfold chkP at h
  simp only [Bool.and_eq_true] at h
  obtain ⟨⟨⟨⟨⟨⟨h1, h2⟩, h3⟩, h4⟩, h5⟩, h6⟩, h7⟩ := h
  exact ⟨isOw_ok h1, good_ok h2, fun x hx => isI_ok (List.all_eq_true.mp h3 x hx), good_ok h4, good_ok h5, of_decide_eq_true h6, of_decide_eq_true h7⟩
def PQ (as : List D) (j : Nat) : Rat := dotQ as (P as.length j)
def sgn (q : Rat) : Int := if q < 0 then 1 else -1
/-- what the row that refutes is -/
def Ref (as : List D) (n : Nat) (r : D) : Prop :=
  (∃ j, j < min n as.length ∧ PQ as j ≠ 0 ∧ r = .tup (sg (sgn (PQ as j)) (P as.length j))) ∨
  ((∀ j, j < min n as.length → PQ as j = 0) ∧ ((∃ k, k < as.length - n ∧ dotQ as (U as.length n k) < 0 ∧ r = .tup ((U as.length n k).map fun x => vq (valQ x))) ∨
    ((∀ k, k < as.length - n → ¬ dotQ as (U as.length n k) < 0) ∧ r = .non)))
theorem dq_ht {as bs : List D} {kk : Nat} (hl : Ln kk as) (hk : kk ≤ 300) (hb : Ln 8 bs) (hm : as.length < 9) : Ht (dotQ as bs) 2600 := by
  have h := sumQ_ht (dot_ht (fun a ha => (hl a ha).2) (fun b hb' => (hb b hb').2))
  have hz := zip_len as bs
  refine h.up ?_
  have := Nat.mul_le_mul (Nat.le_trans hz (Nat.le_of_lt_succ hm)) (show kk + 8 + 1 ≤ 309 by omega)
  omega
theorem v_row_refuting {d : D} {as : List D} {n kk : Nat} (hd : d = .lst as ∨ d = .tup as) (hl : Ln kk as) (hkk : kk ≤ 300) (hm : as.length < 9) (hn : n < 7) : ∃ r, r_row_refuting [d, .int n] = some (.im r) ∧ Ref as n r := by
  obtain ⟨hd1, hd2⟩ := len_any hd
  have e0 : cbLen [d] = some (.im (.int as.length)) := by
    rcases hd with rfl | rfl <;> rfl
  have emin : (if (as.length : Int) < (n : Int) then (as.length : Int) else (n : Int)) = ((min n as.length : Nat) : Int) := by
    split <;> omega
  let b1 : MS := (xseq (xset 4 (xcall r_power_row (xcons (xv 2) (xcons (xv 3) xnil))))
  (xseq (xset 5 (xcall r_row_told (xcons (xv 0) (xcons (xv 4) xnil))))
  (xifs (xtest (xop opNe (xv 5) (xc c_NOUGHT))) (xseq (xset 6 (xif (xtru (xcall r_is_less (xcons (xv 5) (xcons (xc c_NOUGHT) xnil)))) (xc (.int 1)) (xun unNeg (xc (.int 1)))))
  (xret (xcb cbTuple (xcons (xlc (xseqI (xv 4)) (tgn 8) xtyes (xtup (xcons (xop opMul (xv 6) (xv 8)) (xcons (xc (.int 1)) xnil))) [8]) xnil)))) xnext)))
  have first := xforL_find (tg := tgn 3) (b := b1) (fun G => ∃ x3 x4 x5 x6, G = [.im d, .im (.int n), .im (.int as.length), x3, x4, x5, x6, .un, .un])
    (fun e => ∃ j : Nat, e = .int j ∧ PQ as j = 0) (fun e r => ∃ j : Nat, e = .int j ∧ PQ as j ≠ 0 ∧ r = .im (.tup (sg (sgn (PQ as j)) (P as.length j)))) (ds := rng 0 (min n as.length)) (G := [.im d, .im (.int n), .im (.int as.length), .un, .un, .un, .un, .un, .un]) ⟨_, _, _, _, rfl⟩ (fun e he G hG => by
      obtain ⟨x3, x4, x5, x6, rfl⟩ := hG
      obtain ⟨j, hj, rfl⟩ := rng_mem he
      rw [Int.zero_add]
      obtain ⟨p1, p2, p3, -⟩ := power_p hm (j := j) (by omega)
      refine ⟨_, rfl, ?_⟩
      have told : r_row_told [d, .lst (P as.length j)] = some (.im (vq (PQ as j))) := v_row_told (k := kk) (l := 8) hd2 rfl hl p2.2 (by omega) (by omega) (Nat.lt_of_lt_of_le (room8 hm hkk) (by decide))
      have ht : Ht (PQ as j) 2600 := dq_ht hl hkk p2.2 hm
      have s4 : xset 4 (xcall r_power_row (xcons (xv 2) (xcons (xv 3) xnil))) [.im d, .im (.int n), .im (.int as.length), .im (.int j), x4, x5, x6, .un, .un] = some (.nx, [.im d, .im (.int n), .im (.int as.length), .im (.int j), .ow (P as.length j), x5, x6, .un, .un]) := xset_e (xcall_ok (xc1 rfl (xc1 rfl xnil_ok)) p1) rfl
      have s5 : xset 5 (xcall r_row_told (xcons (xv 0) (xcons (xv 4) xnil))) [.im d, .im (.int n), .im (.int as.length), .im (.int j), .ow (P as.length j), x5, x6, .un, .un] = some (.nx, [.im d, .im (.int n), .im (.int as.length), .im (.int j), .im (.lst (P as.length j)), .im (vq (PQ as j)), x6, .un, .un]) := xset_e (xcall_ok (xc1 rfl (xc1 rfl xnil_ok)) told) rfl
      have t6 : xtest (xop opNe (xv 5) (xc c_NOUGHT)) [.im d, .im (.int n), .im (.int as.length), .im (.int j), .im (.lst (P as.length j)), .im (vq (PQ as j)), x6, .un, .un] = some (!decide (PQ as j = 0), [.im d, .im (.int n), .im (.int as.length), .im (.int j), .im (.lst (P as.length j)), .im (vq (PQ as j)), x6, .un, .un]) :=
        xtest_ok (xo2 (y := vq 0) rfl rfl (by unfold opNe; rw [eq_vq]))
      by_cases z : PQ as j = 0
      · rw [decide_eq_true z] at t6
        exact .inl ⟨_, (xseq_nx s4).trans ((xseq_nx s5).trans ((xifs_ok t6).trans rfl)), ⟨_, _, _, _, rfl⟩, j, rfl, z⟩
      · rw [decide_eq_false z] at t6
        have t7 : xtru (xcall r_is_less (xcons (xv 5) (xcons (xc c_NOUGHT) xnil))) [.im d, .im (.int n), .im (.int as.length), .im (.int j), .im (.lst (P as.length j)), .im (vq (PQ as j)), x6, .un, .un] = some (decide (PQ as j < 0), [.im d, .im (.int n), .im (.int as.length), .im (.int j), .im (.lst (P as.length j)), .im (vq (PQ as j)), x6, .un, .un]) := by
          unfold xtru
          rw [xcall_ok (xc1 rfl (xc1 (d := vq 0) rfl xnil_ok)) (v_is_less ht ht0 (by decide))]
          rfl
        have s6 : xset 6 (xif (xtru (xcall r_is_less (xcons (xv 5) (xcons (xc c_NOUGHT) xnil)))) (xc (.int 1)) (xun unNeg (xc (.int 1)))) [.im d, .im (.int n), .im (.int as.length), .im (.int j), .im (.lst (P as.length j)), .im (vq (PQ as j)), x6, .un, .un] = some (.nx, [.im d, .im (.int n), .im (.int as.length), .im (.int j), .im (.lst (P as.length j)), .im (vq (PQ as j)), .im (.int (sgn (PQ as j))), .un, .un]) := by
          unfold sgn
          by_cases hlt : PQ as j < 0
          · rw [decide_eq_true hlt] at t7
            rw [if_pos hlt]
            exact xset_e ((xif_ok t7).trans rfl) rfl
          · rw [decide_eq_false hlt] at t7
            rw [if_neg hlt]
            exact xset_e ((xif_ok t7).trans rfl) rfl
        have hsg : Sm (sgn (PQ as j)) 2 := by
          unfold sgn Sm
          split <;> decide
        have hi : ∀ x ∈ P as.length j, ∃ G1 r G2, tgn 8 x [.im d, .im (.int n), .im (.int as.length), .im (.int j), .im (.lst (P as.length j)), .im (vq (PQ as j)), .im (.int (sgn (PQ as j))), .un, .un] = some G1 ∧
            xtup (xcons (xop opMul (xv 6) (xv 8)) (xcons (xc (.int 1)) xnil)) G1 = some (r, G2) ∧ r.d = (match x with | .int i => .tup [.int (sgn (PQ as j) * i), .int 1] | d => d) ∧ wipeG G2 [8] = [.im d, .im (.int n), .im (.int as.length), .im (.int j), .im (.lst (P as.length j)), .im (vq (PQ as j)), .im (.int (sgn (PQ as j))), .un, .un] := fun x hx => by
          obtain ⟨i, rfl⟩ := p3 x hx
          have h8 : Sm i 8 := (p2.2 _ hx).2.1
          exact ⟨_, _, _, rfl, xtup_ok (xc1 (xo2 rfl rfl (o_mul (hsg.okMul h8 (by decide)))) (xc1 rfl xnil_ok)) rfl, rfl, rfl⟩
        refine .inr ⟨_, _, (xseq_nx s4).trans ((xseq_nx s5).trans ((xifs_ok t6).trans ((xseq_nx s6).trans (xret_ok (xcb_ok (xcw (xlc_ok (xseqI_ok rfl rfl) rfl (xlcL_map _ hi) (few_le (by rw [List.length_map]; omega))) xnil_ok) rfl))))), j, rfl, z, rfl⟩)
  have emr : xrange1 (xcons (xcb cbMin2 (xcons (xv 1) (xcons (xv 2) xnil))) xnil) [.im d, .im (.int n), .im (.int as.length), .un, .un, .un, .un, .un, .un] = some (rng 0 (min n as.length), [.im d, .im (.int n), .im (.int as.length), .un, .un, .un, .un, .un, .un]) := by
    have h := xrange1_ok (a := xcons (xcb cbMin2 (xcons (xv 1) (xcons (xv 2) xnil))) xnil) (G := [.im d, .im (.int n), .im (.int as.length), .un, .un, .un, .un, .un, .un]) (n := ((min n as.length : Nat) : Int)) (by rw [← emin]; exact xc1 (xcb_ok (xc1 rfl (xc1 rfl xnil_ok)) rfl) xnil_ok) (okR_of (by omega) (by omega))
    rw [Int.toNat_natCast] at h
    exact h
  have s2 : xset 2 (xcb cbLen (xcons (xv 0) xnil)) [.im d, .im (.int n), .un, .un, .un, .un, .un, .un, .un] = some (.nx, [.im d, .im (.int n), .im (.int as.length), .un, .un, .un, .un, .un, .un]) := xset_e (xcb_ok (xc1 rfl xnil_ok) e0) rfl
  rcases first with ⟨G', g1, ⟨x3, x4, x5, x6, rfl⟩, miss⟩ | ⟨e, he, r, G', g1, j, rfl, g2, rfl⟩
  · have all0 : ∀ j, j < min n as.length → PQ as j = 0 := fun j hj => by
      obtain ⟨i, e1, e2⟩ := miss (.int (0 + (j : Int))) (List.mem_map.mpr ⟨j, List.mem_range.mpr hj, rfl⟩)
      have : j = i := by injection e1 with e1; omega
      rw [this]; exact e2
    have second := xforL_find (tg := tgt [(tgn 7), (tgn 8)]) (b := (xifs (xtru (xcall r_is_less (xcons (xv 8) (xcons (xc c_NOUGHT) xnil)))) (xret (xcb cbTuple (xcons (xcall r_values_of (xcons (xcall r_unit_row (xcons (xv 2) (xcons (xv 1) (xcons (xv 7) xnil)))) xnil)) xnil))) xnext))
      (fun G => ∃ x7 x8, G = [.im d, .im (.int n), .im (.int as.length), x3, x4, x5, x6, x7, x8]) (fun e => ∃ k : Nat, e = .tup [.int k, vq (dotQ as (U as.length n k))] ∧ ¬ dotQ as (U as.length n k) < 0)
      (fun e r => ∃ k : Nat, k < as.length - n ∧ dotQ as (U as.length n k) < 0 ∧ r = .im (.tup ((U as.length n k).map fun x => vq (valQ x)))) (ds := enumD 0 ((KQ as n).map vq)) (G := [.im d, .im (.int n), .im (.int as.length), x3, x4, x5, x6, .un, .un]) ⟨_, _, rfl⟩ (fun e he G hG => by
        obtain ⟨x7, x8, rfl⟩ := hG
        obtain ⟨k, hk, ek⟩ := List.mem_iff_getElem.mp he
        rw [enum_len, List.length_map, KQ_len] at hk
        have eg : (KQ as n)[k]'(by rw [KQ_len]; exact hk) = dotQ as (U as.length n k) := by simp [KQ]
        have e2 : (enumD 0 ((KQ as n).map vq))[k]? = some (.tup [.int ((0 + k : Nat) : Int), vq (dotQ as (U as.length n k))]) := enum_get (by rw [List.getElem?_map, List.getElem?_eq_getElem (by rw [KQ_len]; exact hk), eg]; rfl)
        rw [List.getElem?_eq_getElem (by rw [enum_len, List.length_map, KQ_len]; exact hk), ek, Nat.zero_add] at e2
        have e2 := Option.some.inj e2
        subst e2
        obtain ⟨u1, u2⟩ := unit_u hm hn hk
        refine ⟨_, rfl, ?_⟩
        have t7 : xtru (xcall r_is_less (xcons (xv 8) (xcons (xc c_NOUGHT) xnil))) [.im d, .im (.int n), .im (.int as.length), x3, x4, x5, x6, .im (.int k), .im (vq (dotQ as (U as.length n k)))] = some (decide (dotQ as (U as.length n k) < 0), [.im d, .im (.int n), .im (.int as.length), x3, x4, x5, x6, .im (.int k), .im (vq (dotQ as (U as.length n k)))]) := by
          unfold xtru
          rw [xcall_ok (xc1 rfl (xc1 (d := vq 0) rfl xnil_ok)) (v_is_less (dq_ht hl hkk u2.2 hm) ht0 (by decide))]
          rfl
        by_cases z : dotQ as (U as.length n k) < 0
        · rw [decide_eq_true z] at t7
          exact .inr ⟨_, _, (xifs_ok t7).trans (xret_ok (xcb_ok (xcw (xcall_ok (xcw (xcall_ok (xc1 rfl (xc1 rfl (xc1 rfl xnil_ok))) u1) xnil_ok) (v_values_of (d := .lst _) rfl (fun x hx => (u2.2 x hx).1) (by omega))) xnil_ok) rfl)), k, hk, z, rfl⟩
        · rw [decide_eq_false z] at t7
          exact .inl ⟨_, (xifs_ok t7).trans rfl, ⟨_, _, rfl⟩, k, rfl, z⟩)
    have en : xenumA (xcons (xcall r_row_kernel (xcons (xv 0) (xcons (xv 1) xnil))) xnil) [.im d, .im (.int n), .im (.int as.length), x3, x4, x5, x6, .un, .un] = some (enumD 0 ((KQ as n).map vq), [.im d, .im (.int n), .im (.int as.length), x3, x4, x5, x6, .un, .un]) := by
      unfold xenumA
      rw [xc1 (xcall_ok (xc1 rfl (xc1 rfl xnil_ok)) (v_row_kernel hd hl hkk hm hn)) xnil_ok]
      rfl
    rcases second with ⟨G'', k1, -, miss2⟩ | ⟨e, he, r, G'', k1, k, k2, k3, rfl⟩
    · refine ⟨.non, runF_st rfl (st_nx (by exact s2) (st_nx (by exact xfor_ok emr g1) (st_nx (by exact xfor_ok en k1) (st_ret rfl)))), .inr ⟨all0, .inr ⟨fun k hk => ?_, rfl⟩⟩⟩
      have eg : (KQ as n)[k]'(by rw [KQ_len]; exact hk) = dotQ as (U as.length n k) := by simp [KQ]
      have e2 : (enumD 0 ((KQ as n).map vq))[k]? = some (.tup [.int ((0 + k : Nat) : Int), vq (dotQ as (U as.length n k))]) := enum_get (by rw [List.getElem?_map, List.getElem?_eq_getElem (by rw [KQ_len]; exact hk), eg]; rfl)
      obtain ⟨i, e3, e4⟩ := miss2 _ (List.mem_of_getElem? e2)
      have : k = i := by injection e3 with e3; injection e3 with e3 _; injection e3 with e3; omega
      rw [this]; exact e4
    · exact ⟨_, runF_st rfl (st_nx (by exact s2) (st_nx (by exact xfor_ok emr g1) (st_rt (by exact xfor_ok en k1)))), .inr ⟨all0, .inl ⟨k, k2, k3, rfl⟩⟩⟩
  · refine ⟨_, runF_st rfl (st_nx (by exact s2) (st_rt (by exact xfor_ok emr g1))), .inl ⟨j, ?_, g2, rfl⟩⟩
    obtain ⟨i, hi, e1⟩ := rng_mem he
    injection e1 with e1
    omega
theorem Ref.none {as : List D} {n : Nat} {r : D} (h : Ref as n r) : isN r = true ↔ ((∀ j, j < min n as.length → PQ as j = 0) ∧ ∀ k, k < as.length - n → ¬ dotQ as (U as.length n k) < 0) := by
  rcases h with ⟨j, h1, h2, rfl⟩ | ⟨h0, ⟨k, h1, h2, rfl⟩ | ⟨h1, rfl⟩⟩
  · exact ⟨fun z => (nomatch z), fun z => absurd (z.1 j h1) h2⟩
  · exact ⟨fun z => (nomatch z), fun z => absurd h2 (z.2 k h1)⟩
  · exact ⟨fun _ => ⟨h0, h1⟩, fun _ => rfl⟩
theorem v_row_never_below {d : D} {n : Nat} {r : D} (h : r_row_refuting [d, .int n] = some (.im r)) : r_row_never_below [d, .int n] = some (.im (.bl (isN r))) := by
  have e : opIs r .non = some (.im (.bl (isN r))) := by
    unfold opIs
    have : isD r .non = some (isN r) := by cases r <;> rfl
    rw [this]
  exact runF_st rfl (st_ret (xo2 (xcall_ok (xc1 rfl (xc1 rfl xnil_ok)) h) rfl e))
end Bk
namespace Bk
open PySem L2
theorem chkUg : ((List.range 9).all fun m => (List.range 7).all fun n => (List.range (m - n)).all fun k => decide ((U m n k).map valQ = grown (zeros n) (unitQ (m - n) k))) = true := by decide +kernel
theorem chkPg : ((List.range 9).all fun m => (List.range (min 6 m)).all fun j => decide ((P m j).map valQ = grown (zeros j) (ones (m - j)))) = true := by decide +kernel
theorem U_grown {m n k : Nat} (hm : m < 9) (hn : n < 7) (hk : k < m - n) : (U m n k).map valQ = grown (zeros n) (unitQ (m - n) k) := by
  have h := List.all_eq_true.mp chkUg m (List.mem_range.mpr hm)
  have h := List.all_eq_true.mp h n (List.mem_range.mpr hn)
  exact of_decide_eq_true (List.all_eq_true.mp h k (List.mem_range.mpr hk))
theorem P_grown {m j : Nat} (hm : m < 9) (hj : j < min 6 m) : (P m j).map valQ = grown (zeros j) (ones (m - j)) := by
  have h := List.all_eq_true.mp chkPg m (List.mem_range.mpr hm)
  exact of_decide_eq_true (List.all_eq_true.mp h j (List.mem_range.mpr hj))
theorem PQ_lev {as : List D} {j : Nat} (hm : as.length < 9) (hj : j < min 6 as.length) : PQ as j = sumR (lev j (as.map valQ)) := by
  unfold PQ
  rw [dotQ_dot, P_grown hm hj, sum_lev (by rw [List.length_map]; omega), List.length_map]
theorem UQ_lev {as : List D} {n k : Nat} (hm : as.length < 9) (hn : n < 7) (hk : k < as.length - n) : dotQ as (U as.length n k) = (lev n (as.map valQ)).getD k 0 := by
  rw [dotQ_dot, U_grown hm hn hk, lev_get (by rw [List.length_map]; exact hk), List.length_map]
theorem Ref.lev {as : List D} {n : Nat} {r : D} (h : Ref as n r) (hm : as.length < 9) (hn : n < 7) : isN r = true ↔ ((∀ j, j < min n as.length → sumR (Bk.lev j (as.map valQ)) = 0) ∧ ∀ q ∈ Bk.lev n (as.map valQ), 0 ≤ q) := by
  rw [h.none]
  constructor
  · rintro ⟨h1, h2⟩
    refine ⟨fun j hj => by rw [← PQ_lev hm (by omega)]; exact h1 j hj, fun q hq => ?_⟩
    obtain ⟨k, hk, rfl⟩ := List.mem_iff_getElem.mp hq
    rw [lev_len, List.length_map] at hk
    have := h2 k hk
    rw [UQ_lev hm hn hk, List.getD_eq_getElem?_getD, List.getElem?_eq_getElem (by rw [lev_len, List.length_map]; exact hk)] at this
    exact Rat.not_lt.mp this
  · rintro ⟨h1, h2⟩
    refine ⟨fun j hj => by rw [PQ_lev hm (by omega)]; exact h1 j hj, fun k hk => ?_⟩
    rw [UQ_lev hm hn hk, List.getD_eq_getElem?_getD, List.getElem?_eq_getElem (by rw [lev_len, List.length_map]; exact hk)]
    exact Rat.not_lt.mpr (h2 _ (List.getElem_mem _))
end Bk
namespace Bk
open PySem L2
theorem v_less_by {a b : Rat} {k l : Nat} (ha : Ht a k) (hb : Ht b l) (h9 : k + l < 8990) : r_less_by [vq a, vq b] = some (.im (vq (a - b))) := by
  rw [← sub_divInt]
  exact runF_st rfl (st_ret (xcall_ok (xc1 (xo2 (xo2 rfl rfl (if_pos (ha.1.okMul hb.2 (by omega)))) (xo2 rfl rfl (if_pos (hb.1.okMul ha.2 (by omega)))) rfl) (xc1 (xo2 rfl rfl (if_pos (ha.2.okMul hb.2 (by omega)))) xnil_ok)) (v_lowest (Int.mul_ne_zero (den_ne a) (den_ne b)) (ha.2.mul hb.2) (by omega))))
def dfB : MS := (xset 0 (xlc (xzipA (xcons (xv 0) (xcons (xsl slA (xv 0) (xpart (xc (.int 1))) xnop) xnil))) (tgt [(tgn 3), (tgn 4)]) xtyes (xcall r_less_by (xcons (xv 4) (xcons (xv 3) xnil))) [3, 4]))
theorem xsl_ok {o : D → Option Int → Option Int → Option R} {a : M R} {l h : MO} {G G1 G2 G3 : Gam} {x r : R} {i j : Option Int} (ha : a G = some (x, G1)) (hl : l G1 = some (i, G2)) (hh : h G2 = some (j, G3)) (ho : o x.d i j = some r) : xsl o a l h G = some (r, G3) := by
  unfold xsl
  rw [ha]
  simp only [bd_some, hl, hh, ho]
theorem v_dfB {qs : List Rat} {k : Nat} {x0 x1 x2 : Ent} (h0 : x0 = .ow (qs.map vq) ∨ x0 = .im (.lst (qs.map vq))) (hq : ∀ q ∈ qs, Ht q k) (h9 : k + k < 8990) (hl : qs.length ≤ 100000) :
    dfB [x0, x1, x2, .un, .un] = some (.nx, [.ow ((df qs).map vq), x1, x2, .un, .un]) := by
  let f : D → D := fun d => match d with
    | .tup [x, y] => vq (valQ y - valQ x)
    | d => d
  have hf : (((qs.map vq).zip ((qs.map vq).drop 1)).map fun p => D.tup [p.1, p.2]).map f = (df qs).map vq := by
    rw [← df_zip, ← List.map_drop, List.zip_map, List.map_map, List.map_map, List.map_map]
    apply List.map_congr_left
    intro p _
    show vq (valQ (vq p.2) - valQ (vq p.1)) = vq (p.2 - p.1)
    rw [valQ_vq, valQ_vq]
  have hi : ∀ x ∈ ((qs.map vq).zip ((qs.map vq).drop 1)).map (fun p => D.tup [p.1, p.2]), ∃ G1 r G2, tgt [tgn 3, tgn 4] x [.im (.lst (qs.map vq)), x1, x2, .un, .un] = some G1 ∧ xcall r_less_by (xcons (xv 4) (xcons (xv 3) xnil)) G1 = some (r, G2) ∧ r.d = f x ∧ wipeG G2 [3, 4] = [.im (.lst (qs.map vq)), x1, x2, .un, .un] := fun x hx => by
    obtain ⟨p, hp, rfl⟩ := List.mem_map.mp hx
    obtain ⟨h1, h2⟩ := List.of_mem_zip hp
    obtain ⟨a, ha, ea⟩ := List.mem_map.mp h1
    obtain ⟨b, hb, eb⟩ := List.mem_map.mp (List.mem_of_mem_drop h2)
    rw [← ea, ← eb]
    refine ⟨_, _, _, rfl, xcall_ok (xc1 rfl (xc1 rfl xnil_ok)) (v_less_by (hq b hb) (hq a ha) h9), ?_, rfl⟩
    show vq (b - a) = vq (valQ (vq b) - valQ (vq a))
    rw [valQ_vq, valQ_vq]
  have hz : xzipA (xcons (xv 0) (xcons (xsl slA (xv 0) (xpart (xc (.int 1))) xnop) xnil)) [x0, x1, x2, .un, .un] = some (((qs.map vq).zip ((qs.map vq).drop 1)).map (fun p => D.tup [p.1, p.2]), [.im (.lst (qs.map vq)), x1, x2, .un, .un]) := by
    rcases h0 with rfl | rfl
    · exact xzip_ok (xc1 rfl (xcw (xsl_ok rfl rfl rfl (sl1 _)) xnil_ok)) rfl rfl
    · exact xzip_ok (xc1 rfl (xcw (xsl_ok rfl rfl rfl (sl1 _)) xnil_ok)) rfl rfl
  have hlen := df_len qs
  exact xset_e (xlc_ok hz rfl ((xlcL_map f hi).trans (congrArg some (congrArg (Prod.mk · _) hf))) (few_le (by rw [List.length_map]; omega))) rfl
theorem df_loop {x1 : Ent} : ∀ (n : Nat) {ds : List D}, ds.length = n → ∀ {qs : List Rat} {k : Nat} {x0 x2 : Ent}, (x0 = .ow (qs.map vq) ∨ x0 = .im (.lst (qs.map vq))) → (∀ q ∈ qs, Ht q k) → hgt k n < 4490 → qs.length ≤ 100000 →
    ∃ y0 y2, xforL (tgn 2) dfB ds [x0, x1, x2, .un, .un] = some (.nx, [y0, x1, y2, .un, .un]) ∧ (y0 = .ow ((dfs n qs).map vq) ∨ y0 = .im (.lst ((dfs n qs).map vq)))
  | 0, [], _, qs, k, x0, x2, h0, _, _, _ => ⟨x0, x2, rfl, h0⟩
  | n + 1, d :: ds, hd, qs, k, x0, x2, h0, hq, h9, hl => by
    have hk := hgt_le (n + 1) k
    obtain ⟨y0, y2, h1, h2⟩ := df_loop n (ds := ds) (by simpa using hd) (x0 := .ow ((df qs).map vq)) (x2 := .im d) (.inl rfl) (df_ht hq) h9 (by rw [df_len]; omega)
    exact ⟨y0, y2, (xforL_nx rfl (v_dfB h0 hq (by omega) hl)).trans h1, h2⟩
theorem v_differences {qs : List Rat} {k n : Nat} (hq : ∀ q ∈ qs, Ht q k) (hn : n < 1000) (h9 : hgt k n < 4490) (hl : qs.length ≤ 100000) : ∃ r, r_differences [.lst (qs.map vq), .int n] = some r ∧ r.d = .lst ((dfs n qs).map vq) := by
  obtain ⟨y0, y2, h1, h2⟩ := df_loop (x1 := .im (.int n)) n (ds := rng 0 n) rng_ln (x0 := .im (.lst (qs.map vq))) (x2 := .un) (.inr rfl) hq h9 hl
  have e1 : xrange1 (xcons (xv 1) xnil) [.im (.lst (qs.map vq)), .im (.int n), .un, .un, .un] = some (rng 0 n, [.im (.lst (qs.map vq)), .im (.int n), .un, .un, .un]) := by
    have h := xrange1_ok (a := xcons (xv 1) xnil) (G := [.im (.lst (qs.map vq)), .im (.int n), .un, .un, .un]) (n := (n : Int)) (xc1 rfl xnil_ok) (okR_of (by omega) (by omega))
    rw [Int.toNat_natCast] at h
    exact h
  rcases h2 with rfl | rfl
  · exact ⟨.ow _, runF_st rfl (st_nx (by exact xfor_ok e1 h1) (st_ret rfl)), rfl⟩
  · exact ⟨.im _, runF_st rfl (st_nx (by exact xfor_ok e1 h1) (st_ret rfl)), rfl⟩
theorem v_is_kind {d : D} {as : List D} {k n : Nat} (hd : seqD d = some as) (h1 : ∀ x ∈ as, IsV1 x ∧ Ht (valQ x) k) (hn : n < 1000) (h9 : hgt k n < 4490) (hl : as.length ≤ 100000) : r_is_kind [d, .int n] = some (.im (.bl (kd n (as.map valQ)))) := by
  have hq : ∀ q ∈ as.map valQ, Ht q k := fun q hq => by
    obtain ⟨x, hx, rfl⟩ := List.mem_map.mp hq
    exact (h1 x hx).2
  have ev : (as.map fun x => vq (valQ x)) = (as.map valQ).map vq := by rw [List.map_map]; rfl
  have v1 := v_values_of hd (fun x hx => (h1 x hx).1) hl
  rw [ev] at v1
  obtain ⟨r, r1, r2⟩ := v_differences hq hn h9 (by rw [List.length_map]; exact hl)
  let f : D → D := fun d => .bl (decide (valQ d < 0))
  have hf : ((dfs n (as.map valQ)).map vq).map f = ((dfs n (as.map valQ)).map fun q => decide (q < 0)).map .bl := by
    rw [List.map_map, List.map_map]
    apply List.map_congr_left
    intro q _
    show D.bl (decide (valQ (vq q) < 0)) = _
    rw [valQ_vq]
    rfl
  have hi : ∀ x ∈ (dfs n (as.map valQ)).map vq, ∃ G1 r G2, tgn 2 x [.im d, .im (.int n), .un] = some G1 ∧ xcall r_is_less (xcons (xv 2) (xcons (xc c_NOUGHT) xnil)) G1 = some (r, G2) ∧ r.d = f x ∧ wipeG G2 [2] = [.im d, .im (.int n), .un] := fun x hx => by
    obtain ⟨q, hq', rfl⟩ := List.mem_map.mp hx
    have := hgt_le n k
    refine ⟨_, _, _, rfl, xcall_ok (xc1 rfl (xc1 (d := vq 0) rfl xnil_ok)) (v_is_less (dfs_ht hq q hq') ht0 (by omega)), ?_, rfl⟩
    show D.bl (decide (q < 0)) = .bl (decide (valQ (vq q) < 0))
    rw [valQ_vq]
  have hit : xseqI (xcall r_differences (xcons (xcall r_values_of (xcons (xv 0) xnil)) (xcons (xv 1) xnil))) [.im d, .im (.int n), .un] = some ((dfs n (as.map valQ)).map vq, [.im d, .im (.int n), .un]) := by
    unfold xseqI
    rw [xcall_ok (xcw (xcall_ok (xc1 rfl xnil_ok) v1) (xc1 rfl xnil_ok)) r1]
    simp only [bd_some, r2]
    rfl
  have hlen := dfs_len n (as.map valQ)
  rw [List.length_map] at hlen
  have hany := any_map ((dfs n (as.map valQ)).map fun q => decide (q < 0))
  rw [List.any_map] at hany
  exact runF_st rfl (st_ret (by exact xvnot_ok (xcb_ok (xcw (xlc_ok hit rfl ((xlcL_map f hi).trans (congrArg some (congrArg (Prod.mk · _) hf))) (few_le (by rw [List.length_map, List.length_map]; omega))) xnil_ok) hany)))
end Bk
namespace Bk
open PySem L2
theorem v_w_minus {a b : Rat} {k l : Nat} (ha : Ht a k) (hb : Ht b l) (h9 : k + l < 8990) : r_w_minus [vq a, vq b] = some (.im (vq (a - b))) := by
  rw [← sub_divInt]
  exact runF_st rfl (st_ret (xcall_ok (xc1 (xo2 (xo2 rfl rfl (if_pos (ha.1.okMul hb.2 (by omega)))) (xo2 rfl rfl (if_pos (hb.1.okMul ha.2 (by omega)))) rfl) (xc1 (xo2 rfl rfl (if_pos (ha.2.okMul hb.2 (by omega)))) xnil_ok)) (v_w_low (Int.mul_ne_zero (den_ne a) (den_ne b)) (ha.2.mul hb.2) (by omega))))
def wdfB : MS := (xset 2 (xlc (xrange1 (xcons (xop opSub (xcb cbLen (xcons (xv 2) xnil)) (xc (.int 1))) xnil)) (tgn 5) xtyes (xcall r_w_minus (xcons (xop opIx (xv 2) (xop opAdd (xv 5) (xc (.int 1)))) (xcons (xop opIx (xv 2) (xv 5)) xnil))) [5]))
theorem atI_nat {α : Type} {xs : List α} {i : Nat} (h : i < xs.length) : atI xs (i : Int) = xs[i]? := by
  unfold atI ixN
  rw [if_pos (by omega), if_pos (by omega), Int.toNat_natCast]
  rfl
theorem ix_vq {qs : List Rat} {i : Nat} (h : i < qs.length) : opIx (.lst (qs.map vq)) (.int i) = some (.im (vq qs[i])) := by
  show (atI (qs.map vq) (i : Int)).map R.im = _
  rw [atI_nat (by rw [List.length_map]; exact h), List.getElem?_map, List.getElem?_eq_getElem h]
  rfl
theorem v_wdfB {qs : List Rat} {k : Nat} {x0 x1 x2 x3 : Ent} (h0 : x2 = .ow (qs.map vq) ∨ x2 = .im (.lst (qs.map vq))) (hq : ∀ q ∈ qs, Ht q k) (h9 : k + k < 8990) (hl : qs.length ≤ 100000) :
    wdfB [x0, x1, x2, x3, .un, .un] = some (.nx, [x0, x1, .ow ((df qs).map vq), x3, .un, .un]) := by
  let f : D → D := fun d => match d with
    | .int i => vq ((df qs).getD i.toNat 0)
    | d => d
  have elen : ((((qs.map vq).length : Nat) : Int) - 1).toNat = qs.length - 1 := by
    rw [List.length_map]
    omega
  have hf : (rng 0 (qs.length - 1)).map f = (df qs).map vq := by
    apply List.ext_getElem?
    intro i
    unfold rng
    rw [List.getElem?_map, List.getElem?_map, List.getElem?_map]
    by_cases h : i < qs.length - 1
    · have h2 : i < (df qs).length := by rw [df_len]; exact h
      rw [List.getElem?_range h, List.getElem?_eq_getElem h2]
      show some (vq ((df qs).getD ((0 + (i : Int)).toNat) 0)) = _
      rw [Int.zero_add, Int.toNat_natCast, List.getD_eq_getElem?_getD, List.getElem?_eq_getElem h2]
      rfl
    · rw [List.getElem?_eq_none (by simpa using h), List.getElem?_eq_none (by rw [df_len]; omega)]
      rfl
  have hi : ∀ x ∈ rng 0 (qs.length - 1), ∃ G1 r G2, tgn 5 x [x0, x1, .im (.lst (qs.map vq)), x3, .un, .un] = some G1 ∧ xcall r_w_minus (xcons (xop opIx (xv 2) (xop opAdd (xv 5) (xc (.int 1)))) (xcons (xop opIx (xv 2) (xv 5)) xnil)) G1 = some (r, G2) ∧ r.d = f x ∧ wipeG G2 [5] = [x0, x1, .im (.lst (qs.map vq)), x3, .un, .un] := fun x hx => by
    obtain ⟨i, hi, rfl⟩ := rng_mem hx
    rw [Int.zero_add]
    have h1 : i + 1 < qs.length := by omega
    have g1 : opIx (.lst (qs.map vq)) (.int ((i : Int) + 1)) = some (.im (vq qs[i + 1])) := ix_vq (i := i + 1) h1
    refine ⟨_, _, _, rfl, xcall_ok (xc1 (xo2 rfl (xo2 rfl rfl rfl) g1) (xc1 (xo2 rfl rfl (ix_vq (i := i) (by omega))) xnil_ok)) (v_w_minus (hq _ (List.getElem_mem h1)) (hq _ (List.getElem_mem (by omega))) h9), ?_, rfl⟩
    show vq _ = vq ((df qs).getD ((i : Int)).toNat 0)
    rw [Int.toNat_natCast, List.getD_eq_getElem?_getD, df_get qs i h1]
    rfl
  have hlen := df_len qs
  have hr : xrange1 (xcons (xop opSub (xcb cbLen (xcons (xv 2) xnil)) (xc (.int 1))) xnil) [x0, x1, x2, x3, .un, .un] = some (rng 0 (qs.length - 1), [x0, x1, .im (.lst (qs.map vq)), x3, .un, .un]) := by
    rw [← elen]
    have ok : okR ((((qs.map vq).length : Nat) : Int) - 1) = true := okR_of (by omega) (by rw [List.length_map]; omega)
    rcases h0 with rfl | rfl
    · exact xrange1_ok (xc1 (xo2 (xcb_ok (xc1 rfl xnil_ok) rfl) rfl rfl) xnil_ok) ok
    · exact xrange1_ok (xc1 (xo2 (xcb_ok (xc1 rfl xnil_ok) rfl) rfl rfl) xnil_ok) ok
  exact xset_e (xlc_ok hr rfl ((xlcL_map f hi).trans (congrArg some (congrArg (Prod.mk · _) hf))) (few_le (by rw [List.length_map]; omega))) rfl
theorem wdf_loop {x0 x1 : Ent} : ∀ (n : Nat) {ds : List D}, ds.length = n → ∀ {qs : List Rat} {k : Nat} {x2 x3 : Ent}, (x2 = .ow (qs.map vq) ∨ x2 = .im (.lst (qs.map vq))) → (∀ q ∈ qs, Ht q k) → hgt k n < 4490 → qs.length ≤ 100000 →
    ∃ y2 y3, xforL (tgn 3) wdfB ds [x0, x1, x2, x3, .un, .un] = some (.nx, [x0, x1, y2, y3, .un, .un]) ∧ (y2 = .ow ((dfs n qs).map vq) ∨ y2 = .im (.lst ((dfs n qs).map vq)))
  | 0, [], _, qs, k, x2, x3, h0, _, _, _ => ⟨x2, x3, rfl, h0⟩
  | n + 1, d :: ds, hd, qs, k, x2, x3, h0, hq, h9, hl => by
    have hk := hgt_le (n + 1) k
    obtain ⟨y2, y3, h1, h2⟩ := wdf_loop n (ds := ds) (by simpa using hd) (x2 := .ow ((df qs).map vq)) (x3 := .im d) (.inl rfl) (df_ht hq) h9 (by rw [df_len]; omega)
    exact ⟨y2, y3, (xforL_nx rfl (v_wdfB h0 hq (by omega) hl)).trans h1, h2⟩
theorem v_w_differences {d : D} {as : List D} {k n : Nat} (hd : seqD d = some as) (h1 : ∀ x ∈ as, IsV1 x ∧ Ht (valQ x) k) (hn : n < 1000) (h9 : hgt k n < 4490) (hl : as.length ≤ 100000) : ∃ r, r_w_differences [d, .int n] = some r ∧ r.d = .lst ((dfs n (as.map valQ)).map vq) := by
  have hq : ∀ q ∈ as.map valQ, Ht q k := fun q hq => by
    obtain ⟨x, hx, rfl⟩ := List.mem_map.mp hq
    exact (h1 x hx).2
  have ev : (as.map fun x => vq (valQ x)) = (as.map valQ).map vq := by rw [List.map_map]; rfl
  obtain ⟨y2, y3, g1, g2⟩ := wdf_loop (x0 := .im d) (x1 := .im (.int n)) n (ds := rng 0 n) rng_ln (x2 := .ow ((as.map valQ).map vq)) (x3 := .un) (.inl rfl) hq h9 (by rw [List.length_map]; exact hl)
  have e1 : xrange1 (xcons (xv 1) xnil) [.im d, .im (.int n), .ow ((as.map valQ).map vq), .un, .un, .un] = some (rng 0 n, [.im d, .im (.int n), .ow ((as.map valQ).map vq), .un, .un, .un]) := by
    have h := xrange1_ok (a := xcons (xv 1) xnil) (G := [.im d, .im (.int n), .ow ((as.map valQ).map vq), .un, .un, .un]) (n := (n : Int)) (xc1 rfl xnil_ok) (okR_of (by omega) (by omega))
    rw [Int.toNat_natCast] at h
    exact h
  have s2 : xset 2 (xlc (xseqI (xv 0)) (tgn 4) xtyes (xcall r_w_pair (xcons (xv 4) xnil)) [4]) [.im d, .im (.int n), .un, .un, .un, .un] = some (.nx, [.im d, .im (.int n), .ow ((as.map valQ).map vq), .un, .un, .un]) := by
    rw [← ev]
    exact xset_e (xlc_ok (xseqI_ok rfl hd) rfl (xlcL_map (fun x => vq (valQ x)) fun x hx => ⟨_, _, _, rfl, xcall_ok (xc1 rfl xnil_ok) (v_w_pair (h1 x hx).1.isV), rfl, rfl⟩) (few_le (by rw [List.length_map]; exact hl))) rfl
  rcases g2 with rfl | rfl
  · exact ⟨.ow _, runF_st rfl (st_nx s2 (st_nx (by exact xfor_ok e1 g1) (st_ret rfl))), rfl⟩
  · exact ⟨.im _, runF_st rfl (st_nx s2 (st_nx (by exact xfor_ok e1 g1) (st_ret rfl))), rfl⟩
end Bk
namespace Bk
open PySem L2
def growB : MS := (xapp 4 (xcall r_w_plus (xcons (xby 4 (xixv 4 (xun unNeg (xc (.int 1)))) (xop opIx (xv 4) (xun unNeg (xc (.int 1))))) (xcons (xv 5) xnil))))
theorem in_loop {x0 x1 x2 x3 : Ent} {B : Nat} : ∀ (xs pre : List Rat) (f : Rat) (F : Nat) (e5 : Ent), Bd f F → (∀ x ∈ xs, Bd x B) → F + xs.length * B + B < 2 ^ 64 → pre.length + xs.length < 90000 →
    ∃ e', xforL (tgn 5) growB (xs.map vq) [x0, x1, x2, x3, .ow ((pre ++ [f]).map vq), e5] = some (.nx, [x0, x1, x2, x3, .ow ((pre ++ cum f xs).map vq), e'])
  | [], pre, f, F, e5, _, _, _, _ => ⟨e5, rfl⟩
  | x :: xs, pre, f, F, e5, hf, hx, hB, hl => by
    rw [List.length_cons, Nat.add_mul] at hB
    rw [List.length_cons] at hl
    have hx0 := hx x List.mem_cons_self
    obtain ⟨e', h1⟩ := in_loop xs (pre ++ [f]) (f + x) (F + B) (.im (vq x)) (hf.add hx0) (fun y hy => hx y (List.mem_cons_of_mem _ hy)) (by omega) (by rw [List.length_append, List.length_singleton]; omega)
    refine ⟨e', ?_⟩
    have hlast : xby 4 (xixv 4 (xun unNeg (xc (.int 1)))) (xop opIx (xv 4) (xun unNeg (xc (.int 1)))) [x0, x1, x2, x3, .ow ((pre ++ [f]).map vq), .im (vq x)] = some (.im (vq f), [x0, x1, x2, x3, .ow ((pre ++ [f]).map vq), .im (vq x)]) := by
      show (match atI ((pre ++ [f]).map vq) (-1) with | some d => some (R.im d, [x0, x1, x2, x3, Ent.ow ((pre ++ [f]).map vq), .im (vq x)]) | none => none) = _
      rw [List.map_append, List.map_singleton, atI_last]
    have hb : growB [x0, x1, x2, x3, .ow ((pre ++ [f]).map vq), .im (vq x)] = some (.nx, [x0, x1, x2, x3, .ow (((pre ++ [f]) ++ [f + x]).map vq), .im (vq x)]) := by
      refine xapp_ok rfl (xcall_ok (xc1 hlast (xc1 rfl xnil_ok)) (v_w_plus (k := 64) (l := 64) (hf.ht (by decide) (by omega)) (hx0.ht (by decide) (by omega)) (by decide))) rfl rfl (by rw [List.length_map, List.length_append, List.length_singleton]; omega) ?_
      rw [List.map_append (l₁ := pre ++ [f])]
      rfl
    rw [List.map_cons, cum]
    refine (xforL_nx rfl hb).trans ?_
    rw [h1, List.append_assoc]
    rfl
def levB : MS := (xseq (xset 4 (xlst (xcons (xcall r_w_pair (xcons (xv 3) xnil)) xnil)))
  (xseq (xfor (xseqI (xv 2)) (tgn 5) growB)
  (xset 2 (xv 4))))
theorem v_levB {x0 x1 x2 x4 x5 : Ent} {acc : List Rat} {d : D} {B F : Nat} (h2 : x2 = .ow (acc.map vq) ∨ x2 = .im (.lst (acc.map vq))) (hd : IsV1 d) (hf : Bd (valQ d) F) (ha : ∀ x ∈ acc, Bd x B) (hB : F + acc.length * B + B < 2 ^ 64) (hl : acc.length < 80000) :
    ∃ y5, levB [x0, x1, x2, .im d, x4, x5] = some (.nx, [x0, x1, .im (.lst ((cum (valQ d) acc).map vq)), .im d, .im (.lst ((cum (valQ d) acc).map vq)), y5]) := by
  have s4 : xset 4 (xlst (xcons (xcall r_w_pair (xcons (xv 3) xnil)) xnil)) [x0, x1, x2, .im d, x4, x5] = some (.nx, [x0, x1, x2, .im d, .ow (([] ++ [valQ d]).map vq), x5]) := xset_e (xlst_ok (xc1 (xcall_ok (xc1 rfl xnil_ok) (v_w_pair hd.isV)) xnil_ok) rfl) rfl
  obtain ⟨y5, h1⟩ := in_loop (x0 := x0) (x1 := x1) (x2 := .im (.lst (acc.map vq))) (x3 := .im d) acc [] (valQ d) F x5 hf ha hB (by simp; omega)
  refine ⟨y5, ?_⟩
  have s5 : xfor (xseqI (xv 2)) (tgn 5) growB [x0, x1, x2, .im d, .ow (([] ++ [valQ d]).map vq), x5] = some (.nx, [x0, x1, .im (.lst (acc.map vq)), .im d, .ow (([] ++ cum (valQ d) acc).map vq), y5]) := by
    rcases h2 with rfl | rfl
    · exact xfor_ok (xseqI_ok rfl rfl) h1
    · exact xfor_ok (xseqI_ok rfl rfl) h1
  exact (xseq_nx s4).trans ((xseq_nx s5).trans (xset_e rfl rfl))
theorem lev_loop {x0 x1 : Ent} {F : Nat} : ∀ (rs : List D) (acc : List Rat) (B : Nat) (x2 x3 x4 x5 : Ent), (x2 = .ow (acc.map vq) ∨ x2 = .im (.lst (acc.map vq))) → (∀ d ∈ rs, IsV1 d ∧ Bd (valQ d) F) → (∀ x ∈ acc, Bd x B) → acc.length + rs.length ≤ 8 → bn F rs.length B < 2 ^ 60 → F < 2 ^ 60 →
    ∃ y2 y3 y4 y5, xforL (tgn 3) levB rs [x0, x1, x2, x3, x4, x5] = some (.nx, [x0, x1, y2, y3, y4, y5]) ∧ (y2 = .ow ((rs.foldl (fun a d => cum (valQ d) a) acc).map vq) ∨ y2 = .im (.lst ((rs.foldl (fun a d => cum (valQ d) a) acc).map vq))) ∧ ∀ x ∈ rs.foldl (fun a d => cum (valQ d) a) acc, Bd x (bn F rs.length B)
  | [], acc, B, x2, x3, x4, x5, h2, _, ha, _, _, _ => ⟨x2, x3, x4, x5, rfl, h2, ha⟩
  | d :: rs, acc, B, x2, x3, x4, x5, h2, hd, ha, hl, hb, hF => by
    rw [List.length_cons] at hl hb
    obtain ⟨d1, d2⟩ := hd d List.mem_cons_self
    have hle : F + 9 * B ≤ bn F rs.length (F + 9 * B) := bn_le F rs.length (F + 9 * B)
    have hb' : bn F rs.length (F + 9 * B) < 2 ^ 60 := hb
    have hm : acc.length * B ≤ 8 * B := Nat.mul_le_mul (by omega) (Nat.le_refl _)
    obtain ⟨y5, e1⟩ := v_levB (x0 := x0) (x1 := x1) (x4 := x4) (x5 := x5) h2 d1 d2 ha (by omega) (by omega)
    obtain ⟨z2, z3, z4, z5, k1, k2, k3⟩ := lev_loop (x0 := x0) (x1 := x1) rs (cum (valQ d) acc) (F + 9 * B) (.im (.lst ((cum (valQ d) acc).map vq))) (.im d) (.im (.lst ((cum (valQ d) acc).map vq))) y5 (.inr rfl) (fun e he => hd e (List.mem_cons_of_mem _ he)) (fun x hx => (cum_bd d2 ha x hx).up (by omega)) (by rw [cum_len]; omega) hb' hF
    exact ⟨z2, z3, z4, z5, (xforL_nx rfl e1).trans k1, k2, k3⟩
theorem v_w_grown {d1 d2 : D} {as ss : List D} {F B : Nat} (h1 : asL d1 = some as) (h2 : seqD d2 = some ss) (ha : Lb F as) (hs : Lb B ss) (hl : as.length + ss.length ≤ 8) (hb : bn F as.length B < 2 ^ 60) (hF : F < 2 ^ 60) :
    ∃ r, r_w_grown [d1, d2] = some r ∧ r.d = .lst ((grown (as.map valQ) (ss.map valQ)).map vq) ∧ ∀ q ∈ grown (as.map valQ) (ss.map valQ), Bd q (bn F as.length B) := by
  have ev : (ss.map fun x => vq (valQ x)) = (ss.map valQ).map vq := by rw [List.map_map]; rfl
  have s2 : xset 2 (xlc (xseqI (xv 1)) (tgn 5) xtyes (xcall r_w_pair (xcons (xv 5) xnil)) [5]) [.im d1, .im d2, .un, .un, .un, .un] = some (.nx, [.im d1, .im d2, .ow ((ss.map valQ).map vq), .un, .un, .un]) := by
    rw [← ev]
    exact xset_e (xlc_ok (xseqI_ok rfl h2) rfl (xlcL_map (fun x => vq (valQ x)) fun x hx => ⟨_, _, _, rfl, xcall_ok (xc1 rfl xnil_ok) (v_w_pair (hs x hx).1.isV), rfl, rfl⟩) (few_le (by rw [List.length_map]; omega))) rfl
  obtain ⟨y2, y3, y4, y5, g1, g2, g3⟩ := lev_loop (x0 := .im d1) (x1 := .im d2) as.reverse (ss.map valQ) B (.ow ((ss.map valQ).map vq)) .un .un .un (.inl rfl) (fun d hd => ha d (List.mem_reverse.mp hd)) (fun x hx => by
    obtain ⟨y, hy, rfl⟩ := List.mem_map.mp hx
    exact (hs y hy).2) (by rw [List.length_map, List.length_reverse]; omega) (by rw [List.length_reverse]; exact hb) hF
  rw [List.length_reverse] at g3
  have eg : as.reverse.foldl (fun a d => cum (valQ d) a) (ss.map valQ) = grown (as.map valQ) (ss.map valQ) := by
    rw [List.foldl_reverse]
    unfold grown
    rw [List.foldr_map]
  rw [eg] at g2 g3
  have hr : xseqI (xrev (xv 0) (xop opSub (xc (.int 0)) (xc (.int 1)))) [.im d1, .im d2, .ow ((ss.map valQ).map vq), .un, .un, .un] = some (as.reverse, [.im d1, .im d2, .ow ((ss.map valQ).map vq), .un, .un, .un]) := by
    unfold xseqI
    have : xrev (xv 0) (xop opSub (xc (.int 0)) (xc (.int 1))) [.im d1, .im d2, .ow ((ss.map valQ).map vq), .un, .un, .un] = some (.ow as.reverse, [.im d1, .im d2, .ow ((ss.map valQ).map vq), .un, .un, .un]) := by
      show (match asL d1, D.int (0 - 1) with
        | some ds, .int k => if k = -1 then some (R.ow ds.reverse, [Ent.im d1, .im d2, .ow ((ss.map valQ).map vq), .un, .un, .un]) else none
        | _, _ => none) = _
      rw [h1]
      rfl
    rw [this]
    rfl
  rcases g2 with rfl | rfl
  · exact ⟨.ow _, runF_st rfl (st_nx s2 (st_nx (by exact xfor_ok hr g1) (st_ret rfl))), rfl, g3⟩
  · exact ⟨.im _, runF_st rfl (st_nx s2 (st_nx (by exact xfor_ok hr g1) (st_ret rfl))), rfl, g3⟩
end Bk
namespace Bk
open PySem L2
/-- what a line of the kind is -/
structure KL (n m : Nat) (qs : List Rat) : Prop where
  len : qs.length = m
  bd : ∀ q ∈ qs, Bd q 8000000
  grown : n < m → ∃ fs ss, qs = Bk.grown fs ss ∧ fs.length = n ∧ ss.length = m - n ∧ ∀ s ∈ ss, 0 ≤ s
theorem step_ok {t z : Int} (h0 : 0 ≤ t) (h4 : t < 4) (hz : z = 1 ∨ z = 2) : r_w_low [.int t, .int z] = some (.im (vq (Rat.divInt t z))) ∧ Bd (Rat.divInt t z) 18 ∧ 0 ≤ Rat.divInt t z := by
  refine ⟨v_w_low (k := 8) (by omega) (by unfold Sm; omega) (by decide), (Bd.of (B := 3) (by omega) (by omega)), ?_⟩
  exact Rat.divInt_nonneg h0 (by omega)
theorem v_w_kind_line {bs : List D} {m n : Nat} {hi : Int} (hb : Bx bs) (hm : m ≤ 8) (hn : n ≤ 5) (h0 : 0 ≤ hi) (h9 : hi ≤ 20) :
    ∃ r bs' qs, r_w_kind_line bs [.int m, .int n, .int hi] = some (r, bs') ∧ Bx bs' ∧ r.d = .lst (qs.map vq) ∧ KL n m qs := by
  have emin : (if (m : Int) < (n : Int) then (m : Int) else (n : Int)) = ((min n m : Nat) : Int) := by split <;> omega
  have ecb : ∀ G : Gam, G[1]? = some (.im (.int m)) → G[2]? = some (.im (.int n)) → xcb cbMin2 (xcons (xv 2) (xcons (xv 1) xnil)) G = some (.im (.int ((min n m : Nat) : Int)), G) := fun G g1 g2 => by
    rw [← emin]
    exact xcb_ok (xc1 (by unfold xv; rw [g2]) (xc1 (by unfold xv; rw [g1]) xnil_ok)) rfl
  obtain ⟨a1, b1, c1, c2, c3, c4⟩ := v_w_lineB (m := ((min n m : Nat) : Int)) hb (by omega) (by omega) h0 (by omega : hi ≤ 40)
  have s4 : xset 4 (xcallB r_w_line 0 (xcons (xcb cbMin2 (xcons (xv 2) (xcons (xv 1) xnil))) (xcons (xv 3) xnil))) [.bx bs, .im (.int m), .im (.int n), .im (.int hi), .un, .un, .un, .un, .un, .un] = some (.nx, [.bx b1, .im (.int m), .im (.int n), .im (.int hi), .ow a1, .un, .un, .un, .un, .un]) :=
    xset_e (xcallB_ok rfl (xc1 (ecb _ rfl rfl) (xc1 rfl xnil_ok)) rfl rfl c1 rfl) rfl
  -- the first values
  have t5 : ∀ a, xtest (xop opGt (xv 2) (xc (.int 2))) [.bx b1, .im (.int m), .im (.int n), .im (.int hi), .ow a, .un, .un, .un, .un, .un] = some (decide (2 < (n : Int)), [.bx b1, .im (.int m), .im (.int n), .im (.int hi), .ow a, .un, .un, .un, .un, .un]) := fun a => xtest_ok (xo2 rfl rfl rfl)
  have s5 : ∃ b2 a2, xifs (xtest (xop opGt (xv 2) (xc (.int 2)))) (xset 4 (xlc (xrange1 (xcons (xcb cbMin2 (xcons (xv 2) (xcons (xv 1) xnil))) xnil)) (tgn 6) xtyes (xop opSub (xcallB r_w_choose 0 (xcons (xop opAdd (xop opMul (xc (.int 2)) (xv 3)) (xc (.int 1))) xnil)) (xv 3)) [6])) xnext
      [.bx b1, .im (.int m), .im (.int n), .im (.int hi), .ow a1, .un, .un, .un, .un, .un] = some (.nx, [.bx b2, .im (.int m), .im (.int n), .im (.int hi), .ow a2, .un, .un, .un, .un, .un]) ∧ Bx b2 ∧ a2.length = min n m ∧ Lb 120 a2 := by
    by_cases h2 : 2 < (n : Int)
    · have om : okMul 2 hi = true := Sm.okMul (k := 3) (l := 8) (by unfold Sm; decide) (by unfold Sm; omega) (by decide)
      obtain ⟨out, G', k1, ⟨b2, rfl, k2⟩, k3, k4⟩ := xlcL_st (tg := tgn 6) (vs := [6]) (e := xop opSub (xcallB r_w_choose 0 (xcons (xop opAdd (xop opMul (xc (.int 2)) (xv 3)) (xc (.int 1))) xnil)) (xv 3))
        (fun G => ∃ b2, G = [.bx b2, .im (.int m), .im (.int n), .im (.int hi), .ow a1, .un, .un, .un, .un, .un] ∧ Bx b2) (fun x => IsV1 x ∧ Bd (valQ x) 120) (ds := rng 0 (min n m)) (G := [.bx b1, .im (.int m), .im (.int n), .im (.int hi), .ow a1, .un, .un, .un, .un, .un]) ⟨b1, rfl, c2⟩ (fun d _ G hG => by
          obtain ⟨b2, rfl, hb2⟩ := hG
          obtain ⟨i, b3, e1, e2, e3, e4⟩ := v_w_choose (m := 2 * hi + 1) hb2 (by omega) (by omega)
          exact ⟨_, _, _, rfl, xo2 (xcallB_ok rfl (xc1 (xo2 (xo2 rfl rfl (o_mul om)) rfl rfl) xnil_ok) rfl rfl e1 rfl) rfl rfl, ⟨.inl ⟨i - hi, rfl⟩, (Bd.int (i := i - hi) (B := 20) (by omega)).up (by decide)⟩, b3, rfl, e4⟩)
      have hr := xrange1_ok (a := xcons (xcb cbMin2 (xcons (xv 2) (xcons (xv 1) xnil))) xnil) (G := [.bx b1, .im (.int m), .im (.int n), .im (.int hi), .ow a1, .un, .un, .un, .un, .un]) (n := ((min n m : Nat) : Int)) (xc1 (ecb _ rfl rfl) xnil_ok) (okR_of (by omega) (by omega))
      rw [Int.toNat_natCast] at hr
      rw [rng_ln] at k3
      refine ⟨b2, out, (xifs_ok (t5 a1)).trans ?_, k2, k3, k4⟩
      rw [decide_eq_true h2]
      exact xset_e (xlc_ok hr rfl k1 (few_le (by omega))) rfl
    · refine ⟨b1, a1, (xifs_ok (t5 a1)).trans ?_, c2, by omega, c4.up (by omega)⟩
      rw [decide_eq_false h2]
      rfl
  obtain ⟨b2, a2, s5, hb2, l2, q2⟩ := s5
  have t6 : xtest (xop opGe (xv 2) (xv 1)) [.bx b2, .im (.int m), .im (.int n), .im (.int hi), .ow a2, .un, .un, .un, .un, .un] = some (decide ((m : Int) ≤ n), [.bx b2, .im (.int m), .im (.int n), .im (.int hi), .ow a2, .un, .un, .un, .un, .un]) := xtest_ok (xo2 rfl rfl rfl)
  have ev : ∀ xs : List D, (xs.map fun x => vq (valQ x)) = (xs.map valQ).map vq := fun xs => by rw [List.map_map]; rfl
  by_cases hmn : (m : Int) ≤ n
  · rw [decide_eq_true hmn] at t6
    have e7 : xlc (xseqI (xv 4)) (tgn 7) xtyes (xcall r_w_pair (xcons (xv 7) xnil)) [7] [.bx b2, .im (.int m), .im (.int n), .im (.int hi), .ow a2, .un, .un, .un, .un, .un] = some (.ow ((a2.map valQ).map vq), [.bx b2, .im (.int m), .im (.int n), .im (.int hi), .im (.lst a2), .un, .un, .un, .un, .un]) := by
      rw [← ev]
      have hq : ∀ x ∈ a2, ∃ G1 r G2, tgn 7 x [.bx b2, .im (.int m), .im (.int n), .im (.int hi), .im (.lst a2), .un, .un, .un, .un, .un] = some G1 ∧ xcall r_w_pair (xcons (xv 7) xnil) G1 = some (r, G2) ∧ r.d = vq (valQ x) ∧ wipeG G2 [7] = [.bx b2, .im (.int m), .im (.int n), .im (.int hi), .im (.lst a2), .un, .un, .un, .un, .un] := fun x hx => ⟨_, _, _, rfl, xcall_ok (xc1 rfl xnil_ok) (v_w_pair (q2 x hx).1.isV), rfl, rfl⟩
      have hs : xseqI (xv 4) [.bx b2, .im (.int m), .im (.int n), .im (.int hi), .ow a2, .un, .un, .un, .un, .un] = some (a2, [.bx b2, .im (.int m), .im (.int n), .im (.int hi), .im (.lst a2), .un, .un, .un, .un, .un]) := xseqI_ok (d := .lst a2) rfl rfl
      exact xlc_ok hs rfl (xlcL_map (fun x => vq (valQ x)) hq) (few_le (by rw [List.length_map]; omega))
    refine ⟨.ow ((a2.map valQ).map vq), b2, a2.map valQ, ?_, hb2, rfl, ⟨by rw [List.length_map]; omega, fun q hq => ?_, fun z => by omega⟩⟩
    · exact runB_st rfl (sb_nx (by exact s4) (sb_nx (by exact s5) (sb_rt (by exact (xifs_ok t6).trans (xret_ok e7)) rfl)))
    · obtain ⟨x, hx, rfl⟩ := List.mem_map.mp hq
      exact (q2 x hx).2.up (by decide)
  · rw [decide_eq_false hmn] at t6
    have hl2 : a2.length = n := by omega
    obtain ⟨st, G', k1, ⟨b3, rfl, k2⟩, k3, k4⟩ := xlcL_st (tg := tgn 6) (vs := [6]) (e := (xtup (xcons (xcallB r_w_choose 0 (xcons (xc (.int 4)) xnil)) (xcons (xif (xtest (xop opLt (xv 2) (xc (.int 4)))) (xcallB r_w_one_of 0 (xcons (xlst (xcons (xc (.int 1)) (xcons (xc (.int 1)) (xcons (xc (.int 2)) xnil)))) xnil)) (xc (.int 1))) xnil))))
      (fun G => ∃ b3, G = [.bx b3, .im (.int m), .im (.int n), .im (.int hi), .ow a2, .un, .un, .un, .un, .un] ∧ Bx b3) (fun x => ∃ t z : Int, x = .tup [.int t, .int z] ∧ 0 ≤ t ∧ t < 4 ∧ (z = 1 ∨ z = 2)) (ds := rng 0 (m - n)) (G := [.bx b2, .im (.int m), .im (.int n), .im (.int hi), .ow a2, .un, .un, .un, .un, .un]) ⟨b2, rfl, hb2⟩ (fun d _ G hG => by
        obtain ⟨b3, rfl, hb3⟩ := hG
        obtain ⟨t, b4, e1, e2, e3, e4⟩ := v_w_choose (m := 4) hb3 (by decide) (by decide)
        obtain ⟨w, b5, f1, f2, f3⟩ := v_w_one_of (xs := [.int 1, .int 1, .int 2]) e4 (by decide) (by decide)
        have hw : ∃ z : Int, w = .int z ∧ (z = 1 ∨ z = 2) := by
          rcases List.mem_cons.mp f2 with rfl | f2
          · exact ⟨1, rfl, .inl rfl⟩
          · rcases List.mem_cons.mp f2 with rfl | f2
            · exact ⟨1, rfl, .inl rfl⟩
            · rw [List.mem_singleton.mp f2]
              exact ⟨2, rfl, .inr rfl⟩
        obtain ⟨z, rfl, hz⟩ := hw
        have t7 : xtest (xop opLt (xv 2) (xc (.int 4))) [.bx b4, .im (.int m), .im (.int n), .im (.int hi), .ow a2, .un, .im d, .un, .un, .un] = some (decide ((n : Int) < 4), [.bx b4, .im (.int m), .im (.int n), .im (.int hi), .ow a2, .un, .im d, .un, .un, .un]) := xtest_ok (xo2 rfl rfl rfl)
        by_cases hn4 : (n : Int) < 4
        · rw [decide_eq_true hn4] at t7
          have e8 : xif (xtest (xop opLt (xv 2) (xc (.int 4)))) (xcallB r_w_one_of 0 (xcons (xlst (xcons (xc (.int 1)) (xcons (xc (.int 1)) (xcons (xc (.int 2)) xnil)))) xnil)) (xc (.int 1)) [.bx b4, .im (.int m), .im (.int n), .im (.int hi), .ow a2, .un, .im d, .un, .un, .un] = some (.im (.int z), [.bx b5, .im (.int m), .im (.int n), .im (.int hi), .ow a2, .un, .im d, .un, .un, .un]) :=
            xif_t t7 (xcallB_ok rfl (xcw (xlst_ok (xc1 rfl (xc1 rfl (xc1 rfl xnil_ok))) rfl) xnil_ok) rfl rfl f1 rfl)
          exact ⟨_, _, _, rfl, xtup_ok (xc1 (xcallB_ok rfl (xc1 rfl xnil_ok) rfl rfl e1 rfl) (xc1 e8 xnil_ok)) rfl, ⟨t, z, rfl, e2, e3, hz⟩, b5, rfl, f3⟩
        · rw [decide_eq_false hn4] at t7
          exact ⟨_, _, _, rfl, xtup_ok (xc1 (xcallB_ok rfl (xc1 rfl xnil_ok) rfl rfl e1 rfl) (xc1 (xif_f t7 rfl) xnil_ok)) rfl, ⟨t, 1, rfl, e2, e3, .inl rfl⟩, b4, rfl, e4⟩)
    rw [rng_ln] at k3
    have hr := xrange1_ok (a := xcons (xop opSub (xv 1) (xv 2)) xnil) (G := [.bx b2, .im (.int m), .im (.int n), .im (.int hi), .ow a2, .un, .un, .un, .un, .un]) (n := (m : Int) - n) (xc1 (xo2 rfl rfl rfl) xnil_ok) (okR_of (by omega) (by omega))
    rw [show ((m : Int) - n).toNat = m - n by omega] at hr
    have s7 : xset 5 (xlc (xrange1 (xcons (xop opSub (xv 1) (xv 2)) xnil)) (tgn 6) xtyes (xtup (xcons (xcallB r_w_choose 0 (xcons (xc (.int 4)) xnil)) (xcons (xif (xtest (xop opLt (xv 2) (xc (.int 4)))) (xcallB r_w_one_of 0 (xcons (xlst (xcons (xc (.int 1)) (xcons (xc (.int 1)) (xcons (xc (.int 2)) xnil)))) xnil)) (xc (.int 1))) xnil))) [6])
        [.bx b2, .im (.int m), .im (.int n), .im (.int hi), .ow a2, .un, .un, .un, .un, .un] = some (.nx, [.bx b3, .im (.int m), .im (.int n), .im (.int hi), .ow a2, .ow st, .un, .un, .un, .un]) := xset_e (xlc_ok hr rfl k1 (few_le (by omega))) rfl
    let f : D → D := fun d => match d with
      | .tup [.int t, .int z] => vq (Rat.divInt t z)
      | d => d
    have hi2 : ∀ x ∈ st, ∃ G1 r G2, tgt [tgn 8, tgn 9] x [.bx b3, .im (.int m), .im (.int n), .im (.int hi), .im (.lst a2), .im (.lst st), .un, .un, .un, .un] = some G1 ∧ xcall r_w_low (xcons (xv 8) (xcons (xv 9) xnil)) G1 = some (r, G2) ∧ r.d = f x ∧ wipeG G2 [8, 9] = [.bx b3, .im (.int m), .im (.int n), .im (.int hi), .im (.lst a2), .im (.lst st), .un, .un, .un, .un] := fun x hx => by
      obtain ⟨t, z, rfl, z0, z4, zz⟩ := k4 x hx
      exact ⟨_, _, _, rfl, xcall_ok (xc1 rfl (xc1 rfl xnil_ok)) (step_ok z0 z4 zz).1, rfl, rfl⟩
    have hst : Lb 18 (st.map f) := fun x hx => by
      obtain ⟨y, hy, rfl⟩ := List.mem_map.mp hx
      obtain ⟨t, z, rfl, z0, z4, zz⟩ := k4 y hy
      refine ⟨.inr ⟨_, rfl⟩, ?_⟩
      show Bd (valQ (vq (Rat.divInt t z))) 18
      rw [valQ_vq]
      exact (step_ok z0 z4 zz).2.1
    have hbn : bn 120 a2.length 18 ≤ bn 120 5 18 := bn_up 18 (by omega)
    have hbv : bn 120 5 18 ≤ 8000000 := by decide
    obtain ⟨r, r1, r2, r3⟩ := v_w_grown (d1 := .lst a2) (d2 := .lst (st.map f)) (F := 120) (B := 18) rfl rfl q2 hst (by rw [List.length_map]; omega) (by omega) (by decide)
    have hs : xseqI (xv 5) [.bx b3, .im (.int m), .im (.int n), .im (.int hi), .im (.lst a2), .ow st, .un, .un, .un, .un] = some (st, [.bx b3, .im (.int m), .im (.int n), .im (.int hi), .im (.lst a2), .im (.lst st), .un, .un, .un, .un]) := xseqI_ok (d := .lst st) rfl rfl
    have e8 : xcall r_w_grown (xcons (xv 4) (xcons (xlc (xseqI (xv 5)) (tgt [(tgn 8), (tgn 9)]) xtyes (xcall r_w_low (xcons (xv 8) (xcons (xv 9) xnil))) [8, 9]) xnil)) [.bx b3, .im (.int m), .im (.int n), .im (.int hi), .ow a2, .ow st, .un, .un, .un, .un] = some (r, [.bx b3, .im (.int m), .im (.int n), .im (.int hi), .im (.lst a2), .im (.lst st), .un, .un, .un, .un]) :=
      xcall_ok (xc1 rfl (xcw (xlc_ok hs rfl (xlcL_map f hi2) (few_le (by rw [List.length_map]; omega))) xnil_ok)) r1
    refine ⟨r, b3, _, ?_, k2, r2, ⟨by rw [grown_len, List.length_map, List.length_map, List.length_map]; omega, fun q hq => (r3 q hq).up (Nat.le_trans hbn hbv), fun _ => ⟨_, _, rfl, by rw [List.length_map]; omega, by rw [List.length_map, List.length_map]; omega, fun s hs => ?_⟩⟩⟩
    · exact runB_st rfl (sb_nx (by exact s4) (sb_nx (by exact s5) (sb_nx (by exact (xifs_ok t6).trans rfl) (sb_nx (by exact s7) (sb_ret (G1 := [.im (.int m), .im (.int n), .im (.int hi), .im (.lst a2), .im (.lst st), .un, .un, .un, .un]) (by exact e8))))))
    · obtain ⟨y, hy, rfl⟩ := List.mem_map.mp hs
      obtain ⟨w, hw, rfl⟩ := List.mem_map.mp hy
      obtain ⟨t, z, rfl, z0, z4, zz⟩ := k4 w hw
      show 0 ≤ valQ (vq (Rat.divInt t z))
      rw [valQ_vq]
      exact (step_ok z0 z4 zz).2.2
end Bk
namespace Bk
open PySem L2
theorem Ref.nb {as : List D} {n : Nat} {r : D} (h : Ref as n r) (hm : as.length < 9) (hn : n < 7) : isN r = true ↔ NB n (as.map valQ) := by
  rw [h.lev hm hn]
  unfold NB
  rw [List.length_map]
theorem Ref.told {as : List D} {n : Nat} {r : D} (h : Ref as n r) (hm : as.length < 9) (hn : n < 7) (hr : isN r = false) : ∃ xs, r = .tup xs ∧ xs.length = as.length ∧ Ln 8 xs ∧ dotQ as xs < 0 := by
  rcases h with ⟨j, h1, h2, rfl⟩ | ⟨h0, ⟨k, h1, h2, rfl⟩ | ⟨h1, rfl⟩⟩
  · obtain ⟨p1, p2, p3, p4, p5, p6, p7⟩ := power_p hm (j := j) (by omega)
    have hs : sgn (PQ as j) = 1 ∨ sgn (PQ as j) = -1 := by
      unfold sgn
      split
      · exact .inl rfl
      · exact .inr rfl
    refine ⟨_, rfl, ?_, ?_, ?_⟩
    · rcases hs with e | e <;> rw [e]
      · exact p4.1
      · exact p5.1
    · rcases hs with e | e <;> rw [e]
      · exact p4.2
      · exact p5.2
    · unfold sgn
      split
      · rename_i hlt
        rw [dot_eq p6]
        exact hlt
      · rename_i hlt
        rw [dotQ_dot, p7]
        have e : negV (P as.length j) = ((P as.length j).map valQ).map fun q => -q := by
          unfold negV
          rw [List.map_map]
          rfl
        rw [e, dot_neg, ← dotQ_dot]
        show -(PQ as j) < 0
        have h3 : 0 < PQ as j := by grind
        grind
  · obtain ⟨u1, u2⟩ := unit_u hm hn h1
    refine ⟨_, rfl, by rw [List.length_map]; exact u2.1, ?_, ?_⟩
    · intro x hx
      obtain ⟨y, hy, rfl⟩ := List.mem_map.mp hx
      exact ⟨.inr ⟨_, rfl⟩, by rw [valQ_vq]; exact (u2.2 y hy).2⟩
    · have e : ((U as.length n k).map fun x => vq (valQ x)).map valQ = (U as.length n k).map valQ := by
        rw [List.map_map]
        apply List.map_congr_left
        intro x _
        exact valQ_vq _
      rw [dot_eq e]
      exact h2
  · cases hr
theorem vq_val (qs : List Rat) : (qs.map vq).map valQ = qs := by
  rw [List.map_map]
  have : valQ ∘ vq = id := by funext q; exact valQ_vq q
  rw [this, List.map_id]
theorem vq_ln {k : Nat} {qs : List Rat} (h : ∀ q ∈ qs, Ht q k) : Ln k (qs.map vq) := fun x hx => by
  obtain ⟨q, hq, rfl⟩ := List.mem_map.mp hx
  exact ⟨.inr ⟨q, rfl⟩, by rw [valQ_vq]; exact h q hq⟩
theorem vq_lb {B : Nat} {qs : List Rat} (h : ∀ q ∈ qs, Bd q B) : Lb B (qs.map vq) := fun x hx => by
  obtain ⟨q, hq, rfl⟩ := List.mem_map.mp hx
  exact ⟨.inr ⟨q, rfl⟩, by rw [valQ_vq]; exact h q hq⟩
theorem KL.dfs {n m : Nat} {qs : List Rat} (h : KL n m qs) : ∀ s ∈ Bk.dfs n qs, 0 ≤ s := by
  by_cases hn : n < m
  · obtain ⟨fs, ss, e, h1, h2, h3⟩ := h.grown hn
    rw [e, ← h1, dfs_grown]
    exact h3
  · have : Bk.dfs n qs = [] := List.length_eq_zero_iff.mp (by rw [dfs_len, h.len]; omega)
    rw [this]
    exact fun s hs => nomatch hs
theorem kd_ok {n : Nat} {qs : List Rat} (h : ∀ s ∈ Bk.dfs n qs, 0 ≤ s) : kd n qs = true := by
  unfold kd
  rw [any_fil, List.isEmpty_iff, List.filter_eq_nil_iff]
  intro q hq
  have := h q hq
  simpa using Rat.not_lt.mpr this
theorem Bd.sub {a b : Rat} {B C : Nat} (h : Bd a B) (h' : Bd b C) : Bd (a - b) (B + C) := by
  obtain ⟨j, e, hj⟩ := h'
  have h2 : Bd (-b) C := by
    refine ⟨-j, ?_, by omega⟩
    rw [e, Rat.neg_divInt]
  have : a - b = a + -b := by grind
  rw [this]
  exact h.add h2
theorem df_bd {B : Nat} : ∀ {qs : List Rat}, (∀ q ∈ qs, Bd q B) → ∀ q ∈ df qs, Bd q (2 * B)
  | [], _, q, hq => nomatch hq
  | [_], _, q, hq => nomatch hq
  | a :: b :: r, h, q, hq => by
    rcases List.mem_cons.mp hq with rfl | hq
    · exact ((h b (by simp)).sub (h a (by simp))).up (by omega)
    · exact df_bd (fun q hq => h q (List.mem_cons_of_mem _ hq)) q hq
theorem dfs_bd : ∀ {n B : Nat} {qs : List Rat}, (∀ q ∈ qs, Bd q B) → ∀ q ∈ Bk.dfs n qs, Bd q (2 ^ n * B)
  | 0, B, _, h => fun q hq => (h q hq).up (by omega)
  | n + 1, B, _, h => fun q hq => (dfs_bd (n := n) (df_bd h) q hq).up (by rw [Nat.pow_succ, Nat.mul_assoc]; exact Nat.le_refl _)
theorem KQ_lev {as : List D} {n : Nat} (hm : as.length < 9) (hn : n < 7) : KQ as n = lev n (as.map valQ) := by
  apply List.ext_getElem?
  intro k
  by_cases hk : k < as.length - n
  · have h2 : k < (lev n (as.map valQ)).length := by rw [lev_len, List.length_map]; exact hk
    have e := UQ_lev hm hn hk
    rw [List.getD_eq_getElem?_getD, List.getElem?_eq_getElem h2] at e
    rw [List.getElem?_eq_getElem h2]
    unfold KQ
    rw [List.getElem?_map, List.getElem?_range hk]
    show some (dotQ as (U as.length n k)) = _
    rw [e]
    rfl
  · rw [List.getElem?_eq_none (by rw [KQ_len]; omega), List.getElem?_eq_none (by rw [lev_len, List.length_map]; omega)]
theorem KQ_ht8 {as : List D} {n : Nat} (hl : Ln 8 as) (hm : as.length < 9) (hn : n < 7) : ∀ q ∈ KQ as n, Ht q 150 := fun q hq => by
  obtain ⟨k, hk, rfl⟩ := List.mem_map.mp hq
  have hk := List.mem_range.mp hk
  obtain ⟨u1, u3⟩ := unit_u hm hn hk
  have h := sumQ_ht (dot_ht (fun a ha => (hl a ha).2) (fun b hb => (u3.2 b hb).2))
  have hz := zip_len as (U as.length n k)
  refine h.up ?_
  have := Nat.mul_le_mul (Nat.le_trans hz (Nat.le_of_lt_succ hm)) (show 8 + 8 + 1 ≤ 17 by omega)
  omega
theorem cut_all (xs : List D) : slA (.lst xs) none (some (xs.length : Int)) = some (.ow xs) := by
  show some (R.ow (cutD xs none (some (xs.length : Int)))) = _
  unfold cutD
  have e1 : HT.sIx xs.length 0 none = 0 := rfl
  have e2 : HT.sIx xs.length xs.length (some (xs.length : Int)) = xs.length := by
    rw [HT.sIx_nat]
    omega
  rw [e1, e2]
  simp
theorem zip_add (a b : List Rat) : (((a.map vq).zip (b.map vq)).map fun p => D.tup [p.1, p.2]).map (f2 (· + ·)) = (addL a b).map vq := by
  rw [zip_f2]
  congr 1
  unfold addL
  rw [List.zip, List.map_zipWith, List.zipWith_map]
  congr 1
  funext x y
  show valQ (vq x) + valQ (vq y) = x + y
  rw [valQ_vq, valQ_vq]
theorem addL_bd {B C : Nat} : ∀ {a b : List Rat}, (∀ q ∈ a, Bd q B) → (∀ q ∈ b, Bd q C) → ∀ q ∈ addL a b, Bd q (B + C)
  | [], _, _, _, q, hq => by simp [addL] at hq
  | _ :: _, [], _, _, q, hq => by simp [addL] at hq
  | x :: a, y :: b, ha, hb, q, hq => by
    rcases List.mem_cons.mp hq with rfl | hq
    · exact (ha x List.mem_cons_self).add (hb y List.mem_cons_self)
    · exact addL_bd (fun z hz => ha z (List.mem_cons_of_mem _ hz)) (fun z hz => hb z (List.mem_cons_of_mem _ hz)) q hq
theorem addL_len {a b : List Rat} (h : a.length = b.length) : (addL a b).length = a.length := by
  unfold addL
  rw [List.length_zipWith]
  omega
theorem ne_vq (q : Rat) : opNe (vq q) (vq q) = some (.im (.bl false)) := by
  unfold opNe
  rw [eq_vq, decide_eq_true rfl]
  rfl
theorem ne_bl (b : Bool) : opNe (.bl b) (.bl b) = some (.im (.bl false)) := by cases b <;> rfl
end Bk
namespace Bk
open PySem L2
abbrev St (x0 x1 x2 x3 : Ent) (m n : Nat) (e6 e7 e8 e9 e10 e11 e12 e13 e14 : Ent) : Gam := [x0, x1, x2, x3, .im (.int m), .im (.int n), e6, e7, e8, e9, e10, e11, e12, e13, e14, .un, .un, .un]
def sD : MS := (xset 9 (xlc (xzipA (xcons (xv 7) (xcons (xv 8) xnil))) (tgt [(tgn 15), (tgn 16)]) xtyes (xcall r_w_plus (xcons (xv 15) (xcons (xv 16) xnil))) [15, 16]))
theorem v_sD {x0 x1 x2 x3 : Ent} {m n : Nat} {e6 e9 e10 e11 e12 e13 e14 : Ent} {a b : List Rat} (ha : ∀ q ∈ a, Ht q 23) (hb : ∀ q ∈ b, Ht q 23) (hl : a.length ≤ 8) :
    sD (St x0 x1 x2 x3 m n e6 (.im (.lst (a.map vq))) (.im (.lst (b.map vq))) e9 e10 e11 e12 e13 e14) = some (.nx, St x0 x1 x2 x3 m n e6 (.im (.lst (a.map vq))) (.im (.lst (b.map vq))) (.ow ((addL a b).map vq)) e10 e11 e12 e13 e14) := by
  have hi : ∀ x ∈ ((a.map vq).zip (b.map vq)).map (fun p => D.tup [p.1, p.2]), ∃ G1 r G2, tgt [tgn 15, tgn 16] x (St x0 x1 x2 x3 m n e6 (.im (.lst (a.map vq))) (.im (.lst (b.map vq))) e9 e10 e11 e12 e13 e14) = some G1 ∧ xcall r_w_plus (xcons (xv 15) (xcons (xv 16) xnil)) G1 = some (r, G2) ∧ r.d = f2 (· + ·) x ∧ wipeG G2 [15, 16] = St x0 x1 x2 x3 m n e6 (.im (.lst (a.map vq))) (.im (.lst (b.map vq))) e9 e10 e11 e12 e13 e14 := fun x hx => by
    obtain ⟨p, hp, rfl⟩ := List.mem_map.mp hx
    obtain ⟨h1, h2⟩ := List.of_mem_zip hp
    obtain ⟨u, hu, eu⟩ := List.mem_map.mp h1
    obtain ⟨w, hw, ew⟩ := List.mem_map.mp h2
    rw [← eu, ← ew]
    refine ⟨_, _, _, rfl, xcall_ok (xc1 rfl (xc1 rfl xnil_ok)) (v_w_plus (ha u hu) (hb w hw) (by decide)), ?_, rfl⟩
    show vq (u + w) = vq (valQ (vq u) + valQ (vq w))
    rw [valQ_vq, valQ_vq]
  have hz : xzipA (xcons (xv 7) (xcons (xv 8) xnil)) (St x0 x1 x2 x3 m n e6 (.im (.lst (a.map vq))) (.im (.lst (b.map vq))) e9 e10 e11 e12 e13 e14) = some (((a.map vq).zip (b.map vq)).map (fun p => D.tup [p.1, p.2]), St x0 x1 x2 x3 m n e6 (.im (.lst (a.map vq))) (.im (.lst (b.map vq))) e9 e10 e11 e12 e13 e14) := xzip_ok (x := .lst (a.map vq)) (y := .lst (b.map vq)) (xc1 rfl (xc1 rfl xnil_ok)) rfl rfl
  have hf : ((addL a b).map vq).length ≤ 100000 := by
    rw [List.length_map]
    unfold addL
    rw [List.length_zipWith]
    omega
  exact xset_e (xlc_ok hz rfl ((xlcL_map (f2 (· + ·)) hi).trans (congrArg some (congrArg (Prod.mk · _) (zip_add a b)))) (few_le hf)) rfl
def sgE : M R := (xtup (xcons (xif (xtest (xop opEq (xop opMod (xv 5) (xc (.int 2))) (xc (.int 1)))) (xop opSub (xc (.int 0)) (xc (.int 1))) (xc (.int 1))) (xcons (xc (.int 1)) xnil)))
theorem v_sgE {G : Gam} {n : Nat} (h : G[5]? = some (.im (.int n))) : sgE G = some (.im (vq (sgQ n)), G) := by
  have hv : xv 5 G = some (.im (.int n), G) := by
    unfold xv
    rw [h]
  have ef : (n : Int).fmod 2 = ((n % 2 : Nat) : Int) := fmod_nat n 2
  have t : xtest (xop opEq (xop opMod (xv 5) (xc (.int 2))) (xc (.int 1))) G = some (decide (n % 2 = 1), G) := by
    have e : decide ((n : Int).fmod 2 = 1) = decide (n % 2 = 1) := by
      rw [decide_eq_decide, ef]
      omega
    rw [← e]
    exact xtest_ok (xo2 (xo2 hv rfl (o_mod (by decide))) rfl rfl)
  unfold sgQ
  by_cases hn : n % 2 = 1
  · rw [decide_eq_true hn] at t
    rw [if_pos hn]
    exact xtup_ok (xc1 (d := .int (-1)) (xif_t t rfl) (xc1 rfl xnil_ok)) rfl
  · rw [decide_eq_false hn] at t
    rw [if_neg hn]
    exact xtup_ok (xc1 (d := .int 1) (xif_f t rfl) (xc1 rfl xnil_ok)) rfl
theorem sgQ_ht (n : Nat) : Ht (sgQ n) 1 := by
  unfold sgQ
  split
  · exact ⟨by unfold Sm; decide, by unfold Sm; decide⟩
  · exact ⟨by unfold Sm; decide, by unfold Sm; decide⟩
theorem xrevI_ok {a b : M R} {G : Gam} {xs : List D} (h : a G = some (.im (.lst xs), G)) (hb : b G = some (.im (.int (-1)), G)) : xseqI (xrev a b) G = some (xs.reverse, G) := by
  unfold xseqI xrev
  rw [h]
  simp only [bd_some, hb]
  rfl
def tf (n : Nat) : D → D := fun d => vq (sgQ n * valQ d)
theorem tf_map (n : Nat) (xs : List D) : xs.reverse.map (tf n) = (turn n (xs.map valQ)).map vq := by
  unfold turn mulL tf
  rw [← List.map_reverse, List.map_map, List.map_map]
  rfl
def sJ : MS := (xset 12 (xlc (xseqI (xrev (xv 7) (xop opSub (xc (.int 0)) (xc (.int 1))))) (tgn 17) xtyes (xcall r_w_times (xcons (xv 17) (xcons sgE xnil))) [17]))
theorem v_sJ {x0 x1 x2 x3 : Ent} {m n : Nat} {e6 e8 e9 e10 e11 e12 e13 e14 : Ent} {a : List Rat} (ha : ∀ q ∈ a, Ht q 23) (hl : a.length ≤ 8) :
    sJ (St x0 x1 x2 x3 m n e6 (.im (.lst (a.map vq))) e8 e9 e10 e11 e12 e13 e14) = some (.nx, St x0 x1 x2 x3 m n e6 (.im (.lst (a.map vq))) e8 e9 e10 e11 (.ow ((turn n a).map vq)) e13 e14) := by
  have hi : ∀ x ∈ (a.map vq).reverse, ∃ G1 r G2, tgn 17 x (St x0 x1 x2 x3 m n e6 (.im (.lst (a.map vq))) e8 e9 e10 e11 e12 e13 e14) = some G1 ∧ xcall r_w_times (xcons (xv 17) (xcons sgE xnil)) G1 = some (r, G2) ∧ r.d = tf n x ∧ wipeG G2 [17] = St x0 x1 x2 x3 m n e6 (.im (.lst (a.map vq))) e8 e9 e10 e11 e12 e13 e14 := fun x hx => by
    obtain ⟨u, hu, rfl⟩ := List.mem_map.mp (List.mem_reverse.mp hx)
    refine ⟨_, _, _, rfl, xcall_ok (xc1 rfl (xc1 (v_sgE rfl) xnil_ok)) (v_w_times (ha u hu) (sgQ_ht n) (by decide)), ?_, rfl⟩
    show vq (u * sgQ n) = vq (sgQ n * valQ (vq u))
    rw [valQ_vq, Rat.mul_comm]
  have hm := tf_map n (a.map vq)
  rw [vq_val] at hm
  have hs : xseqI (xrev (xv 7) (xop opSub (xc (.int 0)) (xc (.int 1)))) (St x0 x1 x2 x3 m n e6 (.im (.lst (a.map vq))) e8 e9 e10 e11 e12 e13 e14) = some ((a.map vq).reverse, St x0 x1 x2 x3 m n e6 (.im (.lst (a.map vq))) e8 e9 e10 e11 e12 e13 e14) := xrevI_ok rfl rfl
  have hf : ((turn n a).map vq).length ≤ 100000 := by rw [List.length_map, turn_len]; omega
  exact xset_e (xlc_ok hs rfl ((xlcL_map (tf n) hi).trans (congrArg some (congrArg (Prod.mk · _) hm))) (few_le hf)) rfl
def sL : MS := (xset 13 (xlc (xseqI (xrev (xv 6) (xop opSub (xc (.int 0)) (xc (.int 1))))) (tgn 17) xtyes (xcall r_w_times (xcons (xcall r_w_pair (xcons (xv 17) xnil)) (xcons sgE xnil))) [17]))
theorem v_sL {x0 x1 x2 x3 : Ent} {m n : Nat} {e7 e8 e9 e10 e11 e12 e13 e14 : Ent} {ws : List D} (ha : Ln 8 ws) (hl : ws.length ≤ 8) :
    sL (St x0 x1 x2 x3 m n (.im (.lst ws)) e7 e8 e9 e10 e11 e12 e13 e14) = some (.nx, St x0 x1 x2 x3 m n (.im (.lst ws)) e7 e8 e9 e10 e11 e12 (.ow ((turn n (ws.map valQ)).map vq)) e14) := by
  have hi : ∀ x ∈ ws.reverse, ∃ G1 r G2, tgn 17 x (St x0 x1 x2 x3 m n (.im (.lst ws)) e7 e8 e9 e10 e11 e12 e13 e14) = some G1 ∧ xcall r_w_times (xcons (xcall r_w_pair (xcons (xv 17) xnil)) (xcons sgE xnil)) G1 = some (r, G2) ∧ r.d = tf n x ∧ wipeG G2 [17] = St x0 x1 x2 x3 m n (.im (.lst ws)) e7 e8 e9 e10 e11 e12 e13 e14 := fun x hx => by
    have hx := List.mem_reverse.mp hx
    refine ⟨_, _, _, rfl, xcall_ok (xc1 (xcall_ok (xc1 rfl xnil_ok) (v_w_pair (ha x hx).1.isV)) (xc1 (v_sgE rfl) xnil_ok)) (v_w_times (ha x hx).2 (sgQ_ht n) (by decide)), ?_, rfl⟩
    show vq (valQ x * sgQ n) = vq (sgQ n * valQ x)
    rw [Rat.mul_comm]
  have hs : xseqI (xrev (xv 6) (xop opSub (xc (.int 0)) (xc (.int 1)))) (St x0 x1 x2 x3 m n (.im (.lst ws)) e7 e8 e9 e10 e11 e12 e13 e14) = some (ws.reverse, St x0 x1 x2 x3 m n (.im (.lst ws)) e7 e8 e9 e10 e11 e12 e13 e14) := xrevI_ok rfl rfl
  have hf : ((turn n (ws.map valQ)).map vq).length ≤ 100000 := by rw [List.length_map, turn_len, List.length_map]; omega
  exact xset_e (xlc_ok hs rfl ((xlcL_map (tf n) hi).trans (congrArg some (congrArg (Prod.mk · _) (tf_map n ws)))) (few_le hf)) rfl
end Bk
namespace Bk
open PySem L2
def sA : MS := (xasg (xtup (xcons (xop opAdd (xc (.int 1)) (xcallB r_w_choose 2 (xcons (xc (.int 8)) xnil))) (xcons (xcallB r_w_choose 2 (xcons (xc (.int 6)) xnil)) xnil))) (tgt [(tgn 4), (tgn 5)]))
def sB : MS := (xset 6 (xcallB r_w_line 2 (xcons (xv 4) (xcons (xc (.int 9)) xnil))))
def sC : MS := (xpar 7 8 (xcons (xcallB r_w_kind_line 2 (xcons (xv 4) (xcons (xv 5) (xcons (xc (.int 5)) xnil)))) (xcons (xcallB r_w_kind_line 2 (xcons (xv 4) (xcons (xv 5) (xcons (xc (.int 5)) xnil)))) xnil)))
def sE : MS := (xifs (xtor (xtnot (xtru (xcall r_is_kind (xcons (xv 7) (xcons (xv 5) xnil))))) (xtnot (xtru (xcall r_is_kind (xcons (xv 9) (xcons (xv 5) xnil)))))) (xret (xc (.bl false))) xnext)
def sF : MS := (xset 10 (xcall r_w_grown (xcons (xop opMul (xlst (xcons (xc (.int 0)) xnil)) (xcb cbMin2 (xcons (xv 5) (xcons (xv 4) xnil)))) (xcons (xcall r_w_differences (xcons (xv 7) (xcons (xv 5) xnil))) xnil))))
def sG : MS := (xset 11 (xcall r_w_dot (xcons (xcall r_row_kernel (xcons (xv 6) (xcons (xv 5) xnil))) (xcons (xcall r_w_differences (xcons (xv 7) (xcons (xv 5) xnil))) xnil))))
def sH : MS := (xifs (xtand (xtest (xop opGe (xv 4) (xv 5))) (xtest (xop opNe (xcall r_row_told (xcons (xv 6) (xcons (xsl slA (xv 10) xnop (xpart (xv 4))) xnil))) (xv 11)))) (xret (xc (.bl false))) xnext)
def sI : MS := (xifs (xtest (xop opNe (xcall r_row_told (xcons (xv 6) (xcons (xv 9) xnil))) (xcall r_w_plus (xcons (xcall r_row_told (xcons (xv 6) (xcons (xv 7) xnil))) (xcons (xcall r_row_told (xcons (xv 6) (xcons (xv 8) xnil))) xnil))))) (xret (xc (.bl false))) xnext)
def sK : MS := (xifs (xtnot (xtru (xcall r_is_kind (xcons (xv 12) (xcons (xv 5) xnil))))) (xret (xc (.bl false))) xnext)
def sM : MS := (xifs (xtest (xop opNe (xcall r_row_never_below (xcons (xv 13) (xcons (xv 5) xnil))) (xcall r_row_never_below (xcons (xv 6) (xcons (xv 5) xnil))))) (xret (xc (.bl false))) xnext)
def sN : MS := (xifs (xtand (xtru (xcall r_row_never_below (xcons (xv 6) (xcons (xv 5) xnil)))) (xtest (xop opLt (xop opIx (xcall r_row_told (xcons (xv 6) (xcons (xv 9) xnil))) (xc (.int 0))) (xc (.int 0))))) (xret (xc (.bl false))) xnext)
def sO : MS := (xset 14 (xcall r_row_refuting (xcons (xv 6) (xcons (xv 5) xnil))))
def sP : MS := (xifs (xtand (xtest (xop opIsNot (xv 14) (xc .non))) (xtest (xop opGe (xop opIx (xcall r_row_told (xcons (xv 6) (xcons (xv 14) xnil))) (xc (.int 0))) (xc (.int 0))))) (xret (xc (.bl false))) xnext)
def turnB : MS := xseq sA (xseq sB (xseq sC (xseq sD (xseq sE (xseq sF (xseq sG (xseq sH (xseq sI (xseq sJ (xseq sK (xseq sL (xseq sM (xseq sN (xseq sO sP))))))))))))))
def InvT (x0 x1 : Ent) (G : Gam) : Prop := ∃ bs x3 x4 x5 e6 e7 e8 e9 e10 e11 e12 e13 e14, G = [x0, x1, .ow bs, x3, x4, x5, e6, e7, e8, e9, e10, e11, e12, e13, e14, .un, .un, .un] ∧ Bx bs
theorem rep_ok {d : D} {m : Nat} (hm : m ≤ 100) : opMul (.lst [d]) (.int (m : Int)) = some (.ow (List.replicate m d)) := by
  have ok : okR (m : Int) = true := okR_of (by omega) (by omega)
  show (if okR (m : Int) && few ([d].length * (m : Int).toNat) then some (R.ow (List.replicate (m : Int).toNat [d]).flatten) else none) = _
  rw [ok, Int.toNat_natCast, show few ([d].length * m) = true from decide_eq_true (by simp; omega), Bool.and_self, if_pos rfl, List.flatten_replicate_singleton]
theorem isn (r : D) : opIsNot r .non = some (.im (.bl (!isN r))) := by
  have : isD r .non = some (isN r) := by cases r <;> rfl
  unfold opIsNot
  rw [this]
theorem hgt23 {n : Nat} (hn : n ≤ 5) : hgt 23 n < 1000 := by
  have : n = 0 ∨ n = 1 ∨ n = 2 ∨ n = 3 ∨ n = 4 ∨ n = 5 := by omega
  rcases this with rfl | rfl | rfl | rfl | rfl | rfl <;> decide
theorem hgt30 {n : Nat} (hn : n ≤ 5) : hgt 30 n < 1000 := by
  have : n = 0 ∨ n = 1 ∨ n = 2 ∨ n = 3 ∨ n = 4 ∨ n = 5 := by omega
  rcases this with rfl | rfl | rfl | rfl | rfl | rfl <;> decide
theorem v_turnB {x0 x1 : Ent} {d : D} {G : Gam} (h : InvT x0 x1 G) : ∃ G1 G2, tgn 3 d G = some G1 ∧ turnB G1 = some (.nx, G2) ∧ InvT x0 x1 G2 := by
  obtain ⟨bs, x3, x4, x5, e6, e7, e8, e9, e10, e11, e12, e13, e14, rfl, hb⟩ := h
  obtain ⟨i, b1, c1, c2, c3, c4⟩ := v_w_choose (m := 8) hb (by decide) (by decide)
  obtain ⟨j, b2, d1, d2, d3, d4⟩ := v_w_choose (m := 6) c4 (by decide) (by decide)
  obtain ⟨m, hmi⟩ : ∃ m : Nat, 1 + i = (m : Int) := ⟨(1 + i).toNat, by omega⟩
  obtain ⟨n, hnj⟩ : ∃ n : Nat, j = (n : Int) := ⟨j.toNat, by omega⟩
  subst hnj
  have hm : m ≤ 8 := by omega
  have hn : n ≤ 5 := by omega
  have qA : sA [x0, x1, .ow bs, .im d, x4, x5, e6, e7, e8, e9, e10, e11, e12, e13, e14, .un, .un, .un] = some (.nx, St x0 x1 (.ow b2) (.im d) m n e6 e7 e8 e9 e10 e11 e12 e13 e14) := by
    have e : xtup (xcons (xop opAdd (xc (.int 1)) (xcallB r_w_choose 2 (xcons (xc (.int 8)) xnil))) (xcons (xcallB r_w_choose 2 (xcons (xc (.int 6)) xnil)) xnil)) [x0, x1, .ow bs, .im d, x4, x5, e6, e7, e8, e9, e10, e11, e12, e13, e14, .un, .un, .un] = some (.im (.tup [.int (m : Int), .int (n : Int)]), [x0, x1, .ow b2, .im d, x4, x5, e6, e7, e8, e9, e10, e11, e12, e13, e14, .un, .un, .un]) := by
      rw [← hmi]
      exact xtup_ok (xc1 (xo2 rfl (xcallB_ok rfl (xc1 rfl xnil_ok) rfl rfl c1 rfl) rfl) (xc1 (xcallB_ok rfl (xc1 rfl xnil_ok) rfl rfl d1 rfl) xnil_ok)) rfl
    unfold sA xasg
    rw [e]
    rfl
  obtain ⟨ws, b3, f1, f2, f3, f4⟩ := v_w_line (m := (m : Int)) (hi := 9) d4 (by omega) (by omega) (by decide) (by decide)
  have hwl : ws.length = m := by omega
  have qB : sB (St x0 x1 (.ow b2) (.im d) m n e6 e7 e8 e9 e10 e11 e12 e13 e14) = some (.nx, St x0 x1 (.ow b3) (.im d) m n (.ow ws) e7 e8 e9 e10 e11 e12 e13 e14) := xset_e (xcallB_ok rfl (xc1 rfl (xc1 rfl xnil_ok)) rfl rfl f1 rfl) rfl
  obtain ⟨r1, b4, qa, g1, g2, g3, g4⟩ := v_w_kind_line (m := m) (n := n) (hi := 5) f2 hm hn (by decide) (by decide)
  obtain ⟨r2, b5, qb, k1, k2, k3, k4⟩ := v_w_kind_line (m := m) (n := n) (hi := 5) g2 hm hn (by decide) (by decide)
  have qC : sC (St x0 x1 (.ow b3) (.im d) m n (.ow ws) e7 e8 e9 e10 e11 e12 e13 e14) = some (.nx, St x0 x1 (.ow b5) (.im d) m n (.ow ws) (.im (.lst (qa.map vq))) (.im (.lst (qb.map vq))) e9 e10 e11 e12 e13 e14) := by
    unfold sC xpar
    rw [xcons_ok (xcallB_ok rfl (xc1 rfl (xc1 rfl (xc1 rfl xnil_ok))) rfl rfl g1 rfl) (xcons_ok (xcallB_ok rfl (xc1 rfl (xc1 rfl (xc1 rfl xnil_ok))) rfl rfl k1 rfl) xnil_ok), g3, k3]
    rfl
  have ha : ∀ q ∈ qa, Ht q 23 := fun q hq => (g4.bd q hq).ht (by decide) (by decide)
  have hb' : ∀ q ∈ qb, Ht q 23 := fun q hq => (k4.bd q hq).ht (by decide) (by decide)
  have hab : qa.length = qb.length := by rw [g4.len, k4.len]
  have hsum : ∀ q ∈ addL qa qb, Ht q 30 := fun q hq => (addL_bd g4.bd k4.bd q hq).ht (by decide) (by decide)
  have hsl : (addL qa qb).length = m := by rw [addL_len hab, g4.len]
  have qD := v_sD (x0 := x0) (x1 := x1) (x2 := .ow b5) (x3 := .im d) (m := m) (n := n) (e6 := .ow ws) (e9 := e9) (e10 := e10) (e11 := e11) (e12 := e12) (e13 := e13) (e14 := e14) ha hb' (by rw [g4.len]; exact hm)
  have kinda : r_is_kind [.lst (qa.map vq), .int n] = some (.im (.bl true)) := by
    have := v_is_kind (d := .lst (qa.map vq)) (n := n) rfl (vq_ln ha) (by omega) (by have := hgt23 hn; omega) (by rw [List.length_map, g4.len]; omega)
    rw [vq_val, kd_ok g4.dfs] at this
    exact this
  have kinds : r_is_kind [.lst ((addL qa qb).map vq), .int n] = some (.im (.bl true)) := by
    have := v_is_kind (d := .lst ((addL qa qb).map vq)) (n := n) rfl (vq_ln hsum) (by omega) (by have := hgt30 hn; omega) (by rw [List.length_map, hsl]; omega)
    rw [vq_val, kd_ok (by rw [dfs_add n _ _ hab]; exact addL_nonneg g4.dfs k4.dfs)] at this
    exact this
  have tru : ∀ {a : M R} {G G1 : Gam} {k : Bool}, a G = some (.im (.bl k), G1) → xtru a G = some (k, G1) := fun h => by
    unfold xtru
    rw [h]
    rfl
  have qE : sE (St x0 x1 (.ow b5) (.im d) m n (.ow ws) (.im (.lst (qa.map vq))) (.im (.lst (qb.map vq))) (.ow ((addL qa qb).map vq)) e10 e11 e12 e13 e14) = some (.nx, St x0 x1 (.ow b5) (.im d) m n (.ow ws) (.im (.lst (qa.map vq))) (.im (.lst (qb.map vq))) (.im (.lst ((addL qa qb).map vq))) e10 e11 e12 e13 e14) := by
    have t1 : xtru (xcall r_is_kind (xcons (xv 7) (xcons (xv 5) xnil))) (St x0 x1 (.ow b5) (.im d) m n (.ow ws) (.im (.lst (qa.map vq))) (.im (.lst (qb.map vq))) (.ow ((addL qa qb).map vq)) e10 e11 e12 e13 e14) = some (true, St x0 x1 (.ow b5) (.im d) m n (.ow ws) (.im (.lst (qa.map vq))) (.im (.lst (qb.map vq))) (.ow ((addL qa qb).map vq)) e10 e11 e12 e13 e14) := tru (xcall_ok (xc1 rfl (xc1 rfl xnil_ok)) kinda)
    have t2 : xtru (xcall r_is_kind (xcons (xv 9) (xcons (xv 5) xnil))) (St x0 x1 (.ow b5) (.im d) m n (.ow ws) (.im (.lst (qa.map vq))) (.im (.lst (qb.map vq))) (.ow ((addL qa qb).map vq)) e10 e11 e12 e13 e14) = some (true, St x0 x1 (.ow b5) (.im d) m n (.ow ws) (.im (.lst (qa.map vq))) (.im (.lst (qb.map vq))) (.im (.lst ((addL qa qb).map vq))) e10 e11 e12 e13 e14) := tru (xcall_ok (xc1 rfl (xc1 rfl xnil_ok)) kinds)
    unfold sE xifs xtor xtnot
    simp only [t1, t2, bd_some]
    rfl
  -- grown from nothing
  have hda : ∀ q ∈ Bk.dfs n qa, Bd q 256000000 := fun q hq => (dfs_bd g4.bd q hq).up (by
    have : 2 ^ n ≤ 2 ^ 5 := Nat.pow_le_pow_right (by decide) hn
    have := Nat.mul_le_mul this (Nat.le_refl 8000000)
    omega)
  obtain ⟨rd, rd1, rd2⟩ := v_w_differences (d := .lst (qa.map vq)) (n := n) rfl (vq_ln ha) (by omega) (by have := hgt23 hn; omega) (by rw [List.length_map, g4.len]; omega)
  rw [vq_val] at rd2
  have hdl := dfs_len n qa
  rw [g4.len] at hdl
  have hz : (List.replicate (min n m) (D.int 0)).map valQ = zeros (min n m) := by
    rw [List.map_replicate]
    rfl
  have hbn : bn 0 (min n m) 256000000 ≤ bn 0 5 256000000 := bn_up _ (by omega)
  have hbv : bn 0 5 256000000 < 2 ^ 60 := by decide
  obtain ⟨rg, rg1, rg2, rg3⟩ := v_w_grown (d1 := .lst (List.replicate (min n m) (.int 0))) (d2 := .lst ((Bk.dfs n qa).map vq)) (F := 0) (B := 256000000) rfl rfl (fun x hx => by
    rw [List.eq_of_mem_replicate hx]
    exact ⟨.inl ⟨0, rfl⟩, ⟨0, by rw [Rat.zero_divInt]; rfl, Nat.le_refl _⟩⟩) (vq_lb hda) (by rw [List.length_replicate, List.length_map, hdl]; omega) (by rw [List.length_replicate]; omega) (by decide)
  rw [hz, vq_val] at rg2 rg3
  rw [List.length_replicate] at rg3
  generalize hqc : grown (zeros (min n m)) (Bk.dfs n qa) = qc at rg2 rg3
  have hcl : qc.length = m := by
    rw [← hqc, grown_len, hdl]
    unfold zeros
    rw [List.length_replicate]
    omega
  have hc : ∀ q ∈ qc, Ht q 60 := fun q hq => (rg3 q hq).ht (by decide) (by omega)
  have emin : (if (m : Int) < (n : Int) then (m : Int) else (n : Int)) = ((min n m : Nat) : Int) := by split <;> omega
  have dargs : ∀ G : Gam, G[7]? = some (.im (.lst (qa.map vq))) → G[5]? = some (.im (.int n)) → xcons (xcall r_w_differences (xcons (xv 7) (xcons (xv 5) xnil))) xnil G = some ([.lst ((Bk.dfs n qa).map vq)], G) := fun G z1 z2 => by
    rw [← rd2]
    exact xcons_ok (xcall_ok (xc1 (by unfold xv; rw [z1]) (xc1 (by unfold xv; rw [z2]) xnil_ok)) rd1) xnil_ok
  have hent : rg.ent = .ow (qc.map vq) ∨ rg.ent = .im (.lst (qc.map vq)) := by
    cases rg with
    | im dd => have : dd = .lst (qc.map vq) := rg2; subst this; exact .inr rfl
    | ow ds => have : D.lst ds = .lst (qc.map vq) := rg2; injection this with this; subst this; exact .inl rfl
  generalize hs9 : (addL qa qb).map vq = s9 at qD qE kinds
  have qF : sF (St x0 x1 (.ow b5) (.im d) m n (.ow ws) (.im (.lst (qa.map vq))) (.im (.lst (qb.map vq))) (.im (.lst s9)) e10 e11 e12 e13 e14) = some (.nx, St x0 x1 (.ow b5) (.im d) m n (.ow ws) (.im (.lst (qa.map vq))) (.im (.lst (qb.map vq))) (.im (.lst s9)) rg.ent e11 e12 e13 e14) := by
    have ecb : xcb cbMin2 (xcons (xv 5) (xcons (xv 4) xnil)) (St x0 x1 (.ow b5) (.im d) m n (.ow ws) (.im (.lst (qa.map vq))) (.im (.lst (qb.map vq))) (.im (.lst s9)) e10 e11 e12 e13 e14) = some (.im (.int ((min n m : Nat) : Int)), St x0 x1 (.ow b5) (.im d) m n (.ow ws) (.im (.lst (qa.map vq))) (.im (.lst (qb.map vq))) (.im (.lst s9)) e10 e11 e12 e13 e14) := by
      rw [← emin]
      exact xcb_ok (xc1 rfl (xc1 rfl xnil_ok)) rfl
    exact xset_e (xcall_ok (xcw (xop_ok (xlst_ok (xc1 rfl xnil_ok) rfl) ecb (rep_ok (by omega))) (dargs _ rfl rfl)) rg1) rfl
  have due : r_w_dot [.tup ((KQ ws n).map vq), .lst ((Bk.dfs n qa).map vq)] = some (.im (vq (dot (KQ ws n) (Bk.dfs n qa)))) := by
    have hk8 := KQ_ht8 (n := n) f4 (by omega) (by omega)
    have hkl := KQ_len (as := ws) (n := n)
    have hmul := Nat.mul_le_mul (show ((KQ ws n).map vq).length ≤ 8 by rw [List.length_map, hkl]; omega) (show 150 + 30 + 1 ≤ 181 by omega)
    have := v_w_dot (d := .tup ((KQ ws n).map vq)) (e := .lst ((Bk.dfs n qa).map vq)) (k := 150) (l := 30) rfl rfl (vq_ln hk8) (vq_ln fun q hq => (hda q hq).ht (by decide) (by decide)) (by rw [List.length_map, hkl]; omega) (by omega)
    rw [dotQ_dot, vq_val, vq_val] at this
    exact this
  have rk := v_row_kernel (d := .lst ws) (n := n) (.inl rfl) f4 (by decide) (by omega) (by omega)
  have qG : sG (St x0 x1 (.ow b5) (.im d) m n (.ow ws) (.im (.lst (qa.map vq))) (.im (.lst (qb.map vq))) (.im (.lst s9)) rg.ent e11 e12 e13 e14) = some (.nx, St x0 x1 (.ow b5) (.im d) m n (.im (.lst ws)) (.im (.lst (qa.map vq))) (.im (.lst (qb.map vq))) (.im (.lst s9)) rg.ent (.im (vq (dot (KQ ws n) (Bk.dfs n qa)))) e12 e13 e14) :=
    xset_e (xcall_ok (xc1 (xcall_ok (xc1 rfl (xc1 rfl xnil_ok)) rk) (dargs (St x0 x1 (.ow b5) (.im d) m n (.im (.lst ws)) (.im (.lst (qa.map vq))) (.im (.lst (qb.map vq))) (.im (.lst s9)) rg.ent e11 e12 e13 e14) rfl rfl)) due) rfl
  have told : ∀ (ds : List D) (l : Nat), Ln l ds → l ≤ 64 → ds.length ≤ 8 → r_row_told [.lst ws, .lst ds] = some (.im (vq (dotQ ws ds))) := fun ds l h1 h2 h3 => by
    have hmul := Nat.mul_le_mul (show ws.length ≤ 8 by omega) (show 8 + l + 1 ≤ 73 by omega)
    exact v_row_told (k := 8) (l := l) rfl rfl f4 h1 (by omega) (by omega) (by omega)
  have tc := told (qc.map vq) 60 (vq_ln hc) (by decide) (by rw [List.length_map, hcl]; exact hm)
  have ec : n ≤ m → dotQ ws (qc.map vq) = dot (KQ ws n) (Bk.dfs n qa) := fun hnm => by
    rw [dotQ_dot, vq_val, KQ_lev (by omega) (by omega), ← hqc, show min n m = n by omega]
    exact dot_grown0 (by rw [List.length_map, hdl]; omega)
  have qH : ∃ y10, sH (St x0 x1 (.ow b5) (.im d) m n (.im (.lst ws)) (.im (.lst (qa.map vq))) (.im (.lst (qb.map vq))) (.im (.lst s9)) rg.ent (.im (vq (dot (KQ ws n) (Bk.dfs n qa)))) e12 e13 e14) = some (.nx, St x0 x1 (.ow b5) (.im d) m n (.im (.lst ws)) (.im (.lst (qa.map vq))) (.im (.lst (qb.map vq))) (.im (.lst s9)) y10 (.im (vq (dot (KQ ws n) (Bk.dfs n qa)))) e12 e13 e14) := by
    have t1 : ∀ y : Ent, xtest (xop opGe (xv 4) (xv 5)) (St x0 x1 (.ow b5) (.im d) m n (.im (.lst ws)) (.im (.lst (qa.map vq))) (.im (.lst (qb.map vq))) (.im (.lst s9)) y (.im (vq (dot (KQ ws n) (Bk.dfs n qa)))) e12 e13 e14) = some (decide ((n : Int) ≤ m), St x0 x1 (.ow b5) (.im d) m n (.im (.lst ws)) (.im (.lst (qa.map vq))) (.im (.lst (qb.map vq))) (.im (.lst s9)) y (.im (vq (dot (KQ ws n) (Bk.dfs n qa)))) e12 e13 e14) := fun y => xtest_ok (xo2 rfl rfl rfl)
    by_cases hnm : (n : Int) ≤ m
    · have e := ec (by omega)
      have cut : slA (.lst (qc.map vq)) none (some (m : Int)) = some (.ow (qc.map vq)) := by
        have := cut_all (qc.map vq)
        rw [List.length_map, hcl] at this
        exact this
      have t2 : xtest (xop opNe (xcall r_row_told (xcons (xv 6) (xcons (xsl slA (xv 10) xnop (xpart (xv 4))) xnil))) (xv 11)) (St x0 x1 (.ow b5) (.im d) m n (.im (.lst ws)) (.im (.lst (qa.map vq))) (.im (.lst (qb.map vq))) (.im (.lst s9)) rg.ent (.im (vq (dot (KQ ws n) (Bk.dfs n qa)))) e12 e13 e14) = some (false, St x0 x1 (.ow b5) (.im d) m n (.im (.lst ws)) (.im (.lst (qa.map vq))) (.im (.lst (qb.map vq))) (.im (.lst s9)) (.im (.lst (qc.map vq))) (.im (vq (dot (KQ ws n) (Bk.dfs n qa)))) e12 e13 e14) := by
        rw [e] at tc
        rcases hent with he | he <;> rw [he]
        · exact xtest_ok (xo2 (xcall_ok (xc1 rfl (xcw (xsl_ok rfl rfl rfl cut) xnil_ok)) tc) rfl (ne_vq _))
        · exact xtest_ok (xo2 (xcall_ok (xc1 rfl (xcw (xsl_ok rfl rfl rfl cut) xnil_ok)) tc) rfl (ne_vq _))
      refine ⟨.im (.lst (qc.map vq)), ?_⟩
      unfold sH xifs xtand
      have t1' := t1 rg.ent
      rw [decide_eq_true hnm] at t1'
      simp only [t1', bd_some, if_true, t2]
      rfl
    · refine ⟨rg.ent, ?_⟩
      unfold sH xifs xtand
      have t1' := t1 rg.ent
      rw [decide_eq_false hnm] at t1'
      simp only [t1', bd_some]
      rfl
  obtain ⟨y10, qH⟩ := qH
  generalize dot (KQ ws n) (Bk.dfs n qa) = due0 at qG qH
  have ta := told (qa.map vq) 23 (vq_ln ha) (by decide) (by rw [List.length_map, g4.len]; exact hm)
  have tb := told (qb.map vq) 23 (vq_ln hb') (by decide) (by rw [List.length_map, k4.len]; exact hm)
  have ts := told s9 30 (by rw [← hs9]; exact vq_ln hsum) (by decide) (by rw [← hs9, List.length_map, hsl]; exact hm)
  have esum : dotQ ws s9 = dotQ ws (qa.map vq) + dotQ ws (qb.map vq) := by
    rw [← hs9, dotQ_dot, dotQ_dot, dotQ_dot, vq_val, vq_val, vq_val]
    exact dot_add _ _ _ hab
  have hta : ∀ (ds : List D), Ln 23 ds → Ht (dotQ ws ds) 300 := fun ds h1 => by
    have h := sumQ_ht (dot_ht (fun a ha => (f4 a ha).2) (fun b hb => (h1 b hb).2))
    have hz := zip_len ws ds
    refine h.up ?_
    have := Nat.mul_le_mul (Nat.le_trans hz (show ws.length ≤ 8 by omega)) (show 8 + 23 + 1 ≤ 32 by omega)
    omega
  have qI : sI (St x0 x1 (.ow b5) (.im d) m n (.im (.lst ws)) (.im (.lst (qa.map vq))) (.im (.lst (qb.map vq))) (.im (.lst s9)) y10 (.im (vq due0)) e12 e13 e14) = some (.nx, St x0 x1 (.ow b5) (.im d) m n (.im (.lst ws)) (.im (.lst (qa.map vq))) (.im (.lst (qb.map vq))) (.im (.lst s9)) y10 (.im (vq due0)) e12 e13 e14) := by
    have hne : opNe (vq (dotQ ws s9)) (vq (dotQ ws (qa.map vq) + dotQ ws (qb.map vq))) = some (.im (.bl false)) := by
      rw [esum]
      exact ne_vq _
    have t : xtest (xop opNe (xcall r_row_told (xcons (xv 6) (xcons (xv 9) xnil))) (xcall r_w_plus (xcons (xcall r_row_told (xcons (xv 6) (xcons (xv 7) xnil))) (xcons (xcall r_row_told (xcons (xv 6) (xcons (xv 8) xnil))) xnil)))) (St x0 x1 (.ow b5) (.im d) m n (.im (.lst ws)) (.im (.lst (qa.map vq))) (.im (.lst (qb.map vq))) (.im (.lst s9)) y10 (.im (vq due0)) e12 e13 e14) = some (false, St x0 x1 (.ow b5) (.im d) m n (.im (.lst ws)) (.im (.lst (qa.map vq))) (.im (.lst (qb.map vq))) (.im (.lst s9)) y10 (.im (vq due0)) e12 e13 e14) :=
      xtest_ok (xo2 (xcall_ok (xc1 rfl (xc1 rfl xnil_ok)) ts) (xcall_ok (xc1 (xcall_ok (xc1 rfl (xc1 rfl xnil_ok)) ta) (xc1 (xcall_ok (xc1 rfl (xc1 rfl xnil_ok)) tb) xnil_ok)) (v_w_plus (hta _ (vq_ln ha)) (hta _ (vq_ln hb')) (by decide))) hne)
    exact (xifs_ok t).trans rfl
  have qJ := v_sJ (x0 := x0) (x1 := x1) (x2 := .ow b5) (x3 := .im d) (m := m) (n := n) (e6 := .im (.lst ws)) (e8 := .im (.lst (qb.map vq))) (e9 := .im (.lst s9)) (e10 := y10) (e11 := .im (vq due0)) (e12 := e12) (e13 := e13) (e14 := e14) ha (by rw [g4.len]; exact hm)
  have hback : ∀ q ∈ turn n qa, Ht q 30 := fun q hq => by
    obtain ⟨u, hu, rfl⟩ := List.mem_map.mp hq
    exact ((sgQ_ht n).mul (ha u (List.mem_reverse.mp hu))).up (by decide)
  have kindt : r_is_kind [.lst ((turn n qa).map vq), .int n] = some (.im (.bl true)) := by
    have := v_is_kind (d := .lst ((turn n qa).map vq)) (n := n) rfl (vq_ln hback) (by omega) (by have := hgt30 hn; omega) (by rw [List.length_map, turn_len, g4.len]; omega)
    rw [vq_val, kd_ok (by rw [dfs_turn]; exact fun s hs => g4.dfs s (List.mem_reverse.mp hs))] at this
    exact this
  have qK : sK (St x0 x1 (.ow b5) (.im d) m n (.im (.lst ws)) (.im (.lst (qa.map vq))) (.im (.lst (qb.map vq))) (.im (.lst s9)) y10 (.im (vq due0)) (.ow ((turn n qa).map vq)) e13 e14) = some (.nx, St x0 x1 (.ow b5) (.im d) m n (.im (.lst ws)) (.im (.lst (qa.map vq))) (.im (.lst (qb.map vq))) (.im (.lst s9)) y10 (.im (vq due0)) (.im (.lst ((turn n qa).map vq))) e13 e14) := by
    have t1 : xtru (xcall r_is_kind (xcons (xv 12) (xcons (xv 5) xnil))) (St x0 x1 (.ow b5) (.im d) m n (.im (.lst ws)) (.im (.lst (qa.map vq))) (.im (.lst (qb.map vq))) (.im (.lst s9)) y10 (.im (vq due0)) (.ow ((turn n qa).map vq)) e13 e14) = some (true, St x0 x1 (.ow b5) (.im d) m n (.im (.lst ws)) (.im (.lst (qa.map vq))) (.im (.lst (qb.map vq))) (.im (.lst s9)) y10 (.im (vq due0)) (.im (.lst ((turn n qa).map vq))) e13 e14) := tru (xcall_ok (xc1 rfl (xc1 rfl xnil_ok)) kindt)
    unfold sK xifs xtnot
    simp only [t1, bd_some]
    rfl
  have qL := v_sL (x0 := x0) (x1 := x1) (x2 := .ow b5) (x3 := .im d) (m := m) (n := n) (e7 := .im (.lst (qa.map vq))) (e8 := .im (.lst (qb.map vq))) (e9 := .im (.lst s9)) (e10 := y10) (e11 := .im (vq due0)) (e12 := .im (.lst ((turn n qa).map vq))) (e13 := e13) (e14 := e14) f4 (by omega)
  have habt : Ln 10 ((turn n (ws.map valQ)).map vq) := vq_ln fun q hq => by
    obtain ⟨u, hu, rfl⟩ := List.mem_map.mp hq
    obtain ⟨w, hw, rfl⟩ := List.mem_map.mp (List.mem_reverse.mp hu)
    exact ((sgQ_ht n).mul (f4 w hw).2).up (by decide)
  have hatl : ((turn n (ws.map valQ)).map vq).length < 9 := by rw [List.length_map, turn_len, List.length_map]; omega
  obtain ⟨rw1, hr1, ref1⟩ := v_row_refuting (d := .lst ws) (n := n) (.inl rfl) f4 (by decide) (by omega) (by omega)
  obtain ⟨rw2, hr2, ref2⟩ := v_row_refuting (d := .lst ((turn n (ws.map valQ)).map vq)) (n := n) (.inl rfl) habt (by decide) hatl (by omega)
  have nb1 := v_row_never_below hr1
  have nb2 := v_row_never_below hr2
  have enb : isN rw2 = isN rw1 := by
    rw [Bool.eq_iff_iff, ref2.nb hatl (by omega), ref1.nb (by omega) (by omega), vq_val]
    exact NB_turn_iff
  rw [enb] at nb2
  generalize hS : (turn n (ws.map valQ)).map vq = s13 at qL nb2
  generalize hT : (turn n qa).map vq = s12 at qJ qK qL
  have qM : sM (St x0 x1 (.ow b5) (.im d) m n (.im (.lst ws)) (.im (.lst (qa.map vq))) (.im (.lst (qb.map vq))) (.im (.lst s9)) y10 (.im (vq due0)) (.im (.lst s12)) (.ow s13) e14) = some (.nx, St x0 x1 (.ow b5) (.im d) m n (.im (.lst ws)) (.im (.lst (qa.map vq))) (.im (.lst (qb.map vq))) (.im (.lst s9)) y10 (.im (vq due0)) (.im (.lst s12)) (.im (.lst s13)) e14) := by
    have t : xtest (xop opNe (xcall r_row_never_below (xcons (xv 13) (xcons (xv 5) xnil))) (xcall r_row_never_below (xcons (xv 6) (xcons (xv 5) xnil)))) (St x0 x1 (.ow b5) (.im d) m n (.im (.lst ws)) (.im (.lst (qa.map vq))) (.im (.lst (qb.map vq))) (.im (.lst s9)) y10 (.im (vq due0)) (.im (.lst s12)) (.ow s13) e14) = some (false, St x0 x1 (.ow b5) (.im d) m n (.im (.lst ws)) (.im (.lst (qa.map vq))) (.im (.lst (qb.map vq))) (.im (.lst s9)) y10 (.im (vq due0)) (.im (.lst s12)) (.im (.lst s13)) e14) :=
      xtest_ok (xo2 (xcall_ok (xc1 rfl (xc1 rfl xnil_ok)) nb2) (xcall_ok (xc1 rfl (xc1 rfl xnil_ok)) nb1) (ne_bl _))
    exact (xifs_ok t).trans rfl
  have qN : sN (St x0 x1 (.ow b5) (.im d) m n (.im (.lst ws)) (.im (.lst (qa.map vq))) (.im (.lst (qb.map vq))) (.im (.lst s9)) y10 (.im (vq due0)) (.im (.lst s12)) (.im (.lst s13)) e14) = some (.nx, St x0 x1 (.ow b5) (.im d) m n (.im (.lst ws)) (.im (.lst (qa.map vq))) (.im (.lst (qb.map vq))) (.im (.lst s9)) y10 (.im (vq due0)) (.im (.lst s12)) (.im (.lst s13)) e14) := by
    have t1 : xtru (xcall r_row_never_below (xcons (xv 6) (xcons (xv 5) xnil))) (St x0 x1 (.ow b5) (.im d) m n (.im (.lst ws)) (.im (.lst (qa.map vq))) (.im (.lst (qb.map vq))) (.im (.lst s9)) y10 (.im (vq due0)) (.im (.lst s12)) (.im (.lst s13)) e14) = some (isN rw1, St x0 x1 (.ow b5) (.im d) m n (.im (.lst ws)) (.im (.lst (qa.map vq))) (.im (.lst (qb.map vq))) (.im (.lst s9)) y10 (.im (vq due0)) (.im (.lst s12)) (.im (.lst s13)) e14) := tru (xcall_ok (xc1 rfl (xc1 rfl xnil_ok)) nb1)
    have t2 : xtest (xop opLt (xop opIx (xcall r_row_told (xcons (xv 6) (xcons (xv 9) xnil))) (xc (.int 0))) (xc (.int 0))) (St x0 x1 (.ow b5) (.im d) m n (.im (.lst ws)) (.im (.lst (qa.map vq))) (.im (.lst (qb.map vq))) (.im (.lst s9)) y10 (.im (vq due0)) (.im (.lst s12)) (.im (.lst s13)) e14) = some (decide ((dotQ ws s9).num < 0), St x0 x1 (.ow b5) (.im d) m n (.im (.lst ws)) (.im (.lst (qa.map vq))) (.im (.lst (qb.map vq))) (.im (.lst s9)) y10 (.im (vq due0)) (.im (.lst s12)) (.im (.lst s13)) e14) :=
      xtest_ok (xo2 (xo2 (xcall_ok (xc1 rfl (xc1 rfl xnil_ok)) ts) rfl rfl) rfl rfl)
    unfold sN xifs xtand
    simp only [t1, bd_some]
    cases hz : isN rw1 with
    | false => rfl
    | true =>
      have nbw := (ref1.nb (by omega) (by omega)).mp hz
      have hge : 0 ≤ dotQ ws s9 := by
        rw [← hs9, dotQ_dot, vq_val]
        refine (NB_iff.mp nbw) _ (by rw [hsl, List.length_map]; omega) ?_
        rw [dfs_add n _ _ hab]
        exact addL_nonneg g4.dfs k4.dfs
      rw [decide_eq_false (by rw [num_lt]; exact Rat.not_lt.mpr hge)] at t2
      simp only [if_true, t2, bd_some]
      rfl
  have qO : sO (St x0 x1 (.ow b5) (.im d) m n (.im (.lst ws)) (.im (.lst (qa.map vq))) (.im (.lst (qb.map vq))) (.im (.lst s9)) y10 (.im (vq due0)) (.im (.lst s12)) (.im (.lst s13)) e14) = some (.nx, St x0 x1 (.ow b5) (.im d) m n (.im (.lst ws)) (.im (.lst (qa.map vq))) (.im (.lst (qb.map vq))) (.im (.lst s9)) y10 (.im (vq due0)) (.im (.lst s12)) (.im (.lst s13)) (.im rw1)) := xset_e (xcall_ok (xc1 rfl (xc1 rfl xnil_ok)) hr1) rfl
  have qP : sP (St x0 x1 (.ow b5) (.im d) m n (.im (.lst ws)) (.im (.lst (qa.map vq))) (.im (.lst (qb.map vq))) (.im (.lst s9)) y10 (.im (vq due0)) (.im (.lst s12)) (.im (.lst s13)) (.im rw1)) = some (.nx, St x0 x1 (.ow b5) (.im d) m n (.im (.lst ws)) (.im (.lst (qa.map vq))) (.im (.lst (qb.map vq))) (.im (.lst s9)) y10 (.im (vq due0)) (.im (.lst s12)) (.im (.lst s13)) (.im rw1)) := by
    have t1 : xtest (xop opIsNot (xv 14) (xc .non)) (St x0 x1 (.ow b5) (.im d) m n (.im (.lst ws)) (.im (.lst (qa.map vq))) (.im (.lst (qb.map vq))) (.im (.lst s9)) y10 (.im (vq due0)) (.im (.lst s12)) (.im (.lst s13)) (.im rw1)) = some (!isN rw1, St x0 x1 (.ow b5) (.im d) m n (.im (.lst ws)) (.im (.lst (qa.map vq))) (.im (.lst (qb.map vq))) (.im (.lst s9)) y10 (.im (vq due0)) (.im (.lst s12)) (.im (.lst s13)) (.im rw1)) := xtest_ok (xo2 rfl rfl (isn rw1))
    unfold sP xifs xtand
    simp only [t1, bd_some]
    cases hz : isN rw1 with
    | true => rfl
    | false =>
      obtain ⟨xs, rfl, l1, l2, l3⟩ := ref1.told (by omega) (by omega) hz
      have tx : r_row_told [.lst ws, .tup xs] = some (.im (vq (dotQ ws xs))) := by
        have hmul := Nat.mul_le_mul (show ws.length ≤ 8 by omega) (show 8 + 8 + 1 ≤ 17 by omega)
        exact v_row_told (k := 8) (l := 8) rfl rfl f4 l2 (by omega) (by omega) (by omega)
      have t2 : xtest (xop opGe (xop opIx (xcall r_row_told (xcons (xv 6) (xcons (xv 14) xnil))) (xc (.int 0))) (xc (.int 0))) (St x0 x1 (.ow b5) (.im d) m n (.im (.lst ws)) (.im (.lst (qa.map vq))) (.im (.lst (qb.map vq))) (.im (.lst s9)) y10 (.im (vq due0)) (.im (.lst s12)) (.im (.lst s13)) (.im (.tup xs))) = some (decide (0 ≤ (dotQ ws xs).num), St x0 x1 (.ow b5) (.im d) m n (.im (.lst ws)) (.im (.lst (qa.map vq))) (.im (.lst (qb.map vq))) (.im (.lst s9)) y10 (.im (vq due0)) (.im (.lst s12)) (.im (.lst s13)) (.im (.tup xs))) :=
        xtest_ok (xo2 (xo2 (xcall_ok (xc1 rfl (xc1 rfl xnil_ok)) tx) rfl rfl) rfl rfl)
      rw [decide_eq_false (by rw [num_ge]; exact Rat.not_le.mpr l3)] at t2
      simp only [Bool.not_false, if_true, t2, bd_some]
      rfl
  exact ⟨_, _, rfl, (xseq_nx qA).trans ((xseq_nx qB).trans ((xseq_nx qC).trans ((xseq_nx qD).trans ((xseq_nx qE).trans ((xseq_nx qF).trans ((xseq_nx qG).trans ((xseq_nx qH).trans ((xseq_nx qI).trans ((xseq_nx qJ).trans ((xseq_nx qK).trans ((xseq_nx qL).trans ((xseq_nx qM).trans ((xseq_nx qN).trans ((xseq_nx qO).trans qP)))))))))))))), b5, _, _, _, _, _, _, _, _, _, _, _, _, rfl, k2⟩
theorem law_true : ∀ ns : List Int, ns.length ≤ 63 → r_law [.frz (ns.map .int)] = some (.im (.bl true)) := fun ns hn => by
  have hlen : cbLen [.frz (ns.map .int)] = some (.im (.int ns.length)) := by
    show some (R.im (.int (((ns.map D.int).length : Nat) : Int))) = _
    rw [List.length_map]
  have e1 : xcb cbMax2 (xcons (xc (.int 1)) (xcons (xcb cbMin2 (xcons (xc (.int 4)) (xcons (xcb cbLen (xcons (xv 0) xnil)) xnil))) xnil)) [.im (.frz (ns.map .int)), .un, .un, .un, .un, .un, .un, .un, .un, .un, .un, .un, .un, .un, .un, .un, .un, .un] = some (.im (.int (if (if (ns.length : Int) < 4 then (ns.length : Int) else 4) > 1 then (if (ns.length : Int) < 4 then (ns.length : Int) else 4) else 1)), [.im (.frz (ns.map .int)), .un, .un, .un, .un, .un, .un, .un, .un, .un, .un, .un, .un, .un, .un, .un, .un, .un]) :=
    xcb_ok (xc1 rfl (xc1 (xcb_ok (xc1 rfl (xc1 (xcb_ok (xc1 rfl xnil_ok) hlen) xnil_ok)) rfl) xnil_ok)) rfl
  generalize hc : (if (if (ns.length : Int) < 4 then (ns.length : Int) else 4) > 1 then (if (ns.length : Int) < 4 then (ns.length : Int) else 4) else 1) = c at e1
  have c9 : 0 < c ∧ c ≤ 4 := by
    rw [← hc]
    split <;> (try split at *) <;> omega
  obtain ⟨G', g1, x1, x2, x3, x4, x5, x6, x7, x8, x9, x10, x11, x12, x13, x14, rfl, n2⟩ := xforL_inv (tg := tgn 1) (b := xseq (xset 2 (xcall r_w_seed (xcons (xv 0) (xcons (xv 1) xnil)))) (xfor (xrange1 (xcons (xc (.int 5)) xnil)) (tgn 3) turnB))
    (fun G => ∃ x1 x2 x3 x4 x5 x6 x7 x8 x9 x10 x11 x12 x13 x14, G = [.im (.frz (ns.map .int)), x1, x2, x3, x4, x5, x6, x7, x8, x9, x10, x11, x12, x13, x14, .un, .un, .un] ∧ True) (ds := rng 0 c.toNat) (G := [.im (.frz (ns.map .int)), .un, .un, .un, .un, .un, .un, .un, .un, .un, .un, .un, .un, .un, .un, .un, .un, .un]) ⟨_, _, _, _, _, _, _, _, _, _, _, _, _, _, rfl, trivial⟩ (fun e he G hG => by
    obtain ⟨x1, x2, x3, x4, x5, x6, x7, x8, x9, x10, x11, x12, x13, x14, rfl, -⟩ := hG
    obtain ⟨k, hk, rfl⟩ := rng_mem he
    obtain ⟨bs, s1, s2⟩ := v_w_seed (ns := ns) (k := 0 + (k : Int)) (by omega) (by omega)
    obtain ⟨G', g1, bs', y3, y4, y5, y6, y7, y8, y9, y10, y11, y12, y13, y14, rfl, -⟩ := xforL_inv (tg := tgn 3) (b := turnB) (InvT (.im (.frz (ns.map .int))) (.im (.int (0 + (k : Int))))) (ds := rng 0 5) (G := [.im (.frz (ns.map .int)), .im (.int (0 + (k : Int))), .ow bs, x3, x4, x5, x6, x7, x8, x9, x10, x11, x12, x13, x14, .un, .un, .un]) ⟨_, _, _, _, _, _, _, _, _, _, _, _, _, rfl, s2⟩
      (fun d hd G h => let ⟨G1, G2, h1, h2, h3⟩ := v_turnB (d := d) h; ⟨G1, G2, h1, .inl h2, h3⟩)
    exact ⟨_, _, rfl, .inl ((xseq_nx (by exact xset_e (xcall_ok (xc1 rfl (xc1 rfl xnil_ok)) s1) rfl)).trans (by exact xfor_ok (xrange1_ok (xc1 rfl xnil_ok) (by decide)) g1)), _, _, _, _, _, _, _, _, _, _, _, _, _, _, rfl, trivial⟩)
  refine runF_st rfl ?_
  refine st_nx (by exact xfor_ok (xrange1_ok (xc1 e1 xnil_ok) (okR_of (by omega) (by omega))) g1) ?_
  exact st_ret rfl
end Bk
namespace Bk
open PySem L2 PyProof.Rows
def top (i : Nat) : Stmt := PySem.Challenge.pw_bendkinds_k64_whole_sums_and_kernels.main.body.getD i (.Pass ⟨0, 0, 0, 0⟩)
abbrev s_is_integer : Stmt := top 2
abbrev s_divisor : Stmt := top 3
abbrev s_lowest : Stmt := top 4
abbrev s_value_of : Stmt := top 5
abbrev s_added : Stmt := top 6
abbrev s_less_by : Stmt := top 7
abbrev s_multiplied : Stmt := top 8
abbrev s_is_less : Stmt := top 9
abbrev s_summed : Stmt := top 10
abbrev s_product_to : Stmt := top 12
abbrev s_ways_to_choose : Stmt := top 13
abbrev s_values_of : Stmt := top 15
abbrev s_differences : Stmt := top 16
abbrev s_is_kind : Stmt := top 17
abbrev s_row_told : Stmt := top 18
abbrev s_unit_row : Stmt := top 19
abbrev s_power_row : Stmt := top 20
abbrev s_row_kernel : Stmt := top 21
abbrev s_row_refuting : Stmt := top 22
abbrev s_row_never_below : Stmt := top 23
abbrev s_w_divisor : Stmt := top 25
abbrev s_w_choose : Stmt := top 31
abbrev s_w_one_of : Stmt := top 26
abbrev s_w_low : Stmt := top 27
abbrev s_w_minus : Stmt := top 28
abbrev s_w_plus : Stmt := top 32
abbrev s_w_sum : Stmt := top 29
abbrev s_w_seed : Stmt := top 30
abbrev s_w_times : Stmt := top 33
abbrev s_w_pair : Stmt := top 34
abbrev s_w_line : Stmt := top 35
abbrev s_w_differences : Stmt := top 36
abbrev s_w_dot : Stmt := top 37
abbrev s_w_grown : Stmt := top 38
abbrev s_w_kind_line : Stmt := top 39
abbrev s_law : Stmt := top 40
abbrev nm_is_integer : List PySem.Str := ["value"]
abbrev nm_divisor : List PySem.Str := ["one", "other"]
abbrev nm_lowest : List PySem.Str := ["top", "low", "common"]
abbrev nm_value_of : List PySem.Str := ["value"]
abbrev nm_added : List PySem.Str := ["one", "other"]
abbrev nm_less_by : List PySem.Str := ["one", "other"]
abbrev nm_multiplied : List PySem.Str := ["one", "other"]
abbrev nm_is_less : List PySem.Str := ["one", "other"]
abbrev nm_summed : List PySem.Str := ["values", "found", "one"]
abbrev nm_product_to : List PySem.Str := ["many", "found", "factor"]
abbrev nm_ways_to_choose : List PySem.Str := ["many", "few"]
abbrev nm_values_of : List PySem.Str := ["row", "one"]
abbrev nm_differences : List PySem.Str := ["row", "n", "turn", "here", "there"]
abbrev nm_is_kind : List PySem.Str := ["row", "n", "one"]
abbrev nm_row_told : List PySem.Str := ["weights", "row", "weight", "one"]
abbrev nm_unit_row : List PySem.Str := ["many", "n", "k", "at"]
abbrev nm_power_row : List PySem.Str := ["many", "j", "at"]
abbrev nm_row_kernel : List PySem.Str := ["weights", "n", "many", "k"]
abbrev nm_row_refuting : List PySem.Str := ["weights", "n", "many", "j", "row", "found", "sign", "k", "one"]
abbrev nm_row_never_below : List PySem.Str := ["weights", "n"]
abbrev nm_w_divisor : List PySem.Str := ["_law_one", "_law_other"]
abbrev nm_w_choose : List PySem.Str := ["_law_box", "_law_many", "_law_digit", "_law_raw"]
abbrev nm_w_one_of : List PySem.Str := ["_law_box", "_law_some"]
abbrev nm_w_low : List PySem.Str := ["_law_top", "_law_below", "_law_by"]
abbrev nm_w_minus : List PySem.Str := ["_law_one", "_law_other"]
abbrev nm_w_plus : List PySem.Str := ["_law_one", "_law_other"]
abbrev nm_w_sum : List PySem.Str := ["_law_some", "_law_found", "_law_one"]
abbrev nm_w_seed : List PySem.Str := ["_law_script", "_law_k", "_law_cell", "_law_great"]
abbrev nm_w_times : List PySem.Str := ["_law_one", "_law_other"]
abbrev nm_w_pair : List PySem.Str := ["_law_one"]
abbrev nm_w_line : List PySem.Str := ["_law_box", "_law_many", "_law_high", "_law_found", "_law_at", "_law_top"]
abbrev nm_w_differences : List PySem.Str := ["_law_line_here", "_law_n", "_law_found", "_law_turn", "_law_one", "_law_at"]
abbrev nm_w_dot : List PySem.Str := ["_law_one", "_law_other", "_law_here", "_law_there"]
abbrev nm_w_grown : List PySem.Str := ["_law_first", "_law_steps", "_law_found", "_law_start", "_law_longer", "_law_one"]
abbrev nm_w_kind_line : List PySem.Str := ["_law_box", "_law_many", "_law_n", "_law_high", "_law_first", "_law_steps", "_law_at", "_law_one", "_law_top", "_law_below"]
abbrev nm_law : List PySem.Str := ["_law_script", "_law_k", "_law_box", "_law_turn", "_law_many", "_law_n", "_law_weights", "_law_line_here", "_law_other", "_law_both", "_law_bare", "_law_due", "_law_back", "_law_about", "_law_wrong", "_law_here", "_law_there", "_law_one"]
abbrev pm_is_integer : List PySem.Str := ["value"]
abbrev pm_divisor : List PySem.Str := ["one", "other"]
abbrev pm_lowest : List PySem.Str := ["top", "low"]
abbrev pm_value_of : List PySem.Str := ["value"]
abbrev pm_added : List PySem.Str := ["one", "other"]
abbrev pm_less_by : List PySem.Str := ["one", "other"]
abbrev pm_multiplied : List PySem.Str := ["one", "other"]
abbrev pm_is_less : List PySem.Str := ["one", "other"]
abbrev pm_summed : List PySem.Str := ["values"]
abbrev pm_product_to : List PySem.Str := ["many"]
abbrev pm_ways_to_choose : List PySem.Str := ["many", "few"]
abbrev pm_values_of : List PySem.Str := ["row"]
abbrev pm_differences : List PySem.Str := ["row", "n"]
abbrev pm_is_kind : List PySem.Str := ["row", "n"]
abbrev pm_row_told : List PySem.Str := ["weights", "row"]
abbrev pm_unit_row : List PySem.Str := ["many", "n", "k"]
abbrev pm_power_row : List PySem.Str := ["many", "j"]
abbrev pm_row_kernel : List PySem.Str := ["weights", "n"]
abbrev pm_row_refuting : List PySem.Str := ["weights", "n"]
abbrev pm_row_never_below : List PySem.Str := ["weights", "n"]
abbrev pm_w_divisor : List PySem.Str := ["_law_one", "_law_other"]
abbrev pm_w_choose : List PySem.Str := ["_law_box", "_law_many"]
abbrev pm_w_one_of : List PySem.Str := ["_law_box", "_law_some"]
abbrev pm_w_low : List PySem.Str := ["_law_top", "_law_below"]
abbrev pm_w_minus : List PySem.Str := ["_law_one", "_law_other"]
abbrev pm_w_plus : List PySem.Str := ["_law_one", "_law_other"]
abbrev pm_w_sum : List PySem.Str := ["_law_some"]
abbrev pm_w_seed : List PySem.Str := ["_law_script", "_law_k"]
abbrev pm_w_times : List PySem.Str := ["_law_one", "_law_other"]
abbrev pm_w_pair : List PySem.Str := ["_law_one"]
abbrev pm_w_line : List PySem.Str := ["_law_box", "_law_many", "_law_high"]
abbrev pm_w_differences : List PySem.Str := ["_law_line_here", "_law_n"]
abbrev pm_w_dot : List PySem.Str := ["_law_one", "_law_other"]
abbrev pm_w_grown : List PySem.Str := ["_law_first", "_law_steps"]
abbrev pm_w_kind_line : List PySem.Str := ["_law_box", "_law_many", "_law_n", "_law_high"]
abbrev pm_law : List PySem.Str := ["_law_script"]
structure Txt (K : PySem.W.Frag) (mg : PySem.Str → Option Value) where
  is_integer : FnT K mg "is_integer" s_is_integer
  divisor : FnT K mg "divisor" s_divisor
  lowest : FnT K mg "lowest" s_lowest
  value_of : FnT K mg "value_of" s_value_of
  added : FnT K mg "added" s_added
  less_by : FnT K mg "less_by" s_less_by
  multiplied : FnT K mg "multiplied" s_multiplied
  is_less : FnT K mg "is_less" s_is_less
  summed : FnT K mg "summed" s_summed
  product_to : FnT K mg "product_to" s_product_to
  ways_to_choose : FnT K mg "ways_to_choose" s_ways_to_choose
  values_of : FnT K mg "values_of" s_values_of
  differences : FnT K mg "differences" s_differences
  is_kind : FnT K mg "is_kind" s_is_kind
  row_told : FnT K mg "row_told" s_row_told
  unit_row : FnT K mg "unit_row" s_unit_row
  power_row : FnT K mg "power_row" s_power_row
  row_kernel : FnT K mg "row_kernel" s_row_kernel
  row_refuting : FnT K mg "row_refuting" s_row_refuting
  row_never_below : FnT K mg "row_never_below" s_row_never_below
  w_divisor : FnT K mg "_law_divisor" s_w_divisor
  w_choose : FnT K mg "_law_choose" s_w_choose
  w_one_of : FnT K mg "_law_one_of" s_w_one_of
  w_low : FnT K mg "_law_low" s_w_low
  w_minus : FnT K mg "_law_minus" s_w_minus
  w_plus : FnT K mg "_law_plus" s_w_plus
  w_sum : FnT K mg "_law_sum" s_w_sum
  w_seed : FnT K mg "_law_seed" s_w_seed
  w_times : FnT K mg "_law_times" s_w_times
  w_pair : FnT K mg "_law_pair" s_w_pair
  w_line : FnT K mg "_law_line" s_w_line
  w_differences : FnT K mg "_law_differences" s_w_differences
  w_dot : FnT K mg "_law_dot" s_w_dot
  w_grown : FnT K mg "_law_grown" s_w_grown
  w_kind_line : FnT K mg "_law_kind_line" s_w_kind_line
  law : FnT K mg "law" s_law
  NOUGHT : CoT K mg "NOUGHT" c_NOUGHT
  abs : mg "abs" = none
  any : mg "any" = none
  bool : mg "bool" = none
  enumerate : mg "enumerate" = none
  int : mg "int" = none
  isinstance : mg "isinstance" = none
  len : mg "len" = none
  max : mg "max" = none
  min : mg "min" = none
  range : mg "range" = none
  tuple : mg "tuple" = none
  zip : mg "zip" = none
section
variable {P : Program} {w : World} {K : PySem.W.Frag} {mg : PySem.Str → Option Value} {base : Heap}
theorem sc_is_integer : FnScope nm_is_integer pm_is_integer (defScope s_is_integer) := ⟨rfl, rfl, rfl, by decide +kernel, rfl, by decide +kernel, by decide +kernel⟩
theorem bi_is_integer (T : Txt K mg) : Binds K T.is_integer.fd pm_is_integer [] := T.is_integer.F.binds fun _ _ _ _ _ _ us hl => match us, hl with | [_], _ => rfl
theorem ok_is_integer (T : Txt K mg) : FnOk P w K mg base CX0 1 T.is_integer.f T.is_integer.fd pm_is_integer (spF K r_is_integer) := by
  have nd := sc_is_integer.nd
  refine data_F T.is_integer.F sc_is_integer fun cdv A outer s H E hr => ?_
  refine ⟨_, (pss_one (ps_ret (pe_and (pe_callB (kcr_isi (K := K) rfl) (by rfl) T.isinstance (by decide +kernel) (pa_cons (pv 0) (pa_cons (pe_bltn (v := .ty "int") (u := .type "int") (by rfl) T.int (by decide +kernel) rfl) pa_nil))) (pe_one (pe_not (pe_callB (kcr_isi (K := K) rfl) (by rfl) T.isinstance (by decide +kernel) (pa_cons (pv 0) (pa_cons (pe_bltn (v := .ty "bool") (u := .type "bool") (by rfl) T.bool (by decide +kernel) rfl) pa_nil)))))))), ?_⟩
  exact ((sk_ret (gk_vand (gk_cb cd_isi (ak_cons gk_var (ak_cons (gk_c fun _ => .ty _) ak_nil))) (gk_vnot (gk_cb cd_isi (ak_cons gk_var (ak_cons (gk_c fun _ => .ty _) ak_nil)))))) : SOk K _ b_is_integer)
theorem sc_divisor : FnScope nm_divisor pm_divisor (defScope s_divisor) := ⟨rfl, rfl, rfl, by decide +kernel, rfl, by decide +kernel, by decide +kernel⟩
theorem bi_divisor (T : Txt K mg) : Binds K T.divisor.fd pm_divisor [] := T.divisor.F.binds fun _ _ _ _ _ _ us hl => match us, hl with | [_, _], _ => rfl
theorem ok_divisor (T : Txt K mg) : FnOk P w K mg base CX0 1 T.divisor.f T.divisor.fd pm_divisor (spF K r_divisor) := by
  have nd := sc_divisor.nd
  refine data_F T.divisor.F sc_divisor fun cdv A outer s H E hr => ?_
  refine ⟨_, (pss_cons (ps_par (i := 0) (j := 1) rfl nd rfl rfl (by decide) rfl rfl (pa_cons (pe_callB cr_abs (by rfl) T.abs (by decide +kernel) (pa_cons (pv 0) pa_nil)) (pa_cons (pe_callB cr_abs (by rfl) T.abs (by decide +kernel) (pa_cons (pv 1) pa_nil)) pa_nil)) (by rfl))
    (pss_cons (ps_while PassesOwn.never (pt_cmpR (kop_ne (K := K) rfl hr.units) (pv 1) pe_int (nomark _)) (pss_one (ps_par (i := 0) (j := 1) rfl nd rfl rfl (by decide) rfl rfl (pa_cons (pv 1) (pa_cons (pe_op op_modA (pv 0) (pv 1)) pa_nil)) (by rfl))))
    (pss_one (ps_ret (pv 0))))), ?_⟩
  exact ((sk_seq (sk_par (ak_cons (gk_cb cd_abs (ak_cons gk_var ak_nil)) (ak_cons (gk_cb cd_abs (ak_cons gk_var ak_nil)) ak_nil)))
    (sk_seq (sk_while (fuelI 1) (tk_test (gk_op od_ne gk_var gk_int)) (sk_par (ak_cons gk_var (ak_cons (gk_op od_mod gk_var gk_var) ak_nil))))
    (sk_ret gk_mv))) : SOk K _ b_divisor)
theorem sc_lowest : FnScope nm_lowest pm_lowest (defScope s_lowest) := ⟨rfl, rfl, rfl, by decide +kernel, rfl, by decide +kernel, by decide +kernel⟩
theorem bi_lowest (T : Txt K mg) : Binds K T.lowest.fd pm_lowest [] := T.lowest.F.binds fun _ _ _ _ _ _ us hl => match us, hl with | [_, _], _ => rfl
theorem ok_lowest (T : Txt K mg) : FnOk P w K mg base CX0 2 T.lowest.f T.lowest.fd pm_lowest (spF K r_lowest) := by
  have nd := sc_lowest.nd
  refine data_F T.lowest.F sc_lowest fun cdv A outer s H E hr => ?_
  refine ⟨_, (pss_cons (ps_set (i := 2) nd rfl (Or.inl rfl) (pe_call (ok_divisor T) (hr.mono (by decide)) rfl T.divisor.m T.divisor.F.kp (bi_divisor T) .nil pass0 (pa_cons (pv 0) (pa_cons (pv 1) pa_nil))))
    (pss_cons (ps_set (i := 2) nd rfl (Or.inl rfl) (pe_ifExp (pt_cmpR op_lt (pv 1) pe_int (nomark _)) (pe_un un_neg (pv 2)) (pv 2)))
    (pss_one (ps_ret (pe_tup (pa_cons (pe_op op_fdivA (pv 0) (pv 2)) (pa_cons (pe_op op_fdivA (pv 1) (pv 2)) pa_nil))))))), ?_⟩
  exact ((sk_seq (sk_set (gk_call (ak_cons gk_var (ak_cons gk_var ak_nil))))
    (sk_seq (sk_set (gk_if (tk_test (gk_op od_lt gk_var gk_int)) (gk_un ud_neg gk_var) gk_var))
    (sk_ret (gk_tup (ak_cons (gk_op od_fdiv gk_var gk_var) (ak_cons (gk_op od_fdiv gk_var gk_var) ak_nil)))))) : SOk K _ b_lowest)
theorem sc_value_of : FnScope nm_value_of pm_value_of (defScope s_value_of) := ⟨rfl, rfl, rfl, by decide +kernel, rfl, by decide +kernel, by decide +kernel⟩
theorem bi_value_of (T : Txt K mg) : Binds K T.value_of.fd pm_value_of [] := T.value_of.F.binds fun _ _ _ _ _ _ us hl => match us, hl with | [_], _ => rfl
theorem ok_value_of (T : Txt K mg) : FnOk P w K mg base CX0 2 T.value_of.f T.value_of.fd pm_value_of (spF K r_value_of) := by
  have nd := sc_value_of.nd
  refine data_F T.value_of.F sc_value_of fun cdv A outer s H E hr => ?_
  refine ⟨_, (pss_one (ps_ret (pe_ifExp (kpt_tru (K := K) rfl (pe_call (ok_is_integer T) (hr.mono (by decide)) rfl T.is_integer.m T.is_integer.F.kp (bi_is_integer T) .nil pass0 (pa_cons (pv 0) pa_nil)) (by intro _; rfl)) (pe_tup (pa_cons (pv 0) (pa_cons pe_int pa_nil))) (pv 0)))), ?_⟩
  exact ((sk_ret (gk_if (tk_truK (gk_call (ak_cons gk_var ak_nil))) (gk_tup (ak_cons gk_var (ak_cons gk_int ak_nil))) gk_var)) : SOk K _ b_value_of)
theorem sc_added : FnScope nm_added pm_added (defScope s_added) := ⟨rfl, rfl, rfl, by decide +kernel, rfl, by decide +kernel, by decide +kernel⟩
theorem bi_added (T : Txt K mg) : Binds K T.added.fd pm_added [] := T.added.F.binds fun _ _ _ _ _ _ us hl => match us, hl with | [_, _], _ => rfl
theorem ok_added (T : Txt K mg) : FnOk P w K mg base CX0 3 T.added.f T.added.fd pm_added (spF K r_added) := by
  have nd := sc_added.nd
  refine data_F T.added.F sc_added fun cdv A outer s H E hr => ?_
  refine ⟨_, (pss_one (ps_ret (pe_call (ok_lowest T) (hr.mono (by decide)) rfl T.lowest.m T.lowest.F.kp (bi_lowest T) .nil pass0 (pa_cons (pe_op op_addA (pe_op op_mulA (pe_ix (kix (K := K) rfl) (pv 0) pe_int (fun _ _ => rfl)) (pe_ix (kix (K := K) rfl) (pv 1) pe_int (fun _ _ => rfl))) (pe_op op_mulA (pe_ix (kix (K := K) rfl) (pv 1) pe_int (fun _ _ => rfl)) (pe_ix (kix (K := K) rfl) (pv 0) pe_int (fun _ _ => rfl)))) (pa_cons (pe_op op_mulA (pe_ix (kix (K := K) rfl) (pv 0) pe_int (fun _ _ => rfl)) (pe_ix (kix (K := K) rfl) (pv 1) pe_int (fun _ _ => rfl))) pa_nil))))), ?_⟩
  exact ((sk_ret (gk_call (ak_cons (gk_op od_add (gk_op od_mul (gk_op od_ix gk_var gk_int) (gk_op od_ix gk_var gk_int)) (gk_op od_mul (gk_op od_ix gk_var gk_int) (gk_op od_ix gk_var gk_int))) (ak_cons (gk_op od_mul (gk_op od_ix gk_var gk_int) (gk_op od_ix gk_var gk_int)) ak_nil)))) : SOk K _ b_added)
theorem sc_less_by : FnScope nm_less_by pm_less_by (defScope s_less_by) := ⟨rfl, rfl, rfl, by decide +kernel, rfl, by decide +kernel, by decide +kernel⟩
theorem bi_less_by (T : Txt K mg) : Binds K T.less_by.fd pm_less_by [] := T.less_by.F.binds fun _ _ _ _ _ _ us hl => match us, hl with | [_, _], _ => rfl
theorem ok_less_by (T : Txt K mg) : FnOk P w K mg base CX0 3 T.less_by.f T.less_by.fd pm_less_by (spF K r_less_by) := by
  have nd := sc_less_by.nd
  refine data_F T.less_by.F sc_less_by fun cdv A outer s H E hr => ?_
  refine ⟨_, (pss_one (ps_ret (pe_call (ok_lowest T) (hr.mono (by decide)) rfl T.lowest.m T.lowest.F.kp (bi_lowest T) .nil pass0 (pa_cons (pe_op op_subA (pe_op op_mulA (pe_ix (kix (K := K) rfl) (pv 0) pe_int (fun _ _ => rfl)) (pe_ix (kix (K := K) rfl) (pv 1) pe_int (fun _ _ => rfl))) (pe_op op_mulA (pe_ix (kix (K := K) rfl) (pv 1) pe_int (fun _ _ => rfl)) (pe_ix (kix (K := K) rfl) (pv 0) pe_int (fun _ _ => rfl)))) (pa_cons (pe_op op_mulA (pe_ix (kix (K := K) rfl) (pv 0) pe_int (fun _ _ => rfl)) (pe_ix (kix (K := K) rfl) (pv 1) pe_int (fun _ _ => rfl))) pa_nil))))), ?_⟩
  exact ((sk_ret (gk_call (ak_cons (gk_op od_sub (gk_op od_mul (gk_op od_ix gk_var gk_int) (gk_op od_ix gk_var gk_int)) (gk_op od_mul (gk_op od_ix gk_var gk_int) (gk_op od_ix gk_var gk_int))) (ak_cons (gk_op od_mul (gk_op od_ix gk_var gk_int) (gk_op od_ix gk_var gk_int)) ak_nil)))) : SOk K _ b_less_by)
theorem sc_multiplied : FnScope nm_multiplied pm_multiplied (defScope s_multiplied) := ⟨rfl, rfl, rfl, by decide +kernel, rfl, by decide +kernel, by decide +kernel⟩
theorem bi_multiplied (T : Txt K mg) : Binds K T.multiplied.fd pm_multiplied [] := T.multiplied.F.binds fun _ _ _ _ _ _ us hl => match us, hl with | [_, _], _ => rfl
theorem ok_multiplied (T : Txt K mg) : FnOk P w K mg base CX0 3 T.multiplied.f T.multiplied.fd pm_multiplied (spF K r_multiplied) := by
  have nd := sc_multiplied.nd
  refine data_F T.multiplied.F sc_multiplied fun cdv A outer s H E hr => ?_
  refine ⟨_, (pss_one (ps_ret (pe_call (ok_lowest T) (hr.mono (by decide)) rfl T.lowest.m T.lowest.F.kp (bi_lowest T) .nil pass0 (pa_cons (pe_op op_mulA (pe_ix (kix (K := K) rfl) (pv 0) pe_int (fun _ _ => rfl)) (pe_ix (kix (K := K) rfl) (pv 1) pe_int (fun _ _ => rfl))) (pa_cons (pe_op op_mulA (pe_ix (kix (K := K) rfl) (pv 0) pe_int (fun _ _ => rfl)) (pe_ix (kix (K := K) rfl) (pv 1) pe_int (fun _ _ => rfl))) pa_nil))))), ?_⟩
  exact ((sk_ret (gk_call (ak_cons (gk_op od_mul (gk_op od_ix gk_var gk_int) (gk_op od_ix gk_var gk_int)) (ak_cons (gk_op od_mul (gk_op od_ix gk_var gk_int) (gk_op od_ix gk_var gk_int)) ak_nil)))) : SOk K _ b_multiplied)
theorem sc_is_less : FnScope nm_is_less pm_is_less (defScope s_is_less) := ⟨rfl, rfl, rfl, by decide +kernel, rfl, by decide +kernel, by decide +kernel⟩
theorem bi_is_less (T : Txt K mg) : Binds K T.is_less.fd pm_is_less [] := T.is_less.F.binds fun _ _ _ _ _ _ us hl => match us, hl with | [_, _], _ => rfl
theorem ok_is_less (T : Txt K mg) : FnOk P w K mg base CX0 1 T.is_less.f T.is_less.fd pm_is_less (spF K r_is_less) := by
  have nd := sc_is_less.nd
  refine data_F T.is_less.F sc_is_less fun cdv A outer s H E hr => ?_
  refine ⟨_, (pss_one (ps_ret (pe_cmpR op_lt (pe_op op_mulA (pe_ix (kix (K := K) rfl) (pv 0) pe_int (fun _ _ => rfl)) (pe_ix (kix (K := K) rfl) (pv 1) pe_int (fun _ _ => rfl))) (pe_op op_mulA (pe_ix (kix (K := K) rfl) (pv 1) pe_int (fun _ _ => rfl)) (pe_ix (kix (K := K) rfl) (pv 0) pe_int (fun _ _ => rfl))) (nomark _)))), ?_⟩
  exact ((sk_ret (gk_op od_lt (gk_op od_mul (gk_op od_ix gk_var gk_int) (gk_op od_ix gk_var gk_int)) (gk_op od_mul (gk_op od_ix gk_var gk_int) (gk_op od_ix gk_var gk_int)))) : SOk K _ b_is_less)
theorem sc_summed : FnScope nm_summed pm_summed (defScope s_summed) := ⟨rfl, rfl, rfl, by decide +kernel, rfl, by decide +kernel, by decide +kernel⟩
theorem bi_summed (T : Txt K mg) : Binds K T.summed.fd pm_summed [] := T.summed.F.binds fun _ _ _ _ _ _ us hl => match us, hl with | [_], _ => rfl
theorem ok_summed (T : Txt K mg) : FnOk P w K mg base CX0 4 T.summed.f T.summed.fd pm_summed (spF K r_summed) := by
  have nd := sc_summed.nd
  refine data_F T.summed.F sc_summed fun cdv A outer s H E hr => ?_
  refine ⟨_, (pss_cons (ps_set (i := 1) nd rfl (Or.inl rfl) (pe_glob rfl T.NOUGHT.m T.NOUGHT.r))
    (pss_cons (ps_for PassesOwn.never rfl (kpi_seq (K := K) rfl (pv 0)) (pg_name (i := 2) nd rfl (Or.inl rfl)) (pss_one (ps_set (i := 1) nd rfl (Or.inl rfl) (pe_call (ok_added T) (hr.mono (by decide)) rfl T.added.m T.added.F.kp (bi_added T) .nil pass0 (pa_cons (pv 1) (pa_cons (pv 2) pa_nil))))))
    (pss_one (ps_ret (pv 1))))), ?_⟩
  exact ((sk_seq (sk_set (gk_c T.NOUGHT.d))
    (sk_seq (sk_for (ik_seq gk_var) gt_name (sk_set (gk_call (ak_cons gk_var (ak_cons gk_var ak_nil)))))
    (sk_ret gk_mv))) : SOk K _ b_summed)
theorem sc_product_to : FnScope nm_product_to pm_product_to (defScope s_product_to) := ⟨rfl, rfl, rfl, by decide +kernel, rfl, by decide +kernel, by decide +kernel⟩
theorem bi_product_to (T : Txt K mg) : Binds K T.product_to.fd pm_product_to [] := T.product_to.F.binds fun _ _ _ _ _ _ us hl => match us, hl with | [_], _ => rfl
theorem ok_product_to (T : Txt K mg) : FnOk P w K mg base CX0 1 T.product_to.f T.product_to.fd pm_product_to (spF K r_product_to) := by
  have nd := sc_product_to.nd
  refine data_F T.product_to.F sc_product_to fun cdv A outer s H E hr => ?_
  refine ⟨_, (pss_cons (ps_set (i := 1) nd rfl (Or.inl rfl) pe_int)
    (pss_cons (ps_for PassesOwn.never rfl (pi_range2 rfl T.range (pa_cons pe_int (pa_cons (pe_op op_addA (pv 0) pe_int) pa_nil))) (pg_name (i := 2) nd rfl (Or.inl rfl)) (pss_one (ps_aug (i := 1) nd rfl (Or.inl rfl) (pv 2) iop_mulA)))
    (pss_one (ps_ret (pv 1))))), ?_⟩
  exact ((sk_seq (sk_set gk_int)
    (sk_seq (sk_for (ik_range2 (ak_cons gk_int (ak_cons (gk_op od_add gk_var gk_int) ak_nil))) gt_name (sk_aug od_mulI gk_var))
    (sk_ret gk_mv))) : SOk K _ b_product_to)
theorem sc_ways_to_choose : FnScope nm_ways_to_choose pm_ways_to_choose (defScope s_ways_to_choose) := ⟨rfl, rfl, rfl, by decide +kernel, rfl, by decide +kernel, by decide +kernel⟩
theorem bi_ways_to_choose (T : Txt K mg) : Binds K T.ways_to_choose.fd pm_ways_to_choose [] := T.ways_to_choose.F.binds fun _ _ _ _ _ _ us hl => match us, hl with | [_, _], _ => rfl
theorem ok_ways_to_choose (T : Txt K mg) : FnOk P w K mg base CX0 2 T.ways_to_choose.f T.ways_to_choose.fd pm_ways_to_choose (spF K r_ways_to_choose) := by
  have nd := sc_ways_to_choose.nd
  refine data_F T.ways_to_choose.F sc_ways_to_choose fun cdv A outer s H E hr => ?_
  refine ⟨_, (pss_cons (ps_if (PW.pt (pw_or (pt_cmpR op_lt (pv 1) pe_int (nomark _)) (pw_or1 (pt_cmpR op_lt (pv 0) (pv 1) (nomark _))))) (pss_one (ps_ret pe_int)) pss_nil)
    (pss_one (ps_ret (pe_op op_fdivA (pe_call (ok_product_to T) (hr.mono (by decide)) rfl T.product_to.m T.product_to.F.kp (bi_product_to T) .nil pass0 (pa_cons (pv 0) pa_nil)) (pe_op op_mulA (pe_call (ok_product_to T) (hr.mono (by decide)) rfl T.product_to.m T.product_to.F.kp (bi_product_to T) .nil pass0 (pa_cons (pv 1) pa_nil)) (pe_call (ok_product_to T) (hr.mono (by decide)) rfl T.product_to.m T.product_to.F.kp (bi_product_to T) .nil pass0 (pa_cons (pe_op op_subA (pv 0) (pv 1)) pa_nil))))))), ?_⟩
  exact ((sk_seq (sk_if (tk_or (tk_test (gk_op od_lt gk_var gk_int)) (tk_test (gk_op od_lt gk_var gk_var))) (sk_ret gk_int) sk_next)
    (sk_ret (gk_op od_fdiv (gk_call (ak_cons gk_var ak_nil)) (gk_op od_mul (gk_call (ak_cons gk_var ak_nil)) (gk_call (ak_cons (gk_op od_sub gk_var gk_var) ak_nil)))))) : SOk K _ b_ways_to_choose)
theorem sc_values_of : FnScope nm_values_of pm_values_of (defScope s_values_of) := ⟨rfl, rfl, rfl, by decide +kernel, rfl, by decide +kernel, by decide +kernel⟩
theorem bi_values_of (T : Txt K mg) : Binds K T.values_of.fd pm_values_of [] := T.values_of.F.binds fun _ _ _ _ _ _ us hl => match us, hl with | [_], _ => rfl
theorem ok_values_of (T : Txt K mg) : FnOk P w K mg base CX0 3 T.values_of.f T.values_of.fd pm_values_of (spF K r_values_of) := by
  have nd := sc_values_of.nd
  refine data_F T.values_of.F sc_values_of fun cdv A outer s H E hr => ?_
  refine ⟨_, (pss_one (ps_ret (pe_lc (own := [("one", 1)]) rfl nd (kpi_seq (K := K) rfl (pv 0)) (blkOk_by (N := nm_values_of) (sc := defScope s_values_of) (by decide +kernel)) (fun _ _ _ _ _ => (pg_name (i := 1) nd rfl (Or.inl rfl))) (fun _ _ _ _ _ => pts_nil) (fun _ _ _ _ _ => (pe_call (ok_value_of T) (hr.mono (by decide)) rfl T.value_of.m T.value_of.F.kp (bi_value_of T) .nil pass0 (pa_cons (pv 1) pa_nil)))))), ?_⟩
  exact ((sk_ret (gk_lc (ik_seq gk_var) gt_name tk_yes (gk_call (ak_cons gk_var ak_nil)) (by decide))) : SOk K _ b_values_of)
theorem sc_differences : FnScope nm_differences pm_differences (defScope s_differences) := ⟨rfl, rfl, rfl, by decide +kernel, rfl, by decide +kernel, by decide +kernel⟩
theorem bi_differences (T : Txt K mg) : Binds K T.differences.fd pm_differences [] := T.differences.F.binds fun _ _ _ _ _ _ us hl => match us, hl with | [_, _], _ => rfl
theorem ok_differences (T : Txt K mg) : FnOk P w K mg base CX0 4 T.differences.f T.differences.fd pm_differences (spF K r_differences) := by
  have nd := sc_differences.nd
  refine data_F T.differences.F sc_differences fun cdv A outer s H E hr => ?_
  refine ⟨_, (pss_cons (ps_for PassesOwn.never rfl (pi_range1 rfl T.range (pa_cons (pv 1) pa_nil)) (pg_name (i := 2) nd rfl (Or.inl rfl)) (pss_one (ps_setLc (i := 0) (own := [("here", 3), ("there", 4)]) rfl nd rfl rfl (sw_true rfl rfl rfl (by decide +kernel)) (kpi_zipA (K := K) rfl rfl T.zip (pa_cons (pv 0) (pa_cons (pe_slice (ksl (K := K) rfl) (pv 0) (po_some pe_int) po_none) pa_nil))) (blkOk_by (N := nm_differences) (sc := defScope s_differences) (by decide +kernel)) (fun _ _ _ _ _ => (kpg_tup (K := K) (n := 2) rfl rfl (pgs_cons (pg_name (i := 3) nd rfl (Or.inl rfl)) (pgs_cons (pg_name (i := 4) nd rfl (Or.inl rfl)) pgs_nil)))) (fun _ _ _ _ _ => pts_nil) (fun _ _ _ _ _ => (pe_call (ok_less_by T) (hr.mono (by decide)) rfl T.less_by.m T.less_by.F.kp (bi_less_by T) .nil pass0 (pa_cons (pv 4) (pa_cons (pv 3) pa_nil)))))))
    (pss_one (ps_ret (pv 0)))), ?_⟩
  exact ((sk_seq (sk_for (ik_range1 (ak_cons gk_var ak_nil)) gt_name (sk_set (gk_lc (ik_zipA (ak_cons gk_var (ak_cons (gk_sl sd_any gk_var (pk_some gk_int) pk_none) ak_nil))) (gt_tup (gts_cons gt_name (gts_cons gt_name gts_nil))) tk_yes (gk_call (ak_cons gk_var (ak_cons gk_var ak_nil))) (by decide))))
    (sk_ret gk_mv)) : SOk K _ b_differences)
theorem sc_is_kind : FnScope nm_is_kind pm_is_kind (defScope s_is_kind) := ⟨rfl, rfl, rfl, by decide +kernel, rfl, by decide +kernel, by decide +kernel⟩
theorem bi_is_kind (T : Txt K mg) : Binds K T.is_kind.fd pm_is_kind [] := T.is_kind.F.binds fun _ _ _ _ _ _ us hl => match us, hl with | [_, _], _ => rfl
theorem ok_is_kind (T : Txt K mg) : FnOk P w K mg base CX0 5 T.is_kind.f T.is_kind.fd pm_is_kind (spF K r_is_kind) := by
  have nd := sc_is_kind.nd
  refine data_F T.is_kind.F sc_is_kind fun cdv A outer s H E hr => ?_
  refine ⟨_, (pss_one (ps_ret (pe_not (pe_callB (kcr_any (K := K) rfl rfl) (by rfl) T.any (by decide +kernel) (pa_cons (pe_lc (own := [("one", 2)]) rfl nd (kpi_seq (K := K) rfl (pe_call (ok_differences T) (hr.mono (by decide)) rfl T.differences.m T.differences.F.kp (bi_differences T) .nil pass0 (pa_cons (pe_call (ok_values_of T) (hr.mono (by decide)) rfl T.values_of.m T.values_of.F.kp (bi_values_of T) .nil pass0 (pa_cons (pv 0) pa_nil)) (pa_cons (pv 1) pa_nil)))) (blkOk_by (N := nm_is_kind) (sc := defScope s_is_kind) (by decide +kernel)) (fun _ _ _ _ _ => (pg_name (i := 2) nd rfl (Or.inl rfl))) (fun _ _ _ _ _ => pts_nil) (fun _ _ _ _ _ => (pe_call (ok_is_less T) (hr.mono (by decide)) rfl T.is_less.m T.is_less.F.kp (bi_is_less T) .nil pass0 (pa_cons (pv 2) (pa_cons (pe_glob rfl T.NOUGHT.m T.NOUGHT.r) pa_nil))))) pa_nil))))), ?_⟩
  exact ((sk_ret (gk_vnot (gk_cb cd_any (ak_cons (gk_lc (ik_seq (gk_call (ak_cons (gk_call (ak_cons gk_var ak_nil)) (ak_cons gk_var ak_nil)))) gt_name tk_yes (gk_call (ak_cons gk_var (ak_cons (gk_c T.NOUGHT.d) ak_nil))) (by decide)) ak_nil)))) : SOk K _ b_is_kind)
theorem sc_row_told : FnScope nm_row_told pm_row_told (defScope s_row_told) := ⟨rfl, rfl, rfl, by decide +kernel, rfl, by decide +kernel, by decide +kernel⟩
theorem bi_row_told (T : Txt K mg) : Binds K T.row_told.fd pm_row_told [] := T.row_told.F.binds fun _ _ _ _ _ _ us hl => match us, hl with | [_, _], _ => rfl
theorem ok_row_told (T : Txt K mg) : FnOk P w K mg base CX0 5 T.row_told.f T.row_told.fd pm_row_told (spF K r_row_told) := by
  have nd := sc_row_told.nd
  refine data_F T.row_told.F sc_row_told fun cdv A outer s H E hr => ?_
  refine ⟨_, (pss_one (ps_ret (pe_call (ok_summed T) (hr.mono (by decide)) rfl T.summed.m T.summed.F.kp (bi_summed T) .nil pass0 (pa_cons (pe_lc (own := [("weight", 2), ("one", 3)]) rfl nd (kpi_zipA (K := K) rfl rfl T.zip (pa_cons (pe_call (ok_values_of T) (hr.mono (by decide)) rfl T.values_of.m T.values_of.F.kp (bi_values_of T) .nil pass0 (pa_cons (pv 0) pa_nil)) (pa_cons (pe_call (ok_values_of T) (hr.mono (by decide)) rfl T.values_of.m T.values_of.F.kp (bi_values_of T) .nil pass0 (pa_cons (pv 1) pa_nil)) pa_nil))) (blkOk_by (N := nm_row_told) (sc := defScope s_row_told) (by decide +kernel)) (fun _ _ _ _ _ => (kpg_tup (K := K) (n := 2) rfl rfl (pgs_cons (pg_name (i := 2) nd rfl (Or.inl rfl)) (pgs_cons (pg_name (i := 3) nd rfl (Or.inl rfl)) pgs_nil)))) (fun _ _ _ _ _ => pts_nil) (fun _ _ _ _ _ => (pe_call (ok_multiplied T) (hr.mono (by decide)) rfl T.multiplied.m T.multiplied.F.kp (bi_multiplied T) .nil pass0 (pa_cons (pv 2) (pa_cons (pv 3) pa_nil))))) pa_nil)))), ?_⟩
  exact ((sk_ret (gk_call (ak_cons (gk_lc (ik_zipA (ak_cons (gk_call (ak_cons gk_var ak_nil)) (ak_cons (gk_call (ak_cons gk_var ak_nil)) ak_nil))) (gt_tup (gts_cons gt_name (gts_cons gt_name gts_nil))) tk_yes (gk_call (ak_cons gk_var (ak_cons gk_var ak_nil))) (by decide)) ak_nil))) : SOk K _ b_row_told)
theorem sc_unit_row : FnScope nm_unit_row pm_unit_row (defScope s_unit_row) := ⟨rfl, rfl, rfl, by decide +kernel, rfl, by decide +kernel, by decide +kernel⟩
theorem bi_unit_row (T : Txt K mg) : Binds K T.unit_row.fd pm_unit_row [] := T.unit_row.F.binds fun _ _ _ _ _ _ us hl => match us, hl with | [_, _, _], _ => rfl
theorem ok_unit_row (T : Txt K mg) : FnOk P w K mg base CX0 3 T.unit_row.f T.unit_row.fd pm_unit_row (spF K r_unit_row) := by
  have nd := sc_unit_row.nd
  refine data_F T.unit_row.F sc_unit_row fun cdv A outer s H E hr => ?_
  refine ⟨_, (pss_cons (ps_if (pt_cmpR (kop_eq (K := K) rfl hr.units) (pv 1) pe_int (nomark _)) (pss_one (ps_ret (pe_lc (own := [("at", 3)]) rfl nd (pi_range1 rfl T.range (pa_cons (pv 0) pa_nil)) (blkOk_by (N := nm_unit_row) (sc := defScope s_unit_row) (by decide +kernel)) (fun _ _ _ _ _ => (pg_name (i := 3) nd rfl (Or.inl rfl))) (fun _ _ _ _ _ => pts_nil) (fun _ _ _ _ _ => (pe_callTy cr_int (by rfl) T.int (by decide +kernel) (pa_cons (pe_cmpR (kop_eq (K := K) rfl hr.units) (pv 3) (pv 2) (nomark _)) pa_nil)))))) pss_nil)
    (pss_one (ps_ret (pe_lc (own := [("at", 3)]) rfl nd (pi_range1 rfl T.range (pa_cons (pv 0) pa_nil)) (blkOk_by (N := nm_unit_row) (sc := defScope s_unit_row) (by decide +kernel)) (fun _ _ _ _ _ => (pg_name (i := 3) nd rfl (Or.inl rfl))) (fun _ _ _ _ _ => pts_nil) (fun _ _ _ _ _ => (pe_call (ok_ways_to_choose T) (hr.mono (by decide)) rfl T.ways_to_choose.m T.ways_to_choose.F.kp (bi_ways_to_choose T) .nil pass0 (pa_cons (pe_op op_subA (pe_op op_subA (pv 3) (pv 2)) pe_int) (pa_cons (pe_op op_subA (pv 1) pe_int) pa_nil)))))))), ?_⟩
  exact ((sk_seq (sk_if (tk_test (gk_op od_eq gk_var gk_int)) (sk_ret (gk_lc (ik_range1 (ak_cons gk_var ak_nil)) gt_name tk_yes (gk_cb cd_int (ak_cons (gk_op od_eq gk_var gk_var) ak_nil)) (by decide))) sk_next)
    (sk_ret (gk_lc (ik_range1 (ak_cons gk_var ak_nil)) gt_name tk_yes (gk_call (ak_cons (gk_op od_sub (gk_op od_sub gk_var gk_var) gk_int) (ak_cons (gk_op od_sub gk_var gk_int) ak_nil))) (by decide)))) : SOk K _ b_unit_row)
theorem sc_power_row : FnScope nm_power_row pm_power_row (defScope s_power_row) := ⟨rfl, rfl, rfl, by decide +kernel, rfl, by decide +kernel, by decide +kernel⟩
theorem bi_power_row (T : Txt K mg) : Binds K T.power_row.fd pm_power_row [] := T.power_row.F.binds fun _ _ _ _ _ _ us hl => match us, hl with | [_, _], _ => rfl
theorem ok_power_row (T : Txt K mg) : FnOk P w K mg base CX0 3 T.power_row.f T.power_row.fd pm_power_row (spF K r_power_row) := by
  have nd := sc_power_row.nd
  refine data_F T.power_row.F sc_power_row fun cdv A outer s H E hr => ?_
  refine ⟨_, (pss_one (ps_ret (pe_lc (own := [("at", 2)]) rfl nd (pi_range1 rfl T.range (pa_cons (pv 0) pa_nil)) (blkOk_by (N := nm_power_row) (sc := defScope s_power_row) (by decide +kernel)) (fun _ _ _ _ _ => (pg_name (i := 2) nd rfl (Or.inl rfl))) (fun _ _ _ _ _ => pts_nil) (fun _ _ _ _ _ => (pe_call (ok_ways_to_choose T) (hr.mono (by decide)) rfl T.ways_to_choose.m T.ways_to_choose.F.kp (bi_ways_to_choose T) .nil pass0 (pa_cons (pv 2) (pa_cons (pv 1) pa_nil))))))), ?_⟩
  exact ((sk_ret (gk_lc (ik_range1 (ak_cons gk_var ak_nil)) gt_name tk_yes (gk_call (ak_cons gk_var (ak_cons gk_var ak_nil))) (by decide))) : SOk K _ b_power_row)
theorem sc_row_kernel : FnScope nm_row_kernel pm_row_kernel (defScope s_row_kernel) := ⟨rfl, rfl, rfl, by decide +kernel, rfl, by decide +kernel, by decide +kernel⟩
theorem bi_row_kernel (T : Txt K mg) : Binds K T.row_kernel.fd pm_row_kernel [] := T.row_kernel.F.binds fun _ _ _ _ _ _ us hl => match us, hl with | [_, _], _ => rfl
theorem ok_row_kernel (T : Txt K mg) : FnOk P w K mg base CX0 6 T.row_kernel.f T.row_kernel.fd pm_row_kernel (spF K r_row_kernel) := by
  have nd := sc_row_kernel.nd
  refine data_F T.row_kernel.F sc_row_kernel fun cdv A outer s H E hr => ?_
  refine ⟨_, (pss_cons (ps_set (i := 2) nd rfl (Or.inr rfl) (pe_callB (kcr_len (K := K) rfl) (by rfl) T.len (by decide +kernel) (pa_cons (pv 0) pa_nil)))
    (pss_one (ps_ret (pe_callTy (kcr_tuple (K := K) rfl) (by rfl) T.tuple (by decide +kernel) (pa_cons (pe_lc (own := [("k", 3)]) rfl nd (pi_range1 rfl T.range (pa_cons (pe_op op_subA (pv 2) (pv 1)) pa_nil)) (blkOk_by (N := nm_row_kernel) (sc := defScope s_row_kernel) (by decide +kernel)) (fun _ _ _ _ _ => (pg_name (i := 3) nd rfl (Or.inl rfl))) (fun _ _ _ _ _ => pts_nil) (fun _ _ _ _ _ => (pe_call (ok_row_told T) (hr.mono (by decide)) rfl T.row_told.m T.row_told.F.kp (bi_row_told T) .nil pass0 (pa_cons (pv 0) (pa_cons (pe_call (ok_unit_row T) (hr.mono (by decide)) rfl T.unit_row.m T.unit_row.F.kp (bi_unit_row T) .nil pass0 (pa_cons (pv 2) (pa_cons (pv 1) (pa_cons (pv 3) pa_nil)))) pa_nil))))) pa_nil))))), ?_⟩
  exact ((sk_seq (sk_set (gk_cb cd_len (ak_cons gk_var ak_nil)))
    (sk_ret (gk_cb cd_tuple (ak_cons (gk_lc (ik_range1 (ak_cons (gk_op od_sub gk_var gk_var) ak_nil)) gt_name tk_yes (gk_call (ak_cons gk_var (ak_cons (gk_call (ak_cons gk_var (ak_cons gk_var (ak_cons gk_var ak_nil)))) ak_nil))) (by decide)) ak_nil)))) : SOk K _ b_row_kernel)
theorem sc_row_refuting : FnScope nm_row_refuting pm_row_refuting (defScope s_row_refuting) := ⟨rfl, rfl, rfl, by decide +kernel, rfl, by decide +kernel, by decide +kernel⟩
theorem bi_row_refuting (T : Txt K mg) : Binds K T.row_refuting.fd pm_row_refuting [] := T.row_refuting.F.binds fun _ _ _ _ _ _ us hl => match us, hl with | [_, _], _ => rfl
theorem ok_row_refuting (T : Txt K mg) : FnOk P w K mg base CX0 7 T.row_refuting.f T.row_refuting.fd pm_row_refuting (spF K r_row_refuting) := by
  have nd := sc_row_refuting.nd
  refine data_F T.row_refuting.F sc_row_refuting fun cdv A outer s H E hr => ?_
  refine ⟨_, (pss_cons (ps_set (i := 2) nd rfl (Or.inl rfl) (pe_callB (kcr_len (K := K) rfl) (by rfl) T.len (by decide +kernel) (pa_cons (pv 0) pa_nil)))
    (pss_cons (ps_for PassesOwn.never rfl (pi_range1 rfl T.range (pa_cons (pe_callB (cr_min2 rfl) (by rfl) T.min (by decide +kernel) (pa_cons (pv 1) (pa_cons (pv 2) pa_nil))) pa_nil)) (pg_name (i := 3) nd rfl (Or.inl rfl)) (pss_cons (ps_set (i := 4) nd rfl (Or.inl rfl) (pe_call (ok_power_row T) (hr.mono (by decide)) rfl T.power_row.m T.power_row.F.kp (bi_power_row T) .nil pass0 (pa_cons (pv 2) (pa_cons (pv 3) pa_nil))))
    (pss_cons (ps_set (i := 5) nd rfl (Or.inl rfl) (pe_call (ok_row_told T) (hr.mono (by decide)) rfl T.row_told.m T.row_told.F.kp (bi_row_told T) .nil pass0 (pa_cons (pv 0) (pa_cons (pv 4) pa_nil))))
    (pss_one (ps_if (pt_cmpR (kop_ne (K := K) rfl hr.units) (pv 5) (pe_glob rfl T.NOUGHT.m T.NOUGHT.r) (nomark _)) (pss_cons (ps_set (i := 6) nd rfl (Or.inr rfl) (pe_ifExp (kpt_tru (K := K) rfl (pe_call (ok_is_less T) (hr.mono (by decide)) rfl T.is_less.m T.is_less.F.kp (bi_is_less T) .nil pass0 (pa_cons (pv 5) (pa_cons (pe_glob rfl T.NOUGHT.m T.NOUGHT.r) pa_nil))) (by intro _; rfl)) pe_int (pe_un un_neg pe_int)))
    (pss_one (ps_ret (pe_callTy (kcr_tuple (K := K) rfl) (by rfl) T.tuple (by decide +kernel) (pa_cons (pe_lc (own := [("one", 8)]) rfl nd (kpi_seq (K := K) rfl (pv 4)) (blkOk_by (N := nm_row_refuting) (sc := defScope s_row_refuting) (by decide +kernel)) (fun _ _ _ _ _ => (pg_name (i := 8) nd rfl (Or.inl rfl))) (fun _ _ _ _ _ => pts_nil) (fun _ _ _ _ _ => (pe_tup (pa_cons (pe_op op_mulA (pv 6) (pv 8)) (pa_cons pe_int pa_nil))))) pa_nil))))) pss_nil)))))
    (pss_cons (ps_for PassesOwn.never rfl (kpi_enumA (K := K) rfl rfl T.enumerate (pa_cons (pe_call (ok_row_kernel T) (hr.mono (by decide)) rfl T.row_kernel.m T.row_kernel.F.kp (bi_row_kernel T) .nil pass0 (pa_cons (pv 0) (pa_cons (pv 1) pa_nil))) pa_nil)) (kpg_tup (K := K) (n := 2) rfl rfl (pgs_cons (pg_name (i := 7) nd rfl (Or.inl rfl)) (pgs_cons (pg_name (i := 8) nd rfl (Or.inl rfl)) pgs_nil))) (pss_one (ps_if (kpt_tru (K := K) rfl (pe_call (ok_is_less T) (hr.mono (by decide)) rfl T.is_less.m T.is_less.F.kp (bi_is_less T) .nil pass0 (pa_cons (pv 8) (pa_cons (pe_glob rfl T.NOUGHT.m T.NOUGHT.r) pa_nil))) (by intro _; rfl)) (pss_one (ps_ret (pe_callTy (kcr_tuple (K := K) rfl) (by rfl) T.tuple (by decide +kernel) (pa_cons (pe_call (ok_values_of T) (hr.mono (by decide)) rfl T.values_of.m T.values_of.F.kp (bi_values_of T) .nil pass0 (pa_cons (pe_call (ok_unit_row T) (hr.mono (by decide)) rfl T.unit_row.m T.unit_row.F.kp (bi_unit_row T) .nil pass0 (pa_cons (pv 2) (pa_cons (pv 1) (pa_cons (pv 7) pa_nil)))) pa_nil)) pa_nil)))) pss_nil)))
    (pss_one (ps_ret pe_non))))), ?_⟩
  exact ((sk_seq (sk_set (gk_cb cd_len (ak_cons gk_var ak_nil)))
    (sk_seq (sk_for (ik_range1 (ak_cons (gk_cb cd_min2 (ak_cons gk_var (ak_cons gk_var ak_nil))) ak_nil)) gt_name (sk_seq (sk_set (gk_call (ak_cons gk_var (ak_cons gk_var ak_nil))))
    (sk_seq (sk_set (gk_call (ak_cons gk_var (ak_cons gk_var ak_nil))))
    (sk_if (tk_test (gk_op od_ne gk_var (gk_c T.NOUGHT.d))) (sk_seq (sk_set (gk_if (tk_truK (gk_call (ak_cons gk_var (ak_cons (gk_c T.NOUGHT.d) ak_nil)))) gk_int (gk_un ud_neg gk_int)))
    (sk_ret (gk_cb cd_tuple (ak_cons (gk_lc (ik_seq gk_var) gt_name tk_yes (gk_tup (ak_cons (gk_op od_mul gk_var gk_var) (ak_cons gk_int ak_nil))) (by decide)) ak_nil)))) sk_next))))
    (sk_seq (sk_for (ik_enumA (ak_cons (gk_call (ak_cons gk_var (ak_cons gk_var ak_nil))) ak_nil)) (gt_tup (gts_cons gt_name (gts_cons gt_name gts_nil))) (sk_if (tk_truK (gk_call (ak_cons gk_var (ak_cons (gk_c T.NOUGHT.d) ak_nil)))) (sk_ret (gk_cb cd_tuple (ak_cons (gk_call (ak_cons (gk_call (ak_cons gk_var (ak_cons gk_var (ak_cons gk_var ak_nil)))) ak_nil)) ak_nil))) sk_next))
    (sk_ret gk_non)))) : SOk K _ b_row_refuting)
theorem sc_row_never_below : FnScope nm_row_never_below pm_row_never_below (defScope s_row_never_below) := ⟨rfl, rfl, rfl, by decide +kernel, rfl, by decide +kernel, by decide +kernel⟩
theorem bi_row_never_below (T : Txt K mg) : Binds K T.row_never_below.fd pm_row_never_below [] := T.row_never_below.F.binds fun _ _ _ _ _ _ us hl => match us, hl with | [_, _], _ => rfl
theorem ok_row_never_below (T : Txt K mg) : FnOk P w K mg base CX0 8 T.row_never_below.f T.row_never_below.fd pm_row_never_below (spF K r_row_never_below) := by
  have nd := sc_row_never_below.nd
  refine data_F T.row_never_below.F sc_row_never_below fun cdv A outer s H E hr => ?_
  refine ⟨_, (pss_one (ps_ret (pe_cmpR op_isA (pe_call (ok_row_refuting T) (hr.mono (by decide)) rfl T.row_refuting.m T.row_refuting.F.kp (bi_row_refuting T) .nil pass0 (pa_cons (pv 0) (pa_cons (pv 1) pa_nil))) pe_non (nomark _)))), ?_⟩
  exact ((sk_ret (gk_op od_is (gk_call (ak_cons gk_var (ak_cons gk_var ak_nil))) gk_non)) : SOk K _ b_row_never_below)
theorem sc_w_divisor : FnScope nm_w_divisor pm_w_divisor (defScope s_w_divisor) := ⟨rfl, rfl, rfl, by decide +kernel, rfl, by decide +kernel, by decide +kernel⟩
theorem bi_w_divisor (T : Txt K mg) : Binds K T.w_divisor.fd pm_w_divisor [] := T.w_divisor.F.binds fun _ _ _ _ _ _ us hl => match us, hl with | [_, _], _ => rfl
theorem ok_w_divisor (T : Txt K mg) : FnOk P w K mg base CX0 1 T.w_divisor.f T.w_divisor.fd pm_w_divisor (spF K r_w_divisor) := by
  have nd := sc_w_divisor.nd
  refine data_F T.w_divisor.F sc_w_divisor fun cdv A outer s H E hr => ?_
  refine ⟨_, (pss_cons (ps_par (i := 0) (j := 1) rfl nd rfl rfl (by decide) rfl rfl (pa_cons (pe_callB cr_abs (by rfl) T.abs (by decide +kernel) (pa_cons (pv 0) pa_nil)) (pa_cons (pe_callB cr_abs (by rfl) T.abs (by decide +kernel) (pa_cons (pv 1) pa_nil)) pa_nil)) (by rfl))
    (pss_cons (ps_while PassesOwn.never (pt_cmpR (kop_ne (K := K) rfl hr.units) (pv 1) pe_int (nomark _)) (pss_one (ps_par (i := 0) (j := 1) rfl nd rfl rfl (by decide) rfl rfl (pa_cons (pv 1) (pa_cons (pe_op op_modA (pe_callTy cr_int (by rfl) T.int (by decide +kernel) (pa_cons (pv 0) pa_nil)) (pv 1)) pa_nil)) (by rfl))))
    (pss_one (ps_ret (pv 0))))), ?_⟩
  exact ((sk_seq (sk_par (ak_cons (gk_cb cd_abs (ak_cons gk_var ak_nil)) (ak_cons (gk_cb cd_abs (ak_cons gk_var ak_nil)) ak_nil)))
    (sk_seq (sk_while (fuelI 1) (tk_test (gk_op od_ne gk_var gk_int)) (sk_par (ak_cons gk_var (ak_cons (gk_op od_mod (gk_cb cd_int (ak_cons gk_var ak_nil)) gk_var) ak_nil))))
    (sk_ret gk_mv))) : SOk K _ b_w_divisor)
theorem sc_w_choose : FnScope nm_w_choose pm_w_choose (defScope s_w_choose) := ⟨rfl, rfl, rfl, by decide +kernel, rfl, by decide +kernel, by decide +kernel⟩
theorem bi_w_choose (T : Txt K mg) : Binds K T.w_choose.fd pm_w_choose [] := T.w_choose.F.binds fun _ _ _ _ _ _ us hl => match us, hl with | [_, _], _ => rfl
theorem ok_w_choose (T : Txt K mg) : FnOk P w K mg base CX0 1 T.w_choose.f T.w_choose.fd pm_w_choose (spB K r_w_choose) := by
  have nd := sc_w_choose.nd
  refine data_B T.w_choose.F sc_w_choose fun cdv A outer s H E hr => ?_
  refine ⟨_, (pss_cons (ps_if (pt_cmpR op_gt (pe_ix (kix (K := K) rfl) (pv 0) pe_int (fun _ _ => rfl)) pe_int (nomark _)) (pss_cons (ps_set (i := 2) nd rfl (Or.inl rfl) (pe_op op_modA (pe_callTy cr_int (by rfl) T.int (by decide +kernel) (pa_cons (pe_ix (kix (K := K) rfl) (pv 0) pe_int (fun _ _ => rfl)) pa_nil)) (pv 1)))
    (pss_cons (ps_asg (pe_op op_fdivA (pe_ix (kix (K := K) rfl) (pv 0) pe_int (fun _ _ => rfl)) (pv 1)) (pg_sub (pv 0) pe_int set_list))
    (pss_one (ps_ret (pv 2))))) pss_nil)
    (pss_cons (ps_set (i := 3) nd rfl (Or.inl rfl) (pe_op op_modA (pe_callTy cr_int (by rfl) T.int (by decide +kernel) (pa_cons (pe_op op_addA (pe_op op_mulA (pe_ix (kix (K := K) rfl) (pv 0) pe_int (fun _ _ => rfl)) pe_int) pe_int) pa_nil)) pe_int))
    (pss_cons (ps_asg (pe_op op_addA (pe_op op_modA (pe_callTy cr_int (by rfl) T.int (by decide +kernel) (pa_cons (pe_op op_addA (pe_op op_mulA (pv 3) pe_int) pe_int) pa_nil)) pe_int) pe_int) (pg_sub (pv 0) pe_int set_list))
    (pss_one (ps_ret (pe_op op_modA (pe_callTy cr_int (by rfl) T.int (by decide +kernel) (pa_cons (pe_op op_fdivA (pe_op op_addA (pe_op op_mulA (pv 3) pe_int) (pe_ix (kix (K := K) rfl) (pv 0) pe_int (fun _ _ => rfl))) pe_int) pa_nil)) (pv 1))))))), ?_⟩
  exact ((sk_seq (sk_if (tk_test (gk_op od_gt (gk_by (gk_ixv gk_int) (gk_op od_ix gk_var gk_int)) gk_int)) (sk_seq (sk_set (gk_op od_mod (gk_cb cd_int (ak_cons (gk_by (gk_ixv gk_int) (gk_op od_ix gk_var gk_int)) ak_nil)) gk_var))
    (sk_seq (sk_put (gk_op od_fdiv (gk_by (gk_ixv gk_int) (gk_op od_ix gk_var gk_int)) gk_var) gk_int)
    (sk_ret gk_mv))) sk_next)
    (sk_seq (sk_set (gk_op od_mod (gk_cb cd_int (ak_cons (gk_op od_add (gk_op od_mul (gk_by (gk_ixv gk_int) (gk_op od_ix gk_var gk_int)) gk_int) gk_int) ak_nil)) gk_int))
    (sk_seq (sk_put (gk_op od_add (gk_op od_mod (gk_cb cd_int (ak_cons (gk_op od_add (gk_op od_mul gk_var gk_int) gk_int) ak_nil)) gk_int) gk_int) gk_int)
    (sk_ret (gk_op od_mod (gk_cb cd_int (ak_cons (gk_op od_fdiv (gk_op od_add (gk_op od_mul gk_var gk_int) (gk_by (gk_ixv gk_int) (gk_op od_ix gk_var gk_int))) gk_int) ak_nil)) gk_var))))) : SOk K _ b_w_choose)
theorem sc_w_one_of : FnScope nm_w_one_of pm_w_one_of (defScope s_w_one_of) := ⟨rfl, rfl, rfl, by decide +kernel, rfl, by decide +kernel, by decide +kernel⟩
theorem bi_w_one_of (T : Txt K mg) : Binds K T.w_one_of.fd pm_w_one_of [] := T.w_one_of.F.binds fun _ _ _ _ _ _ us hl => match us, hl with | [_, _], _ => rfl
theorem ok_w_one_of (T : Txt K mg) : FnOk P w K mg base CX0 2 T.w_one_of.f T.w_one_of.fd pm_w_one_of (spB K r_w_one_of) := by
  have nd := sc_w_one_of.nd
  refine data_B T.w_one_of.F sc_w_one_of fun cdv A outer s H E hr => ?_
  refine ⟨_, (pss_one (ps_ret (pe_ix (kix (K := K) rfl) (pv 1) (pe_call (ok_w_choose T) (hr.mono (by decide)) rfl T.w_choose.m T.w_choose.F.kp (bi_w_choose T) .nil pass0 (pa_cons (pv 0) (pa_cons (pe_callB (kcr_len (K := K) rfl) (by rfl) T.len (by decide +kernel) (pa_cons (pv 1) pa_nil)) pa_nil))) (fun _ _ => rfl)))), ?_⟩
  exact ((sk_ret (gk_op od_ix gk_var (gk_callB (ak_cons (gk_cb cd_len (ak_cons gk_var ak_nil)) ak_nil)))) : SOk K _ b_w_one_of)
theorem sc_w_low : FnScope nm_w_low pm_w_low (defScope s_w_low) := ⟨rfl, rfl, rfl, by decide +kernel, rfl, by decide +kernel, by decide +kernel⟩
theorem bi_w_low (T : Txt K mg) : Binds K T.w_low.fd pm_w_low [] := T.w_low.F.binds fun _ _ _ _ _ _ us hl => match us, hl with | [_, _], _ => rfl
theorem ok_w_low (T : Txt K mg) : FnOk P w K mg base CX0 2 T.w_low.f T.w_low.fd pm_w_low (spF K r_w_low) := by
  have nd := sc_w_low.nd
  refine data_F T.w_low.F sc_w_low fun cdv A outer s H E hr => ?_
  refine ⟨_, (pss_cons (ps_set (i := 2) nd rfl (Or.inl rfl) (pe_op op_mulA (pe_call (ok_w_divisor T) (hr.mono (by decide)) rfl T.w_divisor.m T.w_divisor.F.kp (bi_w_divisor T) .nil pass0 (pa_cons (pv 0) (pa_cons (pv 1) pa_nil))) (pe_ifExp (pt_cmpR op_gt (pv 1) pe_int (nomark _)) pe_int (pe_op op_subA pe_int pe_int))))
    (pss_one (ps_ret (pe_tup (pa_cons (pe_op op_fdivA (pv 0) (pv 2)) (pa_cons (pe_op op_fdivA (pv 1) (pv 2)) pa_nil)))))), ?_⟩
  exact ((sk_seq (sk_set (gk_op od_mul (gk_call (ak_cons gk_var (ak_cons gk_var ak_nil))) (gk_if (tk_test (gk_op od_gt gk_var gk_int)) gk_int (gk_op od_sub gk_int gk_int))))
    (sk_ret (gk_tup (ak_cons (gk_op od_fdiv gk_var gk_var) (ak_cons (gk_op od_fdiv gk_var gk_var) ak_nil))))) : SOk K _ b_w_low)
theorem sc_w_minus : FnScope nm_w_minus pm_w_minus (defScope s_w_minus) := ⟨rfl, rfl, rfl, by decide +kernel, rfl, by decide +kernel, by decide +kernel⟩
theorem bi_w_minus (T : Txt K mg) : Binds K T.w_minus.fd pm_w_minus [] := T.w_minus.F.binds fun _ _ _ _ _ _ us hl => match us, hl with | [_, _], _ => rfl
theorem ok_w_minus (T : Txt K mg) : FnOk P w K mg base CX0 3 T.w_minus.f T.w_minus.fd pm_w_minus (spF K r_w_minus) := by
  have nd := sc_w_minus.nd
  refine data_F T.w_minus.F sc_w_minus fun cdv A outer s H E hr => ?_
  refine ⟨_, (pss_one (ps_ret (pe_call (ok_w_low T) (hr.mono (by decide)) rfl T.w_low.m T.w_low.F.kp (bi_w_low T) .nil pass0 (pa_cons (pe_op op_subA (pe_op op_mulA (pe_ix (kix (K := K) rfl) (pv 0) pe_int (fun _ _ => rfl)) (pe_ix (kix (K := K) rfl) (pv 1) pe_int (fun _ _ => rfl))) (pe_op op_mulA (pe_ix (kix (K := K) rfl) (pv 1) pe_int (fun _ _ => rfl)) (pe_ix (kix (K := K) rfl) (pv 0) pe_int (fun _ _ => rfl)))) (pa_cons (pe_op op_mulA (pe_ix (kix (K := K) rfl) (pv 0) pe_int (fun _ _ => rfl)) (pe_ix (kix (K := K) rfl) (pv 1) pe_int (fun _ _ => rfl))) pa_nil))))), ?_⟩
  exact ((sk_ret (gk_call (ak_cons (gk_op od_sub (gk_op od_mul (gk_op od_ix gk_var gk_int) (gk_op od_ix gk_var gk_int)) (gk_op od_mul (gk_op od_ix gk_var gk_int) (gk_op od_ix gk_var gk_int))) (ak_cons (gk_op od_mul (gk_op od_ix gk_var gk_int) (gk_op od_ix gk_var gk_int)) ak_nil)))) : SOk K _ b_w_minus)
theorem sc_w_plus : FnScope nm_w_plus pm_w_plus (defScope s_w_plus) := ⟨rfl, rfl, rfl, by decide +kernel, rfl, by decide +kernel, by decide +kernel⟩
theorem bi_w_plus (T : Txt K mg) : Binds K T.w_plus.fd pm_w_plus [] := T.w_plus.F.binds fun _ _ _ _ _ _ us hl => match us, hl with | [_, _], _ => rfl
theorem ok_w_plus (T : Txt K mg) : FnOk P w K mg base CX0 3 T.w_plus.f T.w_plus.fd pm_w_plus (spF K r_w_plus) := by
  have nd := sc_w_plus.nd
  refine data_F T.w_plus.F sc_w_plus fun cdv A outer s H E hr => ?_
  refine ⟨_, (pss_one (ps_ret (pe_call (ok_w_low T) (hr.mono (by decide)) rfl T.w_low.m T.w_low.F.kp (bi_w_low T) .nil pass0 (pa_cons (pe_op op_addA (pe_op op_mulA (pe_ix (kix (K := K) rfl) (pv 0) pe_int (fun _ _ => rfl)) (pe_ix (kix (K := K) rfl) (pv 1) pe_int (fun _ _ => rfl))) (pe_op op_mulA (pe_ix (kix (K := K) rfl) (pv 1) pe_int (fun _ _ => rfl)) (pe_ix (kix (K := K) rfl) (pv 0) pe_int (fun _ _ => rfl)))) (pa_cons (pe_op op_mulA (pe_ix (kix (K := K) rfl) (pv 0) pe_int (fun _ _ => rfl)) (pe_ix (kix (K := K) rfl) (pv 1) pe_int (fun _ _ => rfl))) pa_nil))))), ?_⟩
  exact ((sk_ret (gk_call (ak_cons (gk_op od_add (gk_op od_mul (gk_op od_ix gk_var gk_int) (gk_op od_ix gk_var gk_int)) (gk_op od_mul (gk_op od_ix gk_var gk_int) (gk_op od_ix gk_var gk_int))) (ak_cons (gk_op od_mul (gk_op od_ix gk_var gk_int) (gk_op od_ix gk_var gk_int)) ak_nil)))) : SOk K _ b_w_plus)
theorem sc_w_sum : FnScope nm_w_sum pm_w_sum (defScope s_w_sum) := ⟨rfl, rfl, rfl, by decide +kernel, rfl, by decide +kernel, by decide +kernel⟩
theorem bi_w_sum (T : Txt K mg) : Binds K T.w_sum.fd pm_w_sum [] := T.w_sum.F.binds fun _ _ _ _ _ _ us hl => match us, hl with | [_], _ => rfl
theorem ok_w_sum (T : Txt K mg) : FnOk P w K mg base CX0 4 T.w_sum.f T.w_sum.fd pm_w_sum (spF K r_w_sum) := by
  have nd := sc_w_sum.nd
  refine data_F T.w_sum.F sc_w_sum fun cdv A outer s H E hr => ?_
  refine ⟨_, (pss_cons (ps_set (i := 1) nd rfl (Or.inl rfl) (pe_tup (pa_cons pe_int (pa_cons pe_int pa_nil))))
    (pss_cons (ps_for PassesOwn.never rfl (kpi_seq (K := K) rfl (pv 0)) (pg_name (i := 2) nd rfl (Or.inl rfl)) (pss_one (ps_set (i := 1) nd rfl (Or.inl rfl) (pe_call (ok_w_plus T) (hr.mono (by decide)) rfl T.w_plus.m T.w_plus.F.kp (bi_w_plus T) .nil pass0 (pa_cons (pv 1) (pa_cons (pv 2) pa_nil))))))
    (pss_one (ps_ret (pv 1))))), ?_⟩
  exact ((sk_seq (sk_set (gk_tup (ak_cons gk_int (ak_cons gk_int ak_nil))))
    (sk_seq (sk_for (ik_seq gk_var) gt_name (sk_set (gk_call (ak_cons gk_var (ak_cons gk_var ak_nil)))))
    (sk_ret gk_mv))) : SOk K _ b_w_sum)
theorem sc_w_seed : FnScope nm_w_seed pm_w_seed (defScope s_w_seed) := ⟨rfl, rfl, rfl, by decide +kernel, rfl, by decide +kernel, by decide +kernel⟩
theorem bi_w_seed (T : Txt K mg) : Binds K T.w_seed.fd pm_w_seed [] := T.w_seed.F.binds fun _ _ _ _ _ _ us hl => match us, hl with | [_, _], _ => rfl
theorem ok_w_seed (T : Txt K mg) : FnOk P w K mg base CX0 1 T.w_seed.f T.w_seed.fd pm_w_seed (spF K r_w_seed) := by
  have nd := sc_w_seed.nd
  refine data_F T.w_seed.F sc_w_seed fun cdv A outer s H E hr => ?_
  refine ⟨_, (pss_cons (ps_set (i := 2) nd rfl (Or.inl rfl) (pe_op op_addA (pe_op op_mulA pe_int (pv 1)) pe_int))
    (pss_cons (ps_if (pt_cmpR op_lt (pv 1) (pe_callB (kcr_len (K := K) rfl) (by rfl) T.len (by decide +kernel) (pa_cons (pv 0) pa_nil)) (nomark _)) (pss_one (ps_set (i := 2) nd rfl (Or.inl rfl) (pe_callB cr_abs (by rfl) T.abs (by decide +kernel) (pa_cons (pe_ix (kix (K := K) rfl) (pv 0) (pv 1) (fun _ _ => rfl)) pa_nil)))) (pss_one (ps_if (pt_cmpR op_gt (pe_callB (kcr_len (K := K) rfl) (by rfl) T.len (by decide +kernel) (pa_cons (pv 0) pa_nil)) pe_int (nomark _)) (pss_one (ps_set (i := 2) nd rfl (Or.inl rfl) (pe_op op_addA (pv 2) (pe_op op_mulA (pe_op op_modA (pe_callTy cr_int (by rfl) T.int (by decide +kernel) (pa_cons (pe_callB cr_abs (by rfl) T.abs (by decide +kernel) (pa_cons (pe_ix (kix (K := K) rfl) (pv 0) (pe_op op_modA (pe_callTy cr_int (by rfl) T.int (by decide +kernel) (pa_cons (pv 1) pa_nil)) (pe_callB (kcr_len (K := K) rfl) (by rfl) T.len (by decide +kernel) (pa_cons (pv 0) pa_nil))) (fun _ _ => rfl)) pa_nil)) pa_nil)) pe_int) pe_int)))) pss_nil)))
    (pss_cons (ps_set (i := 3) nd rfl (Or.inl rfl) (pe_ifExp (pt_cmpR op_ge (pv 2) (pe_op op_powA pe_int pe_int) (nomark _)) (pv 2) pe_int))
    (pss_one (ps_ret (pe_lst (pa_cons (pv 3) (pa_cons (pe_op op_addA (pe_op op_modA (pe_callTy cr_int (by rfl) T.int (by decide +kernel) (pa_cons (pe_op op_addA (pe_op op_mulA (pe_op op_modA (pe_callTy cr_int (by rfl) T.int (by decide +kernel) (pa_cons (pv 2) pa_nil)) pe_int) pe_int) (pe_op op_mulA pe_int (pv 1))) pa_nil)) pe_int) pe_int) pa_nil)))))))), ?_⟩
  exact ((sk_seq (sk_set (gk_op od_add (gk_op od_mul gk_int gk_var) gk_int))
    (sk_seq (sk_if (tk_test (gk_op od_lt gk_var (gk_cb cd_len (ak_cons gk_var ak_nil)))) (sk_set (gk_cb cd_abs (ak_cons (gk_op od_ix gk_var gk_var) ak_nil))) (sk_if (tk_test (gk_op od_gt (gk_cb cd_len (ak_cons gk_var ak_nil)) gk_int)) (sk_set (gk_op od_add gk_var (gk_op od_mul (gk_op od_mod (gk_cb cd_int (ak_cons (gk_cb cd_abs (ak_cons (gk_op od_ix gk_var (gk_op od_mod (gk_cb cd_int (ak_cons gk_var ak_nil)) (gk_cb cd_len (ak_cons gk_var ak_nil)))) ak_nil)) ak_nil)) gk_int) gk_int))) sk_next))
    (sk_seq (sk_set (gk_if (tk_test (gk_op od_ge gk_var (gk_op od_pow gk_int gk_int))) gk_var gk_int))
    (sk_ret (gk_lst (ak_cons gk_var (ak_cons (gk_op od_add (gk_op od_mod (gk_cb cd_int (ak_cons (gk_op od_add (gk_op od_mul (gk_op od_mod (gk_cb cd_int (ak_cons gk_var ak_nil)) gk_int) gk_int) (gk_op od_mul gk_int gk_var)) ak_nil)) gk_int) gk_int) ak_nil))))))) : SOk K _ b_w_seed)
theorem sc_w_times : FnScope nm_w_times pm_w_times (defScope s_w_times) := ⟨rfl, rfl, rfl, by decide +kernel, rfl, by decide +kernel, by decide +kernel⟩
theorem bi_w_times (T : Txt K mg) : Binds K T.w_times.fd pm_w_times [] := T.w_times.F.binds fun _ _ _ _ _ _ us hl => match us, hl with | [_, _], _ => rfl
theorem ok_w_times (T : Txt K mg) : FnOk P w K mg base CX0 3 T.w_times.f T.w_times.fd pm_w_times (spF K r_w_times) := by
  have nd := sc_w_times.nd
  refine data_F T.w_times.F sc_w_times fun cdv A outer s H E hr => ?_
  refine ⟨_, (pss_one (ps_ret (pe_call (ok_w_low T) (hr.mono (by decide)) rfl T.w_low.m T.w_low.F.kp (bi_w_low T) .nil pass0 (pa_cons (pe_op op_mulA (pe_ix (kix (K := K) rfl) (pv 0) pe_int (fun _ _ => rfl)) (pe_ix (kix (K := K) rfl) (pv 1) pe_int (fun _ _ => rfl))) (pa_cons (pe_op op_mulA (pe_ix (kix (K := K) rfl) (pv 0) pe_int (fun _ _ => rfl)) (pe_ix (kix (K := K) rfl) (pv 1) pe_int (fun _ _ => rfl))) pa_nil))))), ?_⟩
  exact ((sk_ret (gk_call (ak_cons (gk_op od_mul (gk_op od_ix gk_var gk_int) (gk_op od_ix gk_var gk_int)) (ak_cons (gk_op od_mul (gk_op od_ix gk_var gk_int) (gk_op od_ix gk_var gk_int)) ak_nil)))) : SOk K _ b_w_times)
theorem sc_w_pair : FnScope nm_w_pair pm_w_pair (defScope s_w_pair) := ⟨rfl, rfl, rfl, by decide +kernel, rfl, by decide +kernel, by decide +kernel⟩
theorem bi_w_pair (T : Txt K mg) : Binds K T.w_pair.fd pm_w_pair [] := T.w_pair.F.binds fun _ _ _ _ _ _ us hl => match us, hl with | [_], _ => rfl
theorem ok_w_pair (T : Txt K mg) : FnOk P w K mg base CX0 1 T.w_pair.f T.w_pair.fd pm_w_pair (spF K r_w_pair) := by
  have nd := sc_w_pair.nd
  refine data_F T.w_pair.F sc_w_pair fun cdv A outer s H E hr => ?_
  refine ⟨_, (pss_one (ps_ret (pe_ifExp (kpt_tru (K := K) rfl (pe_callB (kcr_isi (K := K) rfl) (by rfl) T.isinstance (by decide +kernel) (pa_cons (pv 0) (pa_cons (pe_bltn (v := .ty "tuple") (u := .type "tuple") (by rfl) T.tuple (by decide +kernel) rfl) pa_nil))) (by intro _; rfl)) (pv 0) (pe_tup (pa_cons (pv 0) (pa_cons pe_int pa_nil)))))), ?_⟩
  exact ((sk_ret (gk_if (tk_truK (gk_cb cd_isi (ak_cons gk_var (ak_cons (gk_c fun _ => .ty _) ak_nil)))) gk_var (gk_tup (ak_cons gk_var (ak_cons gk_int ak_nil))))) : SOk K _ b_w_pair)
theorem sc_w_line : FnScope nm_w_line pm_w_line (defScope s_w_line) := ⟨rfl, rfl, rfl, by decide +kernel, rfl, by decide +kernel, by decide +kernel⟩
theorem bi_w_line (T : Txt K mg) : Binds K T.w_line.fd pm_w_line [] := T.w_line.F.binds fun _ _ _ _ _ _ us hl => match us, hl with | [_, _, _], _ => rfl
theorem ok_w_line (T : Txt K mg) : FnOk P w K mg base CX0 3 T.w_line.f T.w_line.fd pm_w_line (spB K r_w_line) := by
  have nd := sc_w_line.nd
  refine data_B T.w_line.F sc_w_line fun cdv A outer s H E hr => ?_
  refine ⟨_, (pss_cons (ps_set (i := 3) nd rfl (Or.inl rfl) (pe_lst pa_nil))
    (pss_cons (ps_for PassesOwn.never rfl (pi_range1 rfl T.range (pa_cons (pv 1) pa_nil)) (pg_name (i := 4) nd rfl (Or.inl rfl)) (pss_cons (ps_set (i := 5) nd rfl (Or.inl rfl) (pe_op op_subA (pe_call (ok_w_choose T) (hr.mono (by decide)) rfl T.w_choose.m T.w_choose.F.kp (bi_w_choose T) .nil pass0 (pa_cons (pv 0) (pa_cons (pe_op op_addA (pe_op op_mulA pe_int (pv 2)) pe_int) pa_nil))) (pv 2)))
    (pss_one (ps_expr (kpe_app (K := K) rfl (pv 3) (pe_ifExp (pt_cmpR op_gt (pe_call (ok_w_choose T) (hr.mono (by decide)) rfl T.w_choose.m T.w_choose.F.kp (bi_w_choose T) .nil pass0 (pa_cons (pv 0) (pa_cons pe_int pa_nil))) pe_int (nomark _)) (pv 5) (pe_call (ok_w_low T) (hr.mono (by decide)) rfl T.w_low.m T.w_low.F.kp (bi_w_low T) .nil pass0 (pa_cons (pv 5) (pa_cons (pe_call (ok_w_one_of T) (hr.mono (by decide)) rfl T.w_one_of.m T.w_one_of.F.kp (bi_w_one_of T) .nil pass0 (pa_cons (pv 0) (pa_cons (pe_lst (pa_cons pe_int (pa_cons pe_int pa_nil))) pa_nil))) pa_nil)))))))))
    (pss_one (ps_ret (pv 3))))), ?_⟩
  exact ((sk_seq (sk_set (gk_lst ak_nil))
    (sk_seq (sk_for (ik_range1 (ak_cons gk_var ak_nil)) gt_name (sk_seq (sk_set (gk_op od_sub (gk_callB (ak_cons (gk_op od_add (gk_op od_mul gk_int gk_var) gk_int) ak_nil)) gk_var))
    (sk_app (gk_if (tk_test (gk_op od_gt (gk_callB (ak_cons gk_int ak_nil)) gk_int)) gk_var (gk_call (ak_cons gk_var (ak_cons (gk_callB (ak_cons (gk_lst (ak_cons gk_int (ak_cons gk_int ak_nil))) ak_nil)) ak_nil)))))))
    (sk_ret gk_mv))) : SOk K _ b_w_line)
theorem sc_w_differences : FnScope nm_w_differences pm_w_differences (defScope s_w_differences) := ⟨rfl, rfl, rfl, by decide +kernel, rfl, by decide +kernel, by decide +kernel⟩
theorem bi_w_differences (T : Txt K mg) : Binds K T.w_differences.fd pm_w_differences [] := T.w_differences.F.binds fun _ _ _ _ _ _ us hl => match us, hl with | [_, _], _ => rfl
theorem ok_w_differences (T : Txt K mg) : FnOk P w K mg base CX0 4 T.w_differences.f T.w_differences.fd pm_w_differences (spF K r_w_differences) := by
  have nd := sc_w_differences.nd
  refine data_F T.w_differences.F sc_w_differences fun cdv A outer s H E hr => ?_
  refine ⟨_, (pss_cons (ps_set (i := 2) nd rfl (Or.inr rfl) (pe_lc (own := [("_law_one", 4)]) rfl nd (kpi_seq (K := K) rfl (pv 0)) (blkOk_by (N := nm_w_differences) (sc := defScope s_w_differences) (by decide +kernel)) (fun _ _ _ _ _ => (pg_name (i := 4) nd rfl (Or.inl rfl))) (fun _ _ _ _ _ => pts_nil) (fun _ _ _ _ _ => (pe_call (ok_w_pair T) (hr.mono (by decide)) rfl T.w_pair.m T.w_pair.F.kp (bi_w_pair T) .nil pass0 (pa_cons (pv 4) pa_nil)))))
    (pss_cons (ps_for PassesOwn.never rfl (pi_range1 rfl T.range (pa_cons (pv 1) pa_nil)) (pg_name (i := 3) nd rfl (Or.inl rfl)) (pss_one (ps_set (i := 2) nd rfl (Or.inr rfl) (pe_lc (own := [("_law_at", 5)]) rfl nd (pi_range1 rfl T.range (pa_cons (pe_op op_subA (pe_callB (kcr_len (K := K) rfl) (by rfl) T.len (by decide +kernel) (pa_cons (pv 2) pa_nil)) pe_int) pa_nil)) (blkOk_by (N := nm_w_differences) (sc := defScope s_w_differences) (by decide +kernel)) (fun _ _ _ _ _ => (pg_name (i := 5) nd rfl (Or.inl rfl))) (fun _ _ _ _ _ => pts_nil) (fun _ _ _ _ _ => (pe_call (ok_w_minus T) (hr.mono (by decide)) rfl T.w_minus.m T.w_minus.F.kp (bi_w_minus T) .nil pass0 (pa_cons (pe_ix (kix (K := K) rfl) (pv 2) (pe_op op_addA (pv 5) pe_int) (fun _ _ => rfl)) (pa_cons (pe_ix (kix (K := K) rfl) (pv 2) (pv 5) (fun _ _ => rfl)) pa_nil))))))))
    (pss_one (ps_ret (pv 2))))), ?_⟩
  exact ((sk_seq (sk_set (gk_lc (ik_seq gk_var) gt_name tk_yes (gk_call (ak_cons gk_var ak_nil)) (by decide)))
    (sk_seq (sk_for (ik_range1 (ak_cons gk_var ak_nil)) gt_name (sk_set (gk_lc (ik_range1 (ak_cons (gk_op od_sub (gk_cb cd_len (ak_cons gk_var ak_nil)) gk_int) ak_nil)) gt_name tk_yes (gk_call (ak_cons (gk_op od_ix gk_var (gk_op od_add gk_var gk_int)) (ak_cons (gk_op od_ix gk_var gk_var) ak_nil))) (by decide))))
    (sk_ret gk_mv))) : SOk K _ b_w_differences)
theorem sc_w_dot : FnScope nm_w_dot pm_w_dot (defScope s_w_dot) := ⟨rfl, rfl, rfl, by decide +kernel, rfl, by decide +kernel, by decide +kernel⟩
theorem bi_w_dot (T : Txt K mg) : Binds K T.w_dot.fd pm_w_dot [] := T.w_dot.F.binds fun _ _ _ _ _ _ us hl => match us, hl with | [_, _], _ => rfl
theorem ok_w_dot (T : Txt K mg) : FnOk P w K mg base CX0 5 T.w_dot.f T.w_dot.fd pm_w_dot (spF K r_w_dot) := by
  have nd := sc_w_dot.nd
  refine data_F T.w_dot.F sc_w_dot fun cdv A outer s H E hr => ?_
  refine ⟨_, (pss_one (ps_ret (pe_call (ok_w_sum T) (hr.mono (by decide)) rfl T.w_sum.m T.w_sum.F.kp (bi_w_sum T) .nil pass0 (pa_cons (pe_lc (own := [("_law_here", 2), ("_law_there", 3)]) rfl nd (kpi_zipA (K := K) rfl rfl T.zip (pa_cons (pv 0) (pa_cons (pv 1) pa_nil))) (blkOk_by (N := nm_w_dot) (sc := defScope s_w_dot) (by decide +kernel)) (fun _ _ _ _ _ => (kpg_tup (K := K) (n := 2) rfl rfl (pgs_cons (pg_name (i := 2) nd rfl (Or.inl rfl)) (pgs_cons (pg_name (i := 3) nd rfl (Or.inl rfl)) pgs_nil)))) (fun _ _ _ _ _ => pts_nil) (fun _ _ _ _ _ => (pe_call (ok_w_times T) (hr.mono (by decide)) rfl T.w_times.m T.w_times.F.kp (bi_w_times T) .nil pass0 (pa_cons (pe_call (ok_w_pair T) (hr.mono (by decide)) rfl T.w_pair.m T.w_pair.F.kp (bi_w_pair T) .nil pass0 (pa_cons (pv 2) pa_nil)) (pa_cons (pe_call (ok_w_pair T) (hr.mono (by decide)) rfl T.w_pair.m T.w_pair.F.kp (bi_w_pair T) .nil pass0 (pa_cons (pv 3) pa_nil)) pa_nil))))) pa_nil)))), ?_⟩
  exact ((sk_ret (gk_call (ak_cons (gk_lc (ik_zipA (ak_cons gk_var (ak_cons gk_var ak_nil))) (gt_tup (gts_cons gt_name (gts_cons gt_name gts_nil))) tk_yes (gk_call (ak_cons (gk_call (ak_cons gk_var ak_nil)) (ak_cons (gk_call (ak_cons gk_var ak_nil)) ak_nil))) (by decide)) ak_nil))) : SOk K _ b_w_dot)
theorem sc_w_grown : FnScope nm_w_grown pm_w_grown (defScope s_w_grown) := ⟨rfl, rfl, rfl, by decide +kernel, rfl, by decide +kernel, by decide +kernel⟩
theorem bi_w_grown (T : Txt K mg) : Binds K T.w_grown.fd pm_w_grown [] := T.w_grown.F.binds fun _ _ _ _ _ _ us hl => match us, hl with | [_, _], _ => rfl
theorem ok_w_grown (T : Txt K mg) : FnOk P w K mg base CX0 4 T.w_grown.f T.w_grown.fd pm_w_grown (spF K r_w_grown) := by
  have nd := sc_w_grown.nd
  refine data_F T.w_grown.F sc_w_grown fun cdv A outer s H E hr => ?_
  refine ⟨_, (pss_cons (ps_setLc (i := 2) (own := [("_law_one", 5)]) rfl nd rfl rfl (sw_true rfl rfl rfl (by decide +kernel)) (kpi_seq (K := K) rfl (pv 1)) (blkOk_by (N := nm_w_grown) (sc := defScope s_w_grown) (by decide +kernel)) (fun _ _ _ _ _ => (pg_name (i := 5) nd rfl (Or.inl rfl))) (fun _ _ _ _ _ => pts_nil) (fun _ _ _ _ _ => (pe_call (ok_w_pair T) (hr.mono (by decide)) rfl T.w_pair.m T.w_pair.F.kp (bi_w_pair T) .nil pass0 (pa_cons (pv 5) pa_nil))))
    (pss_cons (ps_for PassesOwn.never rfl (kpi_seq (K := K) rfl (kpe_rev (K := K) rfl (pv 0) (pe_op op_subA pe_int pe_int))) (pg_name (i := 3) nd rfl (Or.inl rfl)) (pss_cons (ps_set (i := 4) nd rfl (Or.inl rfl) (pe_lst (pa_cons (pe_call (ok_w_pair T) (hr.mono (by decide)) rfl T.w_pair.m T.w_pair.F.kp (bi_w_pair T) .nil pass0 (pa_cons (pv 3) pa_nil)) pa_nil)))
    (pss_cons (ps_for PassesOwn.never rfl (kpi_seq (K := K) rfl (pv 2)) (pg_name (i := 5) nd rfl (Or.inl rfl)) (pss_one (ps_expr (kpe_app (K := K) rfl (pv 4) (pe_call (ok_w_plus T) (hr.mono (by decide)) rfl T.w_plus.m T.w_plus.F.kp (bi_w_plus T) .nil pass0 (pa_cons (pe_ix (kix (K := K) rfl) (pv 4) (pe_un un_neg pe_int) (fun _ _ => rfl)) (pa_cons (pv 5) pa_nil)))))))
    (pss_one (ps_set (i := 2) nd rfl (Or.inl rfl) (pv 4))))))
    (pss_one (ps_ret (pv 2))))), ?_⟩
  exact ((sk_seq (sk_set (gk_lc (ik_seq gk_var) gt_name tk_yes (gk_call (ak_cons gk_var ak_nil)) (by decide)))
    (sk_seq (sk_for (ik_seq (gk_rev gk_var (gk_op od_sub gk_int gk_int))) gt_name (sk_seq (sk_set (gk_lst (ak_cons (gk_call (ak_cons gk_var ak_nil)) ak_nil)))
    (sk_seq (sk_for (ik_seq gk_var) gt_name (sk_app (gk_call (ak_cons (gk_by (gk_ixv (gk_un ud_neg gk_int)) (gk_op od_ix gk_var (gk_un ud_neg gk_int))) (ak_cons gk_var ak_nil)))))
    (sk_set gk_var))))
    (sk_ret gk_mv))) : SOk K _ b_w_grown)
theorem sc_w_kind_line : FnScope nm_w_kind_line pm_w_kind_line (defScope s_w_kind_line) := ⟨rfl, rfl, rfl, by decide +kernel, rfl, by decide +kernel, by decide +kernel⟩
theorem bi_w_kind_line (T : Txt K mg) : Binds K T.w_kind_line.fd pm_w_kind_line [] := T.w_kind_line.F.binds fun _ _ _ _ _ _ us hl => match us, hl with | [_, _, _, _], _ => rfl
theorem ok_w_kind_line (T : Txt K mg) : FnOk P w K mg base CX0 5 T.w_kind_line.f T.w_kind_line.fd pm_w_kind_line (spB K r_w_kind_line) := by
  have nd := sc_w_kind_line.nd
  refine data_B T.w_kind_line.F sc_w_kind_line fun cdv A outer s H E hr => ?_
  refine ⟨_, (pss_cons (ps_set (i := 4) nd rfl (Or.inl rfl) (pe_call (ok_w_line T) (hr.mono (by decide)) rfl T.w_line.m T.w_line.F.kp (bi_w_line T) .nil pass0 (pa_cons (pv 0) (pa_cons (pe_callB (cr_min2 rfl) (by rfl) T.min (by decide +kernel) (pa_cons (pv 2) (pa_cons (pv 1) pa_nil))) (pa_cons (pv 3) pa_nil)))))
    (pss_cons (ps_if (pt_cmpR op_gt (pv 2) pe_int (nomark _)) (pss_one (ps_setLc (i := 4) (own := [("_law_at", 6)]) rfl nd rfl rfl (sw_true rfl rfl rfl (by decide +kernel)) (pi_range1 rfl T.range (pa_cons (pe_callB (cr_min2 rfl) (by rfl) T.min (by decide +kernel) (pa_cons (pv 2) (pa_cons (pv 1) pa_nil))) pa_nil)) (blkOk_by (N := nm_w_kind_line) (sc := defScope s_w_kind_line) (by decide +kernel)) (fun _ _ _ _ _ => (pg_name (i := 6) nd rfl (Or.inl rfl))) (fun _ _ _ _ _ => pts_nil) (fun _ _ _ _ _ => (pe_op op_subA (pe_call (ok_w_choose T) (hr.mono (by decide)) rfl T.w_choose.m T.w_choose.F.kp (bi_w_choose T) .nil pass0 (pa_cons (pv 0) (pa_cons (pe_op op_addA (pe_op op_mulA pe_int (pv 3)) pe_int) pa_nil))) (pv 3))))) pss_nil)
    (pss_cons (ps_if (pt_cmpR op_ge (pv 2) (pv 1) (nomark _)) (pss_one (ps_ret (pe_lc (own := [("_law_one", 7)]) rfl nd (kpi_seq (K := K) rfl (pv 4)) (blkOk_by (N := nm_w_kind_line) (sc := defScope s_w_kind_line) (by decide +kernel)) (fun _ _ _ _ _ => (pg_name (i := 7) nd rfl (Or.inl rfl))) (fun _ _ _ _ _ => pts_nil) (fun _ _ _ _ _ => (pe_call (ok_w_pair T) (hr.mono (by decide)) rfl T.w_pair.m T.w_pair.F.kp (bi_w_pair T) .nil pass0 (pa_cons (pv 7) pa_nil)))))) pss_nil)
    (pss_cons (ps_setLc (i := 5) (own := [("_law_at", 6)]) rfl nd rfl rfl (sw_true rfl rfl rfl (by decide +kernel)) (pi_range1 rfl T.range (pa_cons (pe_op op_subA (pv 1) (pv 2)) pa_nil)) (blkOk_by (N := nm_w_kind_line) (sc := defScope s_w_kind_line) (by decide +kernel)) (fun _ _ _ _ _ => (pg_name (i := 6) nd rfl (Or.inl rfl))) (fun _ _ _ _ _ => pts_nil) (fun _ _ _ _ _ => (pe_tup (pa_cons (pe_call (ok_w_choose T) (hr.mono (by decide)) rfl T.w_choose.m T.w_choose.F.kp (bi_w_choose T) .nil pass0 (pa_cons (pv 0) (pa_cons pe_int pa_nil))) (pa_cons (pe_ifExp (pt_cmpR op_lt (pv 2) pe_int (nomark _)) (pe_call (ok_w_one_of T) (hr.mono (by decide)) rfl T.w_one_of.m T.w_one_of.F.kp (bi_w_one_of T) .nil pass0 (pa_cons (pv 0) (pa_cons (pe_lst (pa_cons pe_int (pa_cons pe_int (pa_cons pe_int pa_nil)))) pa_nil))) pe_int) pa_nil)))))
    (pss_one (ps_ret (pe_call (ok_w_grown T) (hr.mono (by decide)) rfl T.w_grown.m T.w_grown.F.kp (bi_w_grown T) .nil pass0 (pa_cons (pv 4) (pa_cons (pe_lc (own := [("_law_top", 8), ("_law_below", 9)]) rfl nd (kpi_seq (K := K) rfl (pv 5)) (blkOk_by (N := nm_w_kind_line) (sc := defScope s_w_kind_line) (by decide +kernel)) (fun _ _ _ _ _ => (kpg_tup (K := K) (n := 2) rfl rfl (pgs_cons (pg_name (i := 8) nd rfl (Or.inl rfl)) (pgs_cons (pg_name (i := 9) nd rfl (Or.inl rfl)) pgs_nil)))) (fun _ _ _ _ _ => pts_nil) (fun _ _ _ _ _ => (pe_call (ok_w_low T) (hr.mono (by decide)) rfl T.w_low.m T.w_low.F.kp (bi_w_low T) .nil pass0 (pa_cons (pv 8) (pa_cons (pv 9) pa_nil))))) pa_nil))))))))), ?_⟩
  exact ((sk_seq (sk_set (gk_callB (ak_cons (gk_cb cd_min2 (ak_cons gk_var (ak_cons gk_var ak_nil))) (ak_cons gk_var ak_nil))))
    (sk_seq (sk_if (tk_test (gk_op od_gt gk_var gk_int)) (sk_set (gk_lc (ik_range1 (ak_cons (gk_cb cd_min2 (ak_cons gk_var (ak_cons gk_var ak_nil))) ak_nil)) gt_name tk_yes (gk_op od_sub (gk_callB (ak_cons (gk_op od_add (gk_op od_mul gk_int gk_var) gk_int) ak_nil)) gk_var) (by decide))) sk_next)
    (sk_seq (sk_if (tk_test (gk_op od_ge gk_var gk_var)) (sk_ret (gk_lc (ik_seq gk_var) gt_name tk_yes (gk_call (ak_cons gk_var ak_nil)) (by decide))) sk_next)
    (sk_seq (sk_set (gk_lc (ik_range1 (ak_cons (gk_op od_sub gk_var gk_var) ak_nil)) gt_name tk_yes (gk_tup (ak_cons (gk_callB (ak_cons gk_int ak_nil)) (ak_cons (gk_if (tk_test (gk_op od_lt gk_var gk_int)) (gk_callB (ak_cons (gk_lst (ak_cons gk_int (ak_cons gk_int (ak_cons gk_int ak_nil)))) ak_nil)) gk_int) ak_nil))) (by decide)))
    (sk_ret (gk_call (ak_cons gk_var (ak_cons (gk_lc (ik_seq gk_var) (gt_tup (gts_cons gt_name (gts_cons gt_name gts_nil))) tk_yes (gk_call (ak_cons gk_var (ak_cons gk_var ak_nil))) (by decide)) ak_nil)))))))) : SOk K _ b_w_kind_line)
theorem sc_law : FnScope nm_law pm_law (defScope s_law) := ⟨rfl, rfl, rfl, by decide +kernel, rfl, by decide +kernel, by decide +kernel⟩
theorem bi_law (T : Txt K mg) : Binds K T.law.fd pm_law [] := T.law.F.binds fun _ _ _ _ _ _ us hl => match us, hl with | [_], _ => rfl
theorem ok_law (T : Txt K mg) {s : Shared} {H : Hp} {a : Addr} {Q : VK} (e0 : Env0 P w K mg base callerA [] s H) (bd0 : BindsTo s T.law.fd ⟨[.ref a], []⟩ [("_law_script", .ref a)]) (q : spF K r_law [.ref a] H Q E0) :
    codeAny (model P w) callerA (.call (.ref T.law.f) ⟨[.ref a], []⟩) (CR CX0 [] P w H s Q E0) s := by
  have nd := sc_law.nd
  refine call_law (k := 8) T.law.F sc_law ⟨rfl, by decide, by decide⟩ (fun cdv s H E hg hr => ?_) e0 bd0 q
  refine ⟨_, (pss_cons (ps_for PassesOwn.never rfl (pi_range1 rfl T.range (pa_cons (pe_callB (cr_max2 rfl) (by rfl) T.max (by decide +kernel) (pa_cons pe_int (pa_cons (pe_callB (cr_min2 rfl) (by rfl) T.min (by decide +kernel) (pa_cons pe_int (pa_cons (pe_callB (kcr_len (K := K) rfl) (by rfl) T.len (by decide +kernel) (pa_cons (pv 0) pa_nil)) pa_nil))) pa_nil))) pa_nil)) (pg_name (i := 1) nd rfl (Or.inl rfl)) (pss_cons (ps_set (i := 2) nd rfl (Or.inl rfl) (pe_call (ok_w_seed T) (hr.mono (by decide)) rfl T.w_seed.m T.w_seed.F.kp (bi_w_seed T) .nil pass0 (pa_cons (pv 0) (pa_cons (pv 1) pa_nil))))
    (pss_one (ps_for PassesOwn.never rfl (pi_range1 rfl T.range (pa_cons pe_int pa_nil)) (pg_name (i := 3) nd rfl (Or.inl rfl)) (pss_cons (ps_asg (pe_tup (pa_cons (pe_op op_addA pe_int (pe_call (ok_w_choose T) (hr.mono (by decide)) rfl T.w_choose.m T.w_choose.F.kp (bi_w_choose T) .nil pass0 (pa_cons (pv 2) (pa_cons pe_int pa_nil)))) (pa_cons (pe_call (ok_w_choose T) (hr.mono (by decide)) rfl T.w_choose.m T.w_choose.F.kp (bi_w_choose T) .nil pass0 (pa_cons (pv 2) (pa_cons pe_int pa_nil))) pa_nil))) (kpg_tup (K := K) (n := 2) rfl rfl (pgs_cons (pg_name (i := 4) nd rfl (Or.inl rfl)) (pgs_cons (pg_name (i := 5) nd rfl (Or.inr rfl)) pgs_nil))))
    (pss_cons (ps_set (i := 6) nd rfl (Or.inl rfl) (pe_call (ok_w_line T) (hr.mono (by decide)) rfl T.w_line.m T.w_line.F.kp (bi_w_line T) .nil pass0 (pa_cons (pv 2) (pa_cons (pv 4) (pa_cons pe_int pa_nil)))))
    (pss_cons (ps_par (i := 7) (j := 8) rfl nd rfl rfl (by decide) rfl rfl (pa_cons (pe_call (ok_w_kind_line T) (hr.mono (by decide)) rfl T.w_kind_line.m T.w_kind_line.F.kp (bi_w_kind_line T) .nil pass0 (pa_cons (pv 2) (pa_cons (pv 4) (pa_cons (pv 5) (pa_cons pe_int pa_nil))))) (pa_cons (pe_call (ok_w_kind_line T) (hr.mono (by decide)) rfl T.w_kind_line.m T.w_kind_line.F.kp (bi_w_kind_line T) .nil pass0 (pa_cons (pv 2) (pa_cons (pv 4) (pa_cons (pv 5) (pa_cons pe_int pa_nil))))) pa_nil)) (by rfl))
    (pss_cons (ps_setLc (i := 9) (own := [("_law_here", 15), ("_law_there", 16)]) rfl nd rfl rfl (sw_true rfl rfl rfl (by decide +kernel)) (kpi_zipA (K := K) rfl rfl T.zip (pa_cons (pv 7) (pa_cons (pv 8) pa_nil))) (blkOk_by (N := nm_law) (sc := defScope s_law) (by decide +kernel)) (fun _ _ _ _ _ => (kpg_tup (K := K) (n := 2) rfl rfl (pgs_cons (pg_name (i := 15) nd rfl (Or.inl rfl)) (pgs_cons (pg_name (i := 16) nd rfl (Or.inl rfl)) pgs_nil)))) (fun _ _ _ _ _ => pts_nil) (fun _ _ _ _ _ => (pe_call (ok_w_plus T) (hr.mono (by decide)) rfl T.w_plus.m T.w_plus.F.kp (bi_w_plus T) .nil pass0 (pa_cons (pv 15) (pa_cons (pv 16) pa_nil)))))
    (pss_cons (ps_if (PW.pt (pw_or (pt_not (kpt_tru (K := K) rfl (pe_call (ok_is_kind T) (hr.mono (by decide)) rfl T.is_kind.m T.is_kind.F.kp (bi_is_kind T) .nil pass0 (pa_cons (pv 7) (pa_cons (pv 5) pa_nil))) (by intro _; rfl))) (pw_or1 (pt_not (kpt_tru (K := K) rfl (pe_call (ok_is_kind T) (hr.mono (by decide)) rfl T.is_kind.m T.is_kind.F.kp (bi_is_kind T) .nil pass0 (pa_cons (pv 9) (pa_cons (pv 5) pa_nil))) (by intro _; rfl)))))) (pss_one (ps_ret pe_bl)) pss_nil)
    (pss_cons (ps_set (i := 10) nd rfl (Or.inl rfl) (pe_call (ok_w_grown T) (hr.mono (by decide)) rfl T.w_grown.m T.w_grown.F.kp (bi_w_grown T) .nil pass0 (pa_cons (pe_op op_mulA (pe_lst (pa_cons pe_int pa_nil)) (pe_callB (cr_min2 rfl) (by rfl) T.min (by decide +kernel) (pa_cons (pv 5) (pa_cons (pv 4) pa_nil)))) (pa_cons (pe_call (ok_w_differences T) (hr.mono (by decide)) rfl T.w_differences.m T.w_differences.F.kp (bi_w_differences T) .nil pass0 (pa_cons (pv 7) (pa_cons (pv 5) pa_nil))) pa_nil))))
    (pss_cons (ps_set (i := 11) nd rfl (Or.inl rfl) (pe_call (ok_w_dot T) (hr.mono (by decide)) rfl T.w_dot.m T.w_dot.F.kp (bi_w_dot T) .nil pass0 (pa_cons (pe_call (ok_row_kernel T) (hr.mono (by decide)) rfl T.row_kernel.m T.row_kernel.F.kp (bi_row_kernel T) .nil pass0 (pa_cons (pv 6) (pa_cons (pv 5) pa_nil))) (pa_cons (pe_call (ok_w_differences T) (hr.mono (by decide)) rfl T.w_differences.m T.w_differences.F.kp (bi_w_differences T) .nil pass0 (pa_cons (pv 7) (pa_cons (pv 5) pa_nil))) pa_nil))))
    (pss_cons (ps_if (PW.pt (pw_and (pt_cmpR op_ge (pv 4) (pv 5) (nomark _)) (pw_and1 (pt_cmpR (kop_ne (K := K) rfl hr.units) (pe_call (ok_row_told T) (hr.mono (by decide)) rfl T.row_told.m T.row_told.F.kp (bi_row_told T) .nil pass0 (pa_cons (pv 6) (pa_cons (pe_slice (ksl (K := K) rfl) (pv 10) po_none (po_some (pv 4))) pa_nil))) (pv 11) (nomark _))))) (pss_one (ps_ret pe_bl)) pss_nil)
    (pss_cons (ps_if (pt_cmpR (kop_ne (K := K) rfl hr.units) (pe_call (ok_row_told T) (hr.mono (by decide)) rfl T.row_told.m T.row_told.F.kp (bi_row_told T) .nil pass0 (pa_cons (pv 6) (pa_cons (pv 9) pa_nil))) (pe_call (ok_w_plus T) (hr.mono (by decide)) rfl T.w_plus.m T.w_plus.F.kp (bi_w_plus T) .nil pass0 (pa_cons (pe_call (ok_row_told T) (hr.mono (by decide)) rfl T.row_told.m T.row_told.F.kp (bi_row_told T) .nil pass0 (pa_cons (pv 6) (pa_cons (pv 7) pa_nil))) (pa_cons (pe_call (ok_row_told T) (hr.mono (by decide)) rfl T.row_told.m T.row_told.F.kp (bi_row_told T) .nil pass0 (pa_cons (pv 6) (pa_cons (pv 8) pa_nil))) pa_nil))) (nomark _)) (pss_one (ps_ret pe_bl)) pss_nil)
    (pss_cons (ps_setLc (i := 12) (own := [("_law_one", 17)]) rfl nd rfl rfl (sw_true rfl rfl rfl (by decide +kernel)) (kpi_seq (K := K) rfl (kpe_rev (K := K) rfl (pv 7) (pe_op op_subA pe_int pe_int))) (blkOk_by (N := nm_law) (sc := defScope s_law) (by decide +kernel)) (fun _ _ _ _ _ => (pg_name (i := 17) nd rfl (Or.inl rfl))) (fun _ _ _ _ _ => pts_nil) (fun _ _ _ _ _ => (pe_call (ok_w_times T) (hr.mono (by decide)) rfl T.w_times.m T.w_times.F.kp (bi_w_times T) .nil pass0 (pa_cons (pv 17) (pa_cons (pe_tup (pa_cons (pe_ifExp (pt_cmpR (kop_eq (K := K) rfl hr.units) (pe_op op_modA (pv 5) pe_int) pe_int (nomark _)) (pe_op op_subA pe_int pe_int) pe_int) (pa_cons pe_int pa_nil))) pa_nil)))))
    (pss_cons (ps_if (pt_not (kpt_tru (K := K) rfl (pe_call (ok_is_kind T) (hr.mono (by decide)) rfl T.is_kind.m T.is_kind.F.kp (bi_is_kind T) .nil pass0 (pa_cons (pv 12) (pa_cons (pv 5) pa_nil))) (by intro _; rfl))) (pss_one (ps_ret pe_bl)) pss_nil)
    (pss_cons (ps_setLc (i := 13) (own := [("_law_one", 17)]) rfl nd rfl rfl (sw_true rfl rfl rfl (by decide +kernel)) (kpi_seq (K := K) rfl (kpe_rev (K := K) rfl (pv 6) (pe_op op_subA pe_int pe_int))) (blkOk_by (N := nm_law) (sc := defScope s_law) (by decide +kernel)) (fun _ _ _ _ _ => (pg_name (i := 17) nd rfl (Or.inl rfl))) (fun _ _ _ _ _ => pts_nil) (fun _ _ _ _ _ => (pe_call (ok_w_times T) (hr.mono (by decide)) rfl T.w_times.m T.w_times.F.kp (bi_w_times T) .nil pass0 (pa_cons (pe_call (ok_w_pair T) (hr.mono (by decide)) rfl T.w_pair.m T.w_pair.F.kp (bi_w_pair T) .nil pass0 (pa_cons (pv 17) pa_nil)) (pa_cons (pe_tup (pa_cons (pe_ifExp (pt_cmpR (kop_eq (K := K) rfl hr.units) (pe_op op_modA (pv 5) pe_int) pe_int (nomark _)) (pe_op op_subA pe_int pe_int) pe_int) (pa_cons pe_int pa_nil))) pa_nil)))))
    (pss_cons (ps_if (pt_cmpR (kop_ne (K := K) rfl hr.units) (pe_call (ok_row_never_below T) (hr.mono (by decide)) rfl T.row_never_below.m T.row_never_below.F.kp (bi_row_never_below T) .nil pass0 (pa_cons (pv 13) (pa_cons (pv 5) pa_nil))) (pe_call (ok_row_never_below T) (hr.mono (by decide)) rfl T.row_never_below.m T.row_never_below.F.kp (bi_row_never_below T) .nil pass0 (pa_cons (pv 6) (pa_cons (pv 5) pa_nil))) (nomark _)) (pss_one (ps_ret pe_bl)) pss_nil)
    (pss_cons (ps_if (PW.pt (pw_and (kpt_tru (K := K) rfl (pe_call (ok_row_never_below T) (hr.mono (by decide)) rfl T.row_never_below.m T.row_never_below.F.kp (bi_row_never_below T) .nil pass0 (pa_cons (pv 6) (pa_cons (pv 5) pa_nil))) (by intro _; rfl)) (pw_and1 (pt_cmpR op_lt (pe_ix (kix (K := K) rfl) (pe_call (ok_row_told T) (hr.mono (by decide)) rfl T.row_told.m T.row_told.F.kp (bi_row_told T) .nil pass0 (pa_cons (pv 6) (pa_cons (pv 9) pa_nil))) pe_int (fun _ _ => rfl)) pe_int (nomark _))))) (pss_one (ps_ret pe_bl)) pss_nil)
    (pss_cons (ps_set (i := 14) nd rfl (Or.inl rfl) (pe_call (ok_row_refuting T) (hr.mono (by decide)) rfl T.row_refuting.m T.row_refuting.F.kp (bi_row_refuting T) .nil pass0 (pa_cons (pv 6) (pa_cons (pv 5) pa_nil))))
    (pss_one (ps_if (PW.pt (pw_and (pt_cmpR op_isNotA (pv 14) pe_non (nomark _)) (pw_and1 (pt_cmpR op_ge (pe_ix (kix (K := K) rfl) (pe_call (ok_row_told T) (hr.mono (by decide)) rfl T.row_told.m T.row_told.F.kp (bi_row_told T) .nil pass0 (pa_cons (pv 6) (pa_cons (pv 14) pa_nil))) pe_int (fun _ _ => rfl)) pe_int (nomark _))))) (pss_one (ps_ret pe_bl)) pss_nil)))))))))))))))))))))
    (pss_one (ps_ret pe_bl))), ?_⟩
  exact ((sk_seq (sk_for (ik_range1 (ak_cons (gk_cb cd_max2 (ak_cons gk_int (ak_cons (gk_cb cd_min2 (ak_cons gk_int (ak_cons (gk_cb cd_len (ak_cons gk_var ak_nil)) ak_nil))) ak_nil))) ak_nil)) gt_name (sk_seq (sk_set (gk_call (ak_cons gk_var (ak_cons gk_var ak_nil))))
    (sk_for (ik_range1 (ak_cons gk_int ak_nil)) gt_name (sk_seq (sk_asg (gk_tup (ak_cons (gk_op od_add gk_int (gk_callB (ak_cons gk_int ak_nil))) (ak_cons (gk_callB (ak_cons gk_int ak_nil)) ak_nil))) (gt_tup (gts_cons gt_name (gts_cons gt_name gts_nil))))
    (sk_seq (sk_set (gk_callB (ak_cons gk_var (ak_cons gk_int ak_nil))))
    (sk_seq (sk_par (ak_cons (gk_callB (ak_cons gk_var (ak_cons gk_var (ak_cons gk_int ak_nil)))) (ak_cons (gk_callB (ak_cons gk_var (ak_cons gk_var (ak_cons gk_int ak_nil)))) ak_nil)))
    (sk_seq (sk_set (gk_lc (ik_zipA (ak_cons gk_var (ak_cons gk_var ak_nil))) (gt_tup (gts_cons gt_name (gts_cons gt_name gts_nil))) tk_yes (gk_call (ak_cons gk_var (ak_cons gk_var ak_nil))) (by decide)))
    (sk_seq (sk_if (tk_or (tk_not (tk_truK (gk_call (ak_cons gk_var (ak_cons gk_var ak_nil))))) (tk_not (tk_truK (gk_call (ak_cons gk_var (ak_cons gk_var ak_nil)))))) (sk_ret gk_bl) sk_next)
    (sk_seq (sk_set (gk_call (ak_cons (gk_op od_mul (gk_lst (ak_cons gk_int ak_nil)) (gk_cb cd_min2 (ak_cons gk_var (ak_cons gk_var ak_nil)))) (ak_cons (gk_call (ak_cons gk_var (ak_cons gk_var ak_nil))) ak_nil))))
    (sk_seq (sk_set (gk_call (ak_cons (gk_call (ak_cons gk_var (ak_cons gk_var ak_nil))) (ak_cons (gk_call (ak_cons gk_var (ak_cons gk_var ak_nil))) ak_nil))))
    (sk_seq (sk_if (tk_and (tk_test (gk_op od_ge gk_var gk_var)) (tk_test (gk_op od_ne (gk_call (ak_cons gk_var (ak_cons (gk_sl sd_any gk_var pk_none (pk_some gk_var)) ak_nil))) gk_var))) (sk_ret gk_bl) sk_next)
    (sk_seq (sk_if (tk_test (gk_op od_ne (gk_call (ak_cons gk_var (ak_cons gk_var ak_nil))) (gk_call (ak_cons (gk_call (ak_cons gk_var (ak_cons gk_var ak_nil))) (ak_cons (gk_call (ak_cons gk_var (ak_cons gk_var ak_nil))) ak_nil))))) (sk_ret gk_bl) sk_next)
    (sk_seq (sk_set (gk_lc (ik_seq (gk_rev gk_var (gk_op od_sub gk_int gk_int))) gt_name tk_yes (gk_call (ak_cons gk_var (ak_cons (gk_tup (ak_cons (gk_if (tk_test (gk_op od_eq (gk_op od_mod gk_var gk_int) gk_int)) (gk_op od_sub gk_int gk_int) gk_int) (ak_cons gk_int ak_nil))) ak_nil))) (by decide)))
    (sk_seq (sk_if (tk_not (tk_truK (gk_call (ak_cons gk_var (ak_cons gk_var ak_nil))))) (sk_ret gk_bl) sk_next)
    (sk_seq (sk_set (gk_lc (ik_seq (gk_rev gk_var (gk_op od_sub gk_int gk_int))) gt_name tk_yes (gk_call (ak_cons (gk_call (ak_cons gk_var ak_nil)) (ak_cons (gk_tup (ak_cons (gk_if (tk_test (gk_op od_eq (gk_op od_mod gk_var gk_int) gk_int)) (gk_op od_sub gk_int gk_int) gk_int) (ak_cons gk_int ak_nil))) ak_nil))) (by decide)))
    (sk_seq (sk_if (tk_test (gk_op od_ne (gk_call (ak_cons gk_var (ak_cons gk_var ak_nil))) (gk_call (ak_cons gk_var (ak_cons gk_var ak_nil))))) (sk_ret gk_bl) sk_next)
    (sk_seq (sk_if (tk_and (tk_truK (gk_call (ak_cons gk_var (ak_cons gk_var ak_nil)))) (tk_test (gk_op od_lt (gk_op od_ix (gk_call (ak_cons gk_var (ak_cons gk_var ak_nil))) gk_int) gk_int))) (sk_ret gk_bl) sk_next)
    (sk_seq (sk_set (gk_call (ak_cons gk_var (ak_cons gk_var ak_nil))))
    (sk_if (tk_and (tk_test (gk_op od_isNot gk_var gk_non)) (tk_test (gk_op od_ge (gk_op od_ix (gk_call (ak_cons gk_var (ak_cons gk_var ak_nil))) gk_int) gk_int))) (sk_ret gk_bl) sk_next)))))))))))))))))))
    (sk_ret gk_bl)) : SOk K _ b_law)
end
end Bk
namespace Bk
open PySem L2 PyProof.Rows
theorem all_mk {l : PySem.W.OpenLaw} {w : World} {K : PySem.W.Frag} {h : Heap} {mg : PySem.Str → Option Value} {fa : Addr} (X : K.In h) (G : h.Ns mainGlobals mg) (hfa : mg "law" = some (.ref fa))
    {f_is_integer : Addr} {od_is_integer an_is_integer : Option Addr} {sl_is_integer : Array (Option Value)} {oc_is_integer kV_is_integer dc_is_integer pc_is_integer cd_is_integer ct_is_integer : Value}
    (a_is_integer : PySem.W.nsIn K mainGlobals "is_integer" = some (some (.ref f_is_integer))) (l_is_integer : K.lookup f_is_integer = some ⟨oc_is_integer, od_is_integer, .func (PySem.W.fnOf "is_integer" "is_integer" (defArgs s_is_integer) (defBody s_is_integer) (defScope s_is_integer) .none kV_is_integer dc_is_integer pc_is_integer an_is_integer cd_is_integer ct_is_integer), sl_is_integer⟩) (c_is_integer : PySem.W.codeIn K cd_is_integer "is_integer" = true) (k_is_integer : PySem.W.keepIn K (.ref f_is_integer) = true)
    {f_divisor : Addr} {od_divisor an_divisor : Option Addr} {sl_divisor : Array (Option Value)} {oc_divisor kV_divisor dc_divisor pc_divisor cd_divisor ct_divisor : Value}
    (a_divisor : PySem.W.nsIn K mainGlobals "divisor" = some (some (.ref f_divisor))) (l_divisor : K.lookup f_divisor = some ⟨oc_divisor, od_divisor, .func (PySem.W.fnOf "divisor" "divisor" (defArgs s_divisor) (defBody s_divisor) (defScope s_divisor) .none kV_divisor dc_divisor pc_divisor an_divisor cd_divisor ct_divisor), sl_divisor⟩) (c_divisor : PySem.W.codeIn K cd_divisor "divisor" = true) (k_divisor : PySem.W.keepIn K (.ref f_divisor) = true)
    {f_lowest : Addr} {od_lowest an_lowest : Option Addr} {sl_lowest : Array (Option Value)} {oc_lowest kV_lowest dc_lowest pc_lowest cd_lowest ct_lowest : Value}
    (a_lowest : PySem.W.nsIn K mainGlobals "lowest" = some (some (.ref f_lowest))) (l_lowest : K.lookup f_lowest = some ⟨oc_lowest, od_lowest, .func (PySem.W.fnOf "lowest" "lowest" (defArgs s_lowest) (defBody s_lowest) (defScope s_lowest) .none kV_lowest dc_lowest pc_lowest an_lowest cd_lowest ct_lowest), sl_lowest⟩) (c_lowest : PySem.W.codeIn K cd_lowest "lowest" = true) (k_lowest : PySem.W.keepIn K (.ref f_lowest) = true)
    {f_value_of : Addr} {od_value_of an_value_of : Option Addr} {sl_value_of : Array (Option Value)} {oc_value_of kV_value_of dc_value_of pc_value_of cd_value_of ct_value_of : Value}
    (a_value_of : PySem.W.nsIn K mainGlobals "value_of" = some (some (.ref f_value_of))) (l_value_of : K.lookup f_value_of = some ⟨oc_value_of, od_value_of, .func (PySem.W.fnOf "value_of" "value_of" (defArgs s_value_of) (defBody s_value_of) (defScope s_value_of) .none kV_value_of dc_value_of pc_value_of an_value_of cd_value_of ct_value_of), sl_value_of⟩) (c_value_of : PySem.W.codeIn K cd_value_of "value_of" = true) (k_value_of : PySem.W.keepIn K (.ref f_value_of) = true)
    {f_added : Addr} {od_added an_added : Option Addr} {sl_added : Array (Option Value)} {oc_added kV_added dc_added pc_added cd_added ct_added : Value}
    (a_added : PySem.W.nsIn K mainGlobals "added" = some (some (.ref f_added))) (l_added : K.lookup f_added = some ⟨oc_added, od_added, .func (PySem.W.fnOf "added" "added" (defArgs s_added) (defBody s_added) (defScope s_added) .none kV_added dc_added pc_added an_added cd_added ct_added), sl_added⟩) (c_added : PySem.W.codeIn K cd_added "added" = true) (k_added : PySem.W.keepIn K (.ref f_added) = true)
    {f_less_by : Addr} {od_less_by an_less_by : Option Addr} {sl_less_by : Array (Option Value)} {oc_less_by kV_less_by dc_less_by pc_less_by cd_less_by ct_less_by : Value}
    (a_less_by : PySem.W.nsIn K mainGlobals "less_by" = some (some (.ref f_less_by))) (l_less_by : K.lookup f_less_by = some ⟨oc_less_by, od_less_by, .func (PySem.W.fnOf "less_by" "less_by" (defArgs s_less_by) (defBody s_less_by) (defScope s_less_by) .none kV_less_by dc_less_by pc_less_by an_less_by cd_less_by ct_less_by), sl_less_by⟩) (c_less_by : PySem.W.codeIn K cd_less_by "less_by" = true) (k_less_by : PySem.W.keepIn K (.ref f_less_by) = true)
    {f_multiplied : Addr} {od_multiplied an_multiplied : Option Addr} {sl_multiplied : Array (Option Value)} {oc_multiplied kV_multiplied dc_multiplied pc_multiplied cd_multiplied ct_multiplied : Value}
    (a_multiplied : PySem.W.nsIn K mainGlobals "multiplied" = some (some (.ref f_multiplied))) (l_multiplied : K.lookup f_multiplied = some ⟨oc_multiplied, od_multiplied, .func (PySem.W.fnOf "multiplied" "multiplied" (defArgs s_multiplied) (defBody s_multiplied) (defScope s_multiplied) .none kV_multiplied dc_multiplied pc_multiplied an_multiplied cd_multiplied ct_multiplied), sl_multiplied⟩) (c_multiplied : PySem.W.codeIn K cd_multiplied "multiplied" = true) (k_multiplied : PySem.W.keepIn K (.ref f_multiplied) = true)
    {f_is_less : Addr} {od_is_less an_is_less : Option Addr} {sl_is_less : Array (Option Value)} {oc_is_less kV_is_less dc_is_less pc_is_less cd_is_less ct_is_less : Value}
    (a_is_less : PySem.W.nsIn K mainGlobals "is_less" = some (some (.ref f_is_less))) (l_is_less : K.lookup f_is_less = some ⟨oc_is_less, od_is_less, .func (PySem.W.fnOf "is_less" "is_less" (defArgs s_is_less) (defBody s_is_less) (defScope s_is_less) .none kV_is_less dc_is_less pc_is_less an_is_less cd_is_less ct_is_less), sl_is_less⟩) (c_is_less : PySem.W.codeIn K cd_is_less "is_less" = true) (k_is_less : PySem.W.keepIn K (.ref f_is_less) = true)
    {f_summed : Addr} {od_summed an_summed : Option Addr} {sl_summed : Array (Option Value)} {oc_summed kV_summed dc_summed pc_summed cd_summed ct_summed : Value}
    (a_summed : PySem.W.nsIn K mainGlobals "summed" = some (some (.ref f_summed))) (l_summed : K.lookup f_summed = some ⟨oc_summed, od_summed, .func (PySem.W.fnOf "summed" "summed" (defArgs s_summed) (defBody s_summed) (defScope s_summed) .none kV_summed dc_summed pc_summed an_summed cd_summed ct_summed), sl_summed⟩) (c_summed : PySem.W.codeIn K cd_summed "summed" = true) (k_summed : PySem.W.keepIn K (.ref f_summed) = true)
    {f_product_to : Addr} {od_product_to an_product_to : Option Addr} {sl_product_to : Array (Option Value)} {oc_product_to kV_product_to dc_product_to pc_product_to cd_product_to ct_product_to : Value}
    (a_product_to : PySem.W.nsIn K mainGlobals "product_to" = some (some (.ref f_product_to))) (l_product_to : K.lookup f_product_to = some ⟨oc_product_to, od_product_to, .func (PySem.W.fnOf "product_to" "product_to" (defArgs s_product_to) (defBody s_product_to) (defScope s_product_to) .none kV_product_to dc_product_to pc_product_to an_product_to cd_product_to ct_product_to), sl_product_to⟩) (c_product_to : PySem.W.codeIn K cd_product_to "product_to" = true) (k_product_to : PySem.W.keepIn K (.ref f_product_to) = true)
    {f_ways_to_choose : Addr} {od_ways_to_choose an_ways_to_choose : Option Addr} {sl_ways_to_choose : Array (Option Value)} {oc_ways_to_choose kV_ways_to_choose dc_ways_to_choose pc_ways_to_choose cd_ways_to_choose ct_ways_to_choose : Value}
    (a_ways_to_choose : PySem.W.nsIn K mainGlobals "ways_to_choose" = some (some (.ref f_ways_to_choose))) (l_ways_to_choose : K.lookup f_ways_to_choose = some ⟨oc_ways_to_choose, od_ways_to_choose, .func (PySem.W.fnOf "ways_to_choose" "ways_to_choose" (defArgs s_ways_to_choose) (defBody s_ways_to_choose) (defScope s_ways_to_choose) .none kV_ways_to_choose dc_ways_to_choose pc_ways_to_choose an_ways_to_choose cd_ways_to_choose ct_ways_to_choose), sl_ways_to_choose⟩) (c_ways_to_choose : PySem.W.codeIn K cd_ways_to_choose "ways_to_choose" = true) (k_ways_to_choose : PySem.W.keepIn K (.ref f_ways_to_choose) = true)
    {f_values_of : Addr} {od_values_of an_values_of : Option Addr} {sl_values_of : Array (Option Value)} {oc_values_of kV_values_of dc_values_of pc_values_of cd_values_of ct_values_of : Value}
    (a_values_of : PySem.W.nsIn K mainGlobals "values_of" = some (some (.ref f_values_of))) (l_values_of : K.lookup f_values_of = some ⟨oc_values_of, od_values_of, .func (PySem.W.fnOf "values_of" "values_of" (defArgs s_values_of) (defBody s_values_of) (defScope s_values_of) .none kV_values_of dc_values_of pc_values_of an_values_of cd_values_of ct_values_of), sl_values_of⟩) (c_values_of : PySem.W.codeIn K cd_values_of "values_of" = true) (k_values_of : PySem.W.keepIn K (.ref f_values_of) = true)
    {f_differences : Addr} {od_differences an_differences : Option Addr} {sl_differences : Array (Option Value)} {oc_differences kV_differences dc_differences pc_differences cd_differences ct_differences : Value}
    (a_differences : PySem.W.nsIn K mainGlobals "differences" = some (some (.ref f_differences))) (l_differences : K.lookup f_differences = some ⟨oc_differences, od_differences, .func (PySem.W.fnOf "differences" "differences" (defArgs s_differences) (defBody s_differences) (defScope s_differences) .none kV_differences dc_differences pc_differences an_differences cd_differences ct_differences), sl_differences⟩) (c_differences : PySem.W.codeIn K cd_differences "differences" = true) (k_differences : PySem.W.keepIn K (.ref f_differences) = true)
    {f_is_kind : Addr} {od_is_kind an_is_kind : Option Addr} {sl_is_kind : Array (Option Value)} {oc_is_kind kV_is_kind dc_is_kind pc_is_kind cd_is_kind ct_is_kind : Value}
    (a_is_kind : PySem.W.nsIn K mainGlobals "is_kind" = some (some (.ref f_is_kind))) (l_is_kind : K.lookup f_is_kind = some ⟨oc_is_kind, od_is_kind, .func (PySem.W.fnOf "is_kind" "is_kind" (defArgs s_is_kind) (defBody s_is_kind) (defScope s_is_kind) .none kV_is_kind dc_is_kind pc_is_kind an_is_kind cd_is_kind ct_is_kind), sl_is_kind⟩) (c_is_kind : PySem.W.codeIn K cd_is_kind "is_kind" = true) (k_is_kind : PySem.W.keepIn K (.ref f_is_kind) = true)
    {f_row_told : Addr} {od_row_told an_row_told : Option Addr} {sl_row_told : Array (Option Value)} {oc_row_told kV_row_told dc_row_told pc_row_told cd_row_told ct_row_told : Value}
    (a_row_told : PySem.W.nsIn K mainGlobals "row_told" = some (some (.ref f_row_told))) (l_row_told : K.lookup f_row_told = some ⟨oc_row_told, od_row_told, .func (PySem.W.fnOf "row_told" "row_told" (defArgs s_row_told) (defBody s_row_told) (defScope s_row_told) .none kV_row_told dc_row_told pc_row_told an_row_told cd_row_told ct_row_told), sl_row_told⟩) (c_row_told : PySem.W.codeIn K cd_row_told "row_told" = true) (k_row_told : PySem.W.keepIn K (.ref f_row_told) = true)
    {f_unit_row : Addr} {od_unit_row an_unit_row : Option Addr} {sl_unit_row : Array (Option Value)} {oc_unit_row kV_unit_row dc_unit_row pc_unit_row cd_unit_row ct_unit_row : Value}
    (a_unit_row : PySem.W.nsIn K mainGlobals "unit_row" = some (some (.ref f_unit_row))) (l_unit_row : K.lookup f_unit_row = some ⟨oc_unit_row, od_unit_row, .func (PySem.W.fnOf "unit_row" "unit_row" (defArgs s_unit_row) (defBody s_unit_row) (defScope s_unit_row) .none kV_unit_row dc_unit_row pc_unit_row an_unit_row cd_unit_row ct_unit_row), sl_unit_row⟩) (c_unit_row : PySem.W.codeIn K cd_unit_row "unit_row" = true) (k_unit_row : PySem.W.keepIn K (.ref f_unit_row) = true)
    {f_power_row : Addr} {od_power_row an_power_row : Option Addr} {sl_power_row : Array (Option Value)} {oc_power_row kV_power_row dc_power_row pc_power_row cd_power_row ct_power_row : Value}
    (a_power_row : PySem.W.nsIn K mainGlobals "power_row" = some (some (.ref f_power_row))) (l_power_row : K.lookup f_power_row = some ⟨oc_power_row, od_power_row, .func (PySem.W.fnOf "power_row" "power_row" (defArgs s_power_row) (defBody s_power_row) (defScope s_power_row) .none kV_power_row dc_power_row pc_power_row an_power_row cd_power_row ct_power_row), sl_power_row⟩) (c_power_row : PySem.W.codeIn K cd_power_row "power_row" = true) (k_power_row : PySem.W.keepIn K (.ref f_power_row) = true)
    {f_row_kernel : Addr} {od_row_kernel an_row_kernel : Option Addr} {sl_row_kernel : Array (Option Value)} {oc_row_kernel kV_row_kernel dc_row_kernel pc_row_kernel cd_row_kernel ct_row_kernel : Value}
    (a_row_kernel : PySem.W.nsIn K mainGlobals "row_kernel" = some (some (.ref f_row_kernel))) (l_row_kernel : K.lookup f_row_kernel = some ⟨oc_row_kernel, od_row_kernel, .func (PySem.W.fnOf "row_kernel" "row_kernel" (defArgs s_row_kernel) (defBody s_row_kernel) (defScope s_row_kernel) .none kV_row_kernel dc_row_kernel pc_row_kernel an_row_kernel cd_row_kernel ct_row_kernel), sl_row_kernel⟩) (c_row_kernel : PySem.W.codeIn K cd_row_kernel "row_kernel" = true) (k_row_kernel : PySem.W.keepIn K (.ref f_row_kernel) = true)
    {f_row_refuting : Addr} {od_row_refuting an_row_refuting : Option Addr} {sl_row_refuting : Array (Option Value)} {oc_row_refuting kV_row_refuting dc_row_refuting pc_row_refuting cd_row_refuting ct_row_refuting : Value}
    (a_row_refuting : PySem.W.nsIn K mainGlobals "row_refuting" = some (some (.ref f_row_refuting))) (l_row_refuting : K.lookup f_row_refuting = some ⟨oc_row_refuting, od_row_refuting, .func (PySem.W.fnOf "row_refuting" "row_refuting" (defArgs s_row_refuting) (defBody s_row_refuting) (defScope s_row_refuting) .none kV_row_refuting dc_row_refuting pc_row_refuting an_row_refuting cd_row_refuting ct_row_refuting), sl_row_refuting⟩) (c_row_refuting : PySem.W.codeIn K cd_row_refuting "row_refuting" = true) (k_row_refuting : PySem.W.keepIn K (.ref f_row_refuting) = true)
    {f_row_never_below : Addr} {od_row_never_below an_row_never_below : Option Addr} {sl_row_never_below : Array (Option Value)} {oc_row_never_below kV_row_never_below dc_row_never_below pc_row_never_below cd_row_never_below ct_row_never_below : Value}
    (a_row_never_below : PySem.W.nsIn K mainGlobals "row_never_below" = some (some (.ref f_row_never_below))) (l_row_never_below : K.lookup f_row_never_below = some ⟨oc_row_never_below, od_row_never_below, .func (PySem.W.fnOf "row_never_below" "row_never_below" (defArgs s_row_never_below) (defBody s_row_never_below) (defScope s_row_never_below) .none kV_row_never_below dc_row_never_below pc_row_never_below an_row_never_below cd_row_never_below ct_row_never_below), sl_row_never_below⟩) (c_row_never_below : PySem.W.codeIn K cd_row_never_below "row_never_below" = true) (k_row_never_below : PySem.W.keepIn K (.ref f_row_never_below) = true)
    {f_w_divisor : Addr} {od_w_divisor an_w_divisor : Option Addr} {sl_w_divisor : Array (Option Value)} {oc_w_divisor kV_w_divisor dc_w_divisor pc_w_divisor cd_w_divisor ct_w_divisor : Value}
    (a_w_divisor : PySem.W.nsIn K mainGlobals "_law_divisor" = some (some (.ref f_w_divisor))) (l_w_divisor : K.lookup f_w_divisor = some ⟨oc_w_divisor, od_w_divisor, .func (PySem.W.fnOf "_law_divisor" "_law_divisor" (defArgs s_w_divisor) (defBody s_w_divisor) (defScope s_w_divisor) .none kV_w_divisor dc_w_divisor pc_w_divisor an_w_divisor cd_w_divisor ct_w_divisor), sl_w_divisor⟩) (c_w_divisor : PySem.W.codeIn K cd_w_divisor "_law_divisor" = true) (k_w_divisor : PySem.W.keepIn K (.ref f_w_divisor) = true)
    {f_w_choose : Addr} {od_w_choose an_w_choose : Option Addr} {sl_w_choose : Array (Option Value)} {oc_w_choose kV_w_choose dc_w_choose pc_w_choose cd_w_choose ct_w_choose : Value}
    (a_w_choose : PySem.W.nsIn K mainGlobals "_law_choose" = some (some (.ref f_w_choose))) (l_w_choose : K.lookup f_w_choose = some ⟨oc_w_choose, od_w_choose, .func (PySem.W.fnOf "_law_choose" "_law_choose" (defArgs s_w_choose) (defBody s_w_choose) (defScope s_w_choose) .none kV_w_choose dc_w_choose pc_w_choose an_w_choose cd_w_choose ct_w_choose), sl_w_choose⟩) (c_w_choose : PySem.W.codeIn K cd_w_choose "_law_choose" = true) (k_w_choose : PySem.W.keepIn K (.ref f_w_choose) = true)
    {f_w_one_of : Addr} {od_w_one_of an_w_one_of : Option Addr} {sl_w_one_of : Array (Option Value)} {oc_w_one_of kV_w_one_of dc_w_one_of pc_w_one_of cd_w_one_of ct_w_one_of : Value}
    (a_w_one_of : PySem.W.nsIn K mainGlobals "_law_one_of" = some (some (.ref f_w_one_of))) (l_w_one_of : K.lookup f_w_one_of = some ⟨oc_w_one_of, od_w_one_of, .func (PySem.W.fnOf "_law_one_of" "_law_one_of" (defArgs s_w_one_of) (defBody s_w_one_of) (defScope s_w_one_of) .none kV_w_one_of dc_w_one_of pc_w_one_of an_w_one_of cd_w_one_of ct_w_one_of), sl_w_one_of⟩) (c_w_one_of : PySem.W.codeIn K cd_w_one_of "_law_one_of" = true) (k_w_one_of : PySem.W.keepIn K (.ref f_w_one_of) = true)
    {f_w_low : Addr} {od_w_low an_w_low : Option Addr} {sl_w_low : Array (Option Value)} {oc_w_low kV_w_low dc_w_low pc_w_low cd_w_low ct_w_low : Value}
    (a_w_low : PySem.W.nsIn K mainGlobals "_law_low" = some (some (.ref f_w_low))) (l_w_low : K.lookup f_w_low = some ⟨oc_w_low, od_w_low, .func (PySem.W.fnOf "_law_low" "_law_low" (defArgs s_w_low) (defBody s_w_low) (defScope s_w_low) .none kV_w_low dc_w_low pc_w_low an_w_low cd_w_low ct_w_low), sl_w_low⟩) (c_w_low : PySem.W.codeIn K cd_w_low "_law_low" = true) (k_w_low : PySem.W.keepIn K (.ref f_w_low) = true)
    {f_w_minus : Addr} {od_w_minus an_w_minus : Option Addr} {sl_w_minus : Array (Option Value)} {oc_w_minus kV_w_minus dc_w_minus pc_w_minus cd_w_minus ct_w_minus : Value}
    (a_w_minus : PySem.W.nsIn K mainGlobals "_law_minus" = some (some (.ref f_w_minus))) (l_w_minus : K.lookup f_w_minus = some ⟨oc_w_minus, od_w_minus, .func (PySem.W.fnOf "_law_minus" "_law_minus" (defArgs s_w_minus) (defBody s_w_minus) (defScope s_w_minus) .none kV_w_minus dc_w_minus pc_w_minus an_w_minus cd_w_minus ct_w_minus), sl_w_minus⟩) (c_w_minus : PySem.W.codeIn K cd_w_minus "_law_minus" = true) (k_w_minus : PySem.W.keepIn K (.ref f_w_minus) = true)
    {f_w_plus : Addr} {od_w_plus an_w_plus : Option Addr} {sl_w_plus : Array (Option Value)} {oc_w_plus kV_w_plus dc_w_plus pc_w_plus cd_w_plus ct_w_plus : Value}
    (a_w_plus : PySem.W.nsIn K mainGlobals "_law_plus" = some (some (.ref f_w_plus))) (l_w_plus : K.lookup f_w_plus = some ⟨oc_w_plus, od_w_plus, .func (PySem.W.fnOf "_law_plus" "_law_plus" (defArgs s_w_plus) (defBody s_w_plus) (defScope s_w_plus) .none kV_w_plus dc_w_plus pc_w_plus an_w_plus cd_w_plus ct_w_plus), sl_w_plus⟩) (c_w_plus : PySem.W.codeIn K cd_w_plus "_law_plus" = true) (k_w_plus : PySem.W.keepIn K (.ref f_w_plus) = true)
    {f_w_sum : Addr} {od_w_sum an_w_sum : Option Addr} {sl_w_sum : Array (Option Value)} {oc_w_sum kV_w_sum dc_w_sum pc_w_sum cd_w_sum ct_w_sum : Value}
    (a_w_sum : PySem.W.nsIn K mainGlobals "_law_sum" = some (some (.ref f_w_sum))) (l_w_sum : K.lookup f_w_sum = some ⟨oc_w_sum, od_w_sum, .func (PySem.W.fnOf "_law_sum" "_law_sum" (defArgs s_w_sum) (defBody s_w_sum) (defScope s_w_sum) .none kV_w_sum dc_w_sum pc_w_sum an_w_sum cd_w_sum ct_w_sum), sl_w_sum⟩) (c_w_sum : PySem.W.codeIn K cd_w_sum "_law_sum" = true) (k_w_sum : PySem.W.keepIn K (.ref f_w_sum) = true)
    {f_w_seed : Addr} {od_w_seed an_w_seed : Option Addr} {sl_w_seed : Array (Option Value)} {oc_w_seed kV_w_seed dc_w_seed pc_w_seed cd_w_seed ct_w_seed : Value}
    (a_w_seed : PySem.W.nsIn K mainGlobals "_law_seed" = some (some (.ref f_w_seed))) (l_w_seed : K.lookup f_w_seed = some ⟨oc_w_seed, od_w_seed, .func (PySem.W.fnOf "_law_seed" "_law_seed" (defArgs s_w_seed) (defBody s_w_seed) (defScope s_w_seed) .none kV_w_seed dc_w_seed pc_w_seed an_w_seed cd_w_seed ct_w_seed), sl_w_seed⟩) (c_w_seed : PySem.W.codeIn K cd_w_seed "_law_seed" = true) (k_w_seed : PySem.W.keepIn K (.ref f_w_seed) = true)
    {f_w_times : Addr} {od_w_times an_w_times : Option Addr} {sl_w_times : Array (Option Value)} {oc_w_times kV_w_times dc_w_times pc_w_times cd_w_times ct_w_times : Value}
    (a_w_times : PySem.W.nsIn K mainGlobals "_law_times" = some (some (.ref f_w_times))) (l_w_times : K.lookup f_w_times = some ⟨oc_w_times, od_w_times, .func (PySem.W.fnOf "_law_times" "_law_times" (defArgs s_w_times) (defBody s_w_times) (defScope s_w_times) .none kV_w_times dc_w_times pc_w_times an_w_times cd_w_times ct_w_times), sl_w_times⟩) (c_w_times : PySem.W.codeIn K cd_w_times "_law_times" = true) (k_w_times : PySem.W.keepIn K (.ref f_w_times) = true)
    {f_w_pair : Addr} {od_w_pair an_w_pair : Option Addr} {sl_w_pair : Array (Option Value)} {oc_w_pair kV_w_pair dc_w_pair pc_w_pair cd_w_pair ct_w_pair : Value}
    (a_w_pair : PySem.W.nsIn K mainGlobals "_law_pair" = some (some (.ref f_w_pair))) (l_w_pair : K.lookup f_w_pair = some ⟨oc_w_pair, od_w_pair, .func (PySem.W.fnOf "_law_pair" "_law_pair" (defArgs s_w_pair) (defBody s_w_pair) (defScope s_w_pair) .none kV_w_pair dc_w_pair pc_w_pair an_w_pair cd_w_pair ct_w_pair), sl_w_pair⟩) (c_w_pair : PySem.W.codeIn K cd_w_pair "_law_pair" = true) (k_w_pair : PySem.W.keepIn K (.ref f_w_pair) = true)
    {f_w_line : Addr} {od_w_line an_w_line : Option Addr} {sl_w_line : Array (Option Value)} {oc_w_line kV_w_line dc_w_line pc_w_line cd_w_line ct_w_line : Value}
    (a_w_line : PySem.W.nsIn K mainGlobals "_law_line" = some (some (.ref f_w_line))) (l_w_line : K.lookup f_w_line = some ⟨oc_w_line, od_w_line, .func (PySem.W.fnOf "_law_line" "_law_line" (defArgs s_w_line) (defBody s_w_line) (defScope s_w_line) .none kV_w_line dc_w_line pc_w_line an_w_line cd_w_line ct_w_line), sl_w_line⟩) (c_w_line : PySem.W.codeIn K cd_w_line "_law_line" = true) (k_w_line : PySem.W.keepIn K (.ref f_w_line) = true)
    {f_w_differences : Addr} {od_w_differences an_w_differences : Option Addr} {sl_w_differences : Array (Option Value)} {oc_w_differences kV_w_differences dc_w_differences pc_w_differences cd_w_differences ct_w_differences : Value}
    (a_w_differences : PySem.W.nsIn K mainGlobals "_law_differences" = some (some (.ref f_w_differences))) (l_w_differences : K.lookup f_w_differences = some ⟨oc_w_differences, od_w_differences, .func (PySem.W.fnOf "_law_differences" "_law_differences" (defArgs s_w_differences) (defBody s_w_differences) (defScope s_w_differences) .none kV_w_differences dc_w_differences pc_w_differences an_w_differences cd_w_differences ct_w_differences), sl_w_differences⟩) (c_w_differences : PySem.W.codeIn K cd_w_differences "_law_differences" = true) (k_w_differences : PySem.W.keepIn K (.ref f_w_differences) = true)
    {f_w_dot : Addr} {od_w_dot an_w_dot : Option Addr} {sl_w_dot : Array (Option Value)} {oc_w_dot kV_w_dot dc_w_dot pc_w_dot cd_w_dot ct_w_dot : Value}
    (a_w_dot : PySem.W.nsIn K mainGlobals "_law_dot" = some (some (.ref f_w_dot))) (l_w_dot : K.lookup f_w_dot = some ⟨oc_w_dot, od_w_dot, .func (PySem.W.fnOf "_law_dot" "_law_dot" (defArgs s_w_dot) (defBody s_w_dot) (defScope s_w_dot) .none kV_w_dot dc_w_dot pc_w_dot an_w_dot cd_w_dot ct_w_dot), sl_w_dot⟩) (c_w_dot : PySem.W.codeIn K cd_w_dot "_law_dot" = true) (k_w_dot : PySem.W.keepIn K (.ref f_w_dot) = true)
    {f_w_grown : Addr} {od_w_grown an_w_grown : Option Addr} {sl_w_grown : Array (Option Value)} {oc_w_grown kV_w_grown dc_w_grown pc_w_grown cd_w_grown ct_w_grown : Value}
    (a_w_grown : PySem.W.nsIn K mainGlobals "_law_grown" = some (some (.ref f_w_grown))) (l_w_grown : K.lookup f_w_grown = some ⟨oc_w_grown, od_w_grown, .func (PySem.W.fnOf "_law_grown" "_law_grown" (defArgs s_w_grown) (defBody s_w_grown) (defScope s_w_grown) .none kV_w_grown dc_w_grown pc_w_grown an_w_grown cd_w_grown ct_w_grown), sl_w_grown⟩) (c_w_grown : PySem.W.codeIn K cd_w_grown "_law_grown" = true) (k_w_grown : PySem.W.keepIn K (.ref f_w_grown) = true)
    {f_w_kind_line : Addr} {od_w_kind_line an_w_kind_line : Option Addr} {sl_w_kind_line : Array (Option Value)} {oc_w_kind_line kV_w_kind_line dc_w_kind_line pc_w_kind_line cd_w_kind_line ct_w_kind_line : Value}
    (a_w_kind_line : PySem.W.nsIn K mainGlobals "_law_kind_line" = some (some (.ref f_w_kind_line))) (l_w_kind_line : K.lookup f_w_kind_line = some ⟨oc_w_kind_line, od_w_kind_line, .func (PySem.W.fnOf "_law_kind_line" "_law_kind_line" (defArgs s_w_kind_line) (defBody s_w_kind_line) (defScope s_w_kind_line) .none kV_w_kind_line dc_w_kind_line pc_w_kind_line an_w_kind_line cd_w_kind_line ct_w_kind_line), sl_w_kind_line⟩) (c_w_kind_line : PySem.W.codeIn K cd_w_kind_line "_law_kind_line" = true) (k_w_kind_line : PySem.W.keepIn K (.ref f_w_kind_line) = true)
    {f_law : Addr} {od_law an_law : Option Addr} {sl_law : Array (Option Value)} {oc_law kV_law dc_law pc_law cd_law ct_law : Value}
    (a_law : PySem.W.nsIn K mainGlobals "law" = some (some (.ref f_law))) (l_law : K.lookup f_law = some ⟨oc_law, od_law, .func (PySem.W.fnOf "law" "law" (defArgs s_law) (defBody s_law) (defScope s_law) .none kV_law dc_law pc_law an_law cd_law ct_law), sl_law⟩) (c_law : PySem.W.codeIn K cd_law "law" = true) (k_law : PySem.W.keepIn K (.ref f_law) = true)
    {g_NOUGHT : Addr} {gd_NOUGHT : Option Addr} {gi_NOUGHT : Array Value} {gn_NOUGHT : Nat} {gs_NOUGHT : Array (Option Value)} (a_NOUGHT : PySem.W.nsIn K mainGlobals "NOUGHT" = some (some (.ref g_NOUGHT))) (l_NOUGHT : K.lookup g_NOUGHT = some ⟨.type "tuple", gd_NOUGHT, .seq gi_NOUGHT gn_NOUGHT, gs_NOUGHT⟩) (v_NOUGHT : gi_NOUGHT.size ≤ sizeLine ∧ ∃ vs, Vals vs gi_NOUGHT.toList ∧ ∀ H, DRs K H vs [.int (0), .int (1)])
    (z_abs : PySem.W.nsIn K mainGlobals "abs" = some none)
    (z_any : PySem.W.nsIn K mainGlobals "any" = some none)
    (z_bool : PySem.W.nsIn K mainGlobals "bool" = some none)
    (z_enumerate : PySem.W.nsIn K mainGlobals "enumerate" = some none)
    (z_int : PySem.W.nsIn K mainGlobals "int" = some none)
    (z_isinstance : PySem.W.nsIn K mainGlobals "isinstance" = some none)
    (z_len : PySem.W.nsIn K mainGlobals "len" = some none)
    (z_max : PySem.W.nsIn K mainGlobals "max" = some none)
    (z_min : PySem.W.nsIn K mainGlobals "min" = some none)
    (z_range : PySem.W.nsIn K mainGlobals "range" = some none)
    (z_tuple : PySem.W.nsIn K mainGlobals "tuple" = some none)
    (z_zip : PySem.W.nsIn K mainGlobals "zip" = some none)
    : ∃ fd : FuncData, (∀ (s : Shared) (u : Value), BindsTo s fd ⟨[u], []⟩ [("_law_script", u)]) ∧ ∀ (base : Heap) (s : Shared) (H : Hp) (a : Addr) (Q : VK), K.In base → base.Ns mainGlobals mg → Env0 l.prog w K mg base callerA [] s H → BindsTo s fd ⟨[.ref a], []⟩ [("_law_script", .ref a)] → spF K r_law [.ref a] H Q E0 →
      codeAny (model l.prog w) callerA (.call (.ref fa) ⟨[.ref a], []⟩) (CR CX0 [] l.prog w H s Q E0) s := by
  have e := hfa.symm.trans (PySem.W.mg_of X G a_law)
  cases e
  have T : ∃ T : Txt K mg, T.law = fnT X G a_law l_law c_law k_law := ⟨{ is_integer := fnT X G a_is_integer l_is_integer c_is_integer k_is_integer, divisor := fnT X G a_divisor l_divisor c_divisor k_divisor, lowest := fnT X G a_lowest l_lowest c_lowest k_lowest, value_of := fnT X G a_value_of l_value_of c_value_of k_value_of, added := fnT X G a_added l_added c_added k_added, less_by := fnT X G a_less_by l_less_by c_less_by k_less_by, multiplied := fnT X G a_multiplied l_multiplied c_multiplied k_multiplied, is_less := fnT X G a_is_less l_is_less c_is_less k_is_less, summed := fnT X G a_summed l_summed c_summed k_summed, product_to := fnT X G a_product_to l_product_to c_product_to k_product_to, ways_to_choose := fnT X G a_ways_to_choose l_ways_to_choose c_ways_to_choose k_ways_to_choose, values_of := fnT X G a_values_of l_values_of c_values_of k_values_of, differences := fnT X G a_differences l_differences c_differences k_differences, is_kind := fnT X G a_is_kind l_is_kind c_is_kind k_is_kind, row_told := fnT X G a_row_told l_row_told c_row_told k_row_told, unit_row := fnT X G a_unit_row l_unit_row c_unit_row k_unit_row, power_row := fnT X G a_power_row l_power_row c_power_row k_power_row, row_kernel := fnT X G a_row_kernel l_row_kernel c_row_kernel k_row_kernel, row_refuting := fnT X G a_row_refuting l_row_refuting c_row_refuting k_row_refuting, row_never_below := fnT X G a_row_never_below l_row_never_below c_row_never_below k_row_never_below, w_divisor := fnT X G a_w_divisor l_w_divisor c_w_divisor k_w_divisor, w_choose := fnT X G a_w_choose l_w_choose c_w_choose k_w_choose, w_one_of := fnT X G a_w_one_of l_w_one_of c_w_one_of k_w_one_of, w_low := fnT X G a_w_low l_w_low c_w_low k_w_low, w_minus := fnT X G a_w_minus l_w_minus c_w_minus k_w_minus, w_plus := fnT X G a_w_plus l_w_plus c_w_plus k_w_plus, w_sum := fnT X G a_w_sum l_w_sum c_w_sum k_w_sum, w_seed := fnT X G a_w_seed l_w_seed c_w_seed k_w_seed, w_times := fnT X G a_w_times l_w_times c_w_times k_w_times, w_pair := fnT X G a_w_pair l_w_pair c_w_pair k_w_pair, w_line := fnT X G a_w_line l_w_line c_w_line k_w_line, w_differences := fnT X G a_w_differences l_w_differences c_w_differences k_w_differences, w_dot := fnT X G a_w_dot l_w_dot c_w_dot k_w_dot, w_grown := fnT X G a_w_grown l_w_grown c_w_grown k_w_grown, w_kind_line := fnT X G a_w_kind_line l_w_kind_line c_w_kind_line k_w_kind_line, law := fnT X G a_law l_law c_law k_law, NOUGHT := coTup X G a_NOUGHT l_NOUGHT v_NOUGHT.1 (Classical.choose_spec v_NOUGHT.2).1 (Classical.choose_spec v_NOUGHT.2).2, abs := PySem.W.mg_none_of X G z_abs, any := PySem.W.mg_none_of X G z_any, bool := PySem.W.mg_none_of X G z_bool, enumerate := PySem.W.mg_none_of X G z_enumerate, int := PySem.W.mg_none_of X G z_int, isinstance := PySem.W.mg_none_of X G z_isinstance, len := PySem.W.mg_none_of X G z_len, max := PySem.W.mg_none_of X G z_max, min := PySem.W.mg_none_of X G z_min, range := PySem.W.mg_none_of X G z_range, tuple := PySem.W.mg_none_of X G z_tuple, zip := PySem.W.mg_none_of X G z_zip }, rfl⟩
  obtain ⟨T, hT⟩ := T
  refine ⟨(fnT X G a_law l_law c_law k_law).fd, fun s v => .of_eq rfl, fun base s H a Q _ _ e0 bd0 q => ?_⟩
  have z := ok_law (P := l.prog) (w := w) (base := base) T (s := s) (H := H) (a := a) (Q := Q) e0
  rw [hT] at z
  exact z bd0 q
end Bk
open PySem PySem.W PyProof.Rows
theorem PySem.Challenge.cw_bendkinds_k64_whole_sums_and_kernels_holds : PySem.Challenge.rw_bendkinds_k64_whole_sums_and_kernels.Holds := by
  w_on; o_law; k_head; (case hw => w_witness2)
  k_fill
  refine Bk.law_end (l := PySem.Challenge.rw_bendkinds_k64_whole_sums_and_kernels) (x := "_law_script") (m := Bk.r_law) rfl rfl (fun w h Y => PySem.W.kIn_of Y) ?F Bk.law_true
  case F =>
    intro w mg fa h KX G hmg
    refine' Bk.all_mk KX G hmg ?a_is_integer ?l_is_integer ?c_is_integer ?k_is_integer ?a_divisor ?l_divisor ?c_divisor ?k_divisor ?a_lowest ?l_lowest ?c_lowest ?k_lowest ?a_value_of ?l_value_of ?c_value_of ?k_value_of ?a_added ?l_added ?c_added ?k_added ?a_less_by ?l_less_by ?c_less_by ?k_less_by ?a_multiplied ?l_multiplied ?c_multiplied ?k_multiplied ?a_is_less ?l_is_less ?c_is_less ?k_is_less ?a_summed ?l_summed ?c_summed ?k_summed ?a_product_to ?l_product_to ?c_product_to ?k_product_to ?a_ways_to_choose ?l_ways_to_choose ?c_ways_to_choose ?k_ways_to_choose ?a_values_of ?l_values_of ?c_values_of ?k_values_of ?a_differences ?l_differences ?c_differences ?k_differences ?a_is_kind ?l_is_kind ?c_is_kind ?k_is_kind ?a_row_told ?l_row_told ?c_row_told ?k_row_told ?a_unit_row ?l_unit_row ?c_unit_row ?k_unit_row ?a_power_row ?l_power_row ?c_power_row ?k_power_row ?a_row_kernel ?l_row_kernel ?c_row_kernel ?k_row_kernel ?a_row_refuting ?l_row_refuting ?c_row_refuting ?k_row_refuting ?a_row_never_below ?l_row_never_below ?c_row_never_below ?k_row_never_below ?a_w_divisor ?l_w_divisor ?c_w_divisor ?k_w_divisor ?a_w_choose ?l_w_choose ?c_w_choose ?k_w_choose ?a_w_one_of ?l_w_one_of ?c_w_one_of ?k_w_one_of ?a_w_low ?l_w_low ?c_w_low ?k_w_low ?a_w_minus ?l_w_minus ?c_w_minus ?k_w_minus ?a_w_plus ?l_w_plus ?c_w_plus ?k_w_plus ?a_w_sum ?l_w_sum ?c_w_sum ?k_w_sum ?a_w_seed ?l_w_seed ?c_w_seed ?k_w_seed ?a_w_times ?l_w_times ?c_w_times ?k_w_times ?a_w_pair ?l_w_pair ?c_w_pair ?k_w_pair ?a_w_line ?l_w_line ?c_w_line ?k_w_line ?a_w_differences ?l_w_differences ?c_w_differences ?k_w_differences ?a_w_dot ?l_w_dot ?c_w_dot ?k_w_dot ?a_w_grown ?l_w_grown ?c_w_grown ?k_w_grown ?a_w_kind_line ?l_w_kind_line ?c_w_kind_line ?k_w_kind_line ?a_law ?l_law ?c_law ?k_law ?a_NOUGHT ?l_NOUGHT ?v_NOUGHT ?z_abs ?z_any ?z_bool ?z_enumerate ?z_int ?z_isinstance ?z_len ?z_max ?z_min ?z_range ?z_tuple ?z_zip
    (case a_is_integer => k_is)
    (case l_is_integer => k_is)
    (case c_is_integer => k_is)
    (case k_is_integer => k_is)
    (case a_divisor => k_is)
    (case l_divisor => k_is)
    (case c_divisor => k_is)
    (case k_divisor => k_is)
    (case a_lowest => k_is)
    (case l_lowest => k_is)
    (case c_lowest => k_is)
    (case k_lowest => k_is)
    (case a_value_of => k_is)
    (case l_value_of => k_is)
    (case c_value_of => k_is)
    (case k_value_of => k_is)
    (case a_added => k_is)
    (case l_added => k_is)
    (case c_added => k_is)
    (case k_added => k_is)
    (case a_less_by => k_is)
    (case l_less_by => k_is)
    (case c_less_by => k_is)
    (case k_less_by => k_is)
    (case a_multiplied => k_is)
    (case l_multiplied => k_is)
    (case c_multiplied => k_is)
    (case k_multiplied => k_is)
    (case a_is_less => k_is)
    (case l_is_less => k_is)
    (case c_is_less => k_is)
    (case k_is_less => k_is)
    (case a_summed => k_is)
    (case l_summed => k_is)
    (case c_summed => k_is)
    (case k_summed => k_is)
    (case a_product_to => k_is)
    (case l_product_to => k_is)
    (case c_product_to => k_is)
    (case k_product_to => k_is)
    (case a_ways_to_choose => k_is)
    (case l_ways_to_choose => k_is)
    (case c_ways_to_choose => k_is)
    (case k_ways_to_choose => k_is)
    (case a_values_of => k_is)
    (case l_values_of => k_is)
    (case c_values_of => k_is)
    (case k_values_of => k_is)
    (case a_differences => k_is)
    (case l_differences => k_is)
    (case c_differences => k_is)
    (case k_differences => k_is)
    (case a_is_kind => k_is)
    (case l_is_kind => k_is)
    (case c_is_kind => k_is)
    (case k_is_kind => k_is)
    (case a_row_told => k_is)
    (case l_row_told => k_is)
    (case c_row_told => k_is)
    (case k_row_told => k_is)
    (case a_unit_row => k_is)
    (case l_unit_row => k_is)
    (case c_unit_row => k_is)
    (case k_unit_row => k_is)
    (case a_power_row => k_is)
    (case l_power_row => k_is)
    (case c_power_row => k_is)
    (case k_power_row => k_is)
    (case a_row_kernel => k_is)
    (case l_row_kernel => k_is)
    (case c_row_kernel => k_is)
    (case k_row_kernel => k_is)
    (case a_row_refuting => k_is)
    (case l_row_refuting => k_is)
    (case c_row_refuting => k_is)
    (case k_row_refuting => k_is)
    (case a_row_never_below => k_is)
    (case l_row_never_below => k_is)
    (case c_row_never_below => k_is)
    (case k_row_never_below => k_is)
    (case a_w_divisor => k_is)
    (case l_w_divisor => k_is)
    (case c_w_divisor => k_is)
    (case k_w_divisor => k_is)
    (case a_w_choose => k_is)
    (case l_w_choose => k_is)
    (case c_w_choose => k_is)
    (case k_w_choose => k_is)
    (case a_w_one_of => k_is)
    (case l_w_one_of => k_is)
    (case c_w_one_of => k_is)
    (case k_w_one_of => k_is)
    (case a_w_low => k_is)
    (case l_w_low => k_is)
    (case c_w_low => k_is)
    (case k_w_low => k_is)
    (case a_w_minus => k_is)
    (case l_w_minus => k_is)
    (case c_w_minus => k_is)
    (case k_w_minus => k_is)
    (case a_w_plus => k_is)
    (case l_w_plus => k_is)
    (case c_w_plus => k_is)
    (case k_w_plus => k_is)
    (case a_w_sum => k_is)
    (case l_w_sum => k_is)
    (case c_w_sum => k_is)
    (case k_w_sum => k_is)
    (case a_w_seed => k_is)
    (case l_w_seed => k_is)
    (case c_w_seed => k_is)
    (case k_w_seed => k_is)
    (case a_w_times => k_is)
    (case l_w_times => k_is)
    (case c_w_times => k_is)
    (case k_w_times => k_is)
    (case a_w_pair => k_is)
    (case l_w_pair => k_is)
    (case c_w_pair => k_is)
    (case k_w_pair => k_is)
    (case a_w_line => k_is)
    (case l_w_line => k_is)
    (case c_w_line => k_is)
    (case k_w_line => k_is)
    (case a_w_differences => k_is)
    (case l_w_differences => k_is)
    (case c_w_differences => k_is)
    (case k_w_differences => k_is)
    (case a_w_dot => k_is)
    (case l_w_dot => k_is)
    (case c_w_dot => k_is)
    (case k_w_dot => k_is)
    (case a_w_grown => k_is)
    (case l_w_grown => k_is)
    (case c_w_grown => k_is)
    (case k_w_grown => k_is)
    (case a_w_kind_line => k_is)
    (case l_w_kind_line => k_is)
    (case c_w_kind_line => k_is)
    (case k_w_kind_line => k_is)
    (case a_law => k_is)
    (case l_law => k_is)
    (case c_law => k_is)
    (case k_law => k_is)
    (case a_NOUGHT => k_is)
    (case l_NOUGHT => k_is)
    (case z_abs => k_is)
    (case z_any => k_is)
    (case z_bool => k_is)
    (case z_enumerate => k_is)
    (case z_int => k_is)
    (case z_isinstance => k_is)
    (case z_len => k_is)
    (case z_max => k_is)
    (case z_min => k_is)
    (case z_range => k_is)
    (case z_tuple => k_is)
    (case z_zip => k_is)
    (case v_NOUGHT => exact ⟨by decide, [.int (0), .int (1)], .cons ⟨_, rfl⟩ (.cons ⟨_, rfl⟩ (.nil)), fun _ => .cons (.int _) (.cons (.int _) (.nil))⟩)
