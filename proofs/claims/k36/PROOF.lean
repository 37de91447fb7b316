import PyProof.Rows.All
import Wide.All
import OpenK.AllK
import Wide.FinOn
import HandS.ForMost
import HandS.IsInst
import HandS.Wide
import HandS.Flow
import HandS.Style
import HandS.RaiseMore
import KE.GoesEnum
import HandS.Codes
import KE.KOpsOwn
import KE.KCallOwn
import KE.KFmtOwn
import HandS.SlotsOwn
import HandS.TupAny
import HandS.Star
import HandS.FStr
import HandS.Text
import HandS.Comp
import HandS.Replace
import HandS.SortRule
import HandS.SortInts
import HandS.Defaults
import HandS.MakeKw
import HandS.Strs
import HandS.SetFor
import HandS.TupMul
import HandS.Deep
import KE.RegKIsAll
import PySem.Challenge.RW_bendkinds_k36_papers_known_by_hand
set_option Elab.async false
set_option linter.all false
set_option maxRecDepth 100000
set_option maxHeartbeats 4000000
/-! Bk1: data over the abstract heap; what a reading computes on data. -/
namespace Bk
open PySem L2

/-! ## data -/
inductive D where
  | non | bl (b : Bool) | int (i : Int) | str (x : PySem.Str)
  | lst (xs : List D) | frz (xs : List D) | tup (xs : List D) | obj (c : Nat) (xs : List D) | ty (n : String) | cl (c : Nat)

/-! the classes of the program by number: their names, their attributes in the order in which they are first stored -/
def cName : Nat → PySem.Str
  | 0 => "Rule" | 1 => "Part" | 2 => "Live" | 3 => "Block" | 4 => "Desk" | _ => "Table"
def cAttrs : Nat → List PySem.Str
  | 0 => ["low", "high", "weights", "shares"]
  | 1 => ["start", "end", "powers", "whole", "least_high", "most_high"]
  | 2 => ["past"] | 3 => ["live", "kept"] | 4 => ["kept"]
  | _ => ["many", "size", "signs", "lines", "base"]
/-- the class of that number stands at C -/
def CAt (K : PySem.W.Frag) (c : Nat) (C : Addr) : Prop := PySem.W.nsIn K mainGlobals (cName c) = some (some (.ref C))
theorem CAt.eq {K : PySem.W.Frag} {c : Nat} {C C' : Addr} (h : CAt K c C) (h' : CAt K c C') : C = C' := by
  unfold CAt at h h'
  rw [h] at h'
  cases h'
  rfl

mutual
inductive DR (K : PySem.W.Frag) (H : Hp) : V → D → Prop
  | non : DR K H .non .non
  | bl (b : Bool) : DR K H (.bl b) (.bl b)
  | int (i : Int) : DR K H (.int i) (.int i)
  | str (x : PySem.Str) : DR K H (.str x) (.str x)
  | lst {a : Addr} {xs : List V} {ds : List D} : H a = some (.lst xs) → DRs K H xs ds → DR K H (.ref a) (.lst ds)
  | frz {a : Addr} {xs : List V} {ds : List D} : SqL K H a xs → DRs K H xs ds → DR K H (.ref a) (.frz ds)
  | tup {a : Addr} {xs : List V} {ds : List D} : SqT K H a xs → DRs K H xs ds → DR K H (.ref a) (.tup ds)
  | obj {a C dx : Addr} {c : Nat} {fs : List (PySem.Str × V)} {vs : List V} {ds : List D} : CAt K c C → H a = some (.ins C dx fs) → fs.map (·.1) = (cAttrs c).take ds.length → fs.map (·.2) = vs → DRs K H vs ds → DR K H (.ref a) (.obj c ds)
  | ty (n : String) : DR K H (.ty n) (.ty n)
  | cl {c : Nat} {C : Addr} : CAt K c C → DR K H (.ref C) (.cl c)
inductive DRs (K : PySem.W.Frag) (H : Hp) : List V → List D → Prop
  | nil : DRs K H [] []
  | cons {v : V} {vs : List V} {d : D} {ds : List D} : DR K H v d → DRs K H vs ds → DRs K H (v :: vs) (d :: ds)
end

theorem same_rd {H H' : Hp} (e : Same H H') {a : Addr} {u : HO} (r : Rd H a u) : Rd H' a u := by
  cases r with
  | inl h => exact .inl (e _ _ h)
  | inr h =>
    obtain ⟨o, h⟩ := h
    exact .inr ⟨o, e _ _ h⟩
theorem same_tup {K : PySem.W.Frag} {H H' : Hp} (e : Same H H') {a : Addr} {xs : List V} (h : SqT K H a xs) : SqT K H' a xs := by
  cases h with
  | inl h => exact .inl (same_rd e h)
  | inr h => exact .inr h
theorem same_lst {K : PySem.W.Frag} {H H' : Hp} (e : Same H H') {a : Addr} {xs : List V} (h : SqL K H a xs) : SqL K H' a xs := by
  cases h with
  | inl h => exact .inl (same_rd e h)
  | inr h => exact .inr h

mutual
theorem DR.mono {K : PySem.W.Frag} {H H' : Hp} (e : Same H H') : ∀ {v : V} {d : D}, DR K H v d → DR K H' v d
  | _, _, .non => .non
  | _, _, .bl b => .bl b
  | _, _, .int i => .int i
  | _, _, .str x => .str x
  | _, _, .lst h hs => .lst (e _ _ h) (DRs.mono e hs)
  | _, _, .frz h hs => .frz (same_lst e h) (DRs.mono e hs)
  | _, _, .tup h hs => .tup (same_tup e h) (DRs.mono e hs)
  | _, _, .obj c h h1 h2 hs => .obj c (e _ _ h) h1 h2 (DRs.mono e hs)
  | _, _, .ty n => .ty n
  | _, _, .cl c => .cl c
theorem DRs.mono {K : PySem.W.Frag} {H H' : Hp} (e : Same H H') : ∀ {vs : List V} {ds : List D}, DRs K H vs ds → DRs K H' vs ds
  | _, _, .nil => .nil
  | _, _, .cons h hs => .cons (DR.mono e h) (DRs.mono e hs)
end

section
variable {K : PySem.W.Frag} {H : Hp}
theorem DRs.len : ∀ {vs : List V} {ds : List D}, DRs K H vs ds → vs.length = ds.length
  | _, _, .nil => rfl
  | _, _, .cons _ hs => congrArg Nat.succ (DRs.len hs)
theorem DRs.at : ∀ {vs : List V} {ds : List D} {i : Nat} {d : D}, DRs K H vs ds → ds[i]? = some d → ∃ v, vs[i]? = some v ∧ DR K H v d
  | _, _, _, _, .nil, e => by simp at e
  | _, _, 0, _, .cons h _, e => by simp at e; subst e; exact ⟨_, rfl, h⟩
  | _, _, i + 1, _, .cons _ hs, e => by
    obtain ⟨v, h1, h2⟩ := DRs.at (i := i) hs (by simpa using e)
    exact ⟨v, by simpa using h1, h2⟩
theorem DRs.ta : ∀ {vs : List V} {ds : List D} {i : Nat} {v : V}, DRs K H vs ds → vs[i]? = some v → ∃ d, ds[i]? = some d ∧ DR K H v d
  | _, _, _, _, .nil, e => by simp at e
  | _, _, 0, _, .cons h _, e => by simp at e; subst e; exact ⟨_, rfl, h⟩
  | _, _, i + 1, _, .cons _ hs, e => by
    obtain ⟨v, h1, h2⟩ := DRs.ta (i := i) hs (by simpa using e)
    exact ⟨v, by simpa using h1, h2⟩
theorem DRs.app : ∀ {vs ws : List V} {ds es : List D}, DRs K H vs ds → DRs K H ws es → DRs K H (vs ++ ws) (ds ++ es)
  | _, _, _, _, .nil, h => h
  | _, _, _, _, .cons a t, h => .cons a (DRs.app t h)
theorem DRs.one {v : V} {d : D} (h : DR K H v d) : DRs K H [v] [d] := .cons h .nil
theorem DRs.drop : ∀ {vs : List V} {ds : List D} (n : Nat), DRs K H vs ds → DRs K H (vs.drop n) (ds.drop n)
  | _, _, 0, h => h
  | _, _, _ + 1, .nil => .nil
  | _, _, n + 1, .cons _ t => DRs.drop n t
theorem DRs.take : ∀ {vs : List V} {ds : List D} (n : Nat), DRs K H vs ds → DRs K H (vs.take n) (ds.take n)
  | _, _, 0, _ => .nil
  | _, _, _ + 1, .nil => .nil
  | _, _, n + 1, .cons a t => .cons a (DRs.take n t)
theorem DRs.set {v : V} {d : D} (h : DR K H v d) : ∀ {vs : List V} {ds : List D} (i : Nat), DRs K H vs ds → DRs K H (vs.set i v) (ds.set i d)
  | _, _, _, .nil => .nil
  | _, _, 0, .cons _ t => .cons h t
  | _, _, i + 1, .cons a t => .cons a (DRs.set h i t)
theorem DRs.rev : ∀ {vs : List V} {ds : List D}, DRs K H vs ds → DRs K H vs.reverse ds.reverse
  | _, _, .nil => .nil
  | _, _, .cons a t => by
    rw [List.reverse_cons, List.reverse_cons]
    exact DRs.app (DRs.rev t) (.cons a .nil)
theorem DRs.rep {vs : List V} {ds : List D} (h : DRs K H vs ds) : ∀ k : Nat, DRs K H (List.replicate k vs).flatten (List.replicate k ds).flatten
  | 0 => .nil
  | k + 1 => by
    rw [List.replicate_succ, List.replicate_succ, List.flatten_cons, List.flatten_cons]
    exact DRs.app h (DRs.rep h k)
theorem DRs.ints : ∀ (ns : List Int), DRs K H (ns.map V.int) (ns.map D.int)
  | [] => .nil
  | n :: ns => .cons (.int n) (DRs.ints ns)
end

/-! ## slots -/
/-- what may change: a list, an instance -/
inductive Mob where
  | l (ds : List D) | o (c : Nat) (ds : List D)
def Mob.d : Mob → D
  | .l ds => .lst ds
  | .o c ds => .obj c ds
inductive Ent where
  | un | im (d : D) | ow (m : Mob) | bx (m : Mob)
def Ent.mu : Ent → Option Mob
  | .ow m => some m
  | .bx m => some m
  | _ => none
abbrev Gam := List Ent
inductive R where
  | im (d : D) | ow (m : Mob)
abbrev R.ol (ds : List D) : R := .ow (.l ds)
abbrev Ent.ol (ds : List D) : Ent := .ow (.l ds)
abbrev Ent.bl (ds : List D) : Ent := .bx (.l ds)
def R.d : R → D
  | .im d => d
  | .ow m => m.d
def R.ent : R → Ent
  | .im d => .im d
  | .ow m => .ow m
abbrev M (α : Type) := Gam → Option (α × Gam)

/-- the object at an address is that thing -/
def MobO (K : PySem.W.Frag) (Hs : Hp) : Mob → HO → Prop
  | .l ds, o => ∃ vs, o = .lst vs ∧ DRs K Hs vs ds
  | .o c ds, o => ∃ C dx fs, CAt K c C ∧ o = .ins C dx fs ∧ fs.map (·.1) = (cAttrs c).take ds.length ∧ DRs K Hs (fs.map (·.2)) ds
theorem MobO.mono {K : PySem.W.Frag} {H H' : Hp} (e : Same H H') {m : Mob} {o : HO} (h : MobO K H m o) : MobO K H' m o := by
  cases m with
  | l ds =>
    obtain ⟨vs, h1, h2⟩ := h
    exact ⟨vs, h1, h2.mono e⟩
  | o c ds =>
    obtain ⟨C, dx, fs, h1, h2, h3, h4⟩ := h
    exact ⟨C, dx, fs, h1, h2, h3, h4.mono e⟩
theorem MobO.dr {K : PySem.W.Frag} {H : Hp} {m : Mob} {o : HO} {a : Addr} (h : MobO K H m o) (ha : H a = some o) : DR K H (.ref a) m.d := by
  cases m with
  | l ds =>
    obtain ⟨vs, rfl, h2⟩ := h
    exact .lst ha h2
  | o c ds =>
    obtain ⟨C, dx, fs, h1, rfl, h3, h4⟩ := h
    exact .obj h1 ha h3 rfl h4

structure Rel (K : PySem.W.Frag) (Fz : Hp) (ba : Nat → Addr) (G : Gam) (σ : L2.St) (H Hs : Hp) : Prop where
  sub : Same Hs H
  fz : ∀ a o, Fz a = some o → H a = some o ∧ Hs a = none
  len : σ.length = G.length
  im : ∀ (i : Nat) (d : D), G[i]? = some (.im d) → ∃ v, σ[i]? = some (some v) ∧ DR K Hs v d
  mu : ∀ (i : Nat) (e : Ent) (m : Mob), G[i]? = some e → e.mu = some m → ∃ l o, σ[i]? = some (some (.ref l)) ∧ H l = some o ∧ Hs l = none ∧ Fz l = none ∧ MobO K Hs m o
  dj : ∀ (i j : Nat) (e e' : Ent) (l : Addr), G[i]? = some e → G[j]? = some e' → e.mu ≠ none → e'.mu ≠ none → σ[i]? = some (some (.ref l)) → σ[j]? = some (some (.ref l)) → i = j
  bx : ∀ (i : Nat) (m : Mob), G[i]? = some (.bx m) → σ[i]? = some (some (.ref (ba i)))

/-- more was laid, nothing that stood was touched; what is hidden stays hidden -/
structure Ext (H Hs H' Hs' : Hp) : Prop where
  a : Same H H'
  b : Same Hs Hs'
  c : Same Hs' H'
  n : ∀ x o, H x = some o → Hs x = none → Hs' x = none
theorem Ext.refl {H Hs : Hp} (s : Same Hs H) : Ext H Hs H Hs := ⟨Same.refl _, Same.refl _, s, fun _ _ _ h => h⟩
theorem Ext.trans {H Hs H1 Hs1 H2 Hs2 : Hp} (p : Ext H Hs H1 Hs1) (q : Ext H1 Hs1 H2 Hs2) : Ext H Hs H2 Hs2 :=
  ⟨p.a.trans q.a, p.b.trans q.b, q.c, fun x o h1 h2 => q.n x o (p.a x o h1) (p.n x o h1 h2)⟩
theorem same_new {H : Hp} {p : Addr} {o : HO} (h : H p = none) : Same H (upd H p o) := fun a u e => by
  rw [upd_ne (ne_of_none e h)]
  exact e
theorem none_sub {Hs H : Hp} (s : Same Hs H) {p : Addr} (h : H p = none) : Hs p = none := s.free h
theorem same_upd2 {Hs H : Hp} (s : Same Hs H) {p : Addr} {o : HO} : Same (upd Hs p o) (upd H p o) := fun a u e => by
  by_cases z : a = p
  · subst z
    rw [upd_same] at e ⊢
    exact e
  · rw [upd_ne z] at e ⊢
    exact s a u e
theorem Ext.new {H Hs : Hp} {p : Addr} {o : HO} (s : Same Hs H) (h : H p = none) : Ext H Hs (upd H p o) (upd Hs p o) :=
  ⟨same_new h, same_new (none_sub s h), same_upd2 s, fun x u h1 h2 => by rw [upd_ne (ne_of_none h1 h)]; exact h2⟩
theorem Ext.hid {H Hs : Hp} {p : Addr} {o : HO} (s : Same Hs H) (h : H p = none) : Ext H Hs (upd H p o) Hs :=
  ⟨same_new h, Same.refl _, s.trans (same_new h), fun x u _ h2 => h2⟩

section
variable {K : PySem.W.Frag} {Fz : Hp} {ba : Nat → Addr} {G : Gam} {σ : L2.St} {H Hs H' Hs' : Hp}
theorem Rel.ext (r : Rel K Fz ba G σ H Hs) (e : Ext H Hs H' Hs') : Rel K Fz ba G σ H' Hs' where
  sub := e.c
  fz := fun a o h => let ⟨h1, h2⟩ := r.fz a o h; ⟨e.a a o h1, e.n a o h1 h2⟩
  len := r.len
  im := fun i d h => let ⟨v, h1, h2⟩ := r.im i d h; ⟨v, h1, h2.mono e.b⟩
  mu := fun i en ds h h0 => let ⟨l, vs, h1, h2, h3, h4, h5⟩ := r.mu i en ds h h0; ⟨l, vs, h1, e.a l _ h2, e.n l _ h2 h3, h4, h5.mono e.b⟩
  dj := r.dj
  bx := r.bx

def Res (K : PySem.W.Frag) (Fz : Hp) (G : Gam) (σ : L2.St) (H Hs : Hp) (v : V) : R → Prop
  | .im d => DR K Hs v d
  | .ow m => ∃ p o, v = .ref p ∧ H p = some o ∧ Hs p = none ∧ Fz p = none ∧ MobO K Hs m o ∧ ∀ (i : Nat) (e : Ent), G[i]? = some e → e.mu ≠ none → σ[i]? ≠ some (some (.ref p))

/-- an owned object becomes a shared one -/
theorem Rel.froze (r : Rel K Fz ba G σ H Hs) {p : Addr} {o : HO} (h : H p = some o) (hs : Hs p = none) (hf : Fz p = none) (hn : ∀ (i : Nat) (e : Ent), G[i]? = some e → e.mu ≠ none → σ[i]? ≠ some (some (.ref p))) :
    Rel K Fz ba G σ H (upd Hs p o) ∧ Same Hs (upd Hs p o) := by
  have sm : Same Hs (upd Hs p o) := same_new hs
  refine ⟨⟨fun a u e => ?_, fun a u e => ?_, r.len, fun i d e => ?_, fun i en ds e e0 => ?_, r.dj, r.bx⟩, sm⟩
  · by_cases z : a = p
    · subst z
      rw [upd_same] at e
      rw [h]
      exact e
    · rw [upd_ne z] at e
      exact r.sub a u e
  · obtain ⟨h1, h2⟩ := r.fz a u e
    refine ⟨h1, ?_⟩
    rw [upd_ne (ne_of_none e hf)]
    exact h2
  · obtain ⟨v, h1, h2⟩ := r.im i d e
    exact ⟨v, h1, h2.mono sm⟩
  · obtain ⟨l, vs, h1, h2, h3, h4, h5⟩ := r.mu i en ds e e0
    refine ⟨l, vs, h1, h2, ?_, h4, h5.mono sm⟩
    have z : l ≠ p := by
      intro z
      subst z
      exact hn i en e (by rw [e0]; simp) h1
    rw [upd_ne z]
    exact h3
theorem Rel.fzr (r : Rel K Fz ba G σ H Hs) {v : V} {x : R} (h : Res K Fz G σ H Hs v x) : ∃ Hs', Rel K Fz ba G σ H Hs' ∧ Same Hs Hs' ∧ DR K Hs' v x.d := by
  cases x with
  | im d => exact ⟨Hs, r, Same.refl _, h⟩
  | ow ds =>
    obtain ⟨p, vs, rfl, h1, h2, h3, h4, h5⟩ := h
    obtain ⟨q1, q2⟩ := r.froze h1 h2 h3 h5
    exact ⟨_, q1, q2, (h4.mono q2).dr upd_same⟩
theorem get_set {α : Type} {l : List α} {i j : Nat} {a b : α} (h : (l.set i a)[j]? = some b) : (i = j ∧ b = a ∧ i < l.length) ∨ (i ≠ j ∧ l[j]? = some b) := by
  by_cases z : i = j
  · subst z
    by_cases hi : i < l.length
    · rw [List.getElem?_set_self hi] at h
      cases h
      exact .inl ⟨rfl, rfl, hi⟩
    · rw [List.getElem?_eq_none (by simp; omega)] at h
      cases h
  · rw [List.getElem?_set_ne z] at h
    exact .inr ⟨z, h⟩
/-- a name is stored -/
theorem Rel.set (r : Rel K Fz ba G σ H Hs) {i : Nat} {v : V} {x : R} (h : Res K Fz G σ H Hs v x) : Rel K Fz ba (G.set i x.ent) (σ.set i (some v)) H Hs where
  sub := r.sub
  fz := r.fz
  len := by rw [List.length_set, List.length_set]; exact r.len
  im := fun j d e => by
    rcases get_set e with ⟨rfl, e1, hi⟩ | ⟨z, e1⟩
    · refine ⟨v, by rw [List.getElem?_set_self (by rw [r.len]; exact hi)], ?_⟩
      cases x with
      | im d' => cases e1; exact h
      | ow ds => cases e1
    · obtain ⟨v', h1, h2⟩ := r.im j d e1
      exact ⟨v', by rw [List.getElem?_set_ne z]; exact h1, h2⟩
  mu := fun j en ds e e0 => by
    rcases get_set e with ⟨rfl, e1, hi⟩ | ⟨z, e1⟩
    · cases x with
      | im d' => subst e1; cases e0
      | ow ds' =>
        subst e1
        cases e0
        obtain ⟨p, vs, rfl, h1, h2, h3, h4, _⟩ := h
        exact ⟨p, vs, by rw [List.getElem?_set_self (by rw [r.len]; exact hi)], h1, h2, h3, h4⟩
    · obtain ⟨l, vs, h1, h2⟩ := r.mu j en ds e1 e0
      exact ⟨l, vs, by rw [List.getElem?_set_ne z]; exact h1, h2⟩
  dj := fun j k e e' l h1 h2 m1 m2 s1 s2 => by
    rcases get_set h1 with ⟨z1, e1, hi⟩ | ⟨z1, e1⟩
    · rcases get_set h2 with ⟨z2, e2, _⟩ | ⟨z2, e2⟩
      · exact z1.symm.trans z2
      · exfalso
        subst z1
        rw [List.getElem?_set_self (by rw [r.len]; exact hi)] at s1
        rw [List.getElem?_set_ne z2] at s2
        cases s1
        cases x with
        | im d' => subst e1; exact m1 rfl
        | ow ds' =>
          obtain ⟨p, vs, q, _, _, _, _, q2⟩ := h
          cases q
          exact q2 k e' e2 m2 s2
    · rcases get_set h2 with ⟨z2, e2, hi⟩ | ⟨z2, e2⟩
      · exfalso
        subst z2
        rw [List.getElem?_set_self (by rw [r.len]; exact hi)] at s2
        rw [List.getElem?_set_ne z1] at s1
        cases s2
        cases x with
        | im d' => subst e2; exact m2 rfl
        | ow ds' =>
          obtain ⟨p, vs, q, _, _, _, _, q2⟩ := h
          cases q
          exact q2 j e e1 m1 s1
      · rw [List.getElem?_set_ne z1] at s1
        rw [List.getElem?_set_ne z2] at s2
        exact r.dj j k e e' l e1 e2 m1 m2 s1 s2
  bx := fun j ds e => by
    rcases get_set e with ⟨_, e1, _⟩ | ⟨z, e1⟩
    · cases x <;> cases e1
    · rw [List.getElem?_set_ne z]
      exact r.bx j ds e1
/-- a slot is forgotten -/
theorem Rel.forget (r : Rel K Fz ba G σ H Hs) (i : Nat) : Rel K Fz ba (G.set i .un) (σ.set i none) H Hs where
  sub := r.sub
  fz := r.fz
  len := by rw [List.length_set, List.length_set]; exact r.len
  im := fun j d e => by
    rcases get_set e with ⟨_, e1, _⟩ | ⟨z, e1⟩
    · cases e1
    · rw [List.getElem?_set_ne z]
      exact r.im j d e1
  mu := fun j en ds e e0 => by
    rcases get_set e with ⟨_, e1, _⟩ | ⟨z, e1⟩
    · subst e1; cases e0
    · rw [List.getElem?_set_ne z]
      exact r.mu j en ds e1 e0
  dj := fun j k e e' l h1 h2 m1 m2 s1 s2 => by
    rcases get_set h1 with ⟨_, e1, _⟩ | ⟨z1, e1⟩
    · subst e1; exact absurd rfl m1
    · rcases get_set h2 with ⟨_, e2, _⟩ | ⟨z2, e2⟩
      · subst e2; exact absurd rfl m2
      · rw [List.getElem?_set_ne z1] at s1
        rw [List.getElem?_set_ne z2] at s2
        exact r.dj j k e e' l e1 e2 m1 m2 s1 s2
  bx := fun j ds e => by
    rcases get_set e with ⟨_, e1, _⟩ | ⟨z, e1⟩
    · cases e1
    · rw [List.getElem?_set_ne z]
      exact r.bx j ds e1
end

/-! ## readings that compute on data -/
def GOk (K : PySem.W.Frag) (t : TE) (f : M R) : Prop := ∀ Fz ba G σ H Hs r G', Rel K Fz ba G σ H Hs → f G = some (r, G') →
  ∀ Q : VK, (∀ v H' Hs', Rel K Fz ba G' σ H' Hs' → Same Hs Hs' → Res K Fz G' σ H' Hs' v r → Q v H') → t σ H Q
def TOk (K : PySem.W.Frag) (t : TT) (f : M Bool) : Prop := ∀ Fz ba G σ H Hs b G', Rel K Fz ba G σ H Hs → f G = some (b, G') →
  ∀ Q : Bool → Hp → Prop, (∀ H' Hs', Rel K Fz ba G' σ H' Hs' → Same Hs Hs' → Q b H') → t σ H Q
def AOk (K : PySem.W.Frag) (t : TA) (f : M (List D)) : Prop := ∀ Fz ba G σ H Hs ds G', Rel K Fz ba G σ H Hs → f G = some (ds, G') →
  ∀ Q : List V → Hp → Prop, (∀ vs H' Hs', Rel K Fz ba G' σ H' Hs' → Same Hs Hs' → DRs K Hs' vs ds → Q vs H') → t σ H Q
inductive Fl where
  | nx | bk | ct | rt (r : R)
abbrev MS := Gam → Option (Fl × Gam)
def Post (K : PySem.W.Frag) (Fz : Hp) (ba : Nat → Addr) (G' : Gam) (Hs : Hp) (Dn : Ends) : Fl → Prop
  | .nx => ∀ σ' H' Hs', Rel K Fz ba G' σ' H' Hs' → Same Hs Hs' → Dn.nx σ' H'
  | .bk => ∀ σ' H' Hs', Rel K Fz ba G' σ' H' Hs' → Same Hs Hs' → Dn.bk σ' H'
  | .ct => ∀ σ' H' Hs', Rel K Fz ba G' σ' H' Hs' → Same Hs Hs' → Dn.ct σ' H'
  | .rt r => ∀ v σ' H' Hs', Rel K Fz ba G' σ' H' Hs' → Same Hs Hs' → Res K Fz G' σ' H' Hs' v r → Dn.rt v H'
def SOk (K : PySem.W.Frag) (t : TS) (f : MS) : Prop := ∀ Fz ba G σ H Hs fl G', Rel K Fz ba G σ H Hs → f G = some (fl, G') → ∀ Dn : Ends, Post K Fz ba G' Hs Dn fl → t Dn σ H
theorem Post.mono {K : PySem.W.Frag} {Fz : Hp} {ba : Nat → Addr} {G' : Gam} {Hs Hs1 : Hp} {Dn : Ends} {fl : Fl} (h : Post K Fz ba G' Hs Dn fl) (s : Same Hs Hs1) : Post K Fz ba G' Hs1 Dn fl := by
  cases fl with
  | nx => exact fun σ' H' Hs' r q => h σ' H' Hs' r (s.trans q)
  | bk => exact fun σ' H' Hs' r q => h σ' H' Hs' r (s.trans q)
  | ct => exact fun σ' H' Hs' r q => h σ' H' Hs' r (s.trans q)
  | rt x => exact fun v σ' H' Hs' r q => h v σ' H' Hs' r (s.trans q)
/-- a target: which slots it writes -/
structure GtOk (K : PySem.W.Frag) (g : TG) (f : D → Gam → Option Gam) (js : List Nat) : Prop where
  run : ∀ Fz ba G σ H Hs v d G', Rel K Fz ba G σ H Hs → DR K Hs v d → f d G = some G' → ∀ Q : L2.St → Hp → Prop, (∀ σ', Rel K Fz ba G' σ' H Hs → σ'.length = σ.length → (∀ i : Nat, i ∉ js → σ'[i]? = σ[i]?) → Q σ' H) → g v σ H Q
/-- an iterator gives the items ds -/
structure Yl (K : PySem.W.Frag) (J : It) (ds : List D) (Hs0 : Hp) : Prop where
  go : ∀ i H, Same Hs0 H → i < ds.length → J.go i H
  stop : ∀ i H, Same Hs0 H → ds.length ≤ i → J.stop i H
  yld : ∀ i x H H' Hs, i < ds.length → Same Hs0 Hs → Same Hs H → J.yld i H x H' → ∃ d Hs', ds[i]? = some d ∧ Ext H Hs H' Hs' ∧ DR K Hs' x d
def IOk (K : PySem.W.Frag) (w : TI) (f : M (List D)) : Prop := ∀ Fz ba G σ H Hs ds G', Rel K Fz ba G σ H Hs → f G = some (ds, G') →
  ∀ Q : It → Hp → Prop, (∀ J H' Hs', Rel K Fz ba G' σ H' Hs' → Same Hs Hs' → Yl K J ds Hs' → Q J H') → w σ H Q
/-- a result that was laid behind H -/
def ResF (K : PySem.W.Frag) (H H' Hs' : Hp) (v : V) : R → Prop
  | .im d => DR K Hs' v d
  | .ow m => ∃ p o, v = .ref p ∧ H p = none ∧ H' p = some o ∧ Hs' p = none ∧ MobO K Hs' m o
theorem ResF.res {K : PySem.W.Frag} {Fz : Hp} {ba : Nat → Addr} {G : Gam} {σ : L2.St} {H Hs H' Hs' : Hp} {v : V} {x : R} (r : Rel K Fz ba G σ H Hs) (h : ResF K H H' Hs' v x) : Res K Fz G σ H' Hs' v x := by
  cases x with
  | im d => exact h
  | ow ds =>
    obtain ⟨p, vs, rfl, h1, h2, h3, h4⟩ := h
    refine ⟨p, vs, rfl, h2, h3, ?_, h4, fun i e g m q => ?_⟩
    · cases z : Fz p with
      | none => rfl
      | some o =>
        obtain ⟨z1, _⟩ := r.fz p o z
        rw [h1] at z1
        cases z1
    · obtain ⟨ds', hd⟩ : ∃ ds', e.mu = some ds' := by
        cases z : e.mu with
        | none => exact absurd z m
        | some ds' => exact ⟨ds', rfl⟩
      obtain ⟨l, ws, q1, q2, _⟩ := r.mu i e ds' g hd
      rw [q] at q1
      cases q1
      rw [h1] at q2
      cases q2
end Bk
/-! Bk2: what each construct computes on data, and that the readings do so. -/
namespace Bk
open PySem L2

def bd {α β : Type} (x : Option (α × Gam)) (f : α → Gam → Option β) : Option β := match x with
  | none => none
  | some (a, G) => f a G
@[simp] theorem bd_none {α β : Type} {f : α → Gam → Option β} : bd (none : Option (α × Gam)) f = none := rfl
@[simp] theorem bd_some {α β : Type} {a : α} {G : Gam} {f : α → Gam → Option β} : bd (some (a, G)) f = f a G := rfl
theorem bd_inv {α β : Type} {x : Option (α × Gam)} {f : α → Gam → Option β} {r : β} (h : bd x f = some r) : ∃ a G, x = some (a, G) ∧ f a G = some r := by
  cases x with
  | none => cases h
  | some p => exact ⟨p.1, p.2, rfl, h⟩

/-! ### combinators -/
def xv (i : Nat) : M R := fun G => match G[i]? with
  | some (.im d) => some (.im d, G)
  | some (.ow m) => some (.im m.d, G.set i (.im m.d))
  | _ => none
/-- the name's list, which the name gives away -/
def xmv (i : Nat) : M R := fun G => match G[i]? with
  | some (.im d) => some (.im d, G)
  | some (.ow m) => some (.ow m, G.set i .un)
  | _ => none
def xc (d : D) : M R := fun G => some (.im d, G)
def xop (o : D → D → Option R) (a b : M R) : M R := fun G => bd (a G) fun x G1 => bd (b G1) fun y G2 => match o x.d y.d with
  | none => none
  | some r => some (r, G2)
def xun (o : D → Option R) (a : M R) : M R := fun G => bd (a G) fun x G1 => match o x.d with
  | none => none
  | some r => some (r, G1)
def xnil : M (List D) := fun G => some ([], G)
def xcons (a : M R) (r : M (List D)) : M (List D) := fun G => bd (a G) fun x G1 => bd (r G1) fun xs G2 => some (x.d :: xs, G2)
def xcb (o : List D → Option R) (a : M (List D)) : M R := fun G => bd (a G) fun xs G1 => match o xs with
  | none => none
  | some r => some (r, G1)
def few (n : Nat) : Bool := decide (n ≤ 100000)
def xtup (a : M (List D)) : M R := fun G => bd (a G) fun xs G1 => if few xs.length then some (.im (.tup xs), G1) else none
def xlst (a : M (List D)) : M R := fun G => bd (a G) fun xs G1 => if few xs.length then some (.ol xs, G1) else none
def xif (t : M Bool) (a b : M R) : M R := fun G => bd (t G) fun k G1 => if k then a G1 else b G1
def xtest (a : M R) : M Bool := fun G => bd (a G) fun x G1 => match x.d with
  | .bl b => some (b, G1)
  | _ => none
def truth : D → Option Bool
  | .non => some false
  | .bl b => some b
  | .int i => some (i != 0)
  | .str x => if few x.length then some ((x.length : Int) != 0) else none
  | .lst xs => some (!xs.isEmpty)
  | .frz xs => some (!xs.isEmpty)
  | .tup xs => some (!xs.isEmpty)
  | _ => none
def xtru (a : M R) : M Bool := fun G => bd (a G) fun x G1 => match truth x.d with
  | some b => some (b, G1)
  | none => none
def xtand (a b : M Bool) : M Bool := fun G => bd (a G) fun k G1 => if k then b G1 else some (false, G1)
def xtor (a b : M Bool) : M Bool := fun G => bd (a G) fun k G1 => if k then some (true, G1) else b G1
def xtnot (a : M Bool) : M Bool := fun G => bd (a G) fun k G1 => some (!k, G1)
def xtyes : M Bool := fun G => some (true, G)
def xvand (a b : M R) : M R := fun G => bd (a G) fun x G1 => match x.d with
  | .bl k => if k then b G1 else some (.im (.bl false), G1)
  | _ => none
def xvor (a b : M R) : M R := fun G => bd (a G) fun x G1 => match x.d with
  | .bl k => if k then some (.im (.bl true), G1) else b G1
  | _ => none
def xvnot (a : M R) : M R := fun G => bd (a G) fun x G1 => match x.d with
  | .bl k => some (.im (.bl (!k)), G1)
  | _ => none
def xchain (o o' : D → D → Option R) (a b c : M R) : M R := fun G => bd (a G) fun x G1 => bd (b G1) fun y G2 => match o x.d y.d with
  | some (.im (.bl k)) => if k then bd (c G2) fun z G3 => (match o' y.d z.d with | some r => some (r, G3) | none => none) else some (.im (.bl false), G2)
  | _ => none
/-- a slice's part -/
abbrev MO := M (Option Int)
def xnop : MO := fun G => some (none, G)
def xpart (a : M R) : MO := fun G => bd (a G) fun x G1 => match x.d with
  | .int i => some (some i, G1)
  | _ => none
def xsl (o : D → Option Int → Option Int → Option R) (a : M R) (l h : MO) : M R := fun G => bd (a G) fun x G1 => bd (l G1) fun i G2 => bd (h G2) fun j G3 => match o x.d i j with
  | some r => some (r, G3)
  | none => none
def xcall (m : List D → Option R) (a : M (List D)) : M R := fun G => bd (a G) fun xs G1 => match m xs with
  | some r => some (r, G1)
  | none => none
def Ent.with (e : Ent) (m : Mob) : Ent := match e with
  | .ow _ => .ow m
  | .bx _ => .bx m
  | e => e
/-- a call that may change the list of the name at i -/
def isMu (G : Gam) (i : Nat) : Bool := match G[i]? with
  | some e => e.mu.isSome
  | none => false
def isLst (G : Gam) (i : Nat) : Bool := match G[i]? with
  | some e => match e.mu with
    | some (.l _) => true
    | _ => false
  | none => false
def callB (m : Mob → List D → Option (R × Mob)) (i : Nat) (xs : List D) (G1 : Gam) : Option (R × Gam) := match G1[i]? with
  | some e => match e.mu with
    | some bs => match m bs xs with
      | some (r, bs') => some (r, G1.set i (e.with bs'))
      | none => none
    | none => none
  | none => none
def xcallB (m : Mob → List D → Option (R × Mob)) (i : Nat) (a : M (List D)) : M R := fun G => if isMu G i then bd (a G) fun xs G1 => callB m i xs G1 else none
/-- an item of the name's list at i, a number -/
def ixv (i : Nat) (y : D) (G1 : Gam) : Option (R × Gam) := match y, G1[i]? with
  | .int k, some e => match e.mu with
    | some (.l ds) => match atI ds k with
      | some d => some (.im d, G1)
      | none => none
    | _ => none
  | _, _ => none
def xixv (i : Nat) (b : M R) : M R := fun G => if isMu G i then bd (b G) fun y G1 => ixv i y.d G1 else none
def xlenv (i : Nat) : M R := fun G => match G[i]? with
  | some e => match e.mu with
    | some (.l ds) => some (.im (.int ds.length), G)
    | _ => none
  | none => none
/-- one way for a name that owns a list, another for a name that holds a value -/
def xby (i : Nat) (a b : M R) : M R := fun G => if isMu G i then a G else b G

/-! statements -/
def xnext : MS := fun G => some (.nx, G)
def xseq (s t : MS) : MS := fun G => match s G with
  | some (.nx, G1) => t G1
  | o => o
def xasg (a : M R) (tg : D → Gam → Option Gam) : MS := fun G => bd (a G) fun x G1 => match tg x.d G1 with
  | some G2 => some (.nx, G2)
  | none => none
def xset (i : Nat) (a : M R) : MS := fun G => bd (a G) fun x G1 => some (.nx, G1.set i x.ent)
def xpar (i j : Nat) (a : M (List D)) : MS := fun G => bd (a G) fun xs G1 => match xs with
  | [x, y] => some (.nx, (G1.set i (.im x)).set j (.im y))
  | _ => none
def xaug (i : Nat) (o : D → D → Option R) (a : M R) : MS := fun G => match G[i]? with
  | some (.im x) => bd (a G) fun y G1 => match o x y.d with
    | some r => some (.nx, G1.set i r.ent)
    | none => none
  | _ => none
def xret (a : M R) : MS := fun G => bd (a G) fun x G1 => some (.rt x, G1)
def xretN : MS := fun G => some (.rt (.im .non), G)
def xdrop (a : M R) : MS := fun G => bd (a G) fun _ G1 => some (.nx, G1)
def xifs (t : M Bool) (a b : MS) : MS := fun G => bd (t G) fun k G1 => if k then a G1 else b G1
def xbrk : MS := fun G => some (.bk, G)
def xcnt : MS := fun G => some (.ct, G)
def xnever : MS := fun _ => none
/-- the name's list grows -/
def app (i : Nat) (x : D) (G1 : Gam) : Option (Fl × Gam) := match G1[i]? with
  | some e => match e.mu with
    | some (.l ds) => if few ds.length then some (.nx, G1.set i (e.with (.l (ds ++ [x])))) else none
    | _ => none
  | none => none
def xapp (i : Nat) (a : M R) : MS := fun G => if isLst G i then bd (a G) fun x G1 => app i x.d G1 else none
/-- an item of the name's list is stored -/
def put (i : Nat) (x k : D) (G2 : Gam) : Option (Fl × Gam) := match k, G2[i]? with
  | .int k, some e => match e.mu with
    | some (.l ds) => match ixN ds.length k with
      | some j => some (.nx, G2.set i (e.with (.l (ds.set j x))))
      | none => none
    | _ => none
  | _, _ => none
def xput (i : Nat) (a b : M R) : MS := fun G => bd (a G) fun x G1 => if isMu G1 i then bd (b G1) fun k G2 => put i x.d k.d G2 else none
def xwhileN (c : M Bool) (b : MS) : Nat → MS
  | 0, _ => none
  | n + 1, G => bd (c G) fun k G1 => if k then (match b G1 with
      | some (.nx, G2) => xwhileN c b n G2
      | some (.ct, G2) => xwhileN c b n G2
      | some (.bk, G2) => some (.nx, G2)
      | some (.rt r, G2) => some (.rt r, G2)
      | none => none) else some (.nx, G1)
def xwhile (fuel : Gam → Nat) (c : M Bool) (b : MS) : MS := fun G => xwhileN c b (fuel G) G
def xforL (tg : D → Gam → Option Gam) (b : MS) : List D → MS
  | [], G => some (.nx, G)
  | d :: ds, G => match tg d G with
    | none => none
    | some G1 => match b G1 with
      | some (.nx, G2) => xforL tg b ds G2
      | some (.ct, G2) => xforL tg b ds G2
      | some (.bk, G2) => some (.nx, G2)
      | some (.rt r, G2) => some (.rt r, G2)
      | none => none
def xfor (it : M (List D)) (tg : D → Gam → Option Gam) (b : MS) : MS := fun G => bd (it G) fun ds G1 => xforL tg b ds G1

/-! targets -/
def tgn (i : Nat) : D → Gam → Option Gam := fun d G => some (G.set i (.im d))
def tgs : List (D → Gam → Option Gam) → List D → Gam → Option Gam
  | [], [], G => some G
  | t :: ts, d :: ds, G => match t d G with
    | some G1 => tgs ts ds G1
    | none => none
  | _, _, _ => none
def tgt (ts : List (D → Gam → Option Gam)) : D → Gam → Option Gam := fun d G => match d with
  | .tup ds => tgs ts ds G
  | _ => none

/-! comprehensions -/
def wipeG (G : Gam) : List Nat → Gam
  | [] => G
  | v :: vs => (wipeG G vs).set v .un
def unw (G1 G2 : Gam) : List Nat → Gam
  | [] => G2
  | v :: vs => (unw G1 G2 vs).set v (G1.getD v .un)
def noMu (G : Gam) (vs : List Nat) : Bool := vs.all fun v => match G[v]? with
  | some e => e.mu.isNone
  | none => true
def xlcL (tg : D → Gam → Option Gam) (t : M Bool) (e : M R) (vs : List Nat) : List D → M (List D)
  | [], G => some ([], G)
  | d :: ds, G => match tg d G with
    | none => none
    | some G1 => bd (t G1) fun k G2 => if k then bd (e G2) fun x G3 => bd (xlcL tg t e vs ds (wipeG G3 vs)) fun out G4 => some (x.d :: out, G4)
        else xlcL tg t e vs ds (wipeG G2 vs)
def xlc (it : M (List D)) (tg : D → Gam → Option Gam) (t : M Bool) (e : M R) (vs : List Nat) : M R := fun G => bd (it G) fun ds G1 =>
  if noMu G1 vs then bd (xlcL tg t e vs ds (wipeG G1 vs)) fun out G2 => if few out.length then some (.ol out, unw G1 G2 vs) else none else none

/-! iterables -/
def xiter (a : M R) : M (List D) := fun G => bd (a G) fun x G1 => match x.d with
  | .lst ds => some (ds, G1)
  | .frz ds => some (ds, G1)
  | _ => none
def xiterT (a : M R) : M (List D) := fun G => bd (a G) fun x G1 => match x.d with
  | .tup ds => some (ds, G1)
  | _ => none
def rng (lo : Int) (n : Nat) : List D := (List.range n).map fun (i : Nat) => .int (lo + (i : Int))
def okR (i : Int) : Bool := decide (-(2 ^ 62) ≤ i) && decide (i < 2 ^ 62)
def xrange1 (a : M (List D)) : M (List D) := fun G => bd (a G) fun xs G1 => match xs with
  | [.int n] => if okR n then some (rng 0 n.toNat, G1) else none
  | _ => none
def xrange2 (a : M (List D)) : M (List D) := fun G => bd (a G) fun xs G1 => match xs with
  | [.int l, .int n] => if okR l && okR n then some (rng l (n - l).toNat, G1) else none
  | _ => none
def asL : D → Option (List D)
  | .lst ds => some ds
  | .frz ds => some ds
  | _ => none
def xzip (a : M (List D)) : M (List D) := fun G => bd (a G) fun xs G1 => match xs with
  | [x, y] => match asL x, asL y with
    | some ds, some es => some ((ds.zip es).map fun p => .tup [p.1, p.2], G1)
    | _, _ => none
  | _ => none
def enumD (k : Nat) : List D → List D
  | [] => []
  | d :: ds => .tup [.int (k : Int), d] :: enumD (k + 1) ds
def xenum (a : M (List D)) : M (List D) := fun G => bd (a G) fun xs G1 => match xs with
  | [x] => match asL x with
    | some ds => some (enumD 0 ds, G1)
    | none => none
  | _ => none

/-! ### the readings -/
section
variable {K : PySem.W.Frag}
theorem few_ok {n : Nat} (h : few n = true) : n ≤ sizeLine := Nat.le_trans (of_decide_eq_true h) (by decide)
theorem few_lt {n : Nat} (h : few n = true) : n < sizeLine := Nat.lt_of_le_of_lt (of_decide_eq_true h) (by decide)

/-- an expression, its value shared -/
theorem GOk.im {t : TE} {f : M R} (h : GOk K t f) {Fz : Hp} {ba : Nat → Addr} {G : Gam} {σ : L2.St} {H Hs : Hp} {r : R} {G' : Gam} (q : Rel K Fz ba G σ H Hs) (e : f G = some (r, G')) {Q : VK}
    (k : ∀ v H' Hs', Rel K Fz ba G' σ H' Hs' → Same Hs Hs' → DR K Hs' v r.d → Q v H') : t σ H Q :=
  h Fz ba G σ H Hs r G' q e Q fun v H' Hs' q' s x => by
    obtain ⟨Hs2, q2, s2, d⟩ := q'.fzr x
    exact k v H' Hs2 q2 (s.trans s2) d

theorem gk_c {v : V} {d : D} (h : ∀ H, DR K H v d) : GOk K (tC v) (xc d) := fun Fz ba G σ H Hs r G' q e Q k => by
  cases e
  exact k v H Hs q (Same.refl _) (h Hs)
theorem gk_int {i : Int} : GOk K (tC (.int i)) (xc (.int i)) := gk_c fun _ => .int i
theorem gk_bl {b : Bool} : GOk K (tC (.bl b)) (xc (.bl b)) := gk_c fun _ => .bl b
theorem gk_non : GOk K (tC .non) (xc .non) := gk_c fun _ => .non
theorem gk_str {x : PySem.Str} : GOk K (tC (.str x)) (xc (.str x)) := gk_c fun _ => .str x
theorem same_frz {Hs : Hp} {p : Addr} {o : HO} (h : Hs p = none) : Same Hs (upd Hs p o) := same_new h
theorem Rel.notmu {Fz : Hp} {ba : Nat → Addr} {G : Gam} {σ : L2.St} {H Hs : Hp} (q : Rel K Fz ba G σ H Hs) {i : Nat} {e e2 : Ent} {l : Addr} (h1 : G[i]? = some e) (m1 : e.mu ≠ none) (s1 : σ[i]? = some (some (.ref l))) :
    ∀ (j : Nat) (e' : Ent), (G.set i e2)[j]? = some e' → e2.mu = none → e'.mu ≠ none → σ[j]? ≠ some (some (.ref l)) := fun j e' h2 m0 m2 s2 => by
  rcases get_set h2 with ⟨_, e1, _⟩ | ⟨z, h3⟩
  · subst e1; exact m2 m0
  · exact z (q.dj i j e e' l h1 h3 m1 m2 s1 s2)
/-- the entry at i is another, that owns nothing -/
theorem Rel.re {Fz : Hp} {ba : Nat → Addr} {G : Gam} {σ : L2.St} {H Hs : Hp} (q : Rel K Fz ba G σ H Hs) {i : Nat} {e : Ent} (m : e.mu = none) (h : ∀ d, e = .im d → ∃ v, σ[i]? = some (some v) ∧ DR K Hs v d) : Rel K Fz ba (G.set i e) σ H Hs where
  sub := q.sub
  fz := q.fz
  len := by rw [List.length_set]; exact q.len
  im := fun j d h1 => by
    rcases get_set h1 with ⟨rfl, e1, _⟩ | ⟨z, h2⟩
    · exact h d e1.symm
    · exact q.im j d h2
  mu := fun j en ds h1 h0 => by
    rcases get_set h1 with ⟨rfl, e1, _⟩ | ⟨z, h2⟩
    · subst e1; rw [m] at h0; cases h0
    · exact q.mu j en ds h2 h0
  dj := fun j k e1 e2 l h1 h2 m1 m2 s1 s2 => by
    rcases get_set h1 with ⟨_, z1, _⟩ | ⟨z1, h1⟩
    · subst z1; exact absurd m m1
    · rcases get_set h2 with ⟨_, z2, _⟩ | ⟨z2, h2⟩
      · subst z2; exact absurd m m2
      · exact q.dj j k e1 e2 l h1 h2 m1 m2 s1 s2
  bx := fun j ds h1 => by
    rcases get_set h1 with ⟨_, e1, _⟩ | ⟨z, h2⟩
    · subst e1; cases m
    · exact q.bx j ds h2
theorem gk_var {i : Nat} : GOk K (tVar i) (xv i) := fun Fz ba G σ H Hs r G' q e Q k => by
  unfold xv at e
  cases h : G[i]? with
  | none => rw [h] at e; cases e
  | some en =>
    rw [h] at e
    cases en with
    | un => cases e
    | bx ds => cases e
    | im d =>
      cases e
      obtain ⟨v, h1, h2⟩ := q.im i d h
      exact ⟨v, h1, k v H Hs q (Same.refl _) h2⟩
    | ow ds =>
      cases e
      obtain ⟨l, vs, h1, h2, h3, h4, h5⟩ := q.mu i _ ds h rfl
      have q1 : Rel K Fz ba (G.set i .un) σ H Hs := q.re rfl fun d z => nomatch z
      obtain ⟨q2, s2⟩ := q1.froze h2 h3 h4 fun j e' g m => q.notmu h (by simp [Ent.mu]) h1 j e' g rfl m
      have q3 : Rel K Fz ba ((G.set i .un).set i (.im ds.d)) σ H (upd Hs l vs) := q2.re rfl fun d z => by
        cases z
        exact ⟨_, h1, (h5.mono s2).dr upd_same⟩
      rw [List.set_set] at q3
      exact ⟨_, h1, k _ H _ q3 s2 ((h5.mono s2).dr upd_same)⟩
theorem gk_mv {i : Nat} : GOk K (tVar i) (xmv i) := fun Fz ba G σ H Hs r G' q e Q k => by
  unfold xmv at e
  cases h : G[i]? with
  | none => rw [h] at e; cases e
  | some en =>
    rw [h] at e
    cases en with
    | un => cases e
    | bx ds => cases e
    | im d =>
      cases e
      obtain ⟨v, h1, h2⟩ := q.im i d h
      exact ⟨v, h1, k v H Hs q (Same.refl _) h2⟩
    | ow ds =>
      cases e
      obtain ⟨l, vs, h1, h2, h3, h4, h5⟩ := q.mu i _ ds h rfl
      have q1 : Rel K Fz ba (G.set i .un) σ H Hs := q.re rfl fun d z => nomatch z
      exact ⟨_, h1, k _ H Hs q1 (Same.refl _) ⟨l, vs, rfl, h2, h3, h4, h5, fun j e' g m => q.notmu h (by simp [Ent.mu]) h1 j e' g rfl m⟩⟩

def OpD (K : PySem.W.Frag) (r : R2) (o : D → D → Option R) : Prop := ∀ H Hs x y dx dy res, Same Hs H → DR K Hs x dx → DR K Hs y dy → o dx dy = some res →
  ∀ Q : VK, (∀ v H' Hs', Ext H Hs H' Hs' → ResF K H H' Hs' v res → Q v H') → r x y H Q
def UnD (K : PySem.W.Frag) (r : V → Hp → VK → Prop) (o : D → Option R) : Prop := ∀ H Hs x dx res, Same Hs H → DR K Hs x dx → o dx = some res →
  ∀ Q : VK, (∀ v H' Hs', Ext H Hs H' Hs' → ResF K H H' Hs' v res → Q v H') → r x H Q
def CbD (K : PySem.W.Frag) (r : List V → Hp → VK → Prop) (o : List D → Option R) : Prop := ∀ H Hs xs ds res, Same Hs H → DRs K Hs xs ds → o ds = some res →
  ∀ Q : VK, (∀ v H' Hs', Ext H Hs H' Hs' → ResF K H H' Hs' v res → Q v H') → r xs H Q
def SlD (K : PySem.W.Frag) (r : V → Option Int → Option Int → Hp → VK → Prop) (o : D → Option Int → Option Int → Option R) : Prop := ∀ H Hs x dx l h res, Same Hs H → DR K Hs x dx → o dx l h = some res →
  ∀ Q : VK, (∀ v H' Hs', Ext H Hs H' Hs' → ResF K H H' Hs' v res → Q v H') → r x l h H Q

theorem gk_op {r : R2} {o : D → D → Option R} {ta tb : TE} {a b : M R} (ho : OpD K r o) (ha : GOk K ta a) (hb : GOk K tb b) : GOk K (tOp r ta tb) (xop o a b) := fun Fz ba G σ H Hs res G' q e Q k => by
  obtain ⟨x, G1, e1, e⟩ := bd_inv e
  obtain ⟨y, G2, e2, e⟩ := bd_inv e
  cases h : o x.d y.d with
  | none => rw [h] at e; cases e
  | some r' =>
    rw [h] at e
    cases e
    refine ha.im q e1 fun v1 H1 Hs1 q1 s1 d1 => ?_
    refine hb.im q1 e2 fun v2 H2 Hs2 q2 s2 d2 => ?_
    exact ho H2 Hs2 v1 v2 x.d y.d _ q2.sub (d1.mono s2) d2 h Q fun v H3 Hs3 ex rf => k v H3 Hs3 (q2.ext ex) ((s1.trans s2).trans ex.b) (rf.res q2)
theorem gk_un {r : V → Hp → VK → Prop} {o : D → Option R} {ta : TE} {a : M R} (ho : UnD K r o) (ha : GOk K ta a) : GOk K (tUn r ta) (xun o a) := fun Fz ba G σ H Hs res G' q e Q k => by
  obtain ⟨x, G1, e1, e⟩ := bd_inv e
  cases h : o x.d with
  | none => rw [h] at e; cases e
  | some r' =>
    rw [h] at e
    cases e
    refine ha.im q e1 fun v1 H1 Hs1 q1 s1 d1 => ?_
    exact ho H1 Hs1 v1 x.d _ q1.sub d1 h Q fun v H3 Hs3 ex rf => k v H3 Hs3 (q1.ext ex) (s1.trans ex.b) (rf.res q1)
theorem ak_nil : AOk K tNil xnil := fun Fz ba G σ H Hs ds G' q e Q k => by
  cases e
  exact k [] H Hs q (Same.refl _) .nil
theorem ak_cons {ta : TE} {tr : TA} {a : M R} {r : M (List D)} (ha : GOk K ta a) (hr : AOk K tr r) : AOk K (tCons ta tr) (xcons a r) := fun Fz ba G σ H Hs ds G' q e Q k => by
  obtain ⟨x, G1, e1, e⟩ := bd_inv e
  obtain ⟨xs, G2, e2, e⟩ := bd_inv e
  cases e
  refine ha.im q e1 fun v1 H1 Hs1 q1 s1 d1 => ?_
  exact hr Fz ba G1 σ H1 Hs1 xs _ q1 e2 _ fun vs H2 Hs2 q2 s2 d2 => k _ H2 Hs2 q2 (s1.trans s2) (.cons (d1.mono s2) d2)
theorem gk_cb {r : List V → Hp → VK → Prop} {o : List D → Option R} {ta : TA} {a : M (List D)} (ho : CbD K r o) (ha : AOk K ta a) : GOk K (tCB r ta) (xcb o a) := fun Fz ba G σ H Hs res G' q e Q k => by
  obtain ⟨xs, G1, e1, e⟩ := bd_inv e
  cases h : o xs with
  | none => rw [h] at e; cases e
  | some r' =>
    rw [h] at e
    cases e
    refine ha Fz ba G σ H Hs xs _ q e1 _ fun vs H1 Hs1 q1 s1 d1 => ?_
    exact ho H1 Hs1 vs xs _ q1.sub d1 h Q fun v H3 Hs3 ex rf => k v H3 Hs3 (q1.ext ex) (s1.trans ex.b) (rf.res q1)
theorem gk_tup {ta : TA} {a : M (List D)} (ha : AOk K ta a) : GOk K (tTup ta) (xtup a) := fun Fz ba G σ H Hs res G' q e Q k => by
  obtain ⟨xs, G1, e1, e⟩ := bd_inv e
  split at e
  · rename_i hf
    cases e
    refine ha Fz ba G σ H Hs xs _ q e1 _ fun vs H1 Hs1 q1 s1 d1 => ⟨by rw [d1.len]; exact few_ok hf, fun p hp => ?_⟩
    have ex : Ext H1 Hs1 (upd H1 p (.tup vs)) (upd Hs1 p (.tup vs)) := Ext.new q1.sub hp
    exact k _ _ _ (q1.ext ex) (s1.trans ex.b) (.tup (SqT.of upd_same) (d1.mono ex.b))
  · cases e
theorem gk_lst {ta : TA} {a : M (List D)} (ha : AOk K ta a) : GOk K (tLst ta) (xlst a) := fun Fz ba G σ H Hs res G' q e Q k => by
  obtain ⟨xs, G1, e1, e⟩ := bd_inv e
  split at e
  · rename_i hf
    cases e
    refine ha Fz ba G σ H Hs xs _ q e1 _ fun vs H1 Hs1 q1 s1 d1 => ⟨by rw [d1.len]; exact few_ok hf, fun p hp => ?_⟩
    have ex : Ext H1 Hs1 (upd H1 p (.lst vs)) Hs1 := Ext.hid q1.sub hp
    have rf : ResF K H1 (upd H1 p (.lst vs)) Hs1 (.ref p) (.ol xs) := ⟨p, _, rfl, hp, upd_same, none_sub q1.sub hp, vs, rfl, d1⟩
    exact k _ _ _ (q1.ext ex) (s1.trans ex.b) (rf.res q1)
  · cases e
theorem gk_if {t : TT} {ta tb : TE} {c : M Bool} {a b : M R} (hc : TOk K t c) (ha : GOk K ta a) (hb : GOk K tb b) : GOk K (tIf t ta tb) (xif c a b) := fun Fz ba G σ H Hs res G' q e Q k => by
  obtain ⟨x, G1, e1, e⟩ := bd_inv e
  refine hc Fz ba G σ H Hs x G1 q e1 _ fun H1 Hs1 q1 s1 => ?_
  cases x with
  | true => exact ha Fz ba G1 σ H1 Hs1 res G' q1 e Q fun v H2 Hs2 q2 s2 d => k v H2 Hs2 q2 (s1.trans s2) d
  | false => exact hb Fz ba G1 σ H1 Hs1 res G' q1 e Q fun v H2 Hs2 q2 s2 d => k v H2 Hs2 q2 (s1.trans s2) d
theorem dr_bl {H : Hp} {v : V} {b : Bool} (h : DR K H v (.bl b)) : v = .bl b := by cases h; rfl
theorem dr_int {H : Hp} {v : V} {i : Int} (h : DR K H v (.int i)) : v = .int i := by cases h; rfl
theorem tk_test {ta : TE} {a : M R} (ha : GOk K ta a) : TOk K (tTest ta) (xtest a) := fun Fz ba G σ H Hs b G' q e Q k => by
  obtain ⟨x, G1, e1, e⟩ := bd_inv e
  refine ha.im q e1 fun v H1 Hs1 q1 s1 d => ?_
  cases h : x.d with
  | bl c =>
    rw [h] at e d
    cases e
    exact ⟨_, dr_bl d, k H1 Hs1 q1 s1⟩
  | _ => rw [h] at e; cases e
theorem tk_B {ta : TE} {a : M R} (ha : GOk K ta a) : TOk K (tB ta) (xtest a) := tk_test ha
theorem truth_ok {H : Hp} {v : V} {d : D} {b : Bool} (h : DR K H v d) (e : truth d = some b) : TruV K v H b := by
  have emp : ∀ {vs : List V} {ds : List D}, DRs K H vs ds → (!ds.isEmpty) = !vs.isEmpty := fun h => by cases h <;> rfl
  cases h with
  | non => cases e; rfl
  | bl b => cases e; rfl
  | int i => cases e; rfl
  | str x =>
    by_cases hf : few x.length = true
    · rw [show truth (.str x) = some ((x.length : Int) != 0) from if_pos hf] at e
      cases e
      exact ⟨few_ok hf, rfl⟩
    · rw [show truth (.str x) = none from if_neg hf] at e
      cases e
  | lst h hs => cases e; exact .inl ⟨_, SqL.of h, emp hs⟩
  | frz h hs => cases e; exact .inl ⟨_, h, emp hs⟩
  | tup h hs => cases e; exact .inr (.inl ⟨_, h, emp hs⟩)
  | _ => cases e
theorem tru_mono {x : V} {H H' : Hp} {k : Bool} (s : Same H H') (h : TruV K x H k) : TruV K x H' k := by
  cases x with
  | ref p =>
    rcases h with ⟨xs, h1, h2⟩ | ⟨xs, h1, h2⟩ | ⟨kvs, h1, h2⟩
    · exact .inl ⟨xs, same_lst s h1, h2⟩
    · exact .inr (.inl ⟨xs, same_tup s h1, h2⟩)
    · exact .inr (.inr ⟨kvs, s _ _ h1, h2⟩)
  | _ => exact h
theorem tk_tru {ta : TE} {a : M R} (ha : GOk K ta a) : TOk K (fun σ H Q => ta σ H fun x H' => ∃ k, TruV K x H' k ∧ Q k H') (xtru a) := fun Fz ba G σ H Hs b G' q e Q k => by
  obtain ⟨x, G1, e1, e⟩ := bd_inv e
  refine ha.im q e1 fun v H1 Hs1 q1 s1 d => ?_
  cases h : truth x.d with
  | none => rw [h] at e; cases e
  | some c =>
    rw [h] at e
    cases e
    exact ⟨_, tru_mono q1.sub (truth_ok d h), k H1 Hs1 q1 s1⟩
theorem tk_and {t u : TT} {a b : M Bool} (ha : TOk K t a) (hb : TOk K u b) : TOk K (tAnd t u) (xtand a b) := fun Fz ba G σ H Hs r G' q e Q k => by
  obtain ⟨x, G1, e1, e⟩ := bd_inv e
  refine ha Fz ba G σ H Hs x G1 q e1 _ fun H1 Hs1 q1 s1 => ?_
  cases x with
  | true => exact hb Fz ba G1 σ H1 Hs1 r G' q1 e Q fun H2 Hs2 q2 s2 => k H2 Hs2 q2 (s1.trans s2)
  | false => cases e; exact k H1 Hs1 q1 s1
theorem tk_or {t u : TT} {a b : M Bool} (ha : TOk K t a) (hb : TOk K u b) : TOk K (tOr t u) (xtor a b) := fun Fz ba G σ H Hs r G' q e Q k => by
  obtain ⟨x, G1, e1, e⟩ := bd_inv e
  refine ha Fz ba G σ H Hs x G1 q e1 _ fun H1 Hs1 q1 s1 => ?_
  cases x with
  | true => cases e; exact k H1 Hs1 q1 s1
  | false => exact hb Fz ba G1 σ H1 Hs1 r G' q1 e Q fun H2 Hs2 q2 s2 => k H2 Hs2 q2 (s1.trans s2)
theorem tk_not {t : TT} {a : M Bool} (ha : TOk K t a) : TOk K (tNot t) (xtnot a) := fun Fz ba G σ H Hs r G' q e Q k => by
  obtain ⟨x, G1, e1, e⟩ := bd_inv e
  cases e
  exact ha Fz ba G σ H Hs x _ q e1 _ fun H1 Hs1 q1 s1 => k H1 Hs1 q1 s1
theorem tk_yes : TOk K tYes xtyes := fun Fz ba G σ H Hs r G' q e Q k => by
  cases e
  exact k H Hs q (Same.refl _)
theorem gk_vand {ta tb : TE} {a b : M R} (ha : GOk K ta a) (hb : GOk K tb b) : GOk K (tAndV ta tb) (xvand a b) := fun Fz ba G σ H Hs res G' q e Q k => by
  obtain ⟨x, G1, e1, e⟩ := bd_inv e
  refine ha.im q e1 fun v H1 Hs1 q1 s1 d => ?_
  cases h : x.d with
  | bl c =>
    rw [h] at e d
    refine ⟨c, dr_bl d, ?_⟩
    cases c with
    | true => exact hb Fz ba G1 σ H1 Hs1 res G' q1 e Q fun v H2 Hs2 q2 s2 d => k v H2 Hs2 q2 (s1.trans s2) d
    | false => cases e; exact k _ H1 Hs1 q1 s1 (.bl false)
  | _ => rw [h] at e; cases e
theorem gk_vor {ta tb : TE} {a b : M R} (ha : GOk K ta a) (hb : GOk K tb b) : GOk K (tOrV ta tb) (xvor a b) := fun Fz ba G σ H Hs res G' q e Q k => by
  obtain ⟨x, G1, e1, e⟩ := bd_inv e
  refine ha.im q e1 fun v H1 Hs1 q1 s1 d => ?_
  cases h : x.d with
  | bl c =>
    rw [h] at e d
    refine ⟨c, dr_bl d, ?_⟩
    cases c with
    | false => exact hb Fz ba G1 σ H1 Hs1 res G' q1 e Q fun v H2 Hs2 q2 s2 d => k v H2 Hs2 q2 (s1.trans s2) d
    | true => cases e; exact k _ H1 Hs1 q1 s1 (.bl true)
  | _ => rw [h] at e; cases e
theorem gk_vnot {ta : TE} {a : M R} (ha : GOk K ta a) : GOk K (tNotV ta) (xvnot a) := fun Fz ba G σ H Hs res G' q e Q k => by
  obtain ⟨x, G1, e1, e⟩ := bd_inv e
  refine ha.im q e1 fun v H1 Hs1 q1 s1 d => ?_
  cases h : x.d with
  | bl c =>
    rw [h] at e d
    cases e
    exact ⟨c, dr_bl d, k _ H1 Hs1 q1 s1 (.bl _)⟩
  | _ => rw [h] at e; cases e
theorem gk_chain {r r' : R2} {o o' : D → D → Option R} {ta tb tc : TE} {a b c : M R} (ho : OpD K r o) (ho' : OpD K r' o') (ha : GOk K ta a) (hb : GOk K tb b) (hc : GOk K tc c) : GOk K (tChain r r' ta tb tc) (xchain o o' a b c) :=
  fun Fz ba G σ H Hs res G' q e Q k => by
  obtain ⟨x, G1, e1, e⟩ := bd_inv e
  obtain ⟨y, G2, e2, e⟩ := bd_inv e
  refine ha.im q e1 fun v1 H1 Hs1 q1 s1 d1 => ?_
  refine hb.im q1 e2 fun v2 H2 Hs2 q2 s2 d2 => ?_
  cases h : o x.d y.d with
  | none => rw [h] at e; cases e
  | some r1 =>
    rw [h] at e
    cases r1 with
    | ow ds => cases e
    | im dd =>
      cases dd with
      | bl kk =>
        refine ho H2 Hs2 v1 v2 x.d y.d _ q2.sub (d1.mono s2) d2 h _ fun v H3 Hs3 ex rf => ⟨kk, dr_bl rf, ?_⟩
        have q3 := q2.ext ex
        cases kk with
        | false => cases e; exact k _ H3 Hs3 q3 ((s1.trans s2).trans ex.b) (.bl false)
        | true =>
          obtain ⟨z, G3, e3, e⟩ := bd_inv e
          cases h' : o' y.d z.d with
          | none => rw [h'] at e; cases e
          | some r2 =>
            rw [h'] at e
            cases e
            refine hc.im q3 e3 fun v3 H4 Hs4 q4 s4 d4 => ?_
            exact ho' H4 Hs4 v2 v3 y.d z.d _ q4.sub (d2.mono (ex.b.trans s4)) d4 h' Q fun v H5 Hs5 ex5 rf5 => k v H5 Hs5 (q4.ext ex5) ((((s1.trans s2).trans ex.b).trans s4).trans ex5.b) (rf5.res q4)
      | _ => cases e
/-! slices -/
def POk (K : PySem.W.Frag) (t : TO) (f : MO) : Prop := ∀ Fz ba G σ H Hs o G', Rel K Fz ba G σ H Hs → f G = some (o, G') →
  ∀ Q : Option Int → Hp → Prop, (∀ H' Hs', Rel K Fz ba G' σ H' Hs' → Same Hs Hs' → Q o H') → t σ H Q
theorem pk_none : POk K tNoPart xnop := fun Fz ba G σ H Hs r G' q e Q k => by
  cases e
  exact k H Hs q (Same.refl _)
theorem pk_some {ta : TE} {a : M R} (ha : GOk K ta a) : POk K (tPart ta) (xpart a) := fun Fz ba G σ H Hs r G' q e Q k => by
  obtain ⟨x, G1, e1, e⟩ := bd_inv e
  refine ha.im q e1 fun v H1 Hs1 q1 s1 d => ?_
  cases h : x.d with
  | int i =>
    rw [h] at e d
    cases e
    exact ⟨i, dr_int d, k H1 Hs1 q1 s1⟩
  | _ => rw [h] at e; cases e
theorem gk_sl {r : V → Option Int → Option Int → Hp → VK → Prop} {o : D → Option Int → Option Int → Option R} {ta : TE} {tl th : TO} {a : M R} {l h : MO} (ho : SlD K r o) (ha : GOk K ta a) (hl : POk K tl l) (hh : POk K th h) : GOk K (tSl r ta tl th) (xsl o a l h) :=
  fun Fz ba G σ H Hs res G' q e Q k => by
  obtain ⟨x, G1, e1, e⟩ := bd_inv e
  obtain ⟨i, G2, e2, e⟩ := bd_inv e
  obtain ⟨j, G3, e3, e⟩ := bd_inv e
  cases h' : o x.d i j with
  | none => rw [h'] at e; cases e
  | some r1 =>
    rw [h'] at e
    cases e
    refine ha.im q e1 fun v1 H1 Hs1 q1 s1 d1 => ?_
    refine hl Fz ba G1 σ H1 Hs1 i G2 q1 e2 _ fun H2 Hs2 q2 s2 => ?_
    refine hh Fz ba G2 σ H2 Hs2 j _ q2 e3 _ fun H3 Hs3 q3 s3 => ?_
    exact ho H3 Hs3 v1 x.d i j _ q3.sub (d1.mono (s2.trans s3)) h' Q fun v H5 Hs5 ex5 rf5 => k v H5 Hs5 (q3.ext ex5) (((s1.trans s2).trans s3).trans ex5.b) (rf5.res q3)
end
end Bk
/-! Bk3: calls, the named lists, statements, loops, comprehensions. -/
namespace Bk
open PySem L2
section
variable {K : PySem.W.Frag}

/-! ### calls -/
/-- a def that computes m -/
def spF (K : PySem.W.Frag) (m : List D → Option R) : Sp := fun vs H Q _ => ∃ Hs ds r, Same Hs H ∧ DRs K Hs vs ds ∧ m ds = some r ∧ ∀ v H' Hs', Ext H Hs H' Hs' → ResF K H H' Hs' v r → Q v H'
structure ExtB (l : Addr) (H Hs H' Hs' : Hp) : Prop where
  a : ∀ x o, x ≠ l → H x = some o → H' x = some o
  b : Same Hs Hs'
  c : Same Hs' H'
  n : ∀ x o, H x = some o → Hs x = none → Hs' x = none
/-- a def whose first argument is a list that it may change -/
def spB (K : PySem.W.Frag) (m : Mob → List D → Option (R × Mob)) : Sp := fun vs H Q _ => ∃ Hs l vs' bo bds ds r bds', vs = V.ref l :: vs' ∧ Same Hs H ∧ H l = some bo ∧ Hs l = none ∧ MobO K Hs bds bo ∧ DRs K Hs vs' ds ∧
  m bds ds = some (r, bds') ∧ ∀ v H' Hs' bo', ExtB l H Hs H' Hs' → H' l = some bo' → Hs' l = none → MobO K Hs' bds' bo' → ResF K H H' Hs' v r → Q v H'
theorem gk_call {m : List D → Option R} {E : XK} {ta : TA} {a : M (List D)} (ha : AOk K ta a) : GOk K (tCall (spF K m) [] E ta) (xcall m a) := fun Fz ba G σ H Hs res G' q e Q k => by
  obtain ⟨xs, G1, e1, e⟩ := bd_inv e
  cases h : m xs with
  | none => rw [h] at e; cases e
  | some r' =>
    rw [h] at e
    cases e
    refine ha Fz ba G σ H Hs xs _ q e1 _ fun vs H1 Hs1 q1 s1 d1 => ?_
    exact ⟨Hs1, xs, _, q1.sub, by rw [List.append_nil]; exact d1, h, fun v H3 Hs3 ex rf => k v H3 Hs3 (q1.ext ex) (s1.trans ex.b) (rf.res q1)⟩
theorem with_mu {e : Ent} {ds es : Mob} (h : e.mu = some ds) : (e.with es).mu = some es := by
  cases e with
  | un => cases h
  | im d => cases h
  | ow _ => rfl
  | bx _ => rfl
/-- the list of the name at i has changed -/
theorem Rel.mut {Fz : Hp} {ba : Nat → Addr} {G : Gam} {σ : L2.St} {H Hs H' Hs' : Hp} (q : Rel K Fz ba G σ H Hs) {i : Nat} {e : Ent} {ds es : Mob} {l : Addr} {ws : HO} (h : G[i]? = some e) (m : e.mu = some ds) (s : σ[i]? = some (some (.ref l)))
    (x : ExtB l H Hs H' Hs') (hl : H' l = some ws) (hn : Hs' l = none) (hd : MobO K Hs' es ws) : Rel K Fz ba (G.set i (e.with es)) σ H' Hs' := by
  obtain ⟨l0, vs0, z1, z2, z3, z4, _⟩ := q.mu i e ds h m
  rw [s] at z1
  cases z1
  have me : e.mu ≠ none := by rw [m]; simp
  refine ⟨x.c, fun a o f => ?_, by rw [List.length_set]; exact q.len, fun j d f => ?_, fun j en ds' f f0 => ?_, fun j k e1 e2 l' f1 f2 m1 m2 s1 s2 => ?_, fun j ds' f => ?_⟩
  · obtain ⟨f1, f2⟩ := q.fz a o f
    have ne : a ≠ l := ne_of_none f z4
    exact ⟨x.a a o ne f1, x.n a o f1 f2⟩
  · rcases get_set f with ⟨_, e1, _⟩ | ⟨_, f⟩
    · exfalso
      have z := with_mu (es := es) m
      rw [← e1] at z
      cases z
    · obtain ⟨v, g1, g2⟩ := q.im j d f
      exact ⟨v, g1, g2.mono x.b⟩
  · rcases get_set f with ⟨rfl, e1, _⟩ | ⟨z, f⟩
    · subst e1
      rw [with_mu m] at f0
      cases f0
      exact ⟨l, ws, s, hl, hn, z4, hd⟩
    · obtain ⟨l', vs, g1, g2, g3, g4, g5⟩ := q.mu j en ds' f f0
      have ne : l' ≠ l := fun y => by
        subst y
        exact z (q.dj i j e en l' h f me (by rw [f0]; simp) s g1)
      exact ⟨l', vs, g1, x.a l' _ ne g2, x.n l' _ g2 g3, g4, g5.mono x.b⟩
  · have old : ∀ {j : Nat} {en : Ent}, (G.set i (e.with es))[j]? = some en → en.mu ≠ none → ∃ en', G[j]? = some en' ∧ en'.mu ≠ none := fun {j en} f m' => by
      rcases get_set f with ⟨rfl, _, _⟩ | ⟨_, f⟩
      · exact ⟨e, h, me⟩
      · exact ⟨en, f, m'⟩
    obtain ⟨y1, a1, a2⟩ := old f1 m1
    obtain ⟨y2, b1, b2⟩ := old f2 m2
    exact q.dj j k y1 y2 l' a1 b1 a2 b2 s1 s2
  · rcases get_set f with ⟨rfl, e1, _⟩ | ⟨_, f⟩
    · cases e with
      | un => cases m
      | im d => cases m
      | ow _ => cases e1
      | bx bs => exact q.bx i bs h
    · exact q.bx j ds' f
theorem isMu_ok {G : Gam} {i : Nat} (h : isMu G i = true) : ∃ e ds, G[i]? = some e ∧ e.mu = some ds := by
  unfold isMu at h
  cases z : G[i]? with
  | none => rw [z] at h; cases h
  | some e =>
    rw [z] at h
    cases y : e.mu with
    | none => simp only [y] at h; cases h
    | some ds => exact ⟨e, ds, rfl, y⟩
theorem gk_callB {m : Mob → List D → Option (R × Mob)} {E : XK} {i : Nat} {ta : TA} {a : M (List D)} (ha : AOk K ta a) : GOk K (tCall (spB K m) [] E (tCons (tVar i) ta)) (xcallB m i a) := fun Fz ba G σ H Hs res G' q e Q k => by
  unfold xcallB at e
  split at e
  case isFalse => cases e
  rename_i hm
  obtain ⟨e0, ds0, y1, y2⟩ := isMu_ok hm
  obtain ⟨l, vs0, y3, _⟩ := q.mu i e0 ds0 y1 y2
  obtain ⟨xs, G1, e1, e⟩ := bd_inv e
  unfold callB at e
  cases h : G1[i]? with
  | none => rw [h] at e; cases e
  | some en =>
    cases h0 : en.mu with
    | none => simp only [h, h0] at e; cases e
    | some bs =>
      simp only [h, h0] at e
      cases h1 : m bs xs with
      | none => simp only [h1] at e; cases e
      | some p =>
        obtain ⟨r1, bs'⟩ := p
        simp only [h1] at e
        cases e
        refine ⟨_, y3, ?_⟩
        refine ha Fz ba G σ H Hs xs _ q e1 _ fun vs H1 Hs1 q1 s1 d1 => ?_
        obtain ⟨l', bvs, g1, g2, g3, g4, g5⟩ := q1.mu i en bs h h0
        rw [y3] at g1
        cases g1
        refine ⟨Hs1, l, vs, bvs, bs, xs, _, bs', by rw [List.append_nil], q1.sub, g2, g3, g5, d1, h1, fun v H3 Hs3 ws ex hl hn hd rf => ?_⟩
        have q3 := q1.mut h h0 y3 ex hl hn hd
        refine k v H3 Hs3 q3 (s1.trans ex.b) ?_
        cases res with
        | im d => exact rf
        | ow ds =>
          obtain ⟨p, vs, rfl, z1, z2, z3, z4⟩ := rf
          refine ⟨p, vs, rfl, z2, z3, ?_, z4, fun j en' g mm qq => ?_⟩
          · cases z : Fz p with
            | none => rfl
            | some o =>
              obtain ⟨w1, _⟩ := q1.fz p o z
              rw [z1] at w1
              cases w1
          · obtain ⟨ds', hd'⟩ : ∃ ds', en'.mu = some ds' := by
              cases z : en'.mu with
              | none => exact absurd z mm
              | some ds' => exact ⟨ds', rfl⟩
            have old : ∃ o, H1 p = some o := by
              rcases get_set g with ⟨rfl, _, _⟩ | ⟨_, g⟩
              · rw [y3] at qq
                cases qq
                exact ⟨_, g2⟩
              · obtain ⟨l2, ws2, q1', q2', _⟩ := q1.mu j en' ds' g hd'
                rw [qq] at q1'
                cases q1'
                exact ⟨_, q2'⟩
            obtain ⟨o, ho⟩ := old
            rw [z1] at ho
            cases ho

/-! ### the named lists read -/
theorem Rel.same_slot {Fz : Hp} {ba : Nat → Addr} {G : Gam} {σ : L2.St} {H Hs : Hp} (q : Rel K Fz ba G σ H Hs) {i : Nat} (h : isMu G i = true) : ∃ l, σ[i]? = some (some (.ref l)) ∧
    ∀ G1 H1 Hs1 e ds, Rel K Fz ba G1 σ H1 Hs1 → G1[i]? = some e → e.mu = some ds → ∃ vs, H1 l = some vs ∧ Hs1 l = none ∧ MobO K Hs1 ds vs := by
  obtain ⟨e0, ds0, y1, y2⟩ := isMu_ok h
  obtain ⟨l, vs0, y3, _⟩ := q.mu i e0 ds0 y1 y2
  refine ⟨l, y3, fun G1 H1 Hs1 e ds q1 h1 h2 => ?_⟩
  obtain ⟨l', bvs, g1, g2, g3, g4, g5⟩ := q1.mu i e ds h1 h2
  rw [y3] at g1
  cases g1
  exact ⟨bvs, g2, g3, g5⟩
theorem at_ok {H : Hp} {vs : List V} {ds : List D} {k : Int} {d : D} (h : DRs K H vs ds) (e : atI ds k = some d) : ∃ v, atI vs k = some v ∧ DR K H v d := by
  unfold atI at e ⊢
  rw [h.len]
  cases z : ixN ds.length k with
  | none => rw [z] at e; cases e
  | some j =>
    rw [z] at e
    exact h.at (i := j) e
theorem gk_ixv {i : Nat} {tb : TE} {b : M R} (hb : GOk K tb b) : GOk K (tOp (rIx K) (tVar i) tb) (xixv i b) := fun Fz ba G σ H Hs res G' q e Q k => by
  unfold xixv at e
  split at e
  case isFalse => cases e
  rename_i hm
  obtain ⟨l, y3, yk⟩ := q.same_slot hm
  obtain ⟨y, G1, e1, e⟩ := bd_inv e
  refine ⟨_, y3, ?_⟩
  refine hb.im q e1 fun v H1 Hs1 q1 s1 d1 => ?_
  unfold ixv at e
  cases hy : y.d with
  | int n =>
    rw [hy] at d1 e
    cases h : G1[i]? with
    | none => simp only [h] at e; cases e
    | some en =>
      cases h0 : en.mu with
      | none => simp only [h, h0] at e; cases e
      | some mm =>
       cases mm with
       | o _ _ => simp only [h, h0] at e; cases e
       | l ds =>
        simp only [h, h0] at e
        cases h1 : atI ds n with
        | none => simp only [h1] at e; cases e
        | some d =>
          simp only [h1] at e
          cases e
          obtain ⟨_, z1, z2, vs, rfl, z3⟩ := yk _ H1 Hs1 en (.l ds) q1 h h0
          obtain ⟨w, w1, w2⟩ := at_ok z3 h1
          exact .inl ⟨l, vs, n, w, rfl, dr_int d1, SqL.of z1, w1, k w H1 Hs1 q1 s1 w2⟩
  | _ => simp only [hy] at e; cases e
def rLen (K : PySem.W.Frag) : List V → Hp → VK → Prop := fun xs H Q => ∃ x n, xs = [x] ∧ LenV K x H n ∧ Q (.int n) H
theorem gk_lenv {i : Nat} : GOk K (tCB (rLen K) (tCons (tVar i) tNil)) (xlenv i) := fun Fz ba G σ H Hs res G' q e Q k => by
  unfold xlenv at e
  cases h : G[i]? with
  | none => simp only [h] at e; cases e
  | some en =>
    cases h0 : en.mu with
    | none => simp only [h, h0] at e; cases e
    | some mm =>
     cases mm with
     | o _ _ => simp only [h, h0] at e; cases e
     | l ds =>
      simp only [h, h0] at e
      cases e
      obtain ⟨l, _, g1, g2, g3, g4, vs, rfl, g5⟩ := q.mu i en _ h h0
      exact ⟨_, g1, _, ds.length, rfl, .inl ⟨vs, SqL.of g2, g5.len.symm⟩, k _ H Hs q (Same.refl _) (.int _)⟩

theorem gk_by {i : Nat} {t : TE} {a b : M R} (ha : GOk K t a) (hb : GOk K t b) : GOk K t (xby i a b) := fun Fz ba G σ H Hs res G' q e Q k => by
  unfold xby at e
  split at e
  · exact ha Fz ba G σ H Hs res G' q e Q k
  · exact hb Fz ba G σ H Hs res G' q e Q k

/-! ### statements -/
theorem sk_next : SOk K tNext xnext := fun Fz ba G σ H Hs fl G' q e Dn p => by
  cases e
  exact p σ H Hs q (Same.refl _)
theorem sk_seq {t u : TS} {a b : MS} (ha : SOk K t a) (hb : SOk K u b) : SOk K (tSeq t u) (xseq a b) := fun Fz ba G σ H Hs fl G' q e Dn p => by
  unfold xseq at e
  cases h : a G with
  | none => rw [h] at e; cases e
  | some x =>
    obtain ⟨f1, G1⟩ := x
    rw [h] at e
    refine ha Fz ba G σ H Hs f1 G1 q h { Dn with nx := u Dn } ?_
    cases f1 with
    | nx => exact fun σ1 H1 Hs1 q1 s1 => hb Fz ba G1 σ1 H1 Hs1 fl G' q1 e Dn (p.mono s1)
    | bk => cases e; exact p
    | ct => cases e; exact p
    | rt r => cases e; exact p
theorem sk_asg {ta : TE} {g : TG} {a : M R} {tg : D → Gam → Option Gam} {js : List Nat} (ha : GOk K ta a) (hg : GtOk K g tg js) : SOk K (tAsg ta g) (xasg a tg) := fun Fz ba G σ H Hs fl G' q e Dn p => by
  obtain ⟨x, G1, e1, e⟩ := bd_inv e
  cases h : tg x.d G1 with
  | none => rw [h] at e; cases e
  | some G2 =>
    rw [h] at e
    cases e
    refine ha.im q e1 fun v H1 Hs1 q1 s1 d1 => ?_
    exact hg.run Fz ba G1 σ H1 Hs1 v x.d _ q1 d1 h _ fun σ' q2 _ _ => p σ' H1 Hs1 q2 s1
theorem sk_set {i : Nat} {ta : TE} {a : M R} (ha : GOk K ta a) : SOk K (tAsg ta (gName i)) (xset i a) := fun Fz ba G σ H Hs fl G' q e Dn p => by
  obtain ⟨x, G1, e1, e⟩ := bd_inv e
  cases e
  exact ha Fz ba G σ H Hs x _ q e1 _ fun v H1 Hs1 q1 s1 r1 => p _ H1 Hs1 (q1.set r1) s1
theorem sk_par {i j : Nat} {ta : TA} {a : M (List D)} (ha : AOk K ta a) : SOk K (tPar i j ta) (xpar i j a) := fun Fz ba G σ H Hs fl G' q e Dn p => by
  obtain ⟨xs, G1, e1, e⟩ := bd_inv e
  split at e
  case h_2 => cases e
  rename_i x y
  cases e
  refine ha Fz ba G σ H Hs _ _ q e1 _ fun vs H1 Hs1 q1 s1 d1 => ?_
  cases d1 with
  | cons da d1 =>
    cases d1 with
    | cons db d1 =>
      cases d1
      have q2 := q1.set (i := i) (x := .im x) da
      exact ⟨_, _, rfl, p _ H1 Hs1 (q2.set (i := j) (x := .im y) db) s1⟩
def IpD (K : PySem.W.Frag) (r : TIp) (o : D → D → Option R) : Prop := OpD K r o
theorem sk_aug {i : Nat} {ta : TE} {r : TIp} {o : D → D → Option R} {a : M R} (ho : OpD K r o) (ha : GOk K ta a) : SOk K (tAug i ta r) (xaug i o a) := fun Fz ba G σ H Hs fl G' q e Dn p => by
  unfold xaug at e
  cases h : G[i]? with
  | none => rw [h] at e; cases e
  | some en =>
    rw [h] at e
    cases en with
    | im x =>
      obtain ⟨y, G1, e1, e⟩ := bd_inv e
      obtain ⟨v, g1, g2⟩ := q.im i x h
      cases h1 : o x y.d with
      | none => simp only [h1] at e; cases e
      | some r1 =>
        simp only [h1] at e
        cases e
        refine ⟨v, g1, ?_⟩
        refine ha.im q e1 fun w H1 Hs1 q1 s1 d1 => ?_
        exact ho H1 Hs1 v w x y.d r1 q1.sub (g2.mono s1) d1 h1 _ fun z H2 Hs2 ex rf => p _ H2 Hs2 ((q1.ext ex).set (rf.res q1)) (s1.trans ex.b)
    | _ => cases e
theorem sk_ret {ta : TE} {a : M R} (ha : GOk K ta a) : SOk K (tRet ta) (xret a) := fun Fz ba G σ H Hs fl G' q e Dn p => by
  obtain ⟨x, G1, e1, e⟩ := bd_inv e
  cases e
  exact ha Fz ba G σ H Hs x _ q e1 _ fun v H1 Hs1 q1 s1 r1 => p v σ H1 Hs1 q1 s1 r1
theorem sk_retN : SOk K tRetN xretN := fun Fz ba G σ H Hs fl G' q e Dn p => by
  cases e
  exact p .non σ H Hs q (Same.refl _) .non
theorem sk_drop {ta : TE} {a : M R} (ha : GOk K ta a) : SOk K (tDrop ta) (xdrop a) := fun Fz ba G σ H Hs fl G' q e Dn p => by
  obtain ⟨x, G1, e1, e⟩ := bd_inv e
  cases e
  exact ha Fz ba G σ H Hs x _ q e1 _ fun v H1 Hs1 q1 s1 r1 => p σ H1 Hs1 q1 s1
theorem sk_if {t : TT} {u w : TS} {c : M Bool} {a b : MS} (hc : TOk K t c) (ha : SOk K u a) (hb : SOk K w b) : SOk K (tIfS t u w) (xifs c a b) := fun Fz ba G σ H Hs fl G' q e Dn p => by
  obtain ⟨x, G1, e1, e⟩ := bd_inv e
  refine hc Fz ba G σ H Hs x G1 q e1 _ fun H1 Hs1 q1 s1 => ?_
  cases x with
  | true => exact ha Fz ba G1 σ H1 Hs1 fl G' q1 e Dn (p.mono s1)
  | false => exact hb Fz ba G1 σ H1 Hs1 fl G' q1 e Dn (p.mono s1)
theorem sk_brk : SOk K tBreak xbrk := fun Fz ba G σ H Hs fl G' q e Dn p => by
  cases e
  exact p σ H Hs q (Same.refl _)
theorem sk_cnt : SOk K tCont xcnt := fun Fz ba G σ H Hs fl G' q e Dn p => by
  cases e
  exact p σ H Hs q (Same.refl _)
theorem sk_never : SOk K tNever xnever := fun Fz ba G σ H Hs fl G' q e Dn p => by cases e
theorem extB_upd {H Hs : Hp} {l : Addr} {o : HO} (s : Same Hs H) (n : Hs l = none) : ExtB l H Hs (upd H l o) Hs :=
  ⟨fun x u ne e => by rw [upd_ne ne]; exact e, Same.refl _, fun a u e => by rw [upd_ne (ne_of_none e n)]; exact s a u e, fun x u _ h => h⟩
theorem isLst_ok {G : Gam} {i : Nat} (h : isLst G i = true) : ∃ e ds, G[i]? = some e ∧ e.mu = some (.l ds) := by
  unfold isLst at h
  cases z : G[i]? with
  | none => rw [z] at h; cases h
  | some e =>
    rw [z] at h
    cases y : e.mu with
    | none => simp only [y] at h; cases h
    | some m =>
      cases m with
      | o _ _ => simp only [y] at h; cases h
      | l ds => exact ⟨e, ds, rfl, y⟩
theorem isLst_mu {G : Gam} {i : Nat} (h : isLst G i = true) : isMu G i = true := by
  obtain ⟨e, ds, h1, h2⟩ := isLst_ok h
  unfold isMu
  rw [h1]
  simp only [h2]
  rfl
theorem sk_app {i : Nat} {te : TE} {a : M R} (ha : GOk K te a) : SOk K (tDrop (tBM K "list" rAppend (tVar i) (tCons te tNil))) (xapp i a) := fun Fz ba G σ H Hs fl G' q e Dn p => by
  unfold xapp at e
  split at e
  case isFalse => cases e
  rename_i hm
  obtain ⟨l, y3, yk⟩ := q.same_slot (isLst_mu hm)
  obtain ⟨x, G1, e1, e⟩ := bd_inv e
  obtain ⟨e0, ds0, y1, y2⟩ := isLst_ok hm
  obtain ⟨_, w1, _, vs0, rfl, _⟩ := yk G H Hs e0 _ q y1 y2
  refine ⟨_, y3, .inl ⟨rfl, vs0, SqL.of w1⟩, ?_⟩
  refine ha.im q e1 fun v H1 Hs1 q1 s1 d1 => ?_
  unfold app at e
  cases h : G1[i]? with
  | none => simp only [h] at e; cases e
  | some en =>
    cases h0 : en.mu with
    | none => simp only [h, h0] at e; cases e
    | some mm =>
     cases mm with
     | o _ _ => simp only [h, h0] at e; cases e
     | l ds =>
      simp only [h, h0] at e
      split at e
      case isFalse => cases e
      rename_i hf
      cases e
      obtain ⟨_, z1, z2, vs, rfl, z3⟩ := yk _ H1 Hs1 en _ q1 h h0
      refine ⟨l, vs, v, rfl, rfl, z1, by rw [z3.len]; exact few_lt hf, ?_⟩
      exact p σ _ Hs1 (q1.mut h h0 y3 (extB_upd q1.sub z2) upd_same z2 ⟨_, rfl, z3.app (.cons d1 .nil)⟩) s1
theorem sk_put {i : Nat} {te tk : TE} {a b : M R} (ha : GOk K te a) (hb : GOk K tk b) : SOk K (tAsg te (gSub (tVar i) tk rSetL)) (xput i a b) := fun Fz ba G σ H Hs fl G' q e Dn p => by
  obtain ⟨x, G1, e1, e⟩ := bd_inv e
  split at e
  case isFalse => cases e
  rename_i hm
  obtain ⟨k, G2, e2, e⟩ := bd_inv e
  refine ha.im q e1 fun v H1 Hs1 q1 s1 d1 => ?_
  obtain ⟨l, y3, yk⟩ := q1.same_slot hm
  refine ⟨_, y3, ?_⟩
  refine hb.im q1 e2 fun w H2 Hs2 q2 s2 d2 => ?_
  unfold put at e
  cases hy : k.d with
  | int n =>
    rw [hy] at d2 e
    cases h : G2[i]? with
    | none => simp only [h] at e; cases e
    | some en =>
      cases h0 : en.mu with
      | none => simp only [h, h0] at e; cases e
      | some mm =>
       cases mm with
       | o _ _ => simp only [h, h0] at e; cases e
       | l ds =>
        simp only [h, h0] at e
        cases h1 : ixN ds.length n with
        | none => simp only [h1] at e; cases e
        | some j =>
          simp only [h1] at e
          cases e
          obtain ⟨_, z1, z2, vs, rfl, z3⟩ := yk _ H2 Hs2 en _ q2 h h0
          refine ⟨l, vs, n, j, rfl, dr_int d2, z1, by rw [z3.len]; exact h1, ?_⟩
          exact p σ _ Hs2 (q2.mut h h0 y3 (extB_upd q2.sub z2) upd_same z2 ⟨_, rfl, DRs.set (d1.mono s2) j z3⟩) (s1.trans s2)
  | _ => simp only [hy] at e; cases e
/-! targets -/
theorem gt_name {i : Nat} : GtOk K (gName i) (tgn i) [i] := ⟨fun Fz ba G σ H Hs v d G' q r e Q k => by
  cases e
  exact k _ (q.set (x := .im d) r) List.length_set fun j hj => List.getElem?_set_ne fun z => hj (by rw [z]; exact List.mem_cons_self)⟩
structure GtsOk (K : PySem.W.Frag) (g : TGs) (f : List D → Gam → Option Gam) (js : List Nat) : Prop where
  run : ∀ Fz ba G σ H Hs vs ds G', Rel K Fz ba G σ H Hs → DRs K Hs vs ds → f ds G = some G' → ∀ Q : L2.St → Hp → Prop, (∀ σ', Rel K Fz ba G' σ' H Hs → σ'.length = σ.length → (∀ i : Nat, i ∉ js → σ'[i]? = σ[i]?) → Q σ' H) → g vs σ H Q
theorem gts_nil : GtsOk K gNil (tgs []) [] := ⟨fun Fz ba G σ H Hs vs ds G' q r e Q k => by
  cases r with
  | nil => cases e; exact ⟨rfl, k σ q rfl fun _ _ => rfl⟩
  | cons _ _ => cases e⟩
theorem gts_cons {t : TG} {u : TGs} {f : D → Gam → Option Gam} {fs : List (D → Gam → Option Gam)} {js ks : List Nat} (h : GtOk K t f js) (hs : GtsOk K u (tgs fs) ks) : GtsOk K (gCons t u) (tgs (f :: fs)) (js ++ ks) := ⟨fun Fz ba G σ H Hs vs ds G' q r e Q k => by
  cases r with
  | nil => cases e
  | @cons v vs d ds r1 r2 =>
    have e' : (match f d G with | some G1 => tgs fs ds G1 | none => none) = some G' := e
    cases h1 : f d G with
    | none => rw [h1] at e'; cases e'
    | some G1 =>
      rw [h1] at e'
      refine ⟨v, vs, rfl, h.run Fz ba G σ H Hs v d G1 q r1 h1 _ fun σ1 q1 l1 k1 => ?_⟩
      refine hs.run Fz ba G1 σ1 H Hs vs ds G' q1 r2 e' _ fun σ2 q2 l2 k2 => ?_
      exact k σ2 q2 (l2.trans l1) fun i hi => (k2 i fun z => hi (List.mem_append_right _ z)).trans (k1 i fun z => hi (List.mem_append_left _ z))⟩
theorem tgs_len : ∀ {fs : List (D → Gam → Option Gam)} {ds : List D} {G G' : Gam}, tgs fs ds G = some G' → ds.length = fs.length
  | [], [], _, _, _ => rfl
  | [], _ :: _, _, _, e => by cases e
  | _ :: _, [], _, _, e => by cases e
  | f :: fs, d :: ds, G, G', e => by
    have e' : (match f d G with | some G1 => tgs fs ds G1 | none => none) = some G' := e
    cases h1 : f d G with
    | none => rw [h1] at e'; cases e'
    | some G1 =>
      rw [h1] at e'
      exact congrArg Nat.succ (tgs_len e')
theorem gt_tup {u : TGs} {fs : List (D → Gam → Option Gam)} {js : List Nat} (h : GtsOk K u (tgs fs) js) : GtOk K (gTup K fs.length u) (tgt fs) js := ⟨fun Fz ba G σ H Hs v d G' q r e Q k => by
  cases r with
  | tup ht hd => exact ⟨_, _, rfl, same_tup q.sub ht, by rw [hd.len]; exact tgs_len e, h.run Fz ba G σ H Hs _ _ G' q hd e Q k⟩
  | _ => cases e⟩

/-! ### loops -/
theorem sk_while {t : TT} {u : TS} {c : M Bool} {b : MS} (fuel : Gam → Nat) (hc : TOk K t c) (hb : SOk K u b) : SOk K (tWhile t u) (xwhile fuel c b) := fun Fz ba G σ H Hs fl G' q e Dn p => by
  refine ⟨fun m σ1 H1 => ∃ G1 Hs1, Rel K Fz ba G1 σ1 H1 Hs1 ∧ Same Hs Hs1 ∧ xwhileN c b m G1 = some (fl, G'), ⟨fuel G, G, Hs, q, Same.refl _, e⟩, ?_⟩
  rintro m σ1 H1 ⟨G1, Hs1, q1, s1, e1⟩
  cases m with
  | zero => cases e1
  | succ n =>
    obtain ⟨x, G2, e2, e3⟩ := bd_inv e1
    refine hc Fz ba G1 σ1 H1 Hs1 x G2 q1 e2 _ fun H2 Hs2 q2 s2 => ?_
    cases x with
    | false => cases e3; exact p σ1 H2 Hs2 q2 (s1.trans s2)
    | true =>
      refine ⟨fun σ' H' => ∃ G3 Hs3, Rel K Fz ba G3 σ' H' Hs3 ∧ Same Hs Hs3 ∧ xwhileN c b n G3 = some (fl, G'), fun σ' H' ⟨G3, Hs3, a1, a2, a3⟩ => ⟨n, Nat.lt_succ_self n, G3, Hs3, a1, a2, a3⟩, ?_⟩
      rw [if_pos rfl] at e3
      cases hbG : b G2 with
      | none => rw [hbG] at e3; cases e3
      | some y =>
        obtain ⟨f1, G3⟩ := y
        rw [hbG] at e3
        refine hb Fz ba G2 σ1 H2 Hs2 f1 G3 q2 hbG _ ?_
        cases f1 with
        | nx => exact fun σ' H' Hs' a1 a2 => ⟨G3, Hs', a1, (s1.trans s2).trans a2, e3⟩
        | ct => exact fun σ' H' Hs' a1 a2 => ⟨G3, Hs', a1, (s1.trans s2).trans a2, e3⟩
        | bk => cases e3; exact fun σ' H' Hs' a1 a2 => p σ' H' Hs' a1 ((s1.trans s2).trans a2)
        | rt r => cases e3; exact fun v σ' H' Hs' a1 a2 a3 => p v σ' H' Hs' a1 ((s1.trans s2).trans a2) a3
theorem sk_for {w : TI} {g : TG} {u : TS} {it : M (List D)} {tg : D → Gam → Option Gam} {js : List Nat} {b : MS} (hi : IOk K w it) (hg : GtOk K g tg js) (hb : SOk K u b) : SOk K (tFor w g u) (xfor it tg b) := fun Fz ba G σ H Hs fl G' q e Dn p => by
  obtain ⟨ds, G1, e1, e⟩ := bd_inv e
  refine hi Fz ba G σ H Hs ds G1 q e1 _ fun J H1 Hs1 q1 s1 Y => ?_
  refine ⟨fun i m σ2 H2 => m = ds.length - i ∧ i ≤ ds.length ∧ ∃ G2 Hs2, Rel K Fz ba G2 σ2 H2 Hs2 ∧ Same Hs1 Hs2 ∧ xforL tg b (ds.drop i) G2 = some (fl, G'), ⟨ds.length, rfl, Nat.zero_le _, G1, Hs1, q1, Same.refl _, e⟩, ?_⟩
  rintro i m σ2 H2 ⟨rfl, hi, G2, Hs2, q2, s2, e2⟩
  by_cases hlt : i < ds.length
  · refine .inr ⟨Y.go i H2 (s2.trans q2.sub) hlt, fun σ' H' => i + 1 ≤ ds.length ∧ ∃ G3 Hs3, Rel K Fz ba G3 σ' H' Hs3 ∧ Same Hs1 Hs3 ∧ xforL tg b (ds.drop (i + 1)) G3 = some (fl, G'), fun σ' H' ⟨z, z2⟩ => ⟨ds.length - (i + 1), by omega, rfl, z, z2⟩, fun x H' y => ?_⟩
    obtain ⟨d, Hs3, d1, ex, dr⟩ := Y.yld i x H2 H' Hs2 hlt s2 q2.sub y
    have q3 := q2.ext ex
    have ed : ds.drop i = d :: ds.drop (i + 1) := by
      rw [List.drop_eq_getElem_cons hlt]
      rw [List.getElem?_eq_getElem hlt] at d1
      cases d1
      rfl
    rw [ed] at e2
    have e2' : (match tg d G2 with | none => none | some G3 => (match b G3 with | some (.nx, G4) => xforL tg b (ds.drop (i + 1)) G4 | some (.ct, G4) => xforL tg b (ds.drop (i + 1)) G4 | some (.bk, G4) => some (.nx, G4) | some (.rt r, G4) => some (.rt r, G4) | none => none)) = some (fl, G') := e2
    cases hG : tg d G2 with
    | none => rw [hG] at e2'; cases e2'
    | some G3 =>
      rw [hG] at e2'
      refine hg.run Fz ba G2 σ2 H' Hs3 x d G3 q3 dr hG _ fun σ3 q4 _ _ => ?_
      cases hbG : b G3 with
      | none => simp only [hbG] at e2'; cases e2'
      | some y =>
        obtain ⟨f1, G4⟩ := y
        simp only [hbG] at e2'
        refine hb Fz ba G3 σ3 H' Hs3 f1 G4 q4 hbG _ ?_
        cases f1 with
        | nx => exact fun σ' H5 Hs' a1 a2 => ⟨hlt, G4, Hs', a1, (s2.trans ex.b).trans a2, e2'⟩
        | ct => exact fun σ' H5 Hs' a1 a2 => ⟨hlt, G4, Hs', a1, (s2.trans ex.b).trans a2, e2'⟩
        | bk => cases e2'; exact fun σ' H5 Hs' a1 a2 => p σ' H5 Hs' a1 (((s1.trans s2).trans ex.b).trans a2)
        | rt r => cases e2'; exact fun v σ' H5 Hs' a1 a2 a3 => p v σ' H5 Hs' a1 (((s1.trans s2).trans ex.b).trans a2) a3
  · have hend : ds.length ≤ i := by omega
    rw [List.drop_eq_nil_of_le hend] at e2
    cases e2
    exact .inl ⟨Y.stop i H2 (s2.trans q2.sub) hend, p σ2 H2 Hs2 q2 (s1.trans s2)⟩
end
end Bk
/-! Bk4: what is walked; comprehensions; defs. -/
namespace Bk
open PySem L2
section
variable {K : PySem.W.Frag}
theorem Yl.same {J : It} {ds : List D} {Hs Hs' : Hp} (y : Yl K J ds Hs) (s : Same Hs Hs') : Yl K J ds Hs' :=
  ⟨fun i H h => y.go i H (s.trans h), fun i H h => y.stop i H (s.trans h), fun i x H H' Hs1 hi h => y.yld i x H H' Hs1 hi (s.trans h)⟩
theorem yl_list {Hs : Hp} {a : Addr} {xs : List V} {ds : List D} (h : SqL K Hs a xs) (d : DRs K Hs xs ds) : Yl K (Itl K a) ds Hs where
  go := fun i H s hi => ⟨xs, xs[i]'(by rw [d.len]; exact hi), same_lst s h, by simp⟩
  stop := fun i H s hi => ⟨xs, same_lst s h, by rw [d.len]; exact hi⟩
  yld := fun i x H H' Hs1 _ s s1 y => by
    obtain ⟨rfl, y⟩ := y
    obtain ⟨e, e1, e2⟩ := d.ta (y xs (same_lst (s.trans s1) h))
    exact ⟨e, Hs1, e1, Ext.refl s1, e2.mono s⟩
theorem yl_tup {Hs : Hp} {a : Addr} {xs : List V} {ds : List D} (h : SqT K Hs a xs) (d : DRs K Hs xs ds) : Yl K (Itt K a) ds Hs where
  go := fun i H s hi => ⟨xs, xs[i]'(by rw [d.len]; exact hi), same_tup s h, by simp⟩
  stop := fun i H s hi => ⟨xs, same_tup s h, by rw [d.len]; exact hi⟩
  yld := fun i x H H' Hs1 _ s s1 y => by
    obtain ⟨rfl, y⟩ := y
    obtain ⟨e, e1, e2⟩ := d.ta (y xs (same_tup (s.trans s1) h))
    exact ⟨e, Hs1, e1, Ext.refl s1, e2.mono s⟩
theorem rng_len (lo : Int) (n : Nat) : (rng lo n).length = n := by simp [rng]
theorem yl_rng {Hs : Hp} {lo : Int} {n : Nat} : Yl K (Itr lo n) (rng lo n) Hs where
  go := fun i H s hi => by rw [rng_len] at hi; exact hi
  stop := fun i H s hi => by rw [rng_len] at hi; exact hi
  yld := fun i x H H' Hs1 hi s s1 y => by
    obtain ⟨rfl, rfl⟩ := y
    rw [rng_len] at hi
    exact ⟨.int (lo + (i : Int)), Hs1, by simp [rng, hi], Ext.refl s1, .int _⟩
theorem ik_list {ta : TE} {a : M R} (ha : GOk K ta a) : IOk K (iList K ta) (xiter a) := fun Fz ba G σ H Hs ds G' q e Q k => by
  obtain ⟨x, G1, e1, e⟩ := bd_inv e
  refine ha.im q e1 fun v H1 Hs1 q1 s1 d => ?_
  cases h : x.d with
  | lst es =>
    rw [h] at e d
    cases e
    cases d with
    | lst hl hd => exact ⟨_, rfl, ⟨_, SqL.of (q1.sub _ _ hl)⟩, k _ H1 Hs1 q1 s1 (yl_list (SqL.of hl) hd)⟩
  | frz es =>
    rw [h] at e d
    cases e
    cases d with
    | frz hl hd => exact ⟨_, rfl, ⟨_, same_lst q1.sub hl⟩, k _ H1 Hs1 q1 s1 (yl_list hl hd)⟩
  | _ => rw [h] at e; cases e
theorem ik_tup {ta : TE} {a : M R} (ha : GOk K ta a) : IOk K (iTup K ta) (xiterT a) := fun Fz ba G σ H Hs ds G' q e Q k => by
  obtain ⟨x, G1, e1, e⟩ := bd_inv e
  refine ha.im q e1 fun v H1 Hs1 q1 s1 d => ?_
  cases h : x.d with
  | tup es =>
    rw [h] at e d
    cases e
    cases d with
    | tup hl hd => exact ⟨_, rfl, ⟨_, same_tup q1.sub hl⟩, k _ H1 Hs1 q1 s1 (yl_tup hl hd)⟩
  | _ => rw [h] at e; cases e
theorem okR_inv {i : Int} (h : okR i = true) : -(2 ^ 62) ≤ i ∧ i < 2 ^ 62 := by
  unfold okR at h
  rw [Bool.and_eq_true] at h
  exact ⟨of_decide_eq_true h.1, of_decide_eq_true h.2⟩
theorem ik_range1 {ta : TA} {a : M (List D)} (ha : AOk K ta a) : IOk K (iRng1 ta) (xrange1 a) := fun Fz ba G σ H Hs ds G' q e Q k => by
  obtain ⟨xs, G1, e1, e⟩ := bd_inv e
  refine ha Fz ba G σ H Hs xs _ q e1 _ fun vs H1 Hs1 q1 s1 d => ?_
  split at e
  case h_2 => cases e
  split at e
  case isFalse => cases e
  rename_i hr
  cases e
  cases d with
  | cons d1 d2 =>
    cases d2
    cases d1
    exact ⟨_, rfl, (okR_inv hr).1, (okR_inv hr).2, k _ H1 Hs1 q1 s1 yl_rng⟩
theorem ik_range2 {ta : TA} {a : M (List D)} (ha : AOk K ta a) : IOk K (iRng2 ta) (xrange2 a) := fun Fz ba G σ H Hs ds G' q e Q k => by
  obtain ⟨xs, G1, e1, e⟩ := bd_inv e
  refine ha Fz ba G σ H Hs xs _ q e1 _ fun vs H1 Hs1 q1 s1 d => ?_
  split at e
  case h_2 => cases e
  split at e
  case isFalse => cases e
  rename_i hr
  rw [Bool.and_eq_true] at hr
  cases e
  cases d with
  | cons d1 d2 =>
    cases d2 with
    | cons d2 d3 =>
      cases d3
      cases d1
      cases d2
      exact ⟨_, _, rfl, ⟨(okR_inv hr.1).1, (okR_inv hr.1).2, (okR_inv hr.2).1, (okR_inv hr.2).2⟩, k _ H1 Hs1 q1 s1 yl_rng⟩
theorem asL_ok {H : Hp} {v : V} {d : D} {ds : List D} (h : DR K H v d) (e : asL d = some ds) : ∃ a xs, v = .ref a ∧ SqL K H a xs ∧ DRs K H xs ds := by
  cases h with
  | lst hl hd => cases e; exact ⟨_, _, rfl, SqL.of hl, hd⟩
  | frz hl hd => cases e; exact ⟨_, _, rfl, hl, hd⟩
  | _ => cases e
theorem zip_get {α β : Type} : ∀ {xs : List α} {ys : List β} {i : Nat} {x : α} {y : β}, xs[i]? = some x → ys[i]? = some y → (xs.zip ys)[i]? = some (x, y)
  | [], _, _, _, _, h, _ => by simp at h
  | _ :: _, [], _, _, _, _, h => by simp at h
  | a :: xs, b :: ys, 0, _, _, h1, h2 => by simp at h1 h2; subst h1; subst h2; rfl
  | a :: xs, b :: ys, i + 1, _, _, h1, h2 => by
    simp only [List.zip_cons_cons, List.getElem?_cons_succ] at h1 h2 ⊢
    exact zip_get h1 h2
theorem yl_zip {Hs : Hp} {a b : Addr} {xs ys : List V} {ds es : List D} (ha : SqL K Hs a xs) (hb : SqL K Hs b ys) (da : DRs K Hs xs ds) (db : DRs K Hs ys es) : Yl K (Itz K a b) ((ds.zip es).map fun p => .tup [p.1, p.2]) Hs where
  go := fun i H s hi => by
    rw [List.length_map, List.length_zip] at hi
    exact ⟨xs, ys, xs[i]'(by rw [da.len]; omega), ys[i]'(by rw [db.len]; omega), same_lst s ha, same_lst s hb, by simp, by simp⟩
  stop := fun i H s hi => by
    rw [List.length_map, List.length_zip] at hi
    exact ⟨xs, ys, same_lst s ha, same_lst s hb, by rw [da.len, db.len]; omega⟩
  yld := fun i x H H' Hs1 _ s s1 y => by
    obtain ⟨T, x1, y1, rfl, hT, rfl, h1, h2⟩ := y
    obtain ⟨d1, e1, r1⟩ := da.ta (h1 xs (same_lst (s.trans s1) ha))
    obtain ⟨d2, e2, r2⟩ := db.ta (h2 ys (same_lst (s.trans s1) hb))
    have ex : Ext H Hs1 (upd H T (.tup [x1, y1])) (upd Hs1 T (.tup [x1, y1])) := Ext.new s1 hT
    refine ⟨.tup [d1, d2], _, ?_, ex, .tup (SqT.of upd_same) (.cons (r1.mono (s.trans ex.b)) (.cons (r2.mono (s.trans ex.b)) .nil))⟩
    rw [List.getElem?_map, zip_get e1 e2]
    rfl
theorem ik_zip {ta : TA} {a : M (List D)} (ha : AOk K ta a) : IOk K (iZip K ta) (xzip a) := fun Fz ba G σ H Hs ds G' q e Q k => by
  obtain ⟨xs, G1, e1, e⟩ := bd_inv e
  refine ha Fz ba G σ H Hs xs _ q e1 _ fun vs H1 Hs1 q1 s1 d => ?_
  split at e
  case h_2 => cases e
  split at e
  case h_2 => cases e
  rename_i h1 h2
  cases e
  cases d with
  | cons d1 d2 =>
    cases d2 with
    | cons d2 d3 =>
      cases d3
      obtain ⟨a1, x1, rfl, l1, r1⟩ := asL_ok d1 h1
      obtain ⟨a2, x2, rfl, l2, r2⟩ := asL_ok d2 h2
      exact ⟨a1, a2, x1, x2, rfl, same_lst q1.sub l1, same_lst q1.sub l2, k _ H1 Hs1 q1 s1 (yl_zip l1 l2 r1 r2)⟩
theorem enum_len : ∀ (k : Nat) (ds : List D), (enumD k ds).length = ds.length
  | _, [] => rfl
  | k, d :: ds => congrArg Nat.succ (enum_len (k + 1) ds)
theorem enum_get : ∀ {k : Nat} {ds : List D} {i : Nat} {d : D}, ds[i]? = some d → (enumD k ds)[i]? = some (.tup [.int ((k + i : Nat) : Int), d])
  | _, [], _, _, h => by simp at h
  | k, e :: ds, 0, _, h => by simp at h; subst h; rfl
  | k, e :: ds, i + 1, _, h => by
    simp only [List.getElem?_cons_succ] at h
    have z := enum_get (k := k + 1) h
    show (enumD (k + 1) ds)[i]? = _
    rw [z, show k + 1 + i = k + (i + 1) by omega]
theorem yl_enum {Hs : Hp} {a : Addr} {xs : List V} {ds : List D} (ha : SqL K Hs a xs) (da : DRs K Hs xs ds) : Yl K (Ite K a) (enumD 0 ds) Hs where
  go := fun i H s hi => by
    rw [enum_len] at hi
    exact ⟨xs, xs[i]'(by rw [da.len]; omega), same_lst s ha, by simp⟩
  stop := fun i H s hi => by
    rw [enum_len] at hi
    exact ⟨xs, same_lst s ha, by rw [da.len]; omega⟩
  yld := fun i x H H' Hs1 _ s s1 y => by
    obtain ⟨T, x1, rfl, hT, rfl, h1⟩ := y
    obtain ⟨d1, e1, r1⟩ := da.ta (h1 xs (same_lst (s.trans s1) ha))
    have ex : Ext H Hs1 (upd H T (.tup [.int (i : Nat), x1])) (upd Hs1 T (.tup [.int (i : Nat), x1])) := Ext.new s1 hT
    refine ⟨.tup [.int (i : Nat), d1], _, ?_, ex, .tup (SqT.of upd_same) (.cons (.int _) (.cons (r1.mono (s.trans ex.b)) .nil))⟩
    rw [enum_get e1, Nat.zero_add]
theorem ik_enum {ta : TA} {a : M (List D)} (ha : AOk K ta a) : IOk K (iEnum K ta) (xenum a) := fun Fz ba G σ H Hs ds G' q e Q k => by
  obtain ⟨xs, G1, e1, e⟩ := bd_inv e
  refine ha Fz ba G σ H Hs xs _ q e1 _ fun vs H1 Hs1 q1 s1 d => ?_
  split at e
  case h_2 => cases e
  split at e
  case h_2 => cases e
  rename_i h1
  cases e
  cases d with
  | cons d1 d2 =>
    cases d2
    obtain ⟨a1, x1, rfl, l1, r1⟩ := asL_ok d1 h1
    exact ⟨a1, x1, rfl, same_lst q1.sub l1, k _ H1 Hs1 q1 s1 (yl_enum l1 r1)⟩

/-! ### comprehensions -/
theorem Rel.wiped {Fz : Hp} {ba : Nat → Addr} {G : Gam} {σ : L2.St} {H Hs : Hp} (q : Rel K Fz ba G σ H Hs) : ∀ vs : List Nat, Rel K Fz ba (wipeG G vs) (wipe σ vs) H Hs
  | [] => q
  | v :: vs => (Rel.wiped q vs).forget v
theorem wipe_get {σ : L2.St} {i : Nat} : ∀ {vs : List Nat}, i ∉ vs → (wipe σ vs)[i]? = σ[i]?
  | [], _ => rfl
  | v :: vs, h => by
    have h1 : v ≠ i := fun z => h (by rw [z]; exact List.mem_cons_self)
    show ((wipe σ vs).set v none)[i]? = _
    rw [List.getElem?_set_ne h1]
    exact wipe_get fun z => h (List.mem_cons_of_mem _ z)
theorem wipe_in {σ : L2.St} {i : Nat} (hl : i < σ.length) : ∀ {vs : List Nat}, i ∈ vs → (wipe σ vs)[i]? = some none
  | v :: vs, h => by
    show ((wipe σ vs).set v none)[i]? = _
    by_cases z : v = i
    · subst z
      rw [List.getElem?_set_self (by rw [wipe_length]; exact hl)]
    · rw [List.getElem?_set_ne z]
      rcases List.mem_cons.mp h with z2 | h2
      · exact absurd z2.symm z
      · exact wipe_in hl h2
/-- slots outside of vs alike: wiped they are the same -/
theorem wipe_eq {σ τ : L2.St} {vs : List Nat} (hl : τ.length = σ.length) (h : ∀ i : Nat, i ∉ vs → τ[i]? = σ[i]?) : wipe τ vs = wipe σ vs := by
  refine List.ext_getElem? fun i => ?_
  by_cases hi : i ∈ vs
  · by_cases hlt : i < σ.length
    · rw [wipe_in hlt hi, wipe_in (by rw [hl]; exact hlt) hi]
    · rw [List.getElem?_eq_none (by rw [wipe_length, hl]; omega), List.getElem?_eq_none (by rw [wipe_length]; omega)]
  · rw [wipe_get hi, wipe_get hi]
    exact h i hi
theorem unw_len (G1 G2 : Gam) : ∀ vs : List Nat, (unw G1 G2 vs).length = G2.length
  | [] => rfl
  | v :: vs => by
    show ((unw G1 G2 vs).set v _).length = _
    rw [List.length_set]
    exact unw_len G1 G2 vs
theorem unw_out {G1 G2 : Gam} {i : Nat} : ∀ {vs : List Nat}, i ∉ vs → (unw G1 G2 vs)[i]? = G2[i]?
  | [], _ => rfl
  | v :: vs, h => by
    have h1 : v ≠ i := fun z => h (by rw [z]; exact List.mem_cons_self)
    show ((unw G1 G2 vs).set v _)[i]? = _
    rw [List.getElem?_set_ne h1]
    exact unw_out fun z => h (List.mem_cons_of_mem _ z)
theorem unw_in {G1 G2 : Gam} {i : Nat} (hl : G2.length = G1.length) : ∀ {vs : List Nat}, i ∈ vs → (unw G1 G2 vs)[i]? = G1[i]?
  | v :: vs, h => by
    show ((unw G1 G2 vs).set v (G1.getD v .un))[i]? = _
    by_cases z : v = i
    · subst z
      by_cases hlt : v < G1.length
      · rw [List.getElem?_set_self (by rw [unw_len, hl]; exact hlt), List.getElem?_eq_getElem hlt, List.getD_eq_getElem?_getD, List.getElem?_eq_getElem hlt]
        rfl
      · rw [List.getElem?_eq_none (by rw [List.length_set, unw_len, hl]; omega), List.getElem?_eq_none (by omega)]
    · rw [List.getElem?_set_ne z]
      rcases List.mem_cons.mp h with z2 | h2
      · exact absurd z2.symm z
      · exact unw_in hl h2
theorem noMu_ok {G : Gam} {vs : List Nat} (h : noMu G vs = true) {i : Nat} {e : Ent} (hi : i ∈ vs) (g : G[i]? = some e) : e.mu = none := by
  unfold noMu at h
  rw [List.all_eq_true] at h
  have z := h i hi
  rw [g] at z
  simpa using z
/-- behind a block: its own slots as they were -/
theorem Rel.unwipe {Fz : Hp} {ba : Nat → Addr} {G1 G2 : Gam} {σ : L2.St} {H1 Hs1 H2 Hs2 : Hp} {vs : List Nat} (q1 : Rel K Fz ba G1 σ H1 Hs1) (q2 : Rel K Fz ba G2 (wipe σ vs) H2 Hs2) (s : Same Hs1 Hs2) (nm : noMu G1 vs = true) : Rel K Fz ba (unw G1 G2 vs) σ H2 Hs2 := by
  have hl : G2.length = G1.length := by rw [← q1.len, ← q2.len, wipe_length]
  have mo : ∀ {i : Nat} {e : Ent}, (unw G1 G2 vs)[i]? = some e → e.mu ≠ none → i ∉ vs ∧ G2[i]? = some e := fun {i e} h m => by
    by_cases hi : i ∈ vs
    · rw [unw_in hl hi] at h
      exact absurd (noMu_ok nm hi h) m
    · rw [unw_out hi] at h
      exact ⟨hi, h⟩
  refine ⟨q2.sub, q2.fz, by rw [unw_len, hl]; exact q1.len, fun i d h => ?_, fun i e ds h h0 => ?_, fun i j e e' l h1 h2 m1 m2 t1 t2 => ?_, fun i ds h => ?_⟩
  · by_cases hi : i ∈ vs
    · rw [unw_in hl hi] at h
      obtain ⟨v, a1, a2⟩ := q1.im i d h
      exact ⟨v, a1, a2.mono s⟩
    · rw [unw_out hi] at h
      obtain ⟨v, a1, a2⟩ := q2.im i d h
      exact ⟨v, by rw [← wipe_get hi]; exact a1, a2⟩
  · obtain ⟨hi, h⟩ := mo h (by rw [h0]; simp)
    obtain ⟨l, ws, a1, a2⟩ := q2.mu i e ds h h0
    exact ⟨l, ws, by rw [← wipe_get hi]; exact a1, a2⟩
  · obtain ⟨hi, h1⟩ := mo h1 m1
    obtain ⟨hj, h2⟩ := mo h2 m2
    exact q2.dj i j e e' l h1 h2 m1 m2 (by rw [wipe_get hi]; exact t1) (by rw [wipe_get hj]; exact t2)
  · obtain ⟨hi, h⟩ := mo h (by simp [Ent.mu])
    have z := q2.bx i ds h
    rw [wipe_get hi] at z
    exact z
/-- a hidden object more -/
theorem Rel.hide {Fz : Hp} {ba : Nat → Addr} {G : Gam} {σ : L2.St} {H Hs : Hp} (q : Rel K Fz ba G σ H Hs) {p : Addr} {o : HO} (h : H p = none) : Rel K (upd Fz p o) ba G σ (upd H p o) Hs := by
  refine ⟨q.sub.trans (same_new h), fun a u e => ?_, q.len, q.im, fun i e ds g g0 => ?_, q.dj, q.bx⟩
  · by_cases z : a = p
    · subst z
      rw [upd_same] at e ⊢
      exact ⟨e, none_sub q.sub h⟩
    · rw [upd_ne z] at e ⊢
      exact q.fz a u e
  · obtain ⟨l, vs, a1, a2, a3, a4, a5⟩ := q.mu i e ds g g0
    have ne : l ≠ p := ne_of_none a2 h
    exact ⟨l, vs, a1, by rw [upd_ne ne]; exact a2, a3, by rw [upd_ne ne]; exact a4, a5⟩
/-- the hidden object is another -/
theorem Rel.rehide {Fz : Hp} {ba : Nat → Addr} {G : Gam} {σ : L2.St} {H Hs : Hp} {p : Addr} {o o' : HO} (q : Rel K (upd Fz p o) ba G σ H Hs) : Rel K (upd Fz p o') ba G σ (upd H p o') Hs := by
  obtain ⟨hp, hsp⟩ := q.fz p o upd_same
  refine ⟨fun a u e => ?_, fun a u e => ?_, q.len, q.im, fun i e ds g g0 => ?_, q.dj, q.bx⟩
  · rw [upd_ne (ne_of_none e hsp)]
    exact q.sub a u e
  · by_cases z : a = p
    · subst z
      rw [upd_same] at e ⊢
      exact ⟨e, hsp⟩
    · rw [upd_ne z] at e ⊢
      exact q.fz a u (by rw [upd_ne z]; exact e)
  · obtain ⟨l, vs, a1, a2, a3, a4, a5⟩ := q.mu i e ds g g0
    have ne : l ≠ p := by
      intro z
      subst z
      rw [upd_same] at a4
      cases a4
    rw [upd_ne ne] at a4
    exact ⟨l, vs, a1, by rw [upd_ne ne]; exact a2, a3, by rw [upd_ne ne]; exact a4, a5⟩
/-- no longer hidden, not owned either -/
theorem Rel.unhide {Fz : Hp} {ba : Nat → Addr} {G : Gam} {σ : L2.St} {H Hs : Hp} {p : Addr} {o : HO} (q : Rel K (upd Fz p o) ba G σ H Hs) (hf : Fz p = none) : Rel K Fz ba G σ H Hs := by
  refine ⟨q.sub, fun a u e => ?_, q.len, q.im, fun i e ds g g0 => ?_, q.dj, q.bx⟩
  · exact q.fz a u (by rw [upd_ne (ne_of_none e hf)]; exact e)
  · obtain ⟨l, vs, a1, a2, a3, a4, a5⟩ := q.mu i e ds g g0
    refine ⟨l, vs, a1, a2, a3, ?_, a5⟩
    cases z : Fz l with
    | none => rfl
    | some u =>
      have ne : l ≠ p := ne_of_none z hf
      rw [upd_ne ne, z] at a4
      cases a4
theorem gk_lc {w : TI} {g : TG} {t : TT} {te : TE} {it : M (List D)} {tg : D → Gam → Option Gam} {js vs : List Nat} {c : M Bool} {a : M R} (hi : IOk K w it) (hg : GtOk K g tg js) (hc : TOk K t c) (ha : GOk K te a) (hj : ∀ j ∈ js, j ∈ vs) :
    GOk K (tLc w g t te vs) (xlc it tg c a vs) := fun Fz ba G σ H Hs res G' q e Q k => by
  obtain ⟨ds, G1, e1, e⟩ := bd_inv e
  split at e
  case isFalse => cases e
  rename_i nm
  obtain ⟨out, G2, e2, e⟩ := bd_inv e
  split at e
  case isFalse => cases e
  rename_i hf
  cases e
  refine hi Fz ba G σ H Hs ds _ q e1 _ fun J H1 Hs1 q1 s1 Y p hp => ?_
  have hfp : Fz p = none := by
    cases z : Fz p with
    | none => rfl
    | some o =>
      obtain ⟨z1, _⟩ := q1.fz p o z
      rw [hp] at z1
      cases z1
  have q1w := (q1.wiped vs).hide (o := .lst []) hp
  refine ⟨fun i m H2 => m = ds.length - i ∧ i ≤ ds.length ∧ ∃ G3 Hs3 acc ad more, Rel K (upd Fz p (.lst acc)) ba G3 (wipe σ vs) H2 Hs3 ∧ Same Hs1 Hs3 ∧ DRs K Hs3 acc ad ∧ xlcL tg c a vs (ds.drop i) G3 = some (more, G2) ∧ ad ++ more = out,
    ⟨ds.length, rfl, Nat.zero_le _, wipeG G1 vs, Hs1, [], [], out, q1w, Same.refl _, .nil, e2, rfl⟩, ?_⟩
  rintro i m H2 ⟨rfl, hi2, G3, Hs3, acc, ad, more, q3, s3, da, e3, eo⟩
  by_cases hlt : i < ds.length
  · refine .inr ⟨Y.go i H2 (s3.trans q3.sub) hlt, fun H' => i + 1 ≤ ds.length ∧ ∃ G4 Hs4 acc ad more, Rel K (upd Fz p (.lst acc)) ba G4 (wipe σ vs) H' Hs4 ∧ Same Hs1 Hs4 ∧ DRs K Hs4 acc ad ∧ xlcL tg c a vs (ds.drop (i + 1)) G4 = some (more, G2) ∧ ad ++ more = out,
      fun H' ⟨z, z2⟩ => ⟨ds.length - (i + 1), by omega, rfl, z, z2⟩, fun x H' y => ?_⟩
    obtain ⟨d, Hs4, d1, ex, dr⟩ := Y.yld i x H2 H' Hs3 hlt s3 q3.sub y
    have q4 := q3.ext ex
    have ed : ds.drop i = d :: ds.drop (i + 1) := by
      rw [List.drop_eq_getElem_cons hlt]
      rw [List.getElem?_eq_getElem hlt] at d1
      cases d1
      rfl
    rw [ed] at e3
    unfold xlcL at e3
    cases hG : tg d G3 with
    | none => rw [hG] at e3; cases e3
    | some G4 =>
      rw [hG] at e3
      refine hg.run _ ba G3 _ H' Hs4 x d G4 q4 dr hG _ fun σ5 q5 l5 k5 => ?_
      have hlen : σ5.length = σ.length := by rw [l5, wipe_length]
      have hw : wipe σ5 vs = wipe σ vs := by
        have z := wipe_eq (σ := wipe σ vs) (τ := σ5) (vs := vs) (by rw [wipe_length]; exact hlen) fun j hj' => k5 j fun z => hj' (hj j z)
        rw [z]
        exact wipe_eq (wipe_length σ vs) fun j hj' => wipe_get hj'
      refine ⟨hw, ?_⟩
      obtain ⟨b, G5, e5, e6⟩ := bd_inv e3
      refine hc _ ba G4 σ5 H' Hs4 b G5 q5 e5 _ fun H5 Hs5 q6 s6 => ?_
      cases b with
      | true =>
        obtain ⟨r, G6, e7, e8⟩ := bd_inv (show bd (a G5) _ = _ from e6)
        obtain ⟨out2, G7, e9, e10⟩ := bd_inv e8
        cases e10
        rw [if_pos rfl]
        refine ha.im q6 e7 fun v H6 Hs6 q7 s7 d7 => ?_
        obtain ⟨f1, f2⟩ := q7.fz p _ upd_same
        have q8 := (q7.rehide (o' := .lst (acc ++ [v]))).wiped vs
        rw [hw] at q8
        refine ⟨acc, f1, ?_, hlt, _, Hs6, _, ad ++ [r.d], out2, q8, ((s3.trans ex.b).trans s6).trans s7, (da.mono ((ex.b.trans s6).trans s7)).app (.cons d7 .nil), e9, ?_⟩
        · have z1 := da.len
          have z2 : ad.length ≤ out.length := by rw [← eo, List.length_append]; omega
          exact Nat.lt_of_le_of_lt (by omega) (few_lt hf)
        · rw [List.append_assoc]
          exact eo
      | false =>
        rw [if_neg Bool.false_ne_true] at e6 ⊢
        have q8 := q6.wiped vs
        rw [hw] at q8
        exact ⟨hlt, _, Hs5, acc, ad, more, q8, (s3.trans ex.b).trans s6, da.mono (ex.b.trans s6), e6, eo⟩
  · have hend : ds.length ≤ i := by omega
    rw [List.drop_eq_nil_of_le hend] at e3
    cases e3
    rw [List.append_nil] at eo
    subst eo
    obtain ⟨f1, f2⟩ := q3.fz p _ upd_same
    refine .inl ⟨Y.stop i H2 (s3.trans q3.sub) hend, k _ H2 Hs3 (q1.unwipe (q3.unhide hfp) s3 nm) (s1.trans s3) ⟨p, _, rfl, f1, f2, hfp, ⟨acc, rfl, da⟩, fun j e' g m z => ?_⟩⟩
    have q9 := q1.unwipe (q3.unhide hfp) s3 nm
    by_cases hjv : j ∈ vs
    · have z1 := q1.len
      have z2 := q3.len
      rw [wipe_length, z1] at z2
      rw [unw_in (G1 := G1) z2.symm hjv] at g
      exact m (noMu_ok nm hjv g)
    · rw [unw_out hjv] at g
      obtain ⟨ds', hd'⟩ : ∃ ds', e'.mu = some ds' := by
        cases y : e'.mu with
        | none => exact absurd y m
        | some ds' => exact ⟨ds', rfl⟩
      obtain ⟨l, ws, a1, a2, a3, a4, a5⟩ := q3.mu j e' ds' g hd'
      rw [wipe_get hjv, z] at a1
      cases a1
      rw [upd_same] at a4
      cases a4
end
end Bk
/-! Bk5: operators and built-ins on data; defs; the law's end. -/
namespace Bk
open PySem L2

/-! ### operators -/
def opAdd : D → D → Option R
  | .int i, .int j => some (.im (.int (i + j)))
  | .str x, .str y => if few (x.length + y.length) then some (.im (.str (x ++ y))) else none
  | .lst xs, .lst ys => if few (xs.length + ys.length) then some (.ol (xs ++ ys)) else none
  | _, _ => none
def opSub : D → D → Option R
  | .int i, .int j => some (.im (.int (i - j)))
  | _, _ => none
def okMul (i j : Int) : Bool := decide (i.natAbs.log2 + j.natAbs.log2 < 1000000)
theorem okMul_ok {i j : Int} (h : okMul i j = true) : CMulW i j := by
  unfold okMul at h
  exact (of_decide_eq_true h : i.natAbs.log2 + j.natAbs.log2 < 1000000)
def opMulI : D → D → Option R
  | .int i, .int j => if okMul i j then some (.im (.int (i * j))) else none
  | _, _ => none
def opMul : D → D → Option R
  | .int i, .int j => if okMul i j then some (.im (.int (i * j))) else none
  | .lst xs, .int k => if okR k && few (xs.length * k.toNat) then some (.ol (List.replicate k.toNat xs).flatten) else none
  | _, _ => none
def okDiv (j : Int) : Bool := decide (j ≠ 0) && decide (j.natAbs.log2 < 9000)
def opFdiv : D → D → Option R
  | .int i, .int j => if okDiv j then some (.im (.int (i.fdiv j))) else none
  | _, _ => none
def opMod : D → D → Option R
  | .int i, .int j => if decide (j ≠ 0) then some (.im (.int (i.fmod j))) else none
  | _, _ => none
def okPow (i j : Int) : Bool := decide (0 ≤ j) && decide (j ≤ 1000000) && decide (i.natAbs < 2 ^ 64)
def opPow : D → D → Option R
  | .int i, .int j => if okPow i j then some (.im (.int (i ^ j.toNat))) else none
  | _, _ => none
def cmp (p : Int → Int → Bool) : D → D → Option R
  | .int i, .int j => some (.im (.bl (p i j)))
  | _, _ => none
def opLt : D → D → Option R := cmp fun i j => decide (i < j)
def opLe : D → D → Option R := cmp fun i j => decide (i ≤ j)
def opGt : D → D → Option R := cmp fun i j => decide (j < i)
def opGe : D → D → Option R := cmp fun i j => decide (j ≤ i)
mutual
def toPy : D → Option PyData
  | .non => some .none
  | .bl b => some (.bool b)
  | .int i => some (.int i)
  | .str x => some (.str x)
  | .lst xs => (toPys xs).map .list
  | .frz xs => (toPys xs).map .list
  | .tup xs => (toPys xs).map .tuple
  | .obj _ _ => none
  | .ty _ => none
  | .cl _ => none
def toPys : List D → Option (List PyData)
  | [] => some []
  | x :: xs => match toPy x, toPys xs with
    | some p, some ps => some (p :: ps)
    | _, _ => none
end
def eqD (a b : D) : Option Bool := match a, b with
  | .int i, .int j => some (decide (i = j))
  | .str x, .str y => some (decide (x = y))
  | a, b => match toPy a, toPy b with
    | some p, some q => if SeqAt.shaped p && SeqAt.shaped q then some (PyData.eqv p q) else none
    | _, _ => none
def opEq (a b : D) : Option R := match eqD a b with
  | some k => some (.im (.bl k))
  | none => none
def opNe (a b : D) : Option R := match eqD a b with
  | some k => some (.im (.bl (!k)))
  | none => none
def isN : D → Bool
  | .non => true
  | _ => false
def isD : D → D → Option Bool
  | a, .non => some (isN a)
  | .bl a, .bl b => some (decide (a = b))
  | _, _ => none
def opIs (a b : D) : Option R := match isD a b with
  | some k => some (.im (.bl k))
  | none => none
def opIsNot (a b : D) : Option R := match isD a b with
  | some k => some (.im (.bl (!k)))
  | none => none
def opIx : D → D → Option R
  | .lst xs, .int k => (atI xs k).map .im
  | .frz xs, .int k => (atI xs k).map .im
  | .tup xs, .int k => (atI xs k).map .im
  | .str x, .int k => if few x.length then (atI x.cps.toList k).map fun c => .im (.str ⟨#[c]⟩) else none
  | _, _ => none
def unNeg : D → Option R
  | .int i => some (.im (.int (-i)))
  | _ => none

def rAddA : R2 := fun x y H Q => rI0 (fun i j => .int (i + j)) x y H Q ∨ (∃ i j, x = .str i ∧ y = .str j ∧ i.length + j.length ≤ sizeLine ∧ Q (.str (i ++ j)) H) ∨ rCat x y H Q
theorem op_addA {X : Cx} : OpR X (binaryOp .Add) rAddA := op_add.or (op_add_str.or op_cat)
def rMulA : R2 := fun x y H Q => rI CMulW (fun i j => .int (i * j)) x y H Q ∨ rRep x y H Q
theorem op_mulA {X : Cx} : OpR X (binaryOp .Mult) rMulA := op_mulW.or op_rep
def rFdivA : R2 := rI (fun _ j => j ≠ 0 ∧ j.natAbs.log2 < 9000) fun i j => .int (i.fdiv j)
theorem op_fdivA {X : Cx} : OpR X (binaryOp .FloorDiv) rFdivA := opI fun _ _ _ _ _ _ _ hc q => PyProof.Rows.floordiv_int hc.1 q (.inl (PyProof.noPylong_of_log2 hc.2))
def rModA : R2 := rI (fun _ j => j ≠ 0) fun i j => .int (i.fmod j)
theorem op_modA {X : Cx} : OpR X (binaryOp .Mod) rModA := op_modN
theorem iop_mulA {X : Cx} : PIp X .Mult (rI CMulW fun i j => .int (i * j)) := opI (X := X) (f := inplaceOp .Mult) fun _ _ _ _ _ _ _ hc q => PyProof.Rows.imul_int q hc.ok
def rSubA : R2 := rI0 fun i j => .int (i - j)
theorem op_subA {X : Cx} : OpR X (binaryOp .Sub) rSubA := op_sub
def rPowA : R2 := rI CPow fun i j => .int (i ^ j.toNat)
theorem op_powA {X : Cx} : OpR X (binaryOp .Pow) rPowA := op_pow
def rIsA : R2 := fun x y H Q => (y = .non ∧ Q (.bl (decide (x = .non))) H) ∨ rIsB x y H Q
theorem op_isA {X : Cx} : OpR X (compareOp .Is) rIsA := op_isN.or op_isBl
def rIsNotA : R2 := fun x y H Q => (y = .non ∧ Q (.bl (!decide (x = .non))) H) ∨ rNotB x y H Q
theorem op_isNotA {X : Cx} : OpR X (compareOp .IsNot) rIsNotA := op_notN.or op_notBl

section
variable {K : PySem.W.Frag}
theorem od_add : OpD K rAddA opAdd := fun H Hs x y dx dy res s hx hy e Q k => by
  unfold opAdd at e
  split at e
  · cases e
    cases hx; cases hy
    exact .inl ⟨_, _, rfl, rfl, k _ H Hs (Ext.refl s) (.int _)⟩
  · split at e
    case isFalse => cases e
    rename_i hf
    cases e
    cases hx; cases hy
    exact .inr (.inl ⟨_, _, rfl, rfl, few_ok hf, k _ H Hs (Ext.refl s) (.str _)⟩)
  · split at e
    case isFalse => cases e
    rename_i hf
    cases e
    cases hx with
    | lst h1 d1 =>
      cases hy with
      | lst h2 d2 =>
        exact .inr (.inr ⟨_, _, _, _, rfl, rfl, s _ _ h1, s _ _ h2, by rw [d1.len, d2.len]; exact few_ok hf, fun p hp =>
          k _ _ Hs (Ext.hid s hp) ⟨p, _, rfl, hp, upd_same, none_sub s hp, _, rfl, d1.app d2⟩⟩)
  · cases e
theorem od_sub : OpD K rSubA opSub := fun H Hs x y dx dy res s hx hy e Q k => by
  unfold opSub at e
  split at e
  case h_2 => cases e
  cases e
  cases hx; cases hy
  exact ⟨_, _, rfl, rfl, k _ H Hs (Ext.refl s) (.int _)⟩
theorem od_mul : OpD K rMulA opMul := fun H Hs x y dx dy res s hx hy e Q k => by
  unfold opMul at e
  split at e
  · split at e
    case isFalse => cases e
    rename_i hf
    cases e
    cases hx; cases hy
    exact .inl ⟨_, _, rfl, rfl, okMul_ok hf, k _ H Hs (Ext.refl s) (.int _)⟩
  · split at e
    case isFalse => cases e
    rename_i hf
    rw [Bool.and_eq_true] at hf
    cases e
    cases hx with
    | lst h1 d1 =>
      cases hy
      obtain ⟨z1, z2⟩ : -(2 ^ 62) ≤ _ ∧ _ < 2 ^ 62 := okR_inv hf.1
      exact .inr ⟨_, _, _, rfl, rfl, s _ _ h1, by omega, by omega, by rw [d1.len]; exact few_ok hf.2, fun p hp =>
        k _ _ Hs (Ext.hid s hp) ⟨p, _, rfl, hp, upd_same, none_sub s hp, _, rfl, d1.rep _⟩⟩
  · cases e
theorem od_mulI : OpD K (rI CMulW fun i j => .int (i * j)) opMulI := fun H Hs x y dx dy res s hx hy e Q k => by
  unfold opMulI at e
  split at e
  case h_2 => cases e
  split at e
  case isFalse => cases e
  rename_i hf
  cases e
  cases hx; cases hy
  exact ⟨_, _, rfl, rfl, okMul_ok hf, k _ H Hs (Ext.refl s) (.int _)⟩
theorem od_fdiv : OpD K rFdivA opFdiv := fun H Hs x y dx dy res s hx hy e Q k => by
  unfold opFdiv at e
  split at e
  case h_2 => cases e
  split at e
  case isFalse => cases e
  rename_i hf
  unfold okDiv at hf
  rw [Bool.and_eq_true] at hf
  cases e
  cases hx; cases hy
  exact ⟨_, _, rfl, rfl, ⟨of_decide_eq_true hf.1, of_decide_eq_true hf.2⟩, k _ H Hs (Ext.refl s) (.int _)⟩
theorem od_mod : OpD K rModA opMod := fun H Hs x y dx dy res s hx hy e Q k => by
  unfold opMod at e
  split at e
  case h_2 => cases e
  split at e
  case isFalse => cases e
  rename_i hf
  cases e
  cases hx; cases hy
  exact ⟨_, _, rfl, rfl, of_decide_eq_true hf, k _ H Hs (Ext.refl s) (.int _)⟩
theorem od_pow : OpD K rPowA opPow := fun H Hs x y dx dy res s hx hy e Q k => by
  unfold opPow at e
  split at e
  case h_2 => cases e
  split at e
  case isFalse => cases e
  rename_i hf
  unfold okPow at hf
  rw [Bool.and_eq_true, Bool.and_eq_true] at hf
  cases e
  cases hx; cases hy
  exact ⟨_, _, rfl, rfl, ⟨of_decide_eq_true hf.1.1, of_decide_eq_true hf.1.2, of_decide_eq_true hf.2⟩, k _ H Hs (Ext.refl s) (.int _)⟩
theorem od_cmp {p : Int → Int → Bool} : OpD K (rI0 fun i j => .bl (p i j)) (cmp p) := fun H Hs x y dx dy res s hx hy e Q k => by
  unfold cmp at e
  split at e
  case h_2 => cases e
  cases e
  cases hx; cases hy
  exact ⟨_, _, rfl, rfl, k _ H Hs (Ext.refl s) (.bl _)⟩
theorem od_lt : OpD K (rI0 fun i j => .bl (decide (i < j))) opLt := od_cmp
theorem od_le : OpD K (rI0 fun i j => .bl (decide (i ≤ j))) opLe := od_cmp
theorem od_gt : OpD K (rI0 fun i j => .bl (decide (j < i))) opGt := od_cmp
theorem od_ge : OpD K (rI0 fun i j => .bl (decide (j ≤ i))) opGe := od_cmp
mutual
theorem toPy_ok {H : Hp} : ∀ {d : D} {v : V} {p : PyData}, DR K H v d → toPy d = some p → Dp K H v p
  | .non, _, _, h, e => by cases h; unfold toPy at e; cases e; exact .non
  | .bl b, _, _, h, e => by cases h; unfold toPy at e; cases e; exact .bl b
  | .int i, _, _, h, e => by cases h; unfold toPy at e; cases e; exact .int i
  | .str x, _, _, h, e => by cases h; unfold toPy at e; cases e; exact .str x
  | .lst xs, _, _, h, e => by
    unfold toPy at e
    cases z : toPys xs with
    | none => rw [z] at e; cases e
    | some ps =>
      rw [z] at e
      cases e
      cases h with
      | lst h1 d1 => exact .lst (SqL.of h1) (toPys_ok d1 z)
  | .frz xs, _, _, h, e => by
    unfold toPy at e
    cases z : toPys xs with
    | none => rw [z] at e; cases e
    | some ps =>
      rw [z] at e
      cases e
      cases h with
      | frz h1 d1 => exact .lst h1 (toPys_ok d1 z)
  | .tup xs, _, _, h, e => by
    unfold toPy at e
    cases z : toPys xs with
    | none => rw [z] at e; cases e
    | some ps =>
      rw [z] at e
      cases e
      cases h with
      | tup h1 d1 => exact .tup h1 (toPys_ok d1 z)
  | .obj _ _, _, _, _, e => by unfold toPy at e; cases e
  | .ty _, _, _, _, e => by unfold toPy at e; cases e
  | .cl _, _, _, _, e => by unfold toPy at e; cases e
theorem toPys_ok {H : Hp} : ∀ {ds : List D} {vs : List V} {ps : List PyData}, DRs K H vs ds → toPys ds = some ps → DpAll K H vs ps
  | [], _, _, h, e => by cases h; unfold toPys at e; cases e; exact .nil
  | d :: ds, _, _, h, e => by
    unfold toPys at e
    split at e
    case h_2 => cases e
    rename_i h1 h2
    cases e
    cases h with
    | cons a b => exact .cons (toPy_ok a h1) (toPys_ok b h2)
end
theorem shaped_int (i : Int) : SeqAt.shaped (.int i) = true := by
  unfold SeqAt.shaped
  simp [PyData.canLay0, PyData.depth]
theorem eqD_ok {H : Hp} {x y : V} {a b : D} {k : Bool} (hx : DR K H x a) (hy : DR K H y b) (e : eqD a b = some k) :
    (∃ p q, Dp K H x p ∧ Dp K H y q ∧ SeqAt.shaped p = true ∧ SeqAt.shaped q = true ∧ PyData.eqv p q = k) ∨ (scal x y = true ∧ decide (x = y) = k) := by
  unfold eqD at e
  split at e
  · cases e
    cases hx; cases hy
    exact .inl ⟨_, _, .int _, .int _, shaped_int _, shaped_int _, by simp only [PyData.eqv]; exact Bool.beq_eq_decide_eq _ _⟩
  · cases e
    cases hx; cases hy
    exact .inr ⟨rfl, by simp⟩
  · split at e
    case h_2 => cases e
    rename_i h1 h2
    split at e
    case isFalse => cases e
    rename_i hf
    rw [Bool.and_eq_true] at hf
    cases e
    exact .inl ⟨_, _, toPy_ok hx h1, toPy_ok hy h2, hf.1, hf.2, rfl⟩
def rEqA (K : PySem.W.Frag) : R2 := fun x y H Q => rEqD K x y H Q ∨ rEq x y H Q
def rNeA (K : PySem.W.Frag) : R2 := fun x y H Q => rNeD K x y H Q ∨ rNe x y H Q
theorem op_eqA {X : Cx} (hu : X.A.units + 64 < cLine) : OpR X (compareOp .Eq) (rEqA X.K) := (op_eqD hu).or op_eq
theorem op_neA {X : Cx} (hu : X.A.units + 64 < cLine) : OpR X (compareOp .NotEq) (rNeA X.K) := (op_neD hu).or op_ne
theorem dp_mono {H H' : Hp} (s : Same H H') {x : V} {d : D} {p : PyData} (h : DR K H x d) (e : toPy d = some p) : Dp K H' x p := toPy_ok (h.mono s) e
theorem od_eq : OpD K (rEqA K) opEq := fun H Hs x y dx dy res s hx hy e Q k => by
  unfold opEq at e
  cases z : eqD dx dy with
  | none => rw [z] at e; cases e
  | some b =>
    rw [z] at e
    cases e
    rcases eqD_ok (hx.mono s) (hy.mono s) z with ⟨p, q, a1, a2, a3, a4, a5⟩ | ⟨a1, a2⟩
    · exact .inl ⟨p, q, a1, a2, a3, a4, by rw [a5]; exact k _ H Hs (Ext.refl s) (.bl _)⟩
    · exact .inr ⟨a1, by rw [a2]; exact k _ H Hs (Ext.refl s) (.bl _)⟩
theorem od_ne : OpD K (rNeA K) opNe := fun H Hs x y dx dy res s hx hy e Q k => by
  unfold opNe at e
  cases z : eqD dx dy with
  | none => rw [z] at e; cases e
  | some b =>
    rw [z] at e
    cases e
    rcases eqD_ok (hx.mono s) (hy.mono s) z with ⟨p, q, a1, a2, a3, a4, a5⟩ | ⟨a1, a2⟩
    · exact .inl ⟨p, q, a1, a2, a3, a4, by rw [a5]; exact k _ H Hs (Ext.refl s) (.bl _)⟩
    · exact .inr ⟨a1, by rw [a2]; exact k _ H Hs (Ext.refl s) (.bl _)⟩
theorem isN_ok {H : Hp} {x : V} {d : D} (h : DR K H x d) : decide (x = .non) = isN d := by
  cases h <;> simp [isN]
theorem od_is : OpD K rIsA opIs := fun H Hs x y dx dy res s hx hy e Q k => by
  unfold opIs at e
  cases z : isD dx dy with
  | none => rw [z] at e; cases e
  | some b =>
    rw [z] at e
    cases e
    unfold isD at z
    split at z
    · cases z
      cases hy
      exact .inl ⟨rfl, by rw [isN_ok hx]; exact k _ H Hs (Ext.refl s) (.bl _)⟩
    · cases z
      cases hx; cases hy
      exact .inr ⟨_, _, rfl, rfl, k _ H Hs (Ext.refl s) (.bl _)⟩
    · cases z
theorem od_isNot : OpD K rIsNotA opIsNot := fun H Hs x y dx dy res s hx hy e Q k => by
  unfold opIsNot at e
  cases z : isD dx dy with
  | none => rw [z] at e; cases e
  | some b =>
    rw [z] at e
    cases e
    unfold isD at z
    split at z
    · cases z
      cases hy
      exact .inl ⟨rfl, by rw [isN_ok hx]; exact k _ H Hs (Ext.refl s) (.bl _)⟩
    · cases z
      cases hx; cases hy
      exact .inr ⟨_, _, rfl, rfl, k _ H Hs (Ext.refl s) (.bl _)⟩
    · cases z
theorem od_ix : OpD K (rIx K) opIx := fun H Hs x y dx dy res s hx hy e Q k => by
  have fin : ∀ {vs : List V} {ds : List D} {i : Int}, DRs K Hs vs ds → (atI ds i).map R.im = some res → ∃ w, atI vs i = some w ∧ Q w H := fun {vs ds i} h z => by
    cases z1 : atI ds i with
    | none => rw [z1] at z; cases z
    | some d =>
      rw [z1] at z
      cases z
      obtain ⟨w, w1, w2⟩ := at_ok h z1
      exact ⟨w, w1, k w H Hs (Ext.refl s) w2⟩
  unfold opIx at e
  split at e
  · cases hx with
    | lst h1 d1 =>
      cases hy
      obtain ⟨w, w1, w2⟩ := fin d1 e
      exact .inl ⟨_, _, _, w, rfl, rfl, SqL.of (s _ _ h1), w1, w2⟩
  · cases hx with
    | frz h1 d1 =>
      cases hy
      obtain ⟨w, w1, w2⟩ := fin d1 e
      exact .inl ⟨_, _, _, w, rfl, rfl, same_lst s h1, w1, w2⟩
  · cases hx with
    | tup h1 d1 =>
      cases hy
      obtain ⟨w, w1, w2⟩ := fin d1 e
      exact .inr (.inl ⟨_, _, _, w, rfl, rfl, same_tup s h1, w1, w2⟩)
  · split at e
    case isFalse => cases e
    rename_i hf
    rename_i z i
    cases hx; cases hy
    cases z1 : atI z.cps.toList i with
    | none => rw [z1] at e; cases e
    | some c =>
      rw [z1] at e
      cases e
      exact .inr (.inr ⟨z, i, c, rfl, rfl, few_ok hf, z1, k _ H Hs (Ext.refl s) (.str _)⟩)
  · cases e
theorem ud_neg : UnD K (rU fun i => .int (-i)) unNeg := fun H Hs x dx res s hx e Q k => by
  unfold unNeg at e
  split at e
  case h_2 => cases e
  cases e
  cases hx
  exact ⟨_, rfl, k _ H Hs (Ext.refl s) (.int _)⟩
/-- slices of lists -/
def cutD (xs : List D) (lo hi : Option Int) : List D := (xs.drop (HT.sIx xs.length 0 lo)).take (HT.sIx xs.length xs.length hi - HT.sIx xs.length 0 lo)
theorem cut_ok {H : Hp} {vs : List V} {ds : List D} (h : DRs K H vs ds) (lo hi : Option Int) : DRs K H (cutV vs lo hi) (cutD ds lo hi) := by
  unfold cutV cutD
  rw [h.len]
  exact (h.drop _).take _
def slL (d : D) (lo hi : Option Int) : Option R := match asL d with
  | some xs => some (.ol (cutD xs lo hi))
  | none => none
theorem sd_list : SlD K (rSlL K) slL := fun H Hs x dx l h res s hx e Q k => by
  unfold slL at e
  cases z : asL dx with
  | none => rw [z] at e; cases e
  | some xs =>
    rw [z] at e
    cases e
    obtain ⟨a, vs, rfl, h1, d1⟩ := asL_ok hx z
    exact ⟨a, vs, rfl, same_lst s h1, fun p hp => k _ _ Hs (Ext.hid s hp) ⟨p, _, rfl, hp, upd_same, none_sub s hp, _, rfl, cut_ok d1 _ _⟩⟩
def slT (d : D) (lo hi : Option Int) : Option R := match d with
  | .tup xs => if HT.sIx xs.length 0 lo = 0 ∧ HT.sIx xs.length xs.length hi = xs.length then none else some (.im (.tup (cutD xs lo hi)))
  | _ => none
theorem sd_tup : SlD K (rSlT K) slT := fun H Hs x dx l h res s hx e Q k => by
  unfold slT at e
  split at e
  case h_2 => cases e
  split at e
  case isTrue => cases e
  rename_i hf
  cases e
  cases hx with
  | tup h1 d1 => exact ⟨_, _, rfl, same_tup s h1, by rw [d1.len]; exact hf, fun p hp => k _ _ _ (Ext.new s hp) (.tup (SqT.of upd_same) (cut_ok (d1.mono (Ext.new (o := HO.tup _) s hp).b) _ _))⟩

/-! ### built-ins -/
def cbAbs : List D → Option R
  | [.int i] => some (.im (.int (if i < 0 then -i else i)))
  | _ => none
def rAbs : List V → Hp → VK → Prop := fun xs H Q => ∃ i, xs = [.int i] ∧ Q (.int (if i < 0 then -i else i)) H
theorem cr_abs {X : Cx} : CallR X (.builtin "abs") rAbs := call_abs
theorem cd_abs : CbD K rAbs cbAbs := fun H Hs xs ds res s h e Q k => by
  unfold cbAbs at e
  split at e
  case h_2 => cases e
  cases e
  cases h with
  | cons a b => cases b; cases a; exact ⟨_, rfl, k _ H Hs (Ext.refl s) (.int _)⟩
def cbInt : List D → Option R
  | [.int i] => some (.im (.int i))
  | [.bl b] => some (.im (.int (if b then 1 else 0)))
  | _ => none
def rInt : List V → Hp → VK → Prop := fun xs H Q => (∃ i, xs = [.int i] ∧ Q (.int i) H) ∨ ∃ k, xs = [.bl k] ∧ Q (.int (if k then 1 else 0)) H
theorem cr_int {X : Cx} : CallR X (.type "int") rInt := call_int1
theorem cd_int : CbD K rInt cbInt := fun H Hs xs ds res s h e Q k => by
  unfold cbInt at e
  split at e
  · cases e
    cases h with
    | cons a b => cases b; cases a; exact .inl ⟨_, rfl, k _ H Hs (Ext.refl s) (.int _)⟩
  · cases e
    cases h with
    | cons a b => cases b; cases a; exact .inr ⟨_, rfl, k _ H Hs (Ext.refl s) (.int _)⟩
  · cases e
def lenD : D → Option Nat
  | .lst xs => some xs.length
  | .frz xs => some xs.length
  | .tup xs => some xs.length
  | .str x => if few x.length then some x.length else none
  | _ => none
def cbLen : List D → Option R
  | [d] => (lenD d).map fun n => .im (.int n)
  | _ => none
theorem cr_len {X : Cx} : CallR X (.builtin "len") (rLen X.K) := call_len
theorem lenD_ok {H : Hp} {x : V} {d : D} {n : Nat} (h : DR K H x d) (e : lenD d = some n) : LenV K x H n := by
  cases h with
  | lst h1 d1 => cases e; exact .inl ⟨_, SqL.of h1, d1.len.symm⟩
  | frz h1 d1 => cases e; exact .inl ⟨_, h1, d1.len.symm⟩
  | tup h1 d1 => cases e; exact .inr ⟨_, h1, d1.len.symm⟩
  | str x =>
    by_cases hf : few x.length = true
    · rw [show lenD (.str x) = some x.length from if_pos hf] at e
      cases e
      exact ⟨few_ok hf, rfl⟩
    · rw [show lenD (.str x) = none from if_neg hf] at e
      cases e
  | _ => cases e
theorem cd_len : CbD K (rLen K) cbLen := fun H Hs xs ds res s h e Q k => by
  unfold cbLen at e
  split at e
  case h_2 => cases e
  rename_i d
  cases z : lenD d with
  | none => rw [z] at e; cases e
  | some n =>
    rw [z] at e
    cases e
    cases h with
    | cons a b =>
      cases b
      exact ⟨_, n, rfl, lenD_ok (a.mono s) z, k _ H Hs (Ext.refl s) (.int _)⟩
def cbMax2 : List D → Option R
  | [.int i, .int j] => some (.im (.int (if j > i then j else i)))
  | _ => none
def cbMin2 : List D → Option R
  | [.int i, .int j] => some (.im (.int (if j < i then j else i)))
  | _ => none
def rMax2 : List V → Hp → VK → Prop := fun xs H Q => ∃ i j, xs = [.int i, .int j] ∧ Q (.int (if j > i then j else i)) H
def rMin2 : List V → Hp → VK → Prop := fun xs H Q => ∃ i j, xs = [.int i, .int j] ∧ Q (.int (if j < i then j else i)) H
theorem cr_max2 {X : Cx} (hc : X.calm = true) : CallR X (.builtin "max") rMax2 := call_max2 hc
theorem cr_min2 {X : Cx} (hc : X.calm = true) : CallR X (.builtin "min") rMin2 := call_min2 hc
theorem cd_max2 : CbD K rMax2 cbMax2 := fun H Hs xs ds res s h e Q k => by
  unfold cbMax2 at e
  split at e
  case h_2 => cases e
  cases e
  cases h with
  | cons a b =>
    cases b with
    | cons b c => cases c; cases a; cases b; exact ⟨_, _, rfl, k _ H Hs (Ext.refl s) (.int _)⟩
theorem cd_min2 : CbD K rMin2 cbMin2 := fun H Hs xs ds res s h e Q k => by
  unfold cbMin2 at e
  split at e
  case h_2 => cases e
  cases e
  cases h with
  | cons a b =>
    cases b with
    | cons b c => cases c; cases a; cases b; exact ⟨_, _, rfl, k _ H Hs (Ext.refl s) (.int _)⟩
def bools : List D → Option (List Bool)
  | [] => some []
  | .bl b :: ds => match bools ds with
    | some bs => some (b :: bs)
    | none => none
  | _ :: _ => none
theorem bools_ok {H : Hp} : ∀ {ds : List D} {vs : List V} {bs : List Bool}, DRs K H vs ds → bools ds = some bs → vs = bs.map V.bl
  | [], _, _, h, e => by cases h; cases e; rfl
  | d :: ds, _, _, h, e => by
    cases h with
    | cons a b =>
      unfold bools at e
      split at e
      · rename_i heq; cases heq
      · rename_i heq
        cases heq
        split at e
        case h_2 => cases e
        rename_i z
        cases e
        cases a
        rw [List.map_cons, ← bools_ok b z]
      · cases e
def cbAny : List D → Option R
  | [d] => match asL d with
    | some xs => (bools xs).map fun bs => .im (.bl (bs.any id))
    | none => none
  | _ => none
def cbAll : List D → Option R
  | [d] => match asL d with
    | some xs => (bools xs).map fun bs => .im (.bl (bs.all id))
    | none => none
  | _ => none
theorem cd_any : CbD K (rAny K) cbAny := fun H Hs xs ds res s h e Q k => by
  unfold cbAny at e
  split at e
  case h_2 => cases e
  split at e
  case h_2 => cases e
  rename_i ys z
  cases z1 : bools ys with
  | none => rw [z1] at e; cases e
  | some bs =>
    rw [z1] at e
    cases e
    cases h with
    | cons a b =>
      cases b
      obtain ⟨l, vs, rfl, h1, d1⟩ := asL_ok a z
      exact ⟨l, bs, rfl, by rw [← bools_ok d1 z1]; exact same_lst s h1, k _ H Hs (Ext.refl s) (.bl _)⟩
theorem cd_all : CbD K (rAll K) cbAll := fun H Hs xs ds res s h e Q k => by
  unfold cbAll at e
  split at e
  case h_2 => cases e
  split at e
  case h_2 => cases e
  rename_i ys z
  cases z1 : bools ys with
  | none => rw [z1] at e; cases e
  | some bs =>
    rw [z1] at e
    cases e
    cases h with
    | cons a b =>
      cases b
      obtain ⟨l, vs, rfl, h1, d1⟩ := asL_ok a z
      exact ⟨l, bs, rfl, by rw [← bools_ok d1 z1]; exact same_lst s h1, k _ H Hs (Ext.refl s) (.bl _)⟩
def cbTuple : List D → Option R
  | [.tup xs] => some (.im (.tup xs))
  | [d] => (asL d).map fun xs => .im (.tup xs)
  | _ => none
def rTupleOf (K : PySem.W.Frag) : List V → Hp → VK → Prop := fun xs H Q => ∃ p ys, xs = [.ref p] ∧ ((SqL K H p ys ∧ ∀ l, H l = none → Q (.ref l) (upd H l (.tup ys))) ∨ (SqT K H p ys ∧ Q (.ref p) H))
theorem cr_tuple {X : Cx} : CallR X (.type "tuple") (rTupleOf X.K) := call_tuple_of
theorem cd_tuple : CbD K (rTupleOf K) cbTuple := fun H Hs xs ds res s h e Q k => by
  unfold cbTuple at e
  split at e
  · cases e
    cases h with
    | cons a b =>
      cases b
      cases a with
      | tup h1 d1 => exact ⟨_, _, rfl, .inr ⟨same_tup s h1, k _ H Hs (Ext.refl s) (.tup h1 d1)⟩⟩
  · rename_i d _
    cases z : asL d with
    | none => rw [z] at e; cases e
    | some ys =>
      rw [z] at e
      cases e
      cases h with
      | cons a b =>
        cases b
        obtain ⟨l, vs, rfl, h1, d1⟩ := asL_ok a z
        exact ⟨l, vs, rfl, .inl ⟨same_lst s h1, fun p hp => k _ _ _ (Ext.new s hp) (.tup (SqT.of upd_same) (d1.mono (Ext.new (o := HO.tup vs) s hp).b))⟩⟩
  · cases e
def seqD : D → Option (List D)
  | .lst xs => some xs
  | .frz xs => some xs
  | .tup xs => some xs
  | _ => none
def cbList : List D → Option R
  | [d] => (seqD d).map fun xs => .ol xs
  | _ => none
def rListOf (K : PySem.W.Frag) : List V → Hp → VK → Prop := fun xs H Q => ∃ p ys, xs = [.ref p] ∧ (SqL K H p ys ∨ SqT K H p ys) ∧ ∀ l, H l = none → Q (.ref l) (upd H l (.lst ys))
theorem cr_list {X : Cx} : CallR X (.type "list") (rListOf X.K) := call_list_of
theorem cd_list : CbD K (rListOf K) cbList := fun H Hs xs ds res s h e Q k => by
  unfold cbList at e
  split at e
  case h_2 => cases e
  rename_i d
  cases z : seqD d with
  | none => rw [z] at e; cases e
  | some ys =>
    rw [z] at e
    cases e
    cases h with
    | cons a b =>
      cases b
      cases a with
      | lst h1 d1 => cases z; exact ⟨_, _, rfl, .inl (SqL.of (s _ _ h1)), fun p hp => k _ _ Hs (Ext.hid s hp) ⟨p, _, rfl, hp, upd_same, none_sub s hp, _, rfl, d1⟩⟩
      | frz h1 d1 => cases z; exact ⟨_, _, rfl, .inl (same_lst s h1), fun p hp => k _ _ Hs (Ext.hid s hp) ⟨p, _, rfl, hp, upd_same, none_sub s hp, _, rfl, d1⟩⟩
      | tup h1 d1 => cases z; exact ⟨_, _, rfl, .inr (same_tup s h1), fun p hp => k _ _ Hs (Ext.hid s hp) ⟨p, _, rfl, hp, upd_same, none_sub s hp, _, rfl, d1⟩⟩
      | _ => cases z
/-! isinstance of built-in types -/
def tyS : D → Option String
  | .non => some "NoneType"
  | .bl _ => some "bool"
  | .int _ => some "int"
  | .str _ => some "str"
  | .lst _ => some "list"
  | .frz _ => some "list"
  | .tup _ => some "tuple"
  | _ => none
def isiT (a b : String) : Option Bool :=
  if ["int", "bool", "str", "list", "tuple"].contains b then some (a == b || (a == "bool" && b == "int")) else none
theorem isiT_ok {a b : String} {k : Bool} (ha : ["NoneType", "bool", "int", "str", "list", "tuple"].contains a = true) (h : isiT a b = some k) : kitB a b = some k := by
  have hb : ["int", "bool", "str", "list", "tuple"].contains b = true := by
    unfold isiT at h
    split at h
    · assumption
    · cases h
  have key : (["NoneType", "bool", "int", "str", "list", "tuple"].all fun a => ["int", "bool", "str", "list", "tuple"].all fun b => decide (kitB a b = isiT a b)) = true := by decide +kernel
  rw [List.all_eq_true] at key
  have k1 := key a (by simpa using ha)
  rw [List.all_eq_true] at k1
  have k2 := of_decide_eq_true (k1 b (by simpa using hb))
  rw [k2]
  exact h
theorem tyS_ok {H : Hp} {x : V} {d : D} {t : String} (h : DR K H x d) (e : tyS d = some t) : TyX K H x (.type t) ∧ ["NoneType", "bool", "int", "str", "list", "tuple"].contains t = true := by
  cases h with
  | non => cases e; exact ⟨.base .non, by decide⟩
  | bl b => cases e; exact ⟨.base (.bl b), by decide⟩
  | int i => cases e; exact ⟨.base (.int i), by decide⟩
  | str x => cases e; exact ⟨.base (.str x), by decide⟩
  | lst h1 d1 => cases e; exact ⟨.base (.lst h1), by decide⟩
  | frz h1 d1 =>
    cases e
    rcases h1 with (h1 | ⟨o, h1⟩) | ⟨o, its, n, h1, h2, _⟩
    · exact ⟨.base (.lst h1), by decide⟩
    · exact ⟨.base (.frz h1), by decide⟩
    · exact ⟨.kList h1 h2, by decide⟩
  | tup h1 d1 =>
    cases e
    rcases h1 with (h1 | ⟨o, h1⟩) | ⟨o, its, n, h1, h2, _⟩
    · exact ⟨.base (.tup h1), by decide⟩
    · exact ⟨.fTuple h1, by decide⟩
    · exact ⟨.kTuple h1 h2, by decide⟩
  | _ => cases e
def cbIsi : List D → Option R
  | [d, .ty c] => match tyS d with
    | some t => (isiT t c).map fun k => .im (.bl k)
    | none => none
  | _ => none
theorem cd_isi : CbD K (rIsi K) cbIsi := fun H Hs xs ds res s h e Q k => by
  unfold cbIsi at e
  split at e
  case h_2 => cases e
  rename_i d c
  cases z : tyS d with
  | none => rw [z] at e; cases e
  | some t =>
    simp only [z] at e
    cases z1 : isiT t c with
    | none => rw [z1] at e; cases e
    | some b =>
      rw [z1] at e
      cases e
      cases h with
      | cons a a2 =>
        cases a2 with
        | cons a2 a3 =>
          cases a3
          cases a2
          obtain ⟨t1, t2⟩ := tyS_ok (a.mono s) z
          exact ⟨_, _, _, _, b, rfl, .ty c, t1, kit_ty (isiT_ok t2 z1), k _ H Hs (Ext.refl s) (.bl _)⟩
end
end Bk
/-! Bk6: defs that compute on data; the law's end; repr. -/
namespace Bk
open PySem L2

/-! ### repr -/
def okShow (p : PyData) : Bool := p.showable && decide (p.depth ≤ 64) && decide (p.hasDict = false) && decide (p.shown.length ≤ sizeLine)
def cbRepr : List D → Option R
  | [d] => match toPy d with
    | some p => if okShow p then some (.im (.str p.shown)) else none
    | none => none
  | _ => none
def rRepr (K : PySem.W.Frag) : List V → Hp → VK → Prop := fun xs H Q => ∃ x p, xs = [x] ∧ Dp K H x p ∧ okShow p = true ∧ Q (.str p.shown) H
theorem cr_repr {X : Cx} (hg : X.A.guards = some []) (hu : X.A.units + 70 < cLine) : CallR X (.builtin "repr") (rRepr X.K) := by
  intro pins s σ H xs us Q I r h
  obtain ⟨x, p, rfl, hp, hok, q⟩ := h
  obtain ⟨u, rfl, rx⟩ := vals1 r
  unfold okShow at hok
  rw [Bool.and_eq_true, Bool.and_eq_true, Bool.and_eq_true] at hok
  obtain ⟨⟨⟨h1, h2⟩, h3⟩, h4⟩ := hok
  have h2 := of_decide_eq_true h2
  have h3 := of_decide_eq_true h3
  have h4 := of_decide_eq_true h4
  have fin : ∀ (h' : Heap) (tk : Nat) (t : Tok), (∀ b o, s.heap.get? b = some o → h'.get? b = some o) → EP X pins σ Q (.str p.shown t) { s with heap := h', toks := tk } :=
    fun h' tk t kp => ⟨.str p.shown, H, I.kept kp, ⟨t, rfl⟩, q⟩
  obtain ⟨as, rd⟩ := Dp.reads I p x u hp rx
  cases rd with
  | none => exact PySem.P.repr_of_none (by simpa only [PyData.shown] using fin s.heap (s.toks + 1) s.toks fun _ _ z => z)
  | bool b => exact PySem.P.repr_of_bool (by simpa only [PyData.shown] using fin s.heap (s.toks + 1) s.toks fun _ _ z => z)
  | int i t => exact PySem.P.repr_of_int (by simpa [PyData.showable] using h1) (by simpa only [PyData.shown] using fin s.heap (s.toks + 1) s.toks fun _ _ z => z)
  | str y t => exact PySem.P.repr_of_str (by simpa only [PyData.shown] using fin s.heap (s.toks + 1) s.toks fun _ _ z => z) (by simpa only [PyData.shown] using h4)
  | list a b c d => exact repr_of_reads' (.list a b c d) h1 (PyData.noDict_hsm h3) hg (by omega) (fun _ _ z => z) (fun h' t tk kp => fin h' tk t kp) h4
  | tuple a b c d => exact repr_of_reads' (.tuple a b c d) h1 (PyData.noDict_hsm h3) hg (by omega) (fun _ _ z => z) (fun h' t tk kp => fin h' tk t kp) h4
  | dict a b c d e => exact repr_of_reads' (.dict a b c d e) h1 (PyData.noDict_hsm h3) hg (by omega) (fun _ _ z => z) (fun h' t tk kp => fin h' tk t kp) h4
section
variable {K : PySem.W.Frag}
theorem cd_repr : CbD K (rRepr K) cbRepr := fun H Hs xs ds res s h e Q k => by
  unfold cbRepr at e
  split at e
  case h_2 => cases e
  split at e
  case h_2 => cases e
  rename_i p z
  split at e
  case isFalse => cases e
  rename_i hf
  cases e
  cases h with
  | cons a b => cases b; exact ⟨_, p, rfl, toPy_ok (a.mono s) z, hf, k _ H Hs (Ext.refl s) (.str _)⟩
end

/-! ### defs -/
def pad (n : Nat) (ds : List D) : Gam := ds.map Ent.im ++ List.replicate (n - ds.length) Ent.un
def outF : Option (Fl × Gam) → Option R
  | some (.rt r, _) => some r
  | some (.nx, _) => some (.im .non)
  | _ => none
def runF (k n : Nat) (b : MS) (ds : List D) : Option R := if ds.length = k then outF (b (pad n ds)) else none
def outB : Option (Fl × Gam) → Option (R × Mob)
  | some (.rt r, .bx bs :: _) => some (r, bs)
  | some (.nx, .bx bs :: _) => some (.im .non, bs)
  | _ => none
def runB (k n : Nat) (b : MS) (bs : Mob) (ds : List D) : Option (R × Mob) := if ds.length + 1 = k then outB (b (.bx bs :: pad (n - 1) ds)) else none
/-- what stands but is hidden -/
def hid (H Hs : Hp) : Hp := fun a => match Hs a with
  | none => H a
  | some _ => none
theorem hid_some {H Hs : Hp} {a : Addr} {o : HO} (h : hid H Hs a = some o) : H a = some o ∧ Hs a = none := by
  unfold hid at h
  cases z : Hs a with
  | none => rw [z] at h; exact ⟨h, rfl⟩
  | some u => rw [z] at h; cases h
theorem hid_of {H Hs : Hp} {a : Addr} {o : HO} (h : H a = some o) (n : Hs a = none) : hid H Hs a = some o := by
  unfold hid
  rw [n]
  exact h
section
variable {K : PySem.W.Frag}
theorem pad_get {n : Nat} {ds : List D} {i : Nat} {e : Ent} (h : (pad n ds)[i]? = some e) : (∃ d, ds[i]? = some d ∧ e = .im d) ∨ e = .un := by
  unfold pad at h
  rw [List.getElem?_append] at h
  split at h
  · rw [List.getElem?_map] at h
    cases z : ds[i]? with
    | none => rw [z] at h; cases h
    | some d => rw [z] at h; cases h; exact .inl ⟨d, rfl, rfl⟩
  · exact .inr (List.eq_of_mem_replicate (List.mem_of_getElem? h))
theorem pad_len (n : Nat) (ds : List D) (h : ds.length ≤ n) : (pad n ds).length = n := by
  unfold pad
  rw [List.length_append, List.length_map, List.length_replicate]
  omega
theorem start_get {N : List PySem.Str} {vs : List V} {i : Nat} {v : V} (h : vs[i]? = some v) : (L2.start N vs)[i]? = some (some v) := by
  unfold L2.start
  have hl : i < (vs.map some).length := by
    rw [List.length_map]
    exact (List.getElem?_eq_some_iff.mp h).1
  rw [List.getElem?_append_left hl, List.getElem?_map, h]
  rfl
theorem start_len {N : List PySem.Str} {vs : List V} (h : vs.length ≤ N.length) : (L2.start N vs).length = N.length := by
  unfold L2.start
  rw [List.length_append, List.length_map, List.length_replicate]
  omega
theorem rel_start {N : List PySem.Str} {H Hs : Hp} {vs : List V} {ds : List D} (s : Same Hs H) (d : DRs K Hs vs ds) (hl : vs.length ≤ N.length) : Rel K (hid H Hs) (fun _ => 0) (pad N.length ds) (L2.start N vs) H Hs := by
  refine ⟨s, fun a o h => hid_some h, by rw [start_len hl, pad_len _ _ (by rw [← d.len]; exact hl)], fun i e h => ?_, fun i e es h h0 => ?_, fun i j e e' l h1 _ m1 _ _ _ => ?_, fun i es h => ?_⟩
  · rcases pad_get h with ⟨e', h1, h2⟩ | h2
    · cases h2
      obtain ⟨v, v1, v2⟩ := d.at h1
      exact ⟨v, start_get v1, v2⟩
    · cases h2
  · rcases pad_get h with ⟨e', _, h2⟩ | h2
    · subst h2; cases h0
    · subst h2; cases h0
  · rcases pad_get h1 with ⟨e', _, h2⟩ | h2
    · subst h2; exact absurd rfl m1
    · subst h2; exact absurd rfl m1
  · rcases pad_get h with ⟨e', _, h2⟩ | h2
    · cases h2
    · cases h2
/-- behind a def's body: what the caller wants to know -/
theorem ext_end {Fz : Hp} {ba : Nat → Addr} {G : Gam} {σ : L2.St} {H Hs H' Hs' : Hp} (s : Same Hs H) (hf : Fz = hid H Hs) (q : Rel K Fz ba G σ H' Hs') (z : Same Hs Hs') : Ext H Hs H' Hs' := by
  subst hf
  refine ⟨fun a o h => ?_, z, q.sub, fun a o h n => (q.fz a o (hid_of h n)).2⟩
  cases y : Hs a with
  | none => exact (q.fz a o (hid_of h y)).1
  | some u =>
    have e := s a u y
    rw [h] at e
    cases e
    exact q.sub a o (z a o y)
theorem res_end {Fz : Hp} {G : Gam} {σ : L2.St} {H Hs H' Hs' : Hp} {v : V} {r : R} (hf : Fz = hid H Hs) (z : Same Hs Hs') (x : Res K Fz G σ H' Hs' v r) : ResF K H H' Hs' v r := by
  subst hf
  cases r with
  | im d => exact x
  | ow ds =>
    obtain ⟨p, vs, rfl, h1, h2, h3, h4, _⟩ := x
    refine ⟨p, vs, rfl, ?_, h1, h2, h4⟩
    cases y : H p with
    | none => rfl
    | some o =>
      cases y2 : Hs p with
      | some u =>
        rw [z p u y2] at h2
        cases h2
      | none =>
        rw [hid_of y y2] at h3
        cases h3
theorem fin_F {N : List PySem.Str} {k : Nat} {t : TS} {b : MS} (h : SOk K t b) (hk : k ≤ N.length) {vs : List V} {H : Hp} {Q : VK} {E : XK} (q : spF K (runF k N.length b) vs H Q E) : t { nx := fun _ H' => Q .non H', rt := Q } (L2.start N vs) H := by
  obtain ⟨Hs, ds, r, s, d, e, kk⟩ := q
  unfold runF at e
  split at e
  case isFalse => cases e
  rename_i hl
  have hv : vs.length ≤ N.length := by rw [d.len, hl]; exact hk
  have R0 := rel_start (N := N) s d hv
  cases z : b (pad N.length ds) with
  | none => rw [z] at e; cases e
  | some p =>
    obtain ⟨fl, G'⟩ := p
    rw [z] at e
    refine h _ _ _ _ _ _ fl G' R0 z _ ?_
    cases fl with
    | nx => cases e; exact fun σ' H' Hs' q1 s1 => kk .non H' Hs' (ext_end s rfl q1 s1) .non
    | rt r' => cases e; exact fun v σ' H' Hs' q1 s1 x => kk v H' Hs' (ext_end s rfl q1 s1) (res_end rfl s1 x)
    | bk => cases e
    | ct => cases e
theorem spF_len {k n : Nat} {b : MS} {vs : List V} {H : Hp} {Q : VK} {E : XK} (q : spF K (runF k n b) vs H Q E) : vs.length = k := by
  obtain ⟨Hs, ds, r, s, d, e, kk⟩ := q
  unfold runF at e
  split at e
  case isFalse => cases e
  rename_i hl
  rw [d.len, hl]
/-- the same with a list that may change -/
def hidB (l : Addr) (H Hs : Hp) : Hp := fun a => if a = l then none else hid H Hs a
theorem hidB_of {l : Addr} {H Hs : Hp} {a : Addr} {o : HO} (ne : a ≠ l) (h : H a = some o) (n : Hs a = none) : hidB l H Hs a = some o := by
  unfold hidB
  rw [if_neg ne]
  exact hid_of h n
theorem rel_startB {N : List PySem.Str} {H Hs : Hp} {l : Addr} {bvs : HO} {vs : List V} {bds : Mob} {ds : List D} (s : Same Hs H) (hl : H l = some bvs) (hn : Hs l = none) (hb : MobO K Hs bds bvs) (d : DRs K Hs vs ds) (hz : vs.length + 1 ≤ N.length) :
    Rel K (hidB l H Hs) (fun _ => l) (.bx bds :: pad (N.length - 1) ds) (L2.start N (.ref l :: vs)) H Hs := by
  have e0 : L2.start N (.ref l :: vs) = some (.ref l) :: (vs.map some ++ List.replicate (N.length - (vs.length + 1)) none) := rfl
  have sg : ∀ {i : Nat} {v : V}, vs[i]? = some v → (L2.start N (.ref l :: vs))[i + 1]? = some (some v) := fun {i v} h => start_get (vs := .ref l :: vs) (by simpa using h)
  refine ⟨s, fun a o h => ?_, ?_, fun i e h => ?_, fun i e es h h0 => ?_, fun i j e e' l' h1 h2 m1 m2 _ _ => ?_, fun i es h => ?_⟩
  · unfold hidB at h
    split at h
    · cases h
    · exact hid_some h
  · rw [start_len (by simpa using hz), List.length_cons, pad_len _ _ (by rw [← d.len]; omega)]
    omega
  · cases i with
    | zero => cases h
    | succ i =>
      rcases pad_get (show (pad (N.length - 1) ds)[i]? = some _ by simpa using h) with ⟨e', h1, h2⟩ | h2
      · cases h2
        obtain ⟨v, v1, v2⟩ := d.at h1
        exact ⟨v, sg v1, v2⟩
      · cases h2
  · cases i with
    | zero =>
      cases h
      cases h0
      exact ⟨l, bvs, by rw [e0]; rfl, hl, hn, by unfold hidB; rw [if_pos rfl], hb⟩
    | succ i =>
      rcases pad_get (show (pad (N.length - 1) ds)[i]? = some _ by simpa using h) with ⟨e', _, h2⟩ | h2
      · subst h2; cases h0
      · subst h2; cases h0
  · have only : ∀ {i : Nat} {e : Ent}, (Ent.bx bds :: pad (N.length - 1) ds)[i]? = some e → e.mu ≠ none → i = 0 := fun {i e} h m => by
      cases i with
      | zero => rfl
      | succ i =>
        rcases pad_get (show (pad (N.length - 1) ds)[i]? = some _ by simpa using h) with ⟨e', _, h2⟩ | h2
        · subst h2; exact absurd rfl m
        · subst h2; exact absurd rfl m
    rw [only h1 m1, only h2 m2]
  · cases i with
    | zero => rw [e0]; rfl
    | succ i =>
      rcases pad_get (show (pad (N.length - 1) ds)[i]? = some _ by simpa using h) with ⟨e', _, h2⟩ | h2
      · cases h2
      · cases h2
theorem fin_B {N : List PySem.Str} {k : Nat} {t : TS} {b : MS} (h : SOk K t b) (hk : k ≤ N.length) {vs : List V} {H : Hp} {Q : VK} {E : XK} (q : spB K (runB k N.length b) vs H Q E) : t { nx := fun _ H' => Q .non H', rt := Q } (L2.start N vs) H := by
  obtain ⟨Hs, l, vs', bvs, bds, ds, r, bds', rfl, s, hl, hn, hb, d, e, kk⟩ := q
  unfold runB at e
  split at e
  case isFalse => cases e
  rename_i hlen
  have R0 := rel_startB (N := N) s hl hn hb d (by rw [d.len, hlen]; exact hk)
  -- what the caller wants to know
  have ex : ∀ {G σ H' Hs' bs}, Rel K (hidB l H Hs) (fun _ => l) (.bx bs :: G) σ H' Hs' → Same Hs Hs' → ExtB l H Hs H' Hs' ∧ ∃ ws, H' l = some ws ∧ Hs' l = none ∧ MobO K Hs' bs ws := fun {G σ H' Hs' bs} q1 s1 => by
    have hs0 : σ[0]? = some (some (.ref l)) := q1.bx 0 bs rfl
    obtain ⟨l', ws, a1, a2, a3, a4, a5⟩ := q1.mu 0 _ bs rfl rfl
    rw [hs0] at a1
    cases a1
    refine ⟨⟨fun a o ne h => ?_, s1, q1.sub, fun a o h n => ?_⟩, ws, a2, a3, a5⟩
    · cases y : Hs a with
      | none => exact (q1.fz a o (hidB_of ne h y)).1
      | some u =>
        have e := s a u y
        rw [h] at e
        cases e
        exact q1.sub a o (s1 a o y)
    · by_cases ne : a = l
      · rw [ne]; exact a3
      · exact (q1.fz a o (hidB_of ne h n)).2
  have rs : ∀ {G σ H' Hs' bs v r}, Rel K (hidB l H Hs) (fun _ => l) (.bx bs :: G) σ H' Hs' → Same Hs Hs' → Res K (hidB l H Hs) (.bx bs :: G) σ H' Hs' v r → ResF K H H' Hs' v r := fun {G σ H' Hs' bs v r} q1 s1 x => by
    cases r with
    | im d => exact x
    | ow ds =>
      obtain ⟨p, vs, rfl, h1, h2, h3, h4, h5⟩ := x
      have ne : p ≠ l := fun y => by
        subst y
        exact h5 0 _ rfl (by simp [Ent.mu]) (q1.bx 0 bs rfl)
      refine ⟨p, vs, rfl, ?_, h1, h2, h4⟩
      cases y : H p with
      | none => rfl
      | some o =>
        cases y2 : Hs p with
        | some u =>
          rw [s1 p u y2] at h2
          cases h2
        | none =>
          rw [hidB_of ne y y2] at h3
          cases h3
  cases z : b (.bx bds :: pad (N.length - 1) ds) with
  | none => rw [z] at e; cases e
  | some p =>
    obtain ⟨fl, G'⟩ := p
    rw [z] at e
    refine h _ _ _ _ _ _ fl G' R0 z _ ?_
    cases fl with
    | nx =>
      cases G' with
      | nil => cases e
      | cons e0 G' =>
        cases e0 with
        | bx bs =>
          cases e
          intro σ' H' Hs' q1 s1
          obtain ⟨x1, ws, x2, x3, x4⟩ := ex q1 s1
          exact kk .non H' Hs' ws x1 x2 x3 x4 .non
        | _ => cases e
    | rt r' =>
      cases G' with
      | nil => cases e
      | cons e0 G' =>
        cases e0 with
        | bx bs =>
          cases e
          intro v σ' H' Hs' q1 s1 x
          obtain ⟨x1, ws, x2, x3, x4⟩ := ex q1 s1
          exact kk v H' Hs' ws x1 x2 x3 x4 (rs q1 s1 x)
        | _ => cases e
    | bk => cases e
    | ct => cases e
theorem spB_len {k n : Nat} {b : MS} {vs : List V} {H : Hp} {Q : VK} {E : XK} (q : spB K (runB k n b) vs H Q E) : vs.length = k := by
  obtain ⟨Hs, l, vs', bvs, bds, ds, r, bds', rfl, s, hl, hn, hb, d, e, kk⟩ := q
  unfold runB at e
  split at e
  case isFalse => cases e
  rename_i hl
  rw [List.length_cons, d.len, hl]
end
theorem scope_le {N ps : List PySem.Str} {sc : Scope} (S : FnScope N ps sc) : ps.length ≤ N.length := by
  have h := congrArg List.length S.pre
  rw [List.length_take] at h
  omega
section
variable {P : Program} {w : World} {K : PySem.W.Frag} {mg : PySem.Str → Option Value} {base : Heap}
theorem data_F {x qual : PySem.Str} {st : Stmt} {f : Addr} {fd : FuncData} {N ps : List PySem.Str} {k : Nat} {b : MS} (F : Fun K x qual st f fd) (S : FnScope N ps (defScope st))
    (hb : ∀ (cdv : Value) (A : Around) (outer : List Env) (s : Shared) (H : Hp) (E : XK), Room k (A.deeper (PyProof.Rows.envOfC qual (defScope st) s.heap.objs.size f cdv)) →
      ∃ t, PSs (cxOf CX0 P w K mg base N qual (defScope st) f cdv A outer s H E).nox (defBody st) t ∧ SOk K t b) : FnOk P w K mg base CX0 (k + 1) f fd ps (spF K (runF ps.length N.length b)) :=
  F.ok S (fun vs H Q E q => spF_len q) fun cdv A outer s H vs Q E hr q => by
    obtain ⟨t, h1, h2⟩ := hb cdv A outer s H E hr
    exact ⟨t, h1, fin_F h2 (scope_le S) q⟩
theorem data_B {x qual : PySem.Str} {st : Stmt} {f : Addr} {fd : FuncData} {N ps : List PySem.Str} {k : Nat} {b : MS} (F : Fun K x qual st f fd) (S : FnScope N ps (defScope st))
    (hb : ∀ (cdv : Value) (A : Around) (outer : List Env) (s : Shared) (H : Hp) (E : XK), Room k (A.deeper (PyProof.Rows.envOfC qual (defScope st) s.heap.objs.size f cdv)) →
      ∃ t, PSs (cxOf CX0 P w K mg base N qual (defScope st) f cdv A outer s H E).nox (defBody st) t ∧ SOk K t b) : FnOk P w K mg base CX0 (k + 1) f fd ps (spB K (runB ps.length N.length b)) :=
  F.ok S (fun vs H Q E q => spB_len q) fun cdv A outer s H vs Q E hr q => by
    obtain ⟨t, h1, h2⟩ := hb cdv A outer s H E hr
    exact ⟨t, h1, fin_B h2 (scope_le S) q⟩
end
end Bk
/-! Bk7: the law's own call. -/
namespace Bk
open PySem L2 PyProof.Rows

section
variable {P : Program} {w : World} {K : PySem.W.Frag} {mg : PySem.Str → Option Value} {base : Heap}
/-- the law's def called with one object, no call around it -/
theorem call_law {nm qual x : PySem.Str} {st : Stmt} {f a : Addr} {fd : FuncData} {N : List PySem.Str} {k : Nat} {b : MS} {s : Shared} {H : Hp} {Q : VK} (F : Fun K nm qual st f fd) (S : FnScope N [x] (defScope st)) (hr : Room (k + 1) callerA)
    (hb : ∀ (cdv : Value) (s : Shared) (H : Hp) (E : XK), (callerA.deeper (PyProof.Rows.envOfC qual (defScope st) s.heap.objs.size f cdv)).guards = some [] → Room k (callerA.deeper (PyProof.Rows.envOfC qual (defScope st) s.heap.objs.size f cdv)) →
      ∃ t, PSs (cxOf CX0 P w K mg base N qual (defScope st) f cdv callerA [] s H E).nox (defBody st) t ∧ SOk K t b)
    (e0 : Env0 P w K mg base callerA [] s H) (bd0 : BindsTo s fd ⟨[.ref a], []⟩ [(x, .ref a)]) (q : spF K (runF 1 N.length b) [.ref a] H Q E0) :
    codeAny (model P w) callerA (.call (.ref f) ⟨[.ref a], []⟩) (CR CX0 [] P w H s Q E0) s := by
  obtain ⟨oc, od, kV, doc, pm, an, cdv, ct, osl, rfl, lk, hcd⟩ := F.ex
  have KX : K.In s.heap := e0.mod.kin.keeps fun c o z => (e0.bs c o z).1
  have lim : s.heap.NoLimit := e0.mod.nolimit.keeps fun c o z => (e0.bs c o z).1
  have hpar := S.par x List.mem_cons_self
  refine codeAny_call_function hr.depth (KX f _ lk) rfl S.co S.gen rfl (PySem.W.codeRec_of KX hcd) (bd0 _ _ _ _ ?_)
  have hkd : ∀ y ∈ [(x, Value.ref a)], (defScope st).names.lookup y.1 = some .local ∨ ((defScope st).names.lookup y.1 = some .cell ∧ ((cellsFrom (s.heap.objs.size + 1) (defScope st).names []).lookup y.1).isSome = true) := by
    intro y hy
    obtain rfl := List.mem_singleton.mp hy
    rcases hpar with z | z
    · exact .inl z
    · exact .inr ⟨z, PySem.W.cellsFrom_some _ _ _ (.inl z)⟩
  refine wpAny_newFunctionEnv_cells S.kind hkd fun env he s1 y => ?_
  subst he
  refine ⟨lim.keeps y.toInCall.keep, codeAny_func ?_⟩
  obtain ⟨t, ht, hs⟩ := hb cdv s H E0 rfl (hr.deeper _)
  have I : Inv (cxOf CX0 P w K mg base N qual (defScope st) f cdv callerA [] s H E0) [] (L2.start N [.ref a]) H s1 := inv_start S hr.hd e0 rfl (.cons rfl .nil) y
  refine wpAny_mono (ht.nox.run [] s1 _ H _ I (fin_F hs (scope_le S) q)) (fun fl s2 h2 => ?_) fun e s2 h2 => h2
  cases fl with
  | ret u =>
    obtain ⟨v, σ2, H2, J, rv, q2⟩ := h2
    exact ⟨v, H2, J.os, J.bare, J.base, J.hok, rv, q2⟩
  | next =>
    obtain ⟨σ2, H2, J, q2⟩ := h2
    exact ⟨V.non, H2, J.os, J.bare, J.base, J.hok, rfl, q2⟩
  | brk =>
    obtain ⟨_, _, _, q2⟩ := h2
    exact q2.elim
  | cont =>
    obtain ⟨_, _, _, q2⟩ := h2
    exact q2.elim
end

/-- the goal that the head leaves, from what the law's body computes -/
theorem law_end {l : PySem.W.OpenLaw} {q : Program} {loose : List PySem.Str} {XP : (PySem.Str → Option Value) → Heap → Prop} {YP : World → Heap → Prop} {d : DefRec} {K : Params → PySem.W.Frag} {x : PySem.Str} {m : List D → Option R}
    (hn : l.most = some 63) (hdf : d.params.defaults = []) (hY : ∀ (w : World) (h : Heap), YP w h → (K w.params).In h)
    (F : ∀ (w : World) (mg : PySem.Str → Option Value) (fa : Addr) (h : Heap), (K w.params).In h → h.Ns mainGlobals mg → mg d.name = some (.ref fa) →
      ∃ fd : FuncData, (∀ (s : Shared) (u : Value), BindsTo s fd ⟨[u], []⟩ [(x, u)]) ∧
        ∀ (base : Heap) (s : Shared) (H : Hp) (a : Addr) (Q : VK), (K w.params).In base → base.Ns mainGlobals mg → Env0 l.prog w (K w.params) mg base callerA [] s H → BindsTo s fd ⟨[.ref a], []⟩ [(x, .ref a)] → spF (K w.params) m [.ref a] H Q E0 →
          codeAny (model l.prog w) callerA (.call (.ref fa) ⟨[.ref a], []⟩) (CR CX0 [] l.prog w H s Q E0) s)
    (hm : ∀ ns : List Int, ns.length ≤ 63 → m [.frz (ns.map .int)] = some (.im (.bl true))) :
    PySem.W.WalkO q loose XP YP l.row.toRowW d [] (fun f vs => PySem.call f vs) := by
  refine Att.attach_call hn hdf fun w s0 s1 mg mb fa o pm cd doc a vs ns G Y ho hd hcd hmg hobj hints hlen hg => ?_
  have KX := hY w _ Y
  obtain ⟨fd, hb, hF⟩ := F w mg fa _ KX G.T.g hmg
  have rv := vals_ints hints
  have hz : (ns.map V.int).length ≤ sizeLine := by rw [List.length_map]; exact Nat.le_trans hlen (by decide)
  have hsz : vs.toArray.size ≤ sizeLine := by rw [List.size_toArray, ← rv.length]; exact hz
  -- the run, from an abstract heap that knows the script at most
  have go : ∀ H : Hp, (∀ c, H c ≠ none → c = a) → (∀ c, H c = none ∨ ∃ ob xs, H c = some (.frz ob (.lst xs))) → SqL (K w.params) H a (ns.map V.int) → HOk l.prog w H s1.heap → (H a ≠ none → (K w.params).lookup a = none) →
      codeAny (model l.prog w) callerA (.call (.ref fa) ⟨[.ref a], []⟩) (fun r s' => r = .ok (.ret (.bool true)) ∧ OldK s1.heap s'.heap ∧ s'.os = s1.os ∧ AllBare s'.gens) s1 := by
    intro H hA hO hS hok hK
    have keepB : ∀ {c : Addr} {ob : Obj}, s1.heap.get? c = some ob → H c = none → (hidT s1.heap H).get? c = some ob := fun e n => hidT_get e n
    have free : ∀ {c : Addr} {ob : Obj}, s1.heap.get? c = some ob → (∀ its n, ob.data ≠ .seq its n) → H c = none := fun {c ob} e nd => by
      cases z : H c with
      | none => rfl
      | some u =>
        have e' := hA c (by rw [z]; simp)
        subst e'
        rw [hobj] at e
        cases e
        exact absurd rfl (nd _ _)
    have nsB : ∀ {c : Addr} {m : PySem.Str → Option Value}, s1.heap.Ns c m → (hidT s1.heap H).Ns c m := fun {c m} ⟨ob, es, ep, e, dd, r⟩ => ⟨ob, es, ep, keepB e (free e fun its n z => by rw [dd] at z; cases z), dd, r⟩
    have KB : (K w.params).In (hidT s1.heap H) := fun c ob e => keepB (KX c ob e) (by
      cases z : H c with
      | none => rfl
      | some u =>
        have e' := hA c (by rw [z]; simp)
        subst e'
        rw [hK (by rw [z]; simp)] at e
        cases e)
    have MB : Mod (K w.params) mg (hidT s1.heap H) := ⟨KB, nsB G.T.g, ⟨mb, nsB G.T.b, G.T.builtins⟩, let ⟨mc, z1, z2⟩ := G.T.nolimit; ⟨mc, nsB z1, z2⟩⟩
    have e0 : Env0 l.prog w (K w.params) mg (hidT s1.heap H) callerA [] s1 H :=
      ⟨rfl, MB, fun c ob e => of_hidT e, Nat.le_of_eq (hidT_size _ _), trivial, fun c hc => absurd (show c ∈ ([] : List Addr) from hc) (by simp), hok, .of_eq hg⟩
    have sp : spF (K w.params) m [.ref a] H (fun v _ => v = .bl true) E0 :=
      ⟨H, _, _, Same.refl _, .cons (.frz hS (DRs.ints ns)) .nil, hm ns hlen, fun v H' Hs' _ r => dr_bl r⟩
    refine codeAny_mono (hF _ s1 H a _ KB (nsB G.T.g) e0 (hb s1 _) sp) fun r s2 h2 => ?_
    cases r with
    | error e => exact h2.elim
    | ok fl =>
      cases fl with
      | next => exact h2.elim
      | brk => exact h2.elim
      | cont => exact h2.elim
      | ret u =>
        obtain ⟨v, H2, os, bare, un, hok2, rv2, qv⟩ := h2
        have qv' : v = .bl true := qv
        subst qv'
        obtain rfl : u = Value.bool true := rv2
        refine ⟨rfl, OldK.of_keep fun c ob e => ?_, os, bare⟩
        rcases hO c with z | ⟨ob2, xs, z⟩
        · exact un.keep c ob e z (by intro y; exact absurd (show c ∈ ([] : List Addr) from y) (by simp)) (by simp)
        · have y := un.frzs c ob2 _ z
          obtain ⟨y1, _⟩ := hok c _ z
          obtain ⟨y2, _⟩ := hok2 c _ y
          rw [e] at y1
          cases y1
          exact y2
  cases hk : (K w.params).lookup a with
  | some ob =>
    have e := KX a ob hk
    rw [hobj] at e
    cases e
    exact go (fun _ => none) (fun c z => absurd rfl z) (fun _ => .inl rfl) (.inr ⟨_, vs.toArray, _, hk, rfl, rfl, rfl, hsz, by simpa using rv⟩) (fun c u z => by cases z) fun z => absurd rfl z
  | none =>
    have yes : ∀ {u : HO}, (if a = a then some u else none) = some u := fun {u} => if_pos rfl
    refine go (fun c => if c = a then some (.frz { cls := .type "list", data := .seq vs.toArray } (.lst (ns.map V.int))) else none) (fun c z => ?_) (fun c => ?_) (.inl (.inr ⟨_, yes⟩)) (fun c u z => ?_) fun _ => hk
    · refine Classical.byContradiction fun ne => z (if_neg ne)
    · by_cases e : c = a
      · exact .inr ⟨_, _, if_pos e⟩
      · exact .inl (if_neg e)
    · by_cases e : c = a
      · subst e
        have z' := yes.symm.trans z
        cases z'
        exact ⟨hobj, hz, vs, _, rv, hobj⟩
      · have z' := (if_neg e).symm.trans z
        cases z'
end Bk
/-! Bk8: more constructs; the facts of a text. -/
namespace Bk
open PySem L2 PyProof.Rows

/-! ### slices of lists and tuples; the whole turned about -/
def rSlA (K : PySem.W.Frag) : V → Option Int → Option Int → Hp → VK → Prop := fun x lo hi H Q => rSlL K x lo hi H Q ∨ rSlT K x lo hi H Q
theorem sl_any {X : Cx} : SlR X (rSlA X.K) := sl_list.or sl_tup
def slA (d : D) (lo hi : Option Int) : Option R := match d with
  | .tup xs => slT (.tup xs) lo hi
  | d => slL d lo hi
section
variable {K : PySem.W.Frag}
theorem sd_any : SlD K (rSlA K) slA := fun H Hs x dx l h res s hx e Q k => by
  unfold slA at e
  split at e
  · exact .inr (sd_tup H Hs x _ l h res s hx e Q k)
  · exact .inl (sd_list H Hs x _ l h res s hx e Q k)
/-- xs[::k], k reckoned to be -1 -/
def tRevS (K : PySem.W.Frag) (te tk : TE) : TE := fun σ H Q => te σ H fun x H1 => tk σ H1 fun y H2 => y = .int (-1) ∧ (some (-1 : Int) = some (-1) ∧ ∃ a xs, x = .ref a ∧ SqL K H2 a xs ∧ ∀ p, H2 p = none → Q (.ref p) (upd H2 p (.lst xs.reverse)))
theorem pe_revS {X : Cx} {e st : Expr} {te tk : TE} {p3 pos : Pos} (he : PE X e te) (hk : PE X st tk) :
    PE X (.Subscript e (.Slice none none (some st) p3) pos) (tRevS X.K te tk) := by
  refine ⟨fun pins s σ H Q I h => ?_⟩
  refine Subscript_ (thn (he.run pins s σ H _ I h) fun v s1 ⟨x, H1, I1, r1, q1⟩ => ?_)
  refine wpAny_Slice (thn (po_none.run pins s1 σ H1 (fun o H2 => o = none ∧ H2 = H1) I1 ⟨rfl, rfl⟩) fun vl s2 ⟨l, H2, I2, pl, el, e2⟩ => ?_)
  subst el e2
  refine thn (po_none.run pins s2 σ H2 (fun o H3 => o = none ∧ H3 = H2) I2 ⟨rfl, rfl⟩) fun vu s3 ⟨u, H3, I3, pu, eu, e3⟩ => ?_
  subst eu e3
  have hst : PO X (some st) (fun σ H Q => tk σ H fun y H2 => y = .int (-1) ∧ Q (some (-1)) H2) := by
    refine ⟨fun pins s σ H Q I hw => ?_⟩
    rw [evalPart_some]
    refine thn (hk.run pins s σ H _ I hw) fun u s1 ⟨y, H1, I1, r1, q1⟩ => ?_
    obtain ⟨rfl, q⟩ := q1
    obtain ⟨t, rfl⟩ := r1
    exact ⟨some (-1), H1, I1, .int (-1) t, q⟩
  refine thn (hst.run pins s3 σ H3 (fun o H4 => o = some (-1) ∧ ∃ a xs, x = .ref a ∧ SqL X.K H4 a xs ∧ ∀ p, H4 p = none → Q (.ref p) (upd H4 p (.lst xs.reverse))) I3 q1) fun vs s4 ⟨o, H4, I4, ps, eo, a, xs, ex, hx, q⟩ => ?_
  subst eo ex
  cases r1
  have I5 : Inv X pins σ H4 { s4 with heap := s4.heap.push { cls := .type "slice", data := .fields #[vl, vu, vs] } } := I4.kept (t' := s4.toks) fun b ob q => Heap.get?_push_of_some _ q
  obtain ⟨its, r, ht, hz⟩ := I5.list hx
  have hlen := r.length
  show wpAny (model X.prog X.w) X.A (subscriptTail e (.Slice none none (some st) p3) (.ref a) (.ref s4.heap.objs.size)) (EP X pins σ Q) X.xe { s4 with heap := s4.heap.push { cls := .type "slice", data := .fields #[vl, vu, vs] } }
  refine tail_any (ops := [.ref a, .ref s4.heap.objs.size]) ht.isList.typeIs (PySem.slot_list_getitem.lookup) ?_ (by with_unfolding_all rfl)
  refine wpAny_getItem_list_slice ht.isList (Heap.IsSliceOf.new _ vl vu vs) pl pu ps (by decide) ?_ (by rw [List.size_toArray]; omega)
  rw [PySem.W.krv_pick]
  refine ⟨.ref _, _, I5.laid (t' := s4.toks) (o := .lst xs.reverse) (fun b ob q => Heap.get?_push_of_some _ q) (Nat.le_refl _) ?_, rfl, q _ (I5.hok.fresh (Nat.le_refl _))⟩
  exact ⟨by rw [List.length_reverse]; exact hz, _, 0, r.reverse, Heap.get?_push_size _ rfl⟩
def xrev (a b : M R) : M R := fun G => bd (a G) fun x G1 => bd (b G1) fun y G2 => match asL x.d, y.d with
  | some ds, .int k => if k = -1 then some (.ol ds.reverse, G2) else none
  | _, _ => none
theorem gk_rev {te tk : TE} {a b : M R} (ha : GOk K te a) (hb : GOk K tk b) : GOk K (tRevS K te tk) (xrev a b) := fun Fz ba G σ H Hs res G' q e Q k => by
  obtain ⟨x, G1, e1, e⟩ := bd_inv e
  obtain ⟨y, G2, e2, e⟩ := bd_inv e
  split at e
  case h_2 => cases e
  rename_i ds n h1 h2
  split at e
  case isFalse => cases e
  rename_i hn
  cases e
  refine ha.im q e1 fun v1 H1 Hs1 q1 s1 d1 => ?_
  refine hb.im q1 e2 fun v2 H2 Hs2 q2 s2 d2 => ?_
  rw [h2] at d2
  obtain ⟨a1, x1, rfl, l1, r1⟩ := asL_ok (d1.mono s2) h1
  refine ⟨by rw [dr_int d2, hn], rfl, a1, x1, rfl, same_lst q2.sub l1, fun p hp => ?_⟩
  have ex : Ext H2 Hs2 (upd H2 p (.lst x1.reverse)) Hs2 := Ext.hid q2.sub hp
  have rf : ResF K H2 (upd H2 p (.lst x1.reverse)) Hs2 (.ref p) (.ol ds.reverse) := ⟨p, _, rfl, hp, upd_same, none_sub q2.sub hp, _, rfl, r1.rev⟩
  exact k _ _ _ (q2.ext ex) ((s1.trans s2).trans ex.b) (rf.res q2)

/-! ### lists and tuples walked -/
def iSeq (K : PySem.W.Frag) (tl : TE) : TI := fun σ H R => tl σ H fun x H1 => ∃ a, x = .ref a ∧ (((∃ xs, SqL K H1 a xs) ∧ R (Itl K a) H1) ∨ ((∃ xs, SqT K H1 a xs) ∧ R (Itt K a) H1))
theorem pi_seq {X : Cx} {tg l : Expr} {tl : TE} (hl : PE X l tl) : PI X tg l (iSeq X.K tl) := by
  refine ⟨fun pins s σ H R I h => ?_⟩
  refine thn (hl.run pins s σ H _ I h) fun v s1 ⟨x, H1, I1, r1, q1⟩ => ?_
  obtain ⟨a, ex, hh⟩ := q1
  subst ex
  cases r1
  have fp : ∀ b ∈ [s1.heap.objs.size], FpOk X pins H1 b := fun b hb => by
    have e : b = s1.heap.objs.size := by simpa using hb
    subst e
    exact I1.fpOk (Nat.le_refl _) I1.fresh
  rcases hh with ⟨⟨xs, hq⟩, q⟩ | ⟨⟨xs, hq⟩, q⟩
  · obtain ⟨its, rv, p, hz⟩ := I1.list hq
    exact wpAny_pyIter_list p.isList ⟨_, _, _, _, H1, rfl, I1.kept (t' := s1.toks) fun b o e => Heap.get?_push_of_some _ e, turn_list a _, ⟨_, Heap.get?_push_size _ rfl, rfl, rfl⟩, fp, q⟩
  · obtain ⟨its, rv, p, hz⟩ := I1.tuple hq
    exact wpAny_pyIter_tuple (show s1.heap.IsTuple a its.toArray from p) ⟨_, _, _, _, H1, rfl, I1.kept (t' := s1.toks) fun b o e => Heap.get?_push_of_some _ e, turn_tuple a _, ⟨_, Heap.get?_push_size _ rfl, rfl, rfl⟩, fp, q⟩
def xseqI (a : M R) : M (List D) := fun G => bd (a G) fun x G1 => match seqD x.d with
  | some ds => some (ds, G1)
  | none => none
theorem ik_seq {ta : TE} {a : M R} (ha : GOk K ta a) : IOk K (iSeq K ta) (xseqI a) := fun Fz ba G σ H Hs ds G' q e Q k => by
  obtain ⟨x, G1, e1, e⟩ := bd_inv e
  refine ha.im q e1 fun v H1 Hs1 q1 s1 d => ?_
  cases h : x.d with
  | lst es =>
    rw [h] at e d
    cases e
    cases d with
    | lst hl hd => exact ⟨_, rfl, .inl ⟨⟨_, SqL.of (q1.sub _ _ hl)⟩, k _ H1 Hs1 q1 s1 (yl_list (SqL.of hl) hd)⟩⟩
  | frz es =>
    rw [h] at e d
    cases e
    cases d with
    | frz hl hd => exact ⟨_, rfl, .inl ⟨⟨_, same_lst q1.sub hl⟩, k _ H1 Hs1 q1 s1 (yl_list hl hd)⟩⟩
  | tup es =>
    rw [h] at e d
    cases e
    cases d with
    | tup hl hd => exact ⟨_, rfl, .inr ⟨⟨_, same_tup q1.sub hl⟩, k _ H1 Hs1 q1 s1 (yl_tup hl hd)⟩⟩
  | _ => rw [h] at e; cases e
def opAddI : D → D → Option R
  | .int i, .int j => some (.im (.int (i + j)))
  | _, _ => none
theorem od_ipadd : OpD K (ipI fun i j => i + j) opAddI := fun H Hs x y dx dy res s hx hy e Q k => by
  unfold opAddI at e
  split at e
  case h_2 => cases e
  cases e
  cases hx; cases hy
  exact ⟨_, _, rfl, rfl, k _ H Hs (Ext.refl s) (.int _)⟩
theorem od_ipsub : OpD K (ipI fun i j => i - j) opSub := fun H Hs x y dx dy res s hx hy e Q k => by
  unfold opSub at e
  split at e
  case h_2 => cases e
  cases e
  cases hx; cases hy
  exact ⟨_, _, rfl, rfl, k _ H Hs (Ext.refl s) (.int _)⟩
end

theorem r70 {k : Nat} {A : Around} (hr : Room k A) : A.units + 70 < cLine := by
  have := hr.un
  omega
/-! ### the same rules with the written part named -/
section
variable {X : Cx} {K : PySem.W.Frag} (hK : X.K = K)
include hK
theorem kop_eq (hu : X.A.units + 64 < cLine) : OpR X (compareOp .Eq) (rEqA K) := hK ▸ op_eqA hu
theorem kop_ne (hu : X.A.units + 64 < cLine) : OpR X (compareOp .NotEq) (rNeA K) := hK ▸ op_neA hu
theorem kix : IxR X (rIx K) := hK ▸ ix_seq
theorem ksl : SlR X (rSlA K) := hK ▸ sl_any
theorem kpi_seq {tg l : Expr} {tl : TE} (hl : PE X l tl) : PI X tg l (iSeq K tl) := hK ▸ pi_seq hl
theorem kpi_zip {e e2 : Expr} {ta : TA} {p pos tpos : Pos} {elts : List Expr} {kk : Nat} (hg : Gl X "zip") (hm : X.mg "zip" = none) (ha : PA X [e, e2] ta)
    (hs : starEach [e, e2] X.env = (false, eval e X.env) :: starEach [e2] X.env := by rfl) (hpl : (backTo pos (starEach [e2] X.env)).any (·.1) = false := by rfl) :
    PI X (.Tuple elts kk tpos) (.Call (.Name "zip" p) [e, e2] [] pos) (iZip K ta) := hK ▸ pi_zip hg hm ha hs hpl
theorem kpi_enum {e : Expr} {ta : TA} {p pos tpos : Pos} {elts : List Expr} {kk : Nat} (hg : Gl X "enumerate") (hm : X.mg "enumerate" = none) (ha : PA X [e] ta) (hs : starEach [e] X.env = [(false, eval e X.env)] := by rfl) :
    PI X (.Tuple elts kk tpos) (.Call (.Name "enumerate" p) [e] [] pos) (iEnum K ta) := hK ▸ pi_enum hg hm ha hs
theorem kcr_len : CallR X (.builtin "len") (rLen K) := hK ▸ cr_len
theorem kcr_any (hc : X.calm = true) : CallR X (.builtin "any") (rAny K) := hK ▸ cr_any hc
theorem kcr_all (hc : X.calm = true) : CallR X (.builtin "all") (rAll K) := hK ▸ cr_all hc
theorem kcr_tuple : CallR X (.type "tuple") (rTupleOf K) := hK ▸ cr_tuple
theorem kcr_list : CallR X (.type "list") (rListOf K) := hK ▸ cr_list
theorem kcr_repr (hg : X.A.guards = some []) (hu : X.A.units + 70 < cLine) : CallR X (.builtin "repr") (rRepr K) := hK ▸ cr_repr hg hu
theorem kcr_isi : CallR X (.builtin "isinstance") (rIsi K) := hK ▸ call_isi
theorem kpe_rev {e st : Expr} {te tk : TE} {p3 pos : Pos} (he : PE X e te) (hk : PE X st tk) : PE X (.Subscript e (.Slice none none (some st) p3) pos) (tRevS K te tk) := hK ▸ pe_revS he hk
theorem kpg_tup {es : List Expr} {k : Nat} {t : TGs} {n : Nat} {pos : Pos} (hc : X.calm = true) (h : PGs X es t)
    (hn : (assignEach es X.env).length = n := by rfl) (hst : (assignEach es X.env).findIdx? (·.1) = none := by rfl) : PG X (.Tuple es k pos) (gTup K n t) := hK ▸ pg_tup hc h hn hst
def tTruK (K : PySem.W.Frag) (ta : TE) : TT := fun σ H Q => ta σ H fun x H' => ∃ k, TruV K x H' k ∧ Q k H'
theorem kpt_tru {a : Expr} {ta : TE} (ha : PE X a ta) (he : ∀ whole, isTrue a X.env whole = (do let v ← whole; standAt a.pos; holding [v] (truthy v))) : PT X a (tTruK K ta) := hK ▸ pt_truth ha he
theorem kpe_app {o e : Expr} {to te : TE} {apos cpos : Pos} (ho : PE X o to) (he : PE X e te)
    (hbase : attributeBase o "append" X.env (eval o X.env) = eval o X.env := by rfl)
    (hfew : ((backTo cpos (starEach [e] X.env)).all (fun x => !x.1) && (backToKw cpos (keywordEach [] X.env)).all (fun x => x.1.isSome) && decide ([e].length + ([] : List Keyword).length + (if ([] : List Keyword).isEmpty then 0 else 1) < 30)) = true := by rfl)
    (hline : (apos.endLine == cpos.line) = true := by rfl) (hs : starEach [e] X.env = (false, eval e X.env) :: starEach [] X.env := by rfl) (hplain : (backTo cpos (starEach [] X.env)).any (·.1) = false := by rfl) :
    PE X (.Call (.Attribute o "append" apos) [e] [] cpos) (tBM K "list" rAppend to (tCons te tNil)) :=
  hK ▸ pe_bm PySem.F.plainAttrs_list PySem.F.slot_list_append PySem.F.type_list_append mt_append ho (pa_cons he pa_nil hs) hbase hfew hline hs hplain
end
theorem tk_truK {K : PySem.W.Frag} {ta : TE} {a : M R} (ha : GOk K ta a) : TOk K (tTruK K ta) (xtru a) := tk_tru ha

/-- turns enough: one more than the number of the name at i -/
def fuelI (i : Nat) (G : Gam) : Nat := match G[i]? with
  | some (.im (.int j)) => j.natAbs + 1
  | _ => 0

/-! ### the facts of a text -/
/-- a def of the text, where it stands -/
structure FnT (K : PySem.W.Frag) (mg : PySem.Str → Option Value) (x : PySem.Str) (st : Stmt) where
  f : Addr
  fd : FuncData
  F : Fun K x x st f fd
  m : mg x = some (.ref f)
/-- a global that stands for data -/
structure CoT (K : PySem.W.Frag) (mg : PySem.Str → Option Value) (x : PySem.Str) (d : D) where
  v : V
  u : Value
  m : mg x = some u
  r : RelV v u
  d : ∀ H, DR K H v d
def coTup {K : PySem.W.Frag} {h : Heap} {mg : PySem.Str → Option Value} {x : PySem.Str} (X : K.In h) (G : h.Ns mainGlobals mg) {a : Addr} {dd : Option Addr} {its : Array Value} {n : Nat} {sl : Array (Option Value)} {vs : List V} {ds : List D}
    (ha : PySem.W.nsIn K mainGlobals x = some (some (.ref a))) (l : K.lookup a = some ⟨.type "tuple", dd, .seq its n, sl⟩) (hz : its.size ≤ sizeLine) (hv : Vals vs its.toList) (hd : ∀ H, DRs K H vs ds) : CoT K mg x (.tup ds) :=
  ⟨.ref a, .ref a, PySem.W.mg_of X G ha, rfl, fun H => .tup (.inr ⟨_, its, n, l, rfl, rfl, hz, hv⟩) (hd H)⟩
def fnT {K : PySem.W.Frag} {h : Heap} {mg : PySem.Str → Option Value} {x : PySem.Str} {st : Stmt} (X : K.In h) (G : h.Ns mainGlobals mg) {f : Addr} {od an : Option Addr} {sl : Array (Option Value)} {oc kV dc pm cd ct : Value}
    (a : PySem.W.nsIn K mainGlobals x = some (some (.ref f))) (l : K.lookup f = some ⟨oc, od, .func (PySem.W.fnOf x x (defArgs st) (defBody st) (defScope st) .none kV dc pm an cd ct), sl⟩) (c : PySem.W.codeIn K cd x = true) (k : PySem.W.keepIn K (.ref f) = true) : FnT K mg x st :=
  ⟨f, _, fun_mk l c k, PySem.W.mg_of X G a⟩
end Bk
/-! Bk9: enumerate over a list or a tuple. -/
namespace Bk
open PySem L2 PySem.Builtin PySem.Spec PyProof.Rows
theorem enum_of {v : Value} {o : Obj} {H : Heap → Prop} (B : Begins v o H) :
    Meets (Builtin.«enumerate.__new__» ⟨[.type "enumerate", v], []⟩) (fun _ R s => H s.heap ∧ R (.ok (.ret (.ref (s.heap.push o).objs.size)))
      { s with heap := (s.heap.push o).push { cls := .type "enumerate", data := .fields #[.none, .bool false, .ref s.heap.objs.size, rawInt 0, .none, .none] } }) :=
  .of_wp fun prog w A R s hh => by
    obtain ⟨hp, g, d, tk, os⟩ := s
    obtain ⟨hb, hr⟩ := hh
    have hsub := sub_enumerate
    have qi : ∀ {A' : Around} {E Q : Value → Shared → Prop}, Q (.ref hp.objs.size) ⟨hp.push o, g, d, tk, os⟩ → wpAny (model prog w) A' (pyIter v) Q E ⟨hp, g, d, tk, os⟩ := fun k => B.iter prog w _ _ ⟨hp, g, d, tk, os⟩ _ hb k
    wp_walk using qi
    refine wpAny_stack_any fun fr => wpAny_pure ?_
    split
    case h_1 c _ _ _ _ _ =>
      cases (c == Value.type "enumerate") <;> (wp_walk using qi; exact ⟨_, rfl, hr⟩)
    all_goals (wp_walk using qi; exact ⟨_, rfl, hr⟩)
theorem enum_call {prog : Program} {w : World} {A : Around} {E : Value → Shared → Prop} {s : Shared} {v : Value} {o : Obj} {H : Heap → Prop} {Q : Value → Shared → Prop} (B : Begins v o H) (h1 : H s.heap)
    (h : ∀ h', IsEnum h' (s.heap.objs.size + 1) s.heap.objs.size 0 .none → h'.get? s.heap.objs.size = some o → (∀ b ob, s.heap.get? b = some ob → h'.get? b = some ob) → Q (.ref (s.heap.objs.size + 1)) { s with heap := h' }) :
    wpAny (model prog w) A (call (.type "enumerate") [v]) Q E s := by
  have hz : (s.heap.push o).objs.size = s.heap.objs.size + 1 := Heap.size_push ..
  have he := Heap.get?_push_size (s.heap.push o) (o := { cls := .type "enumerate", data := .fields #[.none, .bool false, .ref s.heap.objs.size, rawInt 0, .none, .none] }) rfl
  rw [hz] at he
  refine callType_new F.called_enumerate (by decide) (F.typeCall_enumerate_1 _) (F.newCall_enumerate_1 _) (fun ob => F.args_object_init_2 ob _) F.entry_enumerate_new (enum_of B) ⟨h1, ?_⟩
  show _ ∧ _
  rw [hz]
  exact ⟨⟨_, he, rfl⟩, h _ he (Heap.get?_push_of_some _ (Heap.get?_push_size _ B.free)) fun b ob x => Heap.get?_push_of_some _ (Heap.get?_push_of_some _ x)⟩
theorem draws_end {prog : Program} {w : World} {A : Around} (hh : A.handled = none) (it t : Addr) (items : Array Value) (i : Nat) (hi : items.size ≤ i) :
    Draws prog w A it [it, t] i (fun _ _ => True) (fun j h => (h.IsTupleIter it t j ∧ h.IsTuple t items) ∧ j = i) where
  live := fun _ _ st => st.1.1.elim fun o ho => ⟨o, ho.1⟩
  frame := fun _ _ _ st hk => ⟨⟨st.1.1.at fun o e => hk it (by simp) o e, st.1.2.at fun o e => hk t (by simp) o e⟩, st.2⟩
  item := fun j s Q E hj st hQ => absurd st.2 (Nat.ne_of_lt hj)
  done := fun s Q E st hE => wpAny_nextOf_tuple_end hh st.1.1 st.1.2 (Array.getElem?_eq_none hi) hE
/-- the tuple at a, each item in a new pair -/
def Itet (K : PySem.W.Frag) (a : Addr) : It :=
  ⟨fun i H => ∃ (xs : List V) (x : V), SqT K H a xs ∧ xs[i]? = some x, fun i H v H' => ∃ T x, v = .ref T ∧ H T = none ∧ H' = upd H T (.tup [.int (i : Nat), x]) ∧ ∀ xs, SqT K H a xs → xs[i]? = some x, fun i H => ∃ xs : List V, SqT K H a xs ∧ xs.length ≤ i⟩
theorem turn_enumT {P : Program} {w : World} {K : PySem.W.Frag} {elts : List Expr} {kk : Nat} {tpos : Pos} (a e it : Addr) (hea : e ≠ a) (hta : a ≠ it) :
    Turn P w K (.Tuple elts kk tpos) (Itet K a) [e, it] e (fun i h => (∃ old, IsEnum h e it ((i : Nat) : Int) old) ∧ h.IsTupleIter it a i ∧ e ≠ it) where
  mem := by simp
  obj := fun i h st b hb => by
    obtain ⟨⟨old, he⟩, ⟨o, ho, hc, hd⟩, _⟩ := st
    have eb : b = e ∨ b = it := by simpa using hb
    rcases eb with rfl | rfl
    · exact ⟨_, he, fun v q => nomatch q⟩
    · exact ⟨o, ho, fun v q => by rw [hd] at q; cases q⟩
  keep := fun i h h' st k => ⟨st.1.elim fun old he => ⟨old, k e (by simp) _ he⟩, st.2.1.at fun o q => k it (by simp) o q, st.2.2⟩
  item := by
    intro X hP hw hK hc i pins s σ H E I hf st hg
    subst hP hw hK
    obtain ⟨⟨old, he⟩, hit, hne⟩ := st
    obtain ⟨xs, x, hq, hx⟩ := hg
    obtain ⟨its, rv, p, hz⟩ := I.tuple hq
    obtain ⟨u, hu, ru⟩ := rv.get hx
    have hlt : i < its.toArray.size := by
      have : i < its.length := (List.getElem?_eq_some_iff.mp hu).1
      simpa using this
    have hel : e < s.heap.objs.size := Heap.lt_size he
    have hil : it < s.heap.objs.size := by obtain ⟨_, q, _⟩ := hit; exact Heap.lt_size q
    refine wpAny_pyNext_enum_itemD (Draws.tuple (A := X.A.in1) (I.ok.hd hc) it a hta its.toArray) he ⟨hit, show s.heap.IsTuple a its.toArray from p⟩ hlt hne (by simp [hne, hea]) fun y h' tk hP ho st' hT hsz hk => ?_
    have ey : y = u := by
      have : its[i]? = some y := by simpa using hP
      rw [hu] at this
      cases this
      rfl
    subst ey
    refine ⟨_, rfl, wpAny_letOwnedTupleGo_enum (s := { s with heap := h', toks := tk + 1 }) ho fun h'' he' sb => ?_⟩
    have hT2 := (sb.2 _ (Nat.ne_of_gt hel)).trans hT
    have new : ObjOk X.prog X.w (upd H s.heap.objs.size (.tup [.int (i : Nat), x])) h'' s.heap.objs.size (.tup [.int (i : Nat), x]) :=
      ⟨by show 2 ≤ sizeLine; decide, [.int i tk, y], .cons ⟨_, rfl⟩ (.cons ru .nil), ⟨_, hT2, rfl, _, rfl⟩⟩
    have I1 : Inv X pins σ (upd H s.heap.objs.size (.tup [.int (i : Nat), x])) { s with heap := h'', toks := tk + 1 } :=
      I.turnedNew (ch := [e, it]) (fun b ob hb q => (sb.2 b (fun z => hb (by simp [z]))).trans (hk b ob (fun z => hb (by simp [z])) (fun z => hb (by simp [z])) q)) hf (Nat.le_refl _) new
    refine ⟨.ref s.heap.objs.size, _, I1, rfl, ⟨_, x, rfl, I.hok.fresh (Nat.le_refl _), rfl, fun ys hy => by rw [I.tuple_inj hy hq]; exact hx⟩, ⟨⟨y, ?_⟩, st'.1.at fun o q => (sb.2 it (Ne.symm hne)).trans q, hne⟩, fun b hb => ?_⟩
    · rw [show ((i + 1 : Nat) : Int) = (i : Int) + 1 by omega]
      exact he'
    · have eb : b = e ∨ b = it := by simpa using hb
      have hlb : b < s.heap.objs.size := by rcases eb with rfl | rfl; exact hel; exact hil
      rw [upd_ne (Nat.ne_of_lt hlb)]
      exact (hf b hb).1
  done := by
    intro X hP hw hK hc i pins s σ H E I hf st hg
    subst hP hw hK
    obtain ⟨⟨old, he⟩, hit, hne⟩ := st
    obtain ⟨xs, hq, hx⟩ := hg
    obtain ⟨its, rv, p, hz⟩ := I.tuple hq
    have hl := rv.length
    obtain ⟨f0, f1, f2, f3, f4, f5⟩ := hf it (by simp)
    exact wpAny_pyNext_enum_endD (draws_end (A := X.A.in1) (I.ok.hd hc) it a its.toArray i (by simp; omega)) he ⟨⟨hit, show s.heap.IsTuple a its.toArray from p⟩, rfl⟩ fun h' eb => ⟨rfl, I.turned (t' := s.toks) (fun b o hb q => eb b o hb q) f0 f1 f3 f4 f5⟩
  self := fun A i s Q E st h => let ⟨⟨_, he⟩, _⟩ := st; wpAny_pyIter_enum he h
/-- over a list or a tuple -/
def iEnumA (K : PySem.W.Frag) (ta : TA) : TI := fun σ H R => ta σ H fun vs H1 => ∃ a, vs = [.ref a] ∧ (((∃ xs, SqL K H1 a xs) ∧ R (Ite K a) H1) ∨ ((∃ xs, SqT K H1 a xs) ∧ R (Itet K a) H1))
theorem pi_enumA {X : Cx} {e : Expr} {ta : TA} {p pos tpos : Pos} {elts : List Expr} {kk : Nat} (hg : Gl X "enumerate") (hm : X.mg "enumerate" = none) (ha : PA X [e] ta) (hs : starEach [e] X.env = [(false, eval e X.env)] := by rfl) :
    PI X (.Tuple elts kk tpos) (.Call (.Name "enumerate" p) [e] [] pos) (iEnumA X.K ta) := by
  refine ⟨fun pins s σ H R I h => Call_ (ld_blt I hg hm boot_enumerate (callWith_type1 (thn (ha.run pos pins s σ H _ I h) fun us s1 ⟨vs, H1, I1, r1, a, ex, q⟩ => ?_) hs rfl))⟩
  subst ex
  cases r1 with
  | cons r rr =>
    cases rr
    cases r
    have fp : ∀ b ∈ [s1.heap.objs.size + 1, s1.heap.objs.size], FpOk X pins H1 b := fun b hb => by
      have eb : b = s1.heap.objs.size + 1 ∨ b = s1.heap.objs.size := by simpa using hb
      have hle : s1.heap.objs.size ≤ b := by
        rcases eb with rfl | rfl
        · exact Nat.le_succ _
        · exact Nat.le_refl _
      exact I1.fpOk hle (I1.hok.fresh hle)
    rcases q with ⟨⟨xs, hq⟩, q⟩ | ⟨⟨xs, hq⟩, q⟩
    · obtain ⟨its, rv, p', hz⟩ := I1.list hq
      exact call_enumerate_list p'.isList fun h' he hit hsz hk => wpAny_pyIter_enum he ⟨_, _, _, _, H1, rfl, I1.kept (t' := s1.toks) hk, turn_enum a _ _, ⟨⟨.none, he⟩, hit, Nat.succ_ne_self _⟩, fp, q⟩
    · obtain ⟨its, rv, p', hz⟩ := I1.tuple hq
      have hlt : a < s1.heap.objs.size := by obtain ⟨o, e, _⟩ := p'; exact Heap.lt_size e
      exact enum_call (begins_tuple a its.toArray) (show s1.heap.IsTuple a its.toArray from p') fun h' he hit hk => wpAny_pyIter_enum he
        ⟨_, _, _, _, H1, rfl, I1.kept (t' := s1.toks) hk, turn_enumT a _ _ (Nat.ne_of_gt (Nat.lt_succ_of_lt hlt)) (Nat.ne_of_lt hlt), ⟨⟨.none, he⟩, ⟨_, hit, rfl, rfl⟩, Nat.succ_ne_self _⟩, fp, q⟩
section
variable {K : PySem.W.Frag}
theorem yl_enumT {Hs : Hp} {a : Addr} {xs : List V} {ds : List D} (ha : SqT K Hs a xs) (da : DRs K Hs xs ds) : Yl K (Itet K a) (enumD 0 ds) Hs where
  go := fun i H s hi => by
    rw [enum_len] at hi
    exact ⟨xs, xs[i]'(by rw [da.len]; omega), same_tup s ha, by simp⟩
  stop := fun i H s hi => by
    rw [enum_len] at hi
    exact ⟨xs, same_tup s ha, by rw [da.len]; omega⟩
  yld := fun i x H H' Hs1 _ s s1 y => by
    obtain ⟨T, x1, rfl, hT, rfl, h1⟩ := y
    obtain ⟨d1, e1, r1⟩ := da.ta (h1 xs (same_tup (s.trans s1) ha))
    have ex : Ext H Hs1 (upd H T (.tup [.int (i : Nat), x1])) (upd Hs1 T (.tup [.int (i : Nat), x1])) := Ext.new s1 hT
    refine ⟨.tup [.int (i : Nat), d1], _, ?_, ex, .tup (SqT.of upd_same) (.cons (.int _) (.cons (r1.mono (s.trans ex.b)) .nil))⟩
    rw [enum_get e1, Nat.zero_add]
def xenumA (a : M (List D)) : M (List D) := fun G => bd (a G) fun xs G1 => match xs with
  | [x] => match seqD x with
    | some ds => some (enumD 0 ds, G1)
    | none => none
  | _ => none
theorem ik_enumA {ta : TA} {a : M (List D)} (ha : AOk K ta a) : IOk K (iEnumA K ta) (xenumA a) := fun Fz ba G σ H Hs ds G' q e Q k => by
  obtain ⟨xs, G1, e1, e⟩ := bd_inv e
  refine ha Fz ba G σ H Hs xs _ q e1 _ fun vs H1 Hs1 q1 s1 d => ?_
  split at e
  case h_2 => cases e
  rename_i x
  cases d with
  | cons d1 d2 =>
    cases d2
    cases h : seqD x with
    | none => rw [h] at e; cases e
    | some es =>
      rw [h] at e
      cases e
      cases x with
      | lst xs => cases h; obtain ⟨a1, x1, rfl, l1, r1⟩ := asL_ok d1 rfl; exact ⟨a1, rfl, .inl ⟨⟨_, same_lst q1.sub l1⟩, k _ H1 Hs1 q1 s1 (yl_enum l1 r1)⟩⟩
      | frz xs => cases h; obtain ⟨a1, x1, rfl, l1, r1⟩ := asL_ok d1 rfl; exact ⟨a1, rfl, .inl ⟨⟨_, same_lst q1.sub l1⟩, k _ H1 Hs1 q1 s1 (yl_enum l1 r1)⟩⟩
      | tup xs =>
        cases h
        cases d1 with
        | tup hl hd => exact ⟨_, rfl, .inr ⟨⟨_, same_tup q1.sub hl⟩, k _ H1 Hs1 q1 s1 (yl_enumT hl hd)⟩⟩
      | _ => cases h
end
theorem kpi_enumA {X : Cx} {K : PySem.W.Frag} (hK : X.K = K) {e : Expr} {ta : TA} {p pos tpos : Pos} {elts : List Expr} {kk : Nat} (hg : Gl X "enumerate") (hm : X.mg "enumerate" = none) (ha : PA X [e] ta) (hs : starEach [e] X.env = [(false, eval e X.env)] := by rfl) :
    PI X (.Tuple elts kk tpos) (.Call (.Name "enumerate" p) [e] [] pos) (iEnumA K ta) := hK ▸ pi_enumA hg hm ha hs
end Bk
/-! Bk10: zip over lists and tuples. -/
namespace Bk
open PySem L2 PySem.Builtin PySem.Spec PyProof.Rows
/-- a list (k) or a tuple -/
def SqK (K : PySem.W.Frag) (k : Bool) (a : Addr) (H : Hp) (xs : List V) : Prop := match k with
  | true => SqL K H a xs
  | false => SqT K H a xs
def ItK (k : Bool) (it a : Addr) (i : Nat) (h : Heap) : Prop := match k with
  | true => h.IsListIter it a i
  | false => h.IsTupleIter it a i
def InK (k : Bool) (a : Addr) (its : Array Value) (h : Heap) : Prop := match k with
  | true => h.IsList a its
  | false => h.IsTuple a its
def obK (k : Bool) (a : Addr) : Obj := match k with
  | true => { cls := .type "list_iterator", data := .fields #[.ref a, .int 0 0] }
  | false => { cls := .type "tuple_iterator", data := .fields #[.ref a, .int 0 0] }
theorem draws_k {prog : Program} {w : World} {A : Around} (hh : A.handled = none) (k : Bool) (it a : Addr) (hne : a ≠ it) (its : Array Value) : Draws prog w A it [it, a] its.size (fun i v => its[i]? = some v) (fun i h => ItK k it a i h ∧ InK k a its h) := by
  cases k
  · exact Draws.tuple hh it a hne its
  · exact Draws.list hh it a hne its
theorem drawsL_end {prog : Program} {w : World} {A : Around} (hh : A.handled = none) (it t : Addr) (items : Array Value) (i : Nat) (hi : items.size ≤ i) :
    Draws prog w A it [it, t] i (fun _ _ => True) (fun j h => (h.IsListIter it t j ∧ h.IsList t items) ∧ j = i) where
  live := fun _ _ st => st.1.1.elim fun o ho => ⟨o, ho.1⟩
  frame := fun _ _ _ st hk => ⟨⟨st.1.1.at fun o e => hk it (by simp) o e, st.1.2.at fun o e => hk t (by simp) o e⟩, st.2⟩
  item := fun j s Q E hj st hQ => absurd st.2 (Nat.ne_of_lt hj)
  done := fun s Q E st hE => wpAny_nextOf_list_end hh st.1.1 st.1.2 (Array.getElem?_eq_none hi) hE
theorem draws_stop {prog : Program} {w : World} {A : Around} (hh : A.handled = none) (k : Bool) (it a : Addr) (hne : a ≠ it) (its : Array Value) (i : Nat) {h : Heap} (h1 : ItK k it a i h) (h2 : InK k a its h) :
    ∃ n P St, Draws prog w A it [it, a] n P St ∧ St i h ∧ i ≤ n ∧ (its.size ≤ i → i = n) := by
  by_cases hi : its.size ≤ i
  · cases k
    · exact ⟨_, _, _, draws_end hh it a its i hi, ⟨⟨h1, h2⟩, rfl⟩, Nat.le_refl _, fun _ => rfl⟩
    · exact ⟨_, _, _, drawsL_end hh it a its i hi, ⟨⟨h1, h2⟩, rfl⟩, Nat.le_refl _, fun _ => rfl⟩
  · exact ⟨_, _, _, draws_k hh k it a hne its, ⟨h1, h2⟩, by omega, fun z => absurd z hi⟩
theorem begins_k (k : Bool) (a : Addr) (its : Array Value) : Begins (.ref a) (obK k a) (InK k a its) := by
  cases k
  · exact begins_tuple a its
  · exact begins_list a its
theorem itk_obj {k : Bool} {it a : Addr} {i : Nat} {h : Heap} (h1 : ItK k it a i h) : ∃ o, h.get? it = some o ∧ ∀ v, o.data ≠ .cell v := by
  cases k
  · obtain ⟨o, e, _, d⟩ := h1
    exact ⟨o, e, fun v q => by rw [d] at q; cases q⟩
  · obtain ⟨o, e, _, d⟩ := h1
    exact ⟨o, e, fun v q => by rw [d] at q; cases q⟩
theorem ItK.at {k : Bool} {it a : Addr} {i : Nat} {h h' : Heap} (h1 : ItK k it a i h) (hk : ∀ o, h.get? it = some o → h'.get? it = some o) : ItK k it a i h' := by
  cases k
  · exact Heap.IsTupleIter.at h1 hk
  · exact Heap.IsListIter.at h1 hk
theorem itk_new {k : Bool} {it a : Addr} {h : Heap} (e : h.get? it = some (obK k a)) : ItK k it a 0 h := by
  cases k
  · exact ⟨_, e, rfl, rfl⟩
  · exact ⟨_, e, rfl, rfl⟩
section
variable {X : Cx} {pins : List (Addr × Obj)} {σ : L2.St} {H : Hp} {s : Shared} {k : Bool} {a : Addr} {xs ys : List V}
theorem inv_k (I : Inv X pins σ H s) (h : SqK X.K k a H xs) : ∃ its : List Value, Vals xs its ∧ InK k a its.toArray s.heap ∧ a < s.heap.objs.size := by
  cases k
  · obtain ⟨its, r, p, _⟩ := I.tuple h
    exact ⟨its, r, show s.heap.IsTuple a its.toArray from p, by obtain ⟨o, e, _⟩ := p; exact Heap.lt_size e⟩
  · obtain ⟨its, r, p, _⟩ := I.list h
    exact ⟨its, r, p.isList, p.lt⟩
theorem inj_k (I : Inv X pins σ H s) (h : SqK X.K k a H xs) (h' : SqK X.K k a H ys) : xs = ys := by
  cases k
  · exact I.tuple_inj h h'
  · exact I.list_inj h h'
end
def ItZ (K : PySem.W.Frag) (k l : Bool) (a b : Addr) : It :=
  ⟨fun i H => ∃ (xs ys : List V) (x y : V), SqK K k a H xs ∧ SqK K l b H ys ∧ xs[i]? = some x ∧ ys[i]? = some y,
    fun i H v H' => ∃ T x y, v = .ref T ∧ H T = none ∧ H' = upd H T (.tup [x, y]) ∧ (∀ xs, SqK K k a H xs → xs[i]? = some x) ∧ ∀ ys, SqK K l b H ys → ys[i]? = some y,
    fun i H => ∃ xs ys : List V, SqK K k a H xs ∧ SqK K l b H ys ∧ (xs.length ≤ i ∨ ys.length ≤ i)⟩
theorem turn_zipK {P : Program} {w : World} {K : PySem.W.Frag} {elts : List Expr} {kk : Nat} {tpos : Pos} {k l : Bool} {a b z TI TO i1 i2 : Addr} (D : ZipSep2 z TI TO i1 i2 [i1, a] [i2, b]) (ha : a ≠ i1) (hb : b ≠ i2) :
    Turn P w K (.Tuple elts kk tpos) (ItZ K k l a b) [z, TI, TO, i1, i2] z (fun i h => IsZip h z TI TO .none ∧ IsTupOf2 h TI (.ref i1) (.ref i2) ∧ (∃ x y, IsTupOf2 h TO x y) ∧ ItK k i1 a i h ∧ ItK l i2 b i h) where
  mem := by simp
  obj := fun i h st c hc => by
    obtain ⟨hz, hTI, ⟨x, y, hTO⟩, h1, h2⟩ := st
    have ec : c = z ∨ c = TI ∨ c = TO ∨ c = i1 ∨ c = i2 := by simpa using hc
    rcases ec with rfl | rfl | rfl | rfl | rfl
    · exact ⟨_, hz, fun v q => nomatch q⟩
    · exact ⟨_, hTI, fun v q => nomatch q⟩
    · exact ⟨_, hTO, fun v q => nomatch q⟩
    · exact itk_obj h1
    · exact itk_obj h2
  keep := fun i h h' st kp => by
    obtain ⟨hz, hTI, ⟨x, y, hTO⟩, h1, h2⟩ := st
    exact ⟨kp z (by simp) _ hz, kp TI (by simp) _ hTI, ⟨x, y, kp TO (by simp) _ hTO⟩, h1.at fun o q => kp i1 (by simp) o q, h2.at fun o q => kp i2 (by simp) o q⟩
  item := by
    intro X hP hw hK hc i pins s σ H E I hf st hg
    subst hP hw hK
    obtain ⟨hz, hTI, ⟨x0, y0, hTO⟩, h1, h2⟩ := st
    obtain ⟨xs, ys, x, y, qx, qy, hx, hy⟩ := hg
    obtain ⟨its, rv, p, _⟩ := inv_k I qx
    obtain ⟨its2, rv2, p2, _⟩ := inv_k I qy
    obtain ⟨u, hu, ru⟩ := rv.get hx
    obtain ⟨u2, hu2, ru2⟩ := rv2.get hy
    have hlt : i < its.toArray.size := by simpa using (List.getElem?_eq_some_iff.mp hu).1
    have hlt2 : i < its2.toArray.size := by simpa using (List.getElem?_eq_some_iff.mp hu2).1
    have hzl : z < s.heap.objs.size := Heap.lt_size hz
    have lts : ∀ c ∈ [z, TI, TO, i1, i2], c < s.heap.objs.size := fun c hcm => by
      have ec : c = z ∨ c = TI ∨ c = TO ∨ c = i1 ∨ c = i2 := by simpa using hcm
      rcases ec with rfl | rfl | rfl | rfl | rfl
      · exact hzl
      · exact Heap.lt_size hTI
      · exact Heap.lt_size hTO
      · obtain ⟨_, e1, _⟩ := itk_obj h1; exact Heap.lt_size e1
      · obtain ⟨_, e2, _⟩ := itk_obj h2; exact Heap.lt_size e2
    refine wpAny_pyNext_zipD2_item D (draws_k (A := X.A.in1) (I.ok.hd hc) k i1 a ha its.toArray) (draws_k (A := X.A.in1) (I.ok.hd hc) l i2 b hb its2.toArray) hz hTI hTO ⟨h1, p⟩ ⟨h2, p2⟩ hlt hlt2 fun v1 v2 h' tk e1 e2 z' TO' st1 st2 hT hsz hk => ?_
    have ev1 : v1 = u := by
      have q : its[i]? = some v1 := by simpa using e1
      rw [hu] at q; cases q; rfl
    have ev2 : v2 = u2 := by
      have q : its2[i]? = some v2 := by simpa using e2
      rw [hu2] at q; cases q; rfl
    subst ev1 ev2
    refine ⟨_, rfl, wpAny_letOwnedTupleGo_zip (s := { s with heap := h', toks := tk }) z' fun h'' z'' sb => ?_⟩
    have hT2 : h''.get? s.heap.objs.size = some { cls := .type "tuple", data := .seq #[v1, v2] } := (sb.2 _ (Nat.ne_of_gt hzl)).trans hT
    have new : ObjOk X.prog X.w (upd H s.heap.objs.size (.tup [x, y])) h'' s.heap.objs.size (.tup [x, y]) := ⟨by show 2 ≤ sizeLine; decide, [v1, v2], .cons ru (.cons ru2 .nil), ⟨_, hT2, rfl, _, rfl⟩⟩
    have I1 : Inv X pins σ (upd H s.heap.objs.size (.tup [x, y])) { s with heap := h'', toks := tk } :=
      I.turnedNew (ch := [z, TI, TO, i1, i2]) (fun c o hcb q => (sb.2 c (fun q' => hcb (by simp [q']))).trans (hk c o (fun q' => hcb (by simp [q'])) (fun q' => hcb (by simp [q'])) (fun q' => hcb (by simp [q'])) (fun q' => hcb (by simp [q'])) q)) hf (Nat.le_refl _) new
    have n1 : i1 ≠ z := fun q => D.zf1 (q ▸ D.mem1)
    have n2 : i2 ≠ z := fun q => D.zf2 (q ▸ D.mem2)
    refine ⟨.ref s.heap.objs.size, _, I1, rfl, ⟨_, x, y, rfl, I.hok.fresh (Nat.le_refl _), rfl, fun l' hl => by rw [inj_k I hl qx]; exact hx, fun l' hl => by rw [inj_k I hl qy]; exact hy⟩, ⟨z'', ?_, ⟨v1, v2, (sb.2 _ D.TOz).trans TO'⟩, st1.1.at fun o q => (sb.2 _ n1).trans q, st2.1.at fun o q => (sb.2 _ n2).trans q⟩, fun c hcm => ?_⟩
    · exact (sb.2 _ D.TIz).trans (hk _ _ D.TIz D.TITO D.TIi1 D.TIi2 hTI)
    · rw [upd_ne (Nat.ne_of_lt (lts c hcm))]
      exact (hf c hcm).1
  done := by
    intro X hP hw hK hc i pins s σ H E I hf st hg
    subst hP hw hK
    obtain ⟨hz, hTI, ⟨x0, y0, hTO⟩, h1, h2⟩ := st
    obtain ⟨xs, ys, qx, qy, hend⟩ := hg
    obtain ⟨its, rv, p, _⟩ := inv_k I qx
    obtain ⟨its2, rv2, p2, _⟩ := inv_k I qy
    have l1 := rv.length
    have l2 := rv2.length
    obtain ⟨n1, P1, St1, D1, s1, le1, e1⟩ := draws_stop (prog := X.prog) (w := X.w) (A := X.A.in1) (I.ok.hd hc) k i1 a ha its.toArray i h1 p
    obtain ⟨n2, P2, St2, D2, s2, le2, e2⟩ := draws_stop (prog := X.prog) (w := X.w) (A := X.A.in1) (I.ok.hd hc) l i2 b hb its2.toArray i h2 p2
    exact wpAny_pyNext_zipD2_end D D1 D2 hz hTI hTO s1 s2 le1 le2 (by
      rcases hend with q | q
      · exact .inl (e1 (by simp; omega))
      · exact .inr (e2 (by simp; omega))) fun h' tk hk => ⟨rfl, I.turnedL (ch := [z, TI, TO, i1, i2]) (fun c o hcb q => hk c o (fun q' => hcb (by simp [q'])) (fun q' => hcb (by simp [q'])) (fun q' => hcb (by simp [q'])) (fun q' => hcb (by simp [q'])) q) hf⟩
  self := fun A i s Q E st h => wpAny_pyIter_zip st.1 h
def iZipA (K : PySem.W.Frag) (ta : TA) : TI := fun σ H R => ta σ H fun vs H1 => ∃ k l a b xs ys, vs = [.ref a, .ref b] ∧ SqK K k a H1 xs ∧ SqK K l b H1 ys ∧ R (ItZ K k l a b) H1
theorem pi_zipA {X : Cx} {e e2 : Expr} {ta : TA} {p pos tpos : Pos} {elts : List Expr} {kk : Nat} (hg : Gl X "zip") (hm : X.mg "zip" = none) (ha : PA X [e, e2] ta)
    (hs : starEach [e, e2] X.env = (false, eval e X.env) :: starEach [e2] X.env := by rfl) (hpl : (backTo pos (starEach [e2] X.env)).any (·.1) = false := by rfl) :
    PI X (.Tuple elts kk tpos) (.Call (.Name "zip" p) [e, e2] [] pos) (iZipA X.K ta) := by
  refine ⟨fun pins s σ H R I h => Call_ (ld_blt I hg hm PyProof.Rows.boot_zip (callWith_type1 (thn (ha.run pos pins s σ H _ I h) fun us s1 ⟨vs, H1, I1, r1, k, l, a, b, xs, ys, ex, qx, qy, q⟩ => ?_) hs hpl))⟩
  subst ex
  cases r1 with
  | cons r rr =>
    cases rr with
    | cons r' rr =>
      cases rr
      cases r
      cases r'
      obtain ⟨its, rv, p1, la⟩ := inv_k I1 qx
      obtain ⟨its2, rv2, p2, lb⟩ := inv_k I1 qy
      refine zip_begins2 (begins_k k a its.toArray) (begins_k l b its2.toArray) p1 p2 fun h' hz hTI hTO h1 h2 hsz hk => wpAny_pyIter_zip hz ?_
      have sep := zip_sep2 (N := s1.heap.objs.size) (fp1 := [a]) (fp2 := [b]) (by simpa using la) (by simpa using lb)
      refine ⟨_, _, _, _, H1, rfl, I1.kept (t' := s1.toks) hk, turn_zipK sep (Nat.ne_of_lt la) (Nat.ne_of_lt (Nat.lt_succ_of_lt lb)), ⟨hz, hTI, ⟨_, _, hTO⟩, itk_new h1, itk_new h2⟩, fun c hcm => ?_, q⟩
      have ec : c = s1.heap.objs.size + 4 ∨ c = s1.heap.objs.size + 2 ∨ c = s1.heap.objs.size + 3 ∨ c = s1.heap.objs.size ∨ c = s1.heap.objs.size + 1 := by simpa using hcm
      have hle : s1.heap.objs.size ≤ c := by
        rcases ec with rfl | rfl | rfl | rfl | rfl
        · exact Nat.le_add_right _ _
        · exact Nat.le_add_right _ _
        · exact Nat.le_add_right _ _
        · exact Nat.le_refl _
        · exact Nat.le_add_right _ _
      exact I1.fpOk hle (I1.hok.fresh hle)
theorem kpi_zipA {X : Cx} {K : PySem.W.Frag} (hK : X.K = K) {e e2 : Expr} {ta : TA} {p pos tpos : Pos} {elts : List Expr} {kk : Nat} (hg : Gl X "zip") (hm : X.mg "zip" = none) (ha : PA X [e, e2] ta)
    (hs : starEach [e, e2] X.env = (false, eval e X.env) :: starEach [e2] X.env := by rfl) (hpl : (backTo pos (starEach [e2] X.env)).any (·.1) = false := by rfl) :
    PI X (.Tuple elts kk tpos) (.Call (.Name "zip" p) [e, e2] [] pos) (iZipA K ta) := hK ▸ pi_zipA hg hm ha hs hpl
section
variable {K : PySem.W.Frag}
theorem same_k {k : Bool} {a : Addr} {H H' : Hp} {xs : List V} (s : Same H H') (h : SqK K k a H xs) : SqK K k a H' xs := by
  cases k
  · exact same_tup s h
  · exact same_lst s h
theorem seqD_ok {H : Hp} {v : V} {d : D} {ds : List D} (h : DR K H v d) (e : seqD d = some ds) : ∃ k a xs, v = .ref a ∧ SqK K k a H xs ∧ DRs K H xs ds := by
  cases d with
  | tup xs =>
    cases e
    cases h with
    | tup hl hd => exact ⟨false, _, _, rfl, hl, hd⟩
  | lst xs => obtain ⟨a, vs, z, hl, hd⟩ := asL_ok h e; exact ⟨true, a, vs, z, hl, hd⟩
  | frz xs => obtain ⟨a, vs, z, hl, hd⟩ := asL_ok h e; exact ⟨true, a, vs, z, hl, hd⟩
  | _ => cases e
theorem yl_zipA {Hs : Hp} {k l : Bool} {a b : Addr} {xs ys : List V} {ds es : List D} (ha : SqK K k a Hs xs) (hb : SqK K l b Hs ys) (da : DRs K Hs xs ds) (db : DRs K Hs ys es) : Yl K (ItZ K k l a b) ((ds.zip es).map fun p => .tup [p.1, p.2]) Hs where
  go := fun i H s hi => by
    rw [List.length_map, List.length_zip] at hi
    exact ⟨xs, ys, xs[i]'(by rw [da.len]; omega), ys[i]'(by rw [db.len]; omega), same_k s ha, same_k s hb, by simp, by simp⟩
  stop := fun i H s hi => by
    rw [List.length_map, List.length_zip] at hi
    exact ⟨xs, ys, same_k s ha, same_k s hb, by rw [da.len, db.len]; omega⟩
  yld := fun i x H H' Hs1 _ s s1 y => by
    obtain ⟨T, x1, y1, rfl, hT, rfl, h1, h2⟩ := y
    obtain ⟨d1, e1, r1⟩ := da.ta (h1 xs (same_k (s.trans s1) ha))
    obtain ⟨d2, e2, r2⟩ := db.ta (h2 ys (same_k (s.trans s1) hb))
    have ex : Ext H Hs1 (upd H T (.tup [x1, y1])) (upd Hs1 T (.tup [x1, y1])) := Ext.new s1 hT
    refine ⟨.tup [d1, d2], _, ?_, ex, .tup (SqT.of upd_same) (.cons (r1.mono (s.trans ex.b)) (.cons (r2.mono (s.trans ex.b)) .nil))⟩
    rw [List.getElem?_map, zip_get e1 e2]
    rfl
def xzipA (a : M (List D)) : M (List D) := fun G => bd (a G) fun xs G1 => match xs with
  | [x, y] => match seqD x, seqD y with
    | some ds, some es => some ((ds.zip es).map fun p => .tup [p.1, p.2], G1)
    | _, _ => none
  | _ => none
theorem ik_zipA {ta : TA} {a : M (List D)} (ha : AOk K ta a) : IOk K (iZipA K ta) (xzipA a) := fun Fz ba G σ H Hs ds G' q e Q k => by
  obtain ⟨xs, G1, e1, e⟩ := bd_inv e
  refine ha Fz ba G σ H Hs xs _ q e1 _ fun vs H1 Hs1 q1 s1 d => ?_
  split at e
  case h_2 => cases e
  split at e
  case h_2 => cases e
  rename_i h1 h2
  cases e
  cases d with
  | cons d1 d2 =>
    cases d2 with
    | cons d2 d3 =>
      cases d3
      obtain ⟨k1, a1, x1, rfl, l1, r1⟩ := seqD_ok d1 h1
      obtain ⟨k2, a2, x2, rfl, l2, r2⟩ := seqD_ok d2 h2
      exact ⟨k1, k2, a1, a2, x1, x2, rfl, same_k q1.sub l1, same_k q1.sub l2, k _ H1 Hs1 q1 s1 (yl_zipA l1 l2 r1 r2)⟩
end
end Bk
/-! Bk11: instances of the program's classes as data: attributes, calls, own operators. -/
namespace Bk
open PySem L2

/-! ### attributes -/
theorem cAttrs_nd (c : Nat) : (cAttrs c).Nodup := by
  match c with
  | 0 => decide +kernel
  | 1 => decide +kernel
  | 2 => decide +kernel
  | 3 => decide +kernel
  | 4 => decide +kernel
  | n + 5 => show (cAttrs 5).Nodup; decide +kernel
section
variable {K : PySem.W.Frag} {H : Hp}
theorem fs_get : ∀ {fs : List (PySem.Str × V)} {i : Nat} {v : V}, (fs.map (·.1)).Nodup → (fs.map (·.2))[i]? = some v → ∀ f, (fs.map (·.1))[i]? = some f → fs.lookup f = some v
  | [], _, _, _, h, _, _ => by simp at h
  | (g, x) :: r, 0, _, _, h, f, e => by
    simp at h e
    subst h e
    simp [List.lookup]
  | (g, x) :: r, i + 1, v, nd, h, f, e => by
    simp only [List.map_cons, List.getElem?_cons_succ] at h e
    rw [List.map_cons, List.nodup_cons] at nd
    have hne : f ≠ g := fun z => nd.1 (z ▸ List.mem_of_getElem? e)
    have hb : (f == g) = false := beq_eq_false_iff_ne.mpr hne
    show List.lookup f ((g, x) :: r) = some v
    simp only [List.lookup, hb]
    exact fs_get nd.2 h f e
theorem fs_none {fs : List (PySem.Str × V)} {f : PySem.Str} (h : f ∉ fs.map (·.1)) : fs.lookup f = none := by
  induction fs with
  | nil => rfl
  | cons p r ih =>
    obtain ⟨g, x⟩ := p
    rw [List.map_cons, List.mem_cons, not_or] at h
    have hb : (f == g) = false := beq_eq_false_iff_ne.mpr h.1
    simp only [List.lookup, hb]
    exact ih h.2
theorem putF_old : ∀ {fs : List (PySem.Str × V)} {i : Nat} {f : PySem.Str} {v : V}, (fs.map (·.1)).Nodup → (fs.map (·.1))[i]? = some f → (putF f v fs).map (·.1) = fs.map (·.1) ∧ (putF f v fs).map (·.2) = (fs.map (·.2)).set i v
  | [], _, _, _, _, h => by simp at h
  | (g, x) :: r, 0, f, v, _, h => by
    simp at h
    subst h
    simp only [putF, if_true]
    exact ⟨rfl, rfl⟩
  | (g, x) :: r, i + 1, f, v, nd, h => by
    simp only [List.map_cons, List.getElem?_cons_succ] at h
    rw [List.map_cons, List.nodup_cons] at nd
    have hne : g ≠ f := fun z => nd.1 (z ▸ List.mem_of_getElem? h)
    simp only [putF, if_neg hne]
    obtain ⟨i1, i2⟩ := putF_old (v := v) nd.2 h
    exact ⟨by rw [List.map_cons, i1]; rfl, by rw [List.map_cons, i2]; rfl⟩
theorem putF_new : ∀ {fs : List (PySem.Str × V)} {f : PySem.Str} {v : V}, f ∉ fs.map (·.1) → (putF f v fs).map (·.1) = fs.map (·.1) ++ [f] ∧ (putF f v fs).map (·.2) = fs.map (·.2) ++ [v]
  | [], _, _, _ => ⟨rfl, rfl⟩
  | (g, x) :: r, f, v, h => by
    rw [List.map_cons, List.mem_cons, not_or] at h
    simp only [putF, if_neg (fun z : g = f => h.1 z.symm)]
    obtain ⟨i1, i2⟩ := putF_new (v := v) h.2
    exact ⟨by rw [List.map_cons, i1]; rfl, by rw [List.map_cons, i2]; rfl⟩
theorem take_nd {c n : Nat} : ((cAttrs c).take n).Nodup := List.Nodup.sublist (List.take_sublist _ _) (cAttrs_nd c)
theorem take_at {c n i : Nat} {f : PySem.Str} (h : (cAttrs c)[i]? = some f) (hi : i < n) : ((cAttrs c).take n)[i]? = some f := by
  rw [List.getElem?_take, if_pos hi]
  exact h

/-- what is known of a class of the text -/
structure ClT (K : PySem.W.Frag) (mg : PySem.Str → Option Value) (c : Nat) where
  C : Addr
  mg : mg (cName c) = some (.ref C)
  at_ : CAt K c C
  cls : Cls K C
  na : ∀ f ∈ cAttrs c, NoAttr K C f
variable {mg : PySem.Str → Option Value}

/-- o.f, the i-th attribute of an instance of the class c -/
def xfld (c i : Nat) (a : M R) : M R := fun G => bd (a G) fun x G1 => match x.d with
  | .obj c' ds => if c' = c then (match ds[i]? with | some d => some (.im d, G1) | none => none) else none
  | _ => none
theorem gk_fld {c i : Nat} {f : PySem.Str} (T : ClT K mg c) (hf : (cAttrs c)[i]? = some f) {ta : TE} {a : M R} (ha : GOk K ta a) : GOk K (tFld K ta f) (xfld c i a) := fun Fz ba G σ H Hs res G' q e0 Q k => by
  obtain ⟨x, G1, e1, e⟩ := bd_inv e0
  refine ha.im q e1 fun v H1 Hs1 q1 s1 d1 => ?_
  cases hd : x.d with
  | obj c' ds =>
    rw [hd] at e d1
    simp only at e
    split at e
    case isFalse => cases e
    rename_i hc
    subst hc
    split at e
    case h_2 => cases e
    rename_i d hi
    cases e
    cases d1 with
    | obj hC hH hn hv hs =>
      subst hv
      cases hC.eq T.at_
      obtain ⟨w, w1, w2⟩ := hs.at hi
      have hlt : i < ds.length := (List.getElem?_eq_some_iff.mp hi).1
      refine ⟨_, _, _, _, w, rfl, q1.sub _ _ hH, T.cls, T.na f (List.mem_of_getElem? hf), fs_get ?_ w1 f ?_, k w H1 Hs1 q1 s1 w2⟩
      · rw [hn]; exact take_nd
      · rw [hn]; exact take_at hf hlt
  | _ => rw [hd] at e; cases e
/-- the i-th attribute of the instance that the name owns -/
def xfldv (j c i : Nat) : M R := fun G => match G[j]? with
  | some e => match e.mu with
    | some (.o c' ds) => if c' = c then (match ds[i]? with | some d => some (.im d, G) | none => none) else none
    | _ => none
  | none => none
theorem gk_fldv {j c i : Nat} {f : PySem.Str} (T : ClT K mg c) (hf : (cAttrs c)[i]? = some f) : GOk K (tFld K (tVar j) f) (xfldv j c i) := fun Fz ba G σ H Hs res G' q e Q k => by
  unfold xfldv at e
  cases h : G[j]? with
  | none => simp only [h] at e; cases e
  | some en =>
    cases h0 : en.mu with
    | none => simp only [h, h0] at e; cases e
    | some mm =>
     cases mm with
     | l _ => simp only [h, h0] at e; cases e
     | o c' ds =>
      simp only [h, h0] at e
      split at e
      case isFalse => cases e
      rename_i hc
      subst hc
      split at e
      case h_2 => cases e
      rename_i d hi
      cases e
      obtain ⟨l, o, g1, g2, g3, g4, C, dx, fs, hC, rfl, hn, hs⟩ := q.mu j en _ h h0
      cases hC.eq T.at_
      obtain ⟨w, w1, w2⟩ := hs.at hi
      have hlt : i < ds.length := (List.getElem?_eq_some_iff.mp hi).1
      refine ⟨_, g1, _, _, _, _, w, rfl, g2, T.cls, T.na f (List.mem_of_getElem? hf), fs_get ?_ w1 f ?_, k w H Hs q (Same.refl _) w2⟩
      · rw [hn]; exact take_nd
      · rw [hn]; exact take_at hf hlt
/-- the i-th attribute stored -/
def putO (i : Nat) (x : D) (ds : List D) : Option (List D) := if i < ds.length then some (ds.set i x) else if i = ds.length then some (ds ++ [x]) else none
def putA (j c i : Nat) (x : D) (G : Gam) : Option Gam := match G[j]? with
  | some e => match e.mu with
    | some (.o c' ds) => if c' = c then (match putO i x ds with | some es => some (G.set j (e.with (.o c es))) | none => none) else none
    | _ => none
  | none => none
theorem cAttrs_few (c : Nat) : (cAttrs c).length ≤ 6 := by
  match c with
  | 0 => decide
  | 1 => decide
  | 2 => decide
  | 3 => decide
  | 4 => decide
  | n + 5 => show (cAttrs 5).length ≤ 6; decide
theorem putA_ok {j c i : Nat} {f : PySem.Str} (T : ClT K mg c) (hf : (cAttrs c)[i]? = some f) {Fz : Hp} {ba : Nat → Addr} {G G' : Gam} {σ : L2.St} {H Hs : Hp} {v : V} {d : D} (q : Rel K Fz ba G σ H Hs) (hd : DR K Hs v d) (e : putA j c i d G = some G') :
    ∃ a dx fs, σ[j]? = some (some (.ref a)) ∧ H a = some (.ins T.C dx fs) ∧ fs.length < 1000 ∧ Rel K Fz ba G' σ (upd H a (.ins T.C dx (putF f v fs))) Hs := by
  unfold putA at e
  cases h : G[j]? with
  | none => simp only [h] at e; cases e
  | some en =>
    cases h0 : en.mu with
    | none => simp only [h, h0] at e; cases e
    | some mm =>
     cases mm with
     | l _ => simp only [h, h0] at e; cases e
     | o c' ds =>
      simp only [h, h0] at e
      split at e
      case isFalse => cases e
      rename_i hc
      subst hc
      split at e
      case h_2 => cases e
      rename_i es hp
      cases e
      obtain ⟨l, o, g1, g2, g3, g4, C, dx, fs, hC, rfl, hn, hs⟩ := q.mu j en _ h h0
      cases hC.eq T.at_
      have hlen : fs.length = ds.length := by
        have z := hs.len
        rw [List.length_map] at z
        exact z
      have hi6 : (cAttrs c').length ≤ 6 := cAttrs_few c'
      have hle : ds.length ≤ 6 := by
        have z := congrArg List.length hn
        rw [List.length_map, List.length_take, hlen] at z
        omega
      refine ⟨l, dx, fs, g1, g2, by omega, ?_⟩
      have hiA : i < (cAttrs c').length := (List.getElem?_eq_some_iff.mp hf).1
      refine q.mut h h0 g1 (extB_upd q.sub g3) upd_same g3 ⟨_, dx, putF f v fs, hC, rfl, ?_⟩
      unfold putO at hp
      have nd : (fs.map (·.1)).Nodup := by rw [hn]; exact take_nd
      split at hp
      · rename_i hlt
        cases hp
        obtain ⟨p1, p2⟩ := putF_old (v := v) nd (by rw [hn]; exact take_at hf hlt)
        rw [p1, p2, List.length_set]
        exact ⟨hn, DRs.set hd i hs⟩
      · split at hp
        case isFalse => cases hp
        rename_i hlt heq
        cases hp
        have hnew : f ∉ fs.map (·.1) := by
          rw [hn]
          intro hm
          obtain ⟨j', hj⟩ := List.mem_iff_getElem?.mp hm
          have hj1 : j' < ds.length := by
            have z := (List.getElem?_eq_some_iff.mp hj).1
            rw [List.length_take] at z
            omega
          rw [List.getElem?_take, if_pos hj1] at hj
          have hj2 := (List.getElem?_eq_some_iff.mp hj)
          have hf2 := (List.getElem?_eq_some_iff.mp hf)
          obtain ⟨a1, a2⟩ := hj2
          obtain ⟨b1, b2⟩ := hf2
          have z : j' = i := (List.getElem_inj (cAttrs_nd c')).mp (a2.trans b2.symm)
          omega
        obtain ⟨p1, p2⟩ := putF_new (v := v) hnew
        rw [p1, p2]
        refine ⟨?_, hs.app (.cons hd .nil)⟩
        rw [hn, List.length_append, List.length_singleton, List.take_succ, ← heq, hf]
        rfl
def xsetf (j c i : Nat) (a : M R) : MS := fun G => bd (a G) fun x G1 => match putA j c i x.d G1 with
  | some G2 => some (.nx, G2)
  | none => none
theorem sk_setf {j c i : Nat} {f : PySem.Str} (T : ClT K mg c) (hf : (cAttrs c)[i]? = some f) {ta : TE} {a : M R} (ha : GOk K ta a) : SOk K (sFld K (tVar j) ta f) (xsetf j c i a) := fun Fz ba G σ H Hs fl G' q e Dn p => by
  obtain ⟨x, G1, e1, e⟩ := bd_inv e
  cases h : putA j c i x.d G1 with
  | none => rw [h] at e; cases e
  | some G2 =>
    rw [h] at e
    cases e
    refine ha.im q e1 fun v H1 Hs1 q1 s1 d1 => ?_
    obtain ⟨b, dx, fs, g1, g2, g3, g4⟩ := putA_ok T hf q1 d1 h
    exact ⟨_, g1, b, T.C, dx, fs, rfl, g2, T.cls, T.na f (List.mem_of_getElem? hf), g3, p σ _ Hs1 g4 s1⟩
end
end Bk
/-! Bk12: instances made, their methods, own operators, str, isinstance. -/
namespace Bk
open PySem L2

/-! ### the machine's side -/
section
variable {X : Cx} {CX : CXT} {k : Nat} {C g : Addr} {fd : FuncData} {ps : List PySem.Str} {sp : Sp} {E : XK}
/-- an instance of the class at C -/
def IsIn (C : Addr) (H : Hp) (x : V) : Prop := ∃ a dx fs, x = .ref a ∧ H a = some (.ins C dx fs)
def rBin (C : Addr) (sp : Sp) (E : XK) : R2 := fun x y H Q => IsIn C H x ∧ IsIn C H y ∧ sp [x, y] H Q E
def rUnO (C : Addr) (sp : Sp) (E : XK) : V → Hp → VK → Prop := fun x H Q => IsIn C H x ∧ sp [x] H Q E
theorem inst_at {pins : List (Addr × Obj)} {σ : St} {H : Hp} {s : Shared} {a dx : Addr} {fs : List (PySem.Str × V)} (I : Inv X pins σ H s) (e : H a = some (.ins C dx fs)) :
    ∃ od, PySem.W.InstAt s.heap a (PySem.W.instObj C dx) C (some od) := by
  obtain ⟨mA, O, _⟩ := ins_get I.hok e
  obtain ⟨od, J, _⟩ := O.look
  exact ⟨od, J⟩
theorem back_cmp {pins : List (Addr × Obj)} {σ : St} {Q : VK} {v : Value} {s' : Shared} (h : EP X pins σ Q v s') : PySem.W.CmpBack (EP X pins σ Q) v s' := by
  obtain ⟨z, H', I', rz, q⟩ := h
  exact SlX.cmpback rz ⟨z, H', I', rz, q⟩
theorem op_bin {op : Operator} (hc : PySem.W.selfFirst X.K C = true) (hs : PySem.W.findIn X.K (.ref C) (PySem.dunder op.info.2) = some (some (.ref g))) (hf : PySem.W.isFn X.K (.ref g) = true)
    (F : FnOk X.prog X.w X.K X.mg X.base CX k g fd ps sp) (hr : Room k X.A) (hb : Binds X.K fd ps []) (hx : Passes CX X E) : OpR X (binaryOp op) (rBin C sp E) := by
  intro pins s σ H x y v u Q I rx ry h
  obtain ⟨⟨a, dx, fs, rfl, ha⟩, ⟨b, dy, gs, rfl, hb'⟩, q⟩ := h
  cases (show v = Value.ref a from rx)
  cases (show u = Value.ref b from ry)
  obtain ⟨od, J⟩ := inst_at I ha
  obtain ⟨od', J'⟩ := inst_at I hb'
  obtain ⟨m, hF⟩ := I.fr
  refine PySem.W.binop_K hF I.ok.mod.kin J J'.type hc hs hf ?_
  exact wpAny_mono (run_fn (us := [.ref a, .ref b]) (vs := [.ref a, .ref b]) F hr hb .nil hx I (.cons rfl (.cons rfl .nil)) q) (fun w s' z => back_cmp z) fun _ _ x => x
theorem un_own (hs : PySem.W.findIn X.K (.ref C) "__neg__" = some (some (.ref g))) (hf : PySem.W.isFn X.K (.ref g) = true)
    (F : FnOk X.prog X.w X.K X.mg X.base CX k g fd ps sp) (hr : Room k X.A) (hb : Binds X.K fd ps []) (hx : Passes CX X E) : UnR X (unaryOp .USub) (rUnO C sp E) := by
  intro pins s σ H x v Q I rx h
  obtain ⟨⟨a, dx, fs, rfl, ha⟩, q⟩ := h
  cases (show v = Value.ref a from rx)
  obtain ⟨od, J⟩ := inst_at I ha
  obtain ⟨m, hF⟩ := I.fr
  refine PySem.W.ksp_neg hF I.ok.mod.kin J hs hf ?_
  exact run_fn (us := [.ref a]) (vs := [.ref a]) F hr hb .nil hx I (.cons rfl .nil) q
theorem op_eqO (hs : PySem.W.findIn X.K (.ref C) "__eq__" = some (some (.ref g))) (hf : PySem.W.isFn X.K (.ref g) = true) (hn : PySem.W.notFirst X.K C (.ref C) = true)
    (F : FnOk X.prog X.w X.K X.mg X.base CX k g fd ps sp) (hr : Room k X.A) (hb : Binds X.K fd ps []) (hx : Passes CX X E) : OpR X (compareOp .Eq) (rBin C sp E) := by
  intro pins s σ H x y v u Q I rx ry h
  obtain ⟨⟨a, dx, fs, rfl, ha⟩, ⟨b, dy, gs, rfl, hb'⟩, q⟩ := h
  cases (show v = Value.ref a from rx)
  cases (show u = Value.ref b from ry)
  obtain ⟨od, J⟩ := inst_at I ha
  obtain ⟨od', J'⟩ := inst_at I hb'
  obtain ⟨m, hF⟩ := I.fr
  show wpAny (model X.prog X.w) X.A (richCompare .Eq (.ref a) (.ref b)) _ _ _
  refine PySem.W.cmp_K (op := .Eq) (tb := .ref C) hr.units0 hF I.ok.mod.kin J J'.type hn hs hf ?_
  exact wpAny_mono (run_fn (us := [.ref a, .ref b]) (vs := [.ref a, .ref b]) F hr hb .nil hx I (.cons rfl (.cons rfl .nil)) q) (fun w s' z => back_cmp z) fun _ _ x => x
end
section
open PySem.W
variable {M : Model} {A : Around} {E' : Value → Shared → Prop} {s : Shared} {K : Frag} {x y C g : Addr} {ox : Obj} {od : Option Obj} {nm : PySem.Str} {id : String}
theorem ifb_blt {args : List Value} {Q : Option Value → Shared → Prop} (X : K.In s.heap) (I : InstAt s.heap x ox C od) (hs : findIn K (.ref C) nm = some (some (.builtin id))) (hb : ∀ v, bindSpecial (.builtin id) v = pure (.builtin id, [v]))
    (h : wpAny M A (call (.builtin id) (.ref x :: args)) (fun v => Q (some v)) E' s) : wpAny M A (callSpecialIfBound? (.ref x) nm args) Q E' s := by
  have key : wpAny M A (call (.builtin id) ([Value.ref x] ++ args) >>= fun v => pure (some v)) Q E' s := wpAny_bind (wpAny_mono h (fun _ _ z => wpAny_pure z) fun _ _ z => z)
  unfold callSpecialIfBound? bindSpecialIfBound?
  refine wpAny_holding (wpAny_bind (wpAny_bind (wpAny_bind ?_)))
  refine I.type.here ?_
  refine (looks_findIn X hs).here ?_
  simp only [hb]
  refine wpAny_bind (wpAny_askSetting (wpAny_ite ?_))
  split
  · refine wpAny_bind (wpAny_pure ?_)
    exact wpAny_pure key
  · refine wpAny_tryCatch (wpAny_bind (wpAny_pure ?_))
    exact wpAny_pure key
end
section
open PySem.W
variable {prog : Program} {w : World} {A : Around} {E' : Value → Shared → Prop} {s : Shared} {K : Frag} {x y C g : Addr} {ox oy : Obj} {od od' : Option Obj}
/-- what == told, the other way about -/
def NotBack (Q : Value → Shared → Prop) (v : Value) (s' : Shared) : Prop := ∃ b, v = .bool b ∧ Q (.bool (!b)) s'
theorem ne_blt {Q : Value → Shared → Prop} (hu : A.in1.units < cLine) (X : K.In s.heap) (I : InstAt s.heap x ox C od) (hm : mroIn K C (.type "object") = some true) (he : findIn K (.ref C) "__eq__" = some (some (.ref g))) (hf : isFn K (.ref g) = true)
    (h : wpAny (model prog w) A.in1 (call (.ref g) [.ref x, .ref y]) (NotBack Q) E' s) : wpAny (model prog w) A (call (.builtin "object.__ne__") [.ref x, .ref y]) Q E' s := by
  refine wpAny_call (codeAny_call_builtin PySem.F.slot_object_ne.plain PySem.F.entry_object_ne ?_)
  refine check_slot (i := "object.__ne__") (owner := "object") (n := "__ne__") (by decide +kernel) (by decide +kernel) (I.type.andThen (looks_mroIn X hm)) (PySem.F.args_object_ne_2 _ _) ?_
  unfold Builtin.«object.__ne__»
  refine wpAny_bind (m := slotArgs "__ne__" 1 _) (wpAny_pure ?_)
  refine wpAny_bind (wpAny_cRoomFor hu ?_)
  refine wpAny_bind (m := callSpecialIfBound? (.ref x) (Str.ofString "__eq__") [.ref y]) (ifBound_K X I he hf (wpAny_mono h (fun r s' hq => ?_) fun _ _ z => z))
  obtain ⟨b, rfl, hq⟩ := hq
  refine wpAny_bind (wpAny_truthy_bool ?_)
  exact wpAny_pure hq
theorem rc_ne {Q : Value → Shared → Prop} (hu : A.units + 2 < cLine) (X : K.In s.heap) (I : InstAt s.heap x ox C od) (I' : InstAt s.heap y oy C od') (hm : mroIn K C (.type "object") = some true) (hn : findIn K (.ref C) "__ne__" = some (some (.builtin "object.__ne__")))
    (he : findIn K (.ref C) "__eq__" = some (some (.ref g))) (hf : isFn K (.ref g) = true)
    (h : wpAny (model prog w) A.in1 (call (.ref g) [.ref x, .ref y]) (NotBack Q) E' s) : wpAny (model prog w) A (richCompare .NotEq (.ref x) (.ref y)) Q E' s := by
  have one : wpAny (model prog w) A (tryCompare (.ref x) "__ne__" (.ref y)) (fun r s' => ∃ v, r = some v ∧ Q v s') E' s := by
    unfold tryCompare
    have two : wpAny (model prog w) A (callSpecialIfBound? (.ref x) "__ne__" [.ref y]) (fun r s' => ∃ b, r = some (.bool b) ∧ Q (.bool b) s') E' s := by
      refine ifb_blt X I hn PySem.F.slot_object_ne.bind (ne_blt (by show A.units + 1 < cLine; omega) X I hm he hf (wpAny_mono h (fun v s' hv => ?_) fun _ _ z => z))
      obtain ⟨b, rfl, hq⟩ := hv
      exact ⟨b, rfl, !b, rfl, hq⟩
    refine wpAny_bind (wpAny_mono two (fun r s' hr => ?_) fun _ _ z => z)
    obtain ⟨b, rfl, hq⟩ := hr
    exact wpAny_pure ⟨_, rfl, hq⟩
  unfold richCompare
  simp only [oneThing_ref]
  refine wpAny_holding (wpAny_bind (wpAny_cRoomFor (by omega) ?_))
  refine wpAny_bind (I.type.here ?_)
  refine wpAny_bind (I'.type.here ?_)
  rw [show (Value.ref C != Value.ref C) = false from by simp]
  refine wpAny_bind (wpAny_pure ?_)
  simp only [Bool.false_eq_true, if_false]
  refine wpAny_bind (wpAny_mono one (fun r s' z => ?_) fun _ _ z => z)
  obtain ⟨v, rfl, hq⟩ := z
  exact wpAny_pure hq
end
end Bk
/-! Bk13: instances on data: made, methods, own operators, str, isinstance. -/
namespace Bk
open PySem L2

section
variable {X : Cx} {CX : CXT} {k : Nat} {C g : Addr} {fd : FuncData} {ps : List PySem.Str} {sp : Sp} {E : XK}
/-- the callee runs, one below -/
theorem run_in {A : Around} {pins : List (Addr × Obj)} {σ : St} {H : Hp} {s : Shared} {Q : VK} {us : List Value} {vs : List V} (F : FnOk X.prog X.w X.K X.mg X.base CX k g fd ps sp) (hr : Room k A) (hA : Env0 X.prog X.w X.K X.mg X.base A X.stack s H) (hb : Binds X.K fd ps []) (hx : Passes CX X E)
    (I : Inv X pins σ H s) (r : Vals vs us) (h : sp vs H Q E) : wpAny (model X.prog X.w) A (call (.ref g) us) (EP X pins σ Q) X.xe s := by
  have hl : (us ++ ([] : List Value)).length = ps.length := by
    rw [List.append_nil, ← r.length]
    exact F.len _ _ _ _ h
  have hbb := hb s us I.kIn hl
  rw [List.append_nil] at hbb
  refine wpAny_call (codeAny_mono (F.run A X.stack s H ⟨us, []⟩ us vs Q E hr hA hbb r h) fun r s' hq => ?_)
  cases r with
  | error e => exact hx pins σ H s e s' I hq
  | ok fl =>
    cases fl with
    | ret u => exact I.after hq
    | next => exact False.elim hq
    | brk => exact False.elim hq
    | cont => exact False.elim hq
def rNeO (C : Addr) (sp : Sp) (E : XK) : R2 := fun x y H Q => IsIn C H x ∧ IsIn C H y ∧ sp [x, y] H (fun v H' => ∃ b, v = .bl b ∧ Q (.bl (!b)) H') E
theorem op_neO (hs : PySem.W.findIn X.K (.ref C) "__eq__" = some (some (.ref g))) (hf : PySem.W.isFn X.K (.ref g) = true) (hm : PySem.W.mroIn X.K C (.type "object") = some true) (hn : PySem.W.findIn X.K (.ref C) "__ne__" = some (some (.builtin "object.__ne__")))
    (F : FnOk X.prog X.w X.K X.mg X.base CX k g fd ps sp) (hr : Room (k + 1) X.A) (hb : Binds X.K fd ps []) (hx : Passes CX X E) : OpR X (compareOp .NotEq) (rNeO C sp E) := by
  intro pins s σ H x y v u Q I rx ry h
  obtain ⟨⟨a, dx, fs, rfl, ha⟩, ⟨b, dy, gs, rfl, hb'⟩, q⟩ := h
  cases (show v = Value.ref a from rx)
  cases (show u = Value.ref b from ry)
  obtain ⟨od, J⟩ := inst_at I ha
  obtain ⟨od', J'⟩ := inst_at I hb'
  show wpAny (model X.prog X.w) X.A (richCompare .NotEq (.ref a) (.ref b)) _ _ _
  refine rc_ne (by have := hr.units0; have := hr.units; omega) I.kIn J J' hm hn hs hf ?_
  refine wpAny_mono (run_in (us := [.ref a, .ref b]) (vs := [.ref a, .ref b]) F hr.in1 I.env0.in1 hb hx I (.cons rfl (.cons rfl .nil)) q) (fun w s' z => ?_) fun _ _ x => x
  obtain ⟨z', H', I', rz, c, rfl, qz⟩ := z
  cases (show w = Value.bool c from rz)
  exact ⟨c, rfl, .bl (!c), H', I', rfl, qz⟩
def rStrO (C : Addr) (sp : Sp) (E : XK) : List V → Hp → VK → Prop := fun xs H Q => ∃ x, xs = [x] ∧ IsIn C H x ∧ sp [x] H (fun v H' => ∃ z, v = .str z ∧ Q (.str z) H') E
theorem cr_strO (hs : PySem.W.findIn X.K (.ref C) "__str__" = some (some (.ref g))) (hf : PySem.W.isFn X.K (.ref g) = true)
    (F : FnOk X.prog X.w X.K X.mg X.base CX k g fd ps sp) (hr : Room (k + 2) X.A) (hb : Binds X.K fd ps []) (hx : Passes CX X E) : CallR X (.type "str") (rStrO C sp E) := by
  intro pins s σ H xs us Q I r h
  obtain ⟨x, rfl, ⟨a, dx, fs, rfl, ha⟩, q⟩ := h
  obtain ⟨u, rfl, ru⟩ := r.one
  cases (show u = Value.ref a from ru)
  obtain ⟨od, J⟩ := inst_at I ha
  have hr1 : Room (k + 1) X.A.in1 := Room.in1 hr
  refine PySem.W.kso_call (Nat.lt_of_lt_of_le hr1.in1.units0 (Nat.le_refl _)) I.kIn J hs hf ?_
  refine wpAny_mono (run_in (us := [.ref a]) (vs := [.ref a]) F hr1.in1 I.env0.in1.in1 hb hx I (.cons rfl .nil) q) (fun w s' z => ?_) fun _ _ x => x
  obtain ⟨z', H', I', rz, c, rfl, qz⟩ := z
  obtain ⟨t, e⟩ := (show ∃ t, w = Value.str c t from rz)
  cases e
  exact ⟨.str c, H', I', ⟨t, rfl⟩, qz⟩
/-- isinstance(x, a tuple of types), the tuple known in any way -/
def rIsiS (K : PySem.W.Frag) : List V → Hp → VK → Prop := fun xs H Q => ∃ (x : V) (tp : Addr) (cs : List V) (t : Value) (us : List Value) (b : Bool), xs = [x, .ref tp] ∧ SqT K H tp cs ∧ Paired ClsV cs us ∧ TyX K H x t ∧ PySem.W.kitAny K t us = some b ∧ Q (.bl b) H
theorem cr_isiS : CallR X (.builtin "isinstance") (rIsiS X.K) := by
  intro pins s σ H xs us Q I r h
  obtain ⟨x, tp, cs, t, ws, b, rfl, hT, kk, ty, e, q⟩ := h
  obtain ⟨u1, u2, rfl, r1, r2⟩ := vals2 r
  cases (show u2 = Value.ref tp from r2)
  obtain ⟨P, Z, p, hx⟩ := kit_of I r1 ty
  obtain ⟨its, rv, ⟨⟨oc, od, dt, sl⟩, h1, h2, n, h3⟩, _⟩ := I.tuple hT
  have e3 := ClsV.all kk rv
  subst e3
  simp only at h2 h3
  subst h2 h3
  exact PySem.W.kia_tup Z I.kIn p h1 e hx fun tk => ⟨.bl b, H, I.tok tk, rfl, q⟩
end

section
variable {K : PySem.W.Frag} {mg : PySem.Str → Option Value}
/-! ### made -/
def xmake (c : Nat) (m : Mob → List D → Option (R × Mob)) (dds : List D) (a : M (List D)) : M R := fun G => bd (a G) fun xs G1 => match m (.o c []) (xs ++ dds) with
  | some (.im .non, m') => some (.ow m', G1)
  | _ => none
theorem gk_make {c : Nat} {m : Mob → List D → Option (R × Mob)} {dds : List D} {dvs : List V} {E : XK} (T : ClT K mg c) (hd : ∀ H, DRs K H dvs dds) {ta : TA} {a : M (List D)} (ha : AOk K ta a) : GOk K (tMake T.C (spB K m) dvs E ta) (xmake c m dds a) := fun Fz ba G σ H Hs res G' q e0 Q k => by
  obtain ⟨xs, G1, e1, e⟩ := bd_inv e0
  split at e
  case h_2 => cases e
  rename_i m' hm
  cases e
  refine ha Fz ba G σ H Hs xs _ q e1 _ fun vs H1 Hs1 q1 s1 d1 x dx hx hdx hne => ?_
  have sm : Same H1 (upd (upd H1 dx (.own x)) x (.ins T.C dx [])) := fun b o hb => by
    rw [upd_ne (ne_of_none hb hx), upd_ne (ne_of_none hb hdx)]
    exact hb
  refine ⟨Hs1, x, vs ++ dvs, _, .o c [], xs ++ dds, .im .non, m', rfl, q1.sub.trans sm, upd_same, none_sub q1.sub hx, ⟨T.C, dx, [], T.at_, rfl, rfl, .nil⟩, d1.app (hd _), hm, fun v H2 Hs2 o2 ex hl hn hd2 rf => ?_⟩
  refine ⟨by cases rf; rfl, ?_⟩
  have ex2 : Ext H1 Hs1 H2 Hs2 := ⟨fun b o hb => ex.a b o (ne_of_none hb hx) (sm b o hb), ex.b, ex.c, fun b o hb hnb => ex.n b o (sm b o hb) hnb⟩
  have rf2 : ResF K H1 H2 Hs2 (.ref x) (.ow m') := ⟨x, o2, rfl, hx, hl, hn, hd2⟩
  exact k _ H2 Hs2 (q1.ext ex2) (s1.trans ex.b) (rf2.res q1)
/-! ### methods that change nothing -/
def xmeth (c : Nat) (m : List D → Option R) (dds : List D) (a : M R) (as : M (List D)) : M R := fun G => bd (a G) fun x G1 => match x.d with
  | .obj c' ds => if c' = c then bd (as G1) fun xs G2 => (match m (.obj c' ds :: (xs ++ dds)) with
    | some r => some (r, G2)
    | none => none) else none
  | _ => none
theorem gk_meth {c : Nat} {nm : PySem.Str} {m : List D → Option R} {dds : List D} {dvs : List V} {E : XK} (T : ClT K mg c) (hn : nm ∉ cAttrs c) (hd : ∀ H, DRs K H dvs dds) {ta : TE} {tas : TA} {a : M R} {as : M (List D)} (ha : GOk K ta a) (has : AOk K tas as) :
    GOk K (tMeth T.C nm (spF K m) dvs E ta tas) (xmeth c m dds a as) := fun Fz ba G σ H Hs res G' q e0 Q k => by
  obtain ⟨x, G1, e1, e⟩ := bd_inv e0
  refine ha.im q e1 fun v H1 Hs1 q1 s1 d1 => ?_
  cases hx : x.d with
  | obj c' ds =>
    rw [hx] at e d1
    simp only at e
    split at e
    case isFalse => cases e
    rename_i hc
    subst hc
    obtain ⟨xs, G2, e2, e⟩ := bd_inv e
    split at e
    case h_2 => cases e
    rename_i r hm
    cases e
    have dd := d1
    cases d1 with
    | obj hC hH hns hv hs =>
      subst hv
      cases hC.eq T.at_
      refine ⟨_, _, _, rfl, q1.sub _ _ hH, fs_none (fun z => hn ?_), ?_⟩
      · rw [hns] at z
        exact List.mem_of_mem_take z
      · refine has Fz ba G1 σ H1 Hs1 xs _ q1 e2 _ fun vs H2 Hs2 q2 s2 d2 => ?_
        exact ⟨Hs2, _, _, q2.sub, .cons (dd.mono s2) (d2.app (hd _)), hm, fun v H3 Hs3 ex rf => k v H3 Hs3 (q2.ext ex) ((s1.trans s2).trans ex.b) (rf.res q2)⟩
  | _ => rw [hx] at e; cases e
/-! ### own operators -/
def isO (c : Nat) : D → Bool
  | .obj c' _ => c' == c
  | _ => false
theorem isO_in {c : Nat} {C : Addr} {Hs H : Hp} {x : V} {d : D} (hC : CAt K c C) (h : DR K Hs x d) (s : Same Hs H) (e : isO c d = true) : IsIn C H x := by
  cases h with
  | obj hc hH hns hv hs =>
    have z := beq_iff_eq.mp e
    subst z
    cases hc.eq hC
    exact ⟨_, _, _, rfl, s _ _ hH⟩
  | _ => cases e
def opOwn (c : Nat) (m : List D → Option R) (o : D → D → Option R) (x y : D) : Option R := if isO c x && isO c y then m [x, y] else o x y
theorem od_own {c : Nat} {C : Addr} {m : List D → Option R} {o : D → D → Option R} {r : R2} {E : XK} (hC : CAt K c C) (ho : OpD K r o) : OpD K (fun x y H Q => r x y H Q ∨ rBin C (spF K m) E x y H Q) (opOwn c m o) := fun H Hs x y dx dy res s hx hy e Q k => by
  unfold opOwn at e
  split at e
  · rename_i hb
    rw [Bool.and_eq_true] at hb
    exact .inr ⟨isO_in hC hx s hb.1, isO_in hC hy s hb.2, Hs, [dx, dy], res, s, .cons hx (.cons hy .nil), e, k⟩
  · exact .inl (ho H Hs x y dx dy res s hx hy e Q k)
def opOwnNe (c : Nat) (m : List D → Option R) (o : D → D → Option R) (x y : D) : Option R := if isO c x && isO c y then (match m [x, y] with | some (.im (.bl b)) => some (.im (.bl (!b))) | _ => none) else o x y
theorem od_ownNe {c : Nat} {C : Addr} {m : List D → Option R} {o : D → D → Option R} {r : R2} {E : XK} (hC : CAt K c C) (ho : OpD K r o) : OpD K (fun x y H Q => r x y H Q ∨ rNeO C (spF K m) E x y H Q) (opOwnNe c m o) := fun H Hs x y dx dy res s hx hy e Q k => by
  unfold opOwnNe at e
  split at e
  · rename_i hb
    rw [Bool.and_eq_true] at hb
    split at e
    case h_2 => cases e
    rename_i b hm
    cases e
    refine .inr ⟨isO_in hC hx s hb.1, isO_in hC hy s hb.2, Hs, [dx, dy], _, s, .cons hx (.cons hy .nil), hm, fun v H' Hs' ex rf => ?_⟩
    cases rf
    exact ⟨b, rfl, k _ H' Hs' ex (.bl _)⟩
  · exact .inl (ho H Hs x y dx dy res s hx hy e Q k)
def unOwn (c : Nat) (m : List D → Option R) (o : D → Option R) (x : D) : Option R := if isO c x then m [x] else o x
theorem ud_own {c : Nat} {C : Addr} {m : List D → Option R} {o : D → Option R} {r : V → Hp → VK → Prop} {E : XK} (hC : CAt K c C) (ho : UnD K r o) : UnD K (fun x H Q => r x H Q ∨ rUnO C (spF K m) E x H Q) (unOwn c m o) := fun H Hs x dx res s hx e Q k => by
  unfold unOwn at e
  split at e
  · rename_i hb
    exact .inr ⟨isO_in hC hx s hb, Hs, [dx], res, s, .cons hx .nil, e, k⟩
  · exact .inl (ho H Hs x dx res s hx e Q k)
theorem un_or {X : Cx} {f : Value → Sem Value} {r r' : V → Hp → VK → Prop} (h : UnR X f r) (h' : UnR X f r') : UnR X f (fun x H Q => r x H Q ∨ r' x H Q) := fun pins s σ H x v Q I rx q => by
  rcases q with q | q
  · exact h pins s σ H x v Q I rx q
  · exact h' pins s σ H x v Q I rx q
/-! ### str -/
def rStr : List V → Hp → VK → Prop := fun xs H Q => (∃ i, xs = [.int i] ∧ i.natAbs.log2 < 1920 ∧ Q (.str (toString i)) H) ∨ ∃ a, xs = [.str a] ∧ Q (.str a) H
theorem cr_str {X : Cx} : CallR X (.type "str") rStr := fun pins s σ H xs us Q I r h => by
  rcases h with h | h
  · exact call_str_int pins s σ H xs us Q I r h
  · exact SkE.call_str_str pins s σ H xs us Q I r h
def intS (i : Int) : PySem.Str := toString i
def cbStr : List D → Option R
  | [.int i] => if decide (i.natAbs.log2 < 1920) then some (.im (.str (intS i))) else none
  | [.str a] => some (.im (.str a))
  | _ => none
theorem cd_str : CbD K rStr cbStr := fun H Hs xs ds res s h e Q k => by
  unfold cbStr at e
  split at e
  · split at e
    case isFalse => cases e
    rename_i hf
    cases e
    cases h with
    | cons a a2 => cases a2; cases a; exact .inl ⟨_, rfl, of_decide_eq_true hf, k _ H Hs (Ext.refl s) (.str _)⟩
  · cases e
    cases h with
    | cons a a2 => cases a2; cases a; exact .inr ⟨_, rfl, k _ H Hs (Ext.refl s) (.str _)⟩
  · cases e
def cbStrO (c : Nat) (m : List D → Option R) (ds : List D) : Option R := match ds with
  | [d] => if isO c d then (match m [d] with | some (.im (.str z)) => some (.im (.str z)) | _ => none) else cbStr [d]
  | _ => none
theorem cd_strO {c : Nat} {C : Addr} {m : List D → Option R} {E : XK} (hC : CAt K c C) : CbD K (fun xs H Q => rStr xs H Q ∨ rStrO C (spF K m) E xs H Q) (cbStrO c m) := fun H Hs xs ds res s h e Q k => by
  unfold cbStrO at e
  split at e
  case h_2 => cases e
  split at e
  · rename_i d hb
    split at e
    case h_2 => cases e
    rename_i z hm
    cases e
    cases h with
    | cons a a2 =>
      cases a2
      refine .inr ⟨_, rfl, isO_in hC a s hb, Hs, [d], _, s, .cons a .nil, hm, fun v H' Hs' ex rf => ?_⟩
      cases rf
      exact ⟨z, rfl, k _ H' Hs' ex (.str _)⟩
  · exact .inl (cd_str H Hs xs _ res s h e Q k)
theorem cr_or {X : Cx} {f : Value} {r r' : List V → Hp → VK → Prop} (h : CallR X f r) (h' : CallR X f r') : CallR X f (fun xs H Q => r xs H Q ∨ r' xs H Q) := fun pins s σ H xs us Q I rx q => by
  rcases q with q | q
  · exact h pins s σ H xs us Q I rx q
  · exact h' pins s σ H xs us Q I rx q
/-! ### isinstance -/
def tyL : List D → Option (List String)
  | [] => some []
  | .ty b :: r => (tyL r).map fun l => b :: l
  | _ :: _ => none
def isiL (a : String) : List String → Option Bool
  | [] => some false
  | b :: r => match isiT a b with
    | some true => some true
    | some false => isiL a r
    | none => none
theorem tyL_ok {H : Hp} : ∀ {ds : List D} {vs : List V} {l : List String}, DRs K H vs ds → tyL ds = some l → Paired ClsV vs (l.map Value.type)
  | [], _, _, h, e => by cases h; cases e; exact .nil
  | d :: ds, _, l, h, e => by
    cases h with
    | cons h1 h2 =>
      cases d with
      | ty b =>
        cases h1
        unfold tyL at e
        cases z : tyL ds with
        | none => rw [z] at e; cases e
        | some l' =>
          rw [z] at e
          cases e
          exact .cons (.ty b) (tyL_ok h2 z)
      | _ => cases e
theorem isiL_ok {a : String} (ha : ["NoneType", "bool", "int", "str", "list", "tuple"].contains a = true) : ∀ {l : List String} {k : Bool}, isiL a l = some k → PySem.W.kitAny K (.type a) (l.map Value.type) = some k
  | [], _, e => by cases e; rfl
  | b :: l, k, e => by
    unfold isiL at e
    rw [List.map_cons]
    unfold PySem.W.kitAny
    split at e
    · rename_i z
      cases e
      rw [kit_ty (isiT_ok ha z)]
    · rename_i z
      rw [kit_ty (isiT_ok ha z)]
      exact isiL_ok ha e
    · cases e
def cbIsiS : List D → Option R
  | [d, .tup cs] => match tyS d, tyL cs with
    | some t, some l => (isiL t l).map fun k => .im (.bl k)
    | _, _ => none
  | _ => none
theorem cd_isiS : CbD K (rIsiS K) cbIsiS := fun H Hs xs ds res s h e Q k => by
  unfold cbIsiS at e
  split at e
  case h_2 => cases e
  split at e
  case h_2 => cases e
  rename_i t l z1 z2
  cases z3 : isiL t l with
  | none => rw [z3] at e; cases e
  | some b =>
    rw [z3] at e
    cases e
    cases h with
    | cons a a2 =>
      cases a2 with
      | cons a2 a3 =>
        cases a3
        cases a2 with
        | tup h1 h2 =>
          obtain ⟨t1, t2⟩ := tyS_ok (a.mono s) z1
          exact ⟨_, _, _, _, _, b, rfl, same_tup s h1, tyL_ok h2 z2, t1, isiL_ok t2 z3, k _ H Hs (Ext.refl s) (.bl _)⟩
/-- isinstance(x, C), C an own class -/
structure IsT (K : PySem.W.Frag) (C : Addr) : Prop where
  ins : C8.InsC K C
  ot : ∀ t ∈ ["NoneType", "bool", "int", "str", "list", "tuple"], PySem.W.kitOne K (.type t) (.ref C) = some false
def cbIsiC (c : Nat) : List D → Option R
  | [.obj c' _, .cl c2] => if c' = c ∧ c2 = c then some (.im (.bl true)) else none
  | [d, .cl c2] => match tyS d with
    | some _ => if c2 = c then some (.im (.bl false)) else none
    | none => none
  | _ => none
theorem cd_isiC {c : Nat} {C : Addr} (hC : CAt K c C) (I : IsT K C) : CbD K (rIsi K) (cbIsiC c) := fun H Hs xs ds res s h e Q k => by
  unfold cbIsiC at e
  split at e
  · split at e
    case isFalse => cases e
    rename_i hc
    obtain ⟨rfl, rfl⟩ := hc
    cases e
    cases h with
    | cons a a2 =>
      cases a2 with
      | cons a2 a3 =>
        cases a3
        cases a2 with
        | cl hc2 =>
          cases hc2.eq hC
          cases a with
          | obj hc3 hH hn hv hs =>
            cases hc3.eq hC
            exact ⟨_, _, _, _, true, rfl, .own _, .base (.ins (s _ _ hH) I.ins.cl I.ins.ha I.ins.hn I.ins.htk I.ins.hm), I.ins.me, k _ H Hs (Ext.refl s) (.bl _)⟩
  · split at e
    case h_2 => cases e
    rename_i t z
    split at e
    case isFalse => cases e
    rename_i hc
    subst hc
    cases e
    cases h with
    | cons a a2 =>
      cases a2 with
      | cons a2 a3 =>
        cases a3
        cases a2 with
        | cl hc2 =>
          cases hc2.eq hC
          obtain ⟨t1, t2⟩ := tyS_ok (a.mono s) z
          exact ⟨_, _, _, _, false, rfl, .own _, t1, I.ot _ (by simpa using t2), k _ H Hs (Ext.refl s) (.bl _)⟩
  · cases e
end
end Bk
/-! Bk14: stars in displays, tuples added and cut, texts, lists that are changed, one of several. -/
namespace Bk
open PySem L2

/-! ### [*a, b] -/
section
variable {K : PySem.W.Frag}
def xstar (a : M R) (r : M (List D)) : M (List D) := fun G => bd (a G) fun x G1 => match seqD x.d with
  | some ds => bd (r G1) fun es G2 => some (ds ++ es, G2)
  | none => none
theorem ak_star {ta : TE} {tr : TA} {a : M R} {r : M (List D)} (ha : GOk K ta a) (hr : AOk K tr r) : AOk K (StX.tStar K ta tr) (xstar a r) := fun Fz ba G σ H Hs ds G' q e0 Q k => by
  obtain ⟨x, G1, e1, e⟩ := bd_inv e0
  refine ha.im q e1 fun v H1 Hs1 q1 s1 d1 => ?_
  split at e
  case h_2 => cases e
  rename_i xs hx
  obtain ⟨es, G2, e2, e⟩ := bd_inv e
  cases e
  obtain ⟨kk, p, vs, rfl, hp, hd⟩ := seqD_ok d1 hx
  have hp1 : SqT K H1 p vs ∨ SqL K H1 p vs := by
    cases kk with
    | true => exact .inr (same_lst q1.sub hp)
    | false => exact .inl (same_tup q1.sub hp)
  exact ⟨p, vs, rfl, hp1, hr Fz ba G1 σ H1 Hs1 es _ q1 e2 _ fun ws H2 Hs2 q2 s2 d2 => k _ H2 Hs2 q2 (s1.trans s2) ((hd.mono s2).app d2)⟩

/-! ### tuples added, cut; texts cut -/
def opAddB : D → D → Option R
  | .tup xs, .tup ys => if few (xs.length + ys.length) then some (.im (.tup (xs ++ ys))) else none
  | x, y => opAdd x y
def rAddB (K : PySem.W.Frag) : R2 := fun x y H Q => rAddA x y H Q ∨ rCatA K x y H Q
theorem op_addB {X : Cx} : OpR X (binaryOp .Add) (rAddB X.K) := op_addA.or op_catA
theorem drs_nil {H : Hp} {vs : List V} (h : DRs K H vs []) : vs = [] := by cases h; rfl
theorem od_addB : OpD K (rAddB K) opAddB := fun H Hs x y dx dy res s hx hy e Q k => by
  unfold opAddB at e
  split at e
  · split at e
    case isFalse => cases e
    rename_i xs ys hf
    cases e
    have hx0 := hx
    have hy0 := hy
    cases hx with
    | tup h1 d1 =>
      cases hy with
      | tup h2 d2 =>
        refine .inr ⟨_, _, _, _, rfl, rfl, same_tup s h1, same_tup s h2, by rw [d1.len, d2.len]; exact few_ok hf, fun z => ?_, fun _ z => ?_, fun _ _ p hp => ?_⟩
        · subst z
          cases d1
          exact k _ H Hs (Ext.refl s) hy0
        · subst z
          cases d2
          rw [List.append_nil] at k
          exact k _ H Hs (Ext.refl s) hx0
        · exact k _ _ _ (Ext.new s hp) (.tup (SqT.of upd_same) ((d1.app d2).mono (Ext.new (o := HO.tup _) s hp).b))
  · exact .inl (od_add H Hs x y dx dy res s hx hy e Q k)
def slB (d : D) (lo hi : Option Int) : Option R := match d with
  | .tup xs => some (.im (.tup (cutD xs lo hi)))
  | .str z => if few z.length then some (.im (.str (cutS z lo hi))) else none
  | d => slL d lo hi
def rSlB (K : PySem.W.Frag) : V → Option Int → Option Int → Hp → VK → Prop := fun x lo hi H Q => (rSlL K x lo hi H Q ∨ L2.rSlA K x lo hi H Q) ∨ rSlS x lo hi H Q
theorem sl_B {X : Cx} : SlR X (rSlB X.K) := (sl_list.or sl_tupA).or sl_str
theorem cut_whole {xs : List D} {lo hi : Option Int} (h : HT.sIx xs.length 0 lo = 0 ∧ HT.sIx xs.length xs.length hi = xs.length) : cutD xs lo hi = xs := by
  unfold cutD
  rw [h.1, h.2]
  simp
theorem sd_B : SlD K (rSlB K) slB := fun H Hs x dx l h res s hx e Q k => by
  unfold slB at e
  split at e
  · cases e
    have hx0 := hx
    cases hx with
    | tup h1 d1 =>
      refine .inl (.inr ⟨_, _, rfl, same_tup s h1, fun z => ?_, fun z p hp => ?_⟩)
      · rw [d1.len] at z
        rw [cut_whole z] at k
        exact k _ H Hs (Ext.refl s) hx0
      · exact k _ _ _ (Ext.new s hp) (.tup (SqT.of upd_same) (cut_ok (d1.mono (Ext.new (o := HO.tup _) s hp).b) _ _))
  · split at e
    case isFalse => cases e
    rename_i hf
    cases e
    cases hx
    exact .inr ⟨_, rfl, few_ok hf, k _ H Hs (Ext.refl s) (.str _)⟩
  · exact .inl (.inl (sd_list H Hs x _ l h res s hx e Q k))

/-! ### x in xs -/
def flatD : D → Option V
  | .non => some .non
  | .bl b => some (.bl b)
  | .int i => some (.int i)
  | .str x => some (.str x)
  | _ => none
def flatDs : List D → Option (List V)
  | [] => some []
  | d :: ds => match flatD d, flatDs ds with
    | some v, some vs => some (v :: vs)
    | _, _ => none
theorem flatD_ok {H : Hp} {x v : V} {d : D} (h : DR K H x d) (e : flatD d = some v) : x = v ∧ flatV v = true := by
  cases h <;> cases e <;> exact ⟨rfl, rfl⟩
theorem flatDs_ok {H : Hp} : ∀ {ds : List D} {xs vs : List V}, DRs K H xs ds → flatDs ds = some vs → xs = vs ∧ vs.all flatV = true
  | [], _, _, h, e => by cases h; cases e; exact ⟨rfl, rfl⟩
  | d :: ds, _, _, h, e => by
    unfold flatDs at e
    split at e
    case h_2 => cases e
    rename_i h1 h2
    cases e
    cases h with
    | cons a b =>
      obtain ⟨e1, f1⟩ := flatD_ok a h1
      obtain ⟨e2, f2⟩ := flatDs_ok b h2
      subst e1 e2
      exact ⟨rfl, by rw [List.all_cons, f1, f2]; rfl⟩
def opIn (neg : Bool) (x y : D) : Option R := match y with
  | .str z => match x with
    | .str i => match i.cps.toList with
      | [c] => some (.im (.bl (if neg then !decide (c ∈ z.cps.toList) else decide (c ∈ z.cps.toList))))
      | _ => none
    | _ => none
  | y => match seqD y, flatD x with
    | some ds, some v => match flatDs ds with
      | some vs => some (.im (.bl (if neg then !inV v vs else inV v vs)))
      | none => none
    | _, _ => none
def rInA (K : PySem.W.Frag) (neg : Bool) : R2 := fun x y H Q => rIn K neg x y H Q ∨ ∃ (c : Nat) (z : PySem.Str), x = .str ⟨#[c]⟩ ∧ y = .str z ∧ Q (.bl (if neg then !decide (c ∈ z.cps.toList) else decide (c ∈ z.cps.toList))) H
theorem op_inA {X : Cx} : OpR X (compareOp .In) (rInA X.K false) := op_in_seq.or op_in_sign
theorem op_notInA {X : Cx} : OpR X (compareOp .NotIn) (rInA X.K true) := op_notIn_seq.or op_notIn_sign
theorem od_in {neg : Bool} : OpD K (rInA K neg) (opIn neg) := fun H Hs x y dx dy res s hx hy e Q k => by
  unfold opIn at e
  split at e
  · split at e
    case h_2 => cases e
    split at e
    case h_2 => cases e
    rename_i z _ i _ c hc
    have hi : i = ⟨#[c]⟩ := by
      have z2 : i.cps = #[c] := by
        have z3 := congrArg List.toArray hc
        simpa using z3
      cases i
      exact congrArg PySem.Str.mk z2
    subst hi
    cases e
    cases hx; cases hy
    exact .inr ⟨c, z, rfl, rfl, k _ H Hs (Ext.refl s) (.bl _)⟩
  · split at e
    case h_2 => cases e
    rename_i ds v h1 h2
    split at e
    case h_2 => cases e
    rename_i vs h3
    cases e
    obtain ⟨e1, f1⟩ := flatD_ok hx h2
    obtain ⟨kk, p, xs, rfl, hp, hd⟩ := seqD_ok hy h1
    obtain ⟨e3, f3⟩ := flatDs_ok hd h3
    subst e1 e3
    refine .inl ⟨p, xs, rfl, ?_, f1, f3, k _ H Hs (Ext.refl s) (.bl _)⟩
    cases kk with
    | true => exact .inl (same_lst s hp)
    | false => exact .inr (same_tup s hp)
end
/-! ### texts -/
section
variable {K : PySem.W.Frag}
def fmtD : D → Option PySem.Str
  | .str y => if few y.length then some y else none
  | .int i => if decide (i.natAbs.log2 < 1920) then some (intS i) else none
  | _ => none
def xfmt (a : M R) : M R := fun G => bd (a G) fun x G1 => match fmtD x.d with
  | some y => some (.im (.str y), G1)
  | none => none
theorem gk_fmt {ta : TE} {a : M R} (ha : GOk K ta a) : GOk K (tFmt ta) (xfmt a) := fun Fz ba G σ H Hs res G' q e0 Q k => by
  obtain ⟨x, G1, e1, e⟩ := bd_inv e0
  split at e
  case h_2 => cases e
  rename_i y hy
  cases e
  refine ha.im q e1 fun v H1 Hs1 q1 s1 d1 => ?_
  unfold fmtD at hy
  split at hy
  · rename_i z hz
    rw [hz] at d1
    cases d1
    split at hy
    case isFalse => cases hy
    rename_i hf
    cases hy
    exact .inl ⟨_, rfl, few_ok hf, k _ H1 Hs1 q1 s1 (.str _)⟩
  · rename_i i hz
    rw [hz] at d1
    cases d1
    split at hy
    case isFalse => cases hy
    rename_i hf
    cases hy
    exact .inr ⟨_, rfl, of_decide_eq_true hf, k _ H1 Hs1 q1 s1 (.str _)⟩
  · cases hy
def xjs : List (M R) → PySem.Str → M R
  | [], acc, G => some (.im (.str acc), G)
  | a :: as, acc, G => bd (a G) fun x G1 => match x.d with
    | .str y => if few (acc ++ y).length then xjs as (acc ++ y) G1 else none
    | _ => none
inductive JOk (K : PySem.W.Frag) : List TE → List (M R) → Prop
  | nil : JOk K [] []
  | cons {t : TE} {ts : List TE} {a : M R} {as : List (M R)} : GOk K t a → JOk K ts as → JOk K (t :: ts) (a :: as)
theorem js_ok {ts : List TE} {as : List (M R)} (h : JOk K ts as) : ∀ acc : PySem.Str, GOk K (fun σ H Q => tJs ts acc σ H fun out H1 => Q (.str out) H1) (xjs as acc) := by
  induction h with
  | nil =>
    intro acc Fz ba G σ H Hs res G' q e Q k
    cases e
    exact k _ H Hs q (Same.refl _) (.str _)
  | cons ha hr ih =>
    intro acc Fz ba G σ H Hs res G' q e0 Q k
    obtain ⟨x, G1, e1, e⟩ := bd_inv e0
    refine ha.im q e1 fun v H1 Hs1 q1 s1 d1 => ?_
    split at e
    case h_2 => cases e
    rename_i y hy
    rw [hy] at d1
    cases d1
    split at e
    case isFalse => cases e
    rename_i hf
    exact ⟨y, rfl, few_ok hf, ih _ Fz ba G1 σ H1 Hs1 res G' q1 e Q fun v H2 Hs2 q2 s2 r => k v H2 Hs2 q2 (s1.trans s2) r⟩
def strL : List D → Option (List PySem.Str)
  | [] => some []
  | .str x :: r => (strL r).map fun l => x :: l
  | _ :: _ => none
theorem strL_ok {H : Hp} : ∀ {ds : List D} {vs : List V} {l : List PySem.Str}, DRs K H vs ds → strL ds = some l → vs = l.map V.str
  | [], _, _, h, e => by cases h; cases e; rfl
  | d :: ds, _, _, h, e => by
    cases h with
    | cons a b =>
      cases d with
      | str x =>
        cases a
        unfold strL at e
        cases z : strL ds with
        | none => rw [z] at e; cases e
        | some l =>
          rw [z] at e
          cases e
          rw [strL_ok b z]
          rfl
      | _ => cases e
theorem strL_drs {H : Hp} : ∀ (l : List PySem.Str), DRs K H (l.map V.str) (l.map D.str)
  | [] => .nil
  | x :: l => .cons (.str x) (strL_drs l)
def rJoin (K : PySem.W.Frag) : V → List V → Hp → VK → Prop := fun x xs H Q => ∃ a p, ∃ ys : List PySem.Str, x = .str a ∧ xs = [.ref p] ∧ (SqL K H p (ys.map V.str) ∨ SqT K H p (ys.map V.str)) ∧ (ys.map (·.length)).sum + ys.length * a.length ≤ 16777216 ∧ Q (.str (Txt.join a ys)) H
def xjoin (a b : M R) : M R := fun G => bd (a G) fun x G1 => match x.d with
  | .str z => bd (b G1) fun y G2 => (match seqD y.d with
    | some ds => match strL ds with
      | some l => if decide ((l.map (·.length)).sum + l.length * z.length ≤ 16777216) then some (.im (.str (Txt.join z l)), G2) else none
      | none => none
    | none => none)
  | _ => none
theorem gk_join {ta tb : TE} {a b : M R} (ha : GOk K ta a) (hb : GOk K tb b) : GOk K (tM1 (rJoin K) ta tb) (xjoin a b) := fun Fz ba G σ H Hs res G' q e0 Q k => by
  obtain ⟨x, G1, e1, e⟩ := bd_inv e0
  refine ha.im q e1 fun v H1 Hs1 q1 s1 d1 => ?_
  split at e
  case h_2 => cases e
  rename_i z hz
  rw [hz] at d1
  cases d1
  obtain ⟨y, G2, e2, e⟩ := bd_inv e
  refine ⟨⟨z, rfl⟩, ?_⟩
  refine hb.im q1 e2 fun w H2 Hs2 q2 s2 d2 => ?_
  split at e
  case h_2 => cases e
  rename_i ds hds
  split at e
  case h_2 => cases e
  rename_i l hl
  split at e
  case isFalse => cases e
  rename_i hf
  cases e
  obtain ⟨kk, p, vs, rfl, hp, hd⟩ := seqD_ok d2 hds
  have hv := strL_ok hd hl
  subst hv
  refine ⟨z, p, l, rfl, rfl, ?_, of_decide_eq_true hf, k _ H2 Hs2 q2 (s1.trans s2) (.str _)⟩
  cases kk with
  | true => exact .inl (same_lst q2.sub hp)
  | false => exact .inr (same_tup q2.sub hp)
theorem kpe_join {X : Cx} (hK : X.K = K) {o e : Expr} {to te : TE} {apos pos : Pos} (ho : PE X o to) (he : PE X e te) (hs : starEach [e] X.env = [(false, eval e X.env)] := by rfl) (hbase : attributeBase o "join" X.env (eval o X.env) = eval o X.env := by rfl) (hline : (apos.endLine == pos.line) = true := by rfl) :
    PE X (.Call (.Attribute o "join" apos) [e] [] pos) (tM1 (rJoin K) to te) := hK ▸ pe_join ho he hs hbase hline
def xsplit (a b : M R) : M R := fun G => bd (a G) fun x G1 => match x.d with
  | .str z => bd (b G1) fun y G2 => (match y.d with
    | .str w => if !(w.length == 0) && few z.length then (if few (Txt.split z w).length then some (.ol ((Txt.split z w).map D.str), G2) else none) else none
    | _ => none)
  | _ => none
def rSplit : V → List V → Hp → VK → Prop := fun x xs H Q => ∃ a b, x = .str a ∧ xs = [.str b] ∧ (b.length == 0) = false ∧ a.length + 2 ≤ sizeLine ∧ rNewStrs (Txt.split a b) H Q
theorem gk_split {ta tb : TE} {a b : M R} (ha : GOk K ta a) (hb : GOk K tb b) : GOk K (tM1 rSplit ta tb) (xsplit a b) := fun Fz ba G σ H Hs res G' q e0 Q k => by
  obtain ⟨x, G1, e1, e⟩ := bd_inv e0
  refine ha.im q e1 fun v H1 Hs1 q1 s1 d1 => ?_
  split at e
  case h_2 => cases e
  rename_i z hz
  rw [hz] at d1
  cases d1
  obtain ⟨y, G2, e2, e⟩ := bd_inv e
  refine ⟨⟨z, rfl⟩, ?_⟩
  refine hb.im q1 e2 fun w H2 Hs2 q2 s2 d2 => ?_
  split at e
  case h_2 => cases e
  rename_i w hw
  rw [hw] at d2
  cases d2
  split at e
  case isFalse => cases e
  rename_i hf
  split at e
  case isFalse => cases e
  rename_i hf2
  cases e
  rw [Bool.and_eq_true] at hf
  refine ⟨z, w, rfl, rfl, by simpa using hf.1, ?_, fun p hp => ?_⟩
  · have z1 : z.length ≤ 100000 := of_decide_eq_true hf.2
    exact Nat.le_trans (Nat.add_le_add_right z1 2) (by decide)
  · have ex : Ext H2 Hs2 (upd H2 p (.lst ((Txt.split z w).map V.str))) Hs2 := Ext.hid q2.sub hp
    have rf : ResF K H2 (upd H2 p (.lst ((Txt.split z w).map V.str))) Hs2 (.ref p) (.ol ((Txt.split z w).map D.str)) := ⟨p, _, rfl, hp, upd_same, none_sub q2.sub hp, _, rfl, strL_drs _⟩
    exact k _ _ _ (q2.ext ex) ((s1.trans s2).trans ex.b) (rf.res q2)

/-! ### lists that are changed -/
def MutD (K : PySem.W.Frag) (r : V → List V → Hp → VK → Prop) (f : List D → List D → Option (D × List D)) : Prop := ∀ H Hs l vs ds ws xs d ds', Same Hs H → H l = some (.lst vs) → DRs K Hs vs ds → DRs K Hs ws xs → f ds xs = some (d, ds') →
  ∀ Q : VK, (∀ v vs', DR K Hs v d → DRs K Hs vs' ds' → Q v (upd H l (.lst vs'))) → r (.ref l) ws H Q
def xmut (j : Nat) (f : List D → List D → Option (D × List D)) (as : M (List D)) : M R := fun G => if isLst G j then bd (as G) fun xs G1 => match G1[j]? with
  | some e => match e.mu with
    | some (.l ds) => match f ds xs with
      | some (d, ds') => some (.im d, G1.set j (e.with (.l ds')))
      | none => none
    | _ => none
  | none => none else none
theorem gk_mut {j : Nat} {r : V → List V → Hp → VK → Prop} {f : List D → List D → Option (D × List D)} (hr : MutD K r f) {ta : TA} {as : M (List D)} (ha : AOk K ta as) : GOk K (tBM K "list" r (tVar j) ta) (xmut j f as) := fun Fz ba G σ H Hs res G' q e0 Q k => by
  unfold xmut at e0
  split at e0
  case isFalse => cases e0
  rename_i hm
  obtain ⟨l, y3, yk⟩ := q.same_slot (isLst_mu hm)
  obtain ⟨xs, G1, e1, e⟩ := bd_inv e0
  obtain ⟨en0, ds0, y1, y2⟩ := isLst_ok hm
  obtain ⟨_, w1, _, vs0, rfl, _⟩ := yk G H Hs en0 _ q y1 y2
  refine ⟨_, y3, .inl ⟨rfl, vs0, SqL.of w1⟩, ?_⟩
  refine ha Fz ba G σ H Hs xs _ q e1 _ fun ws H1 Hs1 q1 s1 d1 => ?_
  cases h : G1[j]? with
  | none => simp only [h] at e; cases e
  | some en =>
    cases h0 : en.mu with
    | none => simp only [h, h0] at e; cases e
    | some mm =>
     cases mm with
     | o _ _ => simp only [h, h0] at e; cases e
     | l ds =>
      simp only [h, h0] at e
      split at e
      case h_2 => cases e
      rename_i d ds' hf
      cases e
      obtain ⟨_, z1, z2, vs, rfl, z3⟩ := yk _ H1 Hs1 en _ q1 h h0
      exact hr H1 Hs1 l vs ds ws xs d ds' q1.sub z1 z3 d1 hf Q fun v vs' h1 h2 => k v _ Hs1 (q1.mut h h0 y3 (extB_upd q1.sub z2) upd_same z2 ⟨_, rfl, h2⟩) s1 h1
def rInsert : V → List V → Hp → VK → Prop := fun x vs H Q => ∃ (l : Addr) (xs : List V) (i : Int) (y : V), x = .ref l ∧ vs = [.int i, y] ∧ H l = some (.lst xs) ∧ xs.length < sizeLine ∧ 0 ≤ i ∧ i < 2 ^ 63 ∧ Q .non (upd H l (.lst (xs.take i.toNat ++ [y] ++ xs.drop i.toNat)))
def muIns (ds xs : List D) : Option (D × List D) := match xs with
  | [.int i, y] => if few ds.length && (decide (0 ≤ i) && okR i) then some (.non, ds.take i.toNat ++ [y] ++ ds.drop i.toNat) else none
  | _ => none
theorem md_ins : MutD K rInsert muIns := fun H Hs l vs ds ws xs d ds' s hl hd hw e Q k => by
  unfold muIns at e
  split at e
  case h_2 => cases e
  split at e
  case isFalse => cases e
  rename_i i y hf
  cases e
  rw [Bool.and_eq_true, Bool.and_eq_true] at hf
  obtain ⟨z1, z2⟩ : -(2 ^ 62) ≤ i ∧ i < 2 ^ 62 := okR_inv hf.2.2
  cases hw with
  | cons a b =>
    cases b with
    | cons b c =>
      cases c
      cases a
      exact ⟨l, vs, i, _, rfl, rfl, hl, by rw [hd.len]; exact few_lt hf.1, of_decide_eq_true hf.2.1, by omega, k _ _ .non (((hd.take _).app (.cons b .nil)).app (hd.drop _))⟩
def muExt (ds xs : List D) : Option (D × List D) := match xs with
  | [.lst es] => if few (ds.length + es.length) then some (.non, ds ++ es) else none
  | _ => none
theorem md_ext : MutD K rExtend muExt := fun H Hs l vs ds ws xs d ds' s hl hd hw e Q k => by
  unfold muExt at e
  split at e
  case h_2 => cases e
  split at e
  case isFalse => cases e
  rename_i es hf
  cases e
  cases hw with
  | cons a b =>
    cases b
    cases a with
    | lst h1 d1 => exact ⟨l, _, vs, _, rfl, rfl, hl, s _ _ h1, by rw [hd.len, d1.len]; exact few_ok hf, k _ _ .non (hd.app d1)⟩
def muPop (ds xs : List D) : Option (D × List D) := match xs with
  | [.int i] => if okR i then (match seqIndex? i ds.length with
    | some j => match ds[j]? with
      | some d => some (d, ds.eraseIdx j)
      | none => none
    | none => none) else none
  | _ => none
theorem DRs.erase {H : Hp} : ∀ {vs : List V} {ds : List D} (i : Nat), DRs K H vs ds → DRs K H (vs.eraseIdx i) (ds.eraseIdx i)
  | _, _, _, .nil => .nil
  | _, _, 0, .cons _ t => t
  | _, _, i + 1, .cons a t => .cons a (DRs.erase i t)
theorem md_pop : MutD K rPopAt muPop := fun H Hs l vs ds ws xs d ds' s hl hd hw e Q k => by
  unfold muPop at e
  split at e
  case h_2 => cases e
  split at e
  case isFalse => cases e
  rename_i i hf
  split at e
  case h_2 => cases e
  rename_i j hj
  split at e
  case h_2 => cases e
  rename_i d' hd'
  cases e
  obtain ⟨z1, z2⟩ : -(2 ^ 62) ≤ i ∧ i < 2 ^ 62 := okR_inv hf
  obtain ⟨v, v1, v2⟩ := hd.at hd'
  cases hw with
  | cons a b =>
    cases b
    cases a
    exact ⟨l, vs, i, j, v, rfl, rfl, hl, by omega, by omega, by rw [hd.len]; exact hj, v1, k v _ v2 (hd.erase j)⟩
end
end Bk
/-! Bk15: comprehensions with two fors; several names at once; attributes as targets. -/
namespace Bk
open PySem L2
section
variable {K : PySem.W.Frag}
/-! ### two fors -/
def xlc2L (tg : D → Gam → Option Gam) (c : M Bool) (it1 : M (List D)) (tg1 : D → Gam → Option Gam) (c1 : M Bool) (e : M R) (vs vs1 : List Nat) : List D → M (List D)
  | [], G => some ([], G)
  | d :: ds, G => match tg d G with
    | none => none
    | some G1 => bd (c G1) fun k G2 => if k then bd (it1 G2) fun ds1 G3 => bd (xlcL tg1 c1 e vs1 ds1 (wipeG G3 vs1)) fun o1 G4 => bd (xlc2L tg c it1 tg1 c1 e vs vs1 ds (wipeG G4 vs)) fun o2 G5 => some (o1 ++ o2, G5)
        else xlc2L tg c it1 tg1 c1 e vs vs1 ds (wipeG G2 vs)
def xlc2 (it : M (List D)) (tg : D → Gam → Option Gam) (c : M Bool) (it1 : M (List D)) (tg1 : D → Gam → Option Gam) (c1 : M Bool) (e : M R) (vs vs1 : List Nat) : M R := fun G => bd (it G) fun ds G1 =>
  if noMu G1 vs then bd (xlc2L tg c it1 tg1 c1 e vs vs1 ds (wipeG G1 vs)) fun out G2 => if few out.length then some (.ol out, unw G1 G2 vs) else none else none
theorem wipe_sub {σ : L2.St} {vs vs1 : List Nat} (h : ∀ j ∈ vs1, j ∈ vs) : wipe (wipe σ vs1) vs = wipe σ vs := wipe_eq (wipe_length σ vs1) fun j hj => wipe_get fun z => hj (h j z)
theorem gk_lc2 {w w1 : TI} {g g1 : TG} {t t1 : TT} {te : TE} {it it1 : M (List D)} {tg tg1 : D → Gam → Option Gam} {js js1 vs vs1 : List Nat} {c c1 : M Bool} {a : M R} (hi : IOk K w it) (hg : GtOk K g tg js) (hc : TOk K t c) (hi1 : IOk K w1 it1) (hg1 : GtOk K g1 tg1 js1) (hc1 : TOk K t1 c1) (ha : GOk K te a)
    (hj : ∀ j ∈ js, j ∈ vs) (hj1 : ∀ j ∈ js1, j ∈ vs1) (hs : ∀ j ∈ vs1, j ∈ vs) : GOk K (tLc2 w g t w1 g1 t1 te vs vs1) (xlc2 it tg c it1 tg1 c1 a vs vs1) := fun Fz ba G σ H Hs res G' q e Q k => by
  obtain ⟨ds, G1, e1, e⟩ := bd_inv e
  split at e
  case isFalse => cases e
  rename_i nm
  obtain ⟨out, G2, e2, e⟩ := bd_inv e
  split at e
  case isFalse => cases e
  rename_i hf
  cases e
  refine hi Fz ba G σ H Hs ds _ q e1 _ fun J H1 Hs1 q1 s1 Y p hp => ?_
  have hfp : Fz p = none := by
    cases z : Fz p with
    | none => rfl
    | some o =>
      obtain ⟨z1, _⟩ := q1.fz p o z
      rw [hp] at z1
      cases z1
  have q1w := (q1.wiped vs).hide (o := .lst []) hp
  refine ⟨fun i m H2 => m = ds.length - i ∧ i ≤ ds.length ∧ ∃ G3 Hs3 acc ad more, Rel K (upd Fz p (.lst acc)) ba G3 (wipe σ vs) H2 Hs3 ∧ Same Hs1 Hs3 ∧ DRs K Hs3 acc ad ∧ xlc2L tg c it1 tg1 c1 a vs vs1 (ds.drop i) G3 = some (more, G2) ∧ ad ++ more = out,
    ⟨ds.length, rfl, Nat.zero_le _, wipeG G1 vs, Hs1, [], [], out, q1w, Same.refl _, .nil, e2, rfl⟩, ?_⟩
  rintro i m H2 ⟨rfl, hi2, G3, Hs3, acc, ad, more, q3, s3, da, e3, eo⟩
  by_cases hlt : i < ds.length
  · refine .inr ⟨Y.go i H2 (s3.trans q3.sub) hlt, fun H' => i + 1 ≤ ds.length ∧ ∃ G4 Hs4 acc ad more, Rel K (upd Fz p (.lst acc)) ba G4 (wipe σ vs) H' Hs4 ∧ Same Hs1 Hs4 ∧ DRs K Hs4 acc ad ∧ xlc2L tg c it1 tg1 c1 a vs vs1 (ds.drop (i + 1)) G4 = some (more, G2) ∧ ad ++ more = out,
      fun H' ⟨z, z2⟩ => ⟨ds.length - (i + 1), by omega, rfl, z, z2⟩, fun x H' y => ?_⟩
    obtain ⟨d, Hs4, d1, ex, dr⟩ := Y.yld i x H2 H' Hs3 hlt s3 q3.sub y
    have q4 := q3.ext ex
    have ed : ds.drop i = d :: ds.drop (i + 1) := by
      rw [List.drop_eq_getElem_cons hlt]
      rw [List.getElem?_eq_getElem hlt] at d1
      cases d1
      rfl
    rw [ed] at e3
    unfold xlc2L at e3
    cases hG : tg d G3 with
    | none => rw [hG] at e3; cases e3
    | some G4 =>
      rw [hG] at e3
      refine hg.run _ ba G3 _ H' Hs4 x d G4 q4 dr hG _ fun σ5 q5 l5 k5 => ?_
      have hlen : σ5.length = σ.length := by rw [l5, wipe_length]
      have hw : wipe σ5 vs = wipe σ vs := by
        have z := wipe_eq (σ := wipe σ vs) (τ := σ5) (vs := vs) (by rw [wipe_length]; exact hlen) fun j hj' => k5 j fun z => hj' (hj j z)
        rw [z]
        exact wipe_eq (wipe_length σ vs) fun j hj' => wipe_get hj'
      refine ⟨hw, ?_⟩
      obtain ⟨b, G5, e5, e6⟩ := bd_inv e3
      refine hc _ ba G4 σ5 H' Hs4 b G5 q5 e5 _ fun H5 Hs5 q6 s6 => ?_
      cases b with
      | true =>
        obtain ⟨ds1, G6, e7, e8⟩ := bd_inv (show bd (it1 G5) _ = _ from e6)
        obtain ⟨o1, G7, e9, e10⟩ := bd_inv e8
        obtain ⟨o2, G8, e11, e12⟩ := bd_inv e10
        cases e12
        rw [if_pos rfl]
        refine hi1 _ ba G5 σ5 H5 Hs5 ds1 G6 q6 e7 _ fun J1 H6 Hs6 q7 s7 Y1 => ?_
        refine ⟨fun j n H7 => n = ds1.length - j ∧ j ≤ ds1.length ∧ ∃ G9 Hs9 acc ad more, Rel K (upd Fz p (.lst acc)) ba G9 (wipe σ5 vs1) H7 Hs9 ∧ Same Hs6 Hs9 ∧ DRs K Hs9 acc ad ∧ xlcL tg1 c1 a vs1 (ds1.drop j) G9 = some (more, G7) ∧ ad ++ (more ++ o2) = out,
          ⟨ds1.length, rfl, Nat.zero_le _, wipeG G6 vs1, Hs6, acc, ad, o1, q7.wiped vs1, Same.refl _, da.mono ((ex.b.trans s6).trans s7), e9, eo⟩, ?_⟩
        rintro j n H7 ⟨rfl, hj2, G9, Hs9, acc9, ad9, more9, q9, s9, da9, e13, eo9⟩
        by_cases hlt1 : j < ds1.length
        · refine .inr ⟨Y1.go j H7 (s9.trans q9.sub) hlt1, fun H' => j + 1 ≤ ds1.length ∧ ∃ G9 Hs9 acc ad more, Rel K (upd Fz p (.lst acc)) ba G9 (wipe σ5 vs1) H' Hs9 ∧ Same Hs6 Hs9 ∧ DRs K Hs9 acc ad ∧ xlcL tg1 c1 a vs1 (ds1.drop (j + 1)) G9 = some (more, G7) ∧ ad ++ (more ++ o2) = out,
            fun H' ⟨z, z2⟩ => ⟨ds1.length - (j + 1), by omega, rfl, z, z2⟩, fun x1 H8 y1 => ?_⟩
          obtain ⟨dd, Hs10, dd1, ex1, dr1⟩ := Y1.yld j x1 H7 H8 Hs9 hlt1 s9 q9.sub y1
          have q10 := q9.ext ex1
          have ed1 : ds1.drop j = dd :: ds1.drop (j + 1) := by
            rw [List.drop_eq_getElem_cons hlt1]
            rw [List.getElem?_eq_getElem hlt1] at dd1
            cases dd1
            rfl
          rw [ed1] at e13
          unfold xlcL at e13
          cases hG1 : tg1 dd G9 with
          | none => rw [hG1] at e13; cases e13
          | some G11 =>
            rw [hG1] at e13
            refine hg1.run _ ba G9 _ H8 Hs10 x1 dd G11 q10 dr1 hG1 _ fun σ6 q11 l6 k6 => ?_
            have hlen6 : σ6.length = σ5.length := by rw [l6, wipe_length]
            have hw6 : wipe σ6 vs1 = wipe σ5 vs1 := by
              have z := wipe_eq (σ := wipe σ5 vs1) (τ := σ6) (vs := vs1) (by rw [wipe_length]; exact hlen6) fun j hj' => k6 j fun z => hj' (hj1 j z)
              rw [z]
              exact wipe_eq (wipe_length σ5 vs1) fun j hj' => wipe_get hj'
            refine ⟨hw6, ?_⟩
            obtain ⟨b1, G12, e14, e15⟩ := bd_inv e13
            refine hc1 _ ba G11 σ6 H8 Hs10 b1 G12 q11 e14 _ fun H12 Hs12 q12 s12 => ?_
            cases b1 with
            | true =>
              obtain ⟨r, G13, e16, e17⟩ := bd_inv (show bd (a G12) _ = _ from e15)
              obtain ⟨out2, G14, e18, e19⟩ := bd_inv e17
              cases e19
              rw [if_pos rfl]
              refine ha.im q12 e16 fun v H13 Hs13 q13 s13 d13 => ?_
              obtain ⟨f1, f2⟩ := q13.fz p _ upd_same
              have q14 := (q13.rehide (o' := .lst (acc9 ++ [v]))).wiped vs1
              rw [hw6] at q14
              refine ⟨acc9, f1, ?_, hlt1, _, Hs13, _, ad9 ++ [r.d], out2, q14, ((s9.trans ex1.b).trans s12).trans s13, (da9.mono ((ex1.b.trans s12).trans s13)).app (.cons d13 .nil), e18, ?_⟩
              · have z1 := da9.len
                have z2 : ad9.length ≤ out.length := by rw [← eo9, List.length_append]; omega
                exact Nat.lt_of_le_of_lt (by omega) (few_lt hf)
              · rw [← eo9]
                simp
            | false =>
              rw [if_neg Bool.false_ne_true] at e15 ⊢
              have q14 := q12.wiped vs1
              rw [hw6] at q14
              exact ⟨hlt1, _, Hs12, acc9, ad9, more9, q14, (s9.trans ex1.b).trans s12, da9.mono (ex1.b.trans s12), e15, eo9⟩
        · have hend : ds1.length ≤ j := by omega
          rw [List.drop_eq_nil_of_le hend] at e13
          cases e13
          rw [List.nil_append] at eo9
          refine .inl ⟨Y1.stop j H7 (s9.trans q9.sub) hend, hlt, _, Hs9, acc9, ad9, o2, ?_, (((s3.trans ex.b).trans s6).trans s7).trans s9, da9, e11, eo9⟩
          have z := q9.wiped vs
          rw [wipe_sub hs, hw] at z
          exact z
      | false =>
        rw [if_neg Bool.false_ne_true] at e6 ⊢
        have q8 := q6.wiped vs
        rw [hw] at q8
        exact ⟨hlt, _, Hs5, acc, ad, more, q8, (s3.trans ex.b).trans s6, da.mono (ex.b.trans s6), e6, eo⟩
  · have hend : ds.length ≤ i := by omega
    rw [List.drop_eq_nil_of_le hend] at e3
    cases e3
    rw [List.append_nil] at eo
    subst eo
    obtain ⟨f1, f2⟩ := q3.fz p _ upd_same
    refine .inl ⟨Y.stop i H2 (s3.trans q3.sub) hend, k _ H2 Hs3 (q1.unwipe (q3.unhide hfp) s3 nm) (s1.trans s3) ⟨p, _, rfl, f1, f2, hfp, ⟨acc, rfl, da⟩, fun j e' g m z => ?_⟩⟩
    by_cases hjv : j ∈ vs
    · have z1 := q1.len
      have z2 := q3.len
      rw [wipe_length, z1] at z2
      rw [unw_in (G1 := G1) z2.symm hjv] at g
      exact m (noMu_ok nm hjv g)
    · rw [unw_out hjv] at g
      obtain ⟨ds', hd'⟩ : ∃ ds', e'.mu = some ds' := by
        cases y : e'.mu with
        | none => exact absurd y m
        | some ds' => exact ⟨ds', rfl⟩
      obtain ⟨l, ws, a1, a2, a3, a4, a5⟩ := q3.mu j e' ds' g hd'
      rw [wipe_get hjv, z] at a1
      cases a1
      rw [upd_same] at a4
      cases a4
end
end Bk
/-! Bk16: several names at once, attributes as targets, o[i] op= e. -/
namespace Bk
open PySem L2
section
variable {K : PySem.W.Frag}
/-! ### several values, each owned or shared -/
/-- the address that a result owns is p -/
def OwnAt (v : V) (r : R) (p : Addr) : Prop := (∃ m, r = .ow m) ∧ v = .ref p
inductive ResL (K : PySem.W.Frag) (Fz : Hp) (G : Gam) (σ : L2.St) (H Hs : Hp) : List V → List R → Prop
  | nil : ResL K Fz G σ H Hs [] []
  | cons {v : V} {r : R} {vs : List V} {rs : List R} : Res K Fz G σ H Hs v r → (∀ p, OwnAt v r p → ∀ x ∈ vs.zip rs, ¬ OwnAt x.1 x.2 p) → ResL K Fz G σ H Hs vs rs → ResL K Fz G σ H Hs (v :: vs) (r :: rs)
theorem Rel.lock {Fz : Hp} {ba : Nat → Addr} {G : Gam} {σ : L2.St} {H Hs : Hp} (q : Rel K Fz ba G σ H Hs) {p : Addr} {o : HO} (h : H p = some o) (hs : Hs p = none) (hn : ∀ (i : Nat) (e : Ent), G[i]? = some e → e.mu ≠ none → σ[i]? ≠ some (some (.ref p))) : Rel K (upd Fz p o) ba G σ H Hs := by
  refine ⟨q.sub, fun a u e => ?_, q.len, q.im, fun i e ds g g0 => ?_, q.dj, q.bx⟩
  · by_cases z : a = p
    · subst z
      rw [upd_same] at e
      cases e
      exact ⟨h, hs⟩
    · rw [upd_ne z] at e
      exact q.fz a u e
  · obtain ⟨l, vs, a1, a2, a3, a4, a5⟩ := q.mu i e ds g g0
    have ne : l ≠ p := fun z => by
      subst z
      exact hn i e g (by rw [g0]; simp) a1
    exact ⟨l, vs, a1, a2, a3, by rw [upd_ne ne]; exact a4, a5⟩
theorem Res.unlock {Fz : Hp} {G : Gam} {σ : L2.St} {H Hs : Hp} {p : Addr} {o : HO} (hf : Fz p = none) {v : V} {r : R} (h : Res K (upd Fz p o) G σ H Hs v r) : Res K Fz G σ H Hs v r ∧ ¬ OwnAt v r p := by
  cases r with
  | im d => exact ⟨h, fun ⟨⟨m, z⟩, _⟩ => nomatch z⟩
  | ow m =>
    obtain ⟨p', o', rfl, h1, h2, h3, h4, h5⟩ := h
    have ne : p' ≠ p := fun z => by
      subst z
      rw [upd_same] at h3
      cases h3
    rw [upd_ne ne] at h3
    exact ⟨⟨p', o', rfl, h1, h2, h3, h4, h5⟩, fun ⟨_, z⟩ => ne (V.ref.inj z)⟩
theorem ResL.unlock {Fz : Hp} {G : Gam} {σ : L2.St} {H Hs : Hp} {p : Addr} {o : HO} (hf : Fz p = none) : ∀ {vs : List V} {rs : List R}, ResL K (upd Fz p o) G σ H Hs vs rs → ResL K Fz G σ H Hs vs rs ∧ ∀ x ∈ vs.zip rs, ¬ OwnAt x.1 x.2 p
  | _, _, .nil => ⟨.nil, fun x h => by simp at h⟩
  | _, _, .cons h hd t => by
    obtain ⟨a1, a2⟩ := h.unlock hf
    obtain ⟨b1, b2⟩ := ResL.unlock hf t
    refine ⟨.cons a1 hd b1, fun x hx => ?_⟩
    rw [List.zip_cons_cons, List.mem_cons] at hx
    rcases hx with rfl | hx
    · exact a2
    · exact b2 x hx
def AROk (K : PySem.W.Frag) (t : TA) (f : M (List R)) : Prop := ∀ Fz ba G σ H Hs rs G', Rel K Fz ba G σ H Hs → f G = some (rs, G') →
  ∀ Q : List V → Hp → Prop, (∀ vs H' Hs', Rel K Fz ba G' σ H' Hs' → Same Hs Hs' → ResL K Fz G' σ H' Hs' vs rs → Q vs H') → t σ H Q
def ynil : M (List R) := fun G => some ([], G)
def ycons (a : M R) (r : M (List R)) : M (List R) := fun G => bd (a G) fun x G1 => bd (r G1) fun xs G2 => some (x :: xs, G2)
theorem yk_nil : AROk K tNil ynil := fun Fz ba G σ H Hs rs G' q e Q k => by
  cases e
  exact k [] H Hs q (Same.refl _) .nil
theorem yk_cons {ta : TE} {tr : TA} {a : M R} {r : M (List R)} (ha : GOk K ta a) (hr : AROk K tr r) : AROk K (tCons ta tr) (ycons a r) := fun Fz ba G σ H Hs rs G' q e Q k => by
  obtain ⟨x, G1, e1, e⟩ := bd_inv e
  obtain ⟨xs, G2, e2, e⟩ := bd_inv e
  cases e
  refine ha Fz ba G σ H Hs x G1 q e1 _ fun v H1 Hs1 q1 s1 r1 => ?_
  cases x with
  | im d =>
    refine hr Fz ba G1 σ H1 Hs1 xs _ q1 e2 _ fun vs H2 Hs2 q2 s2 r2 => k _ H2 Hs2 q2 (s1.trans s2) (.cons (show DR K Hs2 v d from DR.mono s2 r1) (fun p ⟨⟨m, z⟩, _⟩ => nomatch z) r2)
  | ow m =>
    obtain ⟨p, o, rfl, h1, h2, h3, h4, h5⟩ := r1
    have ql := q1.lock h1 h2 h5
    refine hr _ ba G1 σ H1 Hs1 xs _ ql e2 _ fun vs H2 Hs2 q2 s2 r2 => ?_
    obtain ⟨f1, f2⟩ := q2.fz p o upd_same
    obtain ⟨u1, u2⟩ := ResL.unlock h3 r2
    refine k _ H2 Hs2 (q2.unhide h3) (s1.trans s2) (.cons ⟨p, o, rfl, f1, f2, h3, h4.mono s2, fun i e g mm z => ?_⟩ (fun p' ⟨_, z⟩ => ?_) u1)
    · obtain ⟨ds', hd'⟩ : ∃ ds', e.mu = some ds' := by
        cases y : e.mu with
        | none => exact absurd y mm
        | some ds' => exact ⟨ds', rfl⟩
      obtain ⟨l, ws, a1, a2, a3, a4, a5⟩ := q2.mu i e ds' g hd'
      rw [z] at a1
      cases a1
      rw [upd_same] at a4
      cases a4
    · cases z
      exact u2
/-- a result is still one behind a store of another -/
theorem Res.set {Fz : Hp} {G : Gam} {σ : L2.St} {H Hs : Hp} {i : Nat} {v w : V} {x y : R} (hl : σ.length = G.length) (h : Res K Fz G σ H Hs w y) (hd : ∀ p, OwnAt v x p → ¬ OwnAt w y p) (hx : Res K Fz G σ H Hs v x) : Res K Fz (G.set i x.ent) (σ.set i (some v)) H Hs w y := by
  cases y with
  | im d => exact h
  | ow m =>
    obtain ⟨p, o, rfl, h1, h2, h3, h4, h5⟩ := h
    refine ⟨p, o, rfl, h1, h2, h3, h4, fun j e g mm z => ?_⟩
    rcases get_set g with ⟨rfl, e1, hi⟩ | ⟨ne, g⟩
    · rw [List.getElem?_set_self (by rw [hl]; exact hi)] at z
      cases z
      cases x with
      | im d => subst e1; exact mm rfl
      | ow m' => exact hd p ⟨⟨m', rfl⟩, rfl⟩ ⟨⟨m, rfl⟩, rfl⟩
    · rw [List.getElem?_set_ne ne] at z
      exact h5 j e g mm z
def ypar (i j : Nat) (a : M (List R)) : MS := fun G => bd (a G) fun xs G1 => match xs with
  | [x, y] => some (.nx, (G1.set i x.ent).set j y.ent)
  | _ => none
theorem sk_ypar {i j : Nat} {ta : TA} {a : M (List R)} (ha : AROk K ta a) : SOk K (tPar i j ta) (ypar i j a) := fun Fz ba G σ H Hs fl G' q e Dn p => by
  obtain ⟨xs, G1, e1, e⟩ := bd_inv e
  split at e
  case h_2 => cases e
  rename_i x y
  cases e
  refine ha Fz ba G σ H Hs _ _ q e1 _ fun vs H1 Hs1 q1 s1 d1 => ?_
  cases d1 with
  | cons rx hd d1 =>
    cases d1 with
    | cons ry hd2 d1 =>
      cases d1
      have q2 := q1.set (i := i) rx
      have ry2 := Res.set (i := i) q1.len ry (fun p hp => hd p hp (_, y) (List.mem_cons_self)) rx
      exact ⟨_, _, rfl, p _ H1 Hs1 (q2.set (i := j) ry2) s1⟩
def ypar3 (i j l : Nat) (a : M (List R)) : MS := fun G => bd (a G) fun xs G1 => match xs with
  | [x, y, z] => some (.nx, ((G1.set i x.ent).set j y.ent).set l z.ent)
  | _ => none
theorem sk_ypar3 {i j l : Nat} {ta : TA} {a : M (List R)} (ha : AROk K ta a) : SOk K (tPar3 i j l ta) (ypar3 i j l a) := fun Fz ba G σ H Hs fl G' q e Dn p => by
  obtain ⟨xs, G1, e1, e⟩ := bd_inv e
  split at e
  case h_2 => cases e
  rename_i x y z
  cases e
  refine ha Fz ba G σ H Hs _ _ q e1 _ fun vs H1 Hs1 q1 s1 d1 => ?_
  cases d1 with
  | cons rx hd d1 =>
    cases d1 with
    | cons ry hd2 d1 =>
      cases d1 with
      | cons rz hd3 d1 =>
        cases d1
        have q2 := q1.set (i := i) rx
        have ry2 := Res.set (i := i) q1.len ry (fun p hp => hd p hp (_, y) (List.mem_cons_self)) rx
        have rz2 := Res.set (i := i) q1.len rz (fun p hp => hd p hp (_, z) (List.mem_cons_of_mem _ List.mem_cons_self)) rx
        have q3 := q2.set (i := j) ry2
        have rz3 := Res.set (i := j) q2.len rz2 (fun p hp => hd2 p hp (_, z) List.mem_cons_self) ry2
        exact ⟨_, _, _, rfl, p _ H1 Hs1 (q3.set (i := l) rz3) s1⟩
end
/-! ### o.f as a target -/
section
variable {X : Cx} {o : Expr} {f : PySem.Str} {pos : Pos} {ta : TE}
def gFld (K : PySem.W.Frag) (ta : TE) (f : PySem.Str) : TG := fun v σ H Q => ta σ H fun x H1 => ∃ a C dx fs, x = .ref a ∧ H1 a = some (.ins C dx fs) ∧ Cls K C ∧ NoAttr K C f ∧ fs.length < 1000 ∧ Q σ (upd H1 a (.ins C dx (putF f v fs)))
theorem pg_fld (ho : PE X o ta) : PG X (.Attribute o f pos) (gFld X.K ta f) := by
  refine ⟨fun pins s σ H v u Q I r h => ?_⟩
  show wpAny _ _ (do
    let ov ← holding [u] (eval o X.env)
    standAt pos.atName
    holding [u, ov] (setAttr ov f u)
    release [u, ov] []) _ _ _
  refine wpAny_bind (wpAny_holding (thn (ho.run pins s σ H _ I h) fun ov s1 ⟨x, H1, I1, r1, a, C, dx, fs, ex, ea, c, n, hl, q⟩ => ?_))
  subst ex
  obtain rfl : ov = Value.ref a := r1
  refine wpAny_bind (wpAny_standAt (wpAny_bind (wpAny_holding (setattr_ok I1 ea c n hl r fun s2 I2 => ?_))))
  exact wpAny_release ⟨σ, _, I2, q⟩
end
section
variable {K : PySem.W.Frag} {mg : PySem.Str → Option Value}
def tgf (j c i : Nat) : D → Gam → Option Gam := fun d G => putA j c i d G
theorem gt_fld {j c i : Nat} {f : PySem.Str} (T : ClT K mg c) (hf : (cAttrs c)[i]? = some f) : ∀ Fz ba G σ H Hs v d G', Rel K Fz ba G σ H Hs → DR K Hs v d → tgf j c i d G = some G' → ∀ Q : L2.St → Hp → Prop, (∀ H', Rel K Fz ba G' σ H' Hs → Q σ H') → gFld K (tVar j) f v σ H Q := fun Fz ba G σ H Hs v d G' q hd e Q k => by
  obtain ⟨a, dx, fs, g1, g2, g3, g4⟩ := putA_ok T hf q hd e
  exact ⟨_, g1, a, T.C, dx, fs, rfl, g2, T.cls, T.na f (List.mem_of_getElem? hf), g3, k _ g4⟩
/-- self.f, self.g = e -/
def xasgF (j c i k : Nat) (a : M R) : MS := fun G => bd (a G) fun x G1 => match x.d with
  | .tup [d, d'] => match putA j c i d G1 with
    | some G2 => match putA j c k d' G2 with
      | some G3 => some (.nx, G3)
      | none => none
    | none => none
  | _ => none
theorem sk_asgF {j c i k : Nat} {f g : PySem.Str} (T : ClT K mg c) (hf : (cAttrs c)[i]? = some f) (hg : (cAttrs c)[k]? = some g) {ta : TE} {a : M R} (ha : GOk K ta a) : SOk K (tAsg ta (gTup K 2 (gCons (gFld K (tVar j) f) (gCons (gFld K (tVar j) g) gNil)))) (xasgF j c i k a) := fun Fz ba G σ H Hs fl G' q e Dn p => by
  obtain ⟨x, G1, e1, e⟩ := bd_inv e
  refine ha.im q e1 fun v H1 Hs1 q1 s1 d1 => ?_
  split at e
  case h_2 => cases e
  rename_i d d' hx
  rw [hx] at d1
  split at e
  case h_2 => cases e
  rename_i G2 h2
  split at e
  case h_2 => cases e
  rename_i G3 h3
  cases e
  cases d1 with
  | tup ht hd =>
    cases hd with
    | cons da hd =>
      cases hd with
      | cons db hd =>
        cases hd
        refine ⟨_, _, rfl, same_tup q1.sub ht, rfl, _, _, rfl, ?_⟩
        refine gt_fld T hf Fz ba G1 σ H1 Hs1 _ d G2 q1 da h2 _ fun H2 q2 => ?_
        refine ⟨_, _, rfl, ?_⟩
        refine gt_fld T hg Fz ba G2 σ H2 Hs1 _ d' _ q2 db h3 _ fun H3 q3 => ?_
        exact ⟨rfl, p σ H3 Hs1 q3 s1⟩
/-! ### xs[i] += e -/
def xaugs (j : Nat) (o : D → D → Option R) (b a : M R) : MS := fun G => if isMu G j then bd (b G) fun k G1 => bd (ixv j k.d G1) fun y G2 => bd (a G2) fun x G3 => match o y.d x.d with
  | some r => put j r.d k.d G3
  | none => none else none
end
end Bk
/-! Bk17: sorted of tuples (int, (int, int)) that differ in the first or are one. -/
namespace Bk
open PySem L2 PyProof.Rows Srt
section
variable {prog : Program} {w : World} {A : Around} {E : Value → Shared → Prop} {s : Shared}
/-- a tuple of an int and a pair of ints -/
def IsKP (h : Heap) (v : Value) (k : Int × Int × Int) : Prop := ∃ (a b : Addr) (o o2 : Obj) (t u z : Tok) (n n2 : Nat), v = .ref a ∧ h.get? a = some o ∧ o.cls = .type "tuple" ∧ o.data = .seq #[.int k.1 t, .ref b] n ∧ h.get? b = some o2 ∧ o2.cls = .type "tuple" ∧ o2.data = .seq #[.int k.2.1 u, .int k.2.2 z] n2
theorem IsKP.keeps {h h' : Heap} {v : Value} {k : Int × Int × Int} (p : IsKP h v k) (kk : ∀ b o, h.get? b = some o → o.cls = .type "tuple" → h'.get? b = some o) : IsKP h' v k := by
  obtain ⟨a, b, o, o2, t, u, z, n, n2, e, h1, h2, h3, h4, h5, h6⟩ := p
  exact ⟨a, b, o, o2, t, u, z, n, n2, e, kk _ _ h1 h2, h2, h3, kk _ _ h4 h5, h5, h6⟩
def ltK (k : Value → Int × Int × Int) (v u : Value) : Bool := decide ((k v).1 < (k u).1)
theorem swo_K (k : Value → Int × Int × Int) : SrtO.Swo (ltK k) := by
  refine ⟨fun x y h => ?_, fun x y z h1 h2 => ?_⟩
  · have a := of_decide_eq_true h
    exact decide_eq_false (by omega)
  · have a := of_decide_eq_false h1
    have b := of_decide_eq_false h2
    exact decide_eq_false (by omega)
theorem eq_pairs {b b' : Addr} {o2 o2' : Obj} {p q : Int} {u z u' z' : Tok} {n n' : Nat} (hu : A.units < cLine) (h1 : s.heap.get? b = some o2) (c1 : o2.cls = .type "tuple") (d1 : o2.data = .seq #[.int p u, .int q z] n) (h2 : s.heap.get? b' = some o2') (c2 : o2'.cls = .type "tuple") (d2 : o2'.data = .seq #[.int p u', .int q z'] n') :
    SeqAt.EqAt A s (.ref b) (.ref b') true := by
  by_cases e : b = b'
  · subst e
    exact SeqAt.EqAt.same _
  · have key := SeqAt.RcAt.tuples (A := A) (s := s) (l := b) (b := b') (items := #[.int p u, .int q z]) (items2 := #[.int p u', .int q z']) (e := fun _ => true) ⟨o2, h1, c1, n, d1⟩ ⟨o2', h2, c2, n', d2⟩ hu (fun j j1 j2 => ?_)
    · have key2 : SeqAt.RcAt A s (.ref b) (.ref b') true := by
        have z : ((List.range (min (#[Value.int p u, Value.int q z]).size (#[Value.int p u', Value.int q z']).size)).all (fun _ => true) && (#[Value.int p u, Value.int q z]).size == (#[Value.int p u', Value.int q z']).size) = true := by
          show ((List.range 2).all (fun _ => true) && (2 == 2)) = true
          decide
        rw [z] at key
        exact key
      exact SeqAt.EqAt.of_refs e key2
    · match j, j1, j2 with
      | 0, _, _ => simpa using SeqAt.EqAt.int_int (A := A.in1) (s := s) p u p u'
      | 1, _, _ => simpa using SeqAt.EqAt.int_int (A := A.in1) (s := s) q z q z'
theorem kp_cmp {vs : List Value} {k : Value → Int × Int × Int} (hu : A.units < cLine) (hp : ∀ v ∈ vs, IsKP s.heap v (k v)) (hq : ∀ v ∈ vs, ∀ u ∈ vs, (k v).1 = (k u).1 → (k v).2 = (k u).2) : SrtO.Cmp prog w A s (tuples' true) (fun p => p.1 ∈ vs) (SrtO.lt2 (ltK k)) := by
  intro p q hm hm'
  have h1 := hp _ hm
  have h2 := hp _ hm'
  have h3 := hq _ hm _ hm'
  show wpAny (model prog w) A (keyLt' (tuples' true) p.1 q.1) (fun r s' => s' = s ∧ r = ltK k p.1 q.1) (fun _ _ => False) s
  unfold ltK
  generalize k p.1 = x at h1 h3 ⊢
  generalize k q.1 = y at h2 h3 ⊢
  obtain ⟨a, b, o, o2, t, u, z, n, n2, e, a1, a2, a3, a4, a5, a6⟩ := h1
  obtain ⟨a', b', o', o2', t', u', z', n', n2', e', b1, b2, b3, b4, b5, b6⟩ := h2
  rw [e, e']
  refine PySem.W.kat_lt a1 a3 b1 b3 ?_
  show PySem.W.KatLex prog w A true (decide (2 < 2)) _ [(.int x.1 t, .int y.1 t'), (.ref b, .ref b')] 0 s
  refine PySem.W.kat_cons (SeqAt.EqAt.int_int x.1 t y.1 t' prog w _ _ ?_)
  refine PySem.W.kat_go (fun e1 => ?_) (fun e1 => ?_)
  · have ex : x.1 = y.1 := by simpa using e1
    have e2 := h3 ex
    rw [← e2] at b6
    refine PySem.W.kat_yes (PySem.W.kat_cons (eq_pairs hu a4 a5 a6 b4 b5 b6 prog w _ _ ?_))
    refine PySem.W.kat_yes (PySem.W.kat_nil ⟨rfl, ?_⟩)
    rw [ex]
    exact (decide_eq_false (Int.lt_irrefl _)).symm
  · exact PySem.W.kat_no (oneLt_int ⟨rfl, rfl⟩)
theorem kp_firsts {h : Heap} : ∀ {vs : List Value}, (∀ v ∈ vs, ∃ k, IsKP h v k) → ∃ fs : List Value, PySem.W.KatTups h vs fs ∧ fs.length = vs.length ∧ ∀ f ∈ fs, ∃ x t, f = Value.int x t
  | [], _ => ⟨[], PySem.W.KatTups.nil, rfl, fun _ hm => by simp at hm⟩
  | v :: vs, hp => by
    obtain ⟨fs, h1, h2, h3⟩ := kp_firsts (vs := vs) fun v' hm => hp v' (List.mem_cons_of_mem _ hm)
    obtain ⟨k, a, b, o, o2, t, u, z, n, n2, e, a1, a2, a3, a4, a5, a6⟩ := hp v (List.mem_cons_self ..)
    subst e
    refine ⟨.int k.1 t :: fs, ?_, by rw [List.length_cons, List.length_cons, h2], fun f hf => ?_⟩
    · exact PySem.W.KatTups.cons a1 a2 a3 rfl h1
    · rcases List.mem_cons.mp hf with rfl | hf
      · exact ⟨_, _, rfl⟩
      · exact h3 f hf
theorem kp_sortable {a : Addr} {vs : List Value} {k : Value → Int × Int × Int} (hu : A.units < cLine) (h0 : 0 < vs.length) (hp : ∀ v ∈ vs, IsKP s.heap v (k v)) (hq : ∀ v ∈ vs, ∀ u ∈ vs, (k v).1 = (k u).1 → (k v).2 = (k u).2) (ha : ∀ o, s.heap.get? a = some o → o.cls ≠ .type "tuple") :
    SrtO.SortableO prog w A s a vs (ltK k) := by
  intro h' keep
  have hp' : ∀ v ∈ vs, IsKP h' v (k v) := fun v hm => (hp v hm).keeps fun b o e c => keep b o (fun z => ha o (z ▸ e) c) e
  obtain ⟨fs, h1, h2, h3⟩ := kp_firsts fun v hm => ⟨_, hp' v hm⟩
  refine ⟨tuples' true, fun Q E hq2 => ?_, kp_cmp hu hp' hq⟩
  refine PySem.W.kat_kind (T := .type "int") h1 (by omega) (fun f hm => ?_) rfl ?_
  · obtain ⟨x, t, rfl⟩ := h3 f hm
    exact PySem.W.Looks.now
  · rw [show (Value.type "int" != Value.type "tuple") = true by decide +kernel]
    exact hq2
theorem sorted_kp {l : Addr} {vs : List Value} {k : Value → Int × Int × Int} {Q : Value → Shared → Prop} (hu : A.in1.in1.units < cLine) (hl : s.heap.IsList l vs.toArray) (hz : vs.length ≤ sizeLine) (hp : ∀ v ∈ vs, IsKP s.heap v (k v)) (hq : ∀ v ∈ vs, ∀ u ∈ vs, (k v).1 = (k u).1 → (k v).2 = (k u).2)
    (h : ∀ (h' : Heap) (d : Addr) (out : List Value), SrtO.Srtd (ltK k) out → SrtO.Stb (ltK k) out vs → (∀ b o, s.heap.get? b = some o → h'.get? b = some o) → s.heap.objs.size ≤ d → (∃ n, h'.get? d = some (seqObj "list" out.toArray n)) → Q (.ref d) { s with heap := h' }) :
    wpAny (model prog w) A (call (.builtin "sorted") [.ref l]) Q E s := by
  refine SrtO.sorted_ord (swo_K k) hl hz (fun h2 h₁ a ha kk => ?_) fun out hs hb => ?_
  · refine kp_sortable (s := { s with heap := h₁ }) hu (by omega) (fun v hm => (hp v hm).keeps fun b o e _ => (kk b o e).2) hq fun o e => ?_
    rw [ha] at e
    cases e
    exact fun c => absurd (Value.type.inj c) (by decide)
  · exact h _ _ out hs hb (fun b o e => sortedAll_old e) (Nat.le_succ _) (sortedAll_at s.heap vs out.toArray)
end
/-- the same order on the values of the layer -/
abbrev ltV (k : V → Int × Int × Int) (x y : V) : Bool := decide ((k x).1 < (k y).1)
theorem ltV_swo (k : V → Int × Int × Int) : SrtO.Swo (ltV k) := by
  refine ⟨fun x y h => ?_, fun x y z h1 h2 => ?_⟩
  · have a := of_decide_eq_true h
    exact decide_eq_false (by omega)
  · have a := of_decide_eq_false h1
    have b := of_decide_eq_false h2
    exact decide_eq_false (by omega)
def rSortK (K : PySem.W.Frag) : List V → Hp → VK → Prop := fun vs H Q => ∃ (a : Addr) (xs : List V) (k : V → Int × Int × Int), vs = [V.ref a] ∧ SqL K H a xs ∧ (∀ x ∈ xs, ∃ t b, x = V.ref t ∧ SqT K H t [.int (k x).1, .ref b] ∧ SqT K H b [.int (k x).2.1, .int (k x).2.2]) ∧
  (∀ x ∈ xs, ∀ y ∈ xs, (k x).1 = (k y).1 → (k x).2 = (k y).2) ∧ ∀ ys p, SrtO.Srtd (ltV k) ys → SrtO.Stb (ltV k) ys xs → H p = none → Q (.ref p) (upd H p (.lst ys))
section
variable {X : Cx}
theorem cr_sortK (hu : X.A.in1.in1.units < cLine) : CallR X (.builtin "sorted") (rSortK X.K) := by
  intro pins s σ H vs us Q I r h
  obtain ⟨a, xs, k, rfl, hs, hx, hq, q⟩ := h
  obtain ⟨its, rv, hl, hz⟩ := I.list hs
  obtain ⟨u, rfl, ru⟩ := r.one
  cases (show u = Value.ref a from ru)
  obtain ⟨e1, e2⟩ := refs_back rv fun x m => by
    obtain ⟨t, b, e, _⟩ := hx x m
    exact ⟨t, e⟩
  have hm : ∀ v ∈ its, backV v ∈ xs := fun v hv => by
    rw [e1]
    exact List.mem_map.mpr ⟨v, hv, rfl⟩
  refine sorted_kp (k := fun u => k (backV u)) hu hl.isList (by rw [← rv.length]; exact hz) (fun v hv => ?_) (fun v hv u hu' => hq _ (hm v hv) _ (hm u hu')) fun h' d out h1 h2 kp hd hn => ?_
  · obtain ⟨t, rfl⟩ := e2 v hv
    obtain ⟨t', b, e, h1, h2⟩ := hx _ (hm _ hv)
    cases e
    obtain ⟨its1, r1, ⟨o1, p1, p2, n1, p3⟩, _⟩ := I.tuple h1
    obtain ⟨its2, r2, ⟨o2, p4, p5, n2, p6⟩, _⟩ := I.tuple h2
    obtain ⟨u1, u2, rfl, ⟨t1, rfl⟩, rj⟩ := vals2 r1
    obtain ⟨u3, u4, rfl, ⟨t3, rfl⟩, ⟨t4, rfl⟩⟩ := vals2 r2
    cases (show u2 = Value.ref b from rj)
    exact ⟨t, b, o1, o2, t1, t3, t4, n1, n2, rfl, p1, p2, p3, p4, p5, p6⟩
  · have h3 : ∀ u ∈ out, ∃ a, u = Value.ref a := fun u hu => e2 u (h2.perm.mem_iff.mp hu)
    obtain ⟨n, hn⟩ := hn
    have hb : SrtO.Stb (ltV k) (out.map backV) xs := by
      rw [e1]
      exact SrtO.Stb.map (ltV_swo k) backV h2
    refine ⟨.ref d, upd H d (.lst (out.map backV)), I.laid (t' := s.toks) kp hd ⟨?_, out, n, vals_back h3, hn⟩, rfl, q _ d (SrtO.srtd_map h1) hb (I.hok.fresh hd)⟩
    rw [hb.len]
    exact hz
end
/-! ### on data -/
section
variable {α β : Type}
def insK (f : α → Int) (x : α) : List α → List α
  | [] => [x]
  | y :: r => if f x ≤ f y then x :: y :: r else y :: insK f x r
def sortK (f : α → Int) : List α → List α
  | [] => []
  | x :: r => insK f x (sortK f r)
theorem insK_perm (f : α → Int) (x : α) : ∀ l : List α, (insK f x l).Perm (x :: l)
  | [] => List.Perm.refl _
  | y :: r => by
    unfold insK
    split
    · exact List.Perm.refl _
    · exact ((insK_perm f x r).cons y).trans (List.Perm.swap x y r)
theorem sortK_perm (f : α → Int) : ∀ l : List α, (sortK f l).Perm l
  | [] => List.Perm.refl _
  | x :: r => (insK_perm f x _).trans ((sortK_perm f r).cons x)
theorem insK_sorted (f : α → Int) (x : α) : ∀ {l : List α}, l.Pairwise (fun a b => f a ≤ f b) → (insK f x l).Pairwise (fun a b => f a ≤ f b)
  | [], _ => List.pairwise_singleton _ _
  | y :: r, h => by
    unfold insK
    obtain ⟨h1, h2⟩ := List.pairwise_cons.mp h
    split
    · rename_i hxy
      refine List.pairwise_cons.mpr ⟨fun z hz => ?_, h⟩
      rcases List.mem_cons.mp hz with rfl | hz
      · exact hxy
      · exact Int.le_trans hxy (h1 z hz)
    · rename_i hxy
      refine List.pairwise_cons.mpr ⟨fun z hz => ?_, insK_sorted f x h2⟩
      rcases List.mem_cons.mp ((insK_perm f x r).mem_iff.mp hz) with rfl | hz
      · omega
      · exact h1 z hz
theorem sortK_sorted (f : α → Int) : ∀ l : List α, (sortK f l).Pairwise (fun a b => f a ≤ f b)
  | [] => List.Pairwise.nil
  | x :: r => insK_sorted f x (sortK_sorted f r)
theorem insK_filter (f : α → Int) (c : Int) (x : α) : ∀ l : List α, (insK f x l).filter (fun y => f y == c) = (x :: l).filter (fun y => f y == c)
  | [] => rfl
  | y :: r => by
    unfold insK
    split
    · rfl
    · rename_i hxy
      have ih := insK_filter f c x r
      by_cases hx : f x = c
      · have hy : ¬ f y = c := by omega
        rw [List.filter_cons_of_neg (by simpa using hy), ih, List.filter_cons_of_pos (by simpa using hx), List.filter_cons_of_pos (by simpa using hx), List.filter_cons_of_neg (by simpa using hy)]
      · rw [List.filter_cons_of_neg (a := x) (by simpa using hx), List.filter_cons, List.filter_cons, ih, List.filter_cons_of_neg (a := x) (by simpa using hx)]
theorem sortK_filter (f : α → Int) (c : Int) : ∀ l : List α, (sortK f l).filter (fun y => f y == c) = l.filter (fun y => f y == c)
  | [] => rfl
  | x :: r => by
    show (insK f x (sortK f r)).filter _ = _
    rw [insK_filter, List.filter_cons, List.filter_cons, sortK_filter f c r]
theorem insK_map (f : β → Int) (g : α → β) (x : α) : ∀ l : List α, (insK (fun a => f (g a)) x l).map g = insK f (g x) (l.map g)
  | [] => rfl
  | y :: r => by
    unfold insK
    rw [List.map_cons]
    split
    · rename_i h
      simp only [h, if_true, List.map_cons]
    · rename_i h
      simp only [h, if_false, List.map_cons, insK_map f g x r]
theorem sortK_map (f : β → Int) (g : α → β) : ∀ l : List α, (sortK (fun a => f (g a)) l).map g = sortK f (l.map g)
  | [] => rfl
  | x :: r => by
    show (insK _ x (sortK _ r)).map g = insK f (g x) (sortK f (r.map g))
    rw [insK_map, sortK_map f g r]
end
def keyD : D → Int
  | .tup (.int x :: _) => x
  | _ => 0
def kpD : D → Option (Int × Int × Int)
  | .tup [.int x, .tup [.int p, .int q]] => some (x, p, q)
  | _ => none
def kpDs : List D → Option (List (Int × Int × Int))
  | [] => some []
  | d :: ds => match kpD d, kpDs ds with
    | some a, some as => some (a :: as)
    | _, _ => none
/-- alike in the first: alike -/
def okKP : List (Int × Int × Int) → Bool
  | [] => true
  | a :: r => r.all (fun b => !(a.1 == b.1) || (a.2.1 == b.2.1 && a.2.2 == b.2.2)) && okKP r
theorem okKP_ok : ∀ {l : List (Int × Int × Int)}, okKP l = true → ∀ a ∈ l, ∀ b ∈ l, a.1 = b.1 → a.2 = b.2
  | [], _, a, ha, _, _, _ => by simp at ha
  | c :: r, h, a, ha, b, hb, e => by
    unfold okKP at h
    rw [Bool.and_eq_true, List.all_eq_true] at h
    obtain ⟨h1, h2⟩ := h
    have key : ∀ b ∈ r, c.1 = b.1 → c.2 = b.2 := fun b hb e => by
      have z := h1 b hb
      simp only [e, beq_self_eq_true, Bool.not_true, Bool.false_or, Bool.and_eq_true, beq_iff_eq] at z
      exact Prod.ext z.1 z.2
    rcases List.mem_cons.mp ha with ea | ha'
    · rcases List.mem_cons.mp hb with eb | hb'
      · rw [ea, eb]
      · rw [ea] at e ⊢
        exact key b hb' e
    · rcases List.mem_cons.mp hb with eb | hb'
      · rw [eb] at e ⊢
        exact (key a ha' e.symm).symm
      · exact okKP_ok h2 a ha' b hb' e
def cbSorted : List D → Option R
  | [d] => match seqL d with
    | some ds => match kpDs ds with
      | some l => if okKP l then some (.ol (sortK keyD ds)) else none
      | none => none
    | none => none
  | _ => none
where seqL : D → Option (List D)
  | .lst ds => some ds
  | .frz ds => some ds
  | _ => none
section
variable {K : PySem.W.Frag}
theorem zip_drs {H : Hp} : ∀ {vs : List V} {ds : List D}, DRs K H vs ds → ∀ p ∈ vs.zip ds, DR K H p.1 p.2
  | _, _, .nil, p, h => by simp at h
  | _, _, .cons a t, p, h => by
    rw [List.zip_cons_cons, List.mem_cons] at h
    rcases h with rfl | h
    · exact a
    · exact zip_drs t p h
theorem drs_of {H : Hp} : ∀ {l : List (V × D)}, (∀ p ∈ l, DR K H p.1 p.2) → DRs K H (l.map (·.1)) (l.map (·.2))
  | [], _ => .nil
  | p :: l, h => .cons (h p List.mem_cons_self) (drs_of fun q hq => h q (List.mem_cons_of_mem _ hq))
theorem DRs.zips {H : Hp} : ∀ {vs : List V} {ds : List D}, DRs K H vs ds → (vs.zip ds).map (·.1) = vs ∧ (vs.zip ds).map (·.2) = ds
  | _, _, .nil => ⟨rfl, rfl⟩
  | _, _, .cons a t => by
    obtain ⟨h1, h2⟩ := DRs.zips t
    exact ⟨by rw [List.zip_cons_cons, List.map_cons, h1], by rw [List.zip_cons_cons, List.map_cons, h2]⟩
theorem kpDs_mem : ∀ {ds : List D} {l : List (Int × Int × Int)}, kpDs ds = some l → ∀ d ∈ ds, ∃ a ∈ l, kpD d = some a
  | [], _, _, d, h => by simp at h
  | e :: ds, l, h, d, hd => by
    unfold kpDs at h
    split at h
    case h_2 => cases h
    rename_i a as h1 h2
    cases h
    rcases List.mem_cons.mp hd with rfl | hd
    · exact ⟨a, List.mem_cons_self, h1⟩
    · obtain ⟨b, hb, e⟩ := kpDs_mem h2 d hd
      exact ⟨b, List.mem_cons_of_mem _ hb, e⟩
theorem kpD_key {d : D} {a : Int × Int × Int} (h : kpD d = some a) : keyD d = a.1 := by
  unfold kpD at h
  split at h
  · cases h; rfl
  · cases h
/-- the value's own key: that of the data behind it -/
theorem key_of {H : Hp} {v : V} {d : D} {a : Int × Int × Int} (h : DR K H v d) (e : kpD d = some a) : ∃ t b, v = .ref t ∧ SqT K H t [.int a.1, .ref b] ∧ SqT K H b [.int a.2.1, .int a.2.2] := by
  unfold kpD at e
  split at e
  case h_2 => cases e
  cases e
  cases h with
  | tup h1 d1 =>
    cases d1 with
    | cons a1 d1 =>
      cases d1 with
      | cons a2 d1 =>
        cases d1
        cases a1
        cases a2 with
        | tup h2 d2 =>
          cases d2 with
          | cons b1 d2 =>
            cases d2 with
            | cons b2 d2 =>
              cases d2
              cases b1
              cases b2
              exact ⟨_, _, rfl, h1, h2⟩
theorem sortK_congr {α : Type} {f g : α → Int} : ∀ {l : List α}, (∀ x ∈ l, f x = g x) → sortK f l = sortK g l := by
  have ins : ∀ {x : α} {l : List α}, f x = g x → (∀ y ∈ l, f y = g y) → insK f x l = insK g x l := fun {x l} hx h => by
    induction l with
    | nil => rfl
    | cons y r ih =>
      unfold insK
      rw [hx, h y List.mem_cons_self, ih fun z hz => h z (List.mem_cons_of_mem _ hz)]
  intro l h
  induction l with
  | nil => rfl
  | cons x r ih =>
    show insK f x (sortK f r) = insK g x (sortK g r)
    rw [ih fun z hz => h z (List.mem_cons_of_mem _ hz)]
    exact ins (h x List.mem_cons_self) fun y hy => h y (List.mem_cons_of_mem _ ((sortK_perm g r).mem_iff.mp hy))
theorem sortK_uniq {k : V → Int × Int × Int} {ys xs : List V} (h1 : SrtO.Srtd (ltV k) ys) (h2 : SrtO.Stb (ltV k) ys xs) : ys = sortK (fun v => (k v).1) xs := by
  have s1 : SrtO.Srtd (ltV k) (sortK (fun v => (k v).1) xs) := (sortK_sorted (fun v => (k v).1) xs).imp fun {a b} h => decide_eq_false (by omega)
  have s2 : SrtO.Stb (ltV k) (sortK (fun v => (k v).1) xs) xs := by
    refine ⟨sortK_perm _ _, fun x => ?_⟩
    have e : SrtO.eqv (ltV k) x = fun y => (k y).1 == (k x).1 := funext fun y => by
      unfold SrtO.eqv
      by_cases h : (k y).1 = (k x).1
      · simp [h]
      · have : (k x).1 < (k y).1 ∨ (k y).1 < (k x).1 := by omega
        have hb : ((k y).1 == (k x).1) = false := beq_eq_false_iff_ne.mpr h
        rcases this with z | z
        · have e1 : ltV k x y = true := decide_eq_true z
          show (!ltV k x y && !ltV k y x) = ((k y).1 == (k x).1)
          rw [e1, hb]
          rfl
        · have e1 : ltV k y x = true := decide_eq_true z
          show (!ltV k x y && !ltV k y x) = ((k y).1 == (k x).1)
          rw [e1, hb, Bool.not_true, Bool.and_false]
    rw [e]
    exact sortK_filter (fun v => (k v).1) _ xs
  refine SrtO.stb_uniq (ltV_swo k) h1 s1 ⟨h2.perm.trans s2.perm.symm, fun x => (h2.cls x).trans (s2.cls x).symm⟩
def rSortP (K : PySem.W.Frag) : List V → Hp → VK → Prop := fun vs H Q => ∃ (a : Addr) (ps : List (V × Int × Int × Int)), vs = [V.ref a] ∧ SqL K H a (ps.map (·.1)) ∧ (∀ p ∈ ps, ∃ t b, p.1 = V.ref t ∧ SqT K H t [.int p.2.1, .ref b] ∧ SqT K H b [.int p.2.2.1, .int p.2.2.2]) ∧
  (∀ p ∈ ps, ∀ q ∈ ps, p.2.1 = q.2.1 → p.2.2 = q.2.2) ∧ ∀ p, H p = none → Q (.ref p) (upd H p (.lst ((sortK (fun p => p.2.1) ps).map (·.1))))
theorem cr_sortP {X : Cx} (hu : X.A.in1.in1.units < cLine) : CallR X (.builtin "sorted") (rSortP X.K) := by
  intro pins s σ H vs us Q I r h
  obtain ⟨a, ps, rfl, hs, hx, hq, q⟩ := h
  open Classical in
  let k : V → Int × Int × Int := fun v => if h : ∃ p ∈ ps, p.1 = v then h.choose.2 else (0, 0, 0)
  have hk : ∀ p ∈ ps, k p.1 = p.2 := fun p hp => by
    have hh : ∃ p' ∈ ps, p'.1 = p.1 := ⟨p, hp, rfl⟩
    have e : k p.1 = hh.choose.2 := dif_pos hh
    obtain ⟨m1, m2⟩ := hh.choose_spec
    rw [e]
    generalize hh.choose = p' at m1 m2
    obtain ⟨t, b, e1, h1, h2⟩ := hx p hp
    obtain ⟨t', b', e1', h1', h2'⟩ := hx p' m1
    rw [m2, e1] at e1'
    cases e1'
    have z := I.tuple_inj h1 h1'
    simp only [List.cons.injEq, V.int.injEq, V.ref.injEq, and_true] at z
    obtain ⟨z1, z2⟩ := z
    subst z2
    have y := I.tuple_inj h2 h2'
    simp only [List.cons.injEq, V.int.injEq, and_true] at y
    exact Prod.ext z1.symm (Prod.ext y.1.symm y.2.symm)
  refine cr_sortK hu pins s σ H _ us Q I r ⟨a, ps.map (·.1), k, rfl, hs, fun x hm => ?_, fun x hm y hm' e => ?_, fun ys p h1 h2 hp => ?_⟩
  · obtain ⟨p, hp, rfl⟩ := List.mem_map.mp hm
    obtain ⟨t, b, e, h1, h2⟩ := hx p hp
    rw [hk p hp]
    exact ⟨t, b, e, h1, h2⟩
  · obtain ⟨p, hp, rfl⟩ := List.mem_map.mp hm
    obtain ⟨p', hp', rfl⟩ := List.mem_map.mp hm'
    rw [hk p hp, hk p' hp'] at e ⊢
    exact hq p hp p' hp' e
  · have e : ys = (sortK (fun p => p.2.1) ps).map (·.1) := by
      rw [sortK_uniq h1 h2, ← sortK_map (fun v => (k v).1) (fun p : V × Int × Int × Int => p.1) ps]
      exact congrArg _ (sortK_congr fun p hp => by rw [hk p hp])
    rw [e]
    exact q p hp
theorem cd_sorted : CbD K (rSortP K) cbSorted := fun H Hs xs ds res s h e Q k => by
  unfold cbSorted at e
  split at e
  case h_2 => cases e
  rename_i d
  split at e
  case h_2 => cases e
  rename_i es hes
  split at e
  case h_2 => cases e
  rename_i l hl
  split at e
  case isFalse => cases e
  rename_i hok
  cases e
  have hsq : ∃ a vs, xs = [V.ref a] ∧ SqL K Hs a vs ∧ DRs K Hs vs es := by
    cases h with
    | cons a b =>
      cases b
      unfold cbSorted.seqL at hes
      split at hes
      · cases hes
        cases a with
        | lst h1 d1 => exact ⟨_, _, rfl, SqL.of h1, d1⟩
      · cases hes
        cases a with
        | frz h1 d1 => exact ⟨_, _, rfl, h1, d1⟩
      · cases hes
  obtain ⟨a, vs, rfl, hq, hd⟩ := hsq
  obtain ⟨z1, z2⟩ := hd.zips
  have hm : ∀ p ∈ vs.zip es, ∃ c ∈ l, kpD p.2 = some c := fun p hp => kpDs_mem hl _ (by rw [← z2]; exact List.mem_map.mpr ⟨p, hp, rfl⟩)
  let g : V × D → V × Int × Int × Int := fun p => (p.1, (kpD p.2).getD (0, 0, 0))
  have eg : ∀ p, (g p).1 = p.1 := fun _ => rfl
  have hg : ∀ p ∈ vs.zip es, ∃ c ∈ l, kpD p.2 = some c ∧ (g p).2 = c := fun p hp => by
    obtain ⟨c, c1, c2⟩ := hm p hp
    exact ⟨c, c1, c2, by show (kpD p.2).getD _ = c; rw [c2]; rfl⟩
  refine ⟨a, (vs.zip es).map g, rfl, ?_, fun p hp => ?_, fun p hp p' hp' ee => ?_, fun p hp => ?_⟩
  · have : ((vs.zip es).map g).map (·.1) = vs := by
      rw [List.map_map]
      exact z1
    rw [this]
    exact same_lst s hq
  · obtain ⟨p0, hp0, rfl⟩ := List.mem_map.mp hp
    obtain ⟨c, c1, c2, c3⟩ := hg p0 hp0
    obtain ⟨t, b, e1, h1, h2⟩ := key_of (zip_drs hd p0 hp0) c2
    rw [c3]
    exact ⟨t, b, e1, same_tup s h1, same_tup s h2⟩
  · obtain ⟨p0, hp0, rfl⟩ := List.mem_map.mp hp
    obtain ⟨p1, hp1, rfl⟩ := List.mem_map.mp hp'
    obtain ⟨c, c1, c2, c3⟩ := hg p0 hp0
    obtain ⟨c', c1', c2', c3'⟩ := hg p1 hp1
    rw [c3, c3'] at ee ⊢
    exact okKP_ok hok c c1 c' c1' ee
  · have e1 : (sortK (fun p : V × Int × Int × Int => p.2.1) ((vs.zip es).map g)).map (·.1) = (sortK (fun p : V × D => keyD p.2) (vs.zip es)).map (·.1) := by
      rw [← sortK_map (fun p : V × Int × Int × Int => p.2.1) g (vs.zip es), List.map_map]
      rw [show ((fun x : V × Int × Int × Int => x.1) ∘ g) = (fun p : V × D => p.1) from rfl]
      refine congrArg _ (sortK_congr fun p hp => ?_)
      obtain ⟨c, c1, c2, c3⟩ := hg p hp
      rw [c3, kpD_key c2]
    have e2 : (sortK (fun p : V × D => keyD p.2) (vs.zip es)).map (·.2) = sortK keyD es := by
      rw [sortK_map keyD (fun p : V × D => p.2) (vs.zip es), z2]
    have hdr : DRs K Hs ((sortK (fun p : V × D => keyD p.2) (vs.zip es)).map (·.1)) (sortK keyD es) := by
      rw [← e2]
      exact drs_of fun p hp => zip_drs hd p ((sortK_perm _ _).mem_iff.mp hp)
    rw [e1]
    exact k _ _ Hs (Ext.hid s hp) ⟨p, _, rfl, hp, upd_same, none_sub s hp, _, rfl, hdr⟩
end
end Bk
/-! Bk18: methods and defaults of a text; methods that change their instance; short words with the written part named. -/
namespace Bk
open PySem L2
/-- a method of the text -/
structure FnM (K : PySem.W.Frag) (C : Addr) (x qual : PySem.Str) (st : Stmt) where
  f : Addr
  fd : FuncData
  F : Fun K x qual st f fd
  m : Meth K C x f
/-- a def of the text with defaults -/
structure FnD (K : PySem.W.Frag) (mg : PySem.Str → Option Value) (x : PySem.Str) (st : Stmt) (dds : List D) where
  f : Addr
  fd : FuncData
  dvs : List V
  F : FunD K x x (defArgs st) (defBody st) (defScope st) dvs [] f fd
  m : mg x = some (.ref f)
  d : ∀ H, DRs K H dvs dds
/-- a method of the text with defaults -/
structure FnMD (K : PySem.W.Frag) (C : Addr) (x qual : PySem.Str) (st : Stmt) (dds : List D) where
  f : Addr
  fd : FuncData
  dvs : List V
  F : FunD K x qual (defArgs st) (defBody st) (defScope st) dvs [] f fd
  m : Meth K C x f
  d : ∀ H, DRs K H dvs dds
section
variable {P : Program} {w : World} {K : PySem.W.Frag} {mg : PySem.Str → Option Value} {base : Heap}
theorem data_FD {x qual : PySem.Str} {st : Stmt} {f : Addr} {fd : FuncData} {dvs : List V} {N ps : List PySem.Str} {k : Nat} {b : MS} (F : FunD K x qual (defArgs st) (defBody st) (defScope st) dvs [] f fd) (S : FnScope N ps (defScope st))
    (hb : ∀ (cdv : Value) (A : Around) (outer : List Env) (s : Shared) (H : Hp) (E : XK), Room k (A.deeper (PyProof.Rows.envOfC qual (defScope st) s.heap.objs.size f cdv)) →
      ∃ t, PSs (cxOf CX0 P w K mg base N qual (defScope st) f cdv A outer s H E).nox (defBody st) t ∧ SOk K t b) : FnOk P w K mg base CX0 (k + 1) f fd ps (spF K (runF ps.length N.length b)) :=
  F.ok S (fun vs H Q E q => spF_len q) fun cdv A outer s H vs Q E hr q => by
    obtain ⟨t, h1, h2⟩ := hb cdv A outer s H E hr
    exact ⟨t, PSs.nox h1, fin_F h2 (scope_le S) q⟩
theorem data_BD {x qual : PySem.Str} {st : Stmt} {f : Addr} {fd : FuncData} {dvs : List V} {N ps : List PySem.Str} {k : Nat} {b : MS} (F : FunD K x qual (defArgs st) (defBody st) (defScope st) dvs [] f fd) (S : FnScope N ps (defScope st))
    (hb : ∀ (cdv : Value) (A : Around) (outer : List Env) (s : Shared) (H : Hp) (E : XK), Room k (A.deeper (PyProof.Rows.envOfC qual (defScope st) s.heap.objs.size f cdv)) →
      ∃ t, PSs (cxOf CX0 P w K mg base N qual (defScope st) f cdv A outer s H E).nox (defBody st) t ∧ SOk K t b) : FnOk P w K mg base CX0 (k + 1) f fd ps (spB K (runB ps.length N.length b)) :=
  F.ok S (fun vs H Q E q => spB_len q) fun cdv A outer s H vs Q E hr q => by
    obtain ⟨t, h1, h2⟩ := hb cdv A outer s H E hr
    exact ⟨t, PSs.nox h1, fin_B h2 (scope_le S) q⟩
/-- less is promised where the mirror tells less -/
theorem imp_F {k : Nat} {f : Addr} {fd : FuncData} {ps : List PySem.Str} {m m' : List D → Option R} (F : FnOk P w K mg base CX0 k f fd ps (spF K m)) (h : ∀ ds r, m' ds = some r → m ds = some r) : FnOk P w K mg base CX0 k f fd ps (spF K m') :=
  F.imp fun vs H Q E ⟨Hs, ds, r, a, b, c, d⟩ => ⟨Hs, ds, r, a, b, h _ _ c, d⟩
theorem imp_B {k : Nat} {f : Addr} {fd : FuncData} {ps : List PySem.Str} {m m' : Mob → List D → Option (R × Mob)} (F : FnOk P w K mg base CX0 k f fd ps (spB K m)) (h : ∀ bs ds r, m' bs ds = some r → m bs ds = some r) : FnOk P w K mg base CX0 k f fd ps (spB K m') :=
  F.imp fun vs H Q E ⟨Hs, l, vs', bo, bds, ds, r, bds', a1, a2, a3, a4, a5, a6, a7, a8⟩ => ⟨Hs, l, vs', bo, bds, ds, r, bds', a1, a2, a3, a4, a5, a6, h _ _ _ a7, a8⟩
end
/-- a call that fills up defaults -/
def xcallD (m : List D → Option R) (dds : List D) (a : M (List D)) : M R := fun G => bd (a G) fun xs G1 => match m (xs ++ dds) with
  | some r => some (r, G1)
  | none => none
section
variable {K : PySem.W.Frag} {mg : PySem.Str → Option Value}
theorem gk_callD {m : List D → Option R} {dds : List D} {dvs : List V} {E : XK} {ta : TA} {a : M (List D)} (hd : ∀ H, DRs K H dvs dds) (ha : AOk K ta a) : GOk K (tCall (spF K m) dvs E ta) (xcallD m dds a) := fun Fz ba G σ H Hs res G' q e Q k => by
  obtain ⟨xs, G1, e1, e⟩ := bd_inv e
  split at e
  case h_2 => cases e
  rename_i r h
  cases e
  refine ha Fz ba G σ H Hs xs _ q e1 _ fun vs H1 Hs1 q1 s1 d1 => ?_
  exact ⟨Hs1, _, _, q1.sub, d1.app (hd _), h, fun v H3 Hs3 ex rf => k v H3 Hs3 (q1.ext ex) (s1.trans ex.b) (rf.res q1)⟩
theorem drs_drop {H : Hp} {vs : List V} {ds : List D} (h : DRs K H vs ds) (n : Nat) : DRs K H (vs.drop n) (ds.drop n) := h.drop n
/-! the same rules with the written part named -/
variable {X : Cx} (hK : X.K = K)
include hK
theorem kop_addB : OpR X (binaryOp .Add) (rAddB K) := hK ▸ op_addB
theorem kop_in : OpR X (compareOp .In) (rInA K false) := hK ▸ op_inA
theorem kop_notIn : OpR X (compareOp .NotIn) (rInA K true) := hK ▸ op_notInA
theorem ksl_B : SlR X (rSlB K) := hK ▸ sl_B
theorem kpa_star {e : Expr} {es : List Expr} {te : TE} {t : TA} {p : Pos} (he : PE X e te) (hr : PA X es t) (hs : starEach (.Starred e p :: es) X.env = (true, eval e X.env) :: starEach es X.env := by rfl) : PA X (.Starred e p :: es) (StX.tStar K te t) := hK ▸ StX.pa_star he hr hs
theorem kpe_fld {e : Expr} {f : PySem.Str} {pos : Pos} {ta : TE} (he : PE X e ta) (hb : attributeBase e f X.env (eval e X.env) = eval e X.env) : PE X (.Attribute e f pos) (tFld K ta f) := hK ▸ pe_fld he hb
theorem kps_fld {o value : Expr} {f : PySem.Str} {pos pos' : Pos} {ta tv : TE} (ha : PE X o ta) (hv : PE X value tv) (hs : swapsWith value (some (.Attribute o f pos')) pos.line X.env = pure false) : PS X (.Assign [.Attribute o f pos'] value pos) (sFld K ta tv f) := hK ▸ ps_fld ha hv hs
theorem kpg_fld {o : Expr} {f : PySem.Str} {pos : Pos} {ta : TE} (ho : PE X o ta) : PG X (.Attribute o f pos) (gFld K ta f) := hK ▸ pg_fld ho
theorem kcr_isiS : CallR X (.builtin "isinstance") (rIsiS K) := hK ▸ cr_isiS
theorem kcr_sorted (hu : X.A.in1.in1.units < cLine) : CallR X (.builtin "sorted") (rSortP K) := hK ▸ cr_sortP hu
theorem kpe_bm {o e : Expr} {es : List Expr} {to : TE} {t : TA} {name : PySem.Str} {apos cpos : Pos} {T id : String} {r : V → List V → Hp → VK → Prop} (pa : PlainAttrs T) (slot : Slot T name id) (hty : typeOf (.builtin id) = pure (.type "method_descriptor")) (hm : MtR X id r) (ho : PE X o to) (ha : PA X (e :: es) t)
    (hbase : attributeBase o name X.env (eval o X.env) = eval o X.env := by rfl)
    (hfew : ((backTo cpos (starEach (e :: es) X.env)).all (fun x => !x.1) && (backToKw cpos (keywordEach [] X.env)).all (fun x => x.1.isSome) && decide ((e :: es).length + ([] : List Keyword).length + (if ([] : List Keyword).isEmpty then 0 else 1) < 30)) = true := by rfl)
    (hline : (apos.endLine == cpos.line) = true := by rfl) (hs : starEach (e :: es) X.env = (false, eval e X.env) :: starEach es X.env := by rfl) (hplain : (backTo cpos (starEach es X.env)).any (·.1) = false := by rfl) :
    PE X (.Call (.Attribute o name apos) (e :: es) [] cpos) (tBM K T r to t) := hK ▸ pe_bm pa slot hty hm ho ha hbase hfew hline hs hplain
end
theorem room_u2 {k : Nat} {A : Around} (hr : Room k A) : A.in1.in1.units < cLine := by
  have := hr.units
  show A.units + 1 + 1 < cLine
  omega
/-! ### methods that may change their instance -/
section
variable {K : PySem.W.Frag} {mg : PySem.Str → Option Value}
def isIns (c : Nat) (G : Gam) (i : Nat) : Bool := match G[i]? with
  | some e => match e.mu with
    | some (.o c' _) => c' == c
    | _ => false
  | none => false
theorem isIns_ok {c : Nat} {G : Gam} {i : Nat} (h : isIns c G i = true) : ∃ e ds, G[i]? = some e ∧ e.mu = some (.o c ds) := by
  unfold isIns at h
  cases z : G[i]? with
  | none => rw [z] at h; cases h
  | some e =>
    rw [z] at h
    cases y : e.mu with
    | none => simp only [y] at h; cases h
    | some m =>
      cases m with
      | l _ => simp only [y] at h; cases h
      | o c' ds =>
        simp only [y] at h
        have z2 := beq_iff_eq.mp h
        subst z2
        exact ⟨e, ds, rfl, y⟩
theorem isIns_mu {c : Nat} {G : Gam} {i : Nat} (h : isIns c G i = true) : isMu G i = true := by
  obtain ⟨e, ds, h1, h2⟩ := isIns_ok h
  unfold isMu
  rw [h1]
  simp only [h2]
  rfl
def xmethB (i c : Nat) (m : Mob → List D → Option (R × Mob)) (dds : List D) (a : M (List D)) : M R := fun G => if isIns c G i then bd (a G) fun xs G1 => if isIns c G1 i then callB m i (xs ++ dds) G1 else none else none
end
end Bk
/-! Bk19: facts of a text, gathered. -/
namespace Bk
open PySem L2
section
variable {K : PySem.W.Frag} {C : Addr}
theorem na_list1 {a : PySem.Str} (h1 : NoAttr K C a) : ∀ f ∈ [a], NoAttr K C f := fun f h => by
  rw [List.mem_singleton] at h
  rw [h]
  exact h1
theorem na_cons {a : PySem.Str} {l : List PySem.Str} (h1 : NoAttr K C a) (h : ∀ f ∈ l, NoAttr K C f) : ∀ f ∈ a :: l, NoAttr K C f := fun f hf => by
  rcases List.mem_cons.mp hf with z | z
  · rw [z]; exact h1
  · exact h f z
theorem na_list2 {a b : PySem.Str} (h1 : NoAttr K C a) (h2 : NoAttr K C b) : ∀ f ∈ [a, b], NoAttr K C f := na_cons h1 (na_list1 h2)
theorem na_list3 {a b c : PySem.Str} (h1 : NoAttr K C a) (h2 : NoAttr K C b) (h3 : NoAttr K C c) : ∀ f ∈ [a, b, c], NoAttr K C f := na_cons h1 (na_list2 h2 h3)
theorem na_list4 {a b c d : PySem.Str} (h1 : NoAttr K C a) (h2 : NoAttr K C b) (h3 : NoAttr K C c) (h4 : NoAttr K C d) : ∀ f ∈ [a, b, c, d], NoAttr K C f := na_cons h1 (na_list3 h2 h3 h4)
theorem na_list5 {a b c d e : PySem.Str} (h1 : NoAttr K C a) (h2 : NoAttr K C b) (h3 : NoAttr K C c) (h4 : NoAttr K C d) (h5 : NoAttr K C e) : ∀ f ∈ [a, b, c, d, e], NoAttr K C f := na_cons h1 (na_list4 h2 h3 h4 h5)
theorem na_list6 {a b c d e g : PySem.Str} (h1 : NoAttr K C a) (h2 : NoAttr K C b) (h3 : NoAttr K C c) (h4 : NoAttr K C d) (h5 : NoAttr K C e) (h6 : NoAttr K C g) : ∀ f ∈ [a, b, c, d, e, g], NoAttr K C f := na_cons h1 (na_list5 h2 h3 h4 h5 h6)
theorem ot_list (h0 : PySem.W.kitOne K (.type "NoneType") (.ref C) = some false) (h1 : PySem.W.kitOne K (.type "bool") (.ref C) = some false) (h2 : PySem.W.kitOne K (.type "int") (.ref C) = some false)
    (h3 : PySem.W.kitOne K (.type "str") (.ref C) = some false) (h4 : PySem.W.kitOne K (.type "list") (.ref C) = some false) (h5 : PySem.W.kitOne K (.type "tuple") (.ref C) = some false) : ∀ t ∈ ["NoneType", "bool", "int", "str", "list", "tuple"], PySem.W.kitOne K (.type t) (.ref C) = some false := fun t h => by
  simp only [List.mem_cons, List.not_mem_nil, or_false] at h
  rcases h with rfl | rfl | rfl | rfl | rfl | rfl
  · exact h0
  · exact h1
  · exact h2
  · exact h3
  · exact h4
  · exact h5
def coInt {h : Heap} {mg : PySem.Str → Option Value} {x : PySem.Str} {i : Int} {t : Tok} (X : K.In h) (G : h.Ns mainGlobals mg) (ha : PySem.W.nsIn K mainGlobals x = some (some (.int i t))) : CoT K mg x (.int i) :=
  ⟨.int i, .int i t, PySem.W.mg_of X G ha, ⟨t, rfl⟩, fun _ => .int i⟩
def coStr {h : Heap} {mg : PySem.Str → Option Value} {x : PySem.Str} {i : PySem.Str} {t : Tok} (X : K.In h) (G : h.Ns mainGlobals mg) (ha : PySem.W.nsIn K mainGlobals x = some (some (.str i t))) : CoT K mg x (.str i) :=
  ⟨.str i, .str i t, PySem.W.mg_of X G ha, ⟨t, rfl⟩, fun _ => .str i⟩
theorem vne {vs : List V} {d : D} {ds ds' : List D} (h : ∀ H, DRs K H vs ds) (e : ds = d :: ds') : vs ≠ [] := fun z => by
  have z2 := (h fun _ => none).len
  rw [z, e] at z2
  cases z2
end
end Bk
/-! Bk20: a named list that goes on being owned while it is read: comprehensions over it, slices of it. -/
namespace Bk
open PySem L2
section
variable {K : PySem.W.Frag}
/-- the list behind slot i is laid aside -/
theorem Rel.aside {Fz : Hp} {ba : Nat → Addr} {G : Gam} {σ : L2.St} {H Hs : Hp} (q : Rel K Fz ba G σ H Hs) {i : Nat} {e : Ent} {ds : List D} (h : G[i]? = some e) (h0 : e.mu = some (.l ds)) :
    ∃ l vs, σ[i]? = some (some (.ref l)) ∧ H l = some (.lst vs) ∧ Hs l = none ∧ Fz l = none ∧ DRs K Hs vs ds ∧ (∀ m, e = .bx m → ba i = l) ∧ Rel K (upd Fz l (.lst vs)) ba (G.set i .un) σ H Hs := by
  obtain ⟨l, o, a1, a2, a3, a4, vs, rfl, a5⟩ := q.mu i e (.l ds) h h0
  refine ⟨l, vs, a1, a2, a3, a4, a5, fun m hm => ?_, ⟨q.sub, fun a u z => ?_, by rw [List.length_set]; exact q.len, fun j d hj => ?_, fun j e' m hj hm => ?_, fun j k e1 e2 x h1 h2 m1 m2 t1 t2 => ?_, fun j m hj => ?_⟩⟩
  · subst hm
    have := q.bx i m h
    rw [a1] at this
    cases this
    rfl
  · by_cases zz : a = l
    · subst zz
      rw [upd_same] at z
      cases z
      exact ⟨a2, a3⟩
    · rw [upd_ne zz] at z
      exact q.fz a u z
  · rcases get_set hj with ⟨_, z, _⟩ | ⟨_, z⟩
    · cases z
    · exact q.im j d z
  · rcases get_set hj with ⟨_, z, _⟩ | ⟨ne, z⟩
    · subst z; cases hm
    · obtain ⟨l', o', b1, b2, b3, b4, b5⟩ := q.mu j e' m z hm
      refine ⟨l', o', b1, b2, b3, ?_, b5⟩
      have : l' ≠ l := fun y => by
        subst y
        exact ne (q.dj i j e e' l' h z (by rw [h0]; simp) (by rw [hm]; simp) a1 b1)
      rw [upd_ne this]
      exact b4
  · rcases get_set h1 with ⟨_, z, _⟩ | ⟨_, z1⟩
    · subst z; exact absurd rfl m1
    · rcases get_set h2 with ⟨_, z, _⟩ | ⟨_, z2⟩
      · subst z; exact absurd rfl m2
      · exact q.dj j k e1 e2 x z1 z2 m1 m2 t1 t2
  · rcases get_set hj with ⟨_, z, _⟩ | ⟨_, z⟩
    · cases z
    · exact q.bx j m z
/-- it is taken up again -/
theorem Rel.again {Fz : Hp} {ba : Nat → Addr} {G : Gam} {σ : L2.St} {H Hs : Hp} {l : Addr} {vs : List V} {ds : List D} {i : Nat} {e : Ent} (q : Rel K (upd Fz l (.lst vs)) ba G σ H Hs) (hu : G[i]? = some .un) (h0 : e.mu = some (.l ds)) (hs : σ[i]? = some (some (.ref l))) (hf : Fz l = none) (hd : DRs K Hs vs ds)
    (hb : ∀ m, e = .bx m → ba i = l) : Rel K Fz ba (G.set i e) σ H Hs := by
  obtain ⟨f1, f2⟩ := q.fz l _ upd_same
  have old : ∀ (j : Nat) (e' : Ent) (m : Mob), G[j]? = some e' → e'.mu = some m → ∃ l' o, σ[j]? = some (some (.ref l')) ∧ H l' = some o ∧ Hs l' = none ∧ Fz l' = none ∧ MobO K Hs m o ∧ l' ≠ l := fun j e' m h1 h2 => by
    obtain ⟨l', o, b1, b2, b3, b4, b5⟩ := q.mu j e' m h1 h2
    have ne : l' ≠ l := fun z => by
      subst z
      rw [upd_same] at b4
      cases b4
    rw [upd_ne ne] at b4
    exact ⟨l', o, b1, b2, b3, b4, b5, ne⟩
  have mm : ∀ {e' : Ent}, e'.mu ≠ none → ∃ m, e'.mu = some m := fun {e'} h => by
    cases y : e'.mu with
    | none => exact absurd y h
    | some m => exact ⟨m, rfl⟩
  refine ⟨q.sub, fun a u z => ?_, by rw [List.length_set]; exact q.len, fun j d hj => ?_, fun j e' m hj hm => ?_, fun j k e1 e2 x h1 h2 m1 m2 t1 t2 => ?_, fun j m hj => ?_⟩
  · exact q.fz a u (by rw [upd_ne (ne_of_none z hf)]; exact z)
  · rcases get_set hj with ⟨_, z, _⟩ | ⟨_, z⟩
    · subst z; cases h0
    · exact q.im j d z
  · rcases get_set hj with ⟨y, z, _⟩ | ⟨_, z⟩
    · subst y
      subst z
      rw [h0] at hm
      cases hm
      exact ⟨l, _, hs, f1, f2, hf, vs, rfl, hd⟩
    · obtain ⟨l', o, b1, b2, b3, b4, b5, _⟩ := old j e' m z hm
      exact ⟨l', o, b1, b2, b3, b4, b5⟩
  · rcases get_set h1 with ⟨y1, z1, _⟩ | ⟨y1, z1⟩
    · rcases get_set h2 with ⟨y2, z2, _⟩ | ⟨y2, z2⟩
      · exact y1.symm.trans y2
      · exfalso
        obtain ⟨m, hm⟩ := mm m2
        obtain ⟨l', o, b1, _, _, _, _, ne⟩ := old k e2 m z2 hm
        rw [← y1, hs] at t1
        rw [t2] at b1
        cases t1
        cases b1
        exact ne rfl
    · rcases get_set h2 with ⟨y2, z2, _⟩ | ⟨y2, z2⟩
      · exfalso
        obtain ⟨m, hm⟩ := mm m1
        obtain ⟨l', o, b1, _, _, _, _, ne⟩ := old j e1 m z1 hm
        rw [← y2, hs] at t2
        rw [t1] at b1
        cases t2
        cases b1
        exact ne rfl
      · exact q.dj j k e1 e2 x z1 z2 m1 m2 t1 t2
  · rcases get_set hj with ⟨y, z, _⟩ | ⟨_, z⟩
    · subst y
      rw [hb m z.symm]
      exact hs
    · exact q.bx j m z
def isUn (G : Gam) (i : Nat) : Bool := match G[i]? with
  | some .un => true
  | _ => false
theorem isUn_ok {G : Gam} {i : Nat} (h : isUn G i = true) : G[i]? = some .un := by
  unfold isUn at h
  split at h
  · assumption
  · cases h
def xlcv (i : Nat) (tg : D → Gam → Option Gam) (t : M Bool) (e : M R) (vs : List Nat) : M R := fun G => match G[i]? with
  | some en => match en.mu with
    | some (.l ds) => if noMu (G.set i .un) vs then bd (xlcL tg t e vs ds (wipeG (G.set i .un) vs)) fun out G2 => if few out.length && isUn (unw (G.set i .un) G2 vs) i then some (.ol out, (unw (G.set i .un) G2 vs).set i en) else none else none
    | _ => none
  | none => none
theorem gk_lcv {g : TG} {t : TT} {te : TE} {i : Nat} {tg : D → Gam → Option Gam} {js vs : List Nat} {c : M Bool} {a : M R} (hg : GtOk K g tg js) (hc : TOk K t c) (ha : GOk K te a) (hj : ∀ j ∈ js, j ∈ vs) :
    GOk K (tLc (iSeq K (tVar i)) g t te vs) (xlcv i tg c a vs) := fun Fz ba G σ H Hs res G' q e Q k => by
  unfold xlcv at e
  split at e
  case h_2 => cases e
  rename_i en hen
  split at e
  case h_2 => cases e
  rename_i ds hmu
  split at e
  case isFalse => cases e
  rename_i nm
  obtain ⟨out, G2, e2, e⟩ := bd_inv e
  split at e
  case isFalse => cases e
  rename_i hf
  rw [Bool.and_eq_true] at hf
  obtain ⟨hf, hun⟩ := hf
  have hun := isUn_ok hun
  cases e
  obtain ⟨l, lvs, a1, a2, a3, a4, a5, a6, q1⟩ := q.aside hen hmu
  generalize hFz : upd Fz l (.lst lvs) = Fz1 at q1
  have hFl : Fz1 l = some (.lst lvs) := by rw [← hFz]; exact upd_same
  generalize hG1 : G.set i .un = G1 at *
  refine ⟨_, a1, l, rfl, .inl ⟨⟨lvs, SqL.of a2⟩, fun p hp => ?_⟩⟩
  have hfp : Fz1 p = none := by
    cases z : Fz1 p with
    | none => rfl
    | some o =>
      obtain ⟨z1, _⟩ := q1.fz p o z
      rw [hp] at z1
      cases z1
  have hlp : l ≠ p := ne_of_none a2 hp
  have q1w := (q1.wiped vs).hide (o := .lst []) hp
  have atl : ∀ {G3 σ3 H3 Hs3 acc}, Rel K (upd Fz1 p (.lst acc)) ba G3 σ3 H3 Hs3 → H3 l = some (.lst lvs) := fun {G3 σ3 H3 Hs3 acc} z => (z.fz l _ (by rw [upd_ne hlp]; exact hFl)).1
  refine ⟨fun i m H2 => m = ds.length - i ∧ i ≤ ds.length ∧ ∃ G3 Hs3 acc ad more, Rel K (upd Fz1 p (.lst acc)) ba G3 (wipe σ vs) H2 Hs3 ∧ Same Hs Hs3 ∧ DRs K Hs3 acc ad ∧ xlcL tg c a vs (ds.drop i) G3 = some (more, G2) ∧ ad ++ more = out,
    ⟨ds.length, rfl, Nat.zero_le _, wipeG G1 vs, Hs, [], [], out, q1w, Same.refl _, .nil, e2, rfl⟩, ?_⟩
  rintro n m H2 ⟨rfl, hi2, G3, Hs3, acc, ad, more, q3, s3, da, e3, eo⟩
  have hll := atl q3
  by_cases hlt : n < ds.length
  · refine .inr ⟨⟨lvs, lvs[n]'(by rw [a5.len]; exact hlt), SqL.of hll, by simp⟩, fun H' => n + 1 ≤ ds.length ∧ ∃ G4 Hs4 acc ad more, Rel K (upd Fz1 p (.lst acc)) ba G4 (wipe σ vs) H' Hs4 ∧ Same Hs Hs4 ∧ DRs K Hs4 acc ad ∧ xlcL tg c a vs (ds.drop (n + 1)) G4 = some (more, G2) ∧ ad ++ more = out,
      fun H' ⟨z, z2⟩ => ⟨ds.length - (n + 1), by omega, rfl, z, z2⟩, fun x H' y => ?_⟩
    obtain ⟨rfl, y⟩ := y
    obtain ⟨d, d1, dr⟩ := a5.ta (y lvs (SqL.of hll))
    have dr := dr.mono s3
    have q4 := q3
    have ed : ds.drop n = d :: ds.drop (n + 1) := by
      rw [List.drop_eq_getElem_cons hlt]
      rw [List.getElem?_eq_getElem hlt] at d1
      cases d1
      rfl
    rw [ed] at e3
    unfold xlcL at e3
    cases hG : tg d G3 with
    | none => rw [hG] at e3; cases e3
    | some G4 =>
      rw [hG] at e3
      refine hg.run _ ba G3 _ H' Hs3 x d G4 q4 dr hG _ fun σ5 q5 l5 k5 => ?_
      have hlen : σ5.length = σ.length := by rw [l5, wipe_length]
      have hw : wipe σ5 vs = wipe σ vs := by
        have z := wipe_eq (σ := wipe σ vs) (τ := σ5) (vs := vs) (by rw [wipe_length]; exact hlen) fun j hj' => k5 j fun z => hj' (hj j z)
        rw [z]
        exact wipe_eq (wipe_length σ vs) fun j hj' => wipe_get hj'
      refine ⟨hw, ?_⟩
      obtain ⟨b, G5, e5, e6⟩ := bd_inv e3
      refine hc _ ba G4 σ5 H' Hs3 b G5 q5 e5 _ fun H5 Hs5 q6 s6 => ?_
      cases b with
      | true =>
        obtain ⟨r, G6, e7, e8⟩ := bd_inv (show bd (a G5) _ = _ from e6)
        obtain ⟨out2, G7, e9, e10⟩ := bd_inv e8
        cases e10
        rw [if_pos rfl]
        refine ha.im q6 e7 fun v H6 Hs6 q7 s7 d7 => ?_
        obtain ⟨f1, f2⟩ := q7.fz p _ upd_same
        have q8 := (q7.rehide (o' := .lst (acc ++ [v]))).wiped vs
        rw [hw] at q8
        refine ⟨acc, f1, ?_, hlt, _, Hs6, _, ad ++ [r.d], out2, q8, (s3.trans s6).trans s7, (da.mono (s6.trans s7)).app (.cons d7 .nil), e9, ?_⟩
        · have z1 := da.len
          have z2 : ad.length ≤ out.length := by rw [← eo, List.length_append]; omega
          exact Nat.lt_of_le_of_lt (by omega) (few_lt hf)
        · rw [List.append_assoc]
          exact eo
      | false =>
        rw [if_neg Bool.false_ne_true] at e6 ⊢
        have q8 := q6.wiped vs
        rw [hw] at q8
        exact ⟨hlt, _, Hs5, acc, ad, more, q8, s3.trans s6, da.mono s6, e6, eo⟩
  · have hend : ds.length ≤ n := by omega
    rw [List.drop_eq_nil_of_le hend] at e3
    cases e3
    rw [List.append_nil] at eo
    subst eo
    obtain ⟨f1, f2⟩ := q3.fz p _ upd_same
    have q9 := q1.unwipe (q3.unhide hfp) s3 nm
    have q9' : Rel K (upd Fz l (.lst lvs)) ba (unw G1 G2 vs) σ H2 Hs3 := by rw [hFz]; exact q9
    have q10 := q9'.again hun hmu a1 a4 (a5.mono s3) a6
    have hfp0 : Fz p = none := by
      rw [← hFz, upd_ne (Ne.symm hlp)] at hfp
      exact hfp
    refine .inl ⟨⟨lvs, SqL.of hll, by rw [a5.len]; exact hend⟩, k _ H2 Hs3 q10 s3 ⟨p, _, rfl, f1, f2, hfp0, ⟨acc, rfl, da⟩, fun j e' g m z => ?_⟩⟩
    rcases get_set g with ⟨y1, z1, _⟩ | ⟨y1, g⟩
    · rw [← y1, a1] at z
      cases z
      exact hlp rfl
    · by_cases hjv : j ∈ vs
      · have z1 := q1.len
        have z2 := q3.len
        rw [wipe_length, z1] at z2
        rw [unw_in (G1 := G1) z2.symm hjv] at g
        exact m (noMu_ok nm hjv g)
      · rw [unw_out hjv] at g
        obtain ⟨ds', hd'⟩ : ∃ ds', e'.mu = some ds' := by
          cases y : e'.mu with
          | none => exact absurd y m
          | some ds' => exact ⟨ds', rfl⟩
        obtain ⟨l', ws, b1, b2, b3, b4, b5⟩ := q3.mu j e' ds' g hd'
        rw [wipe_get hjv, z] at b1
        cases b1
        rw [upd_same] at b4
        cases b4
/-- a slice of the name's list, which goes on -/
def slv (i : Nat) (lo hi : Option Int) (G : Gam) : Option (R × Gam) := match G[i]? with
  | some e => match e.mu with
    | some (.l ds) => some (.ol (cutD ds lo hi), G)
    | _ => none
  | none => none
def xslv (i : Nat) (l h : MO) : M R := fun G => if isMu G i then bd (l G) fun x G1 => bd (h G1) fun y G2 => slv i x y G2 else none
theorem gk_slv {i : Nat} {tl th : TO} {l h : MO} (hl : POk K tl l) (hh : POk K th h) : GOk K (tSl (rSlB K) (tVar i) tl th) (xslv i l h) := fun Fz ba G σ H Hs res G' q e Q k => by
  unfold xslv at e
  split at e
  case isFalse => cases e
  rename_i hm
  obtain ⟨a, y3, yk⟩ := q.same_slot hm
  obtain ⟨x, G1, e1, e⟩ := bd_inv e
  obtain ⟨y, G2, e2, e⟩ := bd_inv e
  refine ⟨_, y3, ?_⟩
  refine hl Fz ba G σ H Hs x G1 q e1 _ fun H2 Hs2 q2 s2 => ?_
  refine hh Fz ba G1 σ H2 Hs2 y _ q2 e2 _ fun H3 Hs3 q3 s3 => ?_
  unfold slv at e
  cases h : G2[i]? with
  | none => simp only [h] at e; cases e
  | some en =>
    cases h0 : en.mu with
    | none => simp only [h, h0] at e; cases e
    | some mm =>
      cases mm with
      | o _ _ => simp only [h, h0] at e; cases e
      | l ds =>
        simp only [h, h0] at e
        cases e
        obtain ⟨_, z1, z2, vs, rfl, z3⟩ := yk _ H3 Hs3 en (.l ds) q3 h h0
        refine .inl (.inl ⟨a, vs, rfl, SqL.of z1, fun p hp => ?_⟩)
        exact k _ _ Hs3 (q3.ext (Ext.hid q3.sub hp)) (s2.trans s3) ((show ResF K H3 (upd H3 p (.lst (cutV vs x y))) Hs3 (.ref p) (.ol (cutD ds x y)) from ⟨p, _, rfl, hp, upd_same, none_sub q3.sub hp, _, rfl, cut_ok z3 _ _⟩).res q3)
end
end Bk
/-! Bk21: a set made of a list of ints, brought in order. -/
namespace Bk
open PySem PySem.Spec PyProof.Rows L2
abbrev freshSet (w : World) : Obj := { cls := .type "set", dict := none, data := .set #[] 0 (.fresh 0 0 (!w.params.followText "set-order")) }
section
variable {P : Program} {w : World} {A : Around} {E : Value → Shared → Prop} {s : Shared}
theorem ints_get {its : Array Value} {ns : List Int} (hi : IntsAre its.toList ns) (hz : its.size = ns.length) (j : Nat) (u : Value) (hu : its[j]? = some u) : ∃ z t, ns[j]? = some z ∧ u = .int z t := by
  have hj : j < ns.length := hz ▸ (Array.getElem?_eq_some_iff.mp hu).1
  obtain ⟨t, et⟩ := IntsAre.int_at hi j u (by rw [Array.getElem?_toList, hu])
  refine ⟨_, t, List.getElem?_eq_getElem hj, et.trans ?_⟩
  rw [List.getD_eq_getElem?_getD, List.getElem?_eq_getElem hj]
  rfl
def SetPost (w : World) (s : Shared) (ns : List Int) (v : Value) (t : Shared) : Prop := v = .none ∧ ∃ (hp : Heap) (tk c : Nat), t = { s with heap := hp, toks := tk } ∧ SetR w hp s.heap.objs.size (fun j => decide (j ∈ ns)) c ∧ c ≤ ns.length ∧ ∀ b o, s.heap.get? b = some o → hp.get? b = some o
theorem set_of_list {l : Addr} {its : Array Value} (ns : List Int) {Q : Value → Shared → Prop} (hh : A.handled = none) (hl : s.heap.IsList l its) (hi : IntsAre its.toList ns) (hb : ns.length + 1 < scanBound)
    (fin : ∀ (hp : Heap) (tk c : Nat), SetR w hp s.heap.objs.size (fun j => decide (j ∈ ns)) c → c ≤ ns.length → (∀ b o, s.heap.get? b = some o → hp.get? b = some o) → Q (.ref s.heap.objs.size) { s with heap := hp, toks := tk }) :
    wpAny (model P w) A (call (.type "set") [.ref l]) Q E s := by
  have hz : its.size = ns.length := by
    have := IntsAre.length hi
    rwa [Array.length_toList] at this
  obtain ⟨mc, mt, mro⟩ := F.called_set.mro
  have made := F.called_set.made
  have sub0 := F.called_set.sub
  have nt := F.called_set.notType
  have cc := F.called_set.canCreate
  have tc := F.typeCall_set_1 (.ref l)
  refine wpAny_call (codeAny_of_tree ?_)
  show wpAny _ _ (callAny (.type "set") _) _ _ _
  refine wpAny_pure ⟨Code.quiet_builtin _ (by decide +kernel), ?_⟩
  refine codeAny_builtin F.entry_type_call ?_
  rw [Around.under_plain (weight_type_call_type "set" [.ref l] []) rfl]
  repeat (any_goals (first | assumption | wp_step))
  refine codeAny_mono (code_set_led1 (.ref l) (E := E) (Q₁ := fun v t => v = .ref s.heap.objs.size ∧ t = { s with heap := s.heap.push (freshSet w) }) ⟨rfl, rfl⟩) fun res t hres => ?_
  match res, hres with
  | .error _, hres => exact hres
  | .ok (.ret v), hres =>
    obtain ⟨ev, et⟩ := hres
    subst ev
    subst et
    have new : (s.heap.push (freshSet w)).get? s.heap.objs.size = some (freshSet w) := Heap.get?_push_size _ rfl
    have isS : Shared.TypeIs { s with heap := s.heap.push (freshSet w) } (.ref s.heap.objs.size) "set" := ⟨_, new, rfl⟩
    have il := F.called_set.init.lookup
    have ib := F.called_set.init.bind (.ref s.heap.objs.size)
    repeat (any_goals (first | assumption | wp_step))
    refine codeAny_mono (codeAny_call_builtin (R := wants (SetPost w s ns) E) F.called_set.init.plain F.entry_set_init (check_set_init_1 isS ?_)) fun res2 t2 hres2 => ?_
    · have hl0 := hl
      obtain ⟨ol, gl, cl, nl, dl⟩ := hl
      have gl1 : (s.heap.push (freshSet w)).get? l = some ol := Heap.get?_push_of_some _ gl
      obtain ⟨oc, oo, od, os⟩ := ol
      simp only at cl dl
      subst cl
      subst dl
      have s1 := F.sub_list_set
      have s2 := F.sub_list_frozenset
      have ndict : (Value.type "list" == Value.type "dict") = false := by decide
      have hl1 : (s.heap.push (freshSet w)).IsList l its := hl0.push _
      unfold Builtin.«set.__init__» noKeywords Builtin.Frozenset.updateFrom
      generalize hPI : pyIter = PI
      wp_walk
      subst hPI
      refine wpAny_pyIter_list hl1 (wpAny_bind (wpAny_runValue ?_))
      have lt1 : l < s.heap.objs.size := Heap.lt_size gl
      have h3 : A.in1.in1.in1.handled = none := by simp [hh]
      have zz : (s.heap.push (freshSet w)).objs.size = s.heap.objs.size + 1 := Heap.size_push ..
      have nI : l ≠ (s.heap.push (freshSet w)).objs.size := by
        rw [Heap.size_push]
        exact Nat.ne_of_lt (Nat.lt_succ_of_lt lt1)
      have nS : s.heap.objs.size ∉ [(s.heap.push (freshSet w)).objs.size, l] := by
        simp only [List.mem_cons, List.not_mem_nil, or_false, not_or, Heap.size_push]
        exact ⟨Nat.ne_of_lt (Nat.lt_succ_self _), Nat.ne_of_gt lt1⟩
      refine set_update_ints ((Walks.list h3 _ l nI its).toS) s.heap.objs.size nS ns hz hb (ints_get hi hz) (its.size - 0) 0 _ (by omega) (by omega) ⟨⟨_, Heap.get?_push_size _ rfl, rfl, rfl⟩, hl1.push _⟩ ⟨0, Nat.le_refl 0, setR_new_at (Heap.get?_push_of_some _ new)⟩ ?_
      intro t3 c mv hc R3
      obtain ⟨hp, gg, dr, tk, oz⟩ := t3
      have q1 : gg = s.gens := mv.gens
      have q2 : dr = s.drawn := mv.drawn
      have q3 : oz = s.os := mv.os
      subst q1
      subst q2
      subst q3
      show wpAny _ _ _ _ _ _
      refine wpAny_pure ?_
      show wpAny _ _ (ret Value.none) _ _ _
      refine wpAny_pure ⟨rfl, hp, tk, c, rfl, R3, hz ▸ hc, fun b o e => ?_⟩
      have lb : b < s.heap.objs.size := Heap.lt_size e
      refine mv.heap b o ?_ (Heap.get?_push_of_some _ (Heap.get?_push_of_some _ e))
      simp only [List.mem_cons, List.not_mem_nil, or_false, not_or, Heap.size_push]
      exact ⟨Nat.ne_of_lt lb, Nat.ne_of_lt (Nat.lt_succ_of_lt lb)⟩
    · match res2, hres2 with
      | .error _, z => exact z
      | .ok (.ret _), z =>
        obtain ⟨e1, hp, tk, c, e2, e3, e4, e5⟩ := z
        subst e1
        subst e2
        repeat (any_goals (first | assumption | wp_step))
        exact fin _ _ _ e3 e4 e5
end
/-- set(xs), xs a list of ints -/
def rSetInts (K : PySem.W.Frag) (w : World) : List V → Hp → VK → Prop := fun vs H Q => ∃ (a : Addr) (ns : List Int), vs = [V.ref a] ∧ SqL K H a (ns.map V.int) ∧ ns.length < 4000 ∧
  ∀ (p : Addr) (c : Nat), H p = none → c ≤ ns.length → Q (.ref p) (upd H p (SetO w p (fun j => decide (j ∈ ns)) c))
theorem cr_setInts {X : Cx} (hc : X.calm = true) : CallR X (.type "set") (rSetInts X.K X.w) := by
  intro pins s σ H vs us Q I r h
  obtain ⟨a, ns, rfl, hl, hn, q⟩ := h
  obtain ⟨its, rv, pl, _⟩ := I.list hl
  rw [Vals.ref1 r]
  refine set_of_list ns (I.ok.hd hc) pl.isList (by simpa using ints_of_vals rv) (by unfold scanBound; omega) fun hp tk c R3 hc3 kp => ?_
  exact ⟨.ref s.heap.objs.size, upd H s.heap.objs.size (SetO X.w s.heap.objs.size (fun j => decide (j ∈ ns)) c), I.laid (t' := tk) kp (Nat.le_refl _) (setO_new R3), rfl, q _ c (I.hok.fresh (Nat.le_refl _)) hc3⟩
/-! on data -/
def insI (x : Int) : List Int → List Int
  | [] => [x]
  | y :: r => if x < y then x :: y :: r else if x = y then y :: r else y :: insI x r
def ascI (l : List Int) : List Int := l.foldr insI []
theorem mem_insI {x q : Int} : ∀ {l : List Int}, q ∈ insI x l ↔ q = x ∨ q ∈ l
  | [] => by simp [insI]
  | y :: r => by
    unfold insI
    split
    · simp
    · split
      · rename_i h1 h2
        subst h2
        simp
      · simp only [List.mem_cons, mem_insI]
        constructor
        · rintro (h | h | h) <;> simp [h]
        · rintro (h | h | h) <;> simp [h]
theorem mem_ascI {q : Int} : ∀ {l : List Int}, q ∈ ascI l ↔ q ∈ l
  | [] => by simp [ascI]
  | x :: l => by
    show q ∈ insI x (ascI l) ↔ _
    rw [mem_insI, mem_ascI, List.mem_cons]
theorem insI_sorted {x : Int} : ∀ {l : List Int}, l.Pairwise (· < ·) → (insI x l).Pairwise (· < ·)
  | [], _ => by simp [insI]
  | y :: r, h => by
    have h1 := List.pairwise_cons.mp h
    unfold insI
    split
    · rename_i hx
      refine List.pairwise_cons.mpr ⟨fun z hz => ?_, h⟩
      rcases List.mem_cons.mp hz with rfl | hz
      · exact hx
      · have := h1.1 z hz
        omega
    · split
      · exact h
      · refine List.pairwise_cons.mpr ⟨fun z hz => ?_, insI_sorted h1.2⟩
        rcases mem_insI.mp hz with rfl | hz
        · omega
        · exact h1.1 z hz
theorem ascI_sorted : ∀ l : List Int, (ascI l).Pairwise (· < ·)
  | [] => by simp [ascI]
  | x :: l => insI_sorted (ascI_sorted l)
theorem uniqI : ∀ {a b : List Int}, a.Pairwise (· < ·) → b.Pairwise (· < ·) → (∀ q, q ∈ a ↔ q ∈ b) → a = b
  | [], [], _, _, _ => rfl
  | [], y :: b, _, _, h => absurd ((h y).mpr List.mem_cons_self) (by simp)
  | x :: a, [], _, _, h => absurd ((h x).mp List.mem_cons_self) (by simp)
  | x :: a, y :: b, ha, hb, h => by
    have ha1 := List.pairwise_cons.mp ha
    have hb1 := List.pairwise_cons.mp hb
    have e : x = y := by
      have h1 := (h x).mp List.mem_cons_self
      have h2 := (h y).mpr List.mem_cons_self
      rcases List.mem_cons.mp h1 with e | h1
      · exact e
      · rcases List.mem_cons.mp h2 with e | h2
        · exact e.symm
        · have := hb1.1 x h1
          have := ha1.1 y h2
          omega
    subst e
    refine congrArg (x :: ·) (uniqI ha1.2 hb1.2 fun q => ?_)
    constructor
    · intro hq
      rcases List.mem_cons.mp ((h q).mp (List.mem_cons_of_mem _ hq)) with rfl | h3
      · have := ha1.1 q hq
        omega
      · exact h3
    · intro hq
      rcases List.mem_cons.mp ((h q).mpr (List.mem_cons_of_mem _ hq)) with rfl | h3
      · have := hb1.1 q hq
        omega
      · exact h3
def intsD : List D → Option (List Int)
  | [] => some []
  | .int i :: r => (intsD r).map (i :: ·)
  | _ :: _ => none
/-- sorted(set(x)), x a list of ints, fewer than 64 -/
def cbSortSet (xs : List D) : Option R := match xs with
  | [.lst ds] => match intsD ds with
    | some ns => if ns.length < 64 then some (.ol ((ascI ns).map .int)) else none
    | none => none
  | _ => none
def rSortSet (K : PySem.W.Frag) (w : World) : List V → Hp → VK → Prop := fun vs H Q => rSetInts K w vs H fun v H' => rSortedSet w [v] H' Q
section
variable {K : PySem.W.Frag}
theorem intsD_ok {H : Hp} : ∀ {ds : List D} {vs : List V} {ns : List Int}, DRs K H vs ds → intsD ds = some ns → vs = ns.map V.int
  | [], _, ns, h, e => by
    cases h
    cases e
    rfl
  | d :: ds, _, ns, h, e => by
    cases h with
    | cons a b =>
      cases d with
      | int i =>
        cases a
        unfold intsD at e
        cases z : intsD ds with
        | none => rw [z] at e; cases e
        | some ms =>
          rw [z] at e
          cases e
          rw [intsD_ok b z]
          rfl
      | _ => cases e
theorem drs_ints {H : Hp} : ∀ ns : List Int, DRs K H (ns.map V.int) (ns.map D.int)
  | [] => .nil
  | n :: ns => .cons (.int n) (drs_ints ns)
theorem cd_sortSet {w : World} : CbD K (rSortSet K w) cbSortSet := fun H Hs xs ds res s h e Q k => by
  unfold cbSortSet at e
  split at e
  case h_2 => cases e
  rename_i es
  split at e
  case h_2 => cases e
  rename_i ns hns
  split at e
  case isFalse => cases e
  rename_i h64
  cases e
  cases h with
  | cons a b =>
    cases b
    cases a with
    | lst h1 d1 =>
      rename_i l vs
      have ev := intsD_ok d1 hns
      subst ev
      refine ⟨l, ns, rfl, same_lst s (SqL.of h1), by omega, fun p c hp hc => ?_⟩
      refine ⟨p, _, c, rfl, upd_same, by omega, fun ms p2 m1 m2 m3 hp2 => ?_⟩
      have em : ms = ascI ns := uniqI m1 (ascI_sorted ns) fun q => by
        rw [m2, mem_ascI]
        exact decide_eq_true_iff
      subst em
      have x1 : Ext H Hs (upd H p (SetO w p (fun j => decide (j ∈ ns)) c)) Hs := Ext.hid s hp
      have hn : H p2 = none := by
        cases z : H p2 with
        | none => rfl
        | some u =>
          have := x1.a p2 u z
          rw [hp2] at this
          cases this
      exact k _ _ Hs (x1.trans (Ext.hid x1.c hp2)) ⟨p2, _, rfl, hn, upd_same, none_sub s hn, _, rfl, drs_ints _⟩
theorem gk_sortSet {w : World} {ta : TA} {a : M (List D)} (ha : AOk K ta a) : GOk K (tCB (rSortedSet w) (tCons (tCB (rSetInts K w) ta) tNil)) (xcb cbSortSet a) := by
  have h : GOk K (tCB (rSortSet K w) ta) (xcb cbSortSet a) := gk_cb cd_sortSet ha
  exact h
/-- products, those of tuples too -/
def opMulB (x y : D) : Option R := match opMul x y with
  | some r => some r
  | none => match x, y with
    | .tup (d :: ds), .int k => if decide (2 ≤ k) && decide (k ≤ 1000) && decide (ds.length < 1000) then some (.im (.tup (List.replicate k.toNat (d :: ds)).flatten)) else none
    | _, _ => none
def rMulB (K : PySem.W.Frag) : R2 := fun x y H Q => rMulA x y H Q ∨ rRepT K x y H Q
theorem kop_mulB {X : Cx} (hK : X.K = K) : OpR X (binaryOp .Mult) (rMulB K) := hK ▸ (op_mulA.or op_repT)
theorem drs_rep {H : Hp} {vs : List V} {ds : List D} (h : DRs K H vs ds) : ∀ n : Nat, DRs K H (List.replicate n vs).flatten (List.replicate n ds).flatten
  | 0 => .nil
  | n + 1 => by
    rw [List.replicate_succ, List.replicate_succ, List.flatten_cons, List.flatten_cons]
    exact h.app (drs_rep h n)
theorem od_mulB : OpD K (rMulB K) opMulB := fun H Hs x y dx dy res s hx hy e Q k => by
  unfold opMulB at e
  split at e
  · rename_i r h
    cases e
    exact .inl (od_mul H Hs x y dx dy _ s hx hy h Q k)
  · split at e
    case h_2 => cases e
    split at e
    case isFalse => cases e
    rename_i d ds n _ hok
    cases e
    simp only [Bool.and_eq_true, decide_eq_true_eq] at hok
    cases hx with
    | tup h1 h2 =>
      rename_i a vs
      cases hy
      have hl := h2.len
      refine .inr ⟨a, n, vs, rfl, rfl, same_tup s h1, ?_, hok.1.1, hok.1.2, by rw [hl, List.length_cons]; omega, fun p hp => ?_⟩
      · intro z
        rw [z] at hl
        simp at hl
      · have ex : Ext H Hs (upd H p (.tup (List.replicate n.toNat vs).flatten)) (upd Hs p (.tup (List.replicate n.toNat vs).flatten)) := Ext.new s hp
        exact k _ _ _ ex (.tup (SqT.of upd_same) ((drs_rep h2 _).mono ex.b))
/-- a def of the text that is called by another name -/
structure FnA (K : PySem.W.Frag) (mg : PySem.Str → Option Value) (g x : PySem.Str) (st : Stmt) where
  f : Addr
  fd : FuncData
  F : Fun K x x st f fd
  m : mg g = some (.ref f)
theorem kcr_setInts {X : Cx} (hK : X.K = K) (hc : X.calm = true) : CallR X (.type "set") (rSetInts K X.w) := hK ▸ cr_setInts hc
end
end Bk
/-! Bk22: x in xs, for data of any depth. -/
namespace Bk
open PySem L2
def opInB (neg : Bool) (x y : D) : Option R := match opIn neg x y with
  | some r => some r
  | none => match toPy x, toPy y with
    | some p, some (.list ps) => if SeqAt.shaped p && SeqAt.shaped (.list ps) then some (.im (.bl (if neg then !(ps.any fun z => PyData.eqv z p) else ps.any fun z => PyData.eqv z p))) else none
    | _, _ => none
section
variable {K : PySem.W.Frag}
def rInB (K : PySem.W.Frag) (neg : Bool) : R2 := fun x y H Q => rInA K neg x y H Q ∨ (if neg then rNotInD K x y H Q else rInD K x y H Q)
theorem kop_inB {X : Cx} (hK : X.K = K) (hu : X.A.units + 70 < cLine) : OpR X (compareOp .In) (rInB K false) := hK ▸ (op_inA.or (op_inD (by omega)))
theorem kop_notInB {X : Cx} (hK : X.K = K) (hu : X.A.units + 70 < cLine) : OpR X (compareOp .NotIn) (rInB K true) := hK ▸ (op_notInA.or (op_notInD (by omega)))
theorem od_inB {neg : Bool} : OpD K (rInB K neg) (opInB neg) := fun H Hs x y dx dy res s hx hy e Q k => by
  unfold opInB at e
  split at e
  · rename_i r h
    cases e
    exact .inl (od_in H Hs x y dx dy _ s hx hy h Q k)
  · split at e
    case h_2 => cases e
    rename_i p ps h1 h2
    split at e
    case isFalse => cases e
    rename_i hok
    cases e
    rw [Bool.and_eq_true] at hok
    refine .inr ?_
    cases neg
    · exact ⟨p, ps, dp_mono s hx h1, dp_mono s hy h2, hok.1, hok.2, k _ H Hs (Ext.refl s) (.bl _)⟩
    · exact ⟨p, ps, dp_mono s hx h1, dp_mono s hy h2, hok.1, hok.2, k _ H Hs (Ext.refl s) (.bl _)⟩
end
end Bk
/-! Bk23: a named list compared while it is kept. -/
namespace Bk
open PySem L2
def nev (i : Nat) (y : D) (G1 : Gam) : Option (R × Gam) := match G1[i]? with
  | some e => match e.mu with
    | some (.l ds) => match eqD (.lst ds) y with
      | some k => some (.im (.bl (!k)), G1)
      | none => none
    | _ => none
  | none => none
def xnev (i : Nat) (b : M R) : M R := fun G => if isMu G i then bd (b G) fun y G1 => nev i y.d G1 else none
section
variable {K : PySem.W.Frag}
theorem gk_nev {i : Nat} {tb : TE} {b : M R} (hb : GOk K tb b) : GOk K (tOp (rNeA K) (tVar i) tb) (xnev i b) := fun Fz ba G σ H Hs res G' q e Q k => by
  unfold xnev at e
  split at e
  case isFalse => cases e
  rename_i hm
  obtain ⟨l, y3, yk⟩ := q.same_slot hm
  obtain ⟨y, G1, e1, e⟩ := bd_inv e
  refine ⟨_, y3, ?_⟩
  refine hb.im q e1 fun v H1 Hs1 q1 s1 d1 => ?_
  unfold nev at e
  cases h : G1[i]? with
  | none => simp only [h] at e; cases e
  | some en =>
    cases h0 : en.mu with
    | none => simp only [h, h0] at e; cases e
    | some mm =>
     cases mm with
     | o _ _ => simp only [h, h0] at e; cases e
     | l ds =>
      simp only [h, h0] at e
      cases z : eqD (.lst ds) y.d with
      | none => rw [z] at e; cases e
      | some b =>
        rw [z] at e
        cases e
        obtain ⟨_, z1, z2, vs, rfl, z3⟩ := yk _ H1 Hs1 en (.l ds) q1 h h0
        unfold eqD at z
        split at z
        · rename_i a b; cases a
        · rename_i a b; cases a
        · split at z
          case h_2 => cases z
          rename_i h1 h2
          split at z
          case isFalse => cases z
          rename_i hf
          rw [Bool.and_eq_true] at hf
          cases z
          unfold toPy at h1
          cases w : toPys ds with
          | none => rw [w] at h1; cases h1
          | some ps =>
            rw [w] at h1
            cases h1
            exact .inl ⟨_, _, .lst (SqL.of z1) (toPys_ok (z3.mono q1.sub) w), toPy_ok (d1.mono q1.sub) h2, hf.1, hf.2, k _ H1 Hs1 q1 s1 (.bl _)⟩
end
/-! ### ints brought in order -/
theorem perm_uniq : ∀ {a b : List Int}, a.Pairwise (· ≤ ·) → b.Pairwise (· ≤ ·) → a.Perm b → a = b
  | [], b, _, _, h => (List.nil_perm.mp h).symm
  | x :: a, b, ha, hb, h => by
    cases b with
    | nil => exact absurd h.length_eq (by simp)
    | cons y b =>
      have h1 := List.pairwise_cons.mp ha
      have h2 := List.pairwise_cons.mp hb
      have e : x = y := by
        have m1 : x ∈ y :: b := h.mem_iff.mp List.mem_cons_self
        have m2 : y ∈ x :: a := h.mem_iff.mpr List.mem_cons_self
        rcases List.mem_cons.mp m1 with rfl | m1
        · rfl
        · rcases List.mem_cons.mp m2 with rfl | m2
          · rfl
          · have := h1.1 y m2
            have := h2.1 x m1
            omega
      subst e
      rw [perm_uniq h1.2 h2.2 (List.Perm.cons_inv h)]
def sortI (ns : List Int) : List Int := sortK (fun i => i) ns
theorem sortI_perm (ns : List Int) : (sortI ns).Perm ns := sortK_perm _ ns
theorem sortI_sorted (ns : List Int) : (sortI ns).Pairwise (· ≤ ·) := sortK_sorted _ ns
def cbSortI (xs : List D) : Option R := match xs with
  | [.lst ds] => match intsD ds with
    | some ns => some (.ol ((sortI ns).map .int))
    | none => none
  | _ => none
section
variable {K : PySem.W.Frag} {X : Cx}
theorem kcr_sortI (hK : X.K = K) : CallR X (.builtin "sorted") (rSortedI K) := hK ▸ cr_sortedI
theorem cd_sortI : CbD K (rSortedI K) cbSortI := fun H Hs xs ds res s h e Q k => by
  unfold cbSortI at e
  split at e
  case h_2 => cases e
  rename_i es
  split at e
  case h_2 => cases e
  rename_i ns hns
  cases e
  cases h with
  | cons a b =>
    cases b
    cases a with
    | lst h1 d1 =>
      rename_i l vs
      have ev := intsD_ok d1 hns
      subst ev
      refine ⟨l, ns, rfl, same_lst s (SqL.of h1), fun ms p m1 m2 hp => ?_⟩
      have em : ms = sortI ns := perm_uniq m2 (sortI_sorted ns) (m1.trans (sortI_perm ns).symm)
      subst em
      exact k _ _ Hs (Ext.hid s hp) ⟨p, _, rfl, hp, upd_same, none_sub s hp, _, rfl, drs_ints _⟩
end
end Bk
/-! Bk24: x in a tuple, for data of any depth. -/
namespace Bk
open PySem L2 PyProof.Rows
def opInC (neg : Bool) (x y : D) : Option R := match opInB neg x y with
  | some r => some r
  | none => match toPy x, toPy y with
    | some p, some (.tuple ps) => if SeqAt.shaped p && SeqAt.shaped (.tuple ps) then some (.im (.bl (if neg then !(ps.any fun z => PyData.eqv z p) else ps.any fun z => PyData.eqv z p))) else none
    | _, _ => none
section
variable {K : PySem.W.Frag}
def rInTD (K : PySem.W.Frag) (neg : Bool) : R2 := fun x y H Q => ∃ d ds, Dp K H x d ∧ Dp K H y (.tuple ds) ∧ SeqAt.shaped d = true ∧ SeqAt.shaped (.tuple ds) = true ∧ Q (.bl (if neg then !(ds.any fun z => PyData.eqv z d) else ds.any fun z => PyData.eqv z d)) H
theorem op_inTD {X : Cx} (hu : X.A.units + 65 < cLine) : OpR X (compareOp .In) (rInTD X.K false) := by
  intro pins s σ H x y v u Q I rx ry h
  obtain ⟨d, ds, hd, he, sd, se, q⟩ := h
  obtain ⟨as, r1⟩ := Dp.reads I d x v hd rx
  obtain ⟨bs, r2⟩ := Dp.reads I (.tuple ds) y u he ry
  exact SeqAt.in_tuple_reads r2 r1 (SeqAt.canLay_of_shaped se) (SeqAt.canLay_of_shaped sd) (room_in_shaped sd hu) ⟨.bl _, H, I, rfl, q⟩
theorem op_notInTD {X : Cx} (hu : X.A.units + 65 < cLine) : OpR X (compareOp .NotIn) (rInTD X.K true) := by
  intro pins s σ H x y v u Q I rx ry h
  obtain ⟨d, ds, hd, he, sd, se, q⟩ := h
  obtain ⟨as, r1⟩ := Dp.reads I d x v hd rx
  obtain ⟨bs, r2⟩ := Dp.reads I (.tuple ds) y u he ry
  exact SeqAt.notIn_tuple_reads r2 r1 (SeqAt.canLay_of_shaped se) (SeqAt.canLay_of_shaped sd) (room_in_shaped sd hu) ⟨.bl _, H, I, rfl, q⟩
def rInC (K : PySem.W.Frag) (neg : Bool) : R2 := fun x y H Q => rInB K neg x y H Q ∨ rInTD K neg x y H Q
theorem kop_inC {X : Cx} (hK : X.K = K) (hu : X.A.units + 70 < cLine) : OpR X (compareOp .In) (rInC K false) := (kop_inB hK hu).or (hK ▸ op_inTD (by omega))
theorem kop_notInC {X : Cx} (hK : X.K = K) (hu : X.A.units + 70 < cLine) : OpR X (compareOp .NotIn) (rInC K true) := (kop_notInB hK hu).or (hK ▸ op_notInTD (by omega))
theorem od_inC {neg : Bool} : OpD K (rInC K neg) (opInC neg) := fun H Hs x y dx dy res s hx hy e Q k => by
  unfold opInC at e
  split at e
  · rename_i r h
    cases e
    exact .inl (od_inB H Hs x y dx dy _ s hx hy h Q k)
  · split at e
    case h_2 => cases e
    rename_i p ps h1 h2
    split at e
    case isFalse => cases e
    rename_i hok
    cases e
    rw [Bool.and_eq_true] at hok
    exact .inr ⟨p, ps, dp_mono s hx h1, dp_mono s hy h2, hok.1, hok.2, k _ H Hs (Ext.refl s) (.bl _)⟩
end
end Bk
/-! Bk26: xs[i] += e for a list of the function's own. -/
namespace Bk
open PySem L2
section
variable {X : Cx} {K : PySem.W.Frag}
theorem pget_list : PGet X (rIxL X.K) := by
  intro pins s σ H x y v u Q I rx ry h
  obtain ⟨p, xs, i, z, rfl, rfl, hq, he, q⟩ := h
  cases rx
  obtain ⟨t, rfl⟩ := ry
  obtain ⟨its, r, pl, hz⟩ := I.list hq
  obtain ⟨j, h1, h2, h3, h4, h5⟩ := atI_get he
  obtain ⟨w, ew, rw'⟩ := r.get h2
  have hl := r.length
  have hn := line63
  have fin : EP X pins σ Q w s := ⟨z, H, I, rw', q⟩
  by_cases h0 : 0 ≤ i
  · have hj : i.toNat = j := by
      rw [seqIndex_of h0 h5] at h1
      exact Option.some.inj h1
    exact wpAny_getItem_list pl.isList h0 (by omega) (by rw [hj]; simpa using ew) fin
  · have hj : (i + (its.toArray.size : Int)).toNat = j := by
      rw [seqIndex_neg (by omega) h4] at h1
      rw [List.size_toArray, ← hl]
      exact Option.some.inj h1
    exact wpAny_getItem_list_neg pl.isList (by omega) (by rw [List.size_toArray] <;> omega) (by omega) (by rw [hj]; simpa using ew) fin
theorem pget_lst (hK : X.K = K) : PGet X (rIxL K) := hK ▸ pget_list
theorem sk_augS {i : Nat} {te tk : TE} {r : TIp} {o : D → D → Option R} {a b : M R} (ho : OpD K r o) (hb : GOk K tk b) (ha : GOk K te a) : SOk K (tAugS (tVar i) tk te (rIxL K) r rSetL) (xaugs i o b a) := fun Fz ba G σ H Hs fl G' q e Dn p => by
  unfold xaugs at e
  split at e
  case isFalse => cases e
  rename_i hm
  obtain ⟨l, y3, yk⟩ := q.same_slot hm
  obtain ⟨k, G1, e1, e⟩ := bd_inv e
  refine ⟨_, y3, ?_⟩
  refine hb.im q e1 fun v H1 Hs1 q1 s1 d1 => ?_
  obtain ⟨y, G2, e2, e⟩ := bd_inv e
  unfold ixv at e2
  cases hy : k.d with
  | int n =>
    rw [hy] at d1 e2 e
    cases h : G1[i]? with
    | none => simp only [h] at e2; cases e2
    | some en =>
      cases h0 : en.mu with
      | none => simp only [h, h0] at e2; cases e2
      | some mm =>
       cases mm with
       | o _ _ => simp only [h, h0] at e2; cases e2
       | l ds =>
        simp only [h, h0] at e2
        cases h1 : atI ds n with
        | none => simp only [h1] at e2; cases e2
        | some d =>
          simp only [h1] at e2
          cases e2
          obtain ⟨_, z1, z2, vs, rfl, z3⟩ := yk _ H1 Hs1 en (.l ds) q1 h h0
          obtain ⟨w, w1, w2⟩ := at_ok z3 h1
          refine ⟨l, vs, n, w, rfl, dr_int d1, SqL.of z1, w1, ?_⟩
          obtain ⟨x, G3, e3, e⟩ := bd_inv e
          refine ha.im q1 e3 fun v2 H2 Hs2 q2 s2 d2 => ?_
          have e : (match o d x.d with
            | some r => put i r.d (.int n) G3
            | none => none) = some (fl, G') := e
          cases hr : o d x.d with
          | none => rw [hr] at e; cases e
          | some res =>
            rw [hr] at e
            refine ho H2 Hs2 w v2 d x.d res q2.sub (w2.mono s2) d2 hr _ fun z H3 Hs3 ex rf => ?_
            obtain ⟨Hs4, q4, s4, d4⟩ := (q2.ext ex).fzr (rf.res q2)
            have e : put i res.d (.int n) G3 = some (fl, G') := e
            unfold put at e
            cases hg : G3[i]? with
            | none => simp only [hg] at e; cases e
            | some en2 =>
              cases hg0 : en2.mu with
              | none => simp only [hg, hg0] at e; cases e
              | some mm2 =>
               cases mm2 with
               | o _ _ => simp only [hg, hg0] at e; cases e
               | l ds2 =>
                simp only [hg, hg0] at e
                cases hg1 : ixN ds2.length n with
                | none => simp only [hg1] at e; cases e
                | some j =>
                  simp only [hg1] at e
                  cases e
                  obtain ⟨_, x1, x2, vs2, rfl, x3⟩ := yk _ H3 Hs4 en2 _ q4 hg hg0
                  refine ⟨l, vs2, n, j, rfl, dr_int d1, x1, by rw [x3.len]; exact hg1, ?_⟩
                  exact p σ _ Hs4 (q4.mut hg hg0 y3 (extB_upd q4.sub x2) upd_same x2 ⟨_, rfl, DRs.set d4 j x3⟩) (((s1.trans s2).trans ex.b).trans s4)
  | _ => simp only [hy] at e2; cases e2
end
end Bk
/-! Bk27: a tuple times 0, times 1. -/
namespace Bk
open PySem L2 PySem.Spec PyProof.Rows
theorem tup_times1 {l : Addr} {its : Array Value} {m : Nat} {dd : Option Addr} {sl : Array (Option Value)} {u : Tok} :
    Meets (Builtin.«tuple.__mul__» ⟨[.ref l, .int 1 u], []⟩) (fun _ R s => s.heap.get? l = some { cls := .type "tuple", dict := dd, data := .seq its m, slots := sl } ∧ R (.ok (.ret (.ref l))) s) :=
  .of_wp fun prog w A R st hyp => by
    obtain ⟨hp, gg, d9, tk, os⟩ := st
    obtain ⟨hl, fin⟩ := hyp
    have fix := AutoSeq1.idx_int
    wp_walk using wpAny_loadPart' hl
    exact ⟨_, rfl, fin⟩
theorem tup_times0 {l : Addr} {its : Array Value} {m : Nat} {dd : Option Addr} {sl : Array (Option Value)} {u : Tok} (he : its.isEmpty = false) :
    Meets (Builtin.«tuple.__mul__» ⟨[.ref l, .int 0 u], []⟩) (fun _ R s => s.heap.get? l = some { cls := .type "tuple", dict := dd, data := .seq its m, slots := sl } ∧
      R (.ok (.ret (.ref s.heap.objs.size))) { s with heap := s.heap.push { cls := .type "tuple", data := .seq #[] } }) :=
  .of_wp fun prog w A R st hyp => by
    obtain ⟨hp, gg, d9, tk, os⟩ := st
    obtain ⟨hl, fin⟩ := hyp
    have fix := AutoSeq1.idx_int
    wp_walk using wpAny_loadPart' hl
    exact ⟨_, rfl, fin⟩
def rRep01 (K : PySem.W.Frag) : R2 := fun x y H Q => ∃ l k xs, x = .ref l ∧ y = .int k ∧ SqT K H l xs ∧ xs ≠ [] ∧ ((k = 1 ∧ Q x H) ∨ (k = 0 ∧ ∀ p, H p = none → Q (.ref p) (upd H p (.tup []))))
section
variable {X : Cx} {K : PySem.W.Frag}
theorem op_rep01' : OpR X (binaryOp .Mult) (rRep01 X.K) := by
  intro pins s σ H x y v u Q I hx hy hyp
  obtain ⟨l, k, xs, rfl, rfl, hT, hne, alt⟩ := hyp
  cases hx
  obtain ⟨t, rfl⟩ := hy
  obtain ⟨its, rel, ⟨⟨c9, dd, dt, sl⟩, hob, hcl, m, hdt⟩, hsz⟩ := I.tuple hT
  simp only at hcl hdt
  subst hcl hdt
  have lens : its.length = xs.length := rel.length.symm
  have emp : its.toArray.isEmpty = false := by
    match its, lens with
    | [], lens => exact absurd (List.length_eq_zero_iff.mp lens.symm) hne
    | a :: b, _ => rfl
  rcases alt with ⟨rfl, q⟩ | ⟨rfl, q⟩
  · exact wpAny_binaryOp_repeat_ref (T := "tuple") (U := "int") (by decide) ⟨_, hob, rfl⟩ (fun s' => typeIs_int s' 1 t) noFill_tuple_mul F.fills_int_mul F.slot_int_rmul repeat_tuple F.slot_int_index.lookup
      (call_meets F.slot_int_rmul (typeIs_int s 1 t) F.entry_int_rmul (F.args_int_rmul_2 _ _) (int_rmul_tuple 1 t l its.toArray m dd sl)
        ⟨hob, rfl, ⟨_, hob, rfl⟩, call_meets F.slot_tuple_mul ⟨_, hob, rfl⟩ F.entry_tuple_mul (F.args_tuple_mul_2 _ _) tup_times1 ⟨hob, ⟨.ref l, H, I, rfl, q⟩⟩⟩)
  · exact wpAny_binaryOp_repeat_ref (T := "tuple") (U := "int") (by decide) ⟨_, hob, rfl⟩ (fun s' => typeIs_int s' 0 t) noFill_tuple_mul F.fills_int_mul F.slot_int_rmul repeat_tuple F.slot_int_index.lookup
      (call_meets F.slot_int_rmul (typeIs_int s 0 t) F.entry_int_rmul (F.args_int_rmul_2 _ _) (int_rmul_tuple 0 t l its.toArray m dd sl)
        ⟨hob, rfl, ⟨_, hob, rfl⟩, call_meets F.slot_tuple_mul ⟨_, hob, rfl⟩ F.entry_tuple_mul (F.args_tuple_mul_2 _ _) (tup_times0 emp) ⟨hob, ⟨.ref s.heap.objs.size, _, I.laid (t' := s.toks) (o := .tup []) (fun b ob q => Heap.get?_push_of_some _ q) (Nat.le_refl _) ⟨Nat.zero_le _, _, .nil, IsTup.new _ _⟩, rfl, q _ (I.hok.fresh (Nat.le_refl _))⟩⟩⟩)
/-- products, those of tuples by 0 and 1 too -/
def opMulC (x y : D) : Option R := match opMulB x y with
  | some r => some r
  | none => match x, y with
    | .tup (d :: ds), .int k => if k = 1 then some (.im (.tup (d :: ds))) else if k = 0 then some (.im (.tup [])) else none
    | _, _ => none
def rMulC (K : PySem.W.Frag) : R2 := fun x y H Q => rMulB K x y H Q ∨ rRep01 K x y H Q
theorem kop_mulC {X : Cx} (hK : X.K = K) : OpR X (binaryOp .Mult) (rMulC K) := hK ▸ ((op_mulA.or op_repT).or op_rep01')
theorem od_mulC : OpD K (rMulC K) opMulC := fun H Hs x y dx dy res s hx hy e Q k => by
  unfold opMulC at e
  split at e
  · rename_i r h
    cases e
    exact .inl (od_mulB H Hs x y dx dy _ s hx hy h Q k)
  · split at e
    case h_2 => cases e
    rename_i d ds n _
    cases hx with
    | tup h1 h2 =>
      rename_i a vs
      cases hy
      have hl := h2.len
      have ne : vs ≠ [] := fun z => by
        rw [z] at hl
        simp at hl
      split at e
      · rename_i hk
        cases e
        exact .inr ⟨a, n, vs, rfl, rfl, same_tup s h1, ne, .inl ⟨hk, k _ H Hs (Ext.refl s) (.tup h1 h2)⟩⟩
      · split at e
        case isFalse => cases e
        rename_i hk
        cases e
        refine .inr ⟨a, n, vs, rfl, rfl, same_tup s h1, ne, .inr ⟨hk, fun p hp => ?_⟩⟩
        have ex : Ext H Hs (upd H p (.tup [])) (upd Hs p (.tup [])) := Ext.new s hp
        exact k _ _ _ ex (.tup (SqT.of upd_same) .nil)
end
end Bk
/-! Bk28: a tuple the other way about: xs[::-1]. -/
namespace Bk
open PySem L2 PySem.Spec PyProof.Rows HT
section
variable {prog : Program} {w : World} {A : Around} {E : Value → Shared → Prop} {s : Shared}
theorem rng_pick {α : Type} : ∀ r : List α, (List.range r.length).filterMap (fun k => r[k]?) = r
  | [] => rfl
  | a :: r => by
    rw [List.length_cons, List.range_succ_eq_map, List.filterMap_cons, List.filterMap_map]
    show a :: (List.range r.length).filterMap (fun k => r[k]?) = a :: r
    rw [rng_pick r]
theorem pick_rev9 (l : List Value) : ((List.range l.length).filterMap fun (k : Nat) => l.toArray[(((l.length : Int) - 1) + (k : Int) * (-1)).toNat]?) = l.reverse := by
  have e := rng_pick l.reverse
  rw [List.length_reverse] at e
  conv => rhs; rw [← e]
  have key : ∀ m : List Nat, (∀ k ∈ m, k < l.length) → m.filterMap (fun (k : Nat) => l.toArray[(((l.length : Int) - 1) + (k : Int) * (-1)).toNat]?) = m.filterMap fun k => l.reverse[k]? := fun m hm => by
    induction m with
    | nil => rfl
    | cons k m ih =>
      have hk := hm k List.mem_cons_self
      have e1 : l.toArray[(((l.length : Int) - 1) + (k : Int) * (-1)).toNat]? = l.reverse[k]? := by
        rw [List.getElem?_reverse hk, show (((l.length : Int) - 1) + (k : Int) * (-1)).toNat = l.length - 1 - k by omega]
        simp
      rw [List.filterMap_cons, List.filterMap_cons, e1, ih fun j hj => hm j (List.mem_cons_of_mem _ hj)]
  exact key _ fun k hk => List.mem_range.mp hk
theorem sliceApplied_back {sl : Addr} {vl vu vs : Value} {n : Nat} {Q : Int × Int × Nat → Shared → Prop} (hs : s.heap.IsSliceOf sl vl vu vs) (pl : IsPart vl none) (pu : IsPart vu none) (ps : IsPart vs (some (-1)))
    (h : Q ((n : Int) - 1, -1, n) s) : wpAny (model prog w) A (Builtin.Slice.sliceApplied (.ref sl) (pure (n : Int))) Q E s := by
  obtain ⟨os, hos, hcs, hds⟩ := id hs
  unfold Builtin.Slice.sliceApplied Builtin.Slice.sliceFields
  refine wpAny_bind (wpAny_bind (wpAny_field hos hds (x := vl) rfl (wpAny_bind (wpAny_field hos hds (x := vu) rfl (wpAny_bind (wpAny_field hos hds (x := vs) rfl (wpAny_pure ?_)))))))
  refine wpAny_bind (slicePart_ ps ?_)
  show wpAny _ _ (if ((-1 : Int) == 0) = true then _ else _) _ _ s
  rw [if_neg (by decide)]
  refine wpAny_bind (slicePart_ pl (wpAny_bind (slicePart_ pu (wpAny_bind (wpAny_pure ?_)))))
  have e1 : Builtin.Slice.sliceAdjust none none (-1) (n : Int) = ((n : Int) - 1, -1) := rfl
  have e2 : Builtin.Slice.slicePlaces ((n : Int) - 1) (-1) (-1) = n := by
    unfold Builtin.Slice.slicePlaces
    rw [if_neg (by decide)]
    rw [show (- -1 : Int) = 1 from rfl, Int.ediv_one]
    split
    · omega
    · omega
  show wpAny _ _ (match Builtin.Slice.sliceAdjust none none (-1) (n : Int) with | (lo, hi) => pure (lo, (-1 : Int), Builtin.Slice.slicePlaces lo hi (-1))) _ _ s
  rw [e1]
  show wpAny _ _ (pure ((n : Int) - 1, (-1 : Int), Builtin.Slice.slicePlaces ((n : Int) - 1) (-1) (-1))) _ _ s
  rw [e2]
  exact wpAny_pure h
theorem getItem_tuple_back {t sl : Addr} {its : List Value} {vl vu vs : Value} {Q : Value → Shared → Prop} (ht : IsTup s.heap t its.toArray) (hs : s.heap.IsSliceOf sl vl vu vs) (pl : IsPart vl none) (pu : IsPart vu none) (ps : IsPart vs (some (-1)))
    (h : Q (.ref s.heap.objs.size) { s with heap := s.heap.push { cls := .type "tuple", data := .seq its.reverse.toArray } })
    (hz : its.length ≤ sizeLine) : wpAny (model prog w) A (getItem (.ref t) (.ref sl)) Q E s := by
  have fits : sizeOk (.seq its.reverse.toArray) := by
    show its.reverse.toArray.size ≤ sizeLine
    rw [List.size_toArray, List.length_reverse]
    exact hz
  obtain ⟨os, hos, hcs, hds⟩ := id hs
  have hTs : s.TypeIs (.ref sl) "slice" := ⟨os, hos, hcs⟩
  unfold getItem
  try with_reducible refine wpAny_holding ?_
  first | refine wpAny_bind (wpAny_pure ?_) | skip
  refine wpAny_bind (wpAny_sequenceKey ht.typeIs (by decide) ?_)
  refine wpAny_bind (wpAny_callSpecial?_slot (name := Str.ofString "__getitem__") ht.typeIs PyProof.Rows.slot_tuple_getitem (wpAny_call_entry PyProof.Rows.slot_tuple_getitem ht.typeIs entry_tuple_getitem ?_ (args_tuple_getitem _ _)))
  show wpAny _ _ (Builtin.Tuple.tupleItemsOf (.ref t) >>= _) _ _ s
  refine wpAny_bind (tupleItemsOf_ ht ?_)
  refine wpAny_bind (wpAny_typeOf hTs ?_)
  rw [if_pos (by decide)]
  refine wpAny_bind (sliceApplied_back (n := its.toArray.size) hs pl pu ps ?_)
  show wpAny _ _ (if (((its.toArray.size : Int) - 1) == 0 && (-1 : Int) == 1 && its.toArray.size == its.toArray.size) = true then _ else _) _ _ s
  rw [if_neg (by rw [show ((-1 : Int) == 1) = false from rfl, Bool.and_false, Bool.false_and]; decide)]
  have e : ((List.range its.toArray.size).filterMap fun (k : Nat) => its.toArray[(((its.toArray.size : Nat) : Int) - 1 + (k : Int) * (-1)).toNat]?) = its.reverse := by
    rw [List.size_toArray]
    exact pick_rev9 its
  rw [e]
  first
    | exact wpAny_bind (m := Builtin.Tuple.tupleExact _) (wpAny_newObj_type (wpAny_pure ⟨_, rfl, wpAny_pure h⟩) fits)
    | exact wpAny_bind (m := Builtin.Tuple.tupleExact _) (wpAny_newObj_type (wpAny_bind (wpAny_pure (wpAny_pure ⟨_, rfl, wpAny_pure h⟩))) fits)
    | exact wpAny_bind (wpAny_bind (m := Builtin.Tuple.tupleExact _) (wpAny_newObj_type (wpAny_pure (wpAny_pure ⟨_, rfl, wpAny_pure h⟩)) fits))
    | exact wpAny_bind (wpAny_bind (m := Builtin.Tuple.tupleExact _) (wpAny_newObj_type (wpAny_pure ⟨_, rfl, wpAny_pure h⟩) fits))
end
section
variable {X : Cx} {K : PySem.W.Frag}
/-- xs[::k], k reckoned to be -1: a list or a tuple -/
def tRevA (K : PySem.W.Frag) (te tk : TE) : TE := fun σ H Q => te σ H fun x H1 => tk σ H1 fun y H2 => y = .int (-1) ∧ (some (-1 : Int) = some (-1) ∧ ∃ a xs, x = .ref a ∧ ((SqL K H2 a xs ∧ ∀ p, H2 p = none → Q (.ref p) (upd H2 p (.lst xs.reverse))) ∨ (SqT K H2 a xs ∧ ∀ p, H2 p = none → Q (.ref p) (upd H2 p (.tup xs.reverse)))))
theorem pe_revA {e st : Expr} {te tk : TE} {p3 pos : Pos} (he : PE X e te) (hk : PE X st tk) :
    PE X (.Subscript e (.Slice none none (some st) p3) pos) (tRevA X.K te tk) := by
  refine ⟨fun pins s σ H Q I h => ?_⟩
  refine Subscript_ (thn (he.run pins s σ H _ I h) fun v s1 ⟨x, H1, I1, r1, q1⟩ => ?_)
  refine wpAny_Slice (thn (po_none.run pins s1 σ H1 (fun o H2 => o = none ∧ H2 = H1) I1 ⟨rfl, rfl⟩) fun vl s2 ⟨l, H2, I2, pl, el, e2⟩ => ?_)
  subst el e2
  refine thn (po_none.run pins s2 σ H2 (fun o H3 => o = none ∧ H3 = H2) I2 ⟨rfl, rfl⟩) fun vu s3 ⟨u, H3, I3, pu, eu, e3⟩ => ?_
  subst eu e3
  have hst : PO X (some st) (fun σ H Q => tk σ H fun y H2 => y = .int (-1) ∧ Q (some (-1)) H2) := by
    refine ⟨fun pins s σ H Q I hw => ?_⟩
    rw [evalPart_some]
    refine thn (hk.run pins s σ H _ I hw) fun u s1 ⟨y, H1, I1, r1, q1⟩ => ?_
    obtain ⟨rfl, q⟩ := q1
    obtain ⟨t, rfl⟩ := r1
    exact ⟨some (-1), H1, I1, .int (-1) t, q⟩
  refine thn (hst.run pins s3 σ H3 (fun o H4 => o = some (-1) ∧ ∃ a xs, x = .ref a ∧ ((SqL X.K H4 a xs ∧ ∀ p, H4 p = none → Q (.ref p) (upd H4 p (.lst xs.reverse))) ∨ (SqT X.K H4 a xs ∧ ∀ p, H4 p = none → Q (.ref p) (upd H4 p (.tup xs.reverse))))) I3 q1) fun vs s4 ⟨o, H4, I4, ps, eo, a, xs, ex, alt⟩ => ?_
  subst eo ex
  cases r1
  have I5 : Inv X pins σ H4 { s4 with heap := s4.heap.push { cls := .type "slice", data := .fields #[vl, vu, vs] } } := I4.kept (t' := s4.toks) fun b ob q => Heap.get?_push_of_some _ q
  show wpAny (model X.prog X.w) X.A (subscriptTail e (.Slice none none (some st) p3) (.ref a) (.ref s4.heap.objs.size)) (EP X pins σ Q) X.xe { s4 with heap := s4.heap.push { cls := .type "slice", data := .fields #[vl, vu, vs] } }
  rcases alt with ⟨hx, q⟩ | ⟨hx, q⟩
  · obtain ⟨its, r, ht, hz⟩ := I5.list hx
    have hlen := r.length
    refine tail_any (ops := [.ref a, .ref s4.heap.objs.size]) ht.isList.typeIs (PySem.slot_list_getitem.lookup) ?_ (by with_unfolding_all rfl)
    refine wpAny_getItem_list_slice ht.isList (Heap.IsSliceOf.new _ vl vu vs) pl pu ps (by decide) ?_ (by rw [List.size_toArray]; omega)
    rw [PySem.W.krv_pick]
    refine ⟨.ref _, _, I5.laid (t' := s4.toks) (o := .lst xs.reverse) (fun b ob q => Heap.get?_push_of_some _ q) (Nat.le_refl _) ?_, rfl, q _ (I5.hok.fresh (Nat.le_refl _))⟩
    exact ⟨by rw [List.length_reverse]; exact hz, _, 0, r.reverse, Heap.get?_push_size _ rfl⟩
  · obtain ⟨its, r, ht, hz⟩ := I5.tuple hx
    have hlen := r.length
    refine tail_any (ops := [.ref a, .ref s4.heap.objs.size]) ht.typeIs (PyProof.Rows.slot_tuple_getitem.lookup) ?_ (by with_unfolding_all rfl)
    refine getItem_tuple_back ht (Heap.IsSliceOf.new _ vl vu vs) pl pu ps ?_ (by omega)
    refine ⟨.ref _, _, I5.laid (t' := s4.toks) (o := .tup xs.reverse) (fun b ob q => Heap.get?_push_of_some _ q) (Nat.le_refl _) ?_, rfl, q _ (I5.hok.fresh (Nat.le_refl _))⟩
    exact ⟨by rw [List.length_reverse]; exact hz, _, r.reverse, IsTup.new _ _⟩
theorem kpe_revA (hK : X.K = K) {e st : Expr} {te tk : TE} {p3 pos : Pos} (he : PE X e te) (hk : PE X st tk) : PE X (.Subscript e (.Slice none none (some st) p3) pos) (tRevA K te tk) := hK ▸ pe_revA he hk
def xrevA (a b : M R) : M R := fun G => bd (a G) fun x G1 => bd (b G1) fun y G2 => match x.d, y.d with
  | .lst ds, .int k => if k = -1 then some (.ol ds.reverse, G2) else none
  | .tup ds, .int k => if k = -1 then some (.im (.tup ds.reverse), G2) else none
  | _, _ => none
theorem gk_revA {te tk : TE} {a b : M R} (ha : GOk K te a) (hb : GOk K tk b) : GOk K (tRevA K te tk) (xrevA a b) := fun Fz ba G σ H Hs res G' q e Q k => by
  obtain ⟨x, G1, e1, e⟩ := bd_inv e
  obtain ⟨y, G2, e2, e⟩ := bd_inv e
  refine ha.im q e1 fun v1 H1 Hs1 q1 s1 d1 => ?_
  refine hb.im q1 e2 fun v2 H2 Hs2 q2 s2 d2 => ?_
  split at e
  · rename_i ds n h1 h2
    split at e
    case isFalse => cases e
    rename_i hn
    cases e
    rw [h2] at d2
    rw [h1] at d1
    obtain ⟨a1, x1, rfl, l1, r1⟩ := asL_ok (d1.mono s2) (rfl : asL (.lst ds) = some ds)
    refine ⟨by rw [dr_int d2, hn], rfl, a1, x1, rfl, .inl ⟨same_lst q2.sub l1, fun p hp => ?_⟩⟩
    have ex : Ext H2 Hs2 (upd H2 p (.lst x1.reverse)) Hs2 := Ext.hid q2.sub hp
    have rf : ResF K H2 (upd H2 p (.lst x1.reverse)) Hs2 (.ref p) (.ol ds.reverse) := ⟨p, _, rfl, hp, upd_same, none_sub q2.sub hp, _, rfl, r1.rev⟩
    exact k _ _ _ (q2.ext ex) ((s1.trans s2).trans ex.b) (rf.res q2)
  · rename_i ds n h1 h2
    split at e
    case isFalse => cases e
    rename_i hn
    cases e
    rw [h2] at d2
    rw [h1] at d1
    cases d1.mono s2 with
    | tup l1 r1 =>
      rename_i a1 x1
      refine ⟨by rw [dr_int d2, hn], rfl, a1, x1, rfl, .inr ⟨same_tup q2.sub l1, fun p hp => ?_⟩⟩
      have ex : Ext H2 Hs2 (upd H2 p (.tup x1.reverse)) (upd Hs2 p (.tup x1.reverse)) := Ext.new q2.sub hp
      have rf : ResF K H2 (upd H2 p (.tup x1.reverse)) (upd Hs2 p (.tup x1.reverse)) (.ref p) (.im (.tup ds.reverse)) := .tup (SqT.of upd_same) (r1.rev.mono ex.b)
      exact k _ _ _ (q2.ext ex) ((s1.trans s2).trans ex.b) (rf.res q2)
  · cases e
end
end Bk
/-! Bk30: zip over three lists or tuples. -/
namespace Bk
open PySem L2 PySem.Builtin PySem.Spec PyProof.Rows
def ItZ3 (K : PySem.W.Frag) (k l m : Bool) (a b c : Addr) : It :=
  ⟨fun i H => ∃ (xs ys zs : List V) (x y z : V), SqK K k a H xs ∧ SqK K l b H ys ∧ SqK K m c H zs ∧ xs[i]? = some x ∧ ys[i]? = some y ∧ zs[i]? = some z,
    fun i H v H' => ∃ T x y z, v = .ref T ∧ H T = none ∧ H' = upd H T (.tup [x, y, z]) ∧ (∀ xs, SqK K k a H xs → xs[i]? = some x) ∧ (∀ ys, SqK K l b H ys → ys[i]? = some y) ∧ ∀ zs, SqK K m c H zs → zs[i]? = some z,
    fun i H => ∃ xs ys zs : List V, SqK K k a H xs ∧ SqK K l b H ys ∧ SqK K m c H zs ∧ (xs.length ≤ i ∨ ys.length ≤ i ∨ zs.length ≤ i)⟩
theorem turn_zip3 {P : Program} {w : World} {K : PySem.W.Frag} {elts : List Expr} {kk : Nat} {tpos : Pos} {k l m : Bool} {a b c3 z TI TO i1 i2 i3 : Addr} (D : ZipSep3 z TI TO i1 i2 i3 [i1, a] [i2, b] [i3, c3]) (ha : a ≠ i1) (hb : b ≠ i2) (hc3 : c3 ≠ i3) :
    Turn P w K (.Tuple elts kk tpos) (ItZ3 K k l m a b c3) [z, TI, TO, i1, i2, i3] z (fun i h => IsZip h z TI TO .none ∧ IsTupOf3 h TI (.ref i1) (.ref i2) (.ref i3) ∧ (∃ x y u, IsTupOf3 h TO x y u) ∧ ItK k i1 a i h ∧ ItK l i2 b i h ∧ ItK m i3 c3 i h) where
  mem := by simp
  obj := fun i h st c hc => by
    obtain ⟨hz, hTI, ⟨x, y, u, hTO⟩, h1, h2, h3⟩ := st
    have ec : c = z ∨ c = TI ∨ c = TO ∨ c = i1 ∨ c = i2 ∨ c = i3 := by simpa using hc
    rcases ec with rfl | rfl | rfl | rfl | rfl | rfl
    · exact ⟨_, hz, fun v q => nomatch q⟩
    · exact ⟨_, hTI, fun v q => nomatch q⟩
    · exact ⟨_, hTO, fun v q => nomatch q⟩
    · exact itk_obj h1
    · exact itk_obj h2
    · exact itk_obj h3
  keep := fun i h h' st kp => by
    obtain ⟨hz, hTI, ⟨x, y, u, hTO⟩, h1, h2, h3⟩ := st
    exact ⟨kp z (by simp) _ hz, kp TI (by simp) _ hTI, ⟨x, y, u, kp TO (by simp) _ hTO⟩, h1.at fun o q => kp i1 (by simp) o q, h2.at fun o q => kp i2 (by simp) o q, h3.at fun o q => kp i3 (by simp) o q⟩
  item := by
    intro X hP hw hK hc i pins s σ H E I hf st hg
    subst hP hw hK
    obtain ⟨hz, hTI, ⟨x0, y0, u0, hTO⟩, h1, h2, h3⟩ := st
    obtain ⟨xs, ys, zs, x, y, t, qx, qy, qt, hx, hy, ht⟩ := hg
    obtain ⟨its, rv, p, _⟩ := inv_k I qx
    obtain ⟨its2, rv2, p2, _⟩ := inv_k I qy
    obtain ⟨its3, rv3, p3, _⟩ := inv_k I qt
    obtain ⟨u, hu, ru⟩ := rv.get hx
    obtain ⟨u2, hu2, ru2⟩ := rv2.get hy
    obtain ⟨u3, hu3, ru3⟩ := rv3.get ht
    have hlt : i < its.toArray.size := by simpa using (List.getElem?_eq_some_iff.mp hu).1
    have hlt2 : i < its2.toArray.size := by simpa using (List.getElem?_eq_some_iff.mp hu2).1
    have hlt3 : i < its3.toArray.size := by simpa using (List.getElem?_eq_some_iff.mp hu3).1
    have hzl : z < s.heap.objs.size := Heap.lt_size hz
    have lts : ∀ c ∈ [z, TI, TO, i1, i2, i3], c < s.heap.objs.size := fun c hcm => by
      have ec : c = z ∨ c = TI ∨ c = TO ∨ c = i1 ∨ c = i2 ∨ c = i3 := by simpa using hcm
      rcases ec with rfl | rfl | rfl | rfl | rfl | rfl
      · exact hzl
      · exact Heap.lt_size hTI
      · exact Heap.lt_size hTO
      · obtain ⟨_, e1, _⟩ := itk_obj h1; exact Heap.lt_size e1
      · obtain ⟨_, e2, _⟩ := itk_obj h2; exact Heap.lt_size e2
      · obtain ⟨_, e3, _⟩ := itk_obj h3; exact Heap.lt_size e3
    refine wpAny_pyNext_zipD3_item D (draws_k (A := X.A.in1) (I.ok.hd hc) k i1 a ha its.toArray) (draws_k (A := X.A.in1) (I.ok.hd hc) l i2 b hb its2.toArray) (draws_k (A := X.A.in1) (I.ok.hd hc) m i3 c3 hc3 its3.toArray) hz hTI hTO ⟨h1, p⟩ ⟨h2, p2⟩ ⟨h3, p3⟩ hlt hlt2 hlt3 fun v1 v2 v3 h' tk e1 e2 e3 z' TO' st1 st2 st3 hT hsz hk => ?_
    have ev1 : v1 = u := by
      have q : its[i]? = some v1 := by simpa using e1
      rw [hu] at q; cases q; rfl
    have ev2 : v2 = u2 := by
      have q : its2[i]? = some v2 := by simpa using e2
      rw [hu2] at q; cases q; rfl
    have ev3 : v3 = u3 := by
      have q : its3[i]? = some v3 := by simpa using e3
      rw [hu3] at q; cases q; rfl
    subst ev1 ev2 ev3
    refine ⟨_, rfl, wpAny_letOwnedTupleGo_zip (s := { s with heap := h', toks := tk }) z' fun h'' z'' sb => ?_⟩
    have hT2 : h''.get? s.heap.objs.size = some { cls := .type "tuple", data := .seq #[v1, v2, v3] } := (sb.2 _ (Nat.ne_of_gt hzl)).trans hT
    have new : ObjOk X.prog X.w (upd H s.heap.objs.size (.tup [x, y, t])) h'' s.heap.objs.size (.tup [x, y, t]) := ⟨by show 3 ≤ sizeLine; decide, [v1, v2, v3], .cons ru (.cons ru2 (.cons ru3 .nil)), ⟨_, hT2, rfl, _, rfl⟩⟩
    have I1 : Inv X pins σ (upd H s.heap.objs.size (.tup [x, y, t])) { s with heap := h'', toks := tk } :=
      I.turnedNew (ch := [z, TI, TO, i1, i2, i3]) (fun c o hcb q => (sb.2 c (fun q' => hcb (by simp [q']))).trans (hk c o (fun q' => hcb (by simp [q'])) (fun q' => hcb (by simp [q'])) (fun q' => hcb (by simp [q'])) (fun q' => hcb (by simp [q'])) (fun q' => hcb (by simp [q'])) q)) hf (Nat.le_refl _) new
    have n1 : i1 ≠ z := fun q => D.zf1 (q ▸ D.mem1)
    have n2 : i2 ≠ z := fun q => D.zf2 (q ▸ D.mem2)
    have n3 : i3 ≠ z := fun q => D.zf3 (q ▸ D.mem3)
    refine ⟨.ref s.heap.objs.size, _, I1, rfl, ⟨_, x, y, t, rfl, I.hok.fresh (Nat.le_refl _), rfl, fun l' hl => by rw [inj_k I hl qx]; exact hx, fun l' hl => by rw [inj_k I hl qy]; exact hy, fun l' hl => by rw [inj_k I hl qt]; exact ht⟩, ⟨z'', ?_, ⟨v1, v2, v3, (sb.2 _ D.TOz).trans TO'⟩, st1.1.at fun o q => (sb.2 _ n1).trans q, st2.1.at fun o q => (sb.2 _ n2).trans q, st3.1.at fun o q => (sb.2 _ n3).trans q⟩, fun c hcm => ?_⟩
    · exact (sb.2 _ D.TIz).trans (hk _ _ D.TIz D.TITO D.TIi1 D.TIi2 D.TIi3 hTI)
    · rw [upd_ne (Nat.ne_of_lt (lts c hcm))]
      exact (hf c hcm).1
  done := by
    intro X hP hw hK hc i pins s σ H E I hf st hg
    subst hP hw hK
    obtain ⟨hz, hTI, ⟨x0, y0, u0, hTO⟩, h1, h2, h3⟩ := st
    obtain ⟨xs, ys, zs, qx, qy, qt, hend⟩ := hg
    obtain ⟨its, rv, p, _⟩ := inv_k I qx
    obtain ⟨its2, rv2, p2, _⟩ := inv_k I qy
    obtain ⟨its3, rv3, p3, _⟩ := inv_k I qt
    have l1 := rv.length
    have l2 := rv2.length
    have l3 := rv3.length
    obtain ⟨n1, P1, St1, D1, s1, le1, e1⟩ := draws_stop (prog := X.prog) (w := X.w) (A := X.A.in1) (I.ok.hd hc) k i1 a ha its.toArray i h1 p
    obtain ⟨n2, P2, St2, D2, s2, le2, e2⟩ := draws_stop (prog := X.prog) (w := X.w) (A := X.A.in1) (I.ok.hd hc) l i2 b hb its2.toArray i h2 p2
    obtain ⟨n3, P3, St3, D3, s3, le3, e3⟩ := draws_stop (prog := X.prog) (w := X.w) (A := X.A.in1) (I.ok.hd hc) m i3 c3 hc3 its3.toArray i h3 p3
    exact wpAny_pyNext_zipD3_end D D1 D2 D3 hz hTI hTO s1 s2 s3 le1 le2 le3 (by
      rcases hend with q | q | q
      · exact .inl (e1 (by simp; omega))
      · exact .inr (.inl (e2 (by simp; omega)))
      · exact .inr (.inr (e3 (by simp; omega)))) fun h' tk hk => ⟨rfl, I.turnedL (ch := [z, TI, TO, i1, i2, i3]) (fun c o hcb q => hk c o (fun q' => hcb (by simp [q'])) (fun q' => hcb (by simp [q'])) (fun q' => hcb (by simp [q'])) (fun q' => hcb (by simp [q'])) (fun q' => hcb (by simp [q'])) q) hf⟩
  self := fun A i s Q E st h => wpAny_pyIter_zip st.1 h
def iZip3 (K : PySem.W.Frag) (ta : TA) : TI := fun σ H R => ta σ H fun vs H1 => ∃ k l m a b c xs ys zs, vs = [.ref a, .ref b, .ref c] ∧ SqK K k a H1 xs ∧ SqK K l b H1 ys ∧ SqK K m c H1 zs ∧ R (ItZ3 K k l m a b c) H1
theorem pi_zip3 {X : Cx} {e e2 e3 : Expr} {ta : TA} {p pos tpos : Pos} {elts : List Expr} {kk : Nat} (hg : Gl X "zip") (hm : X.mg "zip" = none) (ha : PA X [e, e2, e3] ta)
    (hs : starEach [e, e2, e3] X.env = (false, eval e X.env) :: starEach [e2, e3] X.env := by rfl) (hpl : (backTo pos (starEach [e2, e3] X.env)).any (·.1) = false := by rfl) :
    PI X (.Tuple elts kk tpos) (.Call (.Name "zip" p) [e, e2, e3] [] pos) (iZip3 X.K ta) := by
  refine ⟨fun pins s σ H R I h => Call_ (ld_blt I hg hm PyProof.Rows.boot_zip (callWith_type1 (thn (ha.run pos pins s σ H _ I h) fun us s1 ⟨vs, H1, I1, r1, k, l, m, a, b, c3, xs, ys, zs, ex, qx, qy, qt, q⟩ => ?_) hs hpl))⟩
  subst ex
  cases r1 with
  | cons r rr =>
    cases rr with
    | cons r' rr =>
      cases rr with
      | cons r'' rr =>
        cases rr
        cases r
        cases r'
        cases r''
        obtain ⟨its, rv, p1, la⟩ := inv_k I1 qx
        obtain ⟨its2, rv2, p2, lb⟩ := inv_k I1 qy
        obtain ⟨its3, rv3, p3, lc⟩ := inv_k I1 qt
        refine zip_begins3 (begins_k k a its.toArray) (begins_k l b its2.toArray) (begins_k m c3 its3.toArray) p1 p2 p3 fun h' hz hTI hTO h1 h2 h3 hsz hk => wpAny_pyIter_zip hz ?_
        have sep := zip_sep3 (N := s1.heap.objs.size) (fp1 := [a]) (fp2 := [b]) (fp3 := [c3]) (by simpa using la) (by simpa using lb) (by simpa using lc)
        refine ⟨_, _, _, _, H1, rfl, I1.kept (t' := s1.toks) hk, turn_zip3 sep (Nat.ne_of_lt la) (Nat.ne_of_lt (Nat.lt_succ_of_lt lb)) (Nat.ne_of_lt (Nat.lt_succ_of_lt (Nat.lt_succ_of_lt lc))), ⟨hz, hTI, ⟨_, _, _, hTO⟩, itk_new h1, itk_new h2, itk_new h3⟩, fun c hcm => ?_, q⟩
        have ec : c = s1.heap.objs.size + 5 ∨ c = s1.heap.objs.size + 3 ∨ c = s1.heap.objs.size + 4 ∨ c = s1.heap.objs.size ∨ c = s1.heap.objs.size + 1 ∨ c = s1.heap.objs.size + 2 := by simpa using hcm
        have hle : s1.heap.objs.size ≤ c := by
          rcases ec with rfl | rfl | rfl | rfl | rfl | rfl
          · exact Nat.le_add_right _ _
          · exact Nat.le_add_right _ _
          · exact Nat.le_add_right _ _
          · exact Nat.le_refl _
          · exact Nat.le_add_right _ _
          · exact Nat.le_add_right _ _
        exact I1.fpOk hle (I1.hok.fresh hle)
theorem kpi_zip3 {X : Cx} {K : PySem.W.Frag} (hK : X.K = K) {e e2 e3 : Expr} {ta : TA} {p pos tpos : Pos} {elts : List Expr} {kk : Nat} (hg : Gl X "zip") (hm : X.mg "zip" = none) (ha : PA X [e, e2, e3] ta)
    (hs : starEach [e, e2, e3] X.env = (false, eval e X.env) :: starEach [e2, e3] X.env := by rfl) (hpl : (backTo pos (starEach [e2, e3] X.env)).any (·.1) = false := by rfl) :
    PI X (.Tuple elts kk tpos) (.Call (.Name "zip" p) [e, e2, e3] [] pos) (iZip3 K ta) := hK ▸ pi_zip3 hg hm ha hs hpl
section
variable {K : PySem.W.Frag}
def zip3 : List D → List D → List D → List D
  | x :: xs, y :: ys, z :: zs => .tup [x, y, z] :: zip3 xs ys zs
  | _, _, _ => []
theorem zip3_len : ∀ (xs ys zs : List D), (zip3 xs ys zs).length = min xs.length (min ys.length zs.length)
  | x :: xs, y :: ys, z :: zs => by
    show (zip3 xs ys zs).length + 1 = min (xs.length + 1) (min (ys.length + 1) (zs.length + 1))
    rw [zip3_len xs ys zs]
    omega
  | [], _, _ => by simp [zip3]
  | _ :: _, [], _ => by simp [zip3]
  | _ :: _, _ :: _, [] => by simp [zip3]
theorem zip3_get : ∀ {xs ys zs : List D} {i : Nat} {x y z : D}, xs[i]? = some x → ys[i]? = some y → zs[i]? = some z → (zip3 xs ys zs)[i]? = some (.tup [x, y, z])
  | a :: xs, b :: ys, c :: zs, 0, x, y, z, h1, h2, h3 => by
    cases h1; cases h2; cases h3
    rfl
  | a :: xs, b :: ys, c :: zs, i + 1, x, y, z, h1, h2, h3 => by
    rw [List.getElem?_cons_succ] at h1 h2 h3
    show (_ :: zip3 xs ys zs)[i + 1]? = _
    rw [List.getElem?_cons_succ]
    exact zip3_get h1 h2 h3
  | [], _, _, i, _, _, _, h1, _, _ => by simp at h1
  | _ :: _, [], _, i, _, _, _, _, h2, _ => by simp at h2
  | _ :: _, _ :: _, [], i, _, _, _, _, _, h3 => by simp at h3
theorem yl_zip3 {Hs : Hp} {k l m : Bool} {a b c : Addr} {xs ys zs : List V} {ds es fs : List D} (ha : SqK K k a Hs xs) (hb : SqK K l b Hs ys) (hc : SqK K m c Hs zs) (da : DRs K Hs xs ds) (db : DRs K Hs ys es) (dc : DRs K Hs zs fs) : Yl K (ItZ3 K k l m a b c) (zip3 ds es fs) Hs where
  go := fun i H s hi => by
    rw [zip3_len] at hi
    exact ⟨xs, ys, zs, xs[i]'(by rw [da.len]; omega), ys[i]'(by rw [db.len]; omega), zs[i]'(by rw [dc.len]; omega), same_k s ha, same_k s hb, same_k s hc, by simp, by simp, by simp⟩
  stop := fun i H s hi => by
    rw [zip3_len] at hi
    exact ⟨xs, ys, zs, same_k s ha, same_k s hb, same_k s hc, by rw [da.len, db.len, dc.len]; omega⟩
  yld := fun i x H H' Hs1 _ s s1 y => by
    obtain ⟨T, x1, y1, z1, rfl, hT, rfl, h1, h2, h3⟩ := y
    obtain ⟨d1, e1, r1⟩ := da.ta (h1 xs (same_k (s.trans s1) ha))
    obtain ⟨d2, e2, r2⟩ := db.ta (h2 ys (same_k (s.trans s1) hb))
    obtain ⟨d3, e3, r3⟩ := dc.ta (h3 zs (same_k (s.trans s1) hc))
    have ex : Ext H Hs1 (upd H T (.tup [x1, y1, z1])) (upd Hs1 T (.tup [x1, y1, z1])) := Ext.new s1 hT
    exact ⟨.tup [d1, d2, d3], _, zip3_get e1 e2 e3, ex, .tup (SqT.of upd_same) (.cons (r1.mono (s.trans ex.b)) (.cons (r2.mono (s.trans ex.b)) (.cons (r3.mono (s.trans ex.b)) .nil)))⟩
def xzip3 (a : M (List D)) : M (List D) := fun G => bd (a G) fun xs G1 => match xs with
  | [x, y, z] => match seqD x, seqD y, seqD z with
    | some ds, some es, some fs => some (zip3 ds es fs, G1)
    | _, _, _ => none
  | _ => none
theorem ik_zip3 {ta : TA} {a : M (List D)} (ha : AOk K ta a) : IOk K (iZip3 K ta) (xzip3 a) := fun Fz ba G σ H Hs ds G' q e Q k => by
  obtain ⟨xs, G1, e1, e⟩ := bd_inv e
  refine ha Fz ba G σ H Hs xs _ q e1 _ fun vs H1 Hs1 q1 s1 d => ?_
  split at e
  case h_2 => cases e
  split at e
  case h_2 => cases e
  rename_i h1 h2 h3
  cases e
  cases d with
  | cons d1 d2 =>
    cases d2 with
    | cons d2 d3 =>
      cases d3 with
      | cons d3 d4 =>
        cases d4
        obtain ⟨k1, a1, x1, rfl, l1, r1⟩ := seqD_ok d1 h1
        obtain ⟨k2, a2, x2, rfl, l2, r2⟩ := seqD_ok d2 h2
        obtain ⟨k3, a3, x3, rfl, l3, r3⟩ := seqD_ok d3 h3
        exact ⟨k1, k2, k3, a1, a2, a3, x1, x2, x3, rfl, same_k q1.sub l1, same_k q1.sub l2, same_k q1.sub l3, k _ H1 Hs1 q1 s1 (yl_zip3 l1 l2 l3 r1 r2 r3)⟩
end
end Bk
/-! Bv1: fractions as data, their size, the divisor's loop. -/
namespace Bk
open PySem L2

/-! ### running combinators -/
theorem outF_rt {r : R} {G : Gam} : outF (some (.rt r, G)) = some r := rfl
theorem runF_eq {k n : Nat} {b : MS} {ds : List D} (h : ds.length = k) : runF k n b ds = outF (b (pad n ds)) := if_pos h
theorem run_ok {k n : Nat} {b : MS} {ds : List D} {r : R} {G : Gam} (hl : ds.length = k) (h : b (pad n ds) = some (.rt r, G)) : runF k n b ds = some r := by
  rw [runF_eq hl, h]
  rfl
theorem runB_ok {k n : Nat} {b : MS} {bs bs' : Mob} {ds : List D} {r : R} {G : Gam} (hl : ds.length + 1 = k) (h : b (.bx bs :: pad (n - 1) ds) = some (.rt r, .bx bs' :: G)) : runB k n b bs ds = some (r, bs') := by
  unfold runB
  rw [if_pos hl, h]
  rfl
theorem xseq_nx {s t : MS} {G G1 : Gam} (h : s G = some (.nx, G1)) : xseq s t G = t G1 := by
  unfold xseq
  rw [h]
theorem xseq_rt {s t : MS} {G G1 : Gam} {r : R} (h : s G = some (.rt r, G1)) : xseq s t G = some (.rt r, G1) := by
  unfold xseq
  rw [h]
theorem xset_ok {i : Nat} {a : M R} {G G1 : Gam} {r : R} (h : a G = some (r, G1)) : xset i a G = some (.nx, G1.set i r.ent) := by
  unfold xset
  rw [h]
  rfl
theorem xset_e {i : Nat} {a : M R} {G G1 G2 : Gam} {r : R} (h : a G = some (r, G1)) (e : G1.set i r.ent = G2) : xset i a G = some (.nx, G2) := e ▸ xset_ok h
theorem xret_ok {a : M R} {G G1 : Gam} {r : R} (h : a G = some (r, G1)) : xret a G = some (.rt r, G1) := by
  unfold xret
  rw [h]
  rfl
theorem xcall_ok {m : List D → Option R} {a : M (List D)} {G G1 : Gam} {xs : List D} {r : R} (h : a G = some (xs, G1)) (hm : m xs = some r) : xcall m a G = some (r, G1) := by
  unfold xcall
  rw [h]
  simp only [bd_some, hm]
theorem xcons_ok {a : M R} {b : M (List D)} {G G1 G2 : Gam} {r : R} {xs : List D} (h : a G = some (r, G1)) (hb : b G1 = some (xs, G2)) : xcons a b G = some (r.d :: xs, G2) := by
  unfold xcons
  rw [h]
  simp only [bd_some, hb]
theorem xnil_ok {G : Gam} : xnil G = some ([], G) := rfl
theorem runF_st {k n : Nat} {b : MS} {ds : List D} {o : Option R} (hl : ds.length = k) (h : outF (b (pad n ds)) = o) : runF k n b ds = o := (runF_eq hl).trans h
theorem st_nx {s t : MS} {G G1 : Gam} {o : Option R} (h : s G = some (.nx, G1)) (k : outF (t G1) = o) : outF (xseq s t G) = o := (congrArg outF (xseq_nx h)).trans k
theorem st_ret {a : M R} {G G1 : Gam} {r : R} (h : a G = some (r, G1)) : outF (xret a G) = some r := congrArg outF (xret_ok h)
theorem runB_st {k n : Nat} {b : MS} {bs : Mob} {ds : List D} {o : Option (R × Mob)} (hl : ds.length + 1 = k) (h : outB (b (.bx bs :: pad (n - 1) ds)) = o) : runB k n b bs ds = o := (if_pos hl).trans h
theorem sb_nx {s t : MS} {G G1 : Gam} {o : Option (R × Mob)} (h : s G = some (.nx, G1)) (k : outB (t G1) = o) : outB (xseq s t G) = o := (congrArg outB (xseq_nx h)).trans k
theorem sb_rt {s t : MS} {G G1 : Gam} {r : R} {o : Option (R × Mob)} (h : s G = some (.rt r, G1)) (k : outB (some (.rt r, G1)) = o) : outB (xseq s t G) = o := (congrArg outB (xseq_rt h)).trans k
theorem st_rt {s t : MS} {G G1 : Gam} {r : R} (h : s G = some (.rt r, G1)) : outF (xseq s t G) = some r := congrArg outF (xseq_rt h)
theorem sb_ret {a : M R} {G G1 : Gam} {r : R} {bs' : Mob} (h : a G = some (r, .bx bs' :: G1)) : outB (xret a G) = some (r, bs') := congrArg outB (xret_ok h)
theorem xop_ok {o : D → D → Option R} {a b : M R} {G G1 G2 : Gam} {x y r : R} (ha : a G = some (x, G1)) (hb : b G1 = some (y, G2)) (h : o x.d y.d = some r) : xop o a b G = some (r, G2) := by
  unfold xop
  rw [ha]
  simp only [bd_some, hb, h]
theorem xc1 {a : M R} {b : M (List D)} {G G1 G2 : Gam} {d : D} {xs : List D} (h : a G = some (.im d, G1)) (hb : b G1 = some (xs, G2)) : xcons a b G = some (d :: xs, G2) := xcons_ok h hb
theorem xcw {a : M R} {b : M (List D)} {G G1 G2 : Gam} {ds : List D} {xs : List D} (h : a G = some (.ol ds, G1)) (hb : b G1 = some (xs, G2)) : xcons a b G = some (.lst ds :: xs, G2) := xcons_ok h hb
theorem xo2 {o : D → D → Option R} {a b : M R} {G G1 G2 : Gam} {x y : D} {r : R} (ha : a G = some (.im x, G1)) (hb : b G1 = some (.im y, G2)) (h : o x y = some r) : xop o a b G = some (r, G2) := xop_ok ha hb h
theorem xlst_ok {a : M (List D)} {G G1 : Gam} {xs : List D} (h : a G = some (xs, G1)) (hf : few xs.length = true) : xlst a G = some (.ol xs, G1) := by
  unfold xlst
  rw [h]
  simp only [bd_some, hf]
  rfl
theorem xcallB_ok {m : Mob → List D → Option (R × Mob)} {i : Nat} {a : M (List D)} {G G1 G2 : Gam} {xs : List D} {bs bs' : Mob} {e : Ent} {r : R} (h0 : isMu G i = true) (h : a G = some (xs, G1)) (hi : G1[i]? = some e) (he : e.mu = some bs) (hm : m bs xs = some (r, bs')) (e2 : G1.set i (e.with bs') = G2) : xcallB m i a G = some (r, G2) := by
  unfold xcallB
  rw [if_pos h0, h]
  simp only [bd_some]
  unfold callB
  simp only [hi, he, hm, e2]
theorem xapp_ok {i : Nat} {a : M R} {G G1 G2 : Gam} {r : R} {bs : List D} {e : Ent} (h0 : isLst G i = true) (h : a G = some (r, G1)) (hi : G1[i]? = some e) (he : e.mu = some (.l bs)) (hf : bs.length ≤ 100000) (e2 : G1.set i (e.with (.l (bs ++ [r.d]))) = G2) : xapp i a G = some (.nx, G2) := by
  unfold xapp
  rw [if_pos h0, h]
  simp only [bd_some]
  unfold app
  simp only [hi, he]
  rw [if_pos (show few bs.length = true from decide_eq_true hf), e2]
theorem xif_ok {t : M Bool} {a b : M R} {G G1 : Gam} {k : Bool} (h : t G = some (k, G1)) : xif t a b G = if k then a G1 else b G1 := by
  unfold xif
  rw [h]
  rfl
theorem xvand_t {a b : M R} {G G1 : Gam} {o : Option (R × Gam)} (h : a G = some (.im (.bl true), G1)) (h2 : b G1 = o) : xvand a b G = o := by
  unfold xvand
  rw [h]
  exact h2
theorem xvand_f {a b : M R} {G G1 : Gam} (h : a G = some (.im (.bl false), G1)) : xvand a b G = some (.im (.bl false), G1) := by
  unfold xvand
  rw [h]
  rfl
theorem xtest_ok {a : M R} {G G1 : Gam} {k : Bool} (h : a G = some (.im (.bl k), G1)) : xtest a G = some (k, G1) := by
  unfold xtest
  rw [h]
  rfl
theorem atI_ok {α : Type} {xs : List α} {i : Int} (h : 0 ≤ i) (h1 : i < xs.length) : ∃ x, atI xs i = some x ∧ x ∈ xs := by
  have h2 : i.toNat < xs.length := by omega
  refine ⟨xs[i.toNat], ?_, List.getElem_mem h2⟩
  unfold atI ixN
  rw [if_pos h, if_pos h1]
  exact List.getElem?_eq_getElem h2
theorem xcb_ok {o : List D → Option R} {a : M (List D)} {G G1 : Gam} {xs : List D} {r : R} (h : a G = some (xs, G1)) (ho : o xs = some r) : xcb o a G = some (r, G1) := by
  unfold xcb
  rw [h]
  simp only [bd_some, ho]
theorem xtup_ok {a : M (List D)} {G G1 : Gam} {xs : List D} (h : a G = some (xs, G1)) (hf : few xs.length = true) : xtup a G = some (.im (.tup xs), G1) := by
  unfold xtup
  rw [h]
  simp only [bd_some, hf]
  rfl
theorem xifs_ok {t : M Bool} {a b : MS} {G G1 : Gam} {k : Bool} (h : t G = some (k, G1)) : xifs t a b G = if k then a G1 else b G1 := by
  unfold xifs
  rw [h]
  rfl
theorem xforL_nx {tg : D → Gam → Option Gam} {b : MS} {d : D} {ds : List D} {G G1 G2 : Gam} (h1 : tg d G = some G1) (h2 : b G1 = some (.nx, G2)) : xforL tg b (d :: ds) G = xforL tg b ds G2 := by
  conv => lhs; unfold xforL
  rw [h1]
  simp only [h2]
/-- a loop whose turns keep a word -/
theorem xforL_inv {tg : D → Gam → Option Gam} {b : MS} (Inv : Gam → Prop) : ∀ {ds : List D} {G : Gam}, Inv G → (∀ d ∈ ds, ∀ G, Inv G → ∃ G1 G2, tg d G = some G1 ∧ (b G1 = some (.nx, G2) ∨ b G1 = some (.ct, G2)) ∧ Inv G2) →
    ∃ G', xforL tg b ds G = some (.nx, G') ∧ Inv G'
  | [], G, h, _ => ⟨G, rfl, h⟩
  | d :: ds, G, h, step => by
    obtain ⟨G1, G2, h1, h2, h3⟩ := step d List.mem_cons_self G h
    obtain ⟨G', h4, h5⟩ := xforL_inv Inv h3 fun e he => step e (List.mem_cons_of_mem _ he)
    refine ⟨G', ?_, h5⟩
    unfold xforL
    rw [h1]
    rcases h2 with h2 | h2
    · simp only [h2]; exact h4
    · simp only [h2]; exact h4
/-- a loop that reckons: the turn with each item -/
theorem xforL_fold {α : Type} {tg : D → Gam → Option Gam} {b : MS} (St : α → Gam → Prop) (f : α → D → α) : ∀ {ds : List D} {a : α} {G : Gam}, St a G → (∀ d ∈ ds, ∀ a G, St a G → ∃ G1 G2, tg d G = some G1 ∧ b G1 = some (.nx, G2) ∧ St (f a d) G2) →
    ∃ G', xforL tg b ds G = some (.nx, G') ∧ St (ds.foldl f a) G'
  | [], a, G, h, _ => ⟨G, rfl, h⟩
  | d :: ds, a, G, h, step => by
    obtain ⟨G1, G2, h1, h2, h3⟩ := step d List.mem_cons_self a G h
    obtain ⟨G', h4, h5⟩ := xforL_fold St f h3 fun e he => step e (List.mem_cons_of_mem _ he)
    refine ⟨G', ?_, h5⟩
    unfold xforL
    rw [h1]
    simp only [h2]
    exact h4
/-- a loop with a count -/
theorem xforL_cnt {tg : D → Gam → Option Gam} {b : MS} (St : Nat → Gam → Prop) (N : Nat) : ∀ {ds : List D} {n : Nat} {G : Gam}, St n G → (∀ d ∈ ds, ∀ n G, n < N → St n G → ∃ G1 G2, tg d G = some G1 ∧ b G1 = some (.nx, G2) ∧ St (n + 1) G2) → n + ds.length ≤ N →
    ∃ G', xforL tg b ds G = some (.nx, G') ∧ St (n + ds.length) G'
  | [], n, G, h, _, _ => ⟨G, rfl, h⟩
  | d :: ds, n, G, h, step, hn => by
    rw [List.length_cons] at hn
    obtain ⟨G1, G2, h1, h2, h3⟩ := step d List.mem_cons_self n G (by omega) h
    obtain ⟨G', h4, h5⟩ := xforL_cnt St N h3 (fun e he => step e (List.mem_cons_of_mem _ he)) (by omega)
    refine ⟨G', (xforL_nx h1 h2).trans h4, ?_⟩
    rw [List.length_cons]
    have : n + (ds.length + 1) = n + 1 + ds.length := by omega
    rw [this]
    exact h5
/-- a comprehension without a test, whose turns change nothing else -/
theorem xlcL_map {tg : D → Gam → Option Gam} {e : M R} {vs : List Nat} {G : Gam} (f : D → D) : ∀ {ds : List D}, (∀ d ∈ ds, ∃ G1 r G2, tg d G = some G1 ∧ e G1 = some (r, G2) ∧ r.d = f d ∧ wipeG G2 vs = G) → xlcL tg xtyes e vs ds G = some (ds.map f, G)
  | [], _ => rfl
  | d :: ds, h => by
    obtain ⟨G1, r, G2, h1, h2, h3, h4⟩ := h d List.mem_cons_self
    unfold xlcL
    rw [h1]
    simp only [xtyes, bd_some, h2, h4]
    rw [if_pos True.intro, xlcL_map f fun e he => h e (List.mem_cons_of_mem _ he)]
    simp only [bd_some, h3, List.map_cons]
/-- a comprehension without a test, whose first turn may settle the names -/
theorem xlcL_map2 {tg : D → Gam → Option Gam} {e : M R} {vs : List Nat} {G0 G : Gam} (f : D → D) {ds : List D} (h0 : ∀ d ∈ ds, ∃ G1 r G2, tg d G0 = some G1 ∧ e G1 = some (r, G2) ∧ r.d = f d ∧ wipeG G2 vs = G)
    (h : ∀ d ∈ ds, ∃ G1 r G2, tg d G = some G1 ∧ e G1 = some (r, G2) ∧ r.d = f d ∧ wipeG G2 vs = G) : ∃ G', (G' = G0 ∨ G' = G) ∧ xlcL tg xtyes e vs ds G0 = some (ds.map f, G') := by
  cases ds with
  | nil => exact ⟨G0, .inl rfl, rfl⟩
  | cons d ds =>
    obtain ⟨G1, r, G2, h1, h2, h3, h4⟩ := h0 d List.mem_cons_self
    refine ⟨G, .inr rfl, ?_⟩
    unfold xlcL
    rw [h1]
    simp only [xtyes, bd_some, h2, h4]
    rw [if_pos True.intro, xlcL_map f fun e he => h e (List.mem_cons_of_mem _ he)]
    simp only [bd_some, h3, List.map_cons]
theorem rng_mem {lo : Int} {n : Nat} {d : D} (h : d ∈ rng lo n) : ∃ i : Nat, i < n ∧ d = .int (lo + (i : Int)) := by
  obtain ⟨i, hi, rfl⟩ := List.mem_map.mp h
  exact ⟨i, List.mem_range.mp hi, rfl⟩
theorem rng_ln {lo : Int} {n : Nat} : (rng lo n).length = n := by simp [rng]
theorem okR_of {m : Int} (h : -1000000 < m) (h1 : m < 1000000) : okR m = true := by
  unfold okR
  rw [Bool.and_eq_true]
  exact ⟨decide_eq_true (by omega), decide_eq_true (by omega)⟩
theorem xlc_ok {it : M (List D)} {tg : D → Gam → Option Gam} {t : M Bool} {e : M R} {vs : List Nat} {G G1 G2 : Gam} {ds out : List D} (h1 : it G = some (ds, G1)) (h2 : noMu G1 vs = true) (h3 : xlcL tg t e vs ds (wipeG G1 vs) = some (out, G2)) (h4 : few out.length = true) :
    xlc it tg t e vs G = some (.ol out, unw G1 G2 vs) := by
  unfold xlc
  rw [h1]
  simp only [bd_some]
  rw [if_pos h2, h3]
  simp only [bd_some, h4]
  rfl

theorem o_mul {i j : Int} (h : okMul i j = true) : opMul (.int i) (.int j) = some (.im (.int (i * j))) := if_pos h
theorem o_div {i j : Int} (h : okDiv j = true) : opFdiv (.int i) (.int j) = some (.im (.int (i.fdiv j))) := if_pos h
theorem o_mod {i j : Int} (h : j ≠ 0) : opMod (.int i) (.int j) = some (.im (.int (i.fmod j))) := if_pos (decide_eq_true h)
theorem o_pow {i j : Int} (h : okPow i j = true) : opPow (.int i) (.int j) = some (.im (.int (i ^ j.toNat))) := if_pos h
/-! ### sizes -/
def Sm (i : Int) (k : Nat) : Prop := i.natAbs < 2 ^ k
theorem Sm.up {i : Int} {k l : Nat} (h : Sm i k) (hk : k ≤ l) : Sm i l := Nat.lt_of_lt_of_le h (Nat.pow_le_pow_right (by decide) hk)
theorem Sm.mul {i j : Int} {k l : Nat} (h : Sm i k) (h' : Sm j l) : Sm (i * j) (k + l) := by
  unfold Sm
  rw [Int.natAbs_mul, Nat.pow_add]
  exact Nat.mul_lt_mul'' h h'
theorem Sm.add {i j : Int} {k : Nat} (h : Sm i k) (h' : Sm j k) : Sm (i + j) (k + 1) := by
  unfold Sm at *
  rw [Nat.pow_succ]
  have := Int.natAbs_add_le i j
  omega
theorem Sm.sub {i j : Int} {k : Nat} (h : Sm i k) (h' : Sm j k) : Sm (i - j) (k + 1) := by
  unfold Sm at *
  rw [Nat.pow_succ]
  have := Int.natAbs_sub_le i j
  omega
theorem Sm.log {i : Int} {k : Nat} (h : Sm i k) (hk : 0 < k) : i.natAbs.log2 < k := by
  by_cases z : i.natAbs = 0
  · rw [z]; exact hk
  · exact (Nat.log2_lt z).mpr h
theorem Sm.okMul {i j : Int} {k l : Nat} (h : Sm i k) (h' : Sm j l) (hk : k + l ≤ 900000) : okMul i j = true := by
  have h1 := (h.up (Nat.le_succ k)).log (Nat.succ_pos k)
  have h2 := (h'.up (Nat.le_succ l)).log (Nat.succ_pos l)
  unfold Bk.okMul
  exact decide_eq_true (by omega)
theorem Sm.okDiv {i : Int} {k : Nat} (h : Sm i k) (h0 : i ≠ 0) (hk : k < 9000) : okDiv i = true := by
  have h1 := (h.up (Nat.le_succ k)).log (Nat.succ_pos k)
  unfold Bk.okDiv
  rw [Bool.and_eq_true]
  exact ⟨decide_eq_true h0, decide_eq_true (by omega)⟩

/-! ### the divisor's loop -/
theorem div_loop (c : M Bool) (b : MS) (hc : ∀ x y : Nat, c [.im (.int x), .im (.int y)] = some (!decide ((y : Int) = 0), [.im (.int x), .im (.int y)]))
    (hb : ∀ x y : Nat, 0 < y → b [.im (.int x), .im (.int y)] = some (.nx, [.im (.int y), .im (.int ((x % y : Nat) : Int))])) :
    ∀ (n x y : Nat), y < n → xwhileN c b n [.im (.int x), .im (.int y)] = some (.nx, [.im (.int (Nat.gcd x y : Nat)), .im (.int 0)])
  | 0, _, _, h => absurd h (Nat.not_lt_zero _)
  | n + 1, x, y, h => by
    unfold xwhileN
    rw [hc]
    simp only [bd_some]
    by_cases z : y = 0
    · subst z
      simp
    · have z' : ¬ (y : Int) = 0 := by omega
      rw [decide_eq_false z']
      rw [hb x y (by omega)]
      simp only [Bool.not_false, if_true]
      have hl : x % y < y := Nat.mod_lt _ (by omega)
      rw [div_loop c b hc hb n y (x % y) (by omega), Nat.gcd_comm x y, Nat.gcd_rec y x, Nat.gcd_comm]
theorem abs_nat (i : Int) : (if i < 0 then -i else i) = (i.natAbs : Int) := by
  split <;> omega
theorem fmod_nat (x y : Nat) : (x : Int).fmod (y : Int) = ((x % y : Nat) : Int) := by
  rw [Int.fmod_eq_emod_of_nonneg _ (Int.natCast_nonneg y)]
  rfl

/-! ### fractions -/
def vq (q : Rat) : D := .tup [.int q.num, .int (q.den : Int)]
/-- numerator and denominator -/
def Ht (q : Rat) (k : Nat) : Prop := Sm q.num k ∧ Sm (q.den : Int) k
theorem Ht.up {q : Rat} {k l : Nat} (h : Ht q k) (hk : k ≤ l) : Ht q l := ⟨h.1.up hk, h.2.up hk⟩
theorem sm_div {n g : Int} {k : Nat} (h : Sm n k) : Sm (n / g) k ∨ True := .inr trivial
theorem natAbs_ediv_le {n g : Int} (hd : g ∣ n) : (n / g).natAbs ≤ n.natAbs := by
  obtain ⟨c, rfl⟩ := hd
  by_cases z : g = 0
  · subst z; simp
  · rw [Int.mul_ediv_cancel_left c z, Int.natAbs_mul]
    exact Nat.le_mul_of_pos_left _ (by omega)
theorem ht_divInt {n d : Int} {k : Nat} (hd : d ≠ 0) (hn : Sm n k) (hk : Sm d k) : Ht (Rat.divInt n d) k := by
  constructor
  · rw [Rat.num_divInt]
    refine Nat.lt_of_le_of_lt (natAbs_ediv_le ?_) ?_
    · exact Int.dvd_trans (Int.gcd_dvd_right d n) (Int.dvd_mul_left _ _)
    · rw [Int.natAbs_mul]
      have : d.sign.natAbs = 1 := by
        rcases Int.lt_or_gt_of_ne hd with h | h
        · rw [Int.sign_eq_neg_one_of_neg h]; rfl
        · rw [Int.sign_eq_one_of_pos h]; rfl
      rw [this, Nat.one_mul]
      exact hn
  · rw [Rat.den_divInt, if_neg hd]
    unfold Sm at *
    rw [Int.natAbs_natCast]
    exact Nat.lt_of_le_of_lt (Nat.div_le_self _ _) hk
/-- what lowest reckons -/
theorem low_num {n d : Int} (hd : d ≠ 0) : n.fdiv (if d < 0 then -((Nat.gcd n.natAbs d.natAbs : Nat) : Int) else ((Nat.gcd n.natAbs d.natAbs : Nat) : Int)) = (Rat.divInt n d).num := by
  have e : (Nat.gcd n.natAbs d.natAbs) = d.gcd n := by rw [Nat.gcd_comm]; rfl
  have hdv : ((d.gcd n : Nat) : Int) ∣ n := Int.gcd_dvd_right d n
  rw [Rat.num_divInt, e]
  split
  · rename_i h
    rw [Int.fdiv_eq_ediv_of_dvd (Int.neg_dvd.mpr hdv), Int.sign_eq_neg_one_of_neg h, Int.ediv_neg, Int.neg_mul, Int.one_mul, Int.neg_ediv_of_dvd hdv]
  · rename_i h
    have h : 0 < d := by omega
    rw [Int.fdiv_eq_ediv_of_dvd hdv, Int.sign_eq_one_of_pos h, Int.one_mul]
theorem low_den {n d : Int} (hd : d ≠ 0) : d.fdiv (if d < 0 then -((Nat.gcd n.natAbs d.natAbs : Nat) : Int) else ((Nat.gcd n.natAbs d.natAbs : Nat) : Int)) = ((Rat.divInt n d).den : Int) := by
  have e : (Nat.gcd n.natAbs d.natAbs) = d.gcd n := by rw [Nat.gcd_comm]; rfl
  have hdv : ((d.gcd n : Nat) : Int) ∣ d := Int.gcd_dvd_left d n
  rw [Rat.den_divInt, if_neg hd, e, Int.natCast_ediv]
  split
  · rename_i h
    rw [Int.fdiv_eq_ediv_of_dvd (Int.neg_dvd.mpr hdv), Int.ediv_neg, ← Int.neg_ediv_of_dvd hdv]
    congr 1
    omega
  · rename_i h
    rw [Int.fdiv_eq_ediv_of_dvd hdv]
    congr 1
    omega
theorem divInt_self (q : Rat) : Rat.divInt q.num (q.den : Int) = q := by
  rw [Rat.divInt_ofNat]
  exact Rat.mkRat_self q
theorem den_ne (q : Rat) : (q.den : Int) ≠ 0 := by
  have := q.den_nz
  omega
theorem add_divInt (a b : Rat) : Rat.divInt (a.num * b.den + b.num * a.den) (a.den * b.den) = a + b := by
  rw [← Rat.divInt_add_divInt _ _ (den_ne a) (den_ne b), divInt_self, divInt_self]
theorem mul_divInt (a b : Rat) : Rat.divInt (a.num * b.num) (a.den * b.den) = a * b := by
  rw [← Rat.divInt_mul_divInt, divInt_self, divInt_self]
theorem sub_divInt (a b : Rat) : Rat.divInt (a.num * b.den - b.num * a.den) (a.den * b.den) = a - b := by
  rw [← Rat.divInt_sub_divInt _ _ (den_ne a) (den_ne b), divInt_self, divInt_self]
theorem Ht.mul {a b : Rat} {k l : Nat} (h : Ht a k) (h' : Ht b l) : Ht (a * b) (k + l) := by
  rw [← mul_divInt]
  exact ht_divInt (Int.mul_ne_zero (den_ne a) (den_ne b)) (h.1.mul h'.1) (h.2.mul h'.2)
theorem Ht.add {a b : Rat} {k l : Nat} (h : Ht a k) (h' : Ht b l) : Ht (a + b) (k + l + 1) := by
  rw [← add_divInt]
  have h1 := h.1.mul h'.2
  have h2 := h'.1.mul h.2
  rw [Nat.add_comm l k] at h2
  exact ht_divInt (Int.mul_ne_zero (den_ne a) (den_ne b)) (h1.add h2) ((h.2.mul h'.2).up (Nat.le_succ _))
theorem Ht.sub {a b : Rat} {k l : Nat} (h : Ht a k) (h' : Ht b l) : Ht (a - b) (k + l + 1) := by
  rw [← sub_divInt]
  have h1 := h.1.mul h'.2
  have h2 := h'.1.mul h.2
  rw [Nat.add_comm l k] at h2
  exact ht_divInt (Int.mul_ne_zero (den_ne a) (den_ne b)) (h1.sub h2) ((h.2.mul h'.2).up (Nat.le_succ _))
theorem Ht.int {i : Int} {k : Nat} (h : Sm i k) (hk : 0 < k) : Ht (i : Rat) k := ⟨h, by
  show (1 : Int).natAbs < 2 ^ k
  exact Nat.one_lt_two_pow (by omega)⟩
/-- a number or a pair -/
def IsV (d : D) (q : Rat) : Prop := (∃ i : Int, d = .int i ∧ q = (i : Rat)) ∨ d = vq q
end Bk
/-! Bv2: rows of values. -/
namespace Bk
open PySem L2
theorem xfor_ok {it : M (List D)} {tg : D → Gam → Option Gam} {b : MS} {G G1 : Gam} {ds : List D} {o : Option (Fl × Gam)} (h : it G = some (ds, G1)) (h2 : xforL tg b ds G1 = o) : xfor it tg b G = o := by
  unfold xfor
  rw [h]
  exact h2
theorem xseqI_ok {a : M R} {G G1 : Gam} {d : D} {ds : List D} (h : a G = some (.im d, G1)) (hd : seqD d = some ds) : xseqI a G = some (ds, G1) := by
  unfold xseqI
  rw [h]
  simp only [bd_some, R.d, hd]
theorem xzip_ok {a : M (List D)} {G G1 : Gam} {x y : D} {ds es : List D} (h : a G = some ([x, y], G1)) (h1 : seqD x = some ds) (h2 : seqD y = some es) : xzipA a G = some ((ds.zip es).map fun p => .tup [p.1, p.2], G1) := by
  unfold xzipA
  rw [h]
  simp only [bd_some, h1, h2]
theorem xrange1_ok {a : M (List D)} {G G1 : Gam} {n : Int} (h : a G = some ([.int n], G1)) (h1 : okR n = true) : xrange1 a G = some (rng 0 n.toNat, G1) := by
  unfold xrange1
  rw [h]
  simp only [bd_some]
  rw [if_pos h1]
theorem xrange2_ok {a : M (List D)} {G G1 : Gam} {l n : Int} (h : a G = some ([.int l, .int n], G1)) (h1 : okR l = true) (h2 : okR n = true) : xrange2 a G = some (rng l (n - l).toNat, G1) := by
  unfold xrange2
  rw [h]
  simp only [bd_some]
  rw [if_pos (by rw [h1, h2]; rfl)]
def valQ : D → Rat
  | .int i => (i : Rat)
  | .tup [.int n, .int d] => Rat.divInt n d
  | _ => 0
theorem valQ_vq (q : Rat) : valQ (vq q) = q := divInt_self q
theorem valQ_int (i : Int) : valQ (.int i) = (i : Rat) := rfl
def IsV1 (d : D) : Prop := (∃ i, d = .int i) ∨ ∃ q, d = vq q
theorem IsV1.isV {d : D} (h : IsV1 d) : IsV d (valQ d) := by
  rcases h with ⟨i, rfl⟩ | ⟨q, rfl⟩
  · exact .inl ⟨i, rfl, rfl⟩
  · rw [valQ_vq]; exact .inr rfl
def sumQ (qs : List Rat) : Rat := qs.foldl (· + ·) 0
def dotQ (as bs : List D) : Rat := sumQ ((as.zip bs).map fun p => valQ p.1 * valQ p.2)
theorem ht0 : Ht 0 1 := by
  constructor
  · show (0 : Int).natAbs < 2 ^ 1; decide
  · show (1 : Int).natAbs < 2 ^ 1; decide
theorem foldl_ht {k : Nat} : ∀ (qs : List Rat) (a : Rat) (l : Nat), Ht a l → (∀ q ∈ qs, Ht q k) → Ht (qs.foldl (· + ·) a) (l + qs.length * (k + 1))
  | [], a, l, h, _ => by simpa using h
  | q :: qs, a, l, h, hq => by
    have h1 := foldl_ht qs (a + q) (l + k + 1) (h.add (hq q List.mem_cons_self)) fun r hr => hq r (List.mem_cons_of_mem _ hr)
    rw [List.foldl_cons]
    refine h1.up ?_
    rw [List.length_cons, Nat.add_mul]
    omega
theorem sumQ_ht {k : Nat} {qs : List Rat} (hq : ∀ q ∈ qs, Ht q k) : Ht (sumQ qs) (1 + qs.length * (k + 1)) := foldl_ht qs 0 1 ht0 hq
abbrev AddOk (m : List D → Option R) : Prop := ∀ (a b : Rat) (k l : Nat), Ht a k → Ht b l → k + l < 8990 → m [vq a, vq b] = some (.im (vq (a + b)))
theorem sum_loop {m : List D → Option R} (hm : AddOk m) {x0 : Ent} {k : Nat} : ∀ (qs : List Rat) (a : Rat) (l : Nat) (e : Ent), Ht a l → (∀ q ∈ qs, Ht q k) → l + qs.length * (k + 1) + k < 8990 →
    ∃ e', xforL (tgn 2) (xset 1 (xcall m (xcons (xv 1) (xcons (xv 2) xnil)))) (qs.map vq) [x0, .im (vq a), e] = some (.nx, [x0, .im (vq (qs.foldl (· + ·) a)), e'])
  | [], a, l, e, _, _, _ => ⟨e, rfl⟩
  | q :: qs, a, l, e, h, hq, h9 => by
    have hq0 := hq q List.mem_cons_self
    rw [List.length_cons, Nat.add_mul] at h9
    obtain ⟨e', h1⟩ := sum_loop hm qs (a + q) (l + k + 1) (.im (vq q)) (h.add hq0) (fun r hr => hq r (List.mem_cons_of_mem _ hr)) (by omega)
    refine ⟨e', ?_⟩
    rw [List.map_cons, List.foldl_cons, ← h1]
    exact xforL_nx rfl (xset_e (xcall_ok (xc1 rfl (xc1 rfl xnil_ok)) (hm a q l k h hq0 (by omega))) rfl)
/-- two rows, item by item, a value made of each two -/
def f2 (g : Rat → Rat → Rat) : D → D
  | .tup [x, y] => vq (g (valQ x) (valQ y))
  | d => d
theorem zip_f2 (g : Rat → Rat → Rat) (as bs : List D) : ((as.zip bs).map fun p => D.tup [p.1, p.2]).map (f2 g) = ((as.zip bs).map fun p => g (valQ p.1) (valQ p.2)).map vq := by
  rw [List.map_map, List.map_map]
  rfl
theorem zip_val (as bs : List D) : ((as.map fun x => vq (valQ x)).zip (bs.map fun x => vq (valQ x))).map (fun p => valQ p.1 * valQ p.2) = (as.zip bs).map fun p => valQ p.1 * valQ p.2 := by
  rw [List.zip_map, List.map_map]
  apply List.map_congr_left
  intro p _
  show valQ (vq (valQ p.1)) * valQ (vq (valQ p.2)) = _
  rw [valQ_vq, valQ_vq]
theorem zip_len (as bs : List D) : ((as.zip bs).map fun p => valQ p.1 * valQ p.2).length ≤ as.length := by
  rw [List.length_map, List.length_zip]
  omega
theorem dot_ht {as bs : List D} {k l : Nat} (ha : ∀ a ∈ as, Ht (valQ a) k) (hb : ∀ b ∈ bs, Ht (valQ b) l) : ∀ q ∈ (as.zip bs).map (fun p => valQ p.1 * valQ p.2), Ht q (k + l) := fun q hq => by
  obtain ⟨p, hp, rfl⟩ := List.mem_map.mp hq
  obtain ⟨h1, h2⟩ := List.of_mem_zip hp
  exact (ha _ h1).mul (hb _ h2)
theorem few_le {n : Nat} (h : n ≤ 100000) : few n = true := decide_eq_true h
def isVb : D → Bool
  | .int _ => true
  | .tup [.int n, .int d] => decide (0 < d) && decide (Nat.gcd n.natAbs d.natAbs = 1)
  | _ => false
theorem isVb_ok {d : D} (h : isVb d = true) : IsV1 d := by
  unfold isVb at h
  split at h
  · exact .inl ⟨_, rfl⟩
  · rename_i n k
    rw [Bool.and_eq_true] at h
    have h1 := of_decide_eq_true h.1
    have h2 := of_decide_eq_true h.2
    refine .inr ⟨⟨n, k.toNat, by omega, ?_⟩, ?_⟩
    · have : k.toNat = k.natAbs := by omega
      rw [this]; exact h2
    · show D.tup [.int n, .int k] = .tup [.int n, .int ((k.toNat : Nat) : Int)]
      rw [Int.toNat_of_nonneg (by omega)]
  · cases h
def smb (k : Nat) (d : D) : Bool := decide ((valQ d).num.natAbs < 2 ^ k) && decide (((valQ d).den : Int).natAbs < 2 ^ k)
theorem smb_ok {k : Nat} {d : D} (h : smb k d = true) : Ht (valQ d) k := by
  unfold smb at h
  rw [Bool.and_eq_true] at h
  exact ⟨by simpa [Sm] using h.1, by simpa [Sm] using h.2⟩

/-! ### the shown text of a row of values -/
def pyq (q : Rat) : PyData := .tuple [.int q.num, .int (q.den : Int)]
theorem toPys_vq : ∀ qs : List Rat, toPys (qs.map vq) = some (qs.map pyq)
  | [] => rfl
  | q :: qs => by
    rw [List.map_cons, toPys, toPys_vq qs]
    rfl
theorem leaf_short {i : Int} {k : Nat} (h : Sm i k) (hk : 0 < k) : PyData.leavesShort (k + 1) (.int i) = true := by
  have := int_text_length_le hk (h.log hk)
  rw [PyData.leavesShort]
  refine decide_eq_true ?_
  show (Str.ofString (toString i)).length ≤ k + 1
  rw [ofString_length]
  exact this
theorem weight_int {i : Int} {k : Nat} (h : Sm i k) (hk : 0 < k) : PyData.weight (.int i) ≤ k := by
  have := h.log hk
  rw [PyData.weight]
  split <;> omega
theorem pyq_ok {k : Nat} (hk : 8 ≤ k) (h9 : k < 1900) : ∀ {qs : List Rat}, (∀ q ∈ qs, Ht q k) → PyData.leavesShortAll (k + 1) (qs.map pyq) = true ∧ PyData.weightAll (qs.map pyq) ≤ qs.length * (2 * k + 3) ∧ PyData.showableAll (qs.map pyq) = true ∧ PyData.depthAll (qs.map pyq) ≤ 1 ∧ PyData.hasDictAll (qs.map pyq) = false ∧ PyData.canLayAll0 (qs.map pyq) = true
  | [], _ => ⟨rfl, by simp [PyData.weightAll], rfl, by simp [PyData.depthAll], rfl, rfl⟩
  | q :: qs, h => by
    obtain ⟨h1, h2, h3, h4, h5, h6⟩ := pyq_ok hk h9 fun r hr => h r (List.mem_cons_of_mem _ hr)
    have hq := h q List.mem_cons_self
    have a1 := leaf_short hq.1 (by omega)
    have a2 := leaf_short hq.2 (by omega)
    have b1 := weight_int hq.1 (by omega)
    have b2 := weight_int hq.2 (by omega)
    have c1 := hq.1.log (by omega)
    have c2 := hq.2.log (by omega)
    refine ⟨?_, ?_, ?_, ?_, ?_, ?_⟩
    · simp [pyq, PyData.leavesShortAll, PyData.leavesShort, h1] at a1 a2 ⊢
      exact ⟨a1, a2⟩
    · rw [List.map_cons, List.length_cons, Nat.add_mul]
      simp only [pyq, PyData.weightAll]
      rw [PyData.weight]
      simp only [PyData.weightAll]
      omega
    · simp [pyq, PyData.showableAll, PyData.showable, h3] at c1 c2 ⊢
      omega
    · simp only [List.map_cons, pyq, PyData.depthAll, PyData.depth]
      omega
    · simp [pyq, PyData.hasDictAll, PyData.hasDict, h5]
    · simp [pyq, PyData.canLayAll0, PyData.canLay0, h6]
theorem show_qs {k : Nat} (hk : 8 ≤ k) (h9 : k < 1900) {qs : List Rat} (h : ∀ q ∈ qs, Ht q k) (hw : (k + 3) * (qs.length * (2 * k + 3) + 1) + k + 1 ≤ 16777216) : okShow (.tuple (qs.map pyq)) = true := by
  obtain ⟨h1, h2, h3, h4, h5, h6⟩ := pyq_ok hk h9 h
  have hl := PyData.shown_le (k + 1) (by omega) (.tuple (qs.map pyq)) (by rw [PyData.leavesShort]; exact h1)
  rw [PyData.weight] at hl
  have hm : (k + 1 + 2) * PyData.weightAll (qs.map pyq) ≤ (k + 3) * (qs.length * (2 * k + 3) + 1) := Nat.mul_le_mul (Nat.le_refl _) (by omega)
  unfold okShow
  rw [Bool.and_eq_true, Bool.and_eq_true, Bool.and_eq_true]
  refine ⟨⟨⟨?_, decide_eq_true ?_⟩, decide_eq_true ?_⟩, decide_eq_true ?_⟩
  · rw [PyData.showable]; exact h3
  · rw [PyData.depth]; omega
  · rw [PyData.hasDict]; exact h5
  · show _ ≤ 16777216
    omega
theorem eq_qs {k : Nat} (hk : 8 ≤ k) (h9 : k < 1900) {qs : List Rat} (h : ∀ q ∈ qs, Ht q k) : eqD (.tup (qs.map vq)) (.tup (qs.map vq)) = some true := by
  obtain ⟨h1, h2, h3, h4, h5, h6⟩ := pyq_ok hk h9 h
  have e : toPy (.tup (qs.map vq)) = some (.tuple (qs.map pyq)) := by
    rw [toPy, toPys_vq]
    rfl
  have s : SeqAt.shaped (.tuple (qs.map pyq)) = true := by
    unfold SeqAt.shaped
    rw [Bool.and_eq_true]
    refine ⟨by rw [PyData.canLay0]; exact h6, decide_eq_true ?_⟩
    rw [PyData.depth]
    omega
  unfold eqD
  simp only [e, s, Bool.and_self, if_true]
  rw [SeqAt.eqv_refl _ (SeqAt.canLay_of_shaped s)]
theorem repr_qs {k : Nat} (hk : 8 ≤ k) (h9 : k < 1900) {qs : List Rat} (h : ∀ q ∈ qs, Ht q k) (hw : (k + 3) * (qs.length * (2 * k + 3) + 1) + k + 1 ≤ 16777216) : cbRepr [.tup (qs.map vq)] = some (.im (.str (PyData.shown (.tuple (qs.map pyq))))) := by
  have e : toPy (.tup (qs.map vq)) = some (.tuple (qs.map pyq)) := by
    rw [toPy, toPys_vq]
    rfl
  unfold cbRepr
  simp only [e]
  rw [if_pos (show_qs hk h9 h hw)]
theorem eq_str (x : PySem.Str) : opNe (.str x) (.str x) = some (.im (.bl false)) := by
  unfold opNe eqD
  simp
/-! ### draws -/
def Bx (bs : Mob) : Prop := ∃ g r : Int, bs = .l [.int g, .int r] ∧ 0 ≤ r ∧ r < 4294967296
theorem fmod_lt (a : Int) {b : Int} (h : 0 < b) : 0 ≤ a.fmod b ∧ a.fmod b < b := ⟨Int.fmod_nonneg_of_pos a h, Int.fmod_lt_of_pos a h⟩
theorem sm_of {i : Int} (k : Nat) (h : i.natAbs < 2 ^ k) : Sm i k := h
def Ln (k : Nat) (out : List D) : Prop := ∀ x ∈ out, IsV1 x ∧ Ht (valQ x) k
theorem Ln.nil {k : Nat} : Ln k [] := fun _ h => nomatch h
theorem Ln.push {k : Nat} {out : List D} {d : D} (h : Ln k out) (hd : IsV1 d ∧ Ht (valQ d) k) : Ln k (out ++ [d]) := fun x hx => by
  rcases List.mem_append.mp hx with h1 | h1
  · exact h x h1
  · rw [List.mem_singleton.mp h1]; exact hd
theorem Ln.len {k : Nat} {ds : List D} (h : Ln k ds) : ∀ x ∈ ds, IsV1 x := fun x hx => (h x hx).1
end Bk
/-! Vb3: more combinators run; quotients; tests. -/
namespace Bk
open PySem L2
theorem ycons_ok {a : M R} {b : M (List R)} {G G1 G2 : Gam} {r : R} {xs : List R} (h : a G = some (r, G1)) (hb : b G1 = some (xs, G2)) : ycons a b G = some (r :: xs, G2) := by
  unfold ycons
  rw [h]
  simp only [bd_some, hb]
theorem ynil_ok {G : Gam} : ynil G = some ([], G) := rfl
theorem ypar_ok {i j : Nat} {a : M (List R)} {G G1 : Gam} {x y : R} (h : a G = some ([x, y], G1)) : ypar i j a G = some (.nx, (G1.set i x.ent).set j y.ent) := by
  unfold ypar
  rw [h]
  rfl
theorem xvor_t {a b : M R} {G G1 : Gam} (h : a G = some (.im (.bl true), G1)) : xvor a b G = some (.im (.bl true), G1) := by
  unfold xvor
  rw [h]
  rfl
theorem xvor_f {a b : M R} {G G1 : Gam} (h : a G = some (.im (.bl false), G1)) : xvor a b G = b G1 := by
  unfold xvor
  rw [h]
  rfl
theorem xvnot_ok {a : M R} {G G1 : Gam} {k : Bool} (h : a G = some (.im (.bl k), G1)) : xvnot a G = some (.im (.bl (!k)), G1) := by
  unfold xvnot
  rw [h]
  rfl
theorem xtru_ok {a : M R} {G G1 : Gam} {k : Bool} {x : R} (h : a G = some (x, G1)) (ht : truth x.d = some k) : xtru a G = some (k, G1) := by
  unfold xtru
  rw [h]
  simp only [bd_some, ht]
theorem xtrub {a : M R} {G G1 : Gam} {k : Bool} (h : a G = some (.im (.bl k), G1)) : xtru a G = some (k, G1) := xtru_ok h rfl
theorem xtnot_ok {a : M Bool} {G G1 : Gam} {k : Bool} (h : a G = some (k, G1)) : xtnot a G = some (!k, G1) := by
  unfold xtnot
  rw [h]
  rfl
theorem xtand_t {a b : M Bool} {G G1 : Gam} (h : a G = some (true, G1)) : xtand a b G = b G1 := by
  unfold xtand
  rw [h]
  rfl
theorem xtand_f {a b : M Bool} {G G1 : Gam} (h : a G = some (false, G1)) : xtand a b G = some (false, G1) := by
  unfold xtand
  rw [h]
  rfl
theorem xtor_t {a b : M Bool} {G G1 : Gam} (h : a G = some (true, G1)) : xtor a b G = some (true, G1) := by
  unfold xtor
  rw [h]
  rfl
theorem xtor_f {a b : M Bool} {G G1 : Gam} (h : a G = some (false, G1)) : xtor a b G = b G1 := by
  unfold xtor
  rw [h]
  rfl
/-- two tests that change nothing -/
theorem xtand_b {a b : M Bool} {G : Gam} {k l : Bool} (h : a G = some (k, G)) (h' : b G = some (l, G)) : xtand a b G = some (k && l, G) := by
  cases k
  · exact xtand_f h
  · rw [xtand_t h, h']; rfl
theorem xtor_b {a b : M Bool} {G : Gam} {k l : Bool} (h : a G = some (k, G)) (h' : b G = some (l, G)) : xtor a b G = some (k || l, G) := by
  cases k
  · rw [xtor_f h, h']; rfl
  · exact xtor_t h
theorem xvand_b {a b : M R} {G : Gam} {k l : Bool} (h : a G = some (.im (.bl k), G)) (h' : b G = some (.im (.bl l), G)) : xvand a b G = some (.im (.bl (k && l)), G) := by
  cases k
  · exact xvand_f h
  · rw [xvand_t h h']; rfl
theorem xun_ok {o : D → Option R} {a : M R} {G G1 : Gam} {x r : R} (h : a G = some (x, G1)) (ho : o x.d = some r) : xun o a G = some (r, G1) := by
  unfold xun
  rw [h]
  simp only [bd_some, ho]
theorem xaug_ok {i : Nat} {o : D → D → Option R} {a : M R} {G G1 G2 : Gam} {x : D} {y r : R} (h0 : G[i]? = some (.im x)) (h : a G = some (y, G1)) (ho : o x y.d = some r) (e : G1.set i r.ent = G2) : xaug i o a G = some (.nx, G2) := by
  unfold xaug
  rw [h0]
  simp only [h, bd_some, ho, e]
theorem xstar_ok {a : M R} {b : M (List D)} {G G1 G2 : Gam} {r : R} {ds xs : List D} (h : a G = some (r, G1)) (hd : seqD r.d = some ds) (hb : b G1 = some (xs, G2)) : xstar a b G = some (ds ++ xs, G2) := by
  unfold xstar
  rw [h]
  simp only [bd_some, hd, hb]
theorem xasg_ok {a : M R} {tg : D → Gam → Option Gam} {G G1 G2 : Gam} {r : R} (h : a G = some (r, G1)) (ht : tg r.d G1 = some G2) : xasg a tg G = some (.nx, G2) := by
  unfold xasg
  rw [h]
  simp only [bd_some, ht]
theorem xseqR_ok {a : M R} {G G1 : Gam} {r : R} {ds : List D} (h : a G = some (r, G1)) (hd : seqD r.d = some ds) : xseqI a G = some (ds, G1) := by
  unfold xseqI
  rw [h]
  simp only [bd_some, hd]
/-- a loop that goes on to its end: a state, from item to item -/
theorem xforL_st {α β : Type} {tg : D → Gam → Option Gam} {b : MS} {S : α → Gam} {f : α → β → α} {e : β → D} {P : α → Prop} : ∀ {xs : List β} {a : α}, P a →
    (∀ x ∈ xs, ∀ a, P a → P (f a x) ∧ ∃ G1, tg (e x) (S a) = some G1 ∧ b G1 = some (.nx, S (f a x))) →
    xforL tg b (xs.map e) (S a) = some (.nx, S (xs.foldl f a)) ∧ P (xs.foldl f a)
  | [], a, h, _ => ⟨rfl, h⟩
  | x :: xs, a, h, hs => by
    obtain ⟨p1, G1, h1, h2⟩ := hs x List.mem_cons_self a h
    have ih := xforL_st (xs := xs) (a := f a x) p1 fun y hy => hs y (List.mem_cons_of_mem _ hy)
    exact ⟨(xforL_nx h1 h2).trans ih.1, ih.2⟩
/-- a comprehension with a test: what is kept -/
theorem xlcL_fm {β : Type} {tg : D → Gam → Option Gam} {t : M Bool} {e : M R} {vs : List Nat} {G : Gam} {en : β → D} (p : β → Bool) (f : β → D) : ∀ {xs : List β}, (∀ x ∈ xs, ∃ G1 G2, tg (en x) G = some G1 ∧ t G1 = some (p x, G2) ∧
      (p x = false → wipeG G2 vs = G) ∧ (p x = true → ∃ r G3, e G2 = some (r, G3) ∧ r.d = f x ∧ wipeG G3 vs = G)) →
    xlcL tg t e vs (xs.map en) G = some ((xs.filter p).map f, G)
  | [], _ => rfl
  | x :: xs, h => by
    obtain ⟨G1, G2, h1, h2, h3, h4⟩ := h x List.mem_cons_self
    have ih := xlcL_fm p f (xs := xs) (fun y hy => h y (List.mem_cons_of_mem _ hy))
    show xlcL tg t e vs (en x :: xs.map en) G = _
    unfold xlcL
    rw [h1]
    simp only [bd_some, h2]
    cases hp : p x
    · rw [h3 hp]
      simp only [ih, List.filter_cons, hp]
      rfl
    · obtain ⟨r, G3, h5, h6, h7⟩ := h4 hp
      simp only [if_true, h5, bd_some, h7, ih, List.filter_cons, hp, List.map_cons, h6]
theorem xlcL_en {β : Type} {tg : D → Gam → Option Gam} {e : M R} {vs : List Nat} {G : Gam} {en : β → D} (f : β → D) : ∀ {xs : List β}, (∀ x ∈ xs, ∃ G1 r G2, tg (en x) G = some G1 ∧ e G1 = some (r, G2) ∧ r.d = f x ∧ wipeG G2 vs = G) →
    xlcL tg xtyes e vs (xs.map en) G = some (xs.map f, G)
  | [], _ => rfl
  | x :: xs, h => by
    obtain ⟨G1, r, G2, h1, h2, h3, h4⟩ := h x List.mem_cons_self
    have ih := xlcL_en f (xs := xs) (fun y hy => h y (List.mem_cons_of_mem _ hy))
    show xlcL tg xtyes e vs (en x :: xs.map en) G = _
    unfold xlcL
    rw [h1]
    simp only [bd_some, xtyes, if_true, h2, h4]
    rw [ih]
    simp only [bd_some, h3, List.map_cons]
/-- a comprehension over names that are not set yet -/
theorem xlc_un {it : M (List D)} {tg : D → Gam → Option Gam} {t : M Bool} {e : M R} {vs : List Nat} {G0 G : Gam} {ds out : List D} (h1 : it G0 = some (ds, G)) (h2 : noMu G vs = true) (hw : wipeG G vs = G) (hu : unw G G vs = G)
    (h3 : xlcL tg t e vs ds G = some (out, G)) (hf : out.length ≤ 100000) : xlc it tg t e vs G0 = some (.ol out, G) := by
  have h3' : xlcL tg t e vs ds (wipeG G vs) = some (out, G) := by rw [hw]; exact h3
  have := xlc_ok h1 h2 h3' (decide_eq_true hf)
  rw [hu] at this
  exact this
theorem atI_nat {α : Type} (xs : List α) (i : Nat) (h : i < xs.length) : atI xs (i : Int) = xs[i]? := by
  unfold atI ixN
  rw [if_pos (by omega), if_pos (by omega), Int.toNat_natCast]
  rfl
theorem fewl {n : Nat} (h : n ≤ 100000) : few n = true := decide_eq_true h
/-- tests asked of values alone -/
theorem div_divInt (a b : Rat) : Rat.divInt (a.num * b.den) (a.den * b.num) = a / b := by
  rw [← Rat.divInt_mul_divInt, divInt_self, Rat.div_def, Rat.inv_def]
theorem Ht.div {a b : Rat} {k l : Nat} (h : Ht a k) (h' : Ht b l) (h0 : b ≠ 0) : Ht (a / b) (k + l) := by
  rw [← div_divInt]
  exact ht_divInt (Int.mul_ne_zero (den_ne a) (fun h => h0 (Rat.num_eq_zero.mp h))) (h.1.mul h'.2) (h.2.mul h'.1)
theorem Ht.mul1 {a : Rat} {k : Nat} (h : Ht a k) : Ht (a * 1) k := by rw [Rat.mul_one]; exact h
theorem dec_eq_vq (a b : Rat) : (vq a = vq b) ↔ a = b := ⟨fun h => by
  have := congrArg valQ h
  rwa [valQ_vq, valQ_vq] at this, fun h => by rw [h]⟩
end Bk
/-! Vb4: the ascending list of some values, as plain law and as data. -/
namespace Bk
open PySem L2
def insU (x : Rat) : List Rat → List Rat
  | [] => [x]
  | y :: r => if x < y then x :: y :: r else if x = y then y :: r else y :: insU x r
def asc (l : List Rat) : List Rat := l.foldr insU []
theorem mem_insU {x q : Rat} : ∀ {l : List Rat}, q ∈ insU x l ↔ q = x ∨ q ∈ l
  | [] => by simp [insU]
  | y :: r => by
    unfold insU
    split
    · simp
    · split
      · rename_i h1 h2
        subst h2
        simp
      · simp only [List.mem_cons, mem_insU]
        constructor
        · rintro (h | h | h) <;> simp [h]
        · rintro (h | h | h) <;> simp [h]
theorem mem_asc {q : Rat} : ∀ {l : List Rat}, q ∈ asc l ↔ q ∈ l
  | [] => by simp [asc]
  | x :: l => by
    show q ∈ insU x (asc l) ↔ _
    rw [mem_insU, mem_asc, List.mem_cons]
theorem insU_sorted {x : Rat} : ∀ {l : List Rat}, l.Pairwise (· < ·) → (insU x l).Pairwise (· < ·)
  | [], _ => by simp [insU]
  | y :: r, h => by
    have h1 := List.pairwise_cons.mp h
    unfold insU
    split
    · rename_i hx
      refine List.pairwise_cons.mpr ⟨fun z hz => ?_, h⟩
      rcases List.mem_cons.mp hz with rfl | hz
      · exact hx
      · have := h1.1 z hz
        grind
    · split
      · exact h
      · refine List.pairwise_cons.mpr ⟨fun z hz => ?_, insU_sorted h1.2⟩
        rcases mem_insU.mp hz with rfl | hz
        · grind
        · exact h1.1 z hz
theorem asc_sorted : ∀ l : List Rat, (asc l).Pairwise (· < ·)
  | [] => by simp [asc]
  | x :: l => insU_sorted (asc_sorted l)
theorem sorted_uniq : ∀ {a b : List Rat}, a.Pairwise (· < ·) → b.Pairwise (· < ·) → (∀ q, q ∈ a ↔ q ∈ b) → a = b
  | [], [], _, _, _ => rfl
  | [], y :: b, _, _, h => absurd ((h y).mpr List.mem_cons_self) (by simp)
  | x :: a, [], _, _, h => absurd ((h x).mp List.mem_cons_self) (by simp)
  | x :: a, y :: b, ha, hb, h => by
    have ha1 := List.pairwise_cons.mp ha
    have hb1 := List.pairwise_cons.mp hb
    have e : x = y := by
      have h1 := (h x).mp List.mem_cons_self
      have h2 := (h y).mpr List.mem_cons_self
      rcases List.mem_cons.mp h1 with e | h1
      · exact e
      · rcases List.mem_cons.mp h2 with e | h2
        · exact e.symm
        · have := hb1.1 x h1
          have := ha1.1 y h2
          grind
    subst e
    refine congrArg (x :: ·) (sorted_uniq ha1.2 hb1.2 fun q => ?_)
    constructor
    · intro hq
      rcases List.mem_cons.mp ((h q).mp (List.mem_cons_of_mem _ hq)) with rfl | h3
      · have := ha1.1 q hq
        grind
      · exact h3
    · intro hq
      rcases List.mem_cons.mp ((h q).mpr (List.mem_cons_of_mem _ hq)) with rfl | h3
      · have := hb1.1 q hq
        grind
      · exact h3
def dd : Option Rat → List Rat → List Rat
  | _, [] => []
  | p, x :: xs => if p = some x then dd (some x) xs else x :: dd (some x) xs
theorem dd_some : ∀ {xs : List Rat} {p : Rat}, xs.Pairwise (· ≤ ·) → (∀ x ∈ xs, p ≤ x) → (dd (some p) xs).Pairwise (· < ·) ∧ (∀ q, q ∈ dd (some p) xs ↔ q ∈ xs ∧ p < q)
  | [], p, _, _ => by simp [dd]
  | x :: xs, p, h, hp => by
    have h1 := List.pairwise_cons.mp h
    obtain ⟨i1, i2⟩ := dd_some (xs := xs) (p := x) h1.2 h1.1
    have hpx := hp x List.mem_cons_self
    unfold dd
    split
    · rename_i e
      have e := Option.some.inj e
      subst e
      refine ⟨i1, fun q => ?_⟩
      rw [i2, List.mem_cons]
      constructor
      · rintro ⟨a, b⟩
        exact ⟨.inr a, b⟩
      · rintro ⟨a | a, b⟩
        · subst a; exact absurd b (by grind)
        · exact ⟨a, b⟩
    · rename_i e
      have e : p ≠ x := fun z => e (congrArg some z)
      have hlt : p < x := by grind
      refine ⟨List.pairwise_cons.mpr ⟨fun q hq => ((i2 q).mp hq).2, i1⟩, fun q => ?_⟩
      rw [List.mem_cons, i2, List.mem_cons]
      constructor
      · rintro (a | ⟨a, b⟩)
        · subst a; exact ⟨.inl rfl, hlt⟩
        · exact ⟨.inr a, by grind⟩
      · rintro ⟨a | a, b⟩
        · exact .inl a
        · by_cases z : q = x
          · exact .inl z
          · have := h1.1 q a
            exact .inr ⟨a, by grind⟩
theorem dd_none {xs : List Rat} (h : xs.Pairwise (· ≤ ·)) : (dd none xs).Pairwise (· < ·) ∧ (∀ q, q ∈ dd none xs ↔ q ∈ xs) := by
  cases xs with
  | nil => simp [dd]
  | cons x xs =>
    have h1 := List.pairwise_cons.mp h
    obtain ⟨i1, i2⟩ := dd_some h1.2 h1.1
    show (x :: dd (some x) xs).Pairwise (· < ·) ∧ (∀ q, q ∈ x :: dd (some x) xs ↔ q ∈ x :: xs)
    refine ⟨List.pairwise_cons.mpr ⟨fun q hq => ((i2 q).mp hq).2, i1⟩, fun q => ?_⟩
    rw [List.mem_cons, i2, List.mem_cons]
    constructor
    · rintro (a | ⟨a, b⟩)
      · exact .inl a
      · exact .inr a
    · rintro (a | a)
      · exact .inl a
      · by_cases z : q = x
        · exact .inl z
        · have := h1.1 q a
          exact .inr ⟨a, by grind⟩
theorem dd_asc {xs l : List Rat} (h : xs.Pairwise (· ≤ ·)) (hm : ∀ q, q ∈ xs ↔ q ∈ l) : dd none xs = asc l :=
  sorted_uniq (dd_none h).1 (asc_sorted l) fun q => by rw [(dd_none h).2, hm, mem_asc]
/-! data -/
theorem eqv_vq (a b : Rat) : eqD (vq a) (vq b) = some (decide (a = b)) := by
  have e : eqD (vq a) (vq b) = some (PyData.eqv (pyq a) (pyq b)) := rfl
  rw [e]
  have : PyData.eqv (pyq a) (pyq b) = (decide (a.num = b.num) && decide ((a.den : Int) = b.den)) := by
    simp [pyq, PyData.eqv, PyData.eqvAll]
    rfl
  rw [this]
  congr 1
  by_cases h : a = b
  · subst h; simp
  · rw [decide_eq_false h]
    by_cases h1 : a.num = b.num
    · have h2 : ¬ (a.den : Int) = b.den := fun z => h (Rat.ext h1 (by omega))
      rw [decide_eq_false h2, Bool.and_false]
    · rw [decide_eq_false h1, Bool.false_and]
theorem ne_vq (a b : Rat) : opNe (vq a) (vq b) = some (.im (.bl (!decide (a = b)))) := by
  unfold opNe
  rw [eqv_vq]
theorem eq_vq (a b : Rat) : opEq (vq a) (vq b) = some (.im (.bl (decide (a = b)))) := by
  unfold opEq
  rw [eqv_vq]
def lcs (l : List Rat) (c : Nat) : Nat := l.foldl (fun c q => Nat.lcm c q.den) c
theorem lcs_dvd : ∀ {l : List Rat} {c : Nat}, c ∣ lcs l c ∧ ∀ q ∈ l, q.den ∣ lcs l c
  | [], c => ⟨Nat.dvd_refl c, by simp⟩
  | x :: l, c => by
    obtain ⟨h1, h2⟩ := lcs_dvd (l := l) (c := Nat.lcm c x.den)
    refine ⟨Nat.dvd_trans (Nat.dvd_lcm_left c x.den) h1, fun q hq => ?_⟩
    rcases List.mem_cons.mp hq with rfl | hq
    · exact Nat.dvd_trans (Nat.dvd_lcm_right c q.den) h1
    · exact h2 q hq
theorem lcs_pos : ∀ {l : List Rat} {c : Nat}, 0 < c → 0 < lcs l c
  | [], c, h => h
  | x :: l, c, h => lcs_pos (l := l) (c := Nat.lcm c x.den) (Nat.lcm_pos h x.den_pos)
theorem lcs_sm {k : Nat} : ∀ {l : List Rat} {c m : Nat}, Sm (c : Int) m → (∀ q ∈ l, Ht q k) → Sm (lcs l c : Int) (m + l.length * k)
  | [], c, m, h, _ => by simpa [lcs] using h
  | x :: l, c, m, h, hl => by
    have hx := (hl x List.mem_cons_self).2
    have h1 : Sm ((Nat.lcm c x.den : Nat) : Int) (m + k) := by
      have hm := h.mul hx
      unfold Sm at *
      refine Nat.lt_of_le_of_lt ?_ hm
      rw [Int.natAbs_mul, Int.natAbs_natCast, Int.natAbs_natCast, Int.natAbs_natCast]
      unfold Nat.lcm
      exact Nat.div_le_self _ _
    have := lcs_sm (l := l) h1 fun q hq => hl q (List.mem_cons_of_mem _ hq)
    have e : m + k + l.length * k = m + (x :: l).length * k := by
      rw [List.length_cons, Nat.add_mul]; omega
    rw [e] at this
    exact this
theorem qnum (q : Rat) : ((q.num : Int) : Rat) = q * ((q.den : Int) : Rat) := by
  have h := divInt_self q
  rw [Rat.divInt_eq_div] at h
  have hd : ((q.den : Int) : Rat) ≠ 0 := fun z => den_ne q (Rat.intCast_eq_zero_iff.mp z)
  generalize hx : ((q.num : Int) : Rat) = x at h
  generalize hy : ((q.den : Int) : Rat) = y at h hd
  rw [← h, Rat.div_mul_cancel hd]
/-- the key of a value, for a common multiple -/
def kyq (c : Nat) (q : Rat) : Int := q.num * ((c : Int).fdiv (q.den : Int))
theorem kyq_eq {c : Nat} {q : Rat} (h : q.den ∣ c) : ((kyq c q : Int) : Rat) = q * (c : Int) := by
  obtain ⟨e, rfl⟩ := h
  have hd := den_ne q
  have : ((q.den * e : Nat) : Int).fdiv (q.den : Int) = (e : Int) := by
    rw [Int.natCast_mul, Int.fdiv_eq_ediv_of_nonneg _ (by omega), Int.mul_ediv_cancel_left _ hd]
  unfold kyq
  rw [this, Int.natCast_mul]
  have h2 := qnum q
  rw [Rat.intCast_mul, Rat.intCast_mul, h2]
  grind
theorem kyq_le {c : Nat} {a b : Rat} (hc : 0 < c) (h : a.den ∣ c) (h' : b.den ∣ c) (hl : kyq c a ≤ kyq c b) : a ≤ b := by
  have h1 : ((kyq c a : Int) : Rat) ≤ ((kyq c b : Int) : Rat) := Rat.intCast_le_intCast.mpr hl
  rw [kyq_eq h, kyq_eq h'] at h1
  have h2 : (0 : Rat) < ((c : Int) : Rat) := by
    have : (0 : Int) < (c : Int) := by omega
    exact Rat.intCast_lt_intCast.mpr this
  exact Rat.le_of_mul_le_mul_right h1 h2
theorem kyq_inj {c : Nat} {a b : Rat} (hc : 0 < c) (h : a.den ∣ c) (h' : b.den ∣ c) (hl : kyq c a = kyq c b) : a = b :=
  Rat.le_antisymm (kyq_le hc h h' (by omega)) (kyq_le hc h' h (by omega))
def kit (c : Nat) (q : Rat) : D := .tup [.int (kyq c q), vq q]
theorem kp_kit (c : Nat) : ∀ l : List Rat, kpDs (l.map (kit c)) = some (l.map fun q => (kyq c q, q.num, (q.den : Int)))
  | [] => rfl
  | q :: l => by
    show (match kpD (kit c q), kpDs (l.map (kit c)) with | some a, some as => some (a :: as) | _, _ => none) = _
    rw [kp_kit c l]
    rfl
theorem okKP_kit {c : Nat} (hc : 0 < c) : ∀ {l : List Rat}, (∀ q ∈ l, q.den ∣ c) → okKP (l.map fun q => (kyq c q, q.num, (q.den : Int))) = true
  | [], _ => rfl
  | q :: l, h => by
    show ((l.map fun q => (kyq c q, q.num, (q.den : Int))).all (fun b => !(kyq c q == b.1) || (q.num == b.2.1 && (q.den : Int) == b.2.2)) && okKP (l.map fun q => (kyq c q, q.num, (q.den : Int)))) = true
    rw [okKP_kit hc fun r hr => h r (List.mem_cons_of_mem _ hr), Bool.and_true, List.all_eq_true]
    intro x hx
    obtain ⟨r, hr, rfl⟩ := List.mem_map.mp hx
    by_cases e : kyq c q = kyq c r
    · have := kyq_inj hc (h q List.mem_cons_self) (h r (List.mem_cons_of_mem _ hr)) e
      subst this
      simp
    · simp [e]
theorem sorted_kit {c : Nat} {d : D} {l : List Rat} (hc : 0 < c) (h : ∀ q ∈ l, q.den ∣ c) (hd : d = .lst (l.map (kit c))) : cbSorted [d] = some (.ol ((sortK (kyq c) l).map (kit c))) := by
  subst hd
  show (match kpDs (l.map (kit c)) with | some z => if okKP z then some (R.ol (sortK keyD (l.map (kit c)))) else none | none => none) = _
  rw [kp_kit]
  simp only [okKP_kit hc h, if_true]
  rw [← sortK_map keyD (kit c)]
  rfl
theorem sortK_asc {c : Nat} {l : List Rat} (hc : 0 < c) (h : ∀ q ∈ l, q.den ∣ c) : dd none (sortK (kyq c) l) = asc l := by
  have hp := sortK_perm (kyq c) l
  refine dd_asc ?_ fun q => hp.mem_iff
  have hs := sortK_sorted (kyq c) l
  have hm : ∀ q ∈ sortK (kyq c) l, q.den ∣ c := fun q hq => h q (hp.mem_iff.mp hq)
  revert hs hm
  generalize sortK (kyq c) l = s
  intro hs hm
  induction s with
  | nil => exact .nil
  | cons x s ih =>
    have h1 := List.pairwise_cons.mp hs
    refine List.pairwise_cons.mpr ⟨fun y hy => kyq_le hc (hm x List.mem_cons_self) (hm y (List.mem_cons_of_mem _ hy)) (h1.1 y hy), ih h1.2 fun q hq => hm q (List.mem_cons_of_mem _ hq)⟩
end Bk
namespace Bk
theorem insU_len (x : Rat) : ∀ l : List Rat, (insU x l).length ≤ l.length + 1
  | [] => Nat.le_refl _
  | y :: r => by
    have := insU_len x r
    unfold insU
    split
    · simp
    · split
      · simp
      · simp only [List.length_cons]; omega
theorem asc_len : ∀ l : List Rat, (asc l).length ≤ l.length
  | [] => Nat.le_refl _
  | x :: l => by
    have := insU_len x (asc l)
    have := asc_len l
    show (insU x (asc l)).length ≤ _
    rw [List.length_cons]
    omega
end Bk
/-! Vb5: a rule's sums: weights and shares brought to least form keep every sum. -/
namespace Bk
open PySem L2
abbrev Wt := Rat × Rat
abbrev Sh := Rat × Rat × Rat
theorem foldl_add (l : List Rat) : ∀ a : Rat, l.foldl (· + ·) a = a + sumQ l := by
  induction l with
  | nil => intro a; show a = a + 0; grind
  | cons x l ih =>
    intro a
    show l.foldl (· + ·) (a + x) = a + l.foldl (· + ·) (0 + x)
    rw [ih, ih (0 + x)]
    grind
theorem sumQ_nil : sumQ [] = 0 := rfl
theorem sumQ_cons (x : Rat) (l : List Rat) : sumQ (x :: l) = x + sumQ l := by
  show l.foldl (· + ·) (0 + x) = _
  rw [foldl_add]
  grind
theorem sumQ_app (a b : List Rat) : sumQ (a ++ b) = sumQ a + sumQ b := by
  induction a with
  | nil => rw [List.nil_append, sumQ_nil]; grind
  | cons x a ih => rw [List.cons_append, sumQ_cons, ih, sumQ_cons]; grind
def sumM {α : Type} (l : List α) (f : α → Rat) : Rat := sumQ (l.map f)
theorem sumM_nil {α : Type} (f : α → Rat) : sumM [] f = 0 := rfl
theorem sumM_cons {α : Type} (x : α) (l : List α) (f : α → Rat) : sumM (x :: l) f = f x + sumM l f := sumQ_cons _ _
theorem sumM_app {α : Type} (a b : List α) (f : α → Rat) : sumM (a ++ b) f = sumM a f + sumM b f := by
  unfold sumM
  rw [List.map_append, sumQ_app]
theorem sumM_add {α : Type} (l : List α) (f g : α → Rat) : sumM l (fun x => f x + g x) = sumM l f + sumM l g := by
  induction l with
  | nil => show (0 : Rat) = 0 + 0; grind
  | cons x l ih => rw [sumM_cons, sumM_cons, sumM_cons, ih]; grind
theorem sumM_zero {α : Type} (l : List α) : sumM l (fun _ => 0) = 0 := by
  induction l with
  | nil => rfl
  | cons x l ih => rw [sumM_cons, ih]; grind
theorem sumM_mul {α : Type} (l : List α) (f : α → Rat) (c : Rat) : sumM l (fun x => c * f x) = c * sumM l f := by
  induction l with
  | nil => show (0 : Rat) = c * 0; grind
  | cons x l ih => rw [sumM_cons, sumM_cons, ih]; grind
theorem sumM_congr {α : Type} {l : List α} {f g : α → Rat} (h : ∀ x ∈ l, f x = g x) : sumM l f = sumM l g := by
  unfold sumM
  rw [List.map_congr_left h]
theorem sumM_filter {α : Type} (l : List α) (f : α → Rat) (p : α → Bool) (h : ∀ x ∈ l, p x = false → f x = 0) : sumM (l.filter p) f = sumM l f := by
  induction l with
  | nil => rfl
  | cons x l ih =>
    have ih := ih fun y hy => h y (List.mem_cons_of_mem _ hy)
    rw [List.filter_cons]
    cases hp : p x
    · have := h x List.mem_cons_self hp
      rw [sumM_cons, this]
      simp only [Bool.false_eq_true, if_false, ih]
      grind
    · simp only [if_true]
      rw [sumM_cons, sumM_cons, ih]
theorem sumM_map {α β : Type} (l : List α) (g : α → β) (f : β → Rat) : sumM (l.map g) f = sumM l fun x => f (g x) := by
  unfold sumM
  rw [List.map_map]
  rfl
theorem sumM_one (P : List Rat) (hp : P.Pairwise (· < ·)) (a : Rat) (x : Rat) (f : Rat → Rat) : sumM P (fun p => (if a = p then x else 0) * f p) = if a ∈ P then x * f a else 0 := by
  induction P with
  | nil => rfl
  | cons p P ih =>
    have h1 := List.pairwise_cons.mp hp
    rw [sumM_cons, ih h1.2]
    by_cases e : a = p
    · subst e
      have hn : a ∉ P := fun hm => by have := h1.1 a hm; grind
      rw [if_pos rfl, if_neg hn, if_pos List.mem_cons_self]
      grind
    · rw [if_neg e]
      by_cases hm : a ∈ P
      · rw [if_pos hm, if_pos (List.mem_cons_of_mem _ hm)]; grind
      · rw [if_neg hm, if_neg (by simp [e, hm])]; grind
/-- the weights at a point -/
def wAt (ws : List Wt) (p : Rat) : Rat := sumQ ((ws.filter fun w => decide (w.1 = p)).map (·.2))
theorem wAt_cons (w : Wt) (ws : List Wt) (p : Rat) : wAt (w :: ws) p = (if w.1 = p then w.2 else 0) + wAt ws p := by
  unfold wAt
  rw [List.filter_cons]
  by_cases h : w.1 = p
  · rw [if_pos (decide_eq_true h), if_pos h, List.map_cons, sumQ_cons]
  · rw [if_neg (by simp [h]), if_neg h]; grind
theorem wAt_sum (P : List Rat) (hp : P.Pairwise (· < ·)) (f : Rat → Rat) : ∀ ws : List Wt, (∀ w ∈ ws, w.1 ∈ P) → sumM P (fun p => wAt ws p * f p) = sumM ws fun w => w.2 * f w.1
  | [], _ => by
    rw [sumM_congr (g := fun _ => 0) (fun x _ => by show (0 : Rat) * f x = 0; grind), sumM_zero]
    rfl
  | w :: ws, h => by
    have ih := wAt_sum P hp f ws fun x hx => h x (List.mem_cons_of_mem _ hx)
    rw [sumM_congr (g := fun p => (if w.1 = p then w.2 else 0) * f p + wAt ws p * f p) (fun p _ => by rw [wAt_cons]; grind), sumM_add, ih, sumM_one P hp, if_pos (h w List.mem_cons_self), sumM_cons]
def lwOf (ws : List Wt) : List Wt := ((asc (ws.map (·.1))).map fun p => (p, wAt ws p)).filter fun w => !decide (w.2 = 0)
def wval (f : Rat → Rat) (ws : List Wt) : Rat := sumM ws fun w => w.2 * f w.1
theorem wval_lw (f : Rat → Rat) (ws : List Wt) : wval f (lwOf ws) = wval f ws := by
  unfold wval lwOf
  rw [sumM_filter _ _ _ fun w _ h => by
    have h : w.2 = 0 := by simpa using h
    rw [h]; grind]
  rw [sumM_map]
  exact wAt_sum _ (asc_sorted _) f ws fun w hw => mem_asc.mpr (List.mem_map.mpr ⟨w, hw, rfl⟩)
/-! shares -/
def sIn (lo hi : Rat) (s : Sh) : Bool := !decide (lo < s.1) && !decide (s.2.1 < hi)
def sAt (ss : List Sh) (lo hi : Rat) : Rat := sumQ ((ss.filter (sIn lo hi)).map (·.2.2))
def lsStep (ss : List Sh) (acc : List Sh) (lo hi : Rat) : List Sh := match acc.getLast? with
  | some x => if x.2.2 = sAt ss lo hi then acc.dropLast ++ [(x.1, hi, sAt ss lo hi)] else acc ++ [(lo, hi, sAt ss lo hi)]
  | none => acc ++ [(lo, hi, sAt ss lo hi)]
def lsGo (ss : List Sh) : List Sh → List Rat → List Sh
  | acc, lo :: hi :: r => lsGo ss (lsStep ss acc lo hi) (hi :: r)
  | acc, _ => acc
def ends (ss : List Sh) : List Rat := ss.flatMap fun s => [s.1, s.2.1]
def lsOf (ss : List Sh) : List Sh := (lsGo ss [] (asc (ends ss))).filter fun s => !decide (s.2.2 = 0)
def sval (F : Rat → Rat) (ss : List Sh) : Rat := sumM ss fun s => s.2.2 * (F s.2.1 - F s.1)
/-- a sum over what follows on another -/
def steps (g : Rat → Rat → Rat) : List Rat → Rat
  | lo :: hi :: r => g lo hi + steps g (hi :: r)
  | _ => 0
theorem steps_add (g h : Rat → Rat → Rat) : ∀ l : List Rat, steps (fun a b => g a b + h a b) l = steps g l + steps h l
  | [] => by show (0 : Rat) = 0 + 0; grind
  | [_] => by show (0 : Rat) = 0 + 0; grind
  | lo :: hi :: r => by
    show g lo hi + h lo hi + steps (fun a b => g a b + h a b) (hi :: r) = (g lo hi + steps g (hi :: r)) + (h lo hi + steps h (hi :: r))
    rw [steps_add g h (hi :: r)]
    grind
theorem steps_zero : ∀ l : List Rat, steps (fun _ _ => 0) l = 0
  | [] => rfl
  | [_] => rfl
  | lo :: hi :: r => by
    show 0 + steps (fun _ _ => 0) (hi :: r) = 0
    rw [steps_zero (hi :: r)]
    grind
theorem steps_mul (c : Rat) (g : Rat → Rat → Rat) : ∀ l : List Rat, steps (fun a b => c * g a b) l = c * steps g l
  | [] => by show (0 : Rat) = c * 0; grind
  | [_] => by show (0 : Rat) = c * 0; grind
  | lo :: hi :: r => by
    show c * g lo hi + steps (fun a b => c * g a b) (hi :: r) = c * (g lo hi + steps g (hi :: r))
    rw [steps_mul c g (hi :: r)]
    grind
theorem getLast_split {α : Type} : ∀ {l : List α} {x : α}, l.getLast? = some x → l = l.dropLast ++ [x]
  | [], _, h => by simp at h
  | [y], x, h => by simp at h; simp [h]
  | y :: z :: l, x, h => by
    have := getLast_split (l := z :: l) (x := x) (by rw [List.getLast?_cons_cons] at h; exact h)
    rw [List.dropLast_cons_cons, List.cons_append, ← this]
theorem lsGo_val (F : Rat → Rat) (ss : List Sh) : ∀ (pts : List Rat) (acc : List Sh), (∀ x, acc.getLast? = some x → ∀ lo r, pts = lo :: r → x.2.1 = lo) →
    sval F (lsGo ss acc pts) = sval F acc + steps (fun lo hi => sAt ss lo hi * (F hi - F lo)) pts
  | [], acc, _ => by show _ = sval F acc + 0; unfold lsGo; grind
  | [_], acc, _ => by show _ = sval F acc + 0; unfold lsGo; grind
  | lo :: hi :: r, acc, h => by
    have hv : sval F (lsStep ss acc lo hi) = sval F acc + sAt ss lo hi * (F hi - F lo) := by
      unfold lsStep
      split
      · rename_i x hx
        split
        · rename_i e
          have h1 := h x hx lo (hi :: r) rfl
          conv => rhs; rw [getLast_split hx]
          unfold sval
          rw [sumM_app, sumM_app, sumM_cons, sumM_cons, sumM_nil, ← e, ← h1]
          grind
        · unfold sval
          rw [sumM_app, sumM_cons, sumM_nil]
          grind
      · unfold sval
        rw [sumM_app, sumM_cons, sumM_nil]
        grind
    have hl : ∀ x, (lsStep ss acc lo hi).getLast? = some x → ∀ lo' r', hi :: r = lo' :: r' → x.2.1 = lo' := fun x hx lo' r' e => by
      cases e
      unfold lsStep at hx
      split at hx
      · split at hx <;> simp at hx <;> rw [← hx]
      · simp at hx; rw [← hx]
    show sval F (lsGo ss (lsStep ss acc lo hi) (hi :: r)) = sval F acc + (sAt ss lo hi * (F hi - F lo) + steps (fun lo hi => sAt ss lo hi * (F hi - F lo)) (hi :: r))
    rw [lsGo_val F ss (hi :: r) _ hl, hv]
    grind
/-- one part, over what follows on another -/
def tele (F : Rat → Rat) (a b : Rat) (lo hi : Rat) : Rat := if (!decide (lo < a) && !decide (b < hi)) = true then F hi - F lo else 0
theorem tele_past (F : Rat → Rat) (a b : Rat) : ∀ (r : List Rat) (x : Rat), (x :: r).Pairwise (· < ·) → b ≤ x → steps (tele F a b) (x :: r) = 0
  | [], _, _, _ => rfl
  | y :: r, x, h, hb => by
    have h1 := List.pairwise_cons.mp h
    have hxy := h1.1 y List.mem_cons_self
    show tele F a b x y + steps (tele F a b) (y :: r) = 0
    rw [tele_past F a b r y h1.2 (by grind)]
    have : tele F a b x y = 0 := by
      unfold tele
      rw [if_neg]
      simp
      intro _
      grind
    rw [this]
    grind
theorem tele_from (F : Rat → Rat) (a b : Rat) : ∀ (r : List Rat) (x : Rat), (x :: r).Pairwise (· < ·) → a ≤ x → b ∈ x :: r → steps (tele F a b) (x :: r) = F b - F x
  | [], x, _, _, hb => by
    rw [List.mem_singleton.mp hb]
    show (0 : Rat) = _
    grind
  | y :: r, x, h, ha, hb => by
    have h1 := List.pairwise_cons.mp h
    have hxy := h1.1 y List.mem_cons_self
    show tele F a b x y + steps (tele F a b) (y :: r) = _
    by_cases e : b = x
    · subst e
      rw [tele_past F a b r y h1.2 (by grind)]
      have : tele F a b b y = 0 := by
        unfold tele
        rw [if_neg]
        simp
        intro _
        grind
      rw [this]
      grind
    · have hb' : b ∈ y :: r := by
        rcases List.mem_cons.mp hb with z | z
        · exact absurd z e
        · exact z
      have hyb : y ≤ b := by
        rcases List.mem_cons.mp hb' with z | z
        · rw [z]; exact Rat.le_refl
        · have := (List.pairwise_cons.mp h1.2).1 b z
          grind
      rw [tele_from F a b r y h1.2 (by grind) hb']
      have : tele F a b x y = F y - F x := by
        unfold tele
        rw [if_pos]
        simp
        grind
      rw [this]
      grind
theorem tele_all (F : Rat → Rat) (a b : Rat) (hab : a ≤ b) : ∀ (r : List Rat), r.Pairwise (· < ·) → a ∈ r → b ∈ r → steps (tele F a b) r = F b - F a
  | [], _, h, _ => by simp at h
  | x :: r, h, ha, hb => by
    by_cases e : a = x
    · subst e
      exact tele_from F a b r a h Rat.le_refl hb
    · have h1 := List.pairwise_cons.mp h
      have ha' : a ∈ r := by
        rcases List.mem_cons.mp ha with z | z
        · exact absurd z e
        · exact z
      have hxa := h1.1 a ha'
      have hb' : b ∈ r := by
        rcases List.mem_cons.mp hb with z | z
        · exfalso; grind
        · exact z
      cases r with
      | nil => simp at ha'
      | cons y r =>
        show tele F a b x y + steps (tele F a b) (y :: r) = _
        rw [tele_all F a b hab (y :: r) h1.2 ha' hb']
        have : tele F a b x y = 0 := by
          unfold tele
          rw [if_neg]
          simp
          intro z
          grind
        rw [this]
        grind
theorem sAt_cons (s : Sh) (ss : List Sh) (lo hi : Rat) : sAt (s :: ss) lo hi = (if sIn lo hi s = true then s.2.2 else 0) + sAt ss lo hi := by
  unfold sAt
  rw [List.filter_cons]
  split
  · rw [List.map_cons, sumQ_cons]
  · grind
theorem sAt_sum (F : Rat → Rat) (P : List Rat) (hp : P.Pairwise (· < ·)) : ∀ ss : List Sh, (∀ s ∈ ss, s.1 ≤ s.2.1 ∧ s.1 ∈ P ∧ s.2.1 ∈ P) → steps (fun lo hi => sAt ss lo hi * (F hi - F lo)) P = sval F ss
  | [], _ => by
    have : (fun lo hi => sAt [] lo hi * (F hi - F lo)) = fun _ _ => (0 : Rat) := by
      funext lo hi
      show (0 : Rat) * _ = 0
      grind
    rw [this, steps_zero]
    rfl
  | s :: ss, h => by
    have ih := sAt_sum F P hp ss fun x hx => h x (List.mem_cons_of_mem _ hx)
    obtain ⟨h1, h2, h3⟩ := h s List.mem_cons_self
    have : (fun lo hi => sAt (s :: ss) lo hi * (F hi - F lo)) = fun lo hi => s.2.2 * tele F s.1 s.2.1 lo hi + sAt ss lo hi * (F hi - F lo) := by
      funext lo hi
      rw [sAt_cons]
      unfold tele sIn
      split <;> grind
    rw [this, steps_add, steps_mul, ih, tele_all F _ _ h1 P hp h2 h3]
    unfold sval
    rw [sumM_cons]
theorem sval_ls (F : Rat → Rat) (ss : List Sh) (h : ∀ s ∈ ss, s.1 ≤ s.2.1) : sval F (lsOf ss) = sval F ss := by
  unfold lsOf
  rw [show sval F ((lsGo ss [] (asc (ends ss))).filter fun s => !decide (s.2.2 = 0)) = sval F (lsGo ss [] (asc (ends ss))) from sumM_filter _ _ _ fun s _ hs => by
    have hs : s.2.2 = 0 := by simpa using hs
    rw [hs]; grind]
  rw [lsGo_val F ss _ [] (by simp), sAt_sum F _ (asc_sorted _) ss fun s hs => ⟨h s hs, ?_, ?_⟩]
  · show (0 : Rat) + _ = _
    grind
  · exact mem_asc.mpr (List.mem_flatMap.mpr ⟨s, hs, by simp⟩)
  · exact mem_asc.mpr (List.mem_flatMap.mpr ⟨s, hs, by simp⟩)
end Bk
namespace Bk
def wD (p : Wt) : D := .tup [vq p.1, vq p.2]
def sD (t : Sh) : D := .tup [vq t.1, vq t.2.1, vq t.2.2]
def WR (d : D) (w : Wt) : Prop := ∃ a b, d = .tup [a, b] ∧ IsV a w.1 ∧ IsV b w.2
def SR (d : D) (s : Sh) : Prop := ∃ a b c, d = .tup [a, b, c] ∧ IsV a s.1 ∧ IsV b s.2.1 ∧ IsV c s.2.2
theorem isV_vq (q : Rat) : IsV (vq q) q := .inr rfl
theorem isV_int (i : Int) : IsV (.int i) (i : Rat) := .inl ⟨i, rfl, rfl⟩
theorem wr_wD (w : Wt) : WR (wD w) w := ⟨_, _, rfl, isV_vq _, isV_vq _⟩
theorem sr_sD (s : Sh) : SR (sD s) s := ⟨_, _, _, rfl, isV_vq _, isV_vq _, isV_vq _⟩
theorem wAt_ht {ws : List Wt} {k : Nat} (h : ∀ w ∈ ws, Ht w.2 k) (p : Rat) : Ht (wAt ws p) (1 + ws.length * (k + 1)) := by
  unfold wAt
  have h1 := sumQ_ht (k := k) (qs := (ws.filter fun w => decide (w.1 = p)).map (·.2)) fun q hq => by
    obtain ⟨w, hw, rfl⟩ := List.mem_map.mp hq
    exact h w (List.mem_filter.mp hw).1
  refine h1.up ?_
  rw [List.length_map]
  have := Nat.mul_le_mul (List.length_filter_le (fun w => decide (w.1 = p)) ws) (Nat.le_refl (k + 1))
  omega
end Bk
/-! Vb6: slices, two fors, instances: combinators run. -/
namespace Bk
open PySem L2
theorem xlc2L_fl {β : Type} {tg tg1 : D → Gam → Option Gam} {c c1 : M Bool} {it1 : M (List D)} {e : M R} {vs vs1 : List Nat} {G : Gam} {en : β → D} (f : β → List D) : ∀ {xs : List β},
    (∀ x ∈ xs, ∃ G1 G2 G3 ds1, tg (en x) G = some G1 ∧ c G1 = some (true, G1) ∧ it1 G1 = some (ds1, G2) ∧ xlcL tg1 c1 e vs1 ds1 (wipeG G2 vs1) = some (f x, G3) ∧ wipeG G3 vs = G) →
    xlc2L tg c it1 tg1 c1 e vs vs1 (xs.map en) G = some (xs.flatMap f, G)
  | [], _ => rfl
  | x :: xs, h => by
    obtain ⟨G1, G2, G3, ds1, h1, h2, h3, h4, h5⟩ := h x List.mem_cons_self
    have ih := xlc2L_fl (c := c) (it1 := it1) f (xs := xs) fun y hy => h y (List.mem_cons_of_mem _ hy)
    show xlc2L tg c it1 tg1 c1 e vs vs1 (en x :: xs.map en) G = _
    unfold xlc2L
    rw [h1]
    simp only [bd_some, h2, if_true, h3, h4, h5, ih, List.flatMap_cons]
theorem xlc2_un {it it1 : M (List D)} {tg tg1 : D → Gam → Option Gam} {c c1 : M Bool} {e : M R} {vs vs1 : List Nat} {G0 G : Gam} {ds out : List D} (h1 : it G0 = some (ds, G)) (h2 : noMu G vs = true) (hw : wipeG G vs = G) (hu : unw G G vs = G)
    (h3 : xlc2L tg c it1 tg1 c1 e vs vs1 ds G = some (out, G)) (hf : out.length ≤ 100000) : xlc2 it tg c it1 tg1 c1 e vs vs1 G0 = some (.ol out, G) := by
  unfold xlc2
  rw [h1]
  simp only [bd_some, h2, if_true, hw, h3, fewl hf, hu]
theorem xsl_ok {o : D → Option Int → Option Int → Option R} {a : M R} {l h : MO} {G G1 G2 G3 : Gam} {x r : R} {i j : Option Int} (ha : a G = some (x, G1)) (hl : l G1 = some (i, G2)) (hh : h G2 = some (j, G3)) (ho : o x.d i j = some r) : xsl o a l h G = some (r, G3) := by
  unfold xsl
  rw [ha]
  simp only [bd_some, hl, hh, ho]
theorem cut_tail (xs : List D) : cutD xs (some 1) none = xs.tail := by
  unfold cutD
  rw [HT.sIx_none]
  have e : HT.sIx xs.length 0 (some 1) = min 1 xs.length := HT.sIx_nat _ _ 1
  rw [e]
  cases xs with
  | nil => rfl
  | cons x xs =>
    have : min 1 (x :: xs).length = 1 := by rw [List.length_cons]; omega
    rw [this, List.drop_one, List.tail_cons, List.length_cons, Nat.add_sub_cancel, List.take_length]
theorem cut_init (xs : List D) : cutD xs none (some (-1)) = xs.dropLast := by
  unfold cutD
  rw [HT.sIx_none]
  have e : HT.sIx xs.length xs.length (some (-1)) = xs.length - 1 := by
    show (if (-1 : Int) < 0 then ((-1 : Int) + (xs.length : Int)).toNat else min (-1 : Int).toNat xs.length) = _
    rw [if_pos (by decide)]
    omega
  rw [e, List.dropLast_eq_take]
  rfl
theorem atI_last {α : Type} {xs : List α} {x : α} (h : xs.getLast? = some x) : atI xs (-1) = some x := by
  have e := getLast_split h
  have hl : 0 < xs.length := by rw [e]; simp
  unfold atI ixN
  rw [if_neg (by decide), if_pos (by omega)]
  have e2 : (-1 + (xs.length : Int)).toNat = xs.length - 1 := by omega
  rw [e2]
  show xs[xs.length - 1]? = _
  rw [← List.getLast?_eq_getElem?, h]
def pD (p : Rat × Rat) : D := .tup [vq p.1, vq p.2]
theorem lsStep_len (ss acc : List Sh) (lo hi : Rat) : (lsStep ss acc lo hi).length ≤ acc.length + 1 := by
  unfold lsStep
  split
  · split
    · rw [List.length_append, List.length_dropLast, List.length_singleton]; omega
    · rw [List.length_append, List.length_singleton]; omega
  · rw [List.length_append, List.length_singleton]; omega
theorem lsGo_len (ss : List Sh) : ∀ (pts : List Rat) (acc : List Sh), (lsGo ss acc pts).length ≤ acc.length + pts.length
  | [], acc => by unfold lsGo; omega
  | [_], acc => by unfold lsGo; omega
  | lo :: hi :: r, acc => by
    show (lsGo ss (lsStep ss acc lo hi) (hi :: r)).length ≤ _
    have := lsGo_len ss (hi :: r) (lsStep ss acc lo hi)
    have := lsStep_len ss acc lo hi
    simp only [List.length_cons] at *
    omega
theorem sAt_ht {ss : List Sh} {k : Nat} (h : ∀ s ∈ ss, Ht s.2.2 k) (lo hi : Rat) : Ht (sAt ss lo hi) (1 + ss.length * (k + 1)) := by
  unfold sAt
  have h1 := sumQ_ht (k := k) (qs := (ss.filter (sIn lo hi)).map (·.2.2)) fun q hq => by
    obtain ⟨w, hw, rfl⟩ := List.mem_map.mp hq
    exact h w (List.mem_filter.mp hw).1
  refine h1.up ?_
  rw [List.length_map]
  have := Nat.mul_le_mul (List.length_filter_le (sIn lo hi) ss) (Nat.le_refl (k + 1))
  omega
theorem ends_len (ss : List Sh) : (ends ss).length = ss.length * 2 := by
  unfold ends
  induction ss with
  | nil => rfl
  | cons s ss ih => rw [List.flatMap_cons, List.length_append, ih]; simp only [List.length_cons, List.length_nil]; omega
end Bk
/-! Vb7: instances made; polynomials. -/
namespace Bk
open PySem L2
theorem xasgF_ok {j c i k : Nat} {a : M R} {G G1 G2 G3 : Gam} {d d' : D} (h : a G = some (.im (.tup [d, d']), G1)) (h2 : putA j c i d G1 = some G2) (h3 : putA j c k d' G2 = some G3) : xasgF j c i k a G = some (.nx, G3) := by
  unfold xasgF
  rw [h]
  simp only [bd_some, R.d, h2, h3]
theorem xsetf_ok {j c i : Nat} {a : M R} {G G1 G2 : Gam} {r : R} (h : a G = some (r, G1)) (h2 : putA j c i r.d G1 = some G2) : xsetf j c i a G = some (.nx, G2) := by
  unfold xsetf
  rw [h]
  simp only [bd_some, h2]
theorem xmake_ok {c : Nat} {m : Mob → List D → Option (R × Mob)} {dds : List D} {a : M (List D)} {G G1 : Gam} {xs : List D} {m' : Mob} (h : a G = some (xs, G1)) (hm : m (.o c []) (xs ++ dds) = some (.im .non, m')) : xmake c m dds a G = some (.ow m', G1) := by
  unfold xmake
  rw [h]
  simp only [bd_some, hm]
theorem xfld_ok {c i : Nat} {a : M R} {G G1 : Gam} {ds : List D} {d : D} {r : R} (h : a G = some (r, G1)) (hr : r.d = .obj c ds) (hd : ds[i]? = some d) : xfld c i a G = some (.im d, G1) := by
  unfold xfld
  rw [h]
  simp only [bd_some, hr, if_true, hd]
theorem xrev_ok {a b : M R} {G G1 G2 : Gam} {x y : R} {ds : List D} (h : a G = some (x, G1)) (h2 : b G1 = some (y, G2)) (hx : asL x.d = some ds) (hy : y.d = .int (-1)) : xrev a b G = some (.ol ds.reverse, G2) := by
  unfold xrev
  rw [h]
  simp only [bd_some, h2, hx, hy, if_true]
theorem bools_true {α : Type} : ∀ l : List α, bools (l.map fun _ => D.bl true) = some (l.map fun _ => true)
  | [] => rfl
  | x :: l => by
    show bools (D.bl true :: l.map fun _ => D.bl true) = _
    unfold bools
    rw [bools_true l]
    rfl
theorem all_true {α : Type} (l : List α) : cbAll [.lst (l.map fun _ => D.bl true)] = some (.im (.bl true)) := by
  show (bools (l.map fun _ => D.bl true)).map (fun bs => R.im (.bl (bs.all id))) = _
  rw [bools_true]
  have : (l.map fun _ => true).all id = true := by simp
  show some (R.im (.bl ((l.map fun _ => true).all id))) = _
  rw [this]
/-- d holds a list or a tuple of ds -/
def isSq (d : D) (ds : List D) : Prop := d = .lst ds ∨ d = .tup ds ∨ d = .frz ds
theorem isSq.seq {d : D} {ds : List D} (h : isSq d ds) : seqD d = some ds := by
  rcases h with rfl | rfl | rfl <;> rfl
def rlL (lo hi : Rat) (ws : List Wt) (ss : List Sh) : List D := [vq lo, vq hi, .tup (ws.map wD), .tup (ss.map sD)]
def hor (cs : List Rat) (x : Rat) : Rat := cs.foldr (fun c a => a * x + c) 0
def apow : Nat → List Rat → List Rat
  | _, [] => []
  | i, c :: cs => c / (((i : Int) + 1 : Int) : Rat) :: apow (i + 1) cs
def areaP (cs : List Rat) : List Rat := 0 :: apow 0 cs
def tol (ws : List Wt) (ss : List Sh) (cs : List Rat) : Rat := wval (hor cs) ws + sval (hor (areaP cs)) ss
theorem hor_ht {cs : List Rat} {x : Rat} {kc kx : Nat} (hc : ∀ c ∈ cs, Ht c kc) (hx : Ht x kx) : Ht (hor cs x) (1 + cs.length * (kx + kc + 1)) := by
  induction cs with
  | nil => exact ht0.up (by simp)
  | cons c cs ih =>
    have h1 := ih fun y hy => hc y (List.mem_cons_of_mem _ hy)
    show Ht (hor cs x * x + c) _
    have := (h1.mul hx).add (hc c List.mem_cons_self)
    refine this.up ?_
    rw [List.length_cons, Nat.add_mul]
    omega
theorem hor_rev (cs : List Rat) (x : Rat) : cs.reverse.foldl (fun a c => a * x + c) 0 = hor cs x := by
  unfold hor
  rw [List.foldl_reverse]
theorem apow_len : ∀ (i : Nat) (cs : List Rat), (apow i cs).length = cs.length
  | _, [] => rfl
  | i, c :: cs => by show (apow (i + 1) cs).length + 1 = _; rw [apow_len (i + 1) cs]; rfl
theorem idx_ht {i ki : Nat} (h : i + 1 < 2 ^ ki) : Ht ((((i : Int) + 1 : Int)) : Rat) ki := Ht.int (by unfold Sm; omega) (by
  rcases Nat.eq_zero_or_pos ki with rfl | z
  · simp at h
  · exact z)
theorem idx_ne (i : Nat) : ((((i : Int) + 1 : Int)) : Rat) ≠ 0 := fun h => by
  have := Rat.intCast_eq_zero_iff.mp h
  omega
theorem apow_ht {kc ki : Nat} : ∀ {i : Nat} {cs : List Rat}, (∀ c ∈ cs, Ht c kc) → i + cs.length < 2 ^ ki → ∀ c ∈ apow i cs, Ht c (kc + ki)
  | _, [], _, _, c, h => by simp [apow] at h
  | i, x :: cs, hc, hi, c, h => by
    rcases List.mem_cons.mp h with rfl | h
    · exact (hc x List.mem_cons_self).div (idx_ht (by rw [List.length_cons] at hi; omega)) (idx_ne i)
    · exact apow_ht (i := i + 1) (fun y hy => hc y (List.mem_cons_of_mem _ hy)) (by rw [List.length_cons] at hi; omega) c h
theorem areaP_ht {kc ki : Nat} {cs : List Rat} (hc : ∀ c ∈ cs, Ht c kc) (hi : cs.length < 2 ^ ki) : ∀ c ∈ areaP cs, Ht c (kc + ki + 1) := fun c h => by
  rcases List.mem_cons.mp h with rfl | h
  · exact ht0.up (by omega)
  · exact (apow_ht (ki := ki) hc (by omega) c h).up (by omega)
end Bk
namespace Bk
/-- sizes that let the sum of a rule be told -/
structure TolOk (ws : List Wt) (ss : List Sh) (cs : List Rat) (kp kw kc ki : Nat) : Prop where
  w : ∀ w ∈ ws, Ht w.1 kp ∧ Ht w.2 kw
  s : ∀ s ∈ ss, Ht s.1 kp ∧ Ht s.2.1 kp ∧ Ht s.2.2 kw
  c : ∀ c ∈ cs, Ht c kc
  i : cs.length < 2 ^ ki
  t : 1 + (ws.length + ss.length) * ((kw + 2 * (1 + (cs.length + 1) * (kp + kc + ki + 2)) + 1) + 1) + (kw + 2 * (1 + (cs.length + 1) * (kp + kc + ki + 2)) + 1) + (kp + kc + ki) < 8990
def tolL (ws : List Wt) (ss : List Sh) (cs : List Rat) : List Rat := (ws.map fun w => w.2 * hor cs w.1) ++ ss.map fun s => s.2.2 * (hor (areaP cs) s.2.1 - hor (areaP cs) s.1)
theorem tolL_sum (ws : List Wt) (ss : List Sh) (cs : List Rat) : sumQ (tolL ws ss cs) = tol ws ss cs := by
  unfold tolL tol wval sval sumM
  rw [sumQ_app]
theorem TolOk.hor {ws : List Wt} {ss : List Sh} {cs : List Rat} {kp kw kc ki : Nat} (t : TolOk ws ss cs kp kw kc ki) {x : Rat} (hx : Ht x kp) : Ht (hor cs x) (1 + (cs.length + 1) * (kp + kc + ki + 2)) := by
  refine (hor_ht t.c hx).up ?_
  have : cs.length * (kp + kc + 1) ≤ (cs.length + 1) * (kp + kc + ki + 2) := Nat.mul_le_mul (by omega) (by omega)
  omega
theorem areaP_len (cs : List Rat) : (areaP cs).length = cs.length + 1 := by
  show (apow 0 cs).length + 1 = _
  rw [apow_len]
theorem TolOk.horA {ws : List Wt} {ss : List Sh} {cs : List Rat} {kp kw kc ki : Nat} (t : TolOk ws ss cs kp kw kc ki) {x : Rat} (hx : Ht x kp) : Ht (Bk.hor (areaP cs) x) (1 + (cs.length + 1) * (kp + kc + ki + 2)) := by
  refine (hor_ht (areaP_ht t.c t.i) hx).up ?_
  rw [areaP_len]
  have : (cs.length + 1) * (kp + (kc + ki + 1) + 1) ≤ (cs.length + 1) * (kp + kc + ki + 2) := Nat.mul_le_mul (Nat.le_refl _) (by omega)
  omega
theorem tolL_ht {ws : List Wt} {ss : List Sh} {cs : List Rat} {kp kw kc ki : Nat} (t : TolOk ws ss cs kp kw kc ki) : ∀ q ∈ tolL ws ss cs, Ht q (kw + 2 * (1 + (cs.length + 1) * (kp + kc + ki + 2)) + 1) := fun q hq => by
  rcases List.mem_append.mp hq with h | h
  · obtain ⟨w, hw, rfl⟩ := List.mem_map.mp h
    exact ((t.w w hw).2.mul (t.hor (t.w w hw).1)).up (by omega)
  · obtain ⟨s, hs, rfl⟩ := List.mem_map.mp h
    exact ((t.s s hs).2.2.mul ((t.horA (t.s s hs).2.1).sub (t.horA (t.s s hs).1))).up (by omega)
theorem tolL_len (ws : List Wt) (ss : List Sh) (cs : List Rat) : (tolL ws ss cs).length = ws.length + ss.length := by
  unfold tolL
  rw [List.length_append, List.length_map, List.length_map]
theorem TolOk.ht {ws : List Wt} {ss : List Sh} {cs : List Rat} {kp kw kc ki : Nat} (t : TolOk ws ss cs kp kw kc ki) : Ht (tol ws ss cs) 8990 := by
  rw [← tolL_sum]
  refine (sumQ_ht (tolL_ht t)).up ?_
  rw [tolL_len]
  have := t.t
  omega
def fac (n : Nat) : Nat := (List.range n).foldl (fun a i => a * (i + 1)) 1
def PR (d : D) (c : Rat) : Prop := IsV d c
end Bk
/-! Vb8: powers; the law's ordered list; turns that draw. -/
namespace Bk
open PySem L2
def rpow (q : Rat) : Nat → Rat
  | 0 => 1
  | n + 1 => rpow q n * q
theorem rpow_divInt (q : Rat) : ∀ n : Nat, Rat.divInt (q.num ^ n) ((q.den : Int) ^ n) = rpow q n
  | 0 => by simp [rpow]; rfl
  | n + 1 => by
    rw [Int.pow_succ, Int.pow_succ, ← Rat.divInt_mul_divInt, rpow_divInt q n, divInt_self]
    rfl
theorem sm_pow {a : Int} {k : Nat} (h : Sm a k) : ∀ n : Nat, Sm (a ^ n) (n * k + 1)
  | 0 => by unfold Sm; simp
  | n + 1 => by
    rw [Int.pow_succ]
    have := (sm_pow h n).mul h
    exact this.up (by rw [Nat.add_mul]; omega)
theorem rpow_ht {q : Rat} {k : Nat} (h : Ht q k) (n : Nat) : Ht (rpow q n) (n * k + 1) := by
  rw [← rpow_divInt]
  exact ht_divInt (Int.pow_ne_zero (den_ne q)) (sm_pow h.1 n) (sm_pow h.2 n)
theorem hor_zeros (c x : Rat) : ∀ n : Nat, hor (List.replicate n 0 ++ [c]) x = c * rpow x n
  | 0 => by show 0 * x + c = c * 1; grind
  | n + 1 => by
    show hor (List.replicate n 0 ++ [c]) x * x + 0 = c * (rpow x n * x)
    rw [hor_zeros c x n]
    grind
def mono (n : Nat) : List Rat := List.replicate n 0 ++ [1]
theorem hor_mono (n : Nat) (x : Rat) : hor (mono n) x = rpow x n := by
  unfold mono
  rw [hor_zeros]
  grind
theorem apow_mono : ∀ (n i : Nat), apow i (mono n) = List.replicate n (0 : Rat) ++ [(1 : Rat) / (((((i + n : Nat) : Int) + 1 : Int)) : Rat)]
  | 0, i => rfl
  | n + 1, i => by
    show (0 : Rat) / _ :: apow (i + 1) (mono n) = _
    rw [apow_mono n (i + 1), Rat.div_def, Rat.zero_mul, List.replicate_succ]
    have : i + 1 + n = i + (n + 1) := by omega
    rw [this]
    rfl
theorem hor_areaP (n : Nat) (x : Rat) : hor (areaP (mono n)) x = (1 / (((n : Int) + 1 : Int) : Rat)) * rpow x (n + 1) := by
  unfold areaP
  rw [apow_mono, Nat.zero_add, ← List.cons_append, ← List.replicate_succ, hor_zeros]
/-! a list kept in order -/
def cntL (x : Rat) (l : List Rat) : Nat := (l.filter fun y => decide (y < x)).length
theorem cntL_zero {x : Rat} : ∀ {l : List Rat}, (∀ y ∈ l, ¬ y < x) → cntL x l = 0
  | [], _ => rfl
  | y :: l, h => by
    unfold cntL
    rw [List.filter_cons, if_neg (by simpa using h y List.mem_cons_self)]
    exact cntL_zero fun z hz => h z (List.mem_cons_of_mem _ hz)
theorem insU_cnt (x : Rat) : ∀ {l : List Rat}, l.Pairwise (· < ·) → insU x l = if (l.drop (cntL x l)).take 1 = [x] then l else l.take (cntL x l) ++ [x] ++ l.drop (cntL x l)
  | [], _ => rfl
  | y :: r, h => by
    have h1 := List.pairwise_cons.mp h
    have ih := insU_cnt x h1.2
    unfold insU
    split
    · rename_i hx
      have e : cntL x (y :: r) = 0 := cntL_zero fun z hz => by
        rcases List.mem_cons.mp hz with rfl | hz
        · grind
        · have := h1.1 z hz; grind
      rw [e]
      have : ¬ y = x := by grind
      simp [this]
    · split
      · rename_i hx hy
        subst hy
        have e : cntL x (x :: r) = 0 := cntL_zero fun z hz => by
          rcases List.mem_cons.mp hz with rfl | hz
          · grind
          · have := h1.1 z hz; grind
        rw [e]
        simp
      · rename_i hx hy
        have hlt : y < x := by grind
        have e : cntL x (y :: r) = cntL x r + 1 := by
          unfold cntL
          rw [List.filter_cons, if_pos (by simpa using hlt), List.length_cons]
        rw [e, List.drop_succ_cons, List.take_succ_cons, ih]
        split
        · rfl
        · rfl
def insAll (l acc : List Rat) : List Rat := l.foldl (fun a x => insU x a) acc
theorem insAll_ok : ∀ (l acc : List Rat), acc.Pairwise (· < ·) → (insAll l acc).Pairwise (· < ·) ∧ ∀ q, q ∈ insAll l acc ↔ q ∈ l ∨ q ∈ acc
  | [], acc, h => ⟨h, fun q => by simp [insAll]⟩
  | x :: l, acc, h => by
    obtain ⟨a, b⟩ := insAll_ok l (insU x acc) (insU_sorted h)
    refine ⟨a, fun q => ?_⟩
    show q ∈ insAll l (insU x acc) ↔ _
    rw [b, mem_insU, List.mem_cons]
    constructor
    · rintro (z | z | z)
      · exact .inl (.inr z)
      · exact .inl (.inl z)
      · exact .inr z
    · rintro ((z | z) | z)
      · exact .inr (.inl z)
      · exact .inl z
      · exact .inr (.inr z)
theorem insAll_asc (l : List Rat) : insAll l [] = asc l := by
  obtain ⟨a, b⟩ := insAll_ok l [] .nil
  exact sorted_uniq a (asc_sorted l) fun q => by rw [b, mem_asc]; simp
theorem insAll_len : ∀ (l acc : List Rat), (insAll l acc).length ≤ acc.length + l.length
  | [], acc => Nat.le_refl _
  | x :: l, acc => by
    have := insAll_len l (insU x acc)
    have := insU_len x acc
    show (insAll l (insU x acc)).length ≤ _
    rw [List.length_cons]
    omega
theorem ne_lst1 (l : List Rat) (x : Rat) (h : l.length ≤ 1) : opNe (.lst (l.map vq)) (.lst [vq x]) = some (.im (.bl (!decide (l = [x])))) := by
  match l with
  | [] => rfl
  | [y] =>
    have e : eqD (.lst [vq y]) (.lst [vq x]) = some (PyData.eqv (.list [pyq y]) (.list [pyq x])) := rfl
    have e2 : PyData.eqv (.list [pyq y]) (.list [pyq x]) = PyData.eqv (pyq y) (pyq x) := by simp [PyData.eqv, PyData.eqvAll]
    have e3 := eqv_vq y x
    rw [show eqD (vq y) (vq x) = some (PyData.eqv (pyq y) (pyq x)) from rfl] at e3
    have e4 := Option.some.inj e3
    show (match eqD (.lst [vq y]) (.lst [vq x]) with | some k => some (R.im (.bl (!k))) | none => none) = _
    rw [e, e2, e4]
    simp
  | _ :: _ :: _ => simp at h
theorem cut_nat {xs : List D} {i j : Nat} (h : i ≤ j) : cutD xs (some (i : Int)) (some (j : Int)) = (xs.drop i).take (j - i) := by
  unfold cutD
  rw [HT.sIx_nat, HT.sIx_nat]
  by_cases z : xs.length ≤ i
  · rw [List.drop_eq_nil_of_le (by omega), List.drop_eq_nil_of_le z]
    simp
  · rw [Nat.min_eq_left (by omega : i ≤ xs.length)]
    by_cases y : j ≤ xs.length
    · rw [Nat.min_eq_left y]
    · rw [Nat.min_eq_right (by omega), List.take_of_length_le (by rw [List.length_drop]; omega), List.take_of_length_le (by rw [List.length_drop]; omega)]
theorem xby_mu {i : Nat} {a b : M R} {G : Gam} {o : Option (R × Gam)} (h : isMu G i = true) (h2 : a G = o) : xby i a b G = o := by
  unfold xby
  rw [if_pos h, h2]
theorem xlcv_ok {i : Nat} {tg : D → Gam → Option Gam} {t : M Bool} {e : M R} {vs : List Nat} {G G1 G2 : Gam} {ds out : List D} {en : Ent} (h : G[i]? = some en) (h0 : en.mu = some (.l ds)) (h1 : G.set i .un = G1) (h2 : noMu G1 vs = true) (hw : wipeG G1 vs = G1)
    (h3 : xlcL tg t e vs ds G1 = some (out, G1)) (hf : out.length ≤ 100000) (hu : isUn (unw G1 G1 vs) i = true) (hg : (unw G1 G1 vs).set i en = G2) : xlcv i tg t e vs G = some (.ol out, G2) := by
  unfold xlcv
  simp only [h, h0, h1, h2, if_true, hw, h3, bd_some, fewl hf, hu, Bool.and_self, hg]
theorem xslv_ok {i : Nat} {l h : MO} {G G1 G2 : Gam} {a b : Option Int} {en : Ent} {ds : List D} (h0 : isMu G i = true) (hl : l G = some (a, G1)) (hh : h G1 = some (b, G2)) (hi : G2[i]? = some en) (hm : en.mu = some (.l ds)) : xslv i l h G = some (.ol (cutD ds a b), G2) := by
  unfold xslv slv
  rw [if_pos h0]
  simp only [hl, bd_some, hh, hi, hm]
theorem xmut_ok {j : Nat} {f : List D → List D → Option (D × List D)} {as : M (List D)} {G G1 G2 : Gam} {xs ds ds' : List D} {d : D} {en : Ent} (h0 : isLst G j = true) (h : as G = some (xs, G1)) (hi : G1[j]? = some en) (hm : en.mu = some (.l ds)) (hf : f ds xs = some (d, ds')) (e : G1.set j (en.with (.l ds')) = G2) : xmut j f as G = some (.im d, G2) := by
  unfold xmut
  rw [if_pos h0]
  simp only [h, bd_some, hi, hm, hf, e]
theorem xdrop_ok {a : M R} {G G1 : Gam} {r : R} (h : a G = some (r, G1)) : xdrop a G = some (.nx, G1) := by
  unfold xdrop
  rw [h]
  rfl
/-- turns that draw: each leaves a word to stand, and gives a thing that is as asked -/
theorem xlcL_ex {tg : D → Gam → Option Gam} {e : M R} {vs : List Nat} (Inv : Gam → Prop) (Qd : D → Prop) : ∀ {ds : List D} {G : Gam}, Inv G → (∀ d ∈ ds, ∀ G, Inv G → ∃ G1 r G2, tg d G = some G1 ∧ e G1 = some (r, G2) ∧ Qd r.d ∧ Inv (wipeG G2 vs)) →
    ∃ out G', xlcL tg xtyes e vs ds G = some (out, G') ∧ Inv G' ∧ (∀ d ∈ out, Qd d) ∧ out.length = ds.length
  | [], G, h, _ => ⟨[], G, rfl, h, (by simp), rfl⟩
  | d :: ds, G, h, hs => by
    obtain ⟨G1, r, G2, h1, h2, h3, h4⟩ := hs d List.mem_cons_self G h
    obtain ⟨out, G', i1, i2, i3, i4⟩ := xlcL_ex (tg := tg) (e := e) (vs := vs) Inv Qd h4 fun z hz => hs z (List.mem_cons_of_mem _ hz)
    refine ⟨r.d :: out, G', ?_, i2, fun z hz => ?_, by rw [List.length_cons, i4, List.length_cons]⟩
    · unfold xlcL
      rw [h1]
      simp only [bd_some, xtyes, if_true, h2]
      have i1' := i1
      unfold xtyes at i1'
      first
        | rw [i1']; rfl
        | rw [i1]; rfl
    · rcases List.mem_cons.mp hz with rfl | hz
      · exact h3
      · exact i3 z hz
theorem enc_of {α : Type} {en : α → D} {P : α → Prop} : ∀ {out : List D}, (∀ d ∈ out, ∃ x, d = en x ∧ P x) → ∃ xs : List α, out = xs.map en ∧ ∀ x ∈ xs, P x
  | [], _ => ⟨[], rfl, by simp⟩
  | d :: out, h => by
    obtain ⟨x, hx, px⟩ := h d List.mem_cons_self
    obtain ⟨xs, e, p⟩ := enc_of (out := out) fun z hz => h z (List.mem_cons_of_mem _ hz)
    refine ⟨x :: xs, by rw [hx, e]; rfl, fun y hy => ?_⟩
    rcases List.mem_cons.mp hy with rfl | hy
    · exact px
    · exact p y hy
end Bk
namespace Bk
def facI : Nat → Int
  | 0 => 1
  | n + 1 => facI n * ((n : Int) + 1)
structure Drn (lo hi : Rat) (ws : List Wt) (ss : List Sh) (m p : Nat) : Prop where
  lo2 : Ht lo 2
  hi5 : Ht hi 5
  lt : lo < hi
  w : ∀ w ∈ ws, Ht w.1 14 ∧ Ht w.2 4 ∧ lo ≤ w.1 ∧ w.1 ≤ hi
  s : ∀ s ∈ ss, Ht s.1 14 ∧ Ht s.2.1 14 ∧ Ht s.2.2 4 ∧ lo ≤ s.1 ∧ s.1 < s.2.1 ∧ s.2.1 ≤ hi
  wl : ws.length ≤ m
  sl : ss.length ≤ p
theorem ht_of {n : Int} {d : Nat} {k : Nat} (q : Rat) (h : q.num = n) (h' : q.den = d) (hn : n.natAbs < 2 ^ k) (hd : d < 2 ^ k) : Ht q k := ⟨by unfold Sm; rw [h]; exact hn, by unfold Sm; rw [h', Int.natAbs_natCast]; exact hd⟩
def ofpL (ws : List Wt) (ss : List Sh) (j : Nat) : List Rat := (ws.map fun w => w.2 * rpow w.1 j) ++ ss.map fun s => s.2.2 * ((rpow s.2.1 (j + 1) - rpow s.1 (j + 1)) * (1 / (((j : Int) + 1 : Int) : Rat)))
theorem inv_vq {j : Nat} (h : j < 8) : D.tup [.int 1, .int ((j : Int) + 1)] = vq (1 / (((j : Int) + 1 : Int) : Rat)) ∧ Ht (1 / (((j : Int) + 1 : Int) : Rat)) 4 := by
  have key : ∀ n : Int, ∀ d : Nat, n.natAbs < 16 → d < 16 → ∀ q : Rat, q.num = n → q.den = d → D.tup [.int n, .int (d : Int)] = vq q ∧ Ht q 4 := fun n d hn hd q h1 h2 => ⟨by unfold vq; rw [h1, h2], ht_of q h1 h2 hn hd⟩
  rcases j with _ | _ | _ | _ | _ | _ | _ | _ | j
  · exact key 1 1 (by decide) (by decide) _ (by decide +kernel) (by decide +kernel)
  · exact key 1 2 (by decide) (by decide) _ (by decide +kernel) (by decide +kernel)
  · exact key 1 3 (by decide) (by decide) _ (by decide +kernel) (by decide +kernel)
  · exact key 1 4 (by decide) (by decide) _ (by decide +kernel) (by decide +kernel)
  · exact key 1 5 (by decide) (by decide) _ (by decide +kernel) (by decide +kernel)
  · exact key 1 6 (by decide) (by decide) _ (by decide +kernel) (by decide +kernel)
  · exact key 1 7 (by decide) (by decide) _ (by decide +kernel) (by decide +kernel)
  · exact key 1 8 (by decide) (by decide) _ (by decide +kernel) (by decide +kernel)
  · omega
theorem facI_ht {n : Nat} (h : n < 8) : Ht ((facI n : Int) : Rat) 13 ∧ ((facI n : Int) : Rat) ≠ 0 := by
  rcases n with _ | _ | _ | _ | _ | _ | _ | _ | n
  all_goals first
    | (exact ⟨Ht.int (by unfold Sm; decide) (by decide), fun z => by have := Rat.intCast_eq_zero_iff.mp z; revert this; decide⟩)
    | omega
end Bk
/-! Vb9: a rule brought to least form tells the same; its parts' sizes; texts of fractions. -/
namespace Bk
open PySem L2
theorem tol_same (ws : List Wt) (ss : List Sh) (cs : List Rat) (h : ∀ s ∈ ss, s.1 ≤ s.2.1) : tol (lwOf ws) (lsOf ss) cs = tol ws ss cs := by
  unfold tol
  rw [wval_lw, sval_ls _ _ h]
theorem tol_ofp (ws : List Wt) (ss : List Sh) (n : Nat) : tol ws ss (mono n) = sumQ (ofpL ws ss n) := by
  unfold tol wval sval ofpL
  rw [sumQ_app]
  congr 1
  · exact sumM_congr fun w _ => by rw [hor_mono]
  · exact sumM_congr fun s _ => by rw [hor_areaP, hor_areaP]; grind
theorem lwOf_mem {ws : List Wt} {w : Wt} (h : w ∈ lwOf ws) : w.1 ∈ ws.map (·.1) ∧ w.2 = wAt ws w.1 ∧ w.2 ≠ 0 := by
  unfold lwOf at h
  obtain ⟨h1, h2⟩ := List.mem_filter.mp h
  obtain ⟨p, hp, rfl⟩ := List.mem_map.mp h1
  exact ⟨mem_asc.mp hp, rfl, by simpa using h2⟩
theorem lsGo_all {ss : List Sh} (P W : Rat → Prop) (hw : ∀ lo hi, W (sAt ss lo hi)) : ∀ (pts : List Rat) (acc : List Sh), (∀ p ∈ pts, P p) → (∀ s ∈ acc, P s.1 ∧ P s.2.1 ∧ W s.2.2) → ∀ s ∈ lsGo ss acc pts, P s.1 ∧ P s.2.1 ∧ W s.2.2
  | [], acc, _, ha => by unfold lsGo; exact ha
  | [_], acc, _, ha => by unfold lsGo; exact ha
  | lo :: hi :: r, acc, hp, ha => by
    refine lsGo_all P W hw (hi :: r) (lsStep ss acc lo hi) (fun p h => hp p (List.mem_cons_of_mem _ h)) fun s hs => ?_
    have h1 := hp lo List.mem_cons_self
    have h2 := hp hi (List.mem_cons_of_mem _ List.mem_cons_self)
    unfold lsStep at hs
    split at hs
    · rename_i x hx
      have hxm : x ∈ acc := by
        rw [getLast_split hx]
        simp
      split at hs
      · rcases List.mem_append.mp hs with h | h
        · exact ha s (List.dropLast_subset _ h)
        · rw [List.mem_singleton.mp h]
          exact ⟨(ha x hxm).1, h2, hw lo hi⟩
      · rcases List.mem_append.mp hs with h | h
        · exact ha s h
        · rw [List.mem_singleton.mp h]
          exact ⟨h1, h2, hw lo hi⟩
    · rcases List.mem_append.mp hs with h | h
      · exact ha s h
      · rw [List.mem_singleton.mp h]
        exact ⟨h1, h2, hw lo hi⟩
theorem lsOf_all {ss : List Sh} (P W : Rat → Prop) (hw : ∀ lo hi, W (sAt ss lo hi)) (hp : ∀ s ∈ ss, P s.1 ∧ P s.2.1) : ∀ s ∈ lsOf ss, P s.1 ∧ P s.2.1 ∧ W s.2.2 := fun s hs => by
  unfold lsOf at hs
  obtain ⟨h1, _⟩ := List.mem_filter.mp hs
  refine lsGo_all P W hw _ [] (fun p h => ?_) (by simp) s h1
  obtain ⟨t, ht, h⟩ := List.mem_flatMap.mp (mem_asc.mp h)
  simp only [List.mem_cons, List.not_mem_nil, or_false] at h
  rcases h with rfl | rfl
  · exact (hp t ht).1
  · exact (hp t ht).2
theorem lsOf_len (ss : List Sh) : (lsOf ss).length ≤ ss.length * 2 := by
  unfold lsOf
  refine Nat.le_trans (List.length_filter_le _ _) ?_
  have h1 := lsGo_len ss (asc (ends ss)) []
  have h2 := asc_len (ends ss)
  rw [ends_len] at h2
  rw [List.length_nil] at h1
  omega
theorem lwOf_len (ws : List Wt) : (lwOf ws).length ≤ ws.length := by
  unfold lwOf
  refine Nat.le_trans (List.length_filter_le _ _) ?_
  rw [List.length_map]
  have := asc_len (ws.map (·.1))
  rw [List.length_map] at this
  exact this
theorem lwOf_ht {ws : List Wt} {kp kw : Nat} (h : ∀ w ∈ ws, Ht w.1 kp ∧ Ht w.2 kw) : ∀ w ∈ lwOf ws, Ht w.1 kp ∧ Ht w.2 (1 + ws.length * (kw + 1)) := fun w hw => by
  obtain ⟨a, b, _⟩ := lwOf_mem hw
  obtain ⟨x, hx, e⟩ := List.mem_map.mp a
  have ha := (h x hx).1
  rw [e] at ha
  refine ⟨ha, ?_⟩
  rw [b]
  exact wAt_ht (fun w hw => (h w hw).2) _
theorem lsOf_ht {ss : List Sh} {kp kw : Nat} (h : ∀ s ∈ ss, Ht s.1 kp ∧ Ht s.2.1 kp ∧ Ht s.2.2 kw) : ∀ s ∈ lsOf ss, Ht s.1 kp ∧ Ht s.2.1 kp ∧ Ht s.2.2 (1 + ss.length * (kw + 1)) :=
  lsOf_all (fun q => Ht q kp) (fun q => Ht q (1 + ss.length * (kw + 1))) (fun lo hi => sAt_ht (fun s hs => (h s hs).2.2) lo hi) fun s hs => ⟨(h s hs).1, (h s hs).2.1⟩
/-! texts -/
theorem repr_vq {k : Nat} (hk : 8 ≤ k) (h9 : k < 1900) {q : Rat} (h : Ht q k) : cbRepr [vq q] = some (.im (.str (PyData.shown (pyq q)))) := by
  have e : toPy (vq q) = some (pyq q) := rfl
  have a1 := leaf_short h.1 (by omega)
  have a2 := leaf_short h.2 (by omega)
  have b1 := weight_int h.1 (by omega)
  have b2 := weight_int h.2 (by omega)
  have c1 := h.1.log (by omega)
  have c2 := h.2.log (by omega)
  have hs : PyData.leavesShort (k + 1) (pyq q) = true := by
    simp [pyq, PyData.leavesShort, PyData.leavesShortAll] at a1 a2 ⊢
    exact ⟨a1, a2⟩
  have hl := PyData.shown_le (k + 1) (by omega) (pyq q) hs
  have hw : PyData.weight (pyq q) ≤ 2 * k + 3 := by
    simp only [pyq]
    rw [PyData.weight]
    simp only [PyData.weightAll]
    omega
  have hm : (k + 1 + 2) * PyData.weight (pyq q) ≤ 1903 * 3803 := Nat.mul_le_mul (by omega) (by omega)
  have ok : okShow (pyq q) = true := by
    unfold okShow
    rw [Bool.and_eq_true, Bool.and_eq_true, Bool.and_eq_true]
    refine ⟨⟨⟨?_, decide_eq_true ?_⟩, decide_eq_true ?_⟩, decide_eq_true ?_⟩
    · simp [pyq, PyData.showable, PyData.showableAll] at c1 c2 ⊢
      omega
    · simp [pyq, PyData.depth, PyData.depthAll]
    · simp [pyq, PyData.hasDict, PyData.hasDictAll]
    · show _ ≤ 16777216
      omega
  unfold cbRepr
  simp only [e]
  rw [if_pos ok]
def seeds (n : Nat) : Int := if (if (n : Int) < 4 then (n : Int) else 4) > 1 then (if (n : Int) < 4 then (n : Int) else 4) else 1
theorem seeds_ok (n : Nat) : 0 < seeds n ∧ seeds n ≤ 4 := by
  unfold seeds
  split <;> (try split at *) <;> omega
theorem seeds_x {ns : List Int} {G : Gam} (h0 : G[0]? = some (.im (.frz (ns.map .int)))) : xcb cbMax2 (xcons (xc (.int 1)) (xcons (xcb cbMin2 (xcons (xc (.int 4)) (xcons (xcb cbLen (xcons (xv 0) xnil)) xnil))) xnil)) G = some (.im (.int (seeds ns.length)), G) := by
  have hlen : cbLen [.frz (ns.map .int)] = some (.im (.int ns.length)) := by
    show some (R.im (.int (((ns.map D.int).length : Nat) : Int))) = _
    rw [List.length_map]
  have hv : xv 0 G = some (.im (.frz (ns.map .int)), G) := by
    unfold xv
    rw [h0]
  exact xcb_ok (xc1 rfl (xc1 (xcb_ok (xc1 rfl (xc1 (xcb_ok (xc1 hv xnil_ok) hlen) xnil_ok)) rfl) xnil_ok)) rfl
end Bk

/-! Vf: what does not look at the names of S does not turn on them. -/
namespace Bk
open PySem L2
def Agr (S : List Nat) (G H : Gam) : Prop := G.length = H.length ∧ ∀ i, i ∉ S → G[i]? = H[i]?
def Kp (S : List Nat) (H H' : Gam) : Prop := H'.length = H.length ∧ ∀ i, i ∈ S → H'[i]? = H[i]?
def Fr {α : Type} (S : List Nat) (f : M α) : Prop := ∀ (G H : Gam), Agr S G H → ∀ r G', f G = some (r, G') → ∃ H', f H = some (r, H') ∧ Agr S G' H' ∧ Kp S H H'
variable {S : List Nat}
theorem Kp.refl {G : Gam} : Kp S G G := ⟨rfl, fun _ _ => rfl⟩
theorem Kp.trans {F G H : Gam} (h : Kp S F G) (h' : Kp S G H) : Kp S F H := ⟨h'.1.trans h.1, fun i hi => (h'.2 i hi).trans (h.2 i hi)⟩
theorem Kp.sub {T : List Nat} {G H : Gam} (h : Kp S G H) (hs : ∀ i ∈ T, i ∈ S) : Kp T G H := ⟨h.1, fun i hi => h.2 i (hs i hi)⟩
theorem Agr.set {G H : Gam} {i : Nat} {e : Ent} (h : Agr S G H) : Agr S (G.set i e) (H.set i e) := by
  refine ⟨by rw [List.length_set, List.length_set]; exact h.1, fun j hj => ?_⟩
  rw [List.getElem?_set, List.getElem?_set, h.1, h.2 j hj]
theorem kp_set {H : Gam} {i : Nat} {e : Ent} (hi : i ∉ S) : Kp S H (H.set i e) := ⟨List.length_set, fun j hj => by
  rw [List.getElem?_set, if_neg (fun z : i = j => hi (z ▸ hj))]⟩
theorem fr_keep {α : Type} {a : α} : Fr S (fun G => some (a, G)) := fun G H ag r G' h => by
  cases h
  exact ⟨H, rfl, ag, Kp.refl⟩
theorem fr_none {α : Type} : Fr S (fun _ => (none : Option (α × Gam))) := fun G H ag r G' h => nomatch h
theorem fr_bd {α β : Type} {a : M α} {f : α → M β} (ha : Fr S a) (hf : ∀ x, Fr S (f x)) : Fr S (fun G => bd (a G) fun x G1 => f x G1) := fun G H ag r G' h => by
  obtain ⟨r1, G1, h1, h2⟩ := bd_inv h
  obtain ⟨H1, h3, a3, k3⟩ := ha G H ag r1 G1 h1
  obtain ⟨H2, h4, a4, k4⟩ := hf r1 G1 H1 a3 r G' h2
  refine ⟨H2, ?_, a4, k3.trans k4⟩
  show bd (a H) _ = _
  rw [h3]
  exact h4
theorem fr_ite {α : Type} {k : Bool} {a b : M α} (ha : Fr S a) (hb : Fr S b) : Fr S (fun G => if k then a G else b G) := by
  cases k
  · exact hb
  · exact ha
theorem fr_v {i : Nat} (h : i ∉ S) : Fr S (xv i) := fun G H ag r G' e => by
  unfold xv at e ⊢
  rw [ag.2 i h] at e
  split at e
  · cases e; exact ⟨_, rfl, ag, Kp.refl⟩
  · cases e; exact ⟨_, rfl, ag.set, kp_set h⟩
  · cases e
theorem fr_mv {i : Nat} (h : i ∉ S) : Fr S (xmv i) := fun G H ag r G' e => by
  unfold xmv at e ⊢
  rw [ag.2 i h] at e
  split at e
  · cases e; exact ⟨_, rfl, ag, Kp.refl⟩
  · cases e; exact ⟨_, rfl, ag.set, kp_set h⟩
  · cases e
theorem fr_c {d : D} : Fr S (xc d) := fr_keep
theorem fr_nil : Fr S xnil := fr_keep
theorem fr_yes : Fr S xtyes := fr_keep
theorem fr_op {o : D → D → Option R} {a b : M R} (ha : Fr S a) (hb : Fr S b) : Fr S (xop o a b) := fr_bd ha fun x => fr_bd hb fun y => by
  cases o x.d y.d
  · exact fr_none
  · exact fr_keep
theorem fr_un {o : D → Option R} {a : M R} (ha : Fr S a) : Fr S (xun o a) := fr_bd ha fun x => by
  cases o x.d
  · exact fr_none
  · exact fr_keep
theorem fr_cons {a : M R} {b : M (List D)} (ha : Fr S a) (hb : Fr S b) : Fr S (xcons a b) := fr_bd ha fun x => fr_bd hb fun y => fr_keep
theorem fr_cb {o : List D → Option R} {a : M (List D)} (ha : Fr S a) : Fr S (xcb o a) := fr_bd ha fun x => by
  cases o x
  · exact fr_none
  · exact fr_keep
theorem fr_call {o : List D → Option R} {a : M (List D)} (ha : Fr S a) : Fr S (xcall o a) := fr_bd ha fun x => by
  cases o x
  · exact fr_none
  · exact fr_keep
theorem fr_tup {a : M (List D)} (ha : Fr S a) : Fr S (xtup a) := fr_bd ha fun x => by
  cases few x.length
  · exact fr_none
  · exact fr_keep
theorem fr_lst {a : M (List D)} (ha : Fr S a) : Fr S (xlst a) := fr_bd ha fun x => by
  cases few x.length
  · exact fr_none
  · exact fr_keep
theorem fr_if {t : M Bool} {a b : M R} (ht : Fr S t) (ha : Fr S a) (hb : Fr S b) : Fr S (xif t a b) := fr_bd ht fun k => fr_ite ha hb
theorem fr_test {a : M R} (ha : Fr S a) : Fr S (xtest a) := fr_bd ha fun x => by
  cases x.d
  case bl => exact fr_keep
  all_goals exact fr_none
theorem fr_tru {a : M R} (ha : Fr S a) : Fr S (xtru a) := fr_bd ha fun x => by
  cases truth x.d
  · exact fr_none
  · exact fr_keep
theorem fr_tand {a b : M Bool} (ha : Fr S a) (hb : Fr S b) : Fr S (xtand a b) := fr_bd ha fun k => fr_ite hb fr_keep
theorem fr_tor {a b : M Bool} (ha : Fr S a) (hb : Fr S b) : Fr S (xtor a b) := fr_bd ha fun k => fr_ite fr_keep hb
theorem fr_tnot {a : M Bool} (ha : Fr S a) : Fr S (xtnot a) := fr_bd ha fun k => fr_keep
theorem fr_vand {a b : M R} (ha : Fr S a) (hb : Fr S b) : Fr S (xvand a b) := fr_bd ha fun x => by
  cases x.d
  case bl k => exact fr_ite hb fr_keep
  all_goals exact fr_none
theorem fr_vor {a b : M R} (ha : Fr S a) (hb : Fr S b) : Fr S (xvor a b) := fr_bd ha fun x => by
  cases x.d
  case bl k => exact fr_ite fr_keep hb
  all_goals exact fr_none
theorem fr_vnot {a : M R} (ha : Fr S a) : Fr S (xvnot a) := fr_bd ha fun x => by
  cases x.d
  case bl k => exact fr_keep
  all_goals exact fr_none
theorem fr_range1 {a : M (List D)} (ha : Fr S a) : Fr S (xrange1 a) := fr_bd ha fun xs => by
  split
  · split
    · exact fr_keep
    · exact fr_none
  · exact fr_none
theorem fr_range2 {a : M (List D)} (ha : Fr S a) : Fr S (xrange2 a) := fr_bd ha fun xs => by
  split
  · split
    · exact fr_keep
    · exact fr_none
  · exact fr_none
theorem fr_seqI {a : M R} (ha : Fr S a) : Fr S (xseqI a) := fr_bd ha fun x => by
  cases seqD x.d
  · exact fr_none
  · exact fr_keep
theorem fr_zipA {a : M (List D)} (ha : Fr S a) : Fr S (xzipA a) := fr_bd ha fun xs => by
  split
  · split
    · exact fr_keep
    · exact fr_none
  · exact fr_none
def FrG (S : List Nat) (f : D → Gam → Option Gam) : Prop := ∀ (d : D) (G H G' : Gam), Agr S G H → f d G = some G' → ∃ H', f d H = some H' ∧ Agr S G' H' ∧ Kp S H H'
theorem frg_n {i : Nat} (h : i ∉ S) : FrG S (tgn i) := fun d G H G' ag e => by
  unfold tgn at e ⊢
  cases e
  exact ⟨_, rfl, ag.set, kp_set h⟩
theorem frg_ts {ts : List (D → Gam → Option Gam)} (h : ∀ t ∈ ts, FrG S t) : ∀ (ds : List D) (G H G' : Gam), Agr S G H → tgs ts ds G = some G' → ∃ H', tgs ts ds H = some H' ∧ Agr S G' H' ∧ Kp S H H' := by
  induction ts with
  | nil => intro ds G H G' ag e; cases ds with
    | nil => cases e; exact ⟨_, rfl, ag, Kp.refl⟩
    | cons d ds => cases e
  | cons t ts ih => intro ds G H G' ag e; cases ds with
    | nil => cases e
    | cons d ds =>
      unfold tgs at e ⊢
      cases z : t d G with
      | none => rw [z] at e; cases e
      | some G1 =>
        obtain ⟨H1, h2, a2, k2⟩ := h t List.mem_cons_self d G H G1 ag z
        rw [z] at e
        rw [h2]
        obtain ⟨H2, h3, a3, k3⟩ := ih (fun t ht => h t (List.mem_cons_of_mem _ ht)) ds G1 H1 G' a2 e
        exact ⟨H2, h3, a3, k2.trans k3⟩
theorem frg_t {ts : List (D → Gam → Option Gam)} (h : ∀ t ∈ ts, FrG S t) : FrG S (tgt ts) := fun d G H G' ag e => by
  cases d with
  | tup ds => exact frg_ts h ds G H G' ag e
  | _ => cases e
theorem wipe_ap {G H : Gam} (ag : Agr S G H) : ∀ {vs : List Nat}, (∀ v ∈ vs, v ∉ S) → Agr S (wipeG G vs) (wipeG H vs) ∧ Kp S H (wipeG H vs)
  | [], _ => ⟨ag, Kp.refl⟩
  | v :: vs, h => by
    obtain ⟨h1, h2⟩ := wipe_ap ag (vs := vs) fun w hw => h w (List.mem_cons_of_mem _ hw)
    exact ⟨h1.set, h2.trans (kp_set (h v List.mem_cons_self))⟩
theorem unw_ap {G1 H1 G2 H2 : Gam} (ag1 : Agr S G1 H1) (ag2 : Agr S G2 H2) : ∀ {vs : List Nat}, (∀ v ∈ vs, v ∉ S) → Agr S (unw G1 G2 vs) (unw H1 H2 vs) ∧ Kp S H2 (unw H1 H2 vs)
  | [], _ => ⟨ag2, Kp.refl⟩
  | v :: vs, h => by
    obtain ⟨h1, h2⟩ := unw_ap ag1 ag2 (vs := vs) fun w hw => h w (List.mem_cons_of_mem _ hw)
    have hv := h v List.mem_cons_self
    have e : G1.getD v .un = H1.getD v .un := by rw [List.getD_eq_getElem?_getD, List.getD_eq_getElem?_getD, ag1.2 v hv]
    show Agr S ((unw G1 G2 vs).set v (G1.getD v .un)) ((unw H1 H2 vs).set v (H1.getD v .un)) ∧ Kp S H2 ((unw H1 H2 vs).set v (H1.getD v .un))
    rw [e]
    exact ⟨h1.set, h2.trans (kp_set hv)⟩
theorem noMu_ap {G H : Gam} (ag : Agr S G H) : ∀ {vs : List Nat}, (∀ v ∈ vs, v ∉ S) → noMu G vs = noMu H vs
  | [], _ => rfl
  | v :: vs, h => by
    have ih := noMu_ap ag (vs := vs) fun w hw => h w (List.mem_cons_of_mem _ hw)
    unfold noMu at ih ⊢
    rw [List.all_cons, List.all_cons, ih, ag.2 v (h v List.mem_cons_self)]
theorem fr_lcL {tg : D → Gam → Option Gam} {t : M Bool} {e : M R} {vs : List Nat} (hg : FrG S tg) (ht : Fr S t) (he : Fr S e) (hv : ∀ v ∈ vs, v ∉ S) : ∀ ds, Fr S (xlcL tg t e vs ds)
  | [] => fr_keep
  | d :: ds => fun G H ag r G' h => by
    have ih := fr_lcL hg ht he hv ds
    unfold xlcL at h ⊢
    cases z : tg d G with
    | none => rw [z] at h; cases h
    | some G1 =>
      obtain ⟨H1, h2, a2, k2⟩ := hg d G H G1 ag z
      rw [z] at h
      rw [h2]
      obtain ⟨k, G3, h3, h⟩ := bd_inv h
      obtain ⟨H3, h4, a4, k4⟩ := ht G1 H1 a2 k G3 h3
      simp only [h4, bd_some]
      cases k with
      | false =>
        simp only [Bool.false_eq_true, if_false] at h ⊢
        obtain ⟨w1, w2⟩ := wipe_ap a4 hv
        obtain ⟨H5, h5, a5, k5⟩ := ih _ _ w1 r G' h
        exact ⟨H5, h5, a5, ((k2.trans k4).trans w2).trans k5⟩
      | true =>
        simp only [if_true] at h ⊢
        obtain ⟨v, G5, h5, h⟩ := bd_inv h
        obtain ⟨H5, h6, a6, k6⟩ := he G3 H3 a4 v G5 h5
        simp only [h6, bd_some]
        obtain ⟨w1, w2⟩ := wipe_ap a6 hv
        obtain ⟨out, G7, h7, h⟩ := bd_inv h
        obtain ⟨H7, h8, a8, k8⟩ := ih _ _ w1 out G7 h7
        cases h
        exact ⟨H7, by rw [h8]; rfl, a8, (((k2.trans k4).trans k6).trans w2).trans k8⟩
theorem fr_lc {it : M (List D)} {tg : D → Gam → Option Gam} {t : M Bool} {e : M R} {vs : List Nat} (hi : Fr S it) (hg : FrG S tg) (ht : Fr S t) (he : Fr S e) (hv : ∀ v ∈ vs, v ∉ S) : Fr S (xlc it tg t e vs) := fr_bd hi fun ds G H ag r G' h => by
  rw [noMu_ap ag hv] at h
  split at h
  · rename_i hm
    rw [if_pos hm]
    obtain ⟨out, G1, h1, h⟩ := bd_inv h
    obtain ⟨w1, w2⟩ := wipe_ap ag hv
    obtain ⟨H1, h2, a2, k2⟩ := fr_lcL hg ht he hv ds _ _ w1 out G1 h1
    simp only [h2, bd_some]
    split at h
    · rename_i hf
      rw [if_pos hf]
      cases h
      obtain ⟨u1, u2⟩ := unw_ap ag a2 hv
      exact ⟨_, rfl, u1, (w2.trans k2).trans u2⟩
    · cases h
  · cases h
theorem fr_enumA {a : M (List D)} (ha : Fr S a) : Fr S (xenumA a) := fr_bd ha fun xs => by
  split
  · split
    · exact fr_keep
    · exact fr_none
  · exact fr_none
theorem fr_star {a : M R} {r : M (List D)} (ha : Fr S a) (hr : Fr S r) : Fr S (xstar a r) := fr_bd ha fun x => by
  cases seqD x.d
  · exact fr_none
  · exact fr_bd hr fun es => fr_keep
theorem fr_fld {c i : Nat} {a : M R} (ha : Fr S a) : Fr S (xfld c i a) := fr_bd ha fun x => by
  cases x.d
  case obj c' ds =>
    simp only
    split
    · cases ds[i]?
      · exact fr_none
      · exact fr_keep
    · exact fr_none
  all_goals exact fr_none
theorem fr_make {c : Nat} {m : Mob → List D → Option (R × Mob)} {dds : List D} {a : M (List D)} (ha : Fr S a) : Fr S (xmake c m dds a) := fr_bd ha fun xs => by
  split
  · exact fr_keep
  · exact fr_none
theorem fr_callD {m : List D → Option R} {dds : List D} {a : M (List D)} (ha : Fr S a) : Fr S (xcallD m dds a) := fr_bd ha fun xs => by
  cases m (xs ++ dds)
  · exact fr_none
  · exact fr_keep
theorem fr_meth {c : Nat} {m : List D → Option R} {dds : List D} {a : M R} {as : M (List D)} (ha : Fr S a) (hb : Fr S as) : Fr S (xmeth c m dds a as) := fr_bd ha fun x => by
  cases x.d
  case obj c' ds =>
    simp only
    split
    · exact fr_bd hb fun xs => by
        cases m (.obj c' ds :: (xs ++ dds))
        · exact fr_none
        · exact fr_keep
    · exact fr_none
  all_goals exact fr_none
theorem fr_nop : Fr S xnop := fr_keep
theorem fr_part {a : M R} (ha : Fr S a) : Fr S (xpart a) := fr_bd ha fun x => by
  cases x.d
  case int => exact fr_keep
  all_goals exact fr_none
theorem fr_sl {o : D → Option Int → Option Int → Option R} {a : M R} {l h : MO} (ha : Fr S a) (hl : Fr S l) (hh : Fr S h) : Fr S (xsl o a l h) := fr_bd ha fun x => fr_bd hl fun i => fr_bd hh fun j => by
  cases o x.d i j
  · exact fr_none
  · exact fr_keep
theorem fr_rev {a b : M R} (ha : Fr S a) (hb : Fr S b) : Fr S (xrev a b) := fr_bd ha fun x => fr_bd hb fun y => by
  split
  · split
    · exact fr_keep
    · exact fr_none
  · exact fr_none
theorem fr_chain {o o' : D → D → Option R} {a b c : M R} (ha : Fr S a) (hb : Fr S b) (hc : Fr S c) : Fr S (xchain o o' a b c) := fr_bd ha fun x => fr_bd hb fun y => by
  split
  · rename_i k _
    refine fr_ite (fr_bd hc fun z => ?_) fr_keep
    cases o' y.d z.d
    · exact fr_none
    · exact fr_keep
  · exact fr_none
theorem fr_callB {m : Mob → List D → Option (R × Mob)} {i : Nat} {a : M (List D)} (h : i ∉ S) (ha : Fr S a) : Fr S (xcallB m i a) := fun G H ag r G' e => by
  have em : isMu G i = isMu H i := by unfold isMu; rw [ag.2 i h]
  unfold xcallB at e ⊢
  rw [em] at e
  by_cases hm : isMu H i = true
  case neg => rw [if_neg hm] at e; cases e
  rw [if_pos hm] at e ⊢
  obtain ⟨xs, G1, h1, h2⟩ := bd_inv e
  obtain ⟨H1, h3, a3, k3⟩ := ha G H ag xs G1 h1
  rw [h3]
  simp only [bd_some]
  unfold callB at h2 ⊢
  rw [a3.2 i h] at h2
  split at h2
  case h_2 => cases h2
  rename_i en hen
  split at h2
  case h_2 => cases h2
  rename_i mo hmo
  split at h2
  case h_2 => cases h2
  cases h2
  exact ⟨_, rfl, a3.set, k3.trans (kp_set h)⟩
/-! statements: S the names that need not be alike ahead of it, S' behind it, T those that it does not touch -/
def FrT (T S S' : List Nat) (s : MS) : Prop := ∀ (G H G' : Gam), Agr S G H → s G = some (.nx, G') → ∃ H', s H = some (.nx, H') ∧ Agr S' G' H' ∧ Kp T H H'
def sub (T S : List Nat) : Bool := T.all fun i => S.contains i
theorem sub_ok {T S : List Nat} (h : sub T S = true) {i : Nat} (hi : i ∈ T) : i ∈ S := by
  have := List.all_eq_true.mp h i hi
  simpa using this
theorem frt_expr {α : Type} {f : M α} {G H G' : Gam} {r : α} {T : List Nat} (hf : Fr S f) (hT : sub T S = true) (ag : Agr S G H) (e : f G = some (r, G')) : ∃ H', f H = some (r, H') ∧ Agr S G' H' ∧ Kp T H H' := by
  obtain ⟨H', h1, h2, h3⟩ := hf G H ag r G' e
  exact ⟨H', h1, h2, h3.sub fun i hi => sub_ok hT hi⟩
def less (S : List Nat) (i : Nat) : List Nat := S.filter fun j => !(j == i)
theorem agr_set {G H : Gam} {i : Nat} {e : Ent} (h : Agr S G H) : Agr (less S i) (G.set i e) (H.set i e) := by
  refine ⟨by rw [List.length_set, List.length_set]; exact h.1, fun j hj => ?_⟩
  rw [List.getElem?_set, List.getElem?_set, h.1]
  split
  · rfl
  · rename_i ne
    refine h.2 j fun hm => hj (List.mem_filter.mpr ⟨hm, ?_⟩)
    simp
    omega
variable {T S1 S2 : List Nat}
theorem frt_set {i : Nat} {a : M R} (ha : Fr S a) (hT : sub T S = true) (hi : i ∉ T) : FrT T S (less S i) (xset i a) := fun G H G' ag e => by
  unfold xset at e ⊢
  obtain ⟨r, G1, h1, h2⟩ := bd_inv e
  obtain ⟨H1, h3, a3, k3⟩ := frt_expr (T := T) ha hT ag h1
  rw [h3]
  cases h2
  exact ⟨_, rfl, agr_set a3, k3.trans (kp_set hi)⟩
theorem frt_next : FrT T S S xnext := fun G H G' ag e => by
  cases e
  exact ⟨_, rfl, ag, Kp.refl⟩
theorem frt_ret {a : M R} : FrT T S S1 (xret a) := fun G H G' ag e => by
  unfold xret at e
  obtain ⟨r, G1, h1, h2⟩ := bd_inv e
  cases h2
/-- the names of a are laid on those of b: what may differ behind either -/
theorem frt_mono {s : MS} (h : FrT T S S1 s) (hs : sub S1 S2 = true) : FrT T S S2 s := fun G H G' ag e => by
  obtain ⟨H', h1, h2, h3⟩ := h G H G' ag e
  exact ⟨H', h1, ⟨h2.1, fun j hj => h2.2 j fun z => hj (sub_ok hs z)⟩, h3⟩
theorem frt_ifs {t : M Bool} {a b : MS} (ht : Fr S t) (hT : sub T S = true) (ha : FrT T S S1 a) (hb : FrT T S S1 b) : FrT T S S1 (xifs t a b) := fun G H G' ag e => by
  unfold xifs at e ⊢
  obtain ⟨k, G1, h1, h2⟩ := bd_inv e
  obtain ⟨H1, h3, a3, k3⟩ := frt_expr (T := T) ht hT ag h1
  rw [h3]
  simp only [bd_some]
  cases k
  · obtain ⟨H2, h4, a4, k4⟩ := hb G1 H1 G' a3 h2
    exact ⟨H2, h4, a4, k3.trans k4⟩
  · obtain ⟨H2, h4, a4, k4⟩ := ha G1 H1 G' a3 h2
    exact ⟨H2, h4, a4, k3.trans k4⟩
theorem frt_seq {s t : MS} (hs : FrT T S S1 s) (ht : FrT T S1 S2 t) : FrT T S S2 (xseq s t) := fun G H G' ag e => by
  unfold xseq at e ⊢
  cases z : s G with
  | none => rw [z] at e; cases e
  | some q =>
    obtain ⟨fl, G1⟩ := q
    rw [z] at e
    cases fl with
    | nx =>
      obtain ⟨H1, h2, a2, k2⟩ := hs G H G1 ag z
      rw [h2]
      obtain ⟨H2, h3, a3, k3⟩ := ht G1 H1 G' a2 e
      exact ⟨H2, h3, a3, k2.trans k3⟩
    | _ => cases e
theorem frt_asg {a : M R} {tg : D → Gam → Option Gam} (ha : Fr S a) (hg : FrG S tg) (hT : sub T S = true) : FrT T S S (xasg a tg) := fun G H G' ag e => by
  unfold xasg at e ⊢
  obtain ⟨r, G1, h1, h2⟩ := bd_inv e
  obtain ⟨H1, h3, a3, k3⟩ := frt_expr (T := T) ha hT ag h1
  rw [h3]
  simp only [bd_some]
  split at h2
  case h_2 => cases h2
  rename_i G2 hG2
  cases h2
  obtain ⟨H2, h4, a4, k4⟩ := hg _ _ _ _ a3 hG2
  rw [h4]
  exact ⟨_, rfl, a4, k3.trans (k4.sub fun i hi => sub_ok hT hi)⟩
theorem fr_consR {a : M R} {b : M (List R)} (ha : Fr S a) (hb : Fr S b) : Fr S (ycons a b) := fr_bd ha fun x => fr_bd hb fun y => fr_keep
theorem fr_nilR : Fr S ynil := fr_keep
theorem frt_par {i j : Nat} {a : M (List R)} (ha : Fr S a) (hT : sub T S = true) (hi : i ∉ T) (hj : j ∉ T) : FrT T S (less (less S i) j) (ypar i j a) := fun G H G' ag e => by
  unfold ypar at e ⊢
  obtain ⟨r, G1, h1, h2⟩ := bd_inv e
  obtain ⟨H1, h3, a3, k3⟩ := frt_expr (T := T) ha hT ag h1
  rw [h3]
  simp only [bd_some]
  split at h2
  case h_2 => cases h2
  cases h2
  exact ⟨_, rfl, agr_set (agr_set a3), (k3.trans (kp_set hi)).trans (kp_set hj)⟩
theorem frt_par3 {i j l : Nat} {a : M (List R)} (ha : Fr S a) (hT : sub T S = true) (hi : i ∉ T) (hj : j ∉ T) (hl : l ∉ T) : FrT T S (less (less (less S i) j) l) (ypar3 i j l a) := fun G H G' ag e => by
  unfold ypar3 at e ⊢
  obtain ⟨r, G1, h1, h2⟩ := bd_inv e
  obtain ⟨H1, h3, a3, k3⟩ := frt_expr (T := T) ha hT ag h1
  rw [h3]
  simp only [bd_some]
  split at h2
  case h_2 => cases h2
  cases h2
  exact ⟨_, rfl, agr_set (agr_set (agr_set a3)), ((k3.trans (kp_set hi)).trans (kp_set hj)).trans (kp_set hl)⟩
/-- it ends in its last row -/
def nxB : Option (Fl × Gam) → Bool
  | some (.nx, _) => true
  | _ => false
theorem nxB_ok {o : Option (Fl × Gam)} (h : nxB o = true) : ∃ G, o = some (.nx, G) := by
  unfold nxB at h
  split at h
  · exact ⟨_, rfl⟩
  · cases h
def nxP (p : Gam → Bool) : Option (Fl × Gam) → Bool
  | some (.nx, G) => p G
  | _ => false
theorem nxP_ok {p : Gam → Bool} {o : Option (Fl × Gam)} (h : nxP p o = true) : ∃ G, o = some (.nx, G) ∧ p G = true := by
  unfold nxP at h
  split at h
  · exact ⟨_, rfl, h⟩
  · cases h
/-- from a table to any words: s was reckoned at G; the names of S do not matter; those of T stay -/
theorem frt_at {s : MS} {G H : Gam} {p : Gam → Bool} (hf : FrT T S S1 s) (ht : nxP p (s G) = true) (hl : G.length = H.length) (ha : ∀ i, i ∉ S → G[i]? = H[i]?) : ∃ H' G', s H = some (.nx, H') ∧ p G' = true ∧ H'.length = H.length ∧ (∀ i, i ∉ S1 → H'[i]? = G'[i]?) ∧ ∀ i, i ∈ T → H'[i]? = H[i]? := by
  obtain ⟨G', hG, hp⟩ := nxP_ok ht
  obtain ⟨H', h1, h2, h3⟩ := hf G H G' ⟨hl, ha⟩ hG
  exact ⟨H', G', h1, hp, h3.1, fun i hi => (h2.2 i hi).symm, h3.2⟩
end Bk
/-! Vt: laws whose draws are few: frames by a tactic, loops, tables. -/
namespace Bk
open PySem L2
/-- targets: S' may differ behind, T stays -/
def FrGT (T S S' : List Nat) (f : D → Gam → Option Gam) : Prop := ∀ (d : D) (G H G' : Gam), Agr S G H → f d G = some G' → ∃ H', f d H = some H' ∧ Agr S' G' H' ∧ Kp T H H'
theorem frgt_n {T S : List Nat} {i : Nat} (h : i ∉ T) : FrGT T S (less S i) (tgn i) := fun d G H G' ag e => by
  unfold tgn at e ⊢
  cases e
  exact ⟨_, rfl, agr_set ag, kp_set h⟩
def FrGs (T S S' : List Nat) (ts : List (D → Gam → Option Gam)) : Prop := ∀ (ds : List D) (G H G' : Gam), Agr S G H → tgs ts ds G = some G' → ∃ H', tgs ts ds H = some H' ∧ Agr S' G' H' ∧ Kp T H H'
theorem frgs_nil {T S : List Nat} : FrGs T S S [] := fun ds G H G' ag e => by
  cases ds with
  | nil => cases e; exact ⟨_, rfl, ag, Kp.refl⟩
  | cons d ds => cases e
theorem frgs_cons {T S S1 S2 : List Nat} {t : D → Gam → Option Gam} {ts : List (D → Gam → Option Gam)} (h : FrGT T S S1 t) (hs : FrGs T S1 S2 ts) : FrGs T S S2 (t :: ts) := fun ds G H G' ag e => by
  cases ds with
  | nil => cases e
  | cons d ds =>
    unfold tgs at e ⊢
    cases z : t d G with
    | none => rw [z] at e; cases e
    | some G1 =>
      obtain ⟨H1, h2, a2, k2⟩ := h d G H G1 ag z
      rw [z] at e
      rw [h2]
      obtain ⟨H2, h3, a3, k3⟩ := hs ds G1 H1 G' a2 e
      exact ⟨H2, h3, a3, k2.trans k3⟩
theorem frgt_t {T S S' : List Nat} {ts : List (D → Gam → Option Gam)} (h : FrGs T S S' ts) : FrGT T S S' (tgt ts) := fun d G H G' ag e => by
  cases d with
  | tup ds => exact h ds G H G' ag e
  | _ => cases e
theorem agr_mono {S S' : List Nat} {G H : Gam} (h : Agr S G H) (hs : sub S S' = true) : Agr S' G H := ⟨h.1, fun j hj => h.2 j fun z => hj (sub_ok hs z)⟩
theorem frt_asgT {T S S' : List Nat} {a : M R} {tg : D → Gam → Option Gam} (ha : Fr S a) (hT : sub T S = true) (hg : FrGT T S S' tg) : FrT T S S' (xasg a tg) := fun G H G' ag e => by
  unfold xasg at e ⊢
  obtain ⟨r, G1, h1, h2⟩ := bd_inv e
  obtain ⟨H1, h3, a3, k3⟩ := frt_expr (T := T) ha hT ag h1
  rw [h3]
  simp only [bd_some]
  split at h2
  case h_2 => cases h2
  rename_i G2 hG2
  cases h2
  obtain ⟨H2, h4, a4, k4⟩ := hg _ _ _ _ a3 hG2
  rw [h4]
  exact ⟨_, rfl, a4, k3.trans k4⟩
/-- statements of which any flow but an end with a word is looked at -/
def FrL (T S : List Nat) (f : Option (Fl × Gam) → Prop) : Prop := True
theorem frt_forL {T S S1 : List Nat} {tg : D → Gam → Option Gam} {b : MS} (hg : FrGT T S S1 tg) (hs : sub S1 S = true) (hb : FrT T S1 S1 b) (hk : ∀ G G', b G ≠ some (.ct, G') ∧ b G ≠ some (.bk, G')) : ∀ ds, FrT T S S (xforL tg b ds)
  | [], G, H, G', ag, e => by
    cases e
    exact ⟨_, rfl, ag, Kp.refl⟩
  | d :: ds, G, H, G', ag, e => by
    unfold xforL at e ⊢
    cases z : tg d G with
    | none => rw [z] at e; cases e
    | some G1 =>
      obtain ⟨H1, h2, a2, k2⟩ := hg d G H G1 ag z
      rw [z] at e
      rw [h2]
      simp only at e ⊢
      cases y : b G1 with
      | none => rw [y] at e; cases e
      | some q =>
        obtain ⟨fl, G2⟩ := q
        rw [y] at e
        cases fl with
        | nx =>
          obtain ⟨H2, h3, a3, k3⟩ := hb G1 H1 G2 a2 y
          rw [h3]
          obtain ⟨H3, h4, a4, k4⟩ := frt_forL hg hs hb hk ds G2 H2 G' (agr_mono a3 hs) e
          exact ⟨H3, h4, a4, (k2.trans k3).trans k4⟩
        | ct => exact absurd y (hk _ _).1
        | bk => exact absurd y (hk _ _).2
        | rt r => cases e
theorem frt_for {T S S1 : List Nat} {it : M (List D)} {tg : D → Gam → Option Gam} {b : MS} (hi : Fr S it) (hT : sub T S = true) (hg : FrGT T S S1 tg) (hs : sub S1 S = true) (hb : FrT T S1 S1 b) (hk : ∀ G G', b G ≠ some (.ct, G') ∧ b G ≠ some (.bk, G')) : FrT T S S (xfor it tg b) := fun G H G' ag e => by
  unfold xfor at e ⊢
  obtain ⟨ds, G1, h1, h2⟩ := bd_inv e
  obtain ⟨H1, h3, a3, k3⟩ := frt_expr (T := T) hi hT ag h1
  rw [h3]
  simp only [bd_some]
  obtain ⟨H2, h4, a4, k4⟩ := frt_forL hg hs hb hk ds G1 H1 G' a3 h2
  exact ⟨H2, h4, a4, k3.trans k4⟩
/-- `if t: return c`, and nothing else -/
theorem ifs_nobk {t : M Bool} {a : M R} : ∀ G G', xifs t (xret a) xnext G ≠ some (.ct, G') ∧ xifs t (xret a) xnext G ≠ some (.bk, G') := fun G G' => by
  have key : ∀ fl, xifs t (xret a) xnext G = some (fl, G') → fl = .nx ∨ ∃ r, fl = .rt r := fun fl e => by
    unfold xifs at e
    obtain ⟨k, G1, h1, h2⟩ := bd_inv e
    cases k
    · cases h2; exact .inl rfl
    · rw [if_pos rfl] at h2
      unfold xret at h2
      obtain ⟨r, G2, h3, h4⟩ := bd_inv h2
      cases h4
      exact .inr ⟨_, rfl⟩
  constructor <;> intro e <;> rcases key _ e with h | ⟨r, h⟩ <;> cases h
mutual
def sameD : D → D → Bool
  | .non, .non => true
  | .bl a, .bl b => a == b
  | .int a, .int b => decide (a = b)
  | .lst a, .lst b => sameDs a b
  | .frz a, .frz b => sameDs a b
  | .tup a, .tup b => sameDs a b
  | .obj c a, .obj d b => decide (c = d) && sameDs a b
  | _, _ => false
def sameDs : List D → List D → Bool
  | [], [] => true
  | a :: as, b :: bs => sameD a b && sameDs as bs
  | _, _ => false
end
mutual
theorem sameD_ok : ∀ {a b : D}, sameD a b = true → a = b
  | .non, .non, _ => rfl
  | .bl a, .bl b, h => by
    unfold sameD at h
    rw [eq_of_beq h]
  | .int a, .int b, h => by
    unfold sameD at h
    rw [of_decide_eq_true h]
  | .lst a, .lst b, h => by
    unfold sameD at h
    rw [sameDs_ok h]
  | .frz a, .frz b, h => by
    unfold sameD at h
    rw [sameDs_ok h]
  | .tup a, .tup b, h => by
    unfold sameD at h
    rw [sameDs_ok h]
  | .obj c a, .obj d b, h => by
    unfold sameD at h
    rw [Bool.and_eq_true] at h
    rw [of_decide_eq_true h.1, sameDs_ok h.2]
theorem sameDs_ok : ∀ {a b : List D}, sameDs a b = true → a = b
  | [], [], _ => rfl
  | a :: as, b :: bs, h => by
    unfold sameDs at h
    rw [Bool.and_eq_true] at h
    rw [sameD_ok h.1, sameDs_ok h.2]
end
def sameE : Option Ent → Option Ent → Bool
  | some (.im a), some (.im b) => sameD a b
  | some .un, some .un => true
  | _, _ => false
theorem sameE_ok {a b : Option Ent} (h : sameE a b = true) : a = b := by
  unfold sameE at h
  split at h
  · rw [sameD_ok h]
  · rfl
  · cases h
/-- the names of L are as they were -/
def keepL (L : List Nat) (G1 G2 : Gam) : Bool := L.all fun i => sameE G1[i]? G2[i]?
theorem keepL_ok {L : List Nat} {G1 G2 : Gam} (h : keepL L G1 G2 = true) {i : Nat} (hi : i ∈ L) : G1[i]? = G2[i]? := sameE_ok (List.all_eq_true.mp h i hi)
theorem frt_run {T S S1 : List Nat} {s : MS} {G H G' : Gam} (hf : FrT T S S1 s) (ht : s G = some (.nx, G')) (hl : G.length = H.length) (ha : ∀ i, i ∉ S → G[i]? = H[i]?) : ∃ H', s H = some (.nx, H') ∧ Agr S1 G' H' ∧ Kp T H H' := hf G H G' ⟨hl, ha⟩ ht
end Bk
/-! Mir: what the short mirrors lean on. -/
namespace Bk
open PySem L2
/-- the fraction in lowest terms -/
def low (a b : Int) : D :=
  let g : Int := if b < 0 then -((Nat.gcd a.natAbs b.natAbs : Nat) : Int) else ((Nat.gcd a.natAbs b.natAbs : Nat) : Int)
  .tup [.int (a.fdiv g), .int (b.fdiv g)]
def okLow (b : Int) : Bool := decide (b ≠ 0) && decide (b.natAbs.log2 < 8000)
theorem okLow_div {a b : Int} (h : okLow b = true) : okDiv (if b < 0 then -((Nat.gcd a.natAbs b.natAbs : Nat) : Int) else ((Nat.gcd a.natAbs b.natAbs : Nat) : Int)) = true := by
  unfold okLow at h
  rw [Bool.and_eq_true] at h
  have h1 := of_decide_eq_true h.1
  have h2 := of_decide_eq_true h.2
  have g0 : Nat.gcd a.natAbs b.natAbs ≠ 0 := by
    intro z
    have := Nat.eq_zero_of_gcd_eq_zero_right z
    omega
  have gle : Nat.gcd a.natAbs b.natAbs ≤ b.natAbs := Nat.gcd_le_right _ (by omega)
  have b0 : b.natAbs ≠ 0 := by omega
  have l1 : b.natAbs < 2 ^ 8000 := (Nat.log2_lt b0).mp h2
  unfold okDiv
  rw [Bool.and_eq_true]
  refine ⟨decide_eq_true ?_, decide_eq_true ?_⟩
  · split <;> omega
  · have e : (if b < 0 then -((Nat.gcd a.natAbs b.natAbs : Nat) : Int) else ((Nat.gcd a.natAbs b.natAbs : Nat) : Int)).natAbs = Nat.gcd a.natAbs b.natAbs := by split <;> omega
    rw [e]
    have l2 : Nat.gcd a.natAbs b.natAbs < 2 ^ 8000 := Nat.lt_of_le_of_lt gle l1
    exact Nat.lt_trans ((Nat.log2_lt g0).mpr l2) (by decide)
end Bk
namespace Bk
open PySem L2
def c_NOUGHT : D := .tup [.int (0), .int (1)]
def c_ONE : D := .tup [.int (1), .int (1)]
def b_is_sequence : MS := (xret (xcb cbIsiS (xcons (xv 0) (xcons (xtup (xcons (xc (.ty "list")) (xcons (xc (.ty "tuple")) xnil))) xnil))))
def r_is_sequence : List D → Option R := runF 1 1 b_is_sequence
def b_is_less : MS := (xret (xop opLt (xop opMul (xop opIx (xv 0) (xc (.int 0))) (xop opIx (xv 1) (xc (.int 1)))) (xop opMul (xop opIx (xv 1) (xc (.int 0))) (xop opIx (xv 0) (xc (.int 1))))))
def r0_is_less : List D → Option R := runF 2 2 b_is_less
def r_is_less : List D → Option R
  | [.tup [.int a, .int b], .tup [.int c, .int d]] => if okMul a d && okMul c b then some (.im (.bl (decide (a * d < c * b)))) else none
  | _ => none
theorem le_is_less : ∀ ds r, r_is_less ds = some r → r0_is_less ds = some r := fun ds r h => by
  unfold r_is_less at h
  split at h
  case h_2 => cases h
  rename_i a b c d
  split at h
  case isFalse => cases h
  rename_i hok
  cases h
  rw [Bool.and_eq_true] at hok
  have m1 : xop opMul (xop opIx (xv 0) (xc (.int 0))) (xop opIx (xv 1) (xc (.int 1))) [.im (.tup [.int a, .int b]), .im (.tup [.int c, .int d])] = some (.im (.int (a * d)), [.im (.tup [.int a, .int b]), .im (.tup [.int c, .int d])]) := xop_ok (x := .im (.int a)) (y := .im (.int d)) rfl rfl (if_pos hok.1)
  have m2 : xop opMul (xop opIx (xv 1) (xc (.int 0))) (xop opIx (xv 0) (xc (.int 1))) [.im (.tup [.int a, .int b]), .im (.tup [.int c, .int d])] = some (.im (.int (c * b)), [.im (.tup [.int a, .int b]), .im (.tup [.int c, .int d])]) := xop_ok (x := .im (.int c)) (y := .im (.int b)) rfl rfl (if_pos hok.2)
  show outF (b_is_less [.im (.tup [.int a, .int b]), .im (.tup [.int c, .int d])]) = _
  unfold b_is_less
  rw [xret_ok (xop_ok m1 m2 rfl)]
  rfl
def b_is_integer : MS := (xret (xvand (xcb cbIsi (xcons (xv 0) (xcons (xc (.ty "int")) xnil))) (xvnot (xcb cbIsi (xcons (xv 0) (xcons (xc (.ty "bool")) xnil))))))
def r0_is_integer : List D → Option R := runF 1 1 b_is_integer
def r_is_integer : List D → Option R
  | [.int _] => some (.im (.bl true))
  | [.bl _] => some (.im (.bl false))
  | [.non] => some (.im (.bl false))
  | [.str _] => some (.im (.bl false))
  | [.lst _] => some (.im (.bl false))
  | [.frz _] => some (.im (.bl false))
  | [.tup _] => some (.im (.bl false))
  | _ => none
theorem le_is_integer : ∀ ds r, r_is_integer ds = some r → r0_is_integer ds = some r := fun ds r h => by
  unfold r_is_integer at h
  split at h <;> cases h <;> rfl
def b_divisor_1 : MS := (ypar 0 1 (ycons (xv 1) (ycons (xop opMod (xv 0) (xv 1)) ynil)))
def b_divisor : MS := (xseq (ypar 0 1 (ycons (xcb cbAbs (xcons (xv 0) xnil)) (ycons (xcb cbAbs (xcons (xv 1) xnil)) ynil)))
  (xseq (xwhile (fuelI 1) (xtest (xop opNe (xv 1) (xc (.int 0)))) b_divisor_1)
  (xret (xmv 0))))
def r0_divisor : List D → Option R := runF 2 2 b_divisor
def r_divisor : List D → Option R
  | [.int a, .int b] => some (.im (.int (Nat.gcd a.natAbs b.natAbs : Nat)))
  | _ => none
theorem le_divisor : ∀ ds r, r_divisor ds = some r → r0_divisor ds = some r := fun ds r h => by
  unfold r_divisor at h
  split at h
  case h_2 => cases h
  rename_i a b
  cases h
  have key := div_loop (xtest (xop opNe (xv 1) (xc (.int 0)))) (ypar 0 1 (ycons (xv 1) (ycons (xop opMod (xv 0) (xv 1)) ynil))) (fun x y => rfl) (fun x y hy => by
    have h0 : decide ((y : Int) ≠ 0) = true := decide_eq_true (by omega)
    have e : xop opMod (xv 0) (xv 1) [.im (.int x), .im (.int y)] = some (.im (.int ((x : Int).fmod y)), [.im (.int x), .im (.int y)]) := xop_ok rfl rfl (if_pos h0)
    rw [fmod_nat] at e
    have e2 : ycons (xv 1) (ycons (xop opMod (xv 0) (xv 1)) ynil) [.im (.int x), .im (.int y)] = some ([.im (.int y), .im (.int ((x % y : Nat) : Int))], [.im (.int x), .im (.int y)]) := ycons_ok rfl (ycons_ok e rfl)
    exact ypar_ok e2) (b.natAbs + 1) a.natAbs b.natAbs (Nat.lt_succ_self _)
  have e1 : ypar 0 1 (ycons (xcb cbAbs (xcons (xv 0) xnil)) (ycons (xcb cbAbs (xcons (xv 1) xnil)) ynil)) [.im (.int a), .im (.int b)] = some (.nx, [.im (.int a.natAbs), .im (.int b.natAbs)]) := by
    rw [← abs_nat a, ← abs_nat b]
    rfl
  show outF (b_divisor [.im (.int a), .im (.int b)]) = _
  unfold b_divisor
  rw [xseq_nx e1]
  have e2 : xwhile (fuelI 1) (xtest (xop opNe (xv 1) (xc (.int 0)))) b_divisor_1 [.im (.int a.natAbs), .im (.int b.natAbs)] = some (.nx, [.im (.int (Nat.gcd a.natAbs b.natAbs : Nat)), .im (.int 0)]) := key
  rw [xseq_nx e2]
  rfl
def b_is_pair : MS := (xseq (xifs (xtor (xtnot (xtru (xcb cbIsi (xcons (xv 0) (xcons (xc (.ty "tuple")) xnil))))) (xtor (xtest (xop opNe (xcb cbLen (xcons (xv 0) xnil)) (xc (.int 2)))) (xtnot (xtru (xcb cbAll (xcons (xlc (xseqI (xv 0)) (tgn 1) xtyes (xcall r_is_integer (xcons (xv 1) xnil)) [1]) xnil)))))) (xret (xc (.bl false))) xnext)
  (xret (xvand (xop opGt (xop opIx (xv 0) (xc (.int 1))) (xc (.int 0))) (xop opEq (xcall r_divisor (xcons (xop opIx (xv 0) (xc (.int 0))) (xcons (xop opIx (xv 0) (xc (.int 1))) xnil))) (xc (.int 1))))))
def r0_is_pair : List D → Option R := runF 1 2 b_is_pair
def r_is_pair : List D → Option R
  | [.int _] => some (.im (.bl false))
  | [.tup [.int p, .int q]] => some (.im (.bl (decide (0 < q) && decide (Nat.gcd p.natAbs q.natAbs = 1))))
  | _ => none
theorem le_is_pair : ∀ ds r, r_is_pair ds = some r → r0_is_pair ds = some r := fun ds r h => by
  unfold r_is_pair at h
  split at h
  · cases h; rfl
  · rename_i p q
    cases h
    by_cases h1 : 0 < q
    · have e : decide (Nat.gcd p.natAbs q.natAbs = 1) = decide (((Nat.gcd p.natAbs q.natAbs : Nat) : Int) = 1) := by
        by_cases h2 : Nat.gcd p.natAbs q.natAbs = 1
        · rw [decide_eq_true h2, decide_eq_true (by omega)]
        · rw [decide_eq_false h2, decide_eq_false (by omega)]
      rw [e, decide_eq_true h1, Bool.true_and]
      have z : decide (0 < q) = true := decide_eq_true h1
      show outF (b_is_pair [.im (.tup [.int p, .int q]), .un]) = _
      unfold b_is_pair
      rw [xseq_nx (show _ = some (Fl.nx, [.im (.tup [.int p, .int q]), .un]) from rfl)]
      unfold xret xvand
      rw [show xop opGt (xop opIx (xv 0) (xc (.int 1))) (xc (.int 0)) [.im (.tup [.int p, .int q]), .un] = some (.im (.bl (decide (0 < q))), [.im (.tup [.int p, .int q]), .un]) from rfl, z]
      rfl
    · have z : decide (0 < q) = false := decide_eq_false h1
      rw [z, Bool.false_and]
      show outF (b_is_pair [.im (.tup [.int p, .int q]), .un]) = _
      unfold b_is_pair
      rw [xseq_nx (show _ = some (Fl.nx, [.im (.tup [.int p, .int q]), .un]) from rfl)]
      unfold xret xvand
      rw [show xop opGt (xop opIx (xv 0) (xc (.int 1))) (xc (.int 0)) [.im (.tup [.int p, .int q]), .un] = some (.im (.bl (decide (0 < q))), [.im (.tup [.int p, .int q]), .un]) from rfl, z]
      rfl
  · cases h
def b_is_value : MS := (xret (xvor (xcall r_is_integer (xcons (xv 0) xnil)) (xcall r_is_pair (xcons (xv 0) xnil))))
def r_is_value : List D → Option R := runF 1 1 b_is_value
def b_value_of : MS := (xret (xif (xtru (xcall r_is_integer (xcons (xv 0) xnil))) (xtup (xcons (xv 0) (xcons (xc (.int 1)) xnil))) (xv 0)))
def r0_value_of : List D → Option R := runF 1 1 b_value_of
def r_value_of : List D → Option R
  | [.int i] => some (.im (.tup [.int i, .int 1]))
  | [.tup xs] => some (.im (.tup xs))
  | _ => none
theorem le_value_of : ∀ ds r, r_value_of ds = some r → r0_value_of ds = some r := fun ds r h => by
  unfold r_value_of at h
  split at h <;> cases h <;> rfl
def b_is_between : MS := (xret (xvand (xcall r_is_value (xcons (xv 0) xnil)) (xvand (xvnot (xcall r_is_less (xcons (xcall r_value_of (xcons (xv 0) xnil)) (xcons (xv 1) xnil)))) (xvnot (xcall r_is_less (xcons (xv 2) (xcons (xcall r_value_of (xcons (xv 0) xnil)) xnil)))))))
def r_is_between : List D → Option R := runF 3 3 b_is_between
def b_is_share : MS := (xseq (xifs (xtor (xtnot (xtru (xcb cbIsi (xcons (xv 0) (xcons (xc (.ty "tuple")) xnil))))) (xtor (xtest (xop opNe (xcb cbLen (xcons (xv 0) xnil)) (xc (.int 3)))) (xtnot (xtru (xcall r_is_value (xcons (xop opIx (xv 0) (xc (.int 2))) xnil)))))) (xret (xc (.bl false))) xnext)
  (xseq (xifs (xtor (xtnot (xtru (xcall r_is_between (xcons (xop opIx (xv 0) (xc (.int 0))) (xcons (xv 1) (xcons (xv 2) xnil)))))) (xtnot (xtru (xcall r_is_between (xcons (xop opIx (xv 0) (xc (.int 1))) (xcons (xv 1) (xcons (xv 2) xnil))))))) (xret (xc (.bl false))) xnext)
  (xret (xcall r_is_less (xcons (xcall r_value_of (xcons (xop opIx (xv 0) (xc (.int 0))) xnil)) (xcons (xcall r_value_of (xcons (xop opIx (xv 0) (xc (.int 1))) xnil)) xnil))))))
def r_is_share : List D → Option R := runF 3 3 b_is_share
def b_is_weight : MS := (xseq (xifs (xtor (xtnot (xtru (xcb cbIsi (xcons (xv 0) (xcons (xc (.ty "tuple")) xnil))))) (xtest (xop opNe (xcb cbLen (xcons (xv 0) xnil)) (xc (.int 2))))) (xret (xc (.bl false))) xnext)
  (xret (xvand (xcall r_is_between (xcons (xop opIx (xv 0) (xc (.int 0))) (xcons (xv 1) (xcons (xv 2) xnil)))) (xcall r_is_value (xcons (xop opIx (xv 0) (xc (.int 1))) xnil)))))
def r_is_weight : List D → Option R := runF 3 3 b_is_weight
def b_ascending_1 : MS := (xset 1 (xop opFdiv (xop opMul (xv 1) (xv 3)) (xcall r_divisor (xcons (xv 1) (xcons (xv 3) xnil)))))
def b_ascending : MS := (xseq (xset 1 (xc (.int 1)))
  (xseq (xfor (xseqI (xv 0)) (tgt [(tgn 2), (tgn 3)]) b_ascending_1)
  (xseq (xset 4 (xcb cbSorted (xcons (xlc (xseqI (xv 0)) (tgn 5) xtyes (xtup (xcons (xop opMul (xop opIx (xv 5) (xc (.int 0))) (xop opFdiv (xv 1) (xop opIx (xv 5) (xc (.int 1))))) (xcons (xv 5) xnil))) [5]) xnil)))
  (xret (xlc (xenumA (xcons (xv 4) xnil)) (tgt [(tgn 6), (tgt [(tgn 7), (tgn 5)])]) (xtor (xtest (xop opEq (xv 6) (xc (.int 0)))) (xtest (xop opNe (xop opIx (xop opIx (xv 4) (xop opSub (xv 6) (xc (.int 1)))) (xc (.int 1))) (xv 5)))) (xv 5) [6, 7, 5])))))
def r_ascending : List D → Option R := runF 1 8 b_ascending
def b_lowest : MS := (xseq (xset 2 (xcall r_divisor (xcons (xv 0) (xcons (xv 1) xnil))))
  (xseq (xset 2 (xif (xtest (xop opLt (xv 1) (xc (.int 0)))) (xun unNeg (xv 2)) (xv 2)))
  (xret (xtup (xcons (xop opFdiv (xv 0) (xv 2)) (xcons (xop opFdiv (xv 1) (xv 2)) xnil))))))
def r0_lowest : List D → Option R := runF 2 3 b_lowest
def r_lowest : List D → Option R
  | [.int a, .int b] => if okLow b then some (.im (low a b)) else none
  | _ => none
theorem le_lowest : ∀ ds r, r_lowest ds = some r → r0_lowest ds = some r := fun ds r h => by
  unfold r_lowest at h
  split at h
  case h_2 => cases h
  rename_i a b
  split at h
  case isFalse => cases h
  rename_i hok
  cases h
  have ok := okLow_div (a := a) hok
  have e1 : xset 2 (xcall r_divisor (xcons (xv 0) (xcons (xv 1) xnil))) [.im (.int a), .im (.int b), .un] = some (.nx, [.im (.int a), .im (.int b), .im (.int (Nat.gcd a.natAbs b.natAbs : Nat))]) := rfl
  have e3 : xset 2 (xif (xtest (xop opLt (xv 1) (xc (.int 0)))) (xun unNeg (xv 2)) (xv 2)) [.im (.int a), .im (.int b), .im (.int (Nat.gcd a.natAbs b.natAbs : Nat))] =
      some (.nx, [.im (.int a), .im (.int b), .im (.int (if b < 0 then -((Nat.gcd a.natAbs b.natAbs : Nat) : Int) else ((Nat.gcd a.natAbs b.natAbs : Nat) : Int)))]) := by
    unfold xset xif
    rw [show xtest (xop opLt (xv 1) (xc (.int 0))) [.im (.int a), .im (.int b), .im (.int (Nat.gcd a.natAbs b.natAbs : Nat))] = some (decide (b < 0), [.im (.int a), .im (.int b), .im (.int (Nat.gcd a.natAbs b.natAbs : Nat))]) from rfl]
    simp only [bd_some]
    by_cases h : b < 0
    · rw [if_pos h, decide_eq_true h]; rfl
    · rw [if_neg h, decide_eq_false h]; rfl
  show outF (b_lowest [.im (.int a), .im (.int b), .un]) = _
  unfold b_lowest low
  rw [xseq_nx e1, xseq_nx e3]
  generalize (if b < 0 then -((Nat.gcd a.natAbs b.natAbs : Nat) : Int) else ((Nat.gcd a.natAbs b.natAbs : Nat) : Int)) = g at ok ⊢
  have d1 : xop opFdiv (xv 0) (xv 2) [.im (.int a), .im (.int b), .im (.int g)] = some (.im (.int (a.fdiv g)), [.im (.int a), .im (.int b), .im (.int g)]) := xop_ok rfl rfl (if_pos ok)
  have d2 : xop opFdiv (xv 1) (xv 2) [.im (.int a), .im (.int b), .im (.int g)] = some (.im (.int (b.fdiv g)), [.im (.int a), .im (.int b), .im (.int g)]) := xop_ok rfl rfl (if_pos ok)
  have d3 : xtup (xcons (xop opFdiv (xv 0) (xv 2)) (xcons (xop opFdiv (xv 1) (xv 2)) xnil)) [.im (.int a), .im (.int b), .im (.int g)] = some (.im (.tup [.int (a.fdiv g), .int (b.fdiv g)]), [.im (.int a), .im (.int b), .im (.int g)]) := by
    unfold xtup
    rw [xcons_ok d1 (xcons_ok d2 rfl)]
    rfl
  rw [xret_ok d3]
  rfl
def b_added : MS := (xret (xcall r_lowest (xcons (xop opAddB (xop opMul (xop opIx (xv 0) (xc (.int 0))) (xop opIx (xv 1) (xc (.int 1)))) (xop opMul (xop opIx (xv 1) (xc (.int 0))) (xop opIx (xv 0) (xc (.int 1))))) (xcons (xop opMul (xop opIx (xv 0) (xc (.int 1))) (xop opIx (xv 1) (xc (.int 1)))) xnil))))
def r0_added : List D → Option R := runF 2 2 b_added
def r_added : List D → Option R
  | [.tup [.int a, .int b], .tup [.int c, .int d]] => if okMul a d && okMul c b && okMul b d && okLow (b * d) then some (.im (low (a * d + c * b) (b * d))) else none
  | _ => none
theorem le_added : ∀ ds r, r_added ds = some r → r0_added ds = some r := fun ds r h => by
  unfold r_added at h
  split at h
  case h_2 => cases h
  rename_i a b c d
  split at h
  case isFalse => cases h
  rename_i hok
  cases h
  simp only [Bool.and_eq_true] at hok
  obtain ⟨⟨⟨h0, h1⟩, h2⟩, h3⟩ := hok
  show outF (b_added [.im (.tup [.int a, .int b]), .im (.tup [.int c, .int d])]) = _
  unfold b_added
  have m1 : xop opMul (xop opIx (xv 0) (xc (.int 0))) (xop opIx (xv 1) (xc (.int 1))) [.im (.tup [.int a, .int b]), .im (.tup [.int c, .int d])] = some (.im (.int (a * d)), [.im (.tup [.int a, .int b]), .im (.tup [.int c, .int d])]) := xop_ok (x := .im (.int a)) (y := .im (.int d)) rfl rfl (if_pos h0)
  have m2 : xop opMul (xop opIx (xv 1) (xc (.int 0))) (xop opIx (xv 0) (xc (.int 1))) [.im (.tup [.int a, .int b]), .im (.tup [.int c, .int d])] = some (.im (.int (c * b)), [.im (.tup [.int a, .int b]), .im (.tup [.int c, .int d])]) := xop_ok (x := .im (.int c)) (y := .im (.int b)) rfl rfl (if_pos h1)
  have m3 : xop opMul (xop opIx (xv 0) (xc (.int 1))) (xop opIx (xv 1) (xc (.int 1))) [.im (.tup [.int a, .int b]), .im (.tup [.int c, .int d])] = some (.im (.int (b * d)), [.im (.tup [.int a, .int b]), .im (.tup [.int c, .int d])]) := xop_ok (x := .im (.int b)) (y := .im (.int d)) rfl rfl (if_pos h2)
  rw [xret_ok (xcall_ok (xcons_ok (xop_ok m1 m2 rfl) (xcons_ok m3 rfl)) (if_pos h3))]
  rfl
def b_summed_1 : MS := (xset 1 (xcall r_added (xcons (xv 1) (xcons (xv 2) xnil))))
def b_summed : MS := (xseq (xset 1 (xc c_NOUGHT))
  (xseq (xfor (xseqI (xv 0)) (tgn 2) b_summed_1)
  (xret (xmv 1))))
def r_summed : List D → Option R := runF 1 3 b_summed
def b_least_shares_1 : MS := (xseq (xset 6 (xlc (xseqI (xv 1)) (tgt [(tgn 10), (tgn 11), (tgn 8)]) (xtand (xtnot (xtru (xcall r_is_less (xcons (xv 4) (xcons (xv 10) xnil))))) (xtnot (xtru (xcall r_is_less (xcons (xv 11) (xcons (xv 5) xnil)))))) (xv 8) [10, 11, 8]))
  (xseq (xset 7 (xcall r_summed (xcons (xv 6) xnil)))
  (xifs (xtand (xtest (xop opGt (xcb cbLen (xcons (xv 3) xnil)) (xc (.int 0)))) (xtest (xop opEq (xop opIx (xop opIx (xv 3) (xun unNeg (xc (.int 1)))) (xc (.int 2))) (xv 7)))) (xset 3 (xlst (xstar (xsl slB (xv 3) xnop (xpart (xun unNeg (xc (.int 1))))) (xcons (xtup (xcons (xop opIx (xop opIx (xv 3) (xun unNeg (xc (.int 1)))) (xc (.int 0))) (xcons (xv 5) (xcons (xv 7) xnil)))) xnil)))) (xset 3 (xlst (xstar (xv 3) (xcons (xtup (xcons (xv 4) (xcons (xv 5) (xcons (xv 7) xnil)))) xnil)))))))
def b_least_shares : MS := (xseq (xset 1 (xlc (xseqI (xv 0)) (tgt [(tgn 4), (tgn 5), (tgn 8)]) xtyes (xtup (xcons (xcall r_value_of (xcons (xv 4) xnil)) (xcons (xcall r_value_of (xcons (xv 5) xnil)) (xcons (xcall r_value_of (xcons (xv 8) xnil)) xnil)))) [4, 5, 8]))
  (xseq (xset 2 (xcall r_ascending (xcons (xlc2 (xseqI (xv 1)) (tgt [(tgn 4), (tgn 5), (tgn 8)]) xtyes (xseqI (xtup (xcons (xv 4) (xcons (xv 5) xnil)))) (tgn 9) xtyes (xv 9) [4, 5, 8, 9] [9]) xnil)))
  (xseq (xset 3 (xlst xnil))
  (xseq (xfor (xzipA (xcons (xv 2) (xcons (xsl slB (xv 2) (xpart (xc (.int 1))) xnop) xnil))) (tgt [(tgn 4), (tgn 5)]) b_least_shares_1)
  (xret (xcb cbTuple (xcons (xlc (xseqI (xv 3)) (tgn 12) (xtest (xop opNe (xop opIx (xv 12) (xc (.int 2))) (xc c_NOUGHT))) (xv 12) [12]) xnil)))))))
def r_least_shares : List D → Option R := runF 1 13 b_least_shares
def b_least_weights_1 : MS := (xapp 2 (xtup (xcons (xv 3) (xcons (xcall r_summed (xcons (xlc (xseqI (xv 1)) (tgt [(tgn 5), (tgn 4)]) (xtest (xop opEq (xv 5) (xv 3))) (xv 4) [5, 4]) xnil)) xnil))))
def b_least_weights : MS := (xseq (xset 1 (xlc (xseqI (xv 0)) (tgt [(tgn 3), (tgn 4)]) xtyes (xtup (xcons (xcall r_value_of (xcons (xv 3) xnil)) (xcons (xcall r_value_of (xcons (xv 4) xnil)) xnil))) [3, 4]))
  (xseq (xset 2 (xlst xnil))
  (xseq (xfor (xseqI (xcall r_ascending (xcons (xlc (xseqI (xv 1)) (tgt [(tgn 3), (tgn 4)]) xtyes (xv 3) [3, 4]) xnil))) (tgn 3) b_least_weights_1)
  (xret (xcb cbTuple (xcons (xlc (xseqI (xv 2)) (tgn 6) (xtest (xop opNe (xop opIx (xv 6) (xc (.int 1))) (xc c_NOUGHT))) (xv 6) [6]) xnil))))))
def r_least_weights : List D → Option R := runF 1 7 b_least_weights
def b_need_stretch : MS := (xseq (xifs (xtnot (xtru (xcall r_is_value (xcons (xv 0) xnil)))) xnever xnext)
  (xseq (xifs (xtor (xtnot (xtru (xcall r_is_value (xcons (xv 1) xnil)))) (xtnot (xtru (xcall r_is_less (xcons (xcall r_value_of (xcons (xv 0) xnil)) (xcons (xcall r_value_of (xcons (xv 1) xnil)) xnil)))))) xnever xnext)
  (xret (xtup (xcons (xcall r_value_of (xcons (xv 0) xnil)) (xcons (xcall r_value_of (xcons (xv 1) xnil)) xnil))))))
def r_need_stretch : List D → Option R := runF 2 2 b_need_stretch
def b_Rule_init : MS := (xseq (xasgF 0 0 0 1 (xcall r_need_stretch (xcons (xv 1) (xcons (xv 2) xnil))))
  (xseq (xifs (xtor (xtnot (xtru (xcall r_is_sequence (xcons (xv 3) xnil)))) (xtnot (xtru (xcb cbAll (xcons (xlc (xseqI (xv 3)) (tgn 5) xtyes (xcall r_is_weight (xcons (xv 5) (xcons (xfldv 0 0 0) (xcons (xfldv 0 0 1) xnil)))) [5]) xnil))))) xnever xnext)
  (xseq (xifs (xtor (xtnot (xtru (xcall r_is_sequence (xcons (xv 4) xnil)))) (xtnot (xtru (xcb cbAll (xcons (xlc (xseqI (xv 4)) (tgn 5) xtyes (xcall r_is_share (xcons (xv 5) (xcons (xfldv 0 0 0) (xcons (xfldv 0 0 1) xnil)))) [5]) xnil))))) xnever xnext)
  (xseq (xsetf 0 0 2 (xcall r_least_weights (xcons (xv 3) xnil)))
  (xsetf 0 0 3 (xcall r_least_shares (xcons (xv 4) xnil)))))))
def r_Rule_init : Mob → List D → Option (R × Mob) := runB 5 6 b_Rule_init
def b_Rule_add : MS := (xseq (xifs (xtest (xop opNe (xtup (xcons (xfld 0 0 (xv 0)) (xcons (xfld 0 1 (xv 0)) xnil))) (xtup (xcons (xfld 0 0 (xv 1)) (xcons (xfld 0 1 (xv 1)) xnil))))) xnever xnext)
  (xret (xmake 0 r_Rule_init ([.tup [], .tup []].drop 2) (xcons (xfld 0 0 (xv 0)) (xcons (xfld 0 1 (xv 0)) (xcons (xlst (xstar (xfld 0 2 (xv 0)) (xstar (xfld 0 2 (xv 1)) xnil))) (xcons (xlst (xstar (xfld 0 3 (xv 0)) (xstar (xfld 0 3 (xv 1)) xnil))) xnil)))))))
def r_Rule_add : List D → Option R := runF 2 2 b_Rule_add
def b_Rule_neg : MS := (xseq (xset 1 (xlc (xseqI (xfld 0 2 (xv 0))) (tgt [(tgn 2), (tgt [(tgn 3), (tgn 4)])]) xtyes (xtup (xcons (xv 2) (xcons (xtup (xcons (xun unNeg (xv 3)) (xcons (xv 4) xnil))) xnil))) [2, 3, 4]))
  (xret (xmake 0 r_Rule_init ([.tup [], .tup []].drop 2) (xcons (xfld 0 0 (xv 0)) (xcons (xfld 0 1 (xv 0)) (xcons (xv 1) (xcons (xlc (xseqI (xfld 0 3 (xv 0))) (tgt [(tgn 5), (tgn 6), (tgt [(tgn 3), (tgn 4)])]) xtyes (xtup (xcons (xv 5) (xcons (xv 6) (xcons (xtup (xcons (xun unNeg (xv 3)) (xcons (xv 4) xnil))) xnil)))) [5, 6, 3, 4]) xnil)))))))
def r_Rule_neg : List D → Option R := runF 1 7 b_Rule_neg
def b_Rule_sub : MS := (xret (xop (opOwn 0 r_Rule_add opAddB) (xv 0) (xun (unOwn 0 r_Rule_neg unNeg) (xv 1))))
def r_Rule_sub : List D → Option R := runF 2 2 b_Rule_sub
def b_multiplied : MS := (xret (xcall r_lowest (xcons (xop opMul (xop opIx (xv 0) (xc (.int 0))) (xop opIx (xv 1) (xc (.int 0)))) (xcons (xop opMul (xop opIx (xv 0) (xc (.int 1))) (xop opIx (xv 1) (xc (.int 1)))) xnil))))
def r0_multiplied : List D → Option R := runF 2 2 b_multiplied
def r_multiplied : List D → Option R
  | [.tup [.int a, .int b], .tup [.int c, .int d]] => if okMul a c && okMul b d && okLow (b * d) then some (.im (low (a * c) (b * d))) else none
  | _ => none
theorem le_multiplied : ∀ ds r, r_multiplied ds = some r → r0_multiplied ds = some r := fun ds r h => by
  unfold r_multiplied at h
  split at h
  case h_2 => cases h
  rename_i a b c d
  split at h
  case isFalse => cases h
  rename_i hok
  cases h
  simp only [Bool.and_eq_true] at hok
  obtain ⟨⟨h0, h1⟩, h2⟩ := hok
  show outF (b_multiplied [.im (.tup [.int a, .int b]), .im (.tup [.int c, .int d])]) = _
  unfold b_multiplied
  have m1 : xop opMul (xop opIx (xv 0) (xc (.int 0))) (xop opIx (xv 1) (xc (.int 0))) [.im (.tup [.int a, .int b]), .im (.tup [.int c, .int d])] = some (.im (.int (a * c)), [.im (.tup [.int a, .int b]), .im (.tup [.int c, .int d])]) := xop_ok (x := .im (.int a)) (y := .im (.int c)) rfl rfl (if_pos h0)
  have m3 : xop opMul (xop opIx (xv 0) (xc (.int 1))) (xop opIx (xv 1) (xc (.int 1))) [.im (.tup [.int a, .int b]), .im (.tup [.int c, .int d])] = some (.im (.int (b * d)), [.im (.tup [.int a, .int b]), .im (.tup [.int c, .int d])]) := xop_ok (x := .im (.int b)) (y := .im (.int d)) rfl rfl (if_pos h1)
  rw [xret_ok (xcall_ok (xcons_ok m1 (xcons_ok m3 rfl)) (if_pos h2))]
  rfl
def b_Rule_scaled : MS := (xseq (xset 2 (xcall r_value_of (xcons (xv 1) xnil)))
  (xseq (xset 3 (xlc (xseqI (xfld 0 2 (xv 0))) (tgt [(tgn 4), (tgn 5)]) xtyes (xtup (xcons (xv 4) (xcons (xcall r_multiplied (xcons (xv 5) (xcons (xv 2) xnil))) xnil))) [4, 5]))
  (xret (xmake 0 r_Rule_init ([.tup [], .tup []].drop 2) (xcons (xfld 0 0 (xv 0)) (xcons (xfld 0 1 (xv 0)) (xcons (xv 3) (xcons (xlc (xseqI (xfld 0 3 (xv 0))) (tgn 6) xtyes (xtup (xstar (xsl slB (xv 6) xnop (xpart (xc (.int 2)))) (xcons (xcall r_multiplied (xcons (xop opIx (xv 6) (xc (.int 2))) (xcons (xv 2) xnil))) xnil))) [6]) xnil))))))))
def r_Rule_scaled : List D → Option R := runF 2 7 b_Rule_scaled
def b_w_choose : MS := (xseq (xifs (xtest (xop opGt (xby 0 (xixv 0 (xc (.int 0))) (xop opIx (xv 0) (xc (.int 0)))) (xc (.int 0)))) (xseq (xset 2 (xop opMod (xcb cbInt (xcons (xby 0 (xixv 0 (xc (.int 0))) (xop opIx (xv 0) (xc (.int 0)))) xnil)) (xv 1)))
  (xseq (xput 0 (xop opFdiv (xby 0 (xixv 0 (xc (.int 0))) (xop opIx (xv 0) (xc (.int 0)))) (xv 1)) (xc (.int 0)))
  (xret (xmv 2)))) xnext)
  (xseq (xset 3 (xop opMod (xcb cbInt (xcons (xop opAddB (xop opMul (xby 0 (xixv 0 (xc (.int 1))) (xop opIx (xv 0) (xc (.int 1)))) (xc (.int 40014))) (xc (.int 67))) xnil)) (xc (.int 2147483563))))
  (xseq (xput 0 (xop opAddB (xop opMod (xcb cbInt (xcons (xop opAddB (xop opMul (xv 3) (xc (.int 40692))) (xc (.int 5099))) xnil)) (xc (.int 2147483629))) (xc (.int 1))) (xc (.int 1)))
  (xret (xop opMod (xcb cbInt (xcons (xop opFdiv (xop opAddB (xop opMul (xv 3) (xc (.int 2147483647))) (xby 0 (xixv 0 (xc (.int 1))) (xop opIx (xv 0) (xc (.int 1))))) (xc (.int 8191))) xnil)) (xv 1))))))
def r_w_choose : Mob → List D → Option (R × Mob) := runB 2 4 b_w_choose
def b_w_seed : MS := (xseq (xset 2 (xop opAddB (xop opMul (xc (.int 8837)) (xv 1)) (xc (.int 71))))
  (xseq (xifs (xtest (xop opLt (xv 1) (xcb cbLen (xcons (xv 0) xnil)))) (xset 2 (xcb cbAbs (xcons (xop opIx (xv 0) (xv 1)) xnil))) (xifs (xtest (xop opGt (xcb cbLen (xcons (xv 0) xnil)) (xc (.int 0)))) (xset 2 (xop opAddB (xv 2) (xop opMul (xop opMod (xcb cbInt (xcons (xcb cbAbs (xcons (xop opIx (xv 0) (xop opMod (xcb cbInt (xcons (xv 1) xnil)) (xcb cbLen (xcons (xv 0) xnil)))) xnil)) xnil)) (xc (.int 2147483629))) (xc (.int 46021))))) xnext))
  (xseq (xset 3 (xif (xtest (xop opGe (xv 2) (xop opPow (xc (.int 10)) (xc (.int 18))))) (xv 2) (xc (.int 0))))
  (xret (xlst (xcons (xv 3) (xcons (xop opAddB (xop opMod (xcb cbInt (xcons (xop opAddB (xop opMul (xop opMod (xcb cbInt (xcons (xv 2) xnil)) (xc (.int 2147483629))) (xc (.int 48271))) (xop opMul (xc (.int 44017)) (xv 1))) xnil)) (xc (.int 2147483629))) (xc (.int 1))) xnil)))))))
def r_w_seed : List D → Option R := runF 2 4 b_w_seed
def b_area : MS := (xseq (xasg (xcall r_need_stretch (xcons (xv 0) (xcons (xv 1) xnil))) (tgt [(tgn 2), (tgn 3)]))
  (xret (xmake 0 r_Rule_init ([.tup [], .tup []].drop 2) (xcons (xv 2) (xcons (xv 3) (xcons (xlst xnil) (xcons (xlst (xcons (xtup (xcons (xv 2) (xcons (xv 3) (xcons (xc (.int 1)) xnil)))) xnil)) xnil)))))))
def r_area : List D → Option R := runF 2 4 b_area
def b_trimmed_1 : MS := (xaug 1 opSub (xc (.int 1)))
def b_trimmed : MS := (xseq (xset 1 (xcb cbLen (xcons (xv 0) xnil)))
  (xseq (xwhile (fun _ => 1000) (xtand (xtest (xop opGt (xv 1) (xc (.int 0)))) (xtest (xop opEq (xop opIx (xv 0) (xop opSub (xv 1) (xc (.int 1)))) (xc (.int 0))))) b_trimmed_1)
  (xret (xcb cbTuple (xcons (xsl slB (xv 0) xnop (xpart (xv 1))) xnil)))))
def r_trimmed : List D → Option R := runF 1 2 b_trimmed
def b_derived : MS := (xret (xcall r_trimmed (xcons (xsl slB (xlc (xenumA (xcons (xv 0) xnil)) (tgt [(tgn 1), (tgn 2)]) xtyes (xop opMul (xv 1) (xv 2)) [1, 2]) (xpart (xc (.int 1))) xnop) xnil)))
def r_derived : List D → Option R := runF 1 3 b_derived
def b_primitive_1 : MS := (xset 1 (xcall r_divisor (xcons (xv 1) (xcons (xv 2) xnil))))
def b_primitive : MS := (xseq (xset 1 (xc (.int 0)))
  (xseq (xfor (xseqI (xv 0)) (tgn 2) b_primitive_1)
  (xret (xif (xtest (xop opLt (xv 1) (xc (.int 2)))) (xv 0) (xcb cbTuple (xcons (xlc (xseqI (xv 0)) (tgn 2) xtyes (xop opFdiv (xv 2) (xv 1)) [2]) xnil))))))
def r_primitive : List D → Option R := runF 1 3 b_primitive
def b_plus_1 : MS := (xseq (xset 6 (xif (xtest (xop opLt (xv 5) (xcb cbLen (xcons (xv 0) xnil)))) (xop opIx (xv 0) (xv 5)) (xc (.int 0))))
  (xapp 4 (xop opAddB (xv 6) (xif (xtest (xop opLt (xv 5) (xcb cbLen (xcons (xv 1) xnil)))) (xop opMul (xv 2) (xop opIx (xv 1) (xv 5))) (xc (.int 0))))))
def b_plus : MS := (xseq (xset 3 (xcb cbMax2 (xcons (xcb cbLen (xcons (xv 0) xnil)) (xcons (xcb cbLen (xcons (xv 1) xnil)) xnil))))
  (xseq (xset 4 (xlst xnil))
  (xseq (xfor (xrange1 (xcons (xv 3) xnil)) (tgn 5) b_plus_1)
  (xret (xcall r_trimmed (xcons (xv 4) xnil))))))
def r_plus : List D → Option R := runF 3 7 b_plus
def b_product_1 : MS := (xaugs 2 opAddI (xop opAddB (xv 3) (xv 5)) (xop opMul (xv 4) (xv 6)))
def b_product_2 : MS := (xfor (xenumA (xcons (xv 1) xnil)) (tgt [(tgn 5), (tgn 6)]) b_product_1)
def b_product : MS := (xseq (xifs (xtor (xtest (xop opEq (xv 0) (xtup xnil))) (xtest (xop opEq (xv 1) (xtup xnil)))) (xret (xtup xnil)) xnext)
  (xseq (xset 2 (xlc (xrange1 (xcons (xop opSub (xop opAddB (xcb cbLen (xcons (xv 0) xnil)) (xcb cbLen (xcons (xv 1) xnil))) (xc (.int 1))) xnil)) (tgn 7) xtyes (xc (.int 0)) [7]))
  (xseq (xfor (xenumA (xcons (xv 0) xnil)) (tgt [(tgn 3), (tgn 4)]) b_product_2)
  (xret (xcall r_trimmed (xcons (xv 2) xnil))))))
def r_product : List D → Option R := runF 2 8 b_product
def b_sign_of : MS := (xret (xop opSub (xcb cbInt (xcons (xop opGt (xv 0) (xc (.int 0))) xnil)) (xcb cbInt (xcons (xop opLt (xv 0) (xc (.int 0))) xnil))))
def r_sign_of : List D → Option R := runF 1 1 b_sign_of
def b_parted_1 : MS := (xset 7 (xcall r_divisor (xcons (xv 7) (xcons (xv 8) xnil))))
def b_parted_2 : MS := (xseq (xset 5 (xop opMul (xcall r_sign_of (xcons (xop opIx (xv 1) (xun unNeg (xc (.int 1)))) xnil)) (xop opIx (xv 3) (xun unNeg (xc (.int 1))))))
  (xseq (xset 6 (xop opMulC (xtup (xcons (xc (.int 0)) xnil)) (xop opSub (xcb cbLen (xcons (xv 3) xnil)) (xcb cbLen (xcons (xv 1) xnil)))))
  (xseq (xset 4 (xcallD r_plus ([.int (1)].drop 0) (xcons (xlc (xseqI (xv 4)) (tgn 8) xtyes (xop opMul (xv 2) (xv 8)) [8]) (xcons (xtup (xstar (xv 6) (xcons (xv 5) xnil))) xnil))))
  (xseq (xset 3 (xcallD r_plus ([.int (1)].drop 1) (xcons (xlc (xseqI (xv 3)) (tgn 8) xtyes (xop opMul (xv 2) (xv 8)) [8]) (xcons (xcall r_product (xcons (xtup (xstar (xv 6) (xcons (xc (.int 1)) xnil))) (xcons (xv 1) xnil))) (xcons (xun unNeg (xv 5)) xnil)))))
  (xseq (xset 7 (xc (.int 0)))
  (xseq (xfor (xseqI (xtup (xstar (xv 4) (xstar (xv 3) xnil)))) (tgn 8) b_parted_1)
  (xifs (xtest (xop opGt (xv 7) (xc (.int 1)))) (xseq (xset 4 (xcb cbTuple (xcons (xlc (xseqI (xv 4)) (tgn 8) xtyes (xop opFdiv (xv 8) (xv 7)) [8]) xnil)))
  (xset 3 (xcb cbTuple (xcons (xlc (xseqI (xv 3)) (tgn 8) xtyes (xop opFdiv (xv 8) (xv 7)) [8]) xnil)))) xnext)))))))
def b_parted : MS := (xseq (xasg (xtup (xcons (xcb cbAbs (xcons (xop opIx (xv 1) (xun unNeg (xc (.int 1)))) xnil)) (xcons (xv 0) (xcons (xtup xnil) xnil)))) (tgt [(tgn 2), (tgn 3), (tgn 4)]))
  (xseq (xwhile (fun _ => 1000) (xtest (xop opGe (xcb cbLen (xcons (xv 3) xnil)) (xcb cbLen (xcons (xv 1) xnil)))) b_parted_2)
  (xret (xtup (xcons (xcall r_primitive (xcons (xv 4) xnil)) (xcons (xcall r_primitive (xcons (xv 3) xnil)) xnil))))))
def r_parted : List D → Option R := runF 2 9 b_parted
def b_rest : MS := (xret (xop opIx (xcall r_parted (xcons (xv 0) (xcons (xv 1) xnil))) (xc (.int 1))))
def r_rest : List D → Option R := runF 2 2 b_rest
def b_chain_of_1 : MS := (xapp 1 (xcb cbTuple (xcons (xlc (xseqI (xcall r_rest (xcons (xby 1 (xixv 1 (xun unNeg (xc (.int 2)))) (xop opIx (xv 1) (xun unNeg (xc (.int 2))))) (xcons (xby 1 (xixv 1 (xun unNeg (xc (.int 1)))) (xop opIx (xv 1) (xun unNeg (xc (.int 1))))) xnil)))) (tgn 2) xtyes (xun unNeg (xv 2)) [2]) xnil)))
def b_chain_of : MS := (xseq (xifs (xtest (xop opLt (xcb cbLen (xcons (xv 0) xnil)) (xc (.int 2)))) (xret (xtup (xcons (xv 0) xnil))) xnext)
  (xseq (xset 1 (xlst (xcons (xv 0) (xcons (xcall r_primitive (xcons (xcall r_derived (xcons (xv 0) xnil)) xnil)) xnil))))
  (xseq (xwhile (fun _ => 1000) (xtest (xop opGt (xcb cbLen (xcons (xby 1 (xixv 1 (xun unNeg (xc (.int 1)))) (xop opIx (xv 1) (xun unNeg (xc (.int 1))))) xnil)) (xc (.int 1)))) b_chain_of_1)
  (xret (xcb cbTuple (xcons (xv 1) xnil))))))
def r_chain_of : List D → Option R := runF 1 3 b_chain_of
def b_upright : MS := (xseq (xset 1 (xcall r_primitive (xcons (xv 0) xnil)))
  (xret (xif (xtor (xtest (xop opEq (xv 1) (xtup xnil))) (xtest (xop opGt (xop opIx (xv 1) (xun unNeg (xc (.int 1)))) (xc (.int 0))))) (xv 1) (xcb cbTuple (xcons (xlc (xseqI (xv 1)) (tgn 2) xtyes (xun unNeg (xv 2)) [2]) xnil)))))
def r_upright : List D → Option R := runF 1 3 b_upright
def b_common_1 : MS := (ypar 0 1 (ycons (xv 1) (ycons (xcall r_rest (xcons (xv 0) (xcons (xv 1) xnil))) ynil)))
def b_common : MS := (xseq (xwhile (fun _ => 1000) (xtest (xop opNe (xv 1) (xtup xnil))) b_common_1)
  (xret (xcall r_upright (xcons (xv 0) xnil))))
def r_common : List D → Option R := runF 2 2 b_common
def b_divided : MS := (xret (xop opIx (xcall r_parted (xcons (xv 0) (xcons (xv 1) xnil))) (xc (.int 0))))
def r_divided : List D → Option R := runF 2 2 b_divided
def b_parts_of_1 : MS := (xseq (xaug 4 opAddI (xc (.int 1)))
  (xseq (xset 5 (xcall r_common (xcons (xv 2) (xcons (xv 1) xnil))))
  (xseq (xset 6 (xcall r_upright (xcons (xcall r_divided (xcons (xv 2) (xcons (xv 5) xnil))) xnil)))
  (xseq (xifs (xtest (xop opGt (xcb cbLen (xcons (xv 6) xnil)) (xc (.int 1)))) (xapp 3 (xtup (xcons (xv 4) (xcons (xv 6) xnil)))) xnext)
  (ypar 2 1 (ycons (xv 5) (ycons (xcall r_divided (xcons (xv 1) (xcons (xv 5) xnil))) ynil)))))))
def b_parts_of : MS := (xseq (xset 1 (xcall r_common (xcons (xv 0) (xcons (xcall r_derived (xcons (xv 0) xnil)) xnil))))
  (xseq (ypar3 2 3 4 (ycons (xcall r_upright (xcons (xcall r_divided (xcons (xv 0) (xcons (xv 1) xnil))) xnil)) (ycons (xlst xnil) (ycons (xc (.int 0)) ynil))))
  (xseq (xwhile (fun _ => 1000) (xtest (xop opGt (xcb cbLen (xcons (xv 2) xnil)) (xc (.int 1)))) b_parts_of_1)
  (xret (xcb cbTuple (xcons (xv 3) xnil))))))
def r_parts_of : List D → Option R := runF 1 7 b_parts_of
def b_power_1 : MS := (xset 2 (xcall r_product (xcons (xv 2) (xcons (xv 0) xnil))))
def b_power : MS := (xseq (xset 2 (xtup (xcons (xc (.int 1)) xnil)))
  (xseq (xfor (xrange1 (xcons (xv 1) xnil)) (tgn 3) b_power_1)
  (xret (xmv 2))))
def r_power : List D → Option R := runF 2 4 b_power
def b_value_at_polys_1 : MS := (xseq (xset 2 (xop opAddB (xop opMul (xv 2) (xop opIx (xv 1) (xc (.int 0)))) (xop opMul (xv 4) (xv 3))))
  (xset 3 (xop opMul (xv 3) (xop opIx (xv 1) (xc (.int 1))))))
def b_value_at_polys : MS := (xseq (xasg (xtup (xcons (xc (.int 0)) (xcons (xc (.int 1)) xnil))) (tgt [(tgn 2), (tgn 3)]))
  (xseq (xfor (xseqI (xrevA (xv 0) (xun unNeg (xc (.int 1))))) (tgn 4) b_value_at_polys_1)
  (xret (xmv 2))))
def r_value_at_polys : List D → Option R := runF 2 5 b_value_at_polys
def b_without_ends_1 : MS := (xseq (xset 0 (xcall r_divided (xcons (xv 0) (xcons (xv 5) xnil))))
  (xaug 6 opAddI (xc (.int 1))))
def b_without_ends_2 : MS := (xseq (xset 6 (xc (.int 0)))
  (xseq (xwhile (fun _ => 1000) (xtest (xop opEq (xcall r_value_at_polys (xcons (xv 0) (xcons (xv 4) xnil))) (xc (.int 0)))) b_without_ends_1)
  (xapp 3 (xv 6))))
def b_without_ends : MS := (xseq (xset 3 (xlst xnil))
  (xseq (xfor (xseqI (xtup (xcons (xtup (xcons (xv 1) (xcons (xtup (xcons (xun unNeg (xop opIx (xv 1) (xc (.int 0)))) (xcons (xop opIx (xv 1) (xc (.int 1))) xnil))) xnil))) (xcons (xtup (xcons (xv 2) (xcons (xtup (xcons (xop opIx (xv 2) (xc (.int 0))) (xcons (xun unNeg (xop opIx (xv 2) (xc (.int 1)))) xnil))) xnil))) xnil)))) (tgt [(tgn 4), (tgn 5)]) b_without_ends_2)
  (xret (xtup (xcons (xby 3 (xixv 3 (xc (.int 0))) (xop opIx (xv 3) (xc (.int 0)))) (xcons (xby 3 (xixv 3 (xc (.int 1))) (xop opIx (xv 3) (xc (.int 1)))) (xcons (xv 0) xnil)))))))
def r_without_ends : List D → Option R := runF 3 7 b_without_ends
def b_entry_1 : MS := (xseq (xset 6 (xcall r_product (xcons (xv 6) (xcons (xcall r_power (xcons (xv 9) (xcons (xop opFdiv (xv 8) (xc (.int 2))) xnil))) xnil))))
  (xset 7 (xif (xtest (xop opEq (xop opMod (xv 8) (xc (.int 2))) (xc (.int 1)))) (xcall r_product (xcons (xv 7) (xcons (xv 9) xnil))) (xv 7))))
def b_entry : MS := (xseq (xifs (xtest (xop opEq (xv 0) (xtup xnil))) (xret (xtup xnil)) xnext)
  (xseq (xasg (xcall r_without_ends (xcons (xv 0) (xcons (xv 1) (xcons (xv 2) xnil)))) (tgt [(tgn 3), (tgn 4), (tgn 5)]))
  (xseq (xasg (xtup (xcons (xtup (xcons (xc (.int 1)) xnil)) (xcons (xtup (xcons (xc (.int 1)) xnil)) xnil))) (tgt [(tgn 6), (tgn 7)]))
  (xseq (xfor (xseqI (xcall r_parts_of (xcons (xv 5) xnil))) (tgt [(tgn 8), (tgn 9)]) b_entry_1)
  (xseq (xifs (xtest (xop opLt (xcall r_value_at_polys (xcons (xv 7) (xcons (xv 2) xnil))) (xc (.int 0)))) (xset 7 (xcb cbTuple (xcons (xlc (xseqI (xv 7)) (tgn 10) xtyes (xun unNeg (xv 10)) [10]) xnil))) xnext)
  (xret (xtup (xcons (xv 3) (xcons (xv 4) (xcons (xv 6) (xcons (xcall r_chain_of (xcons (xv 7) xnil)) xnil)))))))))))
def r_entry : List D → Option R := runF 3 11 b_entry
def b_integers_of_1 : MS := (xset 1 (xop opMul (xv 1) (xop opIx (xv 2) (xc (.int 1)))))
def b_integers_of : MS := (xseq (xset 1 (xc (.int 1)))
  (xseq (xfor (xseqI (xv 0)) (tgn 2) b_integers_of_1)
  (xret (xcall r_trimmed (xcons (xlc (xseqI (xv 0)) (tgt [(tgn 3), (tgn 4)]) xtyes (xop opMul (xv 3) (xop opFdiv (xv 1) (xv 4))) [3, 4]) xnil)))))
def r_integers_of : List D → Option R := runF 1 5 b_integers_of
def b_knots_of_1 : MS := (xset 1 (xlst (xstar (xv 1) (xcons (xv 2) (xcons (xv 3) xnil)))))
def b_knots_of_2 : MS := (xset 5 (xop opMul (xv 5) (xop opIx (xv 6) (xc (.int 1)))))
def b_knots_of : MS := (xseq (xset 1 (xlst (xcons (xfld 0 0 (xv 0)) (xcons (xfld 0 1 (xv 0)) (xstar (xlc (xseqI (xfld 0 2 (xv 0))) (tgt [(tgn 7), (tgn 8)]) xtyes (xv 7) [7, 8]) xnil)))))
  (xseq (xfor (xseqI (xfld 0 3 (xv 0))) (tgt [(tgn 2), (tgn 3), (tgn 4)]) b_knots_of_1)
  (xseq (xset 5 (xc (.int 1)))
  (xseq (xfor (xseqI (xv 1)) (tgn 6) b_knots_of_2)
  (xret (xlc (xseqI (xcb cbSortSet (xcons (xlc (xseqI (xv 1)) (tgt [(tgn 9), (tgn 10)]) xtyes (xcb cbInt (xcons (xop opMul (xv 9) (xop opFdiv (xv 5) (xv 10))) xnil)) [9, 10]) xnil))) (tgn 11) xtyes (xcall r_lowest (xcons (xv 11) (xcons (xv 5) xnil))) [11]))))))
def r_knots_of : List D → Option R := runF 1 12 b_knots_of
def b_powered_1 : MS := (xset 2 (xcall r_multiplied (xcons (xv 2) (xcons (xv 0) xnil))))
def b_powered : MS := (xseq (xset 2 (xc c_ONE))
  (xseq (xfor (xrange1 (xcons (xv 1) xnil)) (tgn 3) b_powered_1)
  (xret (xmv 2))))
def r_powered : List D → Option R := runF 2 4 b_powered
def b_ways_1 : MS := (xset 2 (xop opFdiv (xop opMul (xv 2) (xop opSub (xv 0) (xv 3))) (xop opAddB (xv 3) (xc (.int 1)))))
def b_ways : MS := (xseq (xset 2 (xc (.int 1)))
  (xseq (xfor (xrange1 (xcons (xv 1) xnil)) (tgn 3) b_ways_1)
  (xret (xmv 2))))
def r_ways : List D → Option R := runF 2 4 b_ways
def b_distance_power_1 : MS := (xseq (xset 5 (xif (xtest (xop opEq (xop opMod (xv 4) (xc (.int 2))) (xc (.int 0)))) (xc (.int 1)) (xun unNeg (xc (.int 1)))))
  (xapp 3 (xcall r_multiplied (xcons (xcall r_multiplied (xcons (xtup (xcons (xop opMul (xv 5) (xcall r_ways (xcons (xv 1) (xcons (xv 4) xnil)))) (xcons (xc (.int 1)) xnil))) (xcons (xcall r_powered (xcons (xv 0) (xcons (xop opSub (xv 1) (xv 4)) xnil))) xnil))) (xcons (xv 2) xnil)))))
def b_distance_power : MS := (xseq (xset 3 (xlst xnil))
  (xseq (xfor (xrange1 (xcons (xop opAddB (xv 1) (xc (.int 1))) xnil)) (tgn 4) b_distance_power_1)
  (xret (xmv 3))))
def r_distance_power : List D → Option R := runF 3 6 b_distance_power
def b_less_by : MS := (xret (xcall r_lowest (xcons (xop opSub (xop opMul (xop opIx (xv 0) (xc (.int 0))) (xop opIx (xv 1) (xc (.int 1)))) (xop opMul (xop opIx (xv 1) (xc (.int 0))) (xop opIx (xv 0) (xc (.int 1))))) (xcons (xop opMul (xop opIx (xv 0) (xc (.int 1))) (xop opIx (xv 1) (xc (.int 1)))) xnil))))
def r0_less_by : List D → Option R := runF 2 2 b_less_by
def r_less_by : List D → Option R
  | [.tup [.int a, .int b], .tup [.int c, .int d]] => if okMul a d && okMul c b && okMul b d && okLow (b * d) then some (.im (low (a * d - c * b) (b * d))) else none
  | _ => none
theorem le_less_by : ∀ ds r, r_less_by ds = some r → r0_less_by ds = some r := fun ds r h => by
  unfold r_less_by at h
  split at h
  case h_2 => cases h
  rename_i a b c d
  split at h
  case isFalse => cases h
  rename_i hok
  cases h
  simp only [Bool.and_eq_true] at hok
  obtain ⟨⟨⟨h0, h1⟩, h2⟩, h3⟩ := hok
  show outF (b_less_by [.im (.tup [.int a, .int b]), .im (.tup [.int c, .int d])]) = _
  unfold b_less_by
  have m1 : xop opMul (xop opIx (xv 0) (xc (.int 0))) (xop opIx (xv 1) (xc (.int 1))) [.im (.tup [.int a, .int b]), .im (.tup [.int c, .int d])] = some (.im (.int (a * d)), [.im (.tup [.int a, .int b]), .im (.tup [.int c, .int d])]) := xop_ok (x := .im (.int a)) (y := .im (.int d)) rfl rfl (if_pos h0)
  have m2 : xop opMul (xop opIx (xv 1) (xc (.int 0))) (xop opIx (xv 0) (xc (.int 1))) [.im (.tup [.int a, .int b]), .im (.tup [.int c, .int d])] = some (.im (.int (c * b)), [.im (.tup [.int a, .int b]), .im (.tup [.int c, .int d])]) := xop_ok (x := .im (.int c)) (y := .im (.int b)) rfl rfl (if_pos h1)
  have m3 : xop opMul (xop opIx (xv 0) (xc (.int 1))) (xop opIx (xv 1) (xc (.int 1))) [.im (.tup [.int a, .int b]), .im (.tup [.int c, .int d])] = some (.im (.int (b * d)), [.im (.tup [.int a, .int b]), .im (.tup [.int c, .int d])]) := xop_ok (x := .im (.int b)) (y := .im (.int d)) rfl rfl (if_pos h2)
  rw [xret_ok (xcall_ok (xcons_ok (xop_ok m1 m2 rfl) (xcons_ok m3 rfl)) (if_pos h3))]
  rfl
def b_sum_of : MS := (xseq (xset 2 (xlst (xstar (xv 0) (xstar (xlc (xrange1 (xcons (xop opSub (xcb cbLen (xcons (xv 1) xnil)) (xcb cbLen (xcons (xv 0) xnil))) xnil)) (tgn 3) xtyes (xc c_NOUGHT) [3]) xnil))))
  (xret (xlc (xzipA (xcons (xv 2) (xcons (xv 1) xnil))) (tgt [(tgn 4), (tgn 5)]) xtyes (xcall r_added (xcons (xv 4) (xcons (xv 5) xnil))) [4, 5])))
def r_sum_of : List D → Option R := runF 2 6 b_sum_of
def b_piece_1 : MS := (xifs (xtnot (xtru (xcall r_is_less (xcons (xv 5) (xcons (xv 3) xnil))))) (xset 4 (xcall r_sum_of (xcons (xcall r_distance_power (xcons (xv 5) (xcons (xop opSub (xv 1) (xc (.int 1))) (xcons (xv 6) xnil)))) (xcons (xv 4) xnil)))) xnext)
def b_piece_2 : MS := (xseq (xset 10 (xcall r_multiplied (xcons (xv 9) (xcons (xtup (xcons (xc (.int 1)) (xcons (xv 1) xnil))) xnil))))
  (xseq (xifs (xtnot (xtru (xcall r_is_less (xcons (xv 8) (xcons (xv 3) xnil))))) (xset 4 (xcall r_sum_of (xcons (xcall r_distance_power (xcons (xv 8) (xcons (xv 1) (xcons (xv 10) xnil)))) (xcons (xv 4) xnil)))) xnext)
  (xifs (xtnot (xtru (xcall r_is_less (xcons (xv 7) (xcons (xv 3) xnil))))) (xset 4 (xcall r_sum_of (xcons (xcall r_distance_power (xcons (xv 7) (xcons (xv 1) (xcons (xcall r_less_by (xcons (xc c_NOUGHT) (xcons (xv 10) xnil))) xnil)))) (xcons (xv 4) xnil)))) xnext)))
def b_piece : MS := (xseq (xset 4 (xlc (xrange1 (xcons (xop opAddB (xv 1) (xc (.int 1))) xnil)) (tgn 11) xtyes (xc c_NOUGHT) [11]))
  (xseq (xfor (xseqI (xfld 0 2 (xv 0))) (tgt [(tgn 5), (tgn 6)]) b_piece_1)
  (xseq (xfor (xseqI (xfld 0 3 (xv 0))) (tgt [(tgn 7), (tgn 8), (tgn 9)]) b_piece_2)
  (xret (xcb cbTuple (xcons (xv 4) xnil))))))
def r_piece : List D → Option R := runF 4 12 b_piece
def b_kernel : MS := (xseq (xset 2 (xcall r_knots_of (xcons (xv 0) xnil)))
  (xret (xcb cbTuple (xcons (xlc (xzipA (xcons (xv 2) (xcons (xsl slB (xv 2) (xpart (xc (.int 1))) xnop) xnil))) (tgt [(tgn 3), (tgn 4)]) xtyes (xtup (xcons (xv 3) (xcons (xv 4) (xcons (xcall r_piece (xcons (xv 0) (xcons (xv 1) (xcons (xv 3) (xcons (xv 4) xnil))))) xnil)))) [3, 4]) xnil))))
def r_kernel : List D → Option R := runF 2 5 b_kernel
def b_quotient : MS := (xret (xcall r_lowest (xcons (xop opMul (xop opIx (xv 0) (xc (.int 0))) (xop opIx (xv 1) (xc (.int 1)))) (xcons (xop opMul (xop opIx (xv 0) (xc (.int 1))) (xop opIx (xv 1) (xc (.int 0)))) xnil))))
def r0_quotient : List D → Option R := runF 2 2 b_quotient
def r_quotient : List D → Option R
  | [.tup [.int a, .int b], .tup [.int c, .int d]] => if okMul a d && okMul b c && okLow (b * c) then some (.im (low (a * d) (b * c))) else none
  | _ => none
theorem le_quotient : ∀ ds r, r_quotient ds = some r → r0_quotient ds = some r := fun ds r h => by
  unfold r_quotient at h
  split at h
  case h_2 => cases h
  rename_i a b c d
  split at h
  case isFalse => cases h
  rename_i hok
  cases h
  simp only [Bool.and_eq_true] at hok
  obtain ⟨⟨h0, h1⟩, h2⟩ := hok
  show outF (b_quotient [.im (.tup [.int a, .int b]), .im (.tup [.int c, .int d])]) = _
  unfold b_quotient
  have m1 : xop opMul (xop opIx (xv 0) (xc (.int 0))) (xop opIx (xv 1) (xc (.int 1))) [.im (.tup [.int a, .int b]), .im (.tup [.int c, .int d])] = some (.im (.int (a * d)), [.im (.tup [.int a, .int b]), .im (.tup [.int c, .int d])]) := xop_ok (x := .im (.int a)) (y := .im (.int d)) rfl rfl (if_pos h0)
  have m3 : xop opMul (xop opIx (xv 0) (xc (.int 1))) (xop opIx (xv 1) (xc (.int 0))) [.im (.tup [.int a, .int b]), .im (.tup [.int c, .int d])] = some (.im (.int (b * c)), [.im (.tup [.int a, .int b]), .im (.tup [.int c, .int d])]) := xop_ok (x := .im (.int b)) (y := .im (.int c)) rfl rfl (if_pos h1)
  rw [xret_ok (xcall_ok (xcons_ok m1 (xcons_ok m3 rfl)) (if_pos h2))]
  rfl
def b_area_powers : MS := (xret (xlst (xcons (xc c_NOUGHT) (xstar (xlc (xenumA (xcons (xv 0) xnil)) (tgt [(tgn 1), (tgn 2)]) xtyes (xcall r_quotient (xcons (xv 2) (xcons (xtup (xcons (xop opAddB (xv 1) (xc (.int 1))) (xcons (xc (.int 1)) xnil))) xnil))) [1, 2]) xnil))))
def r_area_powers : List D → Option R := runF 1 3 b_area_powers
def b_value_at_rules_1 : MS := (xset 2 (xcall r_added (xcons (xcall r_multiplied (xcons (xv 2) (xcons (xv 1) xnil))) (xcons (xv 3) xnil))))
def b_value_at_rules : MS := (xseq (xset 2 (xc c_NOUGHT))
  (xseq (xfor (xseqI (xrev (xv 0) (xun unNeg (xc (.int 1))))) (tgn 3) b_value_at_rules_1)
  (xret (xmv 2))))
def r_value_at_rules : List D → Option R := runF 2 4 b_value_at_rules
def b_told_1 : MS := (xapp 4 (xcall r_multiplied (xcons (xv 7) (xcons (xcall r_less_by (xcons (xcall r_value_at_rules (xcons (xv 3) (xcons (xv 6) xnil))) (xcons (xcall r_value_at_rules (xcons (xv 3) (xcons (xv 5) xnil))) xnil))) xnil))))
def b_told : MS := (xseq (xset 2 (xlc (xseqI (xv 1)) (tgn 8) xtyes (xcall r_value_of (xcons (xv 8) xnil)) [8]))
  (xseq (xset 3 (xcall r_area_powers (xcons (xv 2) xnil)))
  (xseq (xset 4 (xlc (xseqI (xfld 0 2 (xv 0))) (tgt [(tgn 9), (tgn 10)]) xtyes (xcall r_multiplied (xcons (xv 10) (xcons (xcall r_value_at_rules (xcons (xv 2) (xcons (xv 9) xnil))) xnil))) [9, 10]))
  (xseq (xfor (xseqI (xfld 0 3 (xv 0))) (tgt [(tgn 5), (tgn 6), (tgn 7)]) b_told_1)
  (xret (xcall r_summed (xcons (xv 4) xnil)))))))
def r_told : List D → Option R := runF 2 11 b_told
def b_degree_1 : MS := (xset 1 (xlst (xcons (xc c_NOUGHT) (xstar (xv 1) xnil))))
def b_degree : MS := (xseq (xifs (xtest (xop opEq (xop opAddB (xcb cbLen (xcons (xfld 0 2 (xv 0)) xnil)) (xcb cbLen (xcons (xfld 0 3 (xv 0)) xnil))) (xc (.int 0)))) (xret (xc .non)) xnext)
  (xseq (xset 1 (xlst (xcons (xc c_ONE) xnil)))
  (xseq (xwhile (fun _ => 1000) (xtest (xop opEq (xcall r_told (xcons (xv 0) (xcons (xv 1) xnil))) (xc c_NOUGHT))) b_degree_1)
  (xret (xop opSub (xcb cbLen (xcons (xv 1) xnil)) (xc (.int 2)))))))
def r_degree : List D → Option R := runF 1 2 b_degree
def b_is_exact_enough : MS := (xseq (xset 2 (xcall r_degree (xcons (xv 0) xnil)))
  (xret (xvor (xop opIs (xv 2) (xc .non)) (xop opGe (xv 2) (xop opSub (xv 1) (xc (.int 1)))))))
def r_is_exact_enough : List D → Option R := runF 2 3 b_is_exact_enough
def b_sign_changes : MS := (xseq (xset 1 (xlc (xseqI (xv 0)) (tgn 2) (xtest (xop opNe (xv 2) (xc (.int 0)))) (xv 2) [2]))
  (xret (xcb cbLen (xcons (xlc (xzipA (xcons (xv 1) (xcons (xsl slB (xv 1) (xpart (xc (.int 1))) xnop) xnil))) (tgt [(tgn 3), (tgn 4)]) (xtest (xop opNe (xv 3) (xv 4))) (xc (.int 1)) [3, 4]) xnil))))
def r_sign_changes : List D → Option R := runF 1 5 b_sign_changes
def b_changes_at : MS := (xret (xcall r_sign_changes (xcons (xlc (xseqI (xv 0)) (tgn 2) xtyes (xcall r_sign_of (xcons (xcall r_value_at_polys (xcons (xv 2) (xcons (xv 1) xnil))) xnil)) [2]) xnil)))
def r_changes_at : List D → Option R := runF 2 3 b_changes_at
def b_once_each : MS := (xret (xcall r_upright (xcons (xcall r_divided (xcons (xv 0) (xcons (xcall r_common (xcons (xv 0) (xcons (xcall r_derived (xcons (xv 0) xnil)) xnil))) xnil))) xnil)))
def r_once_each : List D → Option R := runF 1 1 b_once_each
def b_roots_between : MS := (xseq (xifs (xtest (xop opLt (xcb cbLen (xcons (xv 0) xnil)) (xc (.int 2)))) (xret (xc (.int 0))) xnext)
  (xseq (xset 3 (xcall r_chain_of (xcons (xcall r_once_each (xcons (xv 0) xnil)) xnil)))
  (xret (xop opSub (xcall r_changes_at (xcons (xv 3) (xcons (xv 1) xnil))) (xcall r_changes_at (xcons (xv 3) (xcons (xv 2) xnil)))))))
def r_roots_between : List D → Option R := runF 3 4 b_roots_between
def b_is_nowhere_below : MS := (xseq (xifs (xtest (xop opEq (xv 0) (xtup xnil))) (xret (xc (.bl true))) xnext)
  (xseq (xset 3 (xop opIx (xcall r_without_ends (xcons (xv 0) (xcons (xv 1) (xcons (xv 2) xnil)))) (xc (.int 2))))
  (xseq (xifs (xtest (xop opLt (xcall r_value_at_polys (xcons (xv 3) (xcons (xv 2) xnil))) (xc (.int 0)))) (xret (xc (.bl false))) xnext)
  (xret (xcb cbAll (xcons (xlc (xseqI (xcall r_parts_of (xcons (xv 3) xnil))) (tgt [(tgn 4), (tgn 5)]) xtyes (xvor (xop opEq (xop opMod (xv 4) (xc (.int 2))) (xc (.int 0))) (xop opEq (xcall r_roots_between (xcons (xv 5) (xcons (xv 1) (xcons (xv 2) xnil)))) (xc (.int 0)))) [4, 5]) xnil))))))
def r_is_nowhere_below : List D → Option R := runF 3 6 b_is_nowhere_below
def b_never_below : MS := (xseq (xifs (xtest (xop opEq (xv 1) (xc (.int 0)))) (xseq (xset 2 (xlst (xstar (xlc (xseqI (xfld 0 2 (xv 0))) (tgt [(tgn 3), (tgn 4)]) xtyes (xv 4) [3, 4]) (xstar (xlc (xseqI (xfld 0 3 (xv 0))) (tgt [(tgn 5), (tgn 6), (tgn 7)]) xtyes (xv 7) [5, 6, 7]) xnil))))
  (xret (xcb cbAll (xcons (xlc (xseqI (xv 2)) (tgn 8) xtyes (xop opGt (xop opIx (xv 8) (xc (.int 0))) (xc (.int 0))) [8]) xnil)))) xnext)
  (xseq (xifs (xtnot (xtru (xcall r_is_exact_enough (xcons (xv 0) (xcons (xv 1) xnil))))) (xret (xc (.bl false))) xnext)
  (xret (xcb cbAll (xcons (xlc (xseqI (xcall r_kernel (xcons (xv 0) (xcons (xv 1) xnil)))) (tgt [(tgn 5), (tgn 6), (tgn 9)]) xtyes (xcall r_is_nowhere_below (xcons (xcall r_integers_of (xcons (xv 9) xnil)) (xcons (xv 5) (xcons (xv 6) xnil)))) [5, 6, 9]) xnil)))))
def r_never_below : List D → Option R := runF 2 10 b_never_below
def b_paper : MS := (xseq (xifs (xtnot (xtru (xcall r_never_below (xcons (xv 0) (xcons (xv 1) xnil))))) (xret (xc .non)) xnext)
  (xret (xcb cbTuple (xcons (xlc (xseqI (xcall r_kernel (xcons (xv 0) (xcons (xv 1) xnil)))) (tgt [(tgn 2), (tgn 3), (tgn 4)]) xtyes (xcall r_entry (xcons (xcall r_integers_of (xcons (xv 4) xnil)) (xcons (xv 2) (xcons (xv 3) xnil)))) [2, 3, 4]) xnil))))
def r_paper : List D → Option R := runF 2 5 b_paper
def b_are_like : MS := (xret (xop opEq (xcall r_primitive (xcons (xv 0) xnil)) (xcb cbTuple (xcons (xlc (xseqI (xcall r_primitive (xcons (xv 1) xnil))) (tgn 3) xtyes (xop opMul (xv 2) (xv 3)) [3]) xnil))))
def r_are_like : List D → Option R := runF 3 4 b_are_like
def b_is_number : MS := (xret (xvand (xcall r_is_integer (xcons (xv 0) xnil)) (xop opGe (xv 0) (xc (.int 0)))))
def r_is_number : List D → Option R := runF 1 1 b_is_number
def b_is_poly : MS := (xseq (xifs (xtor (xtnot (xtru (xcb cbIsi (xcons (xv 0) (xcons (xc (.ty "tuple")) xnil))))) (xtest (xop opEq (xv 0) (xtup xnil)))) (xret (xc (.bl false))) xnext)
  (xret (xvand (xcb cbAll (xcons (xlc (xseqI (xv 0)) (tgn 1) xtyes (xcall r_is_integer (xcons (xv 1) xnil)) [1]) xnil)) (xop opNe (xop opIx (xv 0) (xun unNeg (xc (.int 1)))) (xc (.int 0))))))
def r_is_poly : List D → Option R := runF 1 2 b_is_poly
def b_is_formed : MS := (xseq (xifs (xtor (xtnot (xtru (xcb cbIsi (xcons (xv 0) (xcons (xc (.ty "tuple")) xnil))))) (xtor (xtest (xop opNe (xcb cbLen (xcons (xv 0) xnil)) (xc (.int 4)))) (xtnot (xtru (xcall r_is_poly (xcons (xop opIx (xv 0) (xc (.int 2))) xnil)))))) (xret (xc (.bl false))) xnext)
  (xseq (xifs (xtor (xtnot (xtru (xcall r_is_number (xcons (xop opIx (xv 0) (xc (.int 0))) xnil)))) (xtor (xtnot (xtru (xcall r_is_number (xcons (xop opIx (xv 0) (xc (.int 1))) xnil)))) (xtnot (xtru (xcb cbIsi (xcons (xop opIx (xv 0) (xc (.int 3))) (xcons (xc (.ty "tuple")) xnil))))))) (xret (xc (.bl false))) xnext)
  (xret (xvand (xop opNe (xop opIx (xv 0) (xc (.int 3))) (xtup xnil)) (xcb cbAll (xcons (xlc (xseqI (xop opIx (xv 0) (xc (.int 3)))) (tgn 1) xtyes (xcall r_is_poly (xcons (xv 1) xnil)) [1]) xnil))))))
def r_is_formed : List D → Option R := runF 1 2 b_is_formed
def b_is_good : MS := (xseq (xifs (xtest (xop opNe (xcb cbLen (xcons (xop opIx (xv 0) (xun unNeg (xc (.int 1)))) xnil)) (xc (.int 1)))) (xret (xc (.bl false))) xnext)
  (xseq (xifs (xtest (xop opEq (xcb cbLen (xcons (xv 0) xnil)) (xc (.int 1)))) (xret (xc (.bl true))) xnext)
  (xseq (xifs (xtnot (xtru (xcall r_are_like (xcons (xop opIx (xv 0) (xc (.int 1))) (xcons (xcall r_derived (xcons (xop opIx (xv 0) (xc (.int 0))) xnil)) (xcons (xc (.int 1)) xnil)))))) (xret (xc (.bl false))) xnext)
  (xret (xcb cbAll (xcons (xlc (xzip3 (xcons (xv 0) (xcons (xsl slB (xv 0) (xpart (xc (.int 1))) xnop) (xcons (xsl slB (xv 0) (xpart (xc (.int 2))) xnop) xnil)))) (tgt [(tgn 1), (tgn 2), (tgn 3)]) xtyes (xcall r_are_like (xcons (xv 3) (xcons (xcall r_rest (xcons (xv 1) (xcons (xv 2) xnil))) (xcons (xun unNeg (xc (.int 1))) xnil)))) [1, 2, 3]) xnil))))))
def r_is_good : List D → Option R := runF 1 4 b_is_good
def b_entry_holds : MS := (xseq (xifs (xtor (xtest (xop opEq (xv 0) (xtup xnil))) (xtand (xtru (xcb cbIsi (xcons (xv 3) (xcons (xc (.ty "tuple")) xnil)))) (xtest (xop opEq (xv 3) (xtup xnil))))) (xret (xvand (xop opEq (xv 0) (xtup xnil)) (xvand (xcb cbIsi (xcons (xv 3) (xcons (xc (.ty "tuple")) xnil))) (xop opEq (xv 3) (xtup xnil))))) xnext)
  (xseq (xifs (xtnot (xtru (xcall r_is_formed (xcons (xv 3) xnil)))) (xret (xc (.bl false))) xnext)
  (xseq (xasg (xv 3) (tgt [(tgn 4), (tgn 5), (tgn 6), (tgn 7)]))
  (xseq (xifs (xtor (xtest (xop opNe (xop opAddB (xop opAddB (xop opAddB (xv 4) (xv 5)) (xop opMul (xc (.int 2)) (xcb cbLen (xcons (xv 6) xnil)))) (xcb cbLen (xcons (xop opIx (xv 7) (xc (.int 0))) xnil))) (xop opAddB (xcb cbLen (xcons (xv 0) xnil)) (xc (.int 2))))) (xtnot (xtru (xcall r_is_good (xcons (xv 7) xnil))))) (xret (xc (.bl false))) xnext)
  (xseq (xifs (xtor (xtest (xop opLe (xcall r_value_at_polys (xcons (xop opIx (xv 7) (xc (.int 0))) (xcons (xv 1) xnil))) (xc (.int 0)))) (xtest (xop opLe (xcall r_value_at_polys (xcons (xop opIx (xv 7) (xc (.int 0))) (xcons (xv 2) xnil))) (xc (.int 0))))) (xret (xc (.bl false))) xnext)
  (xseq (xifs (xtest (xop opNe (xcall r_changes_at (xcons (xv 7) (xcons (xv 1) xnil))) (xcall r_changes_at (xcons (xv 7) (xcons (xv 2) xnil))))) (xret (xc (.bl false))) xnext)
  (xseq (xset 8 (xcall r_product (xcons (xcall r_power (xcons (xtup (xcons (xun unNeg (xop opIx (xv 1) (xc (.int 0)))) (xcons (xop opIx (xv 1) (xc (.int 1))) xnil))) (xcons (xv 4) xnil))) (xcons (xcall r_power (xcons (xtup (xcons (xop opIx (xv 2) (xc (.int 0))) (xcons (xun unNeg (xop opIx (xv 2) (xc (.int 1)))) xnil))) (xcons (xv 5) xnil))) xnil))))
  (xret (xcall r_are_like (xcons (xcall r_product (xcons (xv 8) (xcons (xcall r_product (xcons (xcall r_product (xcons (xv 6) (xcons (xv 6) xnil))) (xcons (xop opIx (xv 7) (xc (.int 0))) xnil))) xnil))) (xcons (xv 0) (xcons (xc (.int 1)) xnil))))))))))))
def r_entry_holds : List D → Option R := runF 4 9 b_entry_holds
def b_paper_holds : MS := (xseq (xifs (xtor (xtnot (xtru (xcall r_is_exact_enough (xcons (xv 0) (xcons (xv 1) xnil))))) (xtnot (xtru (xcb cbIsi (xcons (xv 2) (xcons (xc (.ty "tuple")) xnil)))))) (xret (xc (.bl false))) xnext)
  (xseq (xset 3 (xcall r_kernel (xcons (xv 0) (xcons (xv 1) xnil))))
  (xseq (xifs (xtest (xop opNe (xcb cbLen (xcons (xv 3) xnil)) (xcb cbLen (xcons (xv 2) xnil)))) (xret (xc (.bl false))) xnext)
  (xseq (xset 4 (xlc (xzipA (xcons (xv 3) (xcons (xv 2) xnil))) (tgt [(tgn 5), (tgn 6)]) xtyes (xcall r_entry_holds (xcons (xcall r_integers_of (xcons (xop opIx (xv 5) (xc (.int 2))) xnil)) (xcons (xop opIx (xv 5) (xc (.int 0))) (xcons (xop opIx (xv 5) (xc (.int 1))) (xcons (xv 6) xnil))))) [5, 6]))
  (xret (xcb cbAll (xcons (xv 4) xnil)))))))
def r_paper_holds : List D → Option R := runF 3 7 b_paper_holds
def b_law_1 : MS := (xifs (xtest (xop opNe (xcall r_paper_holds (xcons (xv 14) (xcons (xv 15) (xcons (xv 16) xnil)))) (xv 17))) (xret (xc (.bl false))) xnext)
def b_law_2 : MS := (xseq (xset 2 (xcall r_w_seed (xcons (xv 0) (xcons (xv 1) xnil))))
  (xseq (xset 3 (xop opAddB (xc (.int 1)) (xcallB r_w_choose 2 (xcons (xc (.int 60)) xnil))))
  (xseq (xset 4 (xmeth 0 r_Rule_scaled [] (xop (opOwn 0 r_Rule_sub opSub) (xcall r_area (xcons (xc (.int 0)) (xcons (xc (.int 1)) xnil))) (xmake 0 r_Rule_init ([.tup [], .tup []].drop 1) (xcons (xc (.int 0)) (xcons (xc (.int 1)) (xcons (xlst (xcons (xtup (xcons (xtup (xcons (xc (.int 1)) (xcons (xc (.int 2)) xnil))) (xcons (xc (.int 1)) xnil))) xnil)) xnil))))) (xcons (xv 3) xnil)))
  (xseq (xset 5 (xmeth 0 r_Rule_scaled [] (xop (opOwn 0 r_Rule_sub opSub) (xmake 0 r_Rule_init ([.tup [], .tup []].drop 1) (xcons (xc (.int 0)) (xcons (xc (.int 1)) (xcons (xlst (xcons (xtup (xcons (xc (.int 0)) (xcons (xtup (xcons (xc (.int 1)) (xcons (xc (.int 2)) xnil))) xnil))) (xcons (xtup (xcons (xc (.int 1)) (xcons (xtup (xcons (xc (.int 1)) (xcons (xc (.int 2)) xnil))) xnil))) xnil))) xnil)))) (xcall r_area (xcons (xc (.int 0)) (xcons (xc (.int 1)) xnil)))) (xcons (xtup (xcons (xc (.int 1)) (xcons (xv 3) xnil))) xnil)))
  (xseq (xasg (xtup (xcons (xtup (xcons (xc (.int 2)) (xcons (xc (.int 0)) (xcons (xtup (xcons (xc (.int 1)) xnil)) (xcons (xtup (xcons (xtup (xcons (xc (.int 1)) xnil)) xnil)) xnil))))) (xcons (xtup (xcons (xc (.int 0)) (xcons (xc (.int 2)) (xcons (xtup (xcons (xc (.int 1)) xnil)) (xcons (xtup (xcons (xtup (xcons (xc (.int 1)) xnil)) xnil)) xnil))))) xnil))) (tgt [(tgn 6), (tgn 7)]))
  (xseq (xset 8 (xlst (xcons (xtup (xcons (xv 4) (xcons (xc (.int 2)) (xcons (xtup (xcons (xv 6) (xcons (xv 7) xnil))) (xcons (xc (.bl true)) xnil))))) (xcons (xtup (xcons (xv 4) (xcons (xc (.int 2)) (xcons (xtup (xcons (xv 7) (xcons (xv 6) xnil))) (xcons (xc (.bl false)) xnil))))) (xcons (xtup (xcons (xv 4) (xcons (xc (.int 1)) (xcons (xtup (xcons (xv 6) (xcons (xv 7) xnil))) (xcons (xc (.bl false)) xnil))))) xnil)))))
  (xseq (xset 8 (xop opAddB (xv 8) (xlst (xcons (xtup (xcons (xv 4) (xcons (xc (.int 2)) (xcons (xtup (xcons (xtup (xcons (xc (.int 0)) (xcons (xc (.int 0)) (xcons (xtup (xcons (xc (.int 0)) (xcons (xc (.int 1)) xnil))) (xcons (xtup (xcons (xtup (xcons (xc (.int 1)) xnil)) xnil)) xnil))))) (xcons (xtup (xcons (xc (.int 0)) (xcons (xc (.int 0)) (xcons (xtup (xcons (xc (.int 1)) (xcons (xop opSub (xc (.int 0)) (xc (.int 1))) xnil))) (xcons (xtup (xcons (xtup (xcons (xv 3) xnil)) xnil)) xnil))))) xnil))) (xcons (xc (.bl true)) xnil))))) xnil))))
  (xseq (xset 8 (xop opAddB (xv 8) (xlst (xcons (xtup (xcons (xv 4) (xcons (xc (.int 2)) (xcons (xtup (xcons (xtup (xcons (xc (.int 0)) (xcons (xc (.int 0)) (xcons (xtup (xcons (xc (.int 0)) (xcons (xc (.int 1)) xnil))) (xcons (xtup (xcons (xtup (xcons (xc (.int 1)) xnil)) xnil)) xnil))))) (xcons (xtup (xcons (xc (.int 0)) (xcons (xc (.int 0)) (xcons (xtup (xcons (xop opSub (xc (.int 0)) (xc (.int 1))) (xcons (xc (.int 1)) xnil))) (xcons (xtup (xcons (xtup (xcons (xop opSub (xc (.int 0)) (xc (.int 1))) xnil)) xnil)) xnil))))) xnil))) (xcons (xc (.bl false)) xnil))))) xnil))))
  (xseq (xset 8 (xop opAddB (xv 8) (xlst (xcons (xtup (xcons (xv 5) (xcons (xc (.int 2)) (xcons (xtup (xcons (xtup (xcons (xc (.int 1)) (xcons (xc (.int 1)) (xcons (xtup (xcons (xc (.int 1)) xnil)) (xcons (xtup (xcons (xtup (xcons (xc (.int 1)) xnil)) xnil)) xnil))))) xnil)) (xcons (xc (.bl true)) xnil))))) (xcons (xtup (xcons (xv 5) (xcons (xc (.int 2)) (xcons (xtup (xcons (xtup (xcons (xc (.int 1)) (xcons (xc (.int 1)) (xcons (xtup (xcons (xv 3) xnil)) (xcons (xtup (xcons (xtup (xcons (xc (.int 2)) xnil)) xnil)) xnil))))) xnil)) (xcons (xc (.bl true)) xnil))))) xnil)))))
  (xseq (xset 8 (xop opAddB (xv 8) (xlst (xcons (xtup (xcons (xv 5) (xcons (xc (.int 2)) (xcons (xtup (xcons (xtup (xcons (xc (.int 0)) (xcons (xc (.int 0)) (xcons (xtup (xcons (xc (.int 1)) xnil)) (xcons (xtup (xcons (xtup (xcons (xc (.int 0)) (xcons (xc (.int 1)) (xcons (xop opSub (xc (.int 0)) (xc (.int 1))) xnil)))) (xcons (xtup (xcons (xc (.int 1)) (xcons (xop opSub (xc (.int 0)) (xc (.int 2))) xnil))) (xcons (xtup (xcons (xc (.int 1)) xnil)) xnil)))) xnil))))) xnil)) (xcons (xc (.bl false)) xnil))))) xnil))))
  (xseq (xset 8 (xop opAddB (xv 8) (xlst (xcons (xtup (xcons (xv 5) (xcons (xc (.int 2)) (xcons (xtup xnil) (xcons (xc (.bl false)) xnil))))) (xcons (xtup (xcons (xv 5) (xcons (xc (.int 2)) (xcons (xtup (xcons (xtup (xcons (xc (.int 1)) (xcons (xc (.int 0)) (xcons (xtup (xcons (xc (.int 1)) xnil)) (xcons (xtup (xcons (xtup (xcons (xc (.int 1)) (xcons (xop opSub (xc (.int 0)) (xc (.int 1))) xnil))) (xcons (xtup (xcons (xop opSub (xc (.int 0)) (xc (.int 1))) xnil)) xnil))) xnil))))) xnil)) (xcons (xc (.bl false)) xnil))))) xnil)))))
  (xseq (xapp 8 (xtup (xcons (xv 5) (xcons (xc (.int 2)) (xcons (xtup (xcons (xtup (xcons (xc (.int 1)) (xcons (xc (.int 1)) (xcons (xtup (xcons (xc (.int 1)) xnil)) (xcons (xtup (xcons (xtup (xcons (xop opSub (xc (.int 0)) (xc (.int 1))) xnil)) xnil)) xnil))))) xnil)) (xcons (xc (.bl false)) xnil))))))
  (xseq (xset 9 (xop (opOwn 0 r_Rule_sub opSub) (xcall r_area (xcons (xc (.int 0)) (xcons (xc (.int 1)) xnil))) (xmake 0 r_Rule_init ([.tup [], .tup []].drop 1) (xcons (xc (.int 0)) (xcons (xc (.int 1)) (xcons (xlst (xcons (xtup (xcons (xtup (xcons (xc (.int 1)) (xcons (xc (.int 4)) xnil))) (xcons (xtup (xcons (xc (.int 1)) (xcons (xc (.int 2)) xnil))) xnil))) (xcons (xtup (xcons (xtup (xcons (xc (.int 3)) (xcons (xc (.int 4)) xnil))) (xcons (xtup (xcons (xc (.int 1)) (xcons (xc (.int 2)) xnil))) xnil))) xnil))) xnil))))))
  (xseq (xapp 8 (xtup (xcons (xv 9) (xcons (xc (.int 2)) (xcons (xtup (xcons (xv 6) (xcons (xtup (xcons (xc (.int 0)) (xcons (xc (.int 0)) (xcons (xtup (xcons (xop opSub (xc (.int 0)) (xc (.int 1))) (xcons (xc (.int 2)) xnil))) (xcons (xtup (xcons (xtup (xcons (xc (.int 1)) xnil)) xnil)) xnil))))) (xcons (xv 7) xnil)))) (xcons (xc (.bl true)) xnil))))))
  (xseq (xapp 8 (xtup (xcons (xv 9) (xcons (xc (.int 2)) (xcons (xtup (xcons (xv 6) (xcons (xtup (xcons (xc (.int 0)) (xcons (xc (.int 0)) (xcons (xtup (xcons (xc (.int 1)) (xcons (xc (.int 2)) xnil))) (xcons (xtup (xcons (xtup (xcons (xc (.int 1)) xnil)) xnil)) xnil))))) (xcons (xv 7) xnil)))) (xcons (xc (.bl false)) xnil))))))
  (xseq (xapp 8 (xtup (xcons (xv 9) (xcons (xc (.int 2)) (xcons (xtup (xcons (xv 6) (xcons (xtup (xcons (xc (.int 0)) (xcons (xc (.int 0)) (xcons (xtup (xcons (xc (.int 1)) xnil)) (xcons (xtup (xcons (xtup (xcons (xc (.int 1)) (xcons (xop opSub (xc (.int 0)) (xc (.int 4))) (xcons (xc (.int 4)) xnil)))) (xcons (xtup (xcons (xop opSub (xc (.int 0)) (xc (.int 1))) (xcons (xc (.int 2)) xnil))) (xcons (xtup (xcons (xc (.int 1)) xnil)) xnil)))) xnil))))) (xcons (xv 7) xnil)))) (xcons (xc (.bl false)) xnil))))))
  (xseq (xset 10 (xmake 0 r_Rule_init ([.tup [], .tup []].drop 1) (xcons (xc (.int 0)) (xcons (xc (.int 1)) (xcons (xlst (xcons (xtup (xcons (xc (.int 1)) (xcons (xc (.int 1)) xnil))) (xcons (xtup (xcons (xc (.int 0)) (xcons (xop opSub (xc (.int 0)) (xc (.int 1))) xnil))) xnil))) xnil)))))
  (xseq (xset 8 (xop opAddB (xv 8) (xlst (xcons (xtup (xcons (xv 10) (xcons (xc (.int 1)) (xcons (xtup (xcons (xtup (xcons (xc (.int 0)) (xcons (xc (.int 0)) (xcons (xtup (xcons (xc (.int 1)) xnil)) (xcons (xtup (xcons (xtup (xcons (xc (.int 1)) xnil)) xnil)) xnil))))) xnil)) (xcons (xc (.bl true)) xnil))))) (xcons (xtup (xcons (xv 10) (xcons (xc (.int 1)) (xcons (xtup (xcons (xtup (xcons (xc (.int 0)) (xcons (xc (.int 0)) (xcons (xtup (xcons (xc (.int 3)) xnil)) (xcons (xtup (xcons (xtup (xcons (xv 3) xnil)) xnil)) xnil))))) xnil)) (xcons (xc (.bl true)) xnil))))) xnil)))))
  (xseq (xset 11 (xmake 0 r_Rule_init ([.tup [], .tup []].drop 1) (xcons (xc (.int 0)) (xcons (xc (.int 1)) (xcons (xlst (xcons (xtup (xcons (xc (.int 0)) (xcons (xop opSub (xc (.int 0)) (xv 3)) xnil))) (xcons (xtup (xcons (xc (.int 1)) (xcons (xv 3) xnil))) xnil))) xnil)))))
  (xseq (xset 8 (xop opAddB (xv 8) (xlst (xcons (xtup (xcons (xv 11) (xcons (xc (.int 1)) (xcons (xtup (xcons (xtup (xcons (xc (.int 0)) (xcons (xc (.int 0)) (xcons (xtup (xcons (xc (.int 1)) xnil)) (xcons (xtup (xcons (xtup (xcons (xc (.int 1)) xnil)) xnil)) xnil))))) xnil)) (xcons (xc (.bl true)) xnil))))) (xcons (xtup (xcons (xv 11) (xcons (xc (.int 1)) (xcons (xtup (xcons (xtup xnil) xnil)) (xcons (xc (.bl false)) xnil))))) (xcons (xtup (xcons (xop (opOwn 0 r_Rule_sub opSub) (xv 11) (xv 11)) (xcons (xc (.int 1)) (xcons (xtup (xcons (xtup xnil) xnil)) (xcons (xc (.bl true)) xnil))))) xnil))))))
  (xseq (xset 8 (xop opAddB (xv 8) (xlst (xcons (xtup (xcons (xop (opOwn 0 r_Rule_sub opSub) (xv 11) (xv 11)) (xcons (xc (.int 3)) (xcons (xtup (xcons (xtup xnil) xnil)) (xcons (xc (.bl true)) xnil))))) (xcons (xtup (xcons (xop (opOwn 0 r_Rule_sub opSub) (xv 11) (xv 11)) (xcons (xc (.int 3)) (xcons (xtup (xcons (xv 6) xnil)) (xcons (xc (.bl false)) xnil))))) xnil)))))
  (xseq (xset 12 (xop (opOwn 0 r_Rule_add opAddB) (xop (opOwn 0 r_Rule_sub opSub) (xcall r_area (xcons (xc (.int 0)) (xcons (xc (.int 2)) xnil))) (xmake 0 r_Rule_init ([.tup [], .tup []].drop 1) (xcons (xc (.int 0)) (xcons (xc (.int 2)) (xcons (xlst (xcons (xtup (xcons (xc (.int 2)) (xcons (xc (.int 2)) xnil))) xnil)) xnil))))) (xmake 0 r_Rule_init ([.tup [], .tup []].drop 1) (xcons (xc (.int 0)) (xcons (xc (.int 2)) (xcons (xlst (xcons (xtup (xcons (xc (.int 2)) (xcons (xc (.int 2)) xnil))) (xcons (xtup (xcons (xc (.int 0)) (xcons (xop opSub (xc (.int 0)) (xc (.int 2))) xnil))) xnil))) xnil))))))
  (xseq (xapp 8 (xtup (xcons (xv 12) (xcons (xc (.int 1)) (xcons (xtup (xcons (xtup (xcons (xc (.int 0)) (xcons (xc (.int 0)) (xcons (xtup (xcons (xc (.int 1)) xnil)) (xcons (xtup (xcons (xtup (xcons (xc (.int 2)) (xcons (xop opSub (xc (.int 0)) (xc (.int 1))) xnil))) (xcons (xtup (xcons (xop opSub (xc (.int 0)) (xc (.int 1))) xnil)) xnil))) xnil))))) xnil)) (xcons (xc (.bl false)) xnil))))))
  (xseq (xapp 8 (xtup (xcons (xv 12) (xcons (xc (.int 1)) (xcons (xtup (xcons (xtup (xcons (xc (.int 0)) (xcons (xc (.int 1)) (xcons (xtup (xcons (xc (.int 1)) xnil)) (xcons (xtup (xcons (xtup (xcons (xc (.int 1)) xnil)) xnil)) xnil))))) xnil)) (xcons (xc (.bl true)) xnil))))))
  (xseq (xset 13 (xop (opOwn 0 r_Rule_add opAddB) (xv 12) (xmake 0 r_Rule_init ([.tup [], .tup []].drop 1) (xcons (xc (.int 0)) (xcons (xc (.int 2)) (xcons (xlst (xcons (xtup (xcons (xc (.int 2)) (xcons (xc (.int 1)) xnil))) (xcons (xtup (xcons (xc (.int 0)) (xcons (xop opSub (xc (.int 0)) (xc (.int 1))) xnil))) xnil))) xnil))))))
  (xseq (xapp 8 (xtup (xcons (xv 13) (xcons (xc (.int 1)) (xcons (xtup (xcons (xtup (xcons (xc (.int 0)) (xcons (xc (.int 0)) (xcons (xtup (xcons (xc (.int 1)) xnil)) (xcons (xtup (xcons (xtup (xcons (xc (.int 3)) (xcons (xop opSub (xc (.int 0)) (xc (.int 1))) xnil))) (xcons (xtup (xcons (xop opSub (xc (.int 0)) (xc (.int 1))) xnil)) xnil))) xnil))))) xnil)) (xcons (xc (.bl true)) xnil))))))
  (xseq (xapp 8 (xtup (xcons (xv 13) (xcons (xc (.int 1)) (xcons (xtup (xcons (xtup (xcons (xc (.int 0)) (xcons (xc (.int 0)) (xcons (xtup (xcons (xc (.int 1)) xnil)) (xcons (xtup (xcons (xtup (xcons (xc (.int 3)) (xcons (xop opSub (xc (.int 0)) (xc (.int 1))) xnil))) xnil)) xnil))))) xnil)) (xcons (xc (.bl false)) xnil))))))
  (xseq (xfor (xseqI (xv 8)) (tgt [(tgn 14), (tgn 15), (tgn 16), (tgn 17)]) b_law_1)
  (xifs (xtor (xtest (xop opIsNot (xcall r_paper (xcons (xv 4) (xcons (xc (.int 1)) xnil))) (xc .non))) (xtor (xtest (xop opIsNot (xcall r_paper (xcons (xv 5) (xcons (xc (.int 3)) xnil))) (xc .non))) (xtest (xop opIsNot (xcall r_paper (xcons (xv 10) (xcons (xc (.int 2)) xnil))) (xc .non))))) (xret (xc (.bl false))) xnext)))))))))))))))))))))))))))))
def b_law : MS := (xseq (xfor (xrange1 (xcons (xcb cbMax2 (xcons (xc (.int 1)) (xcons (xcb cbMin2 (xcons (xc (.int 4)) (xcons (xcb cbLen (xcons (xv 0) xnil)) xnil))) xnil))) xnil)) (tgn 1) b_law_2)
  (xret (xc (.bl true))))
def r_law : List D → Option R := runF 1 18 b_law
end Bk
namespace Bk
open PySem L2
-- w_choose
theorem v_w_choose {bs : Mob} {m : Int} (hb : Bx bs) (hm : 0 < m) (hm9 : m < 1000000) : ∃ d bs', r_w_choose bs [.int m] = some (.im (.int d), bs') ∧ 0 ≤ d ∧ d < m ∧ Bx bs' := by
  obtain ⟨g, r, rfl, hr, hr9⟩ := hb
  have om : okDiv m = true := Sm.okDiv (k := 20) (by unfold Sm; omega) (by omega) (by decide)
  have nm : decide (m ≠ 0) = true := decide_eq_true (by omega)
  by_cases hg : 0 < g
  · refine ⟨g.fmod m, .l [.int (g.fdiv m), .int r], ?_, (fmod_lt g hm).1, (fmod_lt g hm).2, ⟨_, _, rfl, hr, hr9⟩⟩
    have e1 : xtest (xop opGt (xby 0 (xixv 0 (xc (.int 0))) (xop opIx (xv 0) (xc (.int 0)))) (xc (.int 0))) [.bl [.int g, .int r], .im (.int m), .un, .un] = some (true, [.bl [.int g, .int r], .im (.int m), .un, .un]) := by
      rw [← decide_eq_true hg]
      rfl
    have e2 : xput 0 (xop opFdiv (xby 0 (xixv 0 (xc (.int 0))) (xop opIx (xv 0) (xc (.int 0)))) (xv 1)) (xc (.int 0)) [.bl [.int g, .int r], .im (.int m), .im (.int (g.fmod m)), .un] = some (.nx, [.bl [.int (g.fdiv m), .int r], .im (.int m), .im (.int (g.fmod m)), .un]) := by
      unfold xput
      rw [xo2 rfl rfl (if_pos om)]
      rfl
    refine runB_st rfl ?_
    refine sb_rt (by exact (xifs_ok e1).trans (by exact (xseq_nx (xset_e (xo2 rfl rfl (if_pos nm)) rfl)).trans ((xseq_nx e2).trans rfl))) rfl
  · have e1 : xtest (xop opGt (xby 0 (xixv 0 (xc (.int 0))) (xop opIx (xv 0) (xc (.int 0)))) (xc (.int 0))) [.bl [.int g, .int r], .im (.int m), .un, .un] = some (false, [.bl [.int g, .int r], .im (.int m), .un, .un]) := by
      rw [← decide_eq_false hg]
      rfl
    have o1 : okMul r 40014 = true := Sm.okMul (k := 33) (l := 17) (by unfold Sm; omega) (by unfold Sm; decide) (by decide)
    have b1 := fmod_lt (r * 40014 + 67) (b := 2147483563) (by decide)
    generalize h1 : (r * 40014 + 67).fmod 2147483563 = w at b1
    have o2 : okMul w 40692 = true := Sm.okMul (k := 33) (l := 17) (by unfold Sm; omega) (by unfold Sm; decide) (by decide)
    have b2 := fmod_lt (w * 40692 + 5099) (b := 2147483629) (by decide)
    generalize h2 : (w * 40692 + 5099).fmod 2147483629 = u at b2
    have o3 : okMul w 2147483647 = true := Sm.okMul (k := 33) (l := 33) (by unfold Sm; omega) (by unfold Sm; decide) (by decide)
    have o4 : okDiv 8191 = true := Sm.okDiv (k := 20) (by unfold Sm; decide) (by decide) (by decide)
    refine ⟨((w * 2147483647 + (u + 1)).fdiv 8191).fmod m, .l [.int g, .int (u + 1)], ?_, (fmod_lt _ hm).1, (fmod_lt _ hm).2, ⟨_, _, rfl, by omega, by omega⟩⟩
    refine runB_st rfl ?_
    refine sb_nx (by exact (xifs_ok e1).trans rfl) ?_
    refine sb_nx (G1 := [.bl [.int g, .int r], .im (.int m), .un, .im (.int w)]) (by
      rw [← h1]
      exact xset_e (xo2 (xcb_ok (xc1 (xo2 (xo2 rfl rfl (if_pos o1)) rfl rfl) xnil_ok) rfl) rfl rfl) rfl) ?_
    refine sb_nx (G1 := [.bl [.int g, .int (u + 1)], .im (.int m), .un, .im (.int w)]) ?_ ?_
    · unfold xput
      have e4 : xop opAddB (xop opMod (xcb cbInt (xcons (xop opAddB (xop opMul (xv 3) (xc (.int 40692))) (xc (.int 5099))) xnil)) (xc (.int 2147483629))) (xc (.int 1)) [.bl [.int g, .int r], .im (.int m), .un, .im (.int w)] = some (.im (.int (u + 1)), [.bl [.int g, .int r], .im (.int m), .un, .im (.int w)]) := by
        rw [← h2]
        exact xo2 (xo2 (xcb_ok (xc1 (xo2 (xo2 rfl rfl (if_pos o2)) rfl rfl) xnil_ok) rfl) rfl rfl) rfl rfl
      rw [e4]
      rfl
    · exact sb_ret (G1 := [.im (.int m), .un, .im (.int w)]) (by exact xo2 (xcb_ok (xc1 (xo2 (xo2 (xo2 rfl rfl (if_pos o3)) rfl rfl) rfl (o_div o4)) xnil_ok) rfl) rfl (if_pos nm))
-- w_seed
theorem v_w_seed {ns : List Int} {k : Int} (hk : 0 ≤ k) (h9 : k < 64) : ∃ bs, r_w_seed [.frz (ns.map .int), .int k] = some (.ow bs) ∧ Bx bs := by
  have tail : ∀ c : Int, ∃ bs : Mob, Bx bs ∧ outF ((xseq (xset 3 (xif (xtest (xop opGe (xv 2) (xop opPow (xc (.int 10)) (xc (.int 18))))) (xv 2) (xc (.int 0))))
  (xret (xlst (xcons (xv 3) (xcons (xop opAddB (xop opMod (xcb cbInt (xcons (xop opAddB (xop opMul (xop opMod (xcb cbInt (xcons (xv 2) xnil)) (xc (.int 2147483629))) (xc (.int 48271))) (xop opMul (xc (.int 44017)) (xv 1))) xnil)) (xc (.int 2147483629))) (xc (.int 1))) xnil))))) [.im (.frz (ns.map .int)), .im (.int k), .im (.int c), .un]) = some (.ow bs) := fun c => by
    have b1 := fmod_lt c (b := 2147483629) (by decide)
    generalize h1 : c.fmod 2147483629 = w at b1
    have o1 : okMul w 48271 = true := Sm.okMul (k := 33) (l := 17) (by unfold Sm; omega) (by unfold Sm; decide) (by decide)
    have o2 : okMul 44017 k = true := Sm.okMul (k := 17) (l := 7) (by unfold Sm; decide) (by unfold Sm; omega) (by decide)
    have b2 := fmod_lt (w * 48271 + 44017 * k) (b := 2147483629) (by decide)
    generalize h2 : (w * 48271 + 44017 * k).fmod 2147483629 = u at b2
    have e3 : xset 3 (xif (xtest (xop opGe (xv 2) (xop opPow (xc (.int 10)) (xc (.int 18))))) (xv 2) (xc (.int 0))) [.im (.frz (ns.map .int)), .im (.int k), .im (.int c), .un] = some (.nx, [.im (.frz (ns.map .int)), .im (.int k), .im (.int c), .im (.int (if 10 ^ 18 ≤ c then c else 0))]) := by
      have t : xtest (xop opGe (xv 2) (xop opPow (xc (.int 10)) (xc (.int 18)))) [.im (.frz (ns.map .int)), .im (.int k), .im (.int c), .un] = some (decide ((10 : Int) ^ 18 ≤ c), [.im (.frz (ns.map .int)), .im (.int k), .im (.int c), .un]) := xtest_ok (xo2 rfl (xo2 rfl rfl (o_pow (by decide))) rfl)
      by_cases h : (10 : Int) ^ 18 ≤ c
      · rw [decide_eq_true h] at t
        rw [if_pos h]
        exact xset_e ((xif_ok t).trans rfl) rfl
      · rw [decide_eq_false h] at t
        rw [if_neg h]
        exact xset_e ((xif_ok t).trans rfl) rfl
    refine ⟨.l [.int (if 10 ^ 18 ≤ c then c else 0), .int (u + 1)], ⟨_, _, rfl, by omega, by omega⟩, ?_⟩
    refine st_nx e3 ?_
    have e4 : xop opAddB (xop opMod (xcb cbInt (xcons (xop opAddB (xop opMul (xop opMod (xcb cbInt (xcons (xv 2) xnil)) (xc (.int 2147483629))) (xc (.int 48271))) (xop opMul (xc (.int 44017)) (xv 1))) xnil)) (xc (.int 2147483629))) (xc (.int 1)) [.im (.frz (ns.map .int)), .im (.int k), .im (.int c), .im (.int (if 10 ^ 18 ≤ c then c else 0))] = some (.im (.int (u + 1)), [.im (.frz (ns.map .int)), .im (.int k), .im (.int c), .im (.int (if 10 ^ 18 ≤ c then c else 0))]) := by
      rw [← h2]
      have e5 : xop opMod (xcb cbInt (xcons (xv 2) xnil)) (xc (.int 2147483629)) [.im (.frz (ns.map .int)), .im (.int k), .im (.int c), .im (.int (if 10 ^ 18 ≤ c then c else 0))] = some (.im (.int w), [.im (.frz (ns.map .int)), .im (.int k), .im (.int c), .im (.int (if 10 ^ 18 ≤ c then c else 0))]) := by
        rw [← h1]
        exact xo2 (xcb_ok (xc1 rfl xnil_ok) rfl) rfl (o_mod (by decide))
      exact xo2 (xo2 (xcb_ok (xc1 (xo2 (xo2 e5 rfl (o_mul o1)) (xo2 rfl rfl (o_mul o2)) rfl) xnil_ok) rfl) rfl (o_mod (by decide))) rfl rfl
    exact st_ret (xlst_ok (xc1 rfl (xc1 e4 xnil_ok)) rfl)
  have cell : ∀ i : Int, 0 ≤ i → i < (ns.length : Int) → ∃ c : Int, opIx (.frz (ns.map .int)) (.int i) = some (.im (.int c)) := fun i h0 h1 => by
    obtain ⟨x, hx, hm⟩ := atI_ok (xs := ns.map D.int) (i := i) h0 (by rw [List.length_map]; exact h1)
    obtain ⟨c, _, rfl⟩ := List.mem_map.mp hm
    refine ⟨c, ?_⟩
    show (atI (ns.map D.int) i).map R.im = _
    rw [hx]
    rfl
  have hlen : cbLen [.frz (ns.map .int)] = some (.im (.int ns.length)) := by
    show some (R.im (.int (((ns.map D.int).length : Nat) : Int))) = _
    rw [List.length_map]
  have om : okMul 8837 k = true := Sm.okMul (k := 15) (l := 7) (by unfold Sm; decide) (by unfold Sm; omega) (by decide)
  have e1 : xset 2 (xop opAddB (xop opMul (xc (.int 8837)) (xv 1)) (xc (.int 71))) [.im (.frz (ns.map .int)), .im (.int k), .un, .un] = some (.nx, [.im (.frz (ns.map .int)), .im (.int k), .im (.int (8837 * k + 71)), .un]) := xset_e (xo2 (xo2 rfl rfl (o_mul om)) rfl rfl) rfl
  have t1 : xtest (xop opLt (xv 1) (xcb cbLen (xcons (xv 0) xnil))) [.im (.frz (ns.map .int)), .im (.int k), .im (.int (8837 * k + 71)), .un] = some (decide (k < (ns.length : Int)), [.im (.frz (ns.map .int)), .im (.int k), .im (.int (8837 * k + 71)), .un]) := xtest_ok (xo2 rfl (xcb_ok (xc1 rfl xnil_ok) hlen) rfl)
  have t2 : xtest (xop opGt (xcb cbLen (xcons (xv 0) xnil)) (xc (.int 0))) [.im (.frz (ns.map .int)), .im (.int k), .im (.int (8837 * k + 71)), .un] = some (decide (0 < (ns.length : Int)), [.im (.frz (ns.map .int)), .im (.int k), .im (.int (8837 * k + 71)), .un]) := xtest_ok (xo2 (xcb_ok (xc1 rfl xnil_ok) hlen) rfl rfl)
  by_cases h : k < (ns.length : Int)
  · rw [decide_eq_true h] at t1
    obtain ⟨c, hc⟩ := cell k hk h
    obtain ⟨bs, hb, ht⟩ := tail (if c < 0 then -c else c)
    exact ⟨bs, runF_st rfl (st_nx (by exact e1) (st_nx (by exact (xifs_ok t1).trans (xset_e (xcb_ok (xc1 (xo2 rfl rfl hc) xnil_ok) rfl) rfl)) ht)), hb⟩
  · rw [decide_eq_false h] at t1
    by_cases h2 : 0 < (ns.length : Int)
    · rw [decide_eq_true h2] at t2
      obtain ⟨f1, f2⟩ := fmod_lt k h2
      obtain ⟨c, hc⟩ := cell (k.fmod ns.length) f1 f2
      have b1 := fmod_lt (if c < 0 then -c else c) (b := 2147483629) (by decide)
      have o1 : okMul ((if c < 0 then -c else c).fmod 2147483629) 46021 = true := Sm.okMul (k := 33) (l := 17) (by unfold Sm; omega) (by unfold Sm; decide) (by decide)
      obtain ⟨bs, hb, ht⟩ := tail (8837 * k + 71 + (if c < 0 then -c else c).fmod 2147483629 * 46021)
      refine ⟨bs, runF_st rfl (st_nx (by exact e1) (st_nx (by exact (xifs_ok t1).trans ((xifs_ok t2).trans (xset_e (xo2 rfl (xo2 (xo2 (xcb_ok (xc1 (xcb_ok (xc1 (xo2 rfl (xo2 (xcb_ok (xc1 rfl xnil_ok) rfl) (xcb_ok (xc1 rfl xnil_ok) hlen) (o_mod (by omega))) hc) xnil_ok) rfl) xnil_ok) rfl) rfl (o_mod (by decide))) rfl (o_mul o1)) rfl) rfl))) ht)), hb⟩
    · rw [decide_eq_false h2] at t2
      obtain ⟨bs, hb, ht⟩ := tail (8837 * k + 71)
      exact ⟨bs, runF_st rfl (st_nx (by exact e1) (st_nx (by exact (xifs_ok t1).trans ((xifs_ok t2).trans rfl)) ht)), hb⟩
end Bk
namespace Bk
open PySem L2 PyProof.Rows
def top (i : Nat) : Stmt := PySem.Challenge.pw_bendkinds_k36_papers_known_by_hand.main.body.getD i (.Pass ⟨0, 0, 0, 0⟩)
abbrev s_is_sequence : Stmt := top 7
abbrev s_is_less : Stmt := top 17
abbrev s_is_integer : Stmt := top 6
abbrev s_divisor : Stmt := top 8
abbrev s_is_pair : Stmt := top 10
abbrev s_is_value : Stmt := top 11
abbrev s_value_of : Stmt := top 12
abbrev s_is_between : Stmt := top 63
abbrev s_is_share : Stmt := top 65
abbrev s_is_weight : Stmt := top 64
abbrev s_ascending : Stmt := top 20
abbrev s_lowest : Stmt := top 9
abbrev s_added : Stmt := top 13
abbrev s_summed : Stmt := top 18
abbrev s_least_shares : Stmt := top 67
abbrev s_least_weights : Stmt := top 66
abbrev s_need_stretch : Stmt := top 62
abbrev s_Rule_init : Stmt := inClass (top 68) 0
abbrev s_Rule_add : Stmt := inClass (top 68) 5
abbrev s_Rule_neg : Stmt := inClass (top 68) 6
abbrev s_Rule_sub : Stmt := inClass (top 68) 7
abbrev s_multiplied : Stmt := top 15
abbrev s_Rule_scaled : Stmt := inClass (top 68) 2
abbrev s_w_choose : Stmt := top 91
abbrev s_w_seed : Stmt := top 90
abbrev s_area : Stmt := top 70
abbrev s_trimmed : Stmt := top 25
abbrev s_derived : Stmt := top 29
abbrev s_primitive : Stmt := top 33
abbrev s_plus : Stmt := top 26
abbrev s_product : Stmt := top 27
abbrev s_sign_of : Stmt := top 32
abbrev s_parted : Stmt := top 35
abbrev s_rest : Stmt := top 36
abbrev s_chain_of : Stmt := top 41
abbrev s_upright : Stmt := top 34
abbrev s_common : Stmt := top 38
abbrev s_divided : Stmt := top 37
abbrev s_parts_of : Stmt := top 40
abbrev s_power : Stmt := top 28
abbrev s_value_at_polys : Stmt := top 30
abbrev s_without_ends : Stmt := top 39
abbrev s_entry : Stmt := top 81
abbrev s_integers_of : Stmt := top 55
abbrev s_knots_of : Stmt := top 49
abbrev s_powered : Stmt := top 19
abbrev s_ways : Stmt := top 50
abbrev s_distance_power : Stmt := top 51
abbrev s_less_by : Stmt := top 14
abbrev s_sum_of : Stmt := top 52
abbrev s_piece : Stmt := top 53
abbrev s_kernel : Stmt := top 54
abbrev s_quotient : Stmt := top 16
abbrev s_area_powers : Stmt := top 73
abbrev s_value_at_rules : Stmt := top 71
abbrev s_told : Stmt := top 74
abbrev s_degree : Stmt := top 76
abbrev s_is_exact_enough : Stmt := top 78
abbrev s_sign_changes : Stmt := top 42
abbrev s_changes_at : Stmt := top 43
abbrev s_once_each : Stmt := top 44
abbrev s_roots_between : Stmt := top 45
abbrev s_is_nowhere_below : Stmt := top 46
abbrev s_never_below : Stmt := top 79
abbrev s_paper : Stmt := top 82
abbrev s_are_like : Stmt := top 47
abbrev s_is_number : Stmt := top 83
abbrev s_is_poly : Stmt := top 84
abbrev s_is_formed : Stmt := top 86
abbrev s_is_good : Stmt := top 85
abbrev s_entry_holds : Stmt := top 87
abbrev s_paper_holds : Stmt := top 88
abbrev s_law : Stmt := top 92
abbrev nm_is_sequence : List PySem.Str := ["value"]
abbrev nm_is_less : List PySem.Str := ["one", "other"]
abbrev nm_is_integer : List PySem.Str := ["value"]
abbrev nm_divisor : List PySem.Str := ["one", "other"]
abbrev nm_is_pair : List PySem.Str := ["value", "one"]
abbrev nm_is_value : List PySem.Str := ["value"]
abbrev nm_value_of : List PySem.Str := ["value"]
abbrev nm_is_between : List PySem.Str := ["value", "low", "high"]
abbrev nm_is_share : List PySem.Str := ["value", "low", "high"]
abbrev nm_is_weight : List PySem.Str := ["value", "low", "high"]
abbrev nm_ascending : List PySem.Str := ["values", "common_here", "top", "low", "scaled_ones", "one", "at", "place"]
abbrev nm_lowest : List PySem.Str := ["top", "low", "common"]
abbrev nm_added : List PySem.Str := ["one", "other"]
abbrev nm_summed : List PySem.Str := ["values", "found", "one"]
abbrev nm_least_shares : List PySem.Str := ["shares", "parts", "cuts", "found", "start", "end", "some", "here", "share", "one", "first", "last", "part"]
abbrev nm_least_weights : List PySem.Str := ["weights", "pairs", "found", "point", "weight", "place", "pair"]
abbrev nm_need_stretch : List PySem.Str := ["low", "high"]
abbrev nm_Rule_init : List PySem.Str := ["self", "low", "high", "weights", "shares", "one"]
abbrev nm_Rule_add : List PySem.Str := ["self", "other"]
abbrev nm_Rule_neg : List PySem.Str := ["self", "weights", "point", "top", "low", "start", "end"]
abbrev nm_Rule_sub : List PySem.Str := ["self", "other"]
abbrev nm_multiplied : List PySem.Str := ["one", "other"]
abbrev nm_Rule_scaled : List PySem.Str := ["self", "factor", "by", "weights", "point", "weight", "part"]
abbrev nm_w_choose : List PySem.Str := ["_law_box", "_law_many", "_law_digit", "_law_raw"]
abbrev nm_w_seed : List PySem.Str := ["_law_script", "_law_k", "_law_cell", "_law_great"]
abbrev nm_area : List PySem.Str := ["low", "high", "first", "last"]
abbrev nm_trimmed : List PySem.Str := ["counts", "many"]
abbrev nm_derived : List PySem.Str := ["poly", "at", "count"]
abbrev nm_primitive : List PySem.Str := ["poly", "common_one", "count"]
abbrev nm_plus : List PySem.Str := ["one", "other", "by", "wide", "found", "at", "here"]
abbrev nm_product : List PySem.Str := ["one", "other", "found", "at", "here", "spot", "there", "place"]
abbrev nm_sign_of : List PySem.Str := ["number"]
abbrev nm_parted : List PySem.Str := ["one", "other", "lead", "left", "found", "by", "shifted", "common_one", "count"]
abbrev nm_rest : List PySem.Str := ["one", "other"]
abbrev nm_chain_of : List PySem.Str := ["poly", "found", "count"]
abbrev nm_upright : List PySem.Str := ["poly", "found", "count"]
abbrev nm_common : List PySem.Str := ["one", "other"]
abbrev nm_divided : List PySem.Str := ["one", "other"]
abbrev nm_parts_of : List PySem.Str := ["poly", "again", "once", "found", "often", "later", "here"]
abbrev nm_power : List PySem.Str := ["poly", "many", "found", "turn"]
abbrev nm_value_at_polys : List PySem.Str := ["poly", "spot", "found", "below", "count"]
abbrev nm_without_ends : List PySem.Str := ["poly", "start", "end", "found", "zero", "factor", "often"]
abbrev nm_entry : List PySem.Str := ["poly", "start", "end", "first", "last", "inner", "twice", "odd", "often", "one", "count"]
abbrev nm_integers_of : List PySem.Str := ["powers", "below", "one", "top", "low"]
abbrev nm_knots_of : List PySem.Str := ["rule", "some", "start", "end", "share", "below", "one", "point", "weight", "top", "low", "count"]
abbrev nm_powered : List PySem.Str := ["value", "many", "found", "turn"]
abbrev nm_ways : List PySem.Str := ["many", "chosen", "found", "at"]
abbrev nm_distance_power : List PySem.Str := ["place", "many", "factor", "found", "at", "sign"]
abbrev nm_less_by : List PySem.Str := ["one", "other"]
abbrev nm_sum_of : List PySem.Str := ["one", "other", "wide", "spot", "here", "there"]
abbrev nm_piece : List PySem.Str := ["rule", "n", "start", "end", "found", "point", "weight", "first", "last", "share", "part", "spot"]
abbrev nm_kernel : List PySem.Str := ["rule", "n", "knots", "start", "end"]
abbrev nm_quotient : List PySem.Str := ["one", "other"]
abbrev nm_area_powers : List PySem.Str := ["powers", "at", "one"]
abbrev nm_value_at_rules : List PySem.Str := ["powers", "place", "found", "one"]
abbrev nm_told : List PySem.Str := ["rule", "powers", "some", "whole", "parts", "start", "end", "share", "one", "point", "weight"]
abbrev nm_degree : List PySem.Str := ["rule", "powers"]
abbrev nm_is_exact_enough : List PySem.Str := ["rule", "n", "found"]
abbrev nm_sign_changes : List PySem.Str := ["told", "some", "sign", "one", "other"]
abbrev nm_changes_at : List PySem.Str := ["chain", "at", "poly"]
abbrev nm_once_each : List PySem.Str := ["poly"]
abbrev nm_roots_between : List PySem.Str := ["poly", "start", "end", "chain"]
abbrev nm_is_nowhere_below : List PySem.Str := ["poly", "start", "end", "inner", "often", "one"]
abbrev nm_never_below : List PySem.Str := ["rule", "n", "some", "point", "weight", "start", "end", "share", "one", "powers"]
abbrev nm_paper : List PySem.Str := ["rule", "n", "start", "end", "powers"]
abbrev nm_are_like : List PySem.Str := ["one", "other", "sign", "count"]
abbrev nm_is_number : List PySem.Str := ["value"]
abbrev nm_is_poly : List PySem.Str := ["value", "count"]
abbrev nm_is_formed : List PySem.Str := ["value", "one"]
abbrev nm_is_good : List PySem.Str := ["chain", "one", "other", "last"]
abbrev nm_entry_holds : List PySem.Str := ["poly", "start", "end", "value", "first", "last", "twice", "chain", "ends"]
abbrev nm_paper_holds : List PySem.Str := ["rule", "n", "value", "pieces", "found", "row", "one"]
abbrev nm_law : List PySem.Str := ["_law_script", "_law_k", "_law_box", "_law_by", "_law_left", "_law_both", "_law_one", "_law_other", "_law_some", "_law_near", "_law_step", "_law_far", "_law_slow", "_law_wide", "_law_made", "_law_n", "_law_value", "_law_due"]
abbrev pm_is_sequence : List PySem.Str := ["value"]
abbrev pm_is_less : List PySem.Str := ["one", "other"]
abbrev pm_is_integer : List PySem.Str := ["value"]
abbrev pm_divisor : List PySem.Str := ["one", "other"]
abbrev pm_is_pair : List PySem.Str := ["value"]
abbrev pm_is_value : List PySem.Str := ["value"]
abbrev pm_value_of : List PySem.Str := ["value"]
abbrev pm_is_between : List PySem.Str := ["value", "low", "high"]
abbrev pm_is_share : List PySem.Str := ["value", "low", "high"]
abbrev pm_is_weight : List PySem.Str := ["value", "low", "high"]
abbrev pm_ascending : List PySem.Str := ["values"]
abbrev pm_lowest : List PySem.Str := ["top", "low"]
abbrev pm_added : List PySem.Str := ["one", "other"]
abbrev pm_summed : List PySem.Str := ["values"]
abbrev pm_least_shares : List PySem.Str := ["shares"]
abbrev pm_least_weights : List PySem.Str := ["weights"]
abbrev pm_need_stretch : List PySem.Str := ["low", "high"]
abbrev pm_Rule_init : List PySem.Str := ["self", "low", "high", "weights", "shares"]
abbrev pm_Rule_add : List PySem.Str := ["self", "other"]
abbrev pm_Rule_neg : List PySem.Str := ["self"]
abbrev pm_Rule_sub : List PySem.Str := ["self", "other"]
abbrev pm_multiplied : List PySem.Str := ["one", "other"]
abbrev pm_Rule_scaled : List PySem.Str := ["self", "factor"]
abbrev pm_w_choose : List PySem.Str := ["_law_box", "_law_many"]
abbrev pm_w_seed : List PySem.Str := ["_law_script", "_law_k"]
abbrev pm_area : List PySem.Str := ["low", "high"]
abbrev pm_trimmed : List PySem.Str := ["counts"]
abbrev pm_derived : List PySem.Str := ["poly"]
abbrev pm_primitive : List PySem.Str := ["poly"]
abbrev pm_plus : List PySem.Str := ["one", "other", "by"]
abbrev pm_product : List PySem.Str := ["one", "other"]
abbrev pm_sign_of : List PySem.Str := ["number"]
abbrev pm_parted : List PySem.Str := ["one", "other"]
abbrev pm_rest : List PySem.Str := ["one", "other"]
abbrev pm_chain_of : List PySem.Str := ["poly"]
abbrev pm_upright : List PySem.Str := ["poly"]
abbrev pm_common : List PySem.Str := ["one", "other"]
abbrev pm_divided : List PySem.Str := ["one", "other"]
abbrev pm_parts_of : List PySem.Str := ["poly"]
abbrev pm_power : List PySem.Str := ["poly", "many"]
abbrev pm_value_at_polys : List PySem.Str := ["poly", "spot"]
abbrev pm_without_ends : List PySem.Str := ["poly", "start", "end"]
abbrev pm_entry : List PySem.Str := ["poly", "start", "end"]
abbrev pm_integers_of : List PySem.Str := ["powers"]
abbrev pm_knots_of : List PySem.Str := ["rule"]
abbrev pm_powered : List PySem.Str := ["value", "many"]
abbrev pm_ways : List PySem.Str := ["many", "chosen"]
abbrev pm_distance_power : List PySem.Str := ["place", "many", "factor"]
abbrev pm_less_by : List PySem.Str := ["one", "other"]
abbrev pm_sum_of : List PySem.Str := ["one", "other"]
abbrev pm_piece : List PySem.Str := ["rule", "n", "start", "end"]
abbrev pm_kernel : List PySem.Str := ["rule", "n"]
abbrev pm_quotient : List PySem.Str := ["one", "other"]
abbrev pm_area_powers : List PySem.Str := ["powers"]
abbrev pm_value_at_rules : List PySem.Str := ["powers", "place"]
abbrev pm_told : List PySem.Str := ["rule", "powers"]
abbrev pm_degree : List PySem.Str := ["rule"]
abbrev pm_is_exact_enough : List PySem.Str := ["rule", "n"]
abbrev pm_sign_changes : List PySem.Str := ["told"]
abbrev pm_changes_at : List PySem.Str := ["chain", "at"]
abbrev pm_once_each : List PySem.Str := ["poly"]
abbrev pm_roots_between : List PySem.Str := ["poly", "start", "end"]
abbrev pm_is_nowhere_below : List PySem.Str := ["poly", "start", "end"]
abbrev pm_never_below : List PySem.Str := ["rule", "n"]
abbrev pm_paper : List PySem.Str := ["rule", "n"]
abbrev pm_are_like : List PySem.Str := ["one", "other", "sign"]
abbrev pm_is_number : List PySem.Str := ["value"]
abbrev pm_is_poly : List PySem.Str := ["value"]
abbrev pm_is_formed : List PySem.Str := ["value"]
abbrev pm_is_good : List PySem.Str := ["chain"]
abbrev pm_entry_holds : List PySem.Str := ["poly", "start", "end", "value"]
abbrev pm_paper_holds : List PySem.Str := ["rule", "n", "value"]
abbrev pm_law : List PySem.Str := ["_law_script"]
structure Txt (K : PySem.W.Frag) (mg : PySem.Str → Option Value) where
  Rule : ClT K mg 0
  is_sequence : FnT K mg "is_sequence" s_is_sequence
  is_less : FnT K mg "is_less" s_is_less
  is_integer : FnT K mg "is_integer" s_is_integer
  divisor : FnT K mg "divisor" s_divisor
  is_pair : FnT K mg "is_pair" s_is_pair
  is_value : FnT K mg "is_value" s_is_value
  value_of : FnT K mg "value_of" s_value_of
  is_between : FnT K mg "is_between" s_is_between
  is_share : FnT K mg "is_share" s_is_share
  is_weight : FnT K mg "is_weight" s_is_weight
  ascending : FnT K mg "ascending" s_ascending
  lowest : FnT K mg "lowest" s_lowest
  added : FnT K mg "added" s_added
  summed : FnT K mg "summed" s_summed
  least_shares : FnT K mg "least_shares" s_least_shares
  least_weights : FnT K mg "least_weights" s_least_weights
  need_stretch : FnT K mg "need_stretch" s_need_stretch
  Rule_init : FnMD K Rule.C "__init__" "Rule.__init__" s_Rule_init [.tup [], .tup []]
  mk_Rule : Mk K Rule.C Rule_init.f
  Rule_add : FnM K Rule.C "__add__" "Rule.__add__" s_Rule_add
  Rule_neg : FnM K Rule.C "__neg__" "Rule.__neg__" s_Rule_neg
  Rule_sub : FnM K Rule.C "__sub__" "Rule.__sub__" s_Rule_sub
  multiplied : FnT K mg "multiplied" s_multiplied
  Rule_scaled : FnM K Rule.C "scaled" "Rule.scaled" s_Rule_scaled
  w_choose : FnT K mg "_law_choose" s_w_choose
  w_seed : FnT K mg "_law_seed" s_w_seed
  area : FnT K mg "area" s_area
  trimmed : FnT K mg "trimmed" s_trimmed
  derived : FnT K mg "derived" s_derived
  primitive : FnT K mg "primitive" s_primitive
  plus : FnD K mg "plus" s_plus [.int (1)]
  product : FnT K mg "product" s_product
  sign_of : FnT K mg "sign_of" s_sign_of
  parted : FnT K mg "parted" s_parted
  rest : FnT K mg "rest" s_rest
  chain_of : FnT K mg "chain_of" s_chain_of
  upright : FnT K mg "upright" s_upright
  common : FnT K mg "common" s_common
  divided : FnT K mg "divided" s_divided
  parts_of : FnT K mg "parts_of" s_parts_of
  power : FnT K mg "power" s_power
  value_at_polys : FnA K mg "value_at_polys" "value_at" s_value_at_polys
  without_ends : FnT K mg "without_ends" s_without_ends
  entry : FnT K mg "entry" s_entry
  integers_of : FnT K mg "integers_of" s_integers_of
  knots_of : FnT K mg "knots_of" s_knots_of
  powered : FnT K mg "powered" s_powered
  ways : FnT K mg "ways" s_ways
  distance_power : FnT K mg "distance_power" s_distance_power
  less_by : FnT K mg "less_by" s_less_by
  sum_of : FnT K mg "sum_of" s_sum_of
  piece : FnT K mg "piece" s_piece
  kernel : FnT K mg "kernel" s_kernel
  quotient : FnT K mg "quotient" s_quotient
  area_powers : FnT K mg "area_powers" s_area_powers
  value_at_rules : FnA K mg "value_at_rules" "value_at" s_value_at_rules
  told : FnT K mg "told" s_told
  degree : FnT K mg "degree" s_degree
  is_exact_enough : FnT K mg "is_exact_enough" s_is_exact_enough
  sign_changes : FnT K mg "sign_changes" s_sign_changes
  changes_at : FnT K mg "changes_at" s_changes_at
  once_each : FnT K mg "once_each" s_once_each
  roots_between : FnT K mg "roots_between" s_roots_between
  is_nowhere_below : FnT K mg "is_nowhere_below" s_is_nowhere_below
  never_below : FnT K mg "never_below" s_never_below
  paper : FnT K mg "paper" s_paper
  are_like : FnT K mg "are_like" s_are_like
  is_number : FnT K mg "is_number" s_is_number
  is_poly : FnT K mg "is_poly" s_is_poly
  is_formed : FnT K mg "is_formed" s_is_formed
  is_good : FnT K mg "is_good" s_is_good
  entry_holds : FnT K mg "entry_holds" s_entry_holds
  paper_holds : FnT K mg "paper_holds" s_paper_holds
  law : FnT K mg "law" s_law
  sf_Rule : PySem.W.selfFirst K Rule.C = true
  NOUGHT : CoT K mg "NOUGHT" c_NOUGHT
  ONE : CoT K mg "ONE" c_ONE
  abs : mg "abs" = none
  all : mg "all" = none
  bool : mg "bool" = none
  enumerate : mg "enumerate" = none
  int : mg "int" = none
  isinstance : mg "isinstance" = none
  len : mg "len" = none
  list : mg "list" = none
  max : mg "max" = none
  min : mg "min" = none
  range : mg "range" = none
  set : mg "set" = none
  sorted : mg "sorted" = none
  tuple : mg "tuple" = none
  zip : mg "zip" = none
section
variable {P : Program} {w : World} {K : PySem.W.Frag} {mg : PySem.Str → Option Value} {base : Heap}
theorem sc_is_sequence : FnScope nm_is_sequence pm_is_sequence (defScope s_is_sequence) := ⟨rfl, rfl, rfl, by decide +kernel, rfl, by decide +kernel, by decide +kernel⟩
theorem bi_is_sequence (T : Txt K mg) : Binds K T.is_sequence.fd pm_is_sequence [] := T.is_sequence.F.binds fun _ _ _ _ _ _ us hl => match us, hl with | [_], _ => rfl
theorem ok_is_sequence (T : Txt K mg) : FnOk P w K mg base CX0 1 T.is_sequence.f T.is_sequence.fd pm_is_sequence (spF K r_is_sequence) := by
  have nd := sc_is_sequence.nd
  refine data_F T.is_sequence.F sc_is_sequence fun cdv A outer s H E hr => ?_
  refine ⟨_, (pss_one (ps_ret (pe_callB (kcr_isiS (K := K) rfl) (by rfl) T.isinstance (by decide +kernel) (pa_cons (pv 0) (pa_cons (pe_tup (pa_cons (pe_bltn (v := .ty "list") (u := .type "list") (by rfl) T.list (by decide +kernel) rfl) (pa_cons (pe_bltn (v := .ty "tuple") (u := .type "tuple") (by rfl) T.tuple (by decide +kernel) rfl) pa_nil))) pa_nil))))), ?_⟩
  exact ((sk_ret (gk_cb cd_isiS (ak_cons gk_var (ak_cons (gk_tup (ak_cons (gk_c fun _ => .ty _) (ak_cons (gk_c fun _ => .ty _) ak_nil))) ak_nil)))) : SOk K _ b_is_sequence)
theorem sc_is_less : FnScope nm_is_less pm_is_less (defScope s_is_less) := ⟨rfl, rfl, rfl, by decide +kernel, rfl, by decide +kernel, by decide +kernel⟩
theorem bi_is_less (T : Txt K mg) : Binds K T.is_less.fd pm_is_less [] := T.is_less.F.binds fun _ _ _ _ _ _ us hl => match us, hl with | [_, _], _ => rfl
theorem ok0_is_less (T : Txt K mg) : FnOk P w K mg base CX0 1 T.is_less.f T.is_less.fd pm_is_less (spF K r0_is_less) := by
  have nd := sc_is_less.nd
  refine data_F T.is_less.F sc_is_less fun cdv A outer s H E hr => ?_
  refine ⟨_, (pss_one (ps_ret (pe_cmpR op_lt (pe_op op_mulA (pe_ix (kix (K := K) rfl) (pv 0) pe_int (fun _ _ => rfl)) (pe_ix (kix (K := K) rfl) (pv 1) pe_int (fun _ _ => rfl))) (pe_op op_mulA (pe_ix (kix (K := K) rfl) (pv 1) pe_int (fun _ _ => rfl)) (pe_ix (kix (K := K) rfl) (pv 0) pe_int (fun _ _ => rfl))) (nomark _)))), ?_⟩
  exact ((sk_ret (gk_op od_lt (gk_op od_mul (gk_op od_ix gk_var gk_int) (gk_op od_ix gk_var gk_int)) (gk_op od_mul (gk_op od_ix gk_var gk_int) (gk_op od_ix gk_var gk_int)))) : SOk K _ b_is_less)
theorem ok_is_less (T : Txt K mg) : FnOk P w K mg base CX0 1 T.is_less.f T.is_less.fd pm_is_less (spF K r_is_less) := imp_F (ok0_is_less T) le_is_less
theorem sc_is_integer : FnScope nm_is_integer pm_is_integer (defScope s_is_integer) := ⟨rfl, rfl, rfl, by decide +kernel, rfl, by decide +kernel, by decide +kernel⟩
theorem bi_is_integer (T : Txt K mg) : Binds K T.is_integer.fd pm_is_integer [] := T.is_integer.F.binds fun _ _ _ _ _ _ us hl => match us, hl with | [_], _ => rfl
theorem ok0_is_integer (T : Txt K mg) : FnOk P w K mg base CX0 1 T.is_integer.f T.is_integer.fd pm_is_integer (spF K r0_is_integer) := by
  have nd := sc_is_integer.nd
  refine data_F T.is_integer.F sc_is_integer fun cdv A outer s H E hr => ?_
  refine ⟨_, (pss_one (ps_ret (pe_and (pe_callB (kcr_isi (K := K) rfl) (by rfl) T.isinstance (by decide +kernel) (pa_cons (pv 0) (pa_cons (pe_bltn (v := .ty "int") (u := .type "int") (by rfl) T.int (by decide +kernel) rfl) pa_nil))) (pe_one (pe_not (pe_callB (kcr_isi (K := K) rfl) (by rfl) T.isinstance (by decide +kernel) (pa_cons (pv 0) (pa_cons (pe_bltn (v := .ty "bool") (u := .type "bool") (by rfl) T.bool (by decide +kernel) rfl) pa_nil)))))))), ?_⟩
  exact ((sk_ret (gk_vand (gk_cb cd_isi (ak_cons gk_var (ak_cons (gk_c fun _ => .ty _) ak_nil))) (gk_vnot (gk_cb cd_isi (ak_cons gk_var (ak_cons (gk_c fun _ => .ty _) ak_nil)))))) : SOk K _ b_is_integer)
theorem ok_is_integer (T : Txt K mg) : FnOk P w K mg base CX0 1 T.is_integer.f T.is_integer.fd pm_is_integer (spF K r_is_integer) := imp_F (ok0_is_integer T) le_is_integer
theorem sc_divisor : FnScope nm_divisor pm_divisor (defScope s_divisor) := ⟨rfl, rfl, rfl, by decide +kernel, rfl, by decide +kernel, by decide +kernel⟩
theorem bi_divisor (T : Txt K mg) : Binds K T.divisor.fd pm_divisor [] := T.divisor.F.binds fun _ _ _ _ _ _ us hl => match us, hl with | [_, _], _ => rfl
theorem ok0_divisor (T : Txt K mg) : FnOk P w K mg base CX0 1 T.divisor.f T.divisor.fd pm_divisor (spF K r0_divisor) := by
  have nd := sc_divisor.nd
  refine data_F T.divisor.F sc_divisor fun cdv A outer s H E hr => ?_
  refine ⟨_, (pss_cons (ps_par (i := 0) (j := 1) rfl nd rfl rfl (by decide) rfl rfl (pa_cons (pe_callB cr_abs (by rfl) T.abs (by decide +kernel) (pa_cons (pv 0) pa_nil)) (pa_cons (pe_callB cr_abs (by rfl) T.abs (by decide +kernel) (pa_cons (pv 1) pa_nil)) pa_nil)) (by rfl))
    (pss_cons (ps_while PassesOwn.never (pt_cmpR (kop_ne (K := K) rfl hr.units) (pv 1) pe_int (nomark _)) (pss_one (ps_par (i := 0) (j := 1) rfl nd rfl rfl (by decide) rfl rfl (pa_cons (pv 1) (pa_cons (pe_op op_modA (pv 0) (pv 1)) pa_nil)) (by rfl))))
    (pss_one (ps_ret (pv 0))))), ?_⟩
  exact ((sk_seq (sk_ypar (yk_cons (gk_cb cd_abs (ak_cons gk_var ak_nil)) (yk_cons (gk_cb cd_abs (ak_cons gk_var ak_nil)) yk_nil)))
    (sk_seq (sk_while (fuelI 1) (tk_test (gk_op od_ne gk_var gk_int)) ((sk_ypar (yk_cons gk_var (yk_cons (gk_op od_mod gk_var gk_var) yk_nil))) : SOk K _ b_divisor_1))
    (sk_ret gk_mv))) : SOk K _ b_divisor)
theorem ok_divisor (T : Txt K mg) : FnOk P w K mg base CX0 1 T.divisor.f T.divisor.fd pm_divisor (spF K r_divisor) := imp_F (ok0_divisor T) le_divisor
theorem sc_is_pair : FnScope nm_is_pair pm_is_pair (defScope s_is_pair) := ⟨rfl, rfl, rfl, by decide +kernel, rfl, by decide +kernel, by decide +kernel⟩
theorem bi_is_pair (T : Txt K mg) : Binds K T.is_pair.fd pm_is_pair [] := T.is_pair.F.binds fun _ _ _ _ _ _ us hl => match us, hl with | [_], _ => rfl
theorem ok0_is_pair (T : Txt K mg) : FnOk P w K mg base CX0 2 T.is_pair.f T.is_pair.fd pm_is_pair (spF K r0_is_pair) := by
  have nd := sc_is_pair.nd
  refine data_F T.is_pair.F sc_is_pair fun cdv A outer s H E hr => ?_
  refine ⟨_, (pss_cons (ps_if (PW.pt (pw_or (pt_not (kpt_tru (K := K) rfl (pe_callB (kcr_isi (K := K) rfl) (by rfl) T.isinstance (by decide +kernel) (pa_cons (pv 0) (pa_cons (pe_bltn (v := .ty "tuple") (u := .type "tuple") (by rfl) T.tuple (by decide +kernel) rfl) pa_nil))) (by intro _; rfl))) (pw_or (pt_cmpR (kop_ne (K := K) rfl hr.units) (pe_callB (kcr_len (K := K) rfl) (by rfl) T.len (by decide +kernel) (pa_cons (pv 0) pa_nil)) pe_int (nomark _)) (pw_or1 (pt_not (kpt_tru (K := K) rfl (pe_callB (kcr_all (K := K) rfl rfl) (by rfl) T.all (by decide +kernel) (pa_cons (pe_lc (own := [("one", 1)]) rfl nd (kpi_seq (K := K) rfl (pv 0)) (blkOk_by (N := nm_is_pair) (sc := defScope s_is_pair) (by decide +kernel)) (fun _ _ _ _ _ => (pg_name (i := 1) nd rfl (Or.inl rfl))) (fun _ _ _ _ _ => pts_nil) (fun _ _ _ _ _ => (pe_call (ok_is_integer T) (hr.mono (by decide)) rfl T.is_integer.m T.is_integer.F.kp (bi_is_integer T) .nil pass0 (pa_cons (pv 1) pa_nil)))) pa_nil)) (by intro _; rfl))))))) (pss_one (ps_ret pe_bl)) pss_nil)
    (pss_one (ps_ret (pe_and (pe_cmpR op_gt (pe_ix (kix (K := K) rfl) (pv 0) pe_int (fun _ _ => rfl)) pe_int (nomark _)) (pe_one (pe_cmpR (kop_eq (K := K) rfl hr.units) (pe_call (ok_divisor T) (hr.mono (by decide)) rfl T.divisor.m T.divisor.F.kp (bi_divisor T) .nil pass0 (pa_cons (pe_ix (kix (K := K) rfl) (pv 0) pe_int (fun _ _ => rfl)) (pa_cons (pe_ix (kix (K := K) rfl) (pv 0) pe_int (fun _ _ => rfl)) pa_nil))) pe_int (nomark _))))))), ?_⟩
  exact ((sk_seq (sk_if (tk_or (tk_not (tk_truK (gk_cb cd_isi (ak_cons gk_var (ak_cons (gk_c fun _ => .ty _) ak_nil))))) (tk_or (tk_test (gk_op od_ne (gk_cb cd_len (ak_cons gk_var ak_nil)) gk_int)) (tk_not (tk_truK (gk_cb cd_all (ak_cons (gk_lc (ik_seq gk_var) gt_name tk_yes (gk_call (ak_cons gk_var ak_nil)) (by decide)) ak_nil)))))) (sk_ret gk_bl) sk_next)
    (sk_ret (gk_vand (gk_op od_gt (gk_op od_ix gk_var gk_int) gk_int) (gk_op od_eq (gk_call (ak_cons (gk_op od_ix gk_var gk_int) (ak_cons (gk_op od_ix gk_var gk_int) ak_nil))) gk_int)))) : SOk K _ b_is_pair)
theorem ok_is_pair (T : Txt K mg) : FnOk P w K mg base CX0 2 T.is_pair.f T.is_pair.fd pm_is_pair (spF K r_is_pair) := imp_F (ok0_is_pair T) le_is_pair
theorem sc_is_value : FnScope nm_is_value pm_is_value (defScope s_is_value) := ⟨rfl, rfl, rfl, by decide +kernel, rfl, by decide +kernel, by decide +kernel⟩
theorem bi_is_value (T : Txt K mg) : Binds K T.is_value.fd pm_is_value [] := T.is_value.F.binds fun _ _ _ _ _ _ us hl => match us, hl with | [_], _ => rfl
theorem ok_is_value (T : Txt K mg) : FnOk P w K mg base CX0 3 T.is_value.f T.is_value.fd pm_is_value (spF K r_is_value) := by
  have nd := sc_is_value.nd
  refine data_F T.is_value.F sc_is_value fun cdv A outer s H E hr => ?_
  refine ⟨_, (pss_one (ps_ret (pe_or (pe_call (ok_is_integer T) (hr.mono (by decide)) rfl T.is_integer.m T.is_integer.F.kp (bi_is_integer T) .nil pass0 (pa_cons (pv 0) pa_nil)) (pe_one (pe_call (ok_is_pair T) (hr.mono (by decide)) rfl T.is_pair.m T.is_pair.F.kp (bi_is_pair T) .nil pass0 (pa_cons (pv 0) pa_nil)))))), ?_⟩
  exact ((sk_ret (gk_vor (gk_call (ak_cons gk_var ak_nil)) (gk_call (ak_cons gk_var ak_nil)))) : SOk K _ b_is_value)
theorem sc_value_of : FnScope nm_value_of pm_value_of (defScope s_value_of) := ⟨rfl, rfl, rfl, by decide +kernel, rfl, by decide +kernel, by decide +kernel⟩
theorem bi_value_of (T : Txt K mg) : Binds K T.value_of.fd pm_value_of [] := T.value_of.F.binds fun _ _ _ _ _ _ us hl => match us, hl with | [_], _ => rfl
theorem ok0_value_of (T : Txt K mg) : FnOk P w K mg base CX0 2 T.value_of.f T.value_of.fd pm_value_of (spF K r0_value_of) := by
  have nd := sc_value_of.nd
  refine data_F T.value_of.F sc_value_of fun cdv A outer s H E hr => ?_
  refine ⟨_, (pss_one (ps_ret (pe_ifExp (kpt_tru (K := K) rfl (pe_call (ok_is_integer T) (hr.mono (by decide)) rfl T.is_integer.m T.is_integer.F.kp (bi_is_integer T) .nil pass0 (pa_cons (pv 0) pa_nil)) (by intro _; rfl)) (pe_tup (pa_cons (pv 0) (pa_cons pe_int pa_nil))) (pv 0)))), ?_⟩
  exact ((sk_ret (gk_if (tk_truK (gk_call (ak_cons gk_var ak_nil))) (gk_tup (ak_cons gk_var (ak_cons gk_int ak_nil))) gk_var)) : SOk K _ b_value_of)
theorem ok_value_of (T : Txt K mg) : FnOk P w K mg base CX0 2 T.value_of.f T.value_of.fd pm_value_of (spF K r_value_of) := imp_F (ok0_value_of T) le_value_of
theorem sc_is_between : FnScope nm_is_between pm_is_between (defScope s_is_between) := ⟨rfl, rfl, rfl, by decide +kernel, rfl, by decide +kernel, by decide +kernel⟩
theorem bi_is_between (T : Txt K mg) : Binds K T.is_between.fd pm_is_between [] := T.is_between.F.binds fun _ _ _ _ _ _ us hl => match us, hl with | [_, _, _], _ => rfl
theorem ok_is_between (T : Txt K mg) : FnOk P w K mg base CX0 4 T.is_between.f T.is_between.fd pm_is_between (spF K r_is_between) := by
  have nd := sc_is_between.nd
  refine data_F T.is_between.F sc_is_between fun cdv A outer s H E hr => ?_
  refine ⟨_, (pss_one (ps_ret (pe_and (pe_call (ok_is_value T) (hr.mono (by decide)) rfl T.is_value.m T.is_value.F.kp (bi_is_value T) .nil pass0 (pa_cons (pv 0) pa_nil)) (pe_and (pe_not (pe_call (ok_is_less T) (hr.mono (by decide)) rfl T.is_less.m T.is_less.F.kp (bi_is_less T) .nil pass0 (pa_cons (pe_call (ok_value_of T) (hr.mono (by decide)) rfl T.value_of.m T.value_of.F.kp (bi_value_of T) .nil pass0 (pa_cons (pv 0) pa_nil)) (pa_cons (pv 1) pa_nil)))) (pe_one (pe_not (pe_call (ok_is_less T) (hr.mono (by decide)) rfl T.is_less.m T.is_less.F.kp (bi_is_less T) .nil pass0 (pa_cons (pv 2) (pa_cons (pe_call (ok_value_of T) (hr.mono (by decide)) rfl T.value_of.m T.value_of.F.kp (bi_value_of T) .nil pass0 (pa_cons (pv 0) pa_nil)) pa_nil))))))))), ?_⟩
  exact ((sk_ret (gk_vand (gk_call (ak_cons gk_var ak_nil)) (gk_vand (gk_vnot (gk_call (ak_cons (gk_call (ak_cons gk_var ak_nil)) (ak_cons gk_var ak_nil)))) (gk_vnot (gk_call (ak_cons gk_var (ak_cons (gk_call (ak_cons gk_var ak_nil)) ak_nil))))))) : SOk K _ b_is_between)
theorem sc_is_share : FnScope nm_is_share pm_is_share (defScope s_is_share) := ⟨rfl, rfl, rfl, by decide +kernel, rfl, by decide +kernel, by decide +kernel⟩
theorem bi_is_share (T : Txt K mg) : Binds K T.is_share.fd pm_is_share [] := T.is_share.F.binds fun _ _ _ _ _ _ us hl => match us, hl with | [_, _, _], _ => rfl
theorem ok_is_share (T : Txt K mg) : FnOk P w K mg base CX0 5 T.is_share.f T.is_share.fd pm_is_share (spF K r_is_share) := by
  have nd := sc_is_share.nd
  refine data_F T.is_share.F sc_is_share fun cdv A outer s H E hr => ?_
  refine ⟨_, (pss_cons (ps_if (PW.pt (pw_or (pt_not (kpt_tru (K := K) rfl (pe_callB (kcr_isi (K := K) rfl) (by rfl) T.isinstance (by decide +kernel) (pa_cons (pv 0) (pa_cons (pe_bltn (v := .ty "tuple") (u := .type "tuple") (by rfl) T.tuple (by decide +kernel) rfl) pa_nil))) (by intro _; rfl))) (pw_or (pt_cmpR (kop_ne (K := K) rfl hr.units) (pe_callB (kcr_len (K := K) rfl) (by rfl) T.len (by decide +kernel) (pa_cons (pv 0) pa_nil)) pe_int (nomark _)) (pw_or1 (pt_not (kpt_tru (K := K) rfl (pe_call (ok_is_value T) (hr.mono (by decide)) rfl T.is_value.m T.is_value.F.kp (bi_is_value T) .nil pass0 (pa_cons (pe_ix (kix (K := K) rfl) (pv 0) pe_int (fun _ _ => rfl)) pa_nil)) (by intro _; rfl))))))) (pss_one (ps_ret pe_bl)) pss_nil)
    (pss_cons (ps_if (PW.pt (pw_or (pt_not (kpt_tru (K := K) rfl (pe_call (ok_is_between T) (hr.mono (by decide)) rfl T.is_between.m T.is_between.F.kp (bi_is_between T) .nil pass0 (pa_cons (pe_ix (kix (K := K) rfl) (pv 0) pe_int (fun _ _ => rfl)) (pa_cons (pv 1) (pa_cons (pv 2) pa_nil)))) (by intro _; rfl))) (pw_or1 (pt_not (kpt_tru (K := K) rfl (pe_call (ok_is_between T) (hr.mono (by decide)) rfl T.is_between.m T.is_between.F.kp (bi_is_between T) .nil pass0 (pa_cons (pe_ix (kix (K := K) rfl) (pv 0) pe_int (fun _ _ => rfl)) (pa_cons (pv 1) (pa_cons (pv 2) pa_nil)))) (by intro _; rfl)))))) (pss_one (ps_ret pe_bl)) pss_nil)
    (pss_one (ps_ret (pe_call (ok_is_less T) (hr.mono (by decide)) rfl T.is_less.m T.is_less.F.kp (bi_is_less T) .nil pass0 (pa_cons (pe_call (ok_value_of T) (hr.mono (by decide)) rfl T.value_of.m T.value_of.F.kp (bi_value_of T) .nil pass0 (pa_cons (pe_ix (kix (K := K) rfl) (pv 0) pe_int (fun _ _ => rfl)) pa_nil)) (pa_cons (pe_call (ok_value_of T) (hr.mono (by decide)) rfl T.value_of.m T.value_of.F.kp (bi_value_of T) .nil pass0 (pa_cons (pe_ix (kix (K := K) rfl) (pv 0) pe_int (fun _ _ => rfl)) pa_nil)) pa_nil))))))), ?_⟩
  exact ((sk_seq (sk_if (tk_or (tk_not (tk_truK (gk_cb cd_isi (ak_cons gk_var (ak_cons (gk_c fun _ => .ty _) ak_nil))))) (tk_or (tk_test (gk_op od_ne (gk_cb cd_len (ak_cons gk_var ak_nil)) gk_int)) (tk_not (tk_truK (gk_call (ak_cons (gk_op od_ix gk_var gk_int) ak_nil)))))) (sk_ret gk_bl) sk_next)
    (sk_seq (sk_if (tk_or (tk_not (tk_truK (gk_call (ak_cons (gk_op od_ix gk_var gk_int) (ak_cons gk_var (ak_cons gk_var ak_nil)))))) (tk_not (tk_truK (gk_call (ak_cons (gk_op od_ix gk_var gk_int) (ak_cons gk_var (ak_cons gk_var ak_nil))))))) (sk_ret gk_bl) sk_next)
    (sk_ret (gk_call (ak_cons (gk_call (ak_cons (gk_op od_ix gk_var gk_int) ak_nil)) (ak_cons (gk_call (ak_cons (gk_op od_ix gk_var gk_int) ak_nil)) ak_nil)))))) : SOk K _ b_is_share)
theorem sc_is_weight : FnScope nm_is_weight pm_is_weight (defScope s_is_weight) := ⟨rfl, rfl, rfl, by decide +kernel, rfl, by decide +kernel, by decide +kernel⟩
theorem bi_is_weight (T : Txt K mg) : Binds K T.is_weight.fd pm_is_weight [] := T.is_weight.F.binds fun _ _ _ _ _ _ us hl => match us, hl with | [_, _, _], _ => rfl
theorem ok_is_weight (T : Txt K mg) : FnOk P w K mg base CX0 5 T.is_weight.f T.is_weight.fd pm_is_weight (spF K r_is_weight) := by
  have nd := sc_is_weight.nd
  refine data_F T.is_weight.F sc_is_weight fun cdv A outer s H E hr => ?_
  refine ⟨_, (pss_cons (ps_if (PW.pt (pw_or (pt_not (kpt_tru (K := K) rfl (pe_callB (kcr_isi (K := K) rfl) (by rfl) T.isinstance (by decide +kernel) (pa_cons (pv 0) (pa_cons (pe_bltn (v := .ty "tuple") (u := .type "tuple") (by rfl) T.tuple (by decide +kernel) rfl) pa_nil))) (by intro _; rfl))) (pw_or1 (pt_cmpR (kop_ne (K := K) rfl hr.units) (pe_callB (kcr_len (K := K) rfl) (by rfl) T.len (by decide +kernel) (pa_cons (pv 0) pa_nil)) pe_int (nomark _))))) (pss_one (ps_ret pe_bl)) pss_nil)
    (pss_one (ps_ret (pe_and (pe_call (ok_is_between T) (hr.mono (by decide)) rfl T.is_between.m T.is_between.F.kp (bi_is_between T) .nil pass0 (pa_cons (pe_ix (kix (K := K) rfl) (pv 0) pe_int (fun _ _ => rfl)) (pa_cons (pv 1) (pa_cons (pv 2) pa_nil)))) (pe_one (pe_call (ok_is_value T) (hr.mono (by decide)) rfl T.is_value.m T.is_value.F.kp (bi_is_value T) .nil pass0 (pa_cons (pe_ix (kix (K := K) rfl) (pv 0) pe_int (fun _ _ => rfl)) pa_nil))))))), ?_⟩
  exact ((sk_seq (sk_if (tk_or (tk_not (tk_truK (gk_cb cd_isi (ak_cons gk_var (ak_cons (gk_c fun _ => .ty _) ak_nil))))) (tk_test (gk_op od_ne (gk_cb cd_len (ak_cons gk_var ak_nil)) gk_int))) (sk_ret gk_bl) sk_next)
    (sk_ret (gk_vand (gk_call (ak_cons (gk_op od_ix gk_var gk_int) (ak_cons gk_var (ak_cons gk_var ak_nil)))) (gk_call (ak_cons (gk_op od_ix gk_var gk_int) ak_nil))))) : SOk K _ b_is_weight)
theorem sc_ascending : FnScope nm_ascending pm_ascending (defScope s_ascending) := ⟨rfl, rfl, rfl, by decide +kernel, rfl, by decide +kernel, by decide +kernel⟩
theorem bi_ascending (T : Txt K mg) : Binds K T.ascending.fd pm_ascending [] := T.ascending.F.binds fun _ _ _ _ _ _ us hl => match us, hl with | [_], _ => rfl
theorem ok_ascending (T : Txt K mg) : FnOk P w K mg base CX0 2 T.ascending.f T.ascending.fd pm_ascending (spF K r_ascending) := by
  have nd := sc_ascending.nd
  refine data_F T.ascending.F sc_ascending fun cdv A outer s H E hr => ?_
  refine ⟨_, (pss_cons (ps_set (i := 1) nd rfl (Or.inr rfl) pe_int)
    (pss_cons (ps_for PassesOwn.never rfl (kpi_seq (K := K) rfl (pv 0)) (kpg_tup (K := K) (n := 2) rfl rfl (pgs_cons (pg_name (i := 2) nd rfl (Or.inl rfl)) (pgs_cons (pg_name (i := 3) nd rfl (Or.inl rfl)) pgs_nil))) (pss_one (ps_set (i := 1) nd rfl (Or.inr rfl) (pe_op op_fdivA (pe_op op_mulA (pv 1) (pv 3)) (pe_call (ok_divisor T) (hr.mono (by decide)) rfl T.divisor.m T.divisor.F.kp (bi_divisor T) .nil pass0 (pa_cons (pv 1) (pa_cons (pv 3) pa_nil)))))))
    (pss_cons (ps_set (i := 4) nd rfl (Or.inr rfl) (pe_callB (kcr_sorted (K := K) rfl (room_u2 hr)) (by rfl) T.sorted (by decide +kernel) (pa_cons (pe_lc (own := [("one", 5)]) rfl nd (kpi_seq (K := K) rfl (pv 0)) (blkOk_by (N := nm_ascending) (sc := defScope s_ascending) (by decide +kernel)) (fun _ _ _ _ _ => (pg_name (i := 5) nd rfl (Or.inl rfl))) (fun _ _ _ _ _ => pts_nil) (fun _ _ _ _ _ => (pe_tup (pa_cons (pe_op op_mulA (pe_ix (kix (K := K) rfl) (pv 5) pe_int (fun _ _ => rfl)) (pe_op op_fdivA (pv 1) (pe_ix (kix (K := K) rfl) (pv 5) pe_int (fun _ _ => rfl)))) (pa_cons (pv 5) pa_nil))))) pa_nil)))
    (pss_one (ps_ret (pe_lc (own := [("at", 6), ("place", 7), ("one", 5)]) rfl nd (kpi_enumA (K := K) rfl rfl T.enumerate (pa_cons (pv 4) pa_nil)) (blkOk_by (N := nm_ascending) (sc := defScope s_ascending) (by decide +kernel)) (fun _ _ _ _ _ => (kpg_tup (K := K) (n := 2) rfl rfl (pgs_cons (pg_name (i := 6) nd rfl (Or.inl rfl)) (pgs_cons (kpg_tup (K := K) (n := 2) rfl rfl (pgs_cons (pg_name (i := 7) nd rfl (Or.inl rfl)) (pgs_cons (pg_name (i := 5) nd rfl (Or.inl rfl)) pgs_nil))) pgs_nil)))) (fun _ _ _ _ _ => (pts_one (PW.pt (pw_or (pt_cmpR (kop_eq (K := K) rfl hr.units) (pv 6) pe_int (nomark _)) (pw_or1 (pt_cmpR (kop_ne (K := K) rfl hr.units) (pe_ix (kix (K := K) rfl) (pe_ix (kix (K := K) rfl) (pv 4) (pe_op op_subA (pv 6) pe_int) (fun _ _ => rfl)) pe_int (fun _ _ => rfl)) (pv 5) (nomark _))))))) (fun _ _ _ _ _ => (pv 5)))))))), ?_⟩
  exact ((sk_seq (sk_set gk_int)
    (sk_seq (sk_for (ik_seq gk_var) (gt_tup (gts_cons gt_name (gts_cons gt_name gts_nil))) ((sk_set (gk_op od_fdiv (gk_op od_mul gk_var gk_var) (gk_call (ak_cons gk_var (ak_cons gk_var ak_nil))))) : SOk K _ b_ascending_1))
    (sk_seq (sk_set (gk_cb cd_sorted (ak_cons (gk_lc (ik_seq gk_var) gt_name tk_yes (gk_tup (ak_cons (gk_op od_mul (gk_op od_ix gk_var gk_int) (gk_op od_fdiv gk_var (gk_op od_ix gk_var gk_int))) (ak_cons gk_var ak_nil))) (by decide)) ak_nil)))
    (sk_ret (gk_lc (ik_enumA (ak_cons gk_var ak_nil)) (gt_tup (gts_cons gt_name (gts_cons (gt_tup (gts_cons gt_name (gts_cons gt_name gts_nil))) gts_nil))) (tk_or (tk_test (gk_op od_eq gk_var gk_int)) (tk_test (gk_op od_ne (gk_op od_ix (gk_op od_ix gk_var (gk_op od_sub gk_var gk_int)) gk_int) gk_var))) gk_var (by decide)))))) : SOk K _ b_ascending)
theorem sc_lowest : FnScope nm_lowest pm_lowest (defScope s_lowest) := ⟨rfl, rfl, rfl, by decide +kernel, rfl, by decide +kernel, by decide +kernel⟩
theorem bi_lowest (T : Txt K mg) : Binds K T.lowest.fd pm_lowest [] := T.lowest.F.binds fun _ _ _ _ _ _ us hl => match us, hl with | [_, _], _ => rfl
theorem ok0_lowest (T : Txt K mg) : FnOk P w K mg base CX0 2 T.lowest.f T.lowest.fd pm_lowest (spF K r0_lowest) := by
  have nd := sc_lowest.nd
  refine data_F T.lowest.F sc_lowest fun cdv A outer s H E hr => ?_
  refine ⟨_, (pss_cons (ps_set (i := 2) nd rfl (Or.inl rfl) (pe_call (ok_divisor T) (hr.mono (by decide)) rfl T.divisor.m T.divisor.F.kp (bi_divisor T) .nil pass0 (pa_cons (pv 0) (pa_cons (pv 1) pa_nil))))
    (pss_cons (ps_set (i := 2) nd rfl (Or.inl rfl) (pe_ifExp (pt_cmpR op_lt (pv 1) pe_int (nomark _)) (pe_un un_neg (pv 2)) (pv 2)))
    (pss_one (ps_ret (pe_tup (pa_cons (pe_op op_fdivA (pv 0) (pv 2)) (pa_cons (pe_op op_fdivA (pv 1) (pv 2)) pa_nil))))))), ?_⟩
  exact ((sk_seq (sk_set (gk_call (ak_cons gk_var (ak_cons gk_var ak_nil))))
    (sk_seq (sk_set (gk_if (tk_test (gk_op od_lt gk_var gk_int)) (gk_un ud_neg gk_var) gk_var))
    (sk_ret (gk_tup (ak_cons (gk_op od_fdiv gk_var gk_var) (ak_cons (gk_op od_fdiv gk_var gk_var) ak_nil)))))) : SOk K _ b_lowest)
theorem ok_lowest (T : Txt K mg) : FnOk P w K mg base CX0 2 T.lowest.f T.lowest.fd pm_lowest (spF K r_lowest) := imp_F (ok0_lowest T) le_lowest
theorem sc_added : FnScope nm_added pm_added (defScope s_added) := ⟨rfl, rfl, rfl, by decide +kernel, rfl, by decide +kernel, by decide +kernel⟩
theorem bi_added (T : Txt K mg) : Binds K T.added.fd pm_added [] := T.added.F.binds fun _ _ _ _ _ _ us hl => match us, hl with | [_, _], _ => rfl
theorem ok0_added (T : Txt K mg) : FnOk P w K mg base CX0 3 T.added.f T.added.fd pm_added (spF K r0_added) := by
  have nd := sc_added.nd
  refine data_F T.added.F sc_added fun cdv A outer s H E hr => ?_
  refine ⟨_, (pss_one (ps_ret (pe_call (ok_lowest T) (hr.mono (by decide)) rfl T.lowest.m T.lowest.F.kp (bi_lowest T) .nil pass0 (pa_cons (pe_op (kop_addB (K := K) rfl) (pe_op op_mulA (pe_ix (kix (K := K) rfl) (pv 0) pe_int (fun _ _ => rfl)) (pe_ix (kix (K := K) rfl) (pv 1) pe_int (fun _ _ => rfl))) (pe_op op_mulA (pe_ix (kix (K := K) rfl) (pv 1) pe_int (fun _ _ => rfl)) (pe_ix (kix (K := K) rfl) (pv 0) pe_int (fun _ _ => rfl)))) (pa_cons (pe_op op_mulA (pe_ix (kix (K := K) rfl) (pv 0) pe_int (fun _ _ => rfl)) (pe_ix (kix (K := K) rfl) (pv 1) pe_int (fun _ _ => rfl))) pa_nil))))), ?_⟩
  exact ((sk_ret (gk_call (ak_cons (gk_op od_addB (gk_op od_mul (gk_op od_ix gk_var gk_int) (gk_op od_ix gk_var gk_int)) (gk_op od_mul (gk_op od_ix gk_var gk_int) (gk_op od_ix gk_var gk_int))) (ak_cons (gk_op od_mul (gk_op od_ix gk_var gk_int) (gk_op od_ix gk_var gk_int)) ak_nil)))) : SOk K _ b_added)
theorem ok_added (T : Txt K mg) : FnOk P w K mg base CX0 3 T.added.f T.added.fd pm_added (spF K r_added) := imp_F (ok0_added T) le_added
theorem sc_summed : FnScope nm_summed pm_summed (defScope s_summed) := ⟨rfl, rfl, rfl, by decide +kernel, rfl, by decide +kernel, by decide +kernel⟩
theorem bi_summed (T : Txt K mg) : Binds K T.summed.fd pm_summed [] := T.summed.F.binds fun _ _ _ _ _ _ us hl => match us, hl with | [_], _ => rfl
theorem ok_summed (T : Txt K mg) : FnOk P w K mg base CX0 4 T.summed.f T.summed.fd pm_summed (spF K r_summed) := by
  have nd := sc_summed.nd
  refine data_F T.summed.F sc_summed fun cdv A outer s H E hr => ?_
  refine ⟨_, (pss_cons (ps_set (i := 1) nd rfl (Or.inl rfl) (pe_glob rfl T.NOUGHT.m T.NOUGHT.r))
    (pss_cons (ps_for PassesOwn.never rfl (kpi_seq (K := K) rfl (pv 0)) (pg_name (i := 2) nd rfl (Or.inl rfl)) (pss_one (ps_set (i := 1) nd rfl (Or.inl rfl) (pe_call (ok_added T) (hr.mono (by decide)) rfl T.added.m T.added.F.kp (bi_added T) .nil pass0 (pa_cons (pv 1) (pa_cons (pv 2) pa_nil))))))
    (pss_one (ps_ret (pv 1))))), ?_⟩
  exact ((sk_seq (sk_set (gk_c T.NOUGHT.d))
    (sk_seq (sk_for (ik_seq gk_var) gt_name ((sk_set (gk_call (ak_cons gk_var (ak_cons gk_var ak_nil)))) : SOk K _ b_summed_1))
    (sk_ret gk_mv))) : SOk K _ b_summed)
theorem sc_least_shares : FnScope nm_least_shares pm_least_shares (defScope s_least_shares) := ⟨rfl, rfl, rfl, by decide +kernel, rfl, by decide +kernel, by decide +kernel⟩
theorem bi_least_shares (T : Txt K mg) : Binds K T.least_shares.fd pm_least_shares [] := T.least_shares.F.binds fun _ _ _ _ _ _ us hl => match us, hl with | [_], _ => rfl
theorem ok_least_shares (T : Txt K mg) : FnOk P w K mg base CX0 5 T.least_shares.f T.least_shares.fd pm_least_shares (spF K r_least_shares) := by
  have nd := sc_least_shares.nd
  refine data_F T.least_shares.F sc_least_shares fun cdv A outer s H E hr => ?_
  refine ⟨_, (pss_cons (ps_setLc (i := 1) (own := [("start", 4), ("end", 5), ("share", 8)]) rfl nd rfl rfl (sw_true rfl rfl rfl (by decide +kernel)) (kpi_seq (K := K) rfl (pv 0)) (blkOk_by (N := nm_least_shares) (sc := defScope s_least_shares) (by decide +kernel)) (fun _ _ _ _ _ => (kpg_tup (K := K) (n := 3) rfl rfl (pgs_cons (pg_name (i := 4) nd rfl (Or.inl rfl)) (pgs_cons (pg_name (i := 5) nd rfl (Or.inl rfl)) (pgs_cons (pg_name (i := 8) nd rfl (Or.inl rfl)) pgs_nil))))) (fun _ _ _ _ _ => pts_nil) (fun _ _ _ _ _ => (pe_tup (pa_cons (pe_call (ok_value_of T) (hr.mono (by decide)) rfl T.value_of.m T.value_of.F.kp (bi_value_of T) .nil pass0 (pa_cons (pv 4) pa_nil)) (pa_cons (pe_call (ok_value_of T) (hr.mono (by decide)) rfl T.value_of.m T.value_of.F.kp (bi_value_of T) .nil pass0 (pa_cons (pv 5) pa_nil)) (pa_cons (pe_call (ok_value_of T) (hr.mono (by decide)) rfl T.value_of.m T.value_of.F.kp (bi_value_of T) .nil pass0 (pa_cons (pv 8) pa_nil)) pa_nil))))))
    (pss_cons (ps_set (i := 2) nd rfl (Or.inl rfl) (pe_call (ok_ascending T) (hr.mono (by decide)) rfl T.ascending.m T.ascending.F.kp (bi_ascending T) .nil pass0 (pa_cons (pe_lc2 (own := [("start", 4), ("end", 5), ("share", 8), ("one", 9)]) (vs1 := [9]) rfl nd (kpi_seq (K := K) rfl (pv 1)) (blkOk_by (N := nm_least_shares) (sc := defScope s_least_shares) (by decide +kernel)) (by decide) (fun _ _ _ _ _ => (kpg_tup (K := K) (n := 3) rfl rfl (pgs_cons (pg_name (i := 4) nd rfl (Or.inl rfl)) (pgs_cons (pg_name (i := 5) nd rfl (Or.inl rfl)) (pgs_cons (pg_name (i := 8) nd rfl (Or.inl rfl)) pgs_nil))))) (fun _ _ _ _ _ => pts_nil) (fun _ _ _ _ _ => (kpi_seq (K := K) rfl (pe_tup (pa_cons (pv 4) (pa_cons (pv 5) pa_nil))))) (fun _ _ _ _ _ => (pg_name (i := 9) nd rfl (Or.inl rfl))) (fun _ _ _ _ _ => pts_nil) (fun _ _ _ _ _ => (pv 9))) pa_nil)))
    (pss_cons (ps_set (i := 3) nd rfl (Or.inl rfl) (pe_lst pa_nil))
    (pss_cons (ps_for PassesOwn.never rfl (kpi_zipA (K := K) rfl rfl T.zip (pa_cons (pv 2) (pa_cons (pe_slice (ksl_B (K := K) rfl) (pv 2) (po_some pe_int) po_none) pa_nil))) (kpg_tup (K := K) (n := 2) rfl rfl (pgs_cons (pg_name (i := 4) nd rfl (Or.inr rfl)) (pgs_cons (pg_name (i := 5) nd rfl (Or.inr rfl)) pgs_nil))) (pss_cons (ps_setLc (i := 6) (own := [("first", 10), ("last", 11), ("share", 8)]) rfl nd rfl rfl (sw_true rfl rfl rfl (by decide +kernel)) (kpi_seq (K := K) rfl (pv 1)) (blkOk_by (N := nm_least_shares) (sc := defScope s_least_shares) (by decide +kernel)) (fun _ _ _ _ _ => (kpg_tup (K := K) (n := 3) rfl rfl (pgs_cons (pg_name (i := 10) nd rfl (Or.inl rfl)) (pgs_cons (pg_name (i := 11) nd rfl (Or.inl rfl)) (pgs_cons (pg_name (i := 8) nd rfl (Or.inl rfl)) pgs_nil))))) (fun _ _ _ _ _ => (pts_one (PW.pt (pw_and (pt_not (kpt_tru (K := K) rfl (pe_call (ok_is_less T) (hr.mono (by decide)) rfl T.is_less.m T.is_less.F.kp (bi_is_less T) .nil pass0 (pa_cons (pv 4) (pa_cons (pv 10) pa_nil))) (by intro _; rfl))) (pw_and1 (pt_not (kpt_tru (K := K) rfl (pe_call (ok_is_less T) (hr.mono (by decide)) rfl T.is_less.m T.is_less.F.kp (bi_is_less T) .nil pass0 (pa_cons (pv 11) (pa_cons (pv 5) pa_nil))) (by intro _; rfl)))))))) (fun _ _ _ _ _ => (pv 8)))
    (pss_cons (ps_set (i := 7) nd rfl (Or.inl rfl) (pe_call (ok_summed T) (hr.mono (by decide)) rfl T.summed.m T.summed.F.kp (bi_summed T) .nil pass0 (pa_cons (pv 6) pa_nil)))
    (pss_one (ps_if (PW.pt (pw_and (pt_cmpR op_gt (pe_callB (kcr_len (K := K) rfl) (by rfl) T.len (by decide +kernel) (pa_cons (pv 3) pa_nil)) pe_int (nomark _)) (pw_and1 (pt_cmpR (kop_eq (K := K) rfl hr.units) (pe_ix (kix (K := K) rfl) (pe_ix (kix (K := K) rfl) (pv 3) (pe_un un_neg pe_int) (fun _ _ => rfl)) pe_int (fun _ _ => rfl)) (pv 7) (nomark _))))) (pss_one (ps_set (i := 3) nd rfl (Or.inl rfl) (pe_lst (kpa_star (K := K) rfl (pe_slice (ksl_B (K := K) rfl) (pv 3) po_none (po_some (pe_un un_neg pe_int))) (pa_cons (pe_tup (pa_cons (pe_ix (kix (K := K) rfl) (pe_ix (kix (K := K) rfl) (pv 3) (pe_un un_neg pe_int) (fun _ _ => rfl)) pe_int (fun _ _ => rfl)) (pa_cons (pv 5) (pa_cons (pv 7) pa_nil)))) pa_nil))))) (pss_one (ps_set (i := 3) nd rfl (Or.inl rfl) (pe_lst (kpa_star (K := K) rfl (pv 3) (pa_cons (pe_tup (pa_cons (pv 4) (pa_cons (pv 5) (pa_cons (pv 7) pa_nil)))) pa_nil))))))))))
    (pss_one (ps_ret (pe_callTy (kcr_tuple (K := K) rfl) (by rfl) T.tuple (by decide +kernel) (pa_cons (pe_lc (own := [("part", 12)]) rfl nd (kpi_seq (K := K) rfl (pv 3)) (blkOk_by (N := nm_least_shares) (sc := defScope s_least_shares) (by decide +kernel)) (fun _ _ _ _ _ => (pg_name (i := 12) nd rfl (Or.inl rfl))) (fun _ _ _ _ _ => (pts_one (pt_cmpR (kop_ne (K := K) rfl hr.units) (pe_ix (kix (K := K) rfl) (pv 12) pe_int (fun _ _ => rfl)) (pe_glob rfl T.NOUGHT.m T.NOUGHT.r) (nomark _)))) (fun _ _ _ _ _ => (pv 12))) pa_nil)))))))), ?_⟩
  exact ((sk_seq (sk_set (gk_lc (ik_seq gk_var) (gt_tup (gts_cons gt_name (gts_cons gt_name (gts_cons gt_name gts_nil)))) tk_yes (gk_tup (ak_cons (gk_call (ak_cons gk_var ak_nil)) (ak_cons (gk_call (ak_cons gk_var ak_nil)) (ak_cons (gk_call (ak_cons gk_var ak_nil)) ak_nil)))) (by decide)))
    (sk_seq (sk_set (gk_call (ak_cons (gk_lc2 (ik_seq gk_var) (gt_tup (gts_cons gt_name (gts_cons gt_name (gts_cons gt_name gts_nil)))) tk_yes (ik_seq (gk_tup (ak_cons gk_var (ak_cons gk_var ak_nil)))) gt_name tk_yes gk_var (by decide) (by decide) (by decide)) ak_nil)))
    (sk_seq (sk_set (gk_lst ak_nil))
    (sk_seq (sk_for (ik_zipA (ak_cons gk_var (ak_cons (gk_sl sd_B gk_var (pk_some gk_int) pk_none) ak_nil))) (gt_tup (gts_cons gt_name (gts_cons gt_name gts_nil))) ((sk_seq (sk_set (gk_lc (ik_seq gk_var) (gt_tup (gts_cons gt_name (gts_cons gt_name (gts_cons gt_name gts_nil)))) (tk_and (tk_not (tk_truK (gk_call (ak_cons gk_var (ak_cons gk_var ak_nil))))) (tk_not (tk_truK (gk_call (ak_cons gk_var (ak_cons gk_var ak_nil)))))) gk_var (by decide)))
    (sk_seq (sk_set (gk_call (ak_cons gk_var ak_nil)))
    (sk_if (tk_and (tk_test (gk_op od_gt (gk_cb cd_len (ak_cons gk_var ak_nil)) gk_int)) (tk_test (gk_op od_eq (gk_op od_ix (gk_op od_ix gk_var (gk_un ud_neg gk_int)) gk_int) gk_var))) (sk_set (gk_lst (ak_star (gk_sl sd_B gk_var pk_none (pk_some (gk_un ud_neg gk_int))) (ak_cons (gk_tup (ak_cons (gk_op od_ix (gk_op od_ix gk_var (gk_un ud_neg gk_int)) gk_int) (ak_cons gk_var (ak_cons gk_var ak_nil)))) ak_nil)))) (sk_set (gk_lst (ak_star gk_var (ak_cons (gk_tup (ak_cons gk_var (ak_cons gk_var (ak_cons gk_var ak_nil)))) ak_nil))))))) : SOk K _ b_least_shares_1))
    (sk_ret (gk_cb cd_tuple (ak_cons (gk_lc (ik_seq gk_var) gt_name (tk_test (gk_op od_ne (gk_op od_ix gk_var gk_int) (gk_c T.NOUGHT.d))) gk_var (by decide)) ak_nil))))))) : SOk K _ b_least_shares)
theorem sc_least_weights : FnScope nm_least_weights pm_least_weights (defScope s_least_weights) := ⟨rfl, rfl, rfl, by decide +kernel, rfl, by decide +kernel, by decide +kernel⟩
theorem bi_least_weights (T : Txt K mg) : Binds K T.least_weights.fd pm_least_weights [] := T.least_weights.F.binds fun _ _ _ _ _ _ us hl => match us, hl with | [_], _ => rfl
theorem ok_least_weights (T : Txt K mg) : FnOk P w K mg base CX0 5 T.least_weights.f T.least_weights.fd pm_least_weights (spF K r_least_weights) := by
  have nd := sc_least_weights.nd
  refine data_F T.least_weights.F sc_least_weights fun cdv A outer s H E hr => ?_
  refine ⟨_, (pss_cons (ps_setLc (i := 1) (own := [("point", 3), ("weight", 4)]) rfl nd rfl rfl (sw_true rfl rfl rfl (by decide +kernel)) (kpi_seq (K := K) rfl (pv 0)) (blkOk_by (N := nm_least_weights) (sc := defScope s_least_weights) (by decide +kernel)) (fun _ _ _ _ _ => (kpg_tup (K := K) (n := 2) rfl rfl (pgs_cons (pg_name (i := 3) nd rfl (Or.inl rfl)) (pgs_cons (pg_name (i := 4) nd rfl (Or.inl rfl)) pgs_nil)))) (fun _ _ _ _ _ => pts_nil) (fun _ _ _ _ _ => (pe_tup (pa_cons (pe_call (ok_value_of T) (hr.mono (by decide)) rfl T.value_of.m T.value_of.F.kp (bi_value_of T) .nil pass0 (pa_cons (pv 3) pa_nil)) (pa_cons (pe_call (ok_value_of T) (hr.mono (by decide)) rfl T.value_of.m T.value_of.F.kp (bi_value_of T) .nil pass0 (pa_cons (pv 4) pa_nil)) pa_nil)))))
    (pss_cons (ps_set (i := 2) nd rfl (Or.inl rfl) (pe_lst pa_nil))
    (pss_cons (ps_for PassesOwn.never rfl (kpi_seq (K := K) rfl (pe_call (ok_ascending T) (hr.mono (by decide)) rfl T.ascending.m T.ascending.F.kp (bi_ascending T) .nil pass0 (pa_cons (pe_lc (own := [("point", 3), ("weight", 4)]) rfl nd (kpi_seq (K := K) rfl (pv 1)) (blkOk_by (N := nm_least_weights) (sc := defScope s_least_weights) (by decide +kernel)) (fun _ _ _ _ _ => (kpg_tup (K := K) (n := 2) rfl rfl (pgs_cons (pg_name (i := 3) nd rfl (Or.inl rfl)) (pgs_cons (pg_name (i := 4) nd rfl (Or.inl rfl)) pgs_nil)))) (fun _ _ _ _ _ => pts_nil) (fun _ _ _ _ _ => (pv 3))) pa_nil))) (pg_name (i := 3) nd rfl (Or.inr rfl)) (pss_one (ps_expr (kpe_app (K := K) rfl (pv 2) (pe_tup (pa_cons (pv 3) (pa_cons (pe_call (ok_summed T) (hr.mono (by decide)) rfl T.summed.m T.summed.F.kp (bi_summed T) .nil pass0 (pa_cons (pe_lc (own := [("place", 5), ("weight", 4)]) rfl nd (kpi_seq (K := K) rfl (pv 1)) (blkOk_by (N := nm_least_weights) (sc := defScope s_least_weights) (by decide +kernel)) (fun _ _ _ _ _ => (kpg_tup (K := K) (n := 2) rfl rfl (pgs_cons (pg_name (i := 5) nd rfl (Or.inl rfl)) (pgs_cons (pg_name (i := 4) nd rfl (Or.inl rfl)) pgs_nil)))) (fun _ _ _ _ _ => (pts_one (pt_cmpR (kop_eq (K := K) rfl hr.units) (pv 5) (pv 3) (nomark _)))) (fun _ _ _ _ _ => (pv 4))) pa_nil)) pa_nil)))))))
    (pss_one (ps_ret (pe_callTy (kcr_tuple (K := K) rfl) (by rfl) T.tuple (by decide +kernel) (pa_cons (pe_lc (own := [("pair", 6)]) rfl nd (kpi_seq (K := K) rfl (pv 2)) (blkOk_by (N := nm_least_weights) (sc := defScope s_least_weights) (by decide +kernel)) (fun _ _ _ _ _ => (pg_name (i := 6) nd rfl (Or.inl rfl))) (fun _ _ _ _ _ => (pts_one (pt_cmpR (kop_ne (K := K) rfl hr.units) (pe_ix (kix (K := K) rfl) (pv 6) pe_int (fun _ _ => rfl)) (pe_glob rfl T.NOUGHT.m T.NOUGHT.r) (nomark _)))) (fun _ _ _ _ _ => (pv 6))) pa_nil))))))), ?_⟩
  exact ((sk_seq (sk_set (gk_lc (ik_seq gk_var) (gt_tup (gts_cons gt_name (gts_cons gt_name gts_nil))) tk_yes (gk_tup (ak_cons (gk_call (ak_cons gk_var ak_nil)) (ak_cons (gk_call (ak_cons gk_var ak_nil)) ak_nil))) (by decide)))
    (sk_seq (sk_set (gk_lst ak_nil))
    (sk_seq (sk_for (ik_seq (gk_call (ak_cons (gk_lc (ik_seq gk_var) (gt_tup (gts_cons gt_name (gts_cons gt_name gts_nil))) tk_yes gk_var (by decide)) ak_nil))) gt_name ((sk_app (gk_tup (ak_cons gk_var (ak_cons (gk_call (ak_cons (gk_lc (ik_seq gk_var) (gt_tup (gts_cons gt_name (gts_cons gt_name gts_nil))) (tk_test (gk_op od_eq gk_var gk_var)) gk_var (by decide)) ak_nil)) ak_nil)))) : SOk K _ b_least_weights_1))
    (sk_ret (gk_cb cd_tuple (ak_cons (gk_lc (ik_seq gk_var) gt_name (tk_test (gk_op od_ne (gk_op od_ix gk_var gk_int) (gk_c T.NOUGHT.d))) gk_var (by decide)) ak_nil)))))) : SOk K _ b_least_weights)
theorem sc_need_stretch : FnScope nm_need_stretch pm_need_stretch (defScope s_need_stretch) := ⟨rfl, rfl, rfl, by decide +kernel, rfl, by decide +kernel, by decide +kernel⟩
theorem bi_need_stretch (T : Txt K mg) : Binds K T.need_stretch.fd pm_need_stretch [] := T.need_stretch.F.binds fun _ _ _ _ _ _ us hl => match us, hl with | [_, _], _ => rfl
theorem ok_need_stretch (T : Txt K mg) : FnOk P w K mg base CX0 4 T.need_stretch.f T.need_stretch.fd pm_need_stretch (spF K r_need_stretch) := by
  have nd := sc_need_stretch.nd
  refine data_F T.need_stretch.F sc_need_stretch fun cdv A outer s H E hr => ?_
  refine ⟨_, (pss_cons (ps_if (pt_not (kpt_tru (K := K) rfl (pe_call (ok_is_value T) (hr.mono (by decide)) rfl T.is_value.m T.is_value.F.kp (bi_is_value T) .nil pass0 (pa_cons (pv 0) pa_nil)) (by intro _; rfl))) (pss_one ps_never) pss_nil)
    (pss_cons (ps_if (PW.pt (pw_or (pt_not (kpt_tru (K := K) rfl (pe_call (ok_is_value T) (hr.mono (by decide)) rfl T.is_value.m T.is_value.F.kp (bi_is_value T) .nil pass0 (pa_cons (pv 1) pa_nil)) (by intro _; rfl))) (pw_or1 (pt_not (kpt_tru (K := K) rfl (pe_call (ok_is_less T) (hr.mono (by decide)) rfl T.is_less.m T.is_less.F.kp (bi_is_less T) .nil pass0 (pa_cons (pe_call (ok_value_of T) (hr.mono (by decide)) rfl T.value_of.m T.value_of.F.kp (bi_value_of T) .nil pass0 (pa_cons (pv 0) pa_nil)) (pa_cons (pe_call (ok_value_of T) (hr.mono (by decide)) rfl T.value_of.m T.value_of.F.kp (bi_value_of T) .nil pass0 (pa_cons (pv 1) pa_nil)) pa_nil))) (by intro _; rfl)))))) (pss_one ps_never) pss_nil)
    (pss_one (ps_ret (pe_tup (pa_cons (pe_call (ok_value_of T) (hr.mono (by decide)) rfl T.value_of.m T.value_of.F.kp (bi_value_of T) .nil pass0 (pa_cons (pv 0) pa_nil)) (pa_cons (pe_call (ok_value_of T) (hr.mono (by decide)) rfl T.value_of.m T.value_of.F.kp (bi_value_of T) .nil pass0 (pa_cons (pv 1) pa_nil)) pa_nil))))))), ?_⟩
  exact ((sk_seq (sk_if (tk_not (tk_truK (gk_call (ak_cons gk_var ak_nil)))) sk_never sk_next)
    (sk_seq (sk_if (tk_or (tk_not (tk_truK (gk_call (ak_cons gk_var ak_nil)))) (tk_not (tk_truK (gk_call (ak_cons (gk_call (ak_cons gk_var ak_nil)) (ak_cons (gk_call (ak_cons gk_var ak_nil)) ak_nil)))))) sk_never sk_next)
    (sk_ret (gk_tup (ak_cons (gk_call (ak_cons gk_var ak_nil)) (ak_cons (gk_call (ak_cons gk_var ak_nil)) ak_nil)))))) : SOk K _ b_need_stretch)
theorem sc_Rule_init : FnScope nm_Rule_init pm_Rule_init (defScope s_Rule_init) := ⟨rfl, rfl, rfl, by decide +kernel, rfl, by decide +kernel, by decide +kernel⟩
theorem bi_Rule_init_4 (T : Txt K mg) : ∃ ds, Vals (T.Rule_init.dvs.drop 1) ds ∧ Binds K T.Rule_init.fd pm_Rule_init ds := by
  have hl : T.Rule_init.dvs.length = 2 := (T.Rule_init.d fun _ => none).len
  refine T.Rule_init.F.binds1 4 1 (fun z => by rw [z] at hl; cases hl) (by rw [hl]; rfl) fun _ _ _ _ _ _ _ us its h1 h2 => ?_
  rw [hl] at h2
  match us, h1, its, h2 with | [_, _, _, _], _, [_, _], _ => exact ⟨_, rfl, rfl⟩
theorem bi_Rule_init_5 (T : Txt K mg) : ∃ ds, Vals (T.Rule_init.dvs.drop 2) ds ∧ Binds K T.Rule_init.fd pm_Rule_init ds := by
  have hl : T.Rule_init.dvs.length = 2 := (T.Rule_init.d fun _ => none).len
  refine T.Rule_init.F.binds1 5 2 (fun z => by rw [z] at hl; cases hl) (by rw [hl]; rfl) fun _ _ _ _ _ _ _ us its h1 h2 => ?_
  rw [hl] at h2
  match us, h1, its, h2 with | [_, _, _, _, _], _, [_, _], _ => exact ⟨_, rfl, rfl⟩
theorem ok_Rule_init (T : Txt K mg) : FnOk P w K mg base CX0 6 T.Rule_init.f T.Rule_init.fd pm_Rule_init (spB K r_Rule_init) := by
  have nd := sc_Rule_init.nd
  refine data_BD T.Rule_init.F sc_Rule_init fun cdv A outer s H E hr => ?_
  refine ⟨_, (pss_cons (ps_asg (pe_call (ok_need_stretch T) (hr.mono (by decide)) rfl T.need_stretch.m T.need_stretch.F.kp (bi_need_stretch T) .nil pass0 (pa_cons (pv 1) (pa_cons (pv 2) pa_nil))) (kpg_tup (K := K) (n := 2) rfl rfl (pgs_cons (kpg_fld (K := K) rfl (pv 0)) (pgs_cons (kpg_fld (K := K) rfl (pv 0)) pgs_nil))))
    (pss_cons (ps_if (PW.pt (pw_or (pt_not (kpt_tru (K := K) rfl (pe_call (ok_is_sequence T) (hr.mono (by decide)) rfl T.is_sequence.m T.is_sequence.F.kp (bi_is_sequence T) .nil pass0 (pa_cons (pv 3) pa_nil)) (by intro _; rfl))) (pw_or1 (pt_not (kpt_tru (K := K) rfl (pe_callB (kcr_all (K := K) rfl rfl) (by rfl) T.all (by decide +kernel) (pa_cons (pe_lc (own := [("one", 5)]) rfl nd (kpi_seq (K := K) rfl (pv 3)) (blkOk_by (N := nm_Rule_init) (sc := defScope s_Rule_init) (by decide +kernel)) (fun _ _ _ _ _ => (pg_name (i := 5) nd rfl (Or.inl rfl))) (fun _ _ _ _ _ => pts_nil) (fun _ _ _ _ _ => (pe_call (ok_is_weight T) (hr.mono (by decide)) rfl T.is_weight.m T.is_weight.F.kp (bi_is_weight T) .nil pass0 (pa_cons (pv 5) (pa_cons (kpe_fld (K := K) rfl (pv 0) rfl) (pa_cons (kpe_fld (K := K) rfl (pv 0) rfl) pa_nil)))))) pa_nil)) (by intro _; rfl)))))) (pss_one ps_never) pss_nil)
    (pss_cons (ps_if (PW.pt (pw_or (pt_not (kpt_tru (K := K) rfl (pe_call (ok_is_sequence T) (hr.mono (by decide)) rfl T.is_sequence.m T.is_sequence.F.kp (bi_is_sequence T) .nil pass0 (pa_cons (pv 4) pa_nil)) (by intro _; rfl))) (pw_or1 (pt_not (kpt_tru (K := K) rfl (pe_callB (kcr_all (K := K) rfl rfl) (by rfl) T.all (by decide +kernel) (pa_cons (pe_lc (own := [("one", 5)]) rfl nd (kpi_seq (K := K) rfl (pv 4)) (blkOk_by (N := nm_Rule_init) (sc := defScope s_Rule_init) (by decide +kernel)) (fun _ _ _ _ _ => (pg_name (i := 5) nd rfl (Or.inl rfl))) (fun _ _ _ _ _ => pts_nil) (fun _ _ _ _ _ => (pe_call (ok_is_share T) (hr.mono (by decide)) rfl T.is_share.m T.is_share.F.kp (bi_is_share T) .nil pass0 (pa_cons (pv 5) (pa_cons (kpe_fld (K := K) rfl (pv 0) rfl) (pa_cons (kpe_fld (K := K) rfl (pv 0) rfl) pa_nil)))))) pa_nil)) (by intro _; rfl)))))) (pss_one ps_never) pss_nil)
    (pss_cons (kps_fld (K := K) rfl (pv 0) (pe_call (ok_least_weights T) (hr.mono (by decide)) rfl T.least_weights.m T.least_weights.F.kp (bi_least_weights T) .nil pass0 (pa_cons (pv 3) pa_nil)) rfl)
    (pss_one (kps_fld (K := K) rfl (pv 0) (pe_call (ok_least_shares T) (hr.mono (by decide)) rfl T.least_shares.m T.least_shares.F.kp (bi_least_shares T) .nil pass0 (pa_cons (pv 4) pa_nil)) rfl)))))), ?_⟩
  exact ((sk_seq (sk_asgF T.Rule rfl rfl (gk_call (ak_cons gk_var (ak_cons gk_var ak_nil))))
    (sk_seq (sk_if (tk_or (tk_not (tk_truK (gk_call (ak_cons gk_var ak_nil)))) (tk_not (tk_truK (gk_cb cd_all (ak_cons (gk_lc (ik_seq gk_var) gt_name tk_yes (gk_call (ak_cons gk_var (ak_cons (gk_fldv T.Rule rfl) (ak_cons (gk_fldv T.Rule rfl) ak_nil)))) (by decide)) ak_nil))))) sk_never sk_next)
    (sk_seq (sk_if (tk_or (tk_not (tk_truK (gk_call (ak_cons gk_var ak_nil)))) (tk_not (tk_truK (gk_cb cd_all (ak_cons (gk_lc (ik_seq gk_var) gt_name tk_yes (gk_call (ak_cons gk_var (ak_cons (gk_fldv T.Rule rfl) (ak_cons (gk_fldv T.Rule rfl) ak_nil)))) (by decide)) ak_nil))))) sk_never sk_next)
    (sk_seq (sk_setf T.Rule rfl (gk_call (ak_cons gk_var ak_nil)))
    (sk_setf T.Rule rfl (gk_call (ak_cons gk_var ak_nil))))))) : SOk K _ b_Rule_init)
theorem sc_Rule_add : FnScope nm_Rule_add pm_Rule_add (defScope s_Rule_add) := ⟨rfl, rfl, rfl, by decide +kernel, rfl, by decide +kernel, by decide +kernel⟩
theorem bi_Rule_add (T : Txt K mg) : Binds K T.Rule_add.fd pm_Rule_add [] := T.Rule_add.F.binds fun _ _ _ _ _ _ us hl => match us, hl with | [_, _], _ => rfl
theorem ok_Rule_add (T : Txt K mg) : FnOk P w K mg base CX0 8 T.Rule_add.f T.Rule_add.fd pm_Rule_add (spF K r_Rule_add) := by
  have nd := sc_Rule_add.nd
  refine data_F T.Rule_add.F sc_Rule_add fun cdv A outer s H E hr => ?_
  refine ⟨_, (pss_cons (ps_if (pt_cmpR (kop_ne (K := K) rfl hr.units) (pe_tup (pa_cons (kpe_fld (K := K) rfl (pv 0) rfl) (pa_cons (kpe_fld (K := K) rfl (pv 0) rfl) pa_nil))) (pe_tup (pa_cons (kpe_fld (K := K) rfl (pv 1) rfl) (pa_cons (kpe_fld (K := K) rfl (pv 1) rfl) pa_nil))) (nomark _)) (pss_one ps_never) pss_nil)
    (pss_one (ps_ret (pe_make T.mk_Rule (ok_Rule_init T) (hr.mono (by decide)) rfl T.Rule.mg (bi_Rule_init_5 T).choose_spec.2 (bi_Rule_init_5 T).choose_spec.1 pass0 (pa_cons (kpe_fld (K := K) rfl (pv 0) rfl) (pa_cons (kpe_fld (K := K) rfl (pv 0) rfl) (pa_cons (pe_lst (kpa_star (K := K) rfl (kpe_fld (K := K) rfl (pv 0) rfl) (kpa_star (K := K) rfl (kpe_fld (K := K) rfl (pv 1) rfl) pa_nil))) (pa_cons (pe_lst (kpa_star (K := K) rfl (kpe_fld (K := K) rfl (pv 0) rfl) (kpa_star (K := K) rfl (kpe_fld (K := K) rfl (pv 1) rfl) pa_nil))) pa_nil)))))))), ?_⟩
  exact ((sk_seq (sk_if (tk_test (gk_op od_ne (gk_tup (ak_cons (gk_fld T.Rule rfl gk_var) (ak_cons (gk_fld T.Rule rfl gk_var) ak_nil))) (gk_tup (ak_cons (gk_fld T.Rule rfl gk_var) (ak_cons (gk_fld T.Rule rfl gk_var) ak_nil))))) sk_never sk_next)
    (sk_ret (gk_make T.Rule (fun H => (drs_drop (T.Rule_init.d H) 2)) (ak_cons (gk_fld T.Rule rfl gk_var) (ak_cons (gk_fld T.Rule rfl gk_var) (ak_cons (gk_lst (ak_star (gk_fld T.Rule rfl gk_var) (ak_star (gk_fld T.Rule rfl gk_var) ak_nil))) (ak_cons (gk_lst (ak_star (gk_fld T.Rule rfl gk_var) (ak_star (gk_fld T.Rule rfl gk_var) ak_nil))) ak_nil))))))) : SOk K _ b_Rule_add)
theorem sc_Rule_neg : FnScope nm_Rule_neg pm_Rule_neg (defScope s_Rule_neg) := ⟨rfl, rfl, rfl, by decide +kernel, rfl, by decide +kernel, by decide +kernel⟩
theorem bi_Rule_neg (T : Txt K mg) : Binds K T.Rule_neg.fd pm_Rule_neg [] := T.Rule_neg.F.binds fun _ _ _ _ _ _ us hl => match us, hl with | [_], _ => rfl
theorem ok_Rule_neg (T : Txt K mg) : FnOk P w K mg base CX0 8 T.Rule_neg.f T.Rule_neg.fd pm_Rule_neg (spF K r_Rule_neg) := by
  have nd := sc_Rule_neg.nd
  refine data_F T.Rule_neg.F sc_Rule_neg fun cdv A outer s H E hr => ?_
  refine ⟨_, (pss_cons (ps_setLc (i := 1) (own := [("point", 2), ("top", 3), ("low", 4)]) rfl nd rfl rfl (sw_true rfl rfl rfl (by decide +kernel)) (kpi_seq (K := K) rfl (kpe_fld (K := K) rfl (pv 0) rfl)) (blkOk_by (N := nm_Rule_neg) (sc := defScope s_Rule_neg) (by decide +kernel)) (fun _ _ _ _ _ => (kpg_tup (K := K) (n := 2) rfl rfl (pgs_cons (pg_name (i := 2) nd rfl (Or.inl rfl)) (pgs_cons (kpg_tup (K := K) (n := 2) rfl rfl (pgs_cons (pg_name (i := 3) nd rfl (Or.inl rfl)) (pgs_cons (pg_name (i := 4) nd rfl (Or.inl rfl)) pgs_nil))) pgs_nil)))) (fun _ _ _ _ _ => pts_nil) (fun _ _ _ _ _ => (pe_tup (pa_cons (pv 2) (pa_cons (pe_tup (pa_cons (pe_un un_neg (pv 3)) (pa_cons (pv 4) pa_nil))) pa_nil)))))
    (pss_one (ps_ret (pe_make T.mk_Rule (ok_Rule_init T) (hr.mono (by decide)) rfl T.Rule.mg (bi_Rule_init_5 T).choose_spec.2 (bi_Rule_init_5 T).choose_spec.1 pass0 (pa_cons (kpe_fld (K := K) rfl (pv 0) rfl) (pa_cons (kpe_fld (K := K) rfl (pv 0) rfl) (pa_cons (pv 1) (pa_cons (pe_lc (own := [("start", 5), ("end", 6), ("top", 3), ("low", 4)]) rfl nd (kpi_seq (K := K) rfl (kpe_fld (K := K) rfl (pv 0) rfl)) (blkOk_by (N := nm_Rule_neg) (sc := defScope s_Rule_neg) (by decide +kernel)) (fun _ _ _ _ _ => (kpg_tup (K := K) (n := 3) rfl rfl (pgs_cons (pg_name (i := 5) nd rfl (Or.inl rfl)) (pgs_cons (pg_name (i := 6) nd rfl (Or.inl rfl)) (pgs_cons (kpg_tup (K := K) (n := 2) rfl rfl (pgs_cons (pg_name (i := 3) nd rfl (Or.inl rfl)) (pgs_cons (pg_name (i := 4) nd rfl (Or.inl rfl)) pgs_nil))) pgs_nil))))) (fun _ _ _ _ _ => pts_nil) (fun _ _ _ _ _ => (pe_tup (pa_cons (pv 5) (pa_cons (pv 6) (pa_cons (pe_tup (pa_cons (pe_un un_neg (pv 3)) (pa_cons (pv 4) pa_nil))) pa_nil)))))) pa_nil)))))))), ?_⟩
  exact ((sk_seq (sk_set (gk_lc (ik_seq (gk_fld T.Rule rfl gk_var)) (gt_tup (gts_cons gt_name (gts_cons (gt_tup (gts_cons gt_name (gts_cons gt_name gts_nil))) gts_nil))) tk_yes (gk_tup (ak_cons gk_var (ak_cons (gk_tup (ak_cons (gk_un ud_neg gk_var) (ak_cons gk_var ak_nil))) ak_nil))) (by decide)))
    (sk_ret (gk_make T.Rule (fun H => (drs_drop (T.Rule_init.d H) 2)) (ak_cons (gk_fld T.Rule rfl gk_var) (ak_cons (gk_fld T.Rule rfl gk_var) (ak_cons gk_var (ak_cons (gk_lc (ik_seq (gk_fld T.Rule rfl gk_var)) (gt_tup (gts_cons gt_name (gts_cons gt_name (gts_cons (gt_tup (gts_cons gt_name (gts_cons gt_name gts_nil))) gts_nil)))) tk_yes (gk_tup (ak_cons gk_var (ak_cons gk_var (ak_cons (gk_tup (ak_cons (gk_un ud_neg gk_var) (ak_cons gk_var ak_nil))) ak_nil)))) (by decide)) ak_nil))))))) : SOk K _ b_Rule_neg)
theorem sc_Rule_sub : FnScope nm_Rule_sub pm_Rule_sub (defScope s_Rule_sub) := ⟨rfl, rfl, rfl, by decide +kernel, rfl, by decide +kernel, by decide +kernel⟩
theorem bi_Rule_sub (T : Txt K mg) : Binds K T.Rule_sub.fd pm_Rule_sub [] := T.Rule_sub.F.binds fun _ _ _ _ _ _ us hl => match us, hl with | [_, _], _ => rfl
theorem ok_Rule_sub (T : Txt K mg) : FnOk P w K mg base CX0 9 T.Rule_sub.f T.Rule_sub.fd pm_Rule_sub (spF K r_Rule_sub) := by
  have nd := sc_Rule_sub.nd
  refine data_F T.Rule_sub.F sc_Rule_sub fun cdv A outer s H E hr => ?_
  refine ⟨_, (pss_one (ps_ret (pe_op (OpR.or (kop_addB (K := K) rfl) (op_bin (E := E0) T.sf_Rule T.Rule_add.m.at_ T.Rule_add.m.fn (ok_Rule_add T) (hr.mono (by decide)) (bi_Rule_add T) pass0)) (pv 0) (pe_un (un_or un_neg (un_own (E := E0) T.Rule_neg.m.at_ T.Rule_neg.m.fn (ok_Rule_neg T) (hr.mono (by decide)) (bi_Rule_neg T) pass0)) (pv 1))))), ?_⟩
  exact ((sk_ret (gk_op (od_own T.Rule.at_ od_addB) gk_var (gk_un (ud_own T.Rule.at_ ud_neg) gk_var))) : SOk K _ b_Rule_sub)
theorem sc_multiplied : FnScope nm_multiplied pm_multiplied (defScope s_multiplied) := ⟨rfl, rfl, rfl, by decide +kernel, rfl, by decide +kernel, by decide +kernel⟩
theorem bi_multiplied (T : Txt K mg) : Binds K T.multiplied.fd pm_multiplied [] := T.multiplied.F.binds fun _ _ _ _ _ _ us hl => match us, hl with | [_, _], _ => rfl
theorem ok0_multiplied (T : Txt K mg) : FnOk P w K mg base CX0 3 T.multiplied.f T.multiplied.fd pm_multiplied (spF K r0_multiplied) := by
  have nd := sc_multiplied.nd
  refine data_F T.multiplied.F sc_multiplied fun cdv A outer s H E hr => ?_
  refine ⟨_, (pss_one (ps_ret (pe_call (ok_lowest T) (hr.mono (by decide)) rfl T.lowest.m T.lowest.F.kp (bi_lowest T) .nil pass0 (pa_cons (pe_op op_mulA (pe_ix (kix (K := K) rfl) (pv 0) pe_int (fun _ _ => rfl)) (pe_ix (kix (K := K) rfl) (pv 1) pe_int (fun _ _ => rfl))) (pa_cons (pe_op op_mulA (pe_ix (kix (K := K) rfl) (pv 0) pe_int (fun _ _ => rfl)) (pe_ix (kix (K := K) rfl) (pv 1) pe_int (fun _ _ => rfl))) pa_nil))))), ?_⟩
  exact ((sk_ret (gk_call (ak_cons (gk_op od_mul (gk_op od_ix gk_var gk_int) (gk_op od_ix gk_var gk_int)) (ak_cons (gk_op od_mul (gk_op od_ix gk_var gk_int) (gk_op od_ix gk_var gk_int)) ak_nil)))) : SOk K _ b_multiplied)
theorem ok_multiplied (T : Txt K mg) : FnOk P w K mg base CX0 3 T.multiplied.f T.multiplied.fd pm_multiplied (spF K r_multiplied) := imp_F (ok0_multiplied T) le_multiplied
theorem sc_Rule_scaled : FnScope nm_Rule_scaled pm_Rule_scaled (defScope s_Rule_scaled) := ⟨rfl, rfl, rfl, by decide +kernel, rfl, by decide +kernel, by decide +kernel⟩
theorem bi_Rule_scaled (T : Txt K mg) : Binds K T.Rule_scaled.fd pm_Rule_scaled [] := T.Rule_scaled.F.binds fun _ _ _ _ _ _ us hl => match us, hl with | [_, _], _ => rfl
theorem ok_Rule_scaled (T : Txt K mg) : FnOk P w K mg base CX0 8 T.Rule_scaled.f T.Rule_scaled.fd pm_Rule_scaled (spF K r_Rule_scaled) := by
  have nd := sc_Rule_scaled.nd
  refine data_F T.Rule_scaled.F sc_Rule_scaled fun cdv A outer s H E hr => ?_
  refine ⟨_, (pss_cons (ps_set (i := 2) nd rfl (Or.inr rfl) (pe_call (ok_value_of T) (hr.mono (by decide)) rfl T.value_of.m T.value_of.F.kp (bi_value_of T) .nil pass0 (pa_cons (pv 1) pa_nil)))
    (pss_cons (ps_setLc (i := 3) (own := [("point", 4), ("weight", 5)]) rfl nd rfl rfl (sw_true rfl rfl rfl (by decide +kernel)) (kpi_seq (K := K) rfl (kpe_fld (K := K) rfl (pv 0) rfl)) (blkOk_by (N := nm_Rule_scaled) (sc := defScope s_Rule_scaled) (by decide +kernel)) (fun _ _ _ _ _ => (kpg_tup (K := K) (n := 2) rfl rfl (pgs_cons (pg_name (i := 4) nd rfl (Or.inl rfl)) (pgs_cons (pg_name (i := 5) nd rfl (Or.inl rfl)) pgs_nil)))) (fun _ _ _ _ _ => pts_nil) (fun _ _ _ _ _ => (pe_tup (pa_cons (pv 4) (pa_cons (pe_call (ok_multiplied T) (hr.mono (by decide)) rfl T.multiplied.m T.multiplied.F.kp (bi_multiplied T) .nil pass0 (pa_cons (pv 5) (pa_cons (pv 2) pa_nil))) pa_nil)))))
    (pss_one (ps_ret (pe_make T.mk_Rule (ok_Rule_init T) (hr.mono (by decide)) rfl T.Rule.mg (bi_Rule_init_5 T).choose_spec.2 (bi_Rule_init_5 T).choose_spec.1 pass0 (pa_cons (kpe_fld (K := K) rfl (pv 0) rfl) (pa_cons (kpe_fld (K := K) rfl (pv 0) rfl) (pa_cons (pv 3) (pa_cons (pe_lc (own := [("part", 6)]) rfl nd (kpi_seq (K := K) rfl (kpe_fld (K := K) rfl (pv 0) rfl)) (blkOk_by (N := nm_Rule_scaled) (sc := defScope s_Rule_scaled) (by decide +kernel)) (fun _ _ _ _ _ => (pg_name (i := 6) nd rfl (Or.inl rfl))) (fun _ _ _ _ _ => pts_nil) (fun _ _ _ _ _ => (pe_tup (kpa_star (K := K) rfl (pe_slice (ksl_B (K := K) rfl) (pv 6) po_none (po_some pe_int)) (pa_cons (pe_call (ok_multiplied T) (hr.mono (by decide)) rfl T.multiplied.m T.multiplied.F.kp (bi_multiplied T) .nil pass0 (pa_cons (pe_ix (kix (K := K) rfl) (pv 6) pe_int (fun _ _ => rfl)) (pa_cons (pv 2) pa_nil))) pa_nil))))) pa_nil))))))))), ?_⟩
  exact ((sk_seq (sk_set (gk_call (ak_cons gk_var ak_nil)))
    (sk_seq (sk_set (gk_lc (ik_seq (gk_fld T.Rule rfl gk_var)) (gt_tup (gts_cons gt_name (gts_cons gt_name gts_nil))) tk_yes (gk_tup (ak_cons gk_var (ak_cons (gk_call (ak_cons gk_var (ak_cons gk_var ak_nil))) ak_nil))) (by decide)))
    (sk_ret (gk_make T.Rule (fun H => (drs_drop (T.Rule_init.d H) 2)) (ak_cons (gk_fld T.Rule rfl gk_var) (ak_cons (gk_fld T.Rule rfl gk_var) (ak_cons gk_var (ak_cons (gk_lc (ik_seq (gk_fld T.Rule rfl gk_var)) gt_name tk_yes (gk_tup (ak_star (gk_sl sd_B gk_var pk_none (pk_some gk_int)) (ak_cons (gk_call (ak_cons (gk_op od_ix gk_var gk_int) (ak_cons gk_var ak_nil))) ak_nil))) (by decide)) ak_nil)))))))) : SOk K _ b_Rule_scaled)
theorem sc_w_choose : FnScope nm_w_choose pm_w_choose (defScope s_w_choose) := ⟨rfl, rfl, rfl, by decide +kernel, rfl, by decide +kernel, by decide +kernel⟩
theorem bi_w_choose (T : Txt K mg) : Binds K T.w_choose.fd pm_w_choose [] := T.w_choose.F.binds fun _ _ _ _ _ _ us hl => match us, hl with | [_, _], _ => rfl
theorem ok_w_choose (T : Txt K mg) : FnOk P w K mg base CX0 1 T.w_choose.f T.w_choose.fd pm_w_choose (spB K r_w_choose) := by
  have nd := sc_w_choose.nd
  refine data_B T.w_choose.F sc_w_choose fun cdv A outer s H E hr => ?_
  refine ⟨_, (pss_cons (ps_if (pt_cmpR op_gt (pe_ix (kix (K := K) rfl) (pv 0) pe_int (fun _ _ => rfl)) pe_int (nomark _)) (pss_cons (ps_set (i := 2) nd rfl (Or.inl rfl) (pe_op op_modA (pe_callTy cr_int (by rfl) T.int (by decide +kernel) (pa_cons (pe_ix (kix (K := K) rfl) (pv 0) pe_int (fun _ _ => rfl)) pa_nil)) (pv 1)))
    (pss_cons (ps_asg (pe_op op_fdivA (pe_ix (kix (K := K) rfl) (pv 0) pe_int (fun _ _ => rfl)) (pv 1)) (pg_sub (pv 0) pe_int set_list))
    (pss_one (ps_ret (pv 2))))) pss_nil)
    (pss_cons (ps_set (i := 3) nd rfl (Or.inl rfl) (pe_op op_modA (pe_callTy cr_int (by rfl) T.int (by decide +kernel) (pa_cons (pe_op (kop_addB (K := K) rfl) (pe_op op_mulA (pe_ix (kix (K := K) rfl) (pv 0) pe_int (fun _ _ => rfl)) pe_int) pe_int) pa_nil)) pe_int))
    (pss_cons (ps_asg (pe_op (kop_addB (K := K) rfl) (pe_op op_modA (pe_callTy cr_int (by rfl) T.int (by decide +kernel) (pa_cons (pe_op (kop_addB (K := K) rfl) (pe_op op_mulA (pv 3) pe_int) pe_int) pa_nil)) pe_int) pe_int) (pg_sub (pv 0) pe_int set_list))
    (pss_one (ps_ret (pe_op op_modA (pe_callTy cr_int (by rfl) T.int (by decide +kernel) (pa_cons (pe_op op_fdivA (pe_op (kop_addB (K := K) rfl) (pe_op op_mulA (pv 3) pe_int) (pe_ix (kix (K := K) rfl) (pv 0) pe_int (fun _ _ => rfl))) pe_int) pa_nil)) (pv 1))))))), ?_⟩
  exact ((sk_seq (sk_if (tk_test (gk_op od_gt (gk_by (gk_ixv gk_int) (gk_op od_ix gk_var gk_int)) gk_int)) (sk_seq (sk_set (gk_op od_mod (gk_cb cd_int (ak_cons (gk_by (gk_ixv gk_int) (gk_op od_ix gk_var gk_int)) ak_nil)) gk_var))
    (sk_seq (sk_put (gk_op od_fdiv (gk_by (gk_ixv gk_int) (gk_op od_ix gk_var gk_int)) gk_var) gk_int)
    (sk_ret gk_mv))) sk_next)
    (sk_seq (sk_set (gk_op od_mod (gk_cb cd_int (ak_cons (gk_op od_addB (gk_op od_mul (gk_by (gk_ixv gk_int) (gk_op od_ix gk_var gk_int)) gk_int) gk_int) ak_nil)) gk_int))
    (sk_seq (sk_put (gk_op od_addB (gk_op od_mod (gk_cb cd_int (ak_cons (gk_op od_addB (gk_op od_mul gk_var gk_int) gk_int) ak_nil)) gk_int) gk_int) gk_int)
    (sk_ret (gk_op od_mod (gk_cb cd_int (ak_cons (gk_op od_fdiv (gk_op od_addB (gk_op od_mul gk_var gk_int) (gk_by (gk_ixv gk_int) (gk_op od_ix gk_var gk_int))) gk_int) ak_nil)) gk_var))))) : SOk K _ b_w_choose)
theorem sc_w_seed : FnScope nm_w_seed pm_w_seed (defScope s_w_seed) := ⟨rfl, rfl, rfl, by decide +kernel, rfl, by decide +kernel, by decide +kernel⟩
theorem bi_w_seed (T : Txt K mg) : Binds K T.w_seed.fd pm_w_seed [] := T.w_seed.F.binds fun _ _ _ _ _ _ us hl => match us, hl with | [_, _], _ => rfl
theorem ok_w_seed (T : Txt K mg) : FnOk P w K mg base CX0 1 T.w_seed.f T.w_seed.fd pm_w_seed (spF K r_w_seed) := by
  have nd := sc_w_seed.nd
  refine data_F T.w_seed.F sc_w_seed fun cdv A outer s H E hr => ?_
  refine ⟨_, (pss_cons (ps_set (i := 2) nd rfl (Or.inl rfl) (pe_op (kop_addB (K := K) rfl) (pe_op op_mulA pe_int (pv 1)) pe_int))
    (pss_cons (ps_if (pt_cmpR op_lt (pv 1) (pe_callB (kcr_len (K := K) rfl) (by rfl) T.len (by decide +kernel) (pa_cons (pv 0) pa_nil)) (nomark _)) (pss_one (ps_set (i := 2) nd rfl (Or.inl rfl) (pe_callB cr_abs (by rfl) T.abs (by decide +kernel) (pa_cons (pe_ix (kix (K := K) rfl) (pv 0) (pv 1) (fun _ _ => rfl)) pa_nil)))) (pss_one (ps_if (pt_cmpR op_gt (pe_callB (kcr_len (K := K) rfl) (by rfl) T.len (by decide +kernel) (pa_cons (pv 0) pa_nil)) pe_int (nomark _)) (pss_one (ps_set (i := 2) nd rfl (Or.inl rfl) (pe_op (kop_addB (K := K) rfl) (pv 2) (pe_op op_mulA (pe_op op_modA (pe_callTy cr_int (by rfl) T.int (by decide +kernel) (pa_cons (pe_callB cr_abs (by rfl) T.abs (by decide +kernel) (pa_cons (pe_ix (kix (K := K) rfl) (pv 0) (pe_op op_modA (pe_callTy cr_int (by rfl) T.int (by decide +kernel) (pa_cons (pv 1) pa_nil)) (pe_callB (kcr_len (K := K) rfl) (by rfl) T.len (by decide +kernel) (pa_cons (pv 0) pa_nil))) (fun _ _ => rfl)) pa_nil)) pa_nil)) pe_int) pe_int)))) pss_nil)))
    (pss_cons (ps_set (i := 3) nd rfl (Or.inl rfl) (pe_ifExp (pt_cmpR op_ge (pv 2) (pe_op op_powA pe_int pe_int) (nomark _)) (pv 2) pe_int))
    (pss_one (ps_ret (pe_lst (pa_cons (pv 3) (pa_cons (pe_op (kop_addB (K := K) rfl) (pe_op op_modA (pe_callTy cr_int (by rfl) T.int (by decide +kernel) (pa_cons (pe_op (kop_addB (K := K) rfl) (pe_op op_mulA (pe_op op_modA (pe_callTy cr_int (by rfl) T.int (by decide +kernel) (pa_cons (pv 2) pa_nil)) pe_int) pe_int) (pe_op op_mulA pe_int (pv 1))) pa_nil)) pe_int) pe_int) pa_nil)))))))), ?_⟩
  exact ((sk_seq (sk_set (gk_op od_addB (gk_op od_mul gk_int gk_var) gk_int))
    (sk_seq (sk_if (tk_test (gk_op od_lt gk_var (gk_cb cd_len (ak_cons gk_var ak_nil)))) (sk_set (gk_cb cd_abs (ak_cons (gk_op od_ix gk_var gk_var) ak_nil))) (sk_if (tk_test (gk_op od_gt (gk_cb cd_len (ak_cons gk_var ak_nil)) gk_int)) (sk_set (gk_op od_addB gk_var (gk_op od_mul (gk_op od_mod (gk_cb cd_int (ak_cons (gk_cb cd_abs (ak_cons (gk_op od_ix gk_var (gk_op od_mod (gk_cb cd_int (ak_cons gk_var ak_nil)) (gk_cb cd_len (ak_cons gk_var ak_nil)))) ak_nil)) ak_nil)) gk_int) gk_int))) sk_next))
    (sk_seq (sk_set (gk_if (tk_test (gk_op od_ge gk_var (gk_op od_pow gk_int gk_int))) gk_var gk_int))
    (sk_ret (gk_lst (ak_cons gk_var (ak_cons (gk_op od_addB (gk_op od_mod (gk_cb cd_int (ak_cons (gk_op od_addB (gk_op od_mul (gk_op od_mod (gk_cb cd_int (ak_cons gk_var ak_nil)) gk_int) gk_int) (gk_op od_mul gk_int gk_var)) ak_nil)) gk_int) gk_int) ak_nil))))))) : SOk K _ b_w_seed)
theorem sc_area : FnScope nm_area pm_area (defScope s_area) := ⟨rfl, rfl, rfl, by decide +kernel, rfl, by decide +kernel, by decide +kernel⟩
theorem bi_area (T : Txt K mg) : Binds K T.area.fd pm_area [] := T.area.F.binds fun _ _ _ _ _ _ us hl => match us, hl with | [_, _], _ => rfl
theorem ok_area (T : Txt K mg) : FnOk P w K mg base CX0 8 T.area.f T.area.fd pm_area (spF K r_area) := by
  have nd := sc_area.nd
  refine data_F T.area.F sc_area fun cdv A outer s H E hr => ?_
  refine ⟨_, (pss_cons (ps_asg (pe_call (ok_need_stretch T) (hr.mono (by decide)) rfl T.need_stretch.m T.need_stretch.F.kp (bi_need_stretch T) .nil pass0 (pa_cons (pv 0) (pa_cons (pv 1) pa_nil))) (kpg_tup (K := K) (n := 2) rfl rfl (pgs_cons (pg_name (i := 2) nd rfl (Or.inl rfl)) (pgs_cons (pg_name (i := 3) nd rfl (Or.inl rfl)) pgs_nil))))
    (pss_one (ps_ret (pe_make T.mk_Rule (ok_Rule_init T) (hr.mono (by decide)) rfl T.Rule.mg (bi_Rule_init_5 T).choose_spec.2 (bi_Rule_init_5 T).choose_spec.1 pass0 (pa_cons (pv 2) (pa_cons (pv 3) (pa_cons (pe_lst pa_nil) (pa_cons (pe_lst (pa_cons (pe_tup (pa_cons (pv 2) (pa_cons (pv 3) (pa_cons pe_int pa_nil)))) pa_nil)) pa_nil)))))))), ?_⟩
  exact ((sk_seq (sk_asg (gk_call (ak_cons gk_var (ak_cons gk_var ak_nil))) (gt_tup (gts_cons gt_name (gts_cons gt_name gts_nil))))
    (sk_ret (gk_make T.Rule (fun H => (drs_drop (T.Rule_init.d H) 2)) (ak_cons gk_var (ak_cons gk_var (ak_cons (gk_lst ak_nil) (ak_cons (gk_lst (ak_cons (gk_tup (ak_cons gk_var (ak_cons gk_var (ak_cons gk_int ak_nil)))) ak_nil)) ak_nil))))))) : SOk K _ b_area)
theorem sc_trimmed : FnScope nm_trimmed pm_trimmed (defScope s_trimmed) := ⟨rfl, rfl, rfl, by decide +kernel, rfl, by decide +kernel, by decide +kernel⟩
theorem bi_trimmed (T : Txt K mg) : Binds K T.trimmed.fd pm_trimmed [] := T.trimmed.F.binds fun _ _ _ _ _ _ us hl => match us, hl with | [_], _ => rfl
theorem ok_trimmed (T : Txt K mg) : FnOk P w K mg base CX0 1 T.trimmed.f T.trimmed.fd pm_trimmed (spF K r_trimmed) := by
  have nd := sc_trimmed.nd
  refine data_F T.trimmed.F sc_trimmed fun cdv A outer s H E hr => ?_
  refine ⟨_, (pss_cons (ps_set (i := 1) nd rfl (Or.inl rfl) (pe_callB (kcr_len (K := K) rfl) (by rfl) T.len (by decide +kernel) (pa_cons (pv 0) pa_nil)))
    (pss_cons (ps_while PassesOwn.never (PW.pt (pw_and (pt_cmpR op_gt (pv 1) pe_int (nomark _)) (pw_and1 (pt_cmpR (kop_eq (K := K) rfl hr.units) (pe_ix (kix (K := K) rfl) (pv 0) (pe_op op_subA (pv 1) pe_int) (fun _ _ => rfl)) pe_int (nomark _))))) (pss_one (ps_aug (i := 1) nd rfl (Or.inl rfl) pe_int ip_sub)))
    (pss_one (ps_ret (pe_callTy (kcr_tuple (K := K) rfl) (by rfl) T.tuple (by decide +kernel) (pa_cons (pe_slice (ksl_B (K := K) rfl) (pv 0) po_none (po_some (pv 1))) pa_nil)))))), ?_⟩
  exact ((sk_seq (sk_set (gk_cb cd_len (ak_cons gk_var ak_nil)))
    (sk_seq (sk_while (fun _ => 1000) (tk_and (tk_test (gk_op od_gt gk_var gk_int)) (tk_test (gk_op od_eq (gk_op od_ix gk_var (gk_op od_sub gk_var gk_int)) gk_int))) ((sk_aug od_ipsub gk_int) : SOk K _ b_trimmed_1))
    (sk_ret (gk_cb cd_tuple (ak_cons (gk_sl sd_B gk_var pk_none (pk_some gk_var)) ak_nil))))) : SOk K _ b_trimmed)
theorem sc_derived : FnScope nm_derived pm_derived (defScope s_derived) := ⟨rfl, rfl, rfl, by decide +kernel, rfl, by decide +kernel, by decide +kernel⟩
theorem bi_derived (T : Txt K mg) : Binds K T.derived.fd pm_derived [] := T.derived.F.binds fun _ _ _ _ _ _ us hl => match us, hl with | [_], _ => rfl
theorem ok_derived (T : Txt K mg) : FnOk P w K mg base CX0 2 T.derived.f T.derived.fd pm_derived (spF K r_derived) := by
  have nd := sc_derived.nd
  refine data_F T.derived.F sc_derived fun cdv A outer s H E hr => ?_
  refine ⟨_, (pss_one (ps_ret (pe_call (ok_trimmed T) (hr.mono (by decide)) rfl T.trimmed.m T.trimmed.F.kp (bi_trimmed T) .nil pass0 (pa_cons (pe_slice (ksl_B (K := K) rfl) (pe_lc (own := [("at", 1), ("count", 2)]) rfl nd (kpi_enumA (K := K) rfl rfl T.enumerate (pa_cons (pv 0) pa_nil)) (blkOk_by (N := nm_derived) (sc := defScope s_derived) (by decide +kernel)) (fun _ _ _ _ _ => (kpg_tup (K := K) (n := 2) rfl rfl (pgs_cons (pg_name (i := 1) nd rfl (Or.inl rfl)) (pgs_cons (pg_name (i := 2) nd rfl (Or.inl rfl)) pgs_nil)))) (fun _ _ _ _ _ => pts_nil) (fun _ _ _ _ _ => (pe_op op_mulA (pv 1) (pv 2)))) (po_some pe_int) po_none) pa_nil)))), ?_⟩
  exact ((sk_ret (gk_call (ak_cons (gk_sl sd_B (gk_lc (ik_enumA (ak_cons gk_var ak_nil)) (gt_tup (gts_cons gt_name (gts_cons gt_name gts_nil))) tk_yes (gk_op od_mul gk_var gk_var) (by decide)) (pk_some gk_int) pk_none) ak_nil))) : SOk K _ b_derived)
theorem sc_primitive : FnScope nm_primitive pm_primitive (defScope s_primitive) := ⟨rfl, rfl, rfl, by decide +kernel, rfl, by decide +kernel, by decide +kernel⟩
theorem bi_primitive (T : Txt K mg) : Binds K T.primitive.fd pm_primitive [] := T.primitive.F.binds fun _ _ _ _ _ _ us hl => match us, hl with | [_], _ => rfl
theorem ok_primitive (T : Txt K mg) : FnOk P w K mg base CX0 2 T.primitive.f T.primitive.fd pm_primitive (spF K r_primitive) := by
  have nd := sc_primitive.nd
  refine data_F T.primitive.F sc_primitive fun cdv A outer s H E hr => ?_
  refine ⟨_, (pss_cons (ps_set (i := 1) nd rfl (Or.inr rfl) pe_int)
    (pss_cons (ps_for PassesOwn.never rfl (kpi_seq (K := K) rfl (pv 0)) (pg_name (i := 2) nd rfl (Or.inl rfl)) (pss_one (ps_set (i := 1) nd rfl (Or.inr rfl) (pe_call (ok_divisor T) (hr.mono (by decide)) rfl T.divisor.m T.divisor.F.kp (bi_divisor T) .nil pass0 (pa_cons (pv 1) (pa_cons (pv 2) pa_nil))))))
    (pss_one (ps_ret (pe_ifExp (pt_cmpR op_lt (pv 1) pe_int (nomark _)) (pv 0) (pe_callTy (kcr_tuple (K := K) rfl) (by rfl) T.tuple (by decide +kernel) (pa_cons (pe_lc (own := [("count", 2)]) rfl nd (kpi_seq (K := K) rfl (pv 0)) (blkOk_by (N := nm_primitive) (sc := defScope s_primitive) (by decide +kernel)) (fun _ _ _ _ _ => (pg_name (i := 2) nd rfl (Or.inl rfl))) (fun _ _ _ _ _ => pts_nil) (fun _ _ _ _ _ => (pe_op op_fdivA (pv 2) (pv 1)))) pa_nil))))))), ?_⟩
  exact ((sk_seq (sk_set gk_int)
    (sk_seq (sk_for (ik_seq gk_var) gt_name ((sk_set (gk_call (ak_cons gk_var (ak_cons gk_var ak_nil)))) : SOk K _ b_primitive_1))
    (sk_ret (gk_if (tk_test (gk_op od_lt gk_var gk_int)) gk_var (gk_cb cd_tuple (ak_cons (gk_lc (ik_seq gk_var) gt_name tk_yes (gk_op od_fdiv gk_var gk_var) (by decide)) ak_nil)))))) : SOk K _ b_primitive)
theorem sc_plus : FnScope nm_plus pm_plus (defScope s_plus) := ⟨rfl, rfl, rfl, by decide +kernel, rfl, by decide +kernel, by decide +kernel⟩
theorem bi_plus_2 (T : Txt K mg) : ∃ ds, Vals (T.plus.dvs.drop 0) ds ∧ Binds K T.plus.fd pm_plus ds := by
  have hl : T.plus.dvs.length = 1 := (T.plus.d fun _ => none).len
  refine T.plus.F.binds1 2 0 (fun z => by rw [z] at hl; cases hl) (by rw [hl]; rfl) fun _ _ _ _ _ _ _ us its h1 h2 => ?_
  rw [hl] at h2
  match us, h1, its, h2 with | [_, _], _, [_], _ => exact ⟨_, rfl, rfl⟩
theorem bi_plus_3 (T : Txt K mg) : ∃ ds, Vals (T.plus.dvs.drop 1) ds ∧ Binds K T.plus.fd pm_plus ds := by
  have hl : T.plus.dvs.length = 1 := (T.plus.d fun _ => none).len
  refine T.plus.F.binds1 3 1 (fun z => by rw [z] at hl; cases hl) (by rw [hl]; rfl) fun _ _ _ _ _ _ _ us its h1 h2 => ?_
  rw [hl] at h2
  match us, h1, its, h2 with | [_, _, _], _, [_], _ => exact ⟨_, rfl, rfl⟩
theorem ok_plus (T : Txt K mg) : FnOk P w K mg base CX0 2 T.plus.f T.plus.fd pm_plus (spF K r_plus) := by
  have nd := sc_plus.nd
  refine data_FD T.plus.F sc_plus fun cdv A outer s H E hr => ?_
  refine ⟨_, (pss_cons (ps_set (i := 3) nd rfl (Or.inl rfl) (pe_callB (cr_max2 rfl) (by rfl) T.max (by decide +kernel) (pa_cons (pe_callB (kcr_len (K := K) rfl) (by rfl) T.len (by decide +kernel) (pa_cons (pv 0) pa_nil)) (pa_cons (pe_callB (kcr_len (K := K) rfl) (by rfl) T.len (by decide +kernel) (pa_cons (pv 1) pa_nil)) pa_nil))))
    (pss_cons (ps_set (i := 4) nd rfl (Or.inl rfl) (pe_lst pa_nil))
    (pss_cons (ps_for PassesOwn.never rfl (pi_range1 rfl T.range (pa_cons (pv 3) pa_nil)) (pg_name (i := 5) nd rfl (Or.inl rfl)) (pss_cons (ps_set (i := 6) nd rfl (Or.inl rfl) (pe_ifExp (pt_cmpR op_lt (pv 5) (pe_callB (kcr_len (K := K) rfl) (by rfl) T.len (by decide +kernel) (pa_cons (pv 0) pa_nil)) (nomark _)) (pe_ix (kix (K := K) rfl) (pv 0) (pv 5) (fun _ _ => rfl)) pe_int))
    (pss_one (ps_expr (kpe_app (K := K) rfl (pv 4) (pe_op (kop_addB (K := K) rfl) (pv 6) (pe_ifExp (pt_cmpR op_lt (pv 5) (pe_callB (kcr_len (K := K) rfl) (by rfl) T.len (by decide +kernel) (pa_cons (pv 1) pa_nil)) (nomark _)) (pe_op op_mulA (pv 2) (pe_ix (kix (K := K) rfl) (pv 1) (pv 5) (fun _ _ => rfl))) pe_int)))))))
    (pss_one (ps_ret (pe_call (ok_trimmed T) (hr.mono (by decide)) rfl T.trimmed.m T.trimmed.F.kp (bi_trimmed T) .nil pass0 (pa_cons (pv 4) pa_nil))))))), ?_⟩
  exact ((sk_seq (sk_set (gk_cb cd_max2 (ak_cons (gk_cb cd_len (ak_cons gk_var ak_nil)) (ak_cons (gk_cb cd_len (ak_cons gk_var ak_nil)) ak_nil))))
    (sk_seq (sk_set (gk_lst ak_nil))
    (sk_seq (sk_for (ik_range1 (ak_cons gk_var ak_nil)) gt_name ((sk_seq (sk_set (gk_if (tk_test (gk_op od_lt gk_var (gk_cb cd_len (ak_cons gk_var ak_nil)))) (gk_op od_ix gk_var gk_var) gk_int))
    (sk_app (gk_op od_addB gk_var (gk_if (tk_test (gk_op od_lt gk_var (gk_cb cd_len (ak_cons gk_var ak_nil)))) (gk_op od_mul gk_var (gk_op od_ix gk_var gk_var)) gk_int)))) : SOk K _ b_plus_1))
    (sk_ret (gk_call (ak_cons gk_var ak_nil)))))) : SOk K _ b_plus)
theorem sc_product : FnScope nm_product pm_product (defScope s_product) := ⟨rfl, rfl, rfl, by decide +kernel, rfl, by decide +kernel, by decide +kernel⟩
theorem bi_product (T : Txt K mg) : Binds K T.product.fd pm_product [] := T.product.F.binds fun _ _ _ _ _ _ us hl => match us, hl with | [_, _], _ => rfl
theorem ok_product (T : Txt K mg) : FnOk P w K mg base CX0 2 T.product.f T.product.fd pm_product (spF K r_product) := by
  have nd := sc_product.nd
  refine data_F T.product.F sc_product fun cdv A outer s H E hr => ?_
  refine ⟨_, (pss_cons (ps_if (PW.pt (pw_or (pt_cmpR (kop_eq (K := K) rfl hr.units) (pv 0) (pe_tup pa_nil) (nomark _)) (pw_or1 (pt_cmpR (kop_eq (K := K) rfl hr.units) (pv 1) (pe_tup pa_nil) (nomark _))))) (pss_one (ps_ret (pe_tup pa_nil))) pss_nil)
    (pss_cons (ps_setLc (i := 2) (own := [("place", 7)]) rfl nd rfl rfl (sw_true rfl rfl rfl (by decide +kernel)) (pi_range1 rfl T.range (pa_cons (pe_op op_subA (pe_op (kop_addB (K := K) rfl) (pe_callB (kcr_len (K := K) rfl) (by rfl) T.len (by decide +kernel) (pa_cons (pv 0) pa_nil)) (pe_callB (kcr_len (K := K) rfl) (by rfl) T.len (by decide +kernel) (pa_cons (pv 1) pa_nil))) pe_int) pa_nil)) (blkOk_by (N := nm_product) (sc := defScope s_product) (by decide +kernel)) (fun _ _ _ _ _ => (pg_name (i := 7) nd rfl (Or.inl rfl))) (fun _ _ _ _ _ => pts_nil) (fun _ _ _ _ _ => pe_int))
    (pss_cons (ps_for PassesOwn.never rfl (kpi_enumA (K := K) rfl rfl T.enumerate (pa_cons (pv 0) pa_nil)) (kpg_tup (K := K) (n := 2) rfl rfl (pgs_cons (pg_name (i := 3) nd rfl (Or.inl rfl)) (pgs_cons (pg_name (i := 4) nd rfl (Or.inl rfl)) pgs_nil))) (pss_one (ps_for PassesOwn.never rfl (kpi_enumA (K := K) rfl rfl T.enumerate (pa_cons (pv 1) pa_nil)) (kpg_tup (K := K) (n := 2) rfl rfl (pgs_cons (pg_name (i := 5) nd rfl (Or.inl rfl)) (pgs_cons (pg_name (i := 6) nd rfl (Or.inl rfl)) pgs_nil))) (pss_one (ps_augS (pv 2) (pe_op (kop_addB (K := K) rfl) (pv 3) (pv 5)) (pget_lst (K := K) rfl) (pe_op op_mulA (pv 4) (pv 6)) ip_add set_list)))))
    (pss_one (ps_ret (pe_call (ok_trimmed T) (hr.mono (by decide)) rfl T.trimmed.m T.trimmed.F.kp (bi_trimmed T) .nil pass0 (pa_cons (pv 2) pa_nil))))))), ?_⟩
  exact ((sk_seq (sk_if (tk_or (tk_test (gk_op od_eq gk_var (gk_tup ak_nil))) (tk_test (gk_op od_eq gk_var (gk_tup ak_nil)))) (sk_ret (gk_tup ak_nil)) sk_next)
    (sk_seq (sk_set (gk_lc (ik_range1 (ak_cons (gk_op od_sub (gk_op od_addB (gk_cb cd_len (ak_cons gk_var ak_nil)) (gk_cb cd_len (ak_cons gk_var ak_nil))) gk_int) ak_nil)) gt_name tk_yes gk_int (by decide)))
    (sk_seq (sk_for (ik_enumA (ak_cons gk_var ak_nil)) (gt_tup (gts_cons gt_name (gts_cons gt_name gts_nil))) ((sk_for (ik_enumA (ak_cons gk_var ak_nil)) (gt_tup (gts_cons gt_name (gts_cons gt_name gts_nil))) ((sk_augS od_ipadd (gk_op od_addB gk_var gk_var) (gk_op od_mul gk_var gk_var)) : SOk K _ b_product_1)) : SOk K _ b_product_2))
    (sk_ret (gk_call (ak_cons gk_var ak_nil)))))) : SOk K _ b_product)
theorem sc_sign_of : FnScope nm_sign_of pm_sign_of (defScope s_sign_of) := ⟨rfl, rfl, rfl, by decide +kernel, rfl, by decide +kernel, by decide +kernel⟩
theorem bi_sign_of (T : Txt K mg) : Binds K T.sign_of.fd pm_sign_of [] := T.sign_of.F.binds fun _ _ _ _ _ _ us hl => match us, hl with | [_], _ => rfl
theorem ok_sign_of (T : Txt K mg) : FnOk P w K mg base CX0 1 T.sign_of.f T.sign_of.fd pm_sign_of (spF K r_sign_of) := by
  have nd := sc_sign_of.nd
  refine data_F T.sign_of.F sc_sign_of fun cdv A outer s H E hr => ?_
  refine ⟨_, (pss_one (ps_ret (pe_op op_subA (pe_callTy cr_int (by rfl) T.int (by decide +kernel) (pa_cons (pe_cmpR op_gt (pv 0) pe_int (nomark _)) pa_nil)) (pe_callTy cr_int (by rfl) T.int (by decide +kernel) (pa_cons (pe_cmpR op_lt (pv 0) pe_int (nomark _)) pa_nil))))), ?_⟩
  exact ((sk_ret (gk_op od_sub (gk_cb cd_int (ak_cons (gk_op od_gt gk_var gk_int) ak_nil)) (gk_cb cd_int (ak_cons (gk_op od_lt gk_var gk_int) ak_nil)))) : SOk K _ b_sign_of)
theorem sc_parted : FnScope nm_parted pm_parted (defScope s_parted) := ⟨rfl, rfl, rfl, by decide +kernel, rfl, by decide +kernel, by decide +kernel⟩
theorem bi_parted (T : Txt K mg) : Binds K T.parted.fd pm_parted [] := T.parted.F.binds fun _ _ _ _ _ _ us hl => match us, hl with | [_, _], _ => rfl
theorem ok_parted (T : Txt K mg) : FnOk P w K mg base CX0 3 T.parted.f T.parted.fd pm_parted (spF K r_parted) := by
  have nd := sc_parted.nd
  refine data_F T.parted.F sc_parted fun cdv A outer s H E hr => ?_
  refine ⟨_, (pss_cons (ps_asg (pe_tup (pa_cons (pe_callB cr_abs (by rfl) T.abs (by decide +kernel) (pa_cons (pe_ix (kix (K := K) rfl) (pv 1) (pe_un un_neg pe_int) (fun _ _ => rfl)) pa_nil)) (pa_cons (pv 0) (pa_cons (pe_tup pa_nil) pa_nil)))) (kpg_tup (K := K) (n := 3) rfl rfl (pgs_cons (pg_name (i := 2) nd rfl (Or.inr rfl)) (pgs_cons (pg_name (i := 3) nd rfl (Or.inl rfl)) (pgs_cons (pg_name (i := 4) nd rfl (Or.inl rfl)) pgs_nil)))))
    (pss_cons (ps_while PassesOwn.never (pt_cmpR op_ge (pe_callB (kcr_len (K := K) rfl) (by rfl) T.len (by decide +kernel) (pa_cons (pv 3) pa_nil)) (pe_callB (kcr_len (K := K) rfl) (by rfl) T.len (by decide +kernel) (pa_cons (pv 1) pa_nil)) (nomark _)) (pss_cons (ps_set (i := 5) nd rfl (Or.inl rfl) (pe_op op_mulA (pe_call (ok_sign_of T) (hr.mono (by decide)) rfl T.sign_of.m T.sign_of.F.kp (bi_sign_of T) .nil pass0 (pa_cons (pe_ix (kix (K := K) rfl) (pv 1) (pe_un un_neg pe_int) (fun _ _ => rfl)) pa_nil)) (pe_ix (kix (K := K) rfl) (pv 3) (pe_un un_neg pe_int) (fun _ _ => rfl))))
    (pss_cons (ps_set (i := 6) nd rfl (Or.inl rfl) (pe_op (kop_mulC (K := K) rfl) (pe_tup (pa_cons pe_int pa_nil)) (pe_op op_subA (pe_callB (kcr_len (K := K) rfl) (by rfl) T.len (by decide +kernel) (pa_cons (pv 3) pa_nil)) (pe_callB (kcr_len (K := K) rfl) (by rfl) T.len (by decide +kernel) (pa_cons (pv 1) pa_nil)))))
    (pss_cons (ps_set (i := 4) nd rfl (Or.inl rfl) (pe_call (ok_plus T) (hr.mono (by decide)) rfl T.plus.m T.plus.F.kp (bi_plus_2 T).choose_spec.2 (bi_plus_2 T).choose_spec.1 pass0 (pa_cons (pe_lc (own := [("count", 8)]) rfl nd (kpi_seq (K := K) rfl (pv 4)) (blkOk_by (N := nm_parted) (sc := defScope s_parted) (by decide +kernel)) (fun _ _ _ _ _ => (pg_name (i := 8) nd rfl (Or.inl rfl))) (fun _ _ _ _ _ => pts_nil) (fun _ _ _ _ _ => (pe_op op_mulA (pv 2) (pv 8)))) (pa_cons (pe_tup (kpa_star (K := K) rfl (pv 6) (pa_cons (pv 5) pa_nil))) pa_nil))))
    (pss_cons (ps_set (i := 3) nd rfl (Or.inl rfl) (pe_call (ok_plus T) (hr.mono (by decide)) rfl T.plus.m T.plus.F.kp (bi_plus_3 T).choose_spec.2 (bi_plus_3 T).choose_spec.1 pass0 (pa_cons (pe_lc (own := [("count", 8)]) rfl nd (kpi_seq (K := K) rfl (pv 3)) (blkOk_by (N := nm_parted) (sc := defScope s_parted) (by decide +kernel)) (fun _ _ _ _ _ => (pg_name (i := 8) nd rfl (Or.inl rfl))) (fun _ _ _ _ _ => pts_nil) (fun _ _ _ _ _ => (pe_op op_mulA (pv 2) (pv 8)))) (pa_cons (pe_call (ok_product T) (hr.mono (by decide)) rfl T.product.m T.product.F.kp (bi_product T) .nil pass0 (pa_cons (pe_tup (kpa_star (K := K) rfl (pv 6) (pa_cons pe_int pa_nil))) (pa_cons (pv 1) pa_nil))) (pa_cons (pe_un un_neg (pv 5)) pa_nil)))))
    (pss_cons (ps_set (i := 7) nd rfl (Or.inr rfl) pe_int)
    (pss_cons (ps_for PassesOwn.never rfl (kpi_seq (K := K) rfl (pe_tup (kpa_star (K := K) rfl (pv 4) (kpa_star (K := K) rfl (pv 3) pa_nil)))) (pg_name (i := 8) nd rfl (Or.inl rfl)) (pss_one (ps_set (i := 7) nd rfl (Or.inr rfl) (pe_call (ok_divisor T) (hr.mono (by decide)) rfl T.divisor.m T.divisor.F.kp (bi_divisor T) .nil pass0 (pa_cons (pv 7) (pa_cons (pv 8) pa_nil))))))
    (pss_one (ps_if (pt_cmpR op_gt (pv 7) pe_int (nomark _)) (pss_cons (ps_set (i := 4) nd rfl (Or.inl rfl) (pe_callTy (kcr_tuple (K := K) rfl) (by rfl) T.tuple (by decide +kernel) (pa_cons (pe_lc (own := [("count", 8)]) rfl nd (kpi_seq (K := K) rfl (pv 4)) (blkOk_by (N := nm_parted) (sc := defScope s_parted) (by decide +kernel)) (fun _ _ _ _ _ => (pg_name (i := 8) nd rfl (Or.inl rfl))) (fun _ _ _ _ _ => pts_nil) (fun _ _ _ _ _ => (pe_op op_fdivA (pv 8) (pv 7)))) pa_nil)))
    (pss_one (ps_set (i := 3) nd rfl (Or.inl rfl) (pe_callTy (kcr_tuple (K := K) rfl) (by rfl) T.tuple (by decide +kernel) (pa_cons (pe_lc (own := [("count", 8)]) rfl nd (kpi_seq (K := K) rfl (pv 3)) (blkOk_by (N := nm_parted) (sc := defScope s_parted) (by decide +kernel)) (fun _ _ _ _ _ => (pg_name (i := 8) nd rfl (Or.inl rfl))) (fun _ _ _ _ _ => pts_nil) (fun _ _ _ _ _ => (pe_op op_fdivA (pv 8) (pv 7)))) pa_nil))))) pss_nil)))))))))
    (pss_one (ps_ret (pe_tup (pa_cons (pe_call (ok_primitive T) (hr.mono (by decide)) rfl T.primitive.m T.primitive.F.kp (bi_primitive T) .nil pass0 (pa_cons (pv 4) pa_nil)) (pa_cons (pe_call (ok_primitive T) (hr.mono (by decide)) rfl T.primitive.m T.primitive.F.kp (bi_primitive T) .nil pass0 (pa_cons (pv 3) pa_nil)) pa_nil))))))), ?_⟩
  exact ((sk_seq (sk_asg (gk_tup (ak_cons (gk_cb cd_abs (ak_cons (gk_op od_ix gk_var (gk_un ud_neg gk_int)) ak_nil)) (ak_cons gk_var (ak_cons (gk_tup ak_nil) ak_nil)))) (gt_tup (gts_cons gt_name (gts_cons gt_name (gts_cons gt_name gts_nil)))))
    (sk_seq (sk_while (fun _ => 1000) (tk_test (gk_op od_ge (gk_cb cd_len (ak_cons gk_var ak_nil)) (gk_cb cd_len (ak_cons gk_var ak_nil)))) ((sk_seq (sk_set (gk_op od_mul (gk_call (ak_cons (gk_op od_ix gk_var (gk_un ud_neg gk_int)) ak_nil)) (gk_op od_ix gk_var (gk_un ud_neg gk_int))))
    (sk_seq (sk_set (gk_op od_mulC (gk_tup (ak_cons gk_int ak_nil)) (gk_op od_sub (gk_cb cd_len (ak_cons gk_var ak_nil)) (gk_cb cd_len (ak_cons gk_var ak_nil)))))
    (sk_seq (sk_set (gk_callD (fun H => drs_drop (T.plus.d H) 0) (ak_cons (gk_lc (ik_seq gk_var) gt_name tk_yes (gk_op od_mul gk_var gk_var) (by decide)) (ak_cons (gk_tup (ak_star gk_var (ak_cons gk_var ak_nil))) ak_nil))))
    (sk_seq (sk_set (gk_callD (fun H => drs_drop (T.plus.d H) 1) (ak_cons (gk_lc (ik_seq gk_var) gt_name tk_yes (gk_op od_mul gk_var gk_var) (by decide)) (ak_cons (gk_call (ak_cons (gk_tup (ak_star gk_var (ak_cons gk_int ak_nil))) (ak_cons gk_var ak_nil))) (ak_cons (gk_un ud_neg gk_var) ak_nil)))))
    (sk_seq (sk_set gk_int)
    (sk_seq (sk_for (ik_seq (gk_tup (ak_star gk_var (ak_star gk_var ak_nil)))) gt_name ((sk_set (gk_call (ak_cons gk_var (ak_cons gk_var ak_nil)))) : SOk K _ b_parted_1))
    (sk_if (tk_test (gk_op od_gt gk_var gk_int)) (sk_seq (sk_set (gk_cb cd_tuple (ak_cons (gk_lc (ik_seq gk_var) gt_name tk_yes (gk_op od_fdiv gk_var gk_var) (by decide)) ak_nil)))
    (sk_set (gk_cb cd_tuple (ak_cons (gk_lc (ik_seq gk_var) gt_name tk_yes (gk_op od_fdiv gk_var gk_var) (by decide)) ak_nil)))) sk_next))))))) : SOk K _ b_parted_2))
    (sk_ret (gk_tup (ak_cons (gk_call (ak_cons gk_var ak_nil)) (ak_cons (gk_call (ak_cons gk_var ak_nil)) ak_nil)))))) : SOk K _ b_parted)
theorem sc_rest : FnScope nm_rest pm_rest (defScope s_rest) := ⟨rfl, rfl, rfl, by decide +kernel, rfl, by decide +kernel, by decide +kernel⟩
theorem bi_rest (T : Txt K mg) : Binds K T.rest.fd pm_rest [] := T.rest.F.binds fun _ _ _ _ _ _ us hl => match us, hl with | [_, _], _ => rfl
theorem ok_rest (T : Txt K mg) : FnOk P w K mg base CX0 4 T.rest.f T.rest.fd pm_rest (spF K r_rest) := by
  have nd := sc_rest.nd
  refine data_F T.rest.F sc_rest fun cdv A outer s H E hr => ?_
  refine ⟨_, (pss_one (ps_ret (pe_ix (kix (K := K) rfl) (pe_call (ok_parted T) (hr.mono (by decide)) rfl T.parted.m T.parted.F.kp (bi_parted T) .nil pass0 (pa_cons (pv 0) (pa_cons (pv 1) pa_nil))) pe_int (fun _ _ => rfl)))), ?_⟩
  exact ((sk_ret (gk_op od_ix (gk_call (ak_cons gk_var (ak_cons gk_var ak_nil))) gk_int)) : SOk K _ b_rest)
theorem sc_chain_of : FnScope nm_chain_of pm_chain_of (defScope s_chain_of) := ⟨rfl, rfl, rfl, by decide +kernel, rfl, by decide +kernel, by decide +kernel⟩
theorem bi_chain_of (T : Txt K mg) : Binds K T.chain_of.fd pm_chain_of [] := T.chain_of.F.binds fun _ _ _ _ _ _ us hl => match us, hl with | [_], _ => rfl
theorem ok_chain_of (T : Txt K mg) : FnOk P w K mg base CX0 5 T.chain_of.f T.chain_of.fd pm_chain_of (spF K r_chain_of) := by
  have nd := sc_chain_of.nd
  refine data_F T.chain_of.F sc_chain_of fun cdv A outer s H E hr => ?_
  refine ⟨_, (pss_cons (ps_if (pt_cmpR op_lt (pe_callB (kcr_len (K := K) rfl) (by rfl) T.len (by decide +kernel) (pa_cons (pv 0) pa_nil)) pe_int (nomark _)) (pss_one (ps_ret (pe_tup (pa_cons (pv 0) pa_nil)))) pss_nil)
    (pss_cons (ps_set (i := 1) nd rfl (Or.inl rfl) (pe_lst (pa_cons (pv 0) (pa_cons (pe_call (ok_primitive T) (hr.mono (by decide)) rfl T.primitive.m T.primitive.F.kp (bi_primitive T) .nil pass0 (pa_cons (pe_call (ok_derived T) (hr.mono (by decide)) rfl T.derived.m T.derived.F.kp (bi_derived T) .nil pass0 (pa_cons (pv 0) pa_nil)) pa_nil)) pa_nil))))
    (pss_cons (ps_while PassesOwn.never (pt_cmpR op_gt (pe_callB (kcr_len (K := K) rfl) (by rfl) T.len (by decide +kernel) (pa_cons (pe_ix (kix (K := K) rfl) (pv 1) (pe_un un_neg pe_int) (fun _ _ => rfl)) pa_nil)) pe_int (nomark _)) (pss_one (ps_expr (kpe_app (K := K) rfl (pv 1) (pe_callTy (kcr_tuple (K := K) rfl) (by rfl) T.tuple (by decide +kernel) (pa_cons (pe_lc (own := [("count", 2)]) rfl nd (kpi_seq (K := K) rfl (pe_call (ok_rest T) (hr.mono (by decide)) rfl T.rest.m T.rest.F.kp (bi_rest T) .nil pass0 (pa_cons (pe_ix (kix (K := K) rfl) (pv 1) (pe_un un_neg pe_int) (fun _ _ => rfl)) (pa_cons (pe_ix (kix (K := K) rfl) (pv 1) (pe_un un_neg pe_int) (fun _ _ => rfl)) pa_nil)))) (blkOk_by (N := nm_chain_of) (sc := defScope s_chain_of) (by decide +kernel)) (fun _ _ _ _ _ => (pg_name (i := 2) nd rfl (Or.inl rfl))) (fun _ _ _ _ _ => pts_nil) (fun _ _ _ _ _ => (pe_un un_neg (pv 2)))) pa_nil))))))
    (pss_one (ps_ret (pe_callTy (kcr_tuple (K := K) rfl) (by rfl) T.tuple (by decide +kernel) (pa_cons (pv 1) pa_nil))))))), ?_⟩
  exact ((sk_seq (sk_if (tk_test (gk_op od_lt (gk_cb cd_len (ak_cons gk_var ak_nil)) gk_int)) (sk_ret (gk_tup (ak_cons gk_var ak_nil))) sk_next)
    (sk_seq (sk_set (gk_lst (ak_cons gk_var (ak_cons (gk_call (ak_cons (gk_call (ak_cons gk_var ak_nil)) ak_nil)) ak_nil))))
    (sk_seq (sk_while (fun _ => 1000) (tk_test (gk_op od_gt (gk_cb cd_len (ak_cons (gk_by (gk_ixv (gk_un ud_neg gk_int)) (gk_op od_ix gk_var (gk_un ud_neg gk_int))) ak_nil)) gk_int)) ((sk_app (gk_cb cd_tuple (ak_cons (gk_lc (ik_seq (gk_call (ak_cons (gk_by (gk_ixv (gk_un ud_neg gk_int)) (gk_op od_ix gk_var (gk_un ud_neg gk_int))) (ak_cons (gk_by (gk_ixv (gk_un ud_neg gk_int)) (gk_op od_ix gk_var (gk_un ud_neg gk_int))) ak_nil)))) gt_name tk_yes (gk_un ud_neg gk_var) (by decide)) ak_nil))) : SOk K _ b_chain_of_1))
    (sk_ret (gk_cb cd_tuple (ak_cons gk_var ak_nil)))))) : SOk K _ b_chain_of)
theorem sc_upright : FnScope nm_upright pm_upright (defScope s_upright) := ⟨rfl, rfl, rfl, by decide +kernel, rfl, by decide +kernel, by decide +kernel⟩
theorem bi_upright (T : Txt K mg) : Binds K T.upright.fd pm_upright [] := T.upright.F.binds fun _ _ _ _ _ _ us hl => match us, hl with | [_], _ => rfl
theorem ok_upright (T : Txt K mg) : FnOk P w K mg base CX0 3 T.upright.f T.upright.fd pm_upright (spF K r_upright) := by
  have nd := sc_upright.nd
  refine data_F T.upright.F sc_upright fun cdv A outer s H E hr => ?_
  refine ⟨_, (pss_cons (ps_set (i := 1) nd rfl (Or.inl rfl) (pe_call (ok_primitive T) (hr.mono (by decide)) rfl T.primitive.m T.primitive.F.kp (bi_primitive T) .nil pass0 (pa_cons (pv 0) pa_nil)))
    (pss_one (ps_ret (pe_ifExp (PW.pt (pw_or (pt_cmpR (kop_eq (K := K) rfl hr.units) (pv 1) (pe_tup pa_nil) (nomark _)) (pw_or1 (pt_cmpR op_gt (pe_ix (kix (K := K) rfl) (pv 1) (pe_un un_neg pe_int) (fun _ _ => rfl)) pe_int (nomark _))))) (pv 1) (pe_callTy (kcr_tuple (K := K) rfl) (by rfl) T.tuple (by decide +kernel) (pa_cons (pe_lc (own := [("count", 2)]) rfl nd (kpi_seq (K := K) rfl (pv 1)) (blkOk_by (N := nm_upright) (sc := defScope s_upright) (by decide +kernel)) (fun _ _ _ _ _ => (pg_name (i := 2) nd rfl (Or.inl rfl))) (fun _ _ _ _ _ => pts_nil) (fun _ _ _ _ _ => (pe_un un_neg (pv 2)))) pa_nil)))))), ?_⟩
  exact ((sk_seq (sk_set (gk_call (ak_cons gk_var ak_nil)))
    (sk_ret (gk_if (tk_or (tk_test (gk_op od_eq gk_var (gk_tup ak_nil))) (tk_test (gk_op od_gt (gk_op od_ix gk_var (gk_un ud_neg gk_int)) gk_int))) gk_var (gk_cb cd_tuple (ak_cons (gk_lc (ik_seq gk_var) gt_name tk_yes (gk_un ud_neg gk_var) (by decide)) ak_nil))))) : SOk K _ b_upright)
theorem sc_common : FnScope nm_common pm_common (defScope s_common) := ⟨rfl, rfl, rfl, by decide +kernel, rfl, by decide +kernel, by decide +kernel⟩
theorem bi_common (T : Txt K mg) : Binds K T.common.fd pm_common [] := T.common.F.binds fun _ _ _ _ _ _ us hl => match us, hl with | [_, _], _ => rfl
theorem ok_common (T : Txt K mg) : FnOk P w K mg base CX0 5 T.common.f T.common.fd pm_common (spF K r_common) := by
  have nd := sc_common.nd
  refine data_F T.common.F sc_common fun cdv A outer s H E hr => ?_
  refine ⟨_, (pss_cons (ps_while PassesOwn.never (pt_cmpR (kop_ne (K := K) rfl hr.units) (pv 1) (pe_tup pa_nil) (nomark _)) (pss_one (ps_par (i := 0) (j := 1) rfl nd rfl rfl (by decide) rfl rfl (pa_cons (pv 1) (pa_cons (pe_call (ok_rest T) (hr.mono (by decide)) rfl T.rest.m T.rest.F.kp (bi_rest T) .nil pass0 (pa_cons (pv 0) (pa_cons (pv 1) pa_nil))) pa_nil)) (by rfl))))
    (pss_one (ps_ret (pe_call (ok_upright T) (hr.mono (by decide)) rfl T.upright.m T.upright.F.kp (bi_upright T) .nil pass0 (pa_cons (pv 0) pa_nil))))), ?_⟩
  exact ((sk_seq (sk_while (fun _ => 1000) (tk_test (gk_op od_ne gk_var (gk_tup ak_nil))) ((sk_ypar (yk_cons gk_var (yk_cons (gk_call (ak_cons gk_var (ak_cons gk_var ak_nil))) yk_nil))) : SOk K _ b_common_1))
    (sk_ret (gk_call (ak_cons gk_var ak_nil)))) : SOk K _ b_common)
theorem sc_divided : FnScope nm_divided pm_divided (defScope s_divided) := ⟨rfl, rfl, rfl, by decide +kernel, rfl, by decide +kernel, by decide +kernel⟩
theorem bi_divided (T : Txt K mg) : Binds K T.divided.fd pm_divided [] := T.divided.F.binds fun _ _ _ _ _ _ us hl => match us, hl with | [_, _], _ => rfl
theorem ok_divided (T : Txt K mg) : FnOk P w K mg base CX0 4 T.divided.f T.divided.fd pm_divided (spF K r_divided) := by
  have nd := sc_divided.nd
  refine data_F T.divided.F sc_divided fun cdv A outer s H E hr => ?_
  refine ⟨_, (pss_one (ps_ret (pe_ix (kix (K := K) rfl) (pe_call (ok_parted T) (hr.mono (by decide)) rfl T.parted.m T.parted.F.kp (bi_parted T) .nil pass0 (pa_cons (pv 0) (pa_cons (pv 1) pa_nil))) pe_int (fun _ _ => rfl)))), ?_⟩
  exact ((sk_ret (gk_op od_ix (gk_call (ak_cons gk_var (ak_cons gk_var ak_nil))) gk_int)) : SOk K _ b_divided)
theorem sc_parts_of : FnScope nm_parts_of pm_parts_of (defScope s_parts_of) := ⟨rfl, rfl, rfl, by decide +kernel, rfl, by decide +kernel, by decide +kernel⟩
theorem bi_parts_of (T : Txt K mg) : Binds K T.parts_of.fd pm_parts_of [] := T.parts_of.F.binds fun _ _ _ _ _ _ us hl => match us, hl with | [_], _ => rfl
theorem ok_parts_of (T : Txt K mg) : FnOk P w K mg base CX0 6 T.parts_of.f T.parts_of.fd pm_parts_of (spF K r_parts_of) := by
  have nd := sc_parts_of.nd
  refine data_F T.parts_of.F sc_parts_of fun cdv A outer s H E hr => ?_
  refine ⟨_, (pss_cons (ps_set (i := 1) nd rfl (Or.inl rfl) (pe_call (ok_common T) (hr.mono (by decide)) rfl T.common.m T.common.F.kp (bi_common T) .nil pass0 (pa_cons (pv 0) (pa_cons (pe_call (ok_derived T) (hr.mono (by decide)) rfl T.derived.m T.derived.F.kp (bi_derived T) .nil pass0 (pa_cons (pv 0) pa_nil)) pa_nil))))
    (pss_cons (ps_par3 (i := 2) (j := 3) (l := 4) rfl nd rfl rfl rfl (by decide) (by decide) (by decide) rfl rfl rfl (pa_cons (pe_call (ok_upright T) (hr.mono (by decide)) rfl T.upright.m T.upright.F.kp (bi_upright T) .nil pass0 (pa_cons (pe_call (ok_divided T) (hr.mono (by decide)) rfl T.divided.m T.divided.F.kp (bi_divided T) .nil pass0 (pa_cons (pv 0) (pa_cons (pv 1) pa_nil))) pa_nil)) (pa_cons (pe_lst pa_nil) (pa_cons pe_int pa_nil))) (by rfl))
    (pss_cons (ps_while PassesOwn.never (pt_cmpR op_gt (pe_callB (kcr_len (K := K) rfl) (by rfl) T.len (by decide +kernel) (pa_cons (pv 2) pa_nil)) pe_int (nomark _)) (pss_cons (ps_aug (i := 4) nd rfl (Or.inl rfl) pe_int ip_add)
    (pss_cons (ps_set (i := 5) nd rfl (Or.inl rfl) (pe_call (ok_common T) (hr.mono (by decide)) rfl T.common.m T.common.F.kp (bi_common T) .nil pass0 (pa_cons (pv 2) (pa_cons (pv 1) pa_nil))))
    (pss_cons (ps_set (i := 6) nd rfl (Or.inl rfl) (pe_call (ok_upright T) (hr.mono (by decide)) rfl T.upright.m T.upright.F.kp (bi_upright T) .nil pass0 (pa_cons (pe_call (ok_divided T) (hr.mono (by decide)) rfl T.divided.m T.divided.F.kp (bi_divided T) .nil pass0 (pa_cons (pv 2) (pa_cons (pv 5) pa_nil))) pa_nil)))
    (pss_cons (ps_if (pt_cmpR op_gt (pe_callB (kcr_len (K := K) rfl) (by rfl) T.len (by decide +kernel) (pa_cons (pv 6) pa_nil)) pe_int (nomark _)) (pss_one (ps_expr (kpe_app (K := K) rfl (pv 3) (pe_tup (pa_cons (pv 4) (pa_cons (pv 6) pa_nil)))))) pss_nil)
    (pss_one (ps_par (i := 2) (j := 1) rfl nd rfl rfl (by decide) rfl rfl (pa_cons (pv 5) (pa_cons (pe_call (ok_divided T) (hr.mono (by decide)) rfl T.divided.m T.divided.F.kp (bi_divided T) .nil pass0 (pa_cons (pv 1) (pa_cons (pv 5) pa_nil))) pa_nil)) (by rfl))))))))
    (pss_one (ps_ret (pe_callTy (kcr_tuple (K := K) rfl) (by rfl) T.tuple (by decide +kernel) (pa_cons (pv 3) pa_nil))))))), ?_⟩
  exact ((sk_seq (sk_set (gk_call (ak_cons gk_var (ak_cons (gk_call (ak_cons gk_var ak_nil)) ak_nil))))
    (sk_seq (sk_ypar3 (yk_cons (gk_call (ak_cons (gk_call (ak_cons gk_var (ak_cons gk_var ak_nil))) ak_nil)) (yk_cons (gk_lst ak_nil) (yk_cons gk_int yk_nil))))
    (sk_seq (sk_while (fun _ => 1000) (tk_test (gk_op od_gt (gk_cb cd_len (ak_cons gk_var ak_nil)) gk_int)) ((sk_seq (sk_aug od_ipadd gk_int)
    (sk_seq (sk_set (gk_call (ak_cons gk_var (ak_cons gk_var ak_nil))))
    (sk_seq (sk_set (gk_call (ak_cons (gk_call (ak_cons gk_var (ak_cons gk_var ak_nil))) ak_nil)))
    (sk_seq (sk_if (tk_test (gk_op od_gt (gk_cb cd_len (ak_cons gk_var ak_nil)) gk_int)) (sk_app (gk_tup (ak_cons gk_var (ak_cons gk_var ak_nil)))) sk_next)
    (sk_ypar (yk_cons gk_var (yk_cons (gk_call (ak_cons gk_var (ak_cons gk_var ak_nil))) yk_nil))))))) : SOk K _ b_parts_of_1))
    (sk_ret (gk_cb cd_tuple (ak_cons gk_var ak_nil)))))) : SOk K _ b_parts_of)
theorem sc_power : FnScope nm_power pm_power (defScope s_power) := ⟨rfl, rfl, rfl, by decide +kernel, rfl, by decide +kernel, by decide +kernel⟩
theorem bi_power (T : Txt K mg) : Binds K T.power.fd pm_power [] := T.power.F.binds fun _ _ _ _ _ _ us hl => match us, hl with | [_, _], _ => rfl
theorem ok_power (T : Txt K mg) : FnOk P w K mg base CX0 3 T.power.f T.power.fd pm_power (spF K r_power) := by
  have nd := sc_power.nd
  refine data_F T.power.F sc_power fun cdv A outer s H E hr => ?_
  refine ⟨_, (pss_cons (ps_set (i := 2) nd rfl (Or.inl rfl) (pe_tup (pa_cons pe_int pa_nil)))
    (pss_cons (ps_for PassesOwn.never rfl (pi_range1 rfl T.range (pa_cons (pv 1) pa_nil)) (pg_name (i := 3) nd rfl (Or.inl rfl)) (pss_one (ps_set (i := 2) nd rfl (Or.inl rfl) (pe_call (ok_product T) (hr.mono (by decide)) rfl T.product.m T.product.F.kp (bi_product T) .nil pass0 (pa_cons (pv 2) (pa_cons (pv 0) pa_nil))))))
    (pss_one (ps_ret (pv 2))))), ?_⟩
  exact ((sk_seq (sk_set (gk_tup (ak_cons gk_int ak_nil)))
    (sk_seq (sk_for (ik_range1 (ak_cons gk_var ak_nil)) gt_name ((sk_set (gk_call (ak_cons gk_var (ak_cons gk_var ak_nil)))) : SOk K _ b_power_1))
    (sk_ret gk_mv))) : SOk K _ b_power)
theorem sc_value_at_polys : FnScope nm_value_at_polys pm_value_at_polys (defScope s_value_at_polys) := ⟨rfl, rfl, rfl, by decide +kernel, rfl, by decide +kernel, by decide +kernel⟩
theorem bi_value_at_polys (T : Txt K mg) : Binds K T.value_at_polys.fd pm_value_at_polys [] := T.value_at_polys.F.binds fun _ _ _ _ _ _ us hl => match us, hl with | [_, _], _ => rfl
theorem ok_value_at_polys (T : Txt K mg) : FnOk P w K mg base CX0 1 T.value_at_polys.f T.value_at_polys.fd pm_value_at_polys (spF K r_value_at_polys) := by
  have nd := sc_value_at_polys.nd
  refine data_F T.value_at_polys.F sc_value_at_polys fun cdv A outer s H E hr => ?_
  refine ⟨_, (pss_cons (ps_asg (pe_tup (pa_cons pe_int (pa_cons pe_int pa_nil))) (kpg_tup (K := K) (n := 2) rfl rfl (pgs_cons (pg_name (i := 2) nd rfl (Or.inl rfl)) (pgs_cons (pg_name (i := 3) nd rfl (Or.inl rfl)) pgs_nil))))
    (pss_cons (ps_for PassesOwn.never rfl (kpi_seq (K := K) rfl (kpe_revA (K := K) rfl (pv 0) (pe_un un_neg pe_int))) (pg_name (i := 4) nd rfl (Or.inl rfl)) (pss_cons (ps_set (i := 2) nd rfl (Or.inl rfl) (pe_op (kop_addB (K := K) rfl) (pe_op op_mulA (pv 2) (pe_ix (kix (K := K) rfl) (pv 1) pe_int (fun _ _ => rfl))) (pe_op op_mulA (pv 4) (pv 3))))
    (pss_one (ps_set (i := 3) nd rfl (Or.inl rfl) (pe_op op_mulA (pv 3) (pe_ix (kix (K := K) rfl) (pv 1) pe_int (fun _ _ => rfl)))))))
    (pss_one (ps_ret (pv 2))))), ?_⟩
  exact ((sk_seq (sk_asg (gk_tup (ak_cons gk_int (ak_cons gk_int ak_nil))) (gt_tup (gts_cons gt_name (gts_cons gt_name gts_nil))))
    (sk_seq (sk_for (ik_seq (gk_revA gk_var (gk_un ud_neg gk_int))) gt_name ((sk_seq (sk_set (gk_op od_addB (gk_op od_mul gk_var (gk_op od_ix gk_var gk_int)) (gk_op od_mul gk_var gk_var)))
    (sk_set (gk_op od_mul gk_var (gk_op od_ix gk_var gk_int)))) : SOk K _ b_value_at_polys_1))
    (sk_ret gk_mv))) : SOk K _ b_value_at_polys)
theorem sc_without_ends : FnScope nm_without_ends pm_without_ends (defScope s_without_ends) := ⟨rfl, rfl, rfl, by decide +kernel, rfl, by decide +kernel, by decide +kernel⟩
theorem bi_without_ends (T : Txt K mg) : Binds K T.without_ends.fd pm_without_ends [] := T.without_ends.F.binds fun _ _ _ _ _ _ us hl => match us, hl with | [_, _, _], _ => rfl
theorem ok_without_ends (T : Txt K mg) : FnOk P w K mg base CX0 5 T.without_ends.f T.without_ends.fd pm_without_ends (spF K r_without_ends) := by
  have nd := sc_without_ends.nd
  refine data_F T.without_ends.F sc_without_ends fun cdv A outer s H E hr => ?_
  refine ⟨_, (pss_cons (ps_set (i := 3) nd rfl (Or.inl rfl) (pe_lst pa_nil))
    (pss_cons (ps_for PassesOwn.never rfl (kpi_seq (K := K) rfl (pe_tup (pa_cons (pe_tup (pa_cons (pv 1) (pa_cons (pe_tup (pa_cons (pe_un un_neg (pe_ix (kix (K := K) rfl) (pv 1) pe_int (fun _ _ => rfl))) (pa_cons (pe_ix (kix (K := K) rfl) (pv 1) pe_int (fun _ _ => rfl)) pa_nil))) pa_nil))) (pa_cons (pe_tup (pa_cons (pv 2) (pa_cons (pe_tup (pa_cons (pe_ix (kix (K := K) rfl) (pv 2) pe_int (fun _ _ => rfl)) (pa_cons (pe_un un_neg (pe_ix (kix (K := K) rfl) (pv 2) pe_int (fun _ _ => rfl))) pa_nil))) pa_nil))) pa_nil)))) (kpg_tup (K := K) (n := 2) rfl rfl (pgs_cons (pg_name (i := 4) nd rfl (Or.inl rfl)) (pgs_cons (pg_name (i := 5) nd rfl (Or.inl rfl)) pgs_nil))) (pss_cons (ps_set (i := 6) nd rfl (Or.inl rfl) pe_int)
    (pss_cons (ps_while PassesOwn.never (pt_cmpR (kop_eq (K := K) rfl hr.units) (pe_call (ok_value_at_polys T) (hr.mono (by decide)) rfl T.value_at_polys.m T.value_at_polys.F.kp (bi_value_at_polys T) .nil pass0 (pa_cons (pv 0) (pa_cons (pv 4) pa_nil))) pe_int (nomark _)) (pss_cons (ps_set (i := 0) nd rfl (Or.inl rfl) (pe_call (ok_divided T) (hr.mono (by decide)) rfl T.divided.m T.divided.F.kp (bi_divided T) .nil pass0 (pa_cons (pv 0) (pa_cons (pv 5) pa_nil))))
    (pss_one (ps_aug (i := 6) nd rfl (Or.inl rfl) pe_int ip_add))))
    (pss_one (ps_expr (kpe_app (K := K) rfl (pv 3) (pv 6)))))))
    (pss_one (ps_ret (pe_tup (pa_cons (pe_ix (kix (K := K) rfl) (pv 3) pe_int (fun _ _ => rfl)) (pa_cons (pe_ix (kix (K := K) rfl) (pv 3) pe_int (fun _ _ => rfl)) (pa_cons (pv 0) pa_nil)))))))), ?_⟩
  exact ((sk_seq (sk_set (gk_lst ak_nil))
    (sk_seq (sk_for (ik_seq (gk_tup (ak_cons (gk_tup (ak_cons gk_var (ak_cons (gk_tup (ak_cons (gk_un ud_neg (gk_op od_ix gk_var gk_int)) (ak_cons (gk_op od_ix gk_var gk_int) ak_nil))) ak_nil))) (ak_cons (gk_tup (ak_cons gk_var (ak_cons (gk_tup (ak_cons (gk_op od_ix gk_var gk_int) (ak_cons (gk_un ud_neg (gk_op od_ix gk_var gk_int)) ak_nil))) ak_nil))) ak_nil)))) (gt_tup (gts_cons gt_name (gts_cons gt_name gts_nil))) ((sk_seq (sk_set gk_int)
    (sk_seq (sk_while (fun _ => 1000) (tk_test (gk_op od_eq (gk_call (ak_cons gk_var (ak_cons gk_var ak_nil))) gk_int)) ((sk_seq (sk_set (gk_call (ak_cons gk_var (ak_cons gk_var ak_nil))))
    (sk_aug od_ipadd gk_int)) : SOk K _ b_without_ends_1))
    (sk_app gk_var))) : SOk K _ b_without_ends_2))
    (sk_ret (gk_tup (ak_cons (gk_by (gk_ixv gk_int) (gk_op od_ix gk_var gk_int)) (ak_cons (gk_by (gk_ixv gk_int) (gk_op od_ix gk_var gk_int)) (ak_cons gk_var ak_nil))))))) : SOk K _ b_without_ends)
theorem sc_entry : FnScope nm_entry pm_entry (defScope s_entry) := ⟨rfl, rfl, rfl, by decide +kernel, rfl, by decide +kernel, by decide +kernel⟩
theorem bi_entry (T : Txt K mg) : Binds K T.entry.fd pm_entry [] := T.entry.F.binds fun _ _ _ _ _ _ us hl => match us, hl with | [_, _, _], _ => rfl
theorem ok_entry (T : Txt K mg) : FnOk P w K mg base CX0 7 T.entry.f T.entry.fd pm_entry (spF K r_entry) := by
  have nd := sc_entry.nd
  refine data_F T.entry.F sc_entry fun cdv A outer s H E hr => ?_
  refine ⟨_, (pss_cons (ps_if (pt_cmpR (kop_eq (K := K) rfl hr.units) (pv 0) (pe_tup pa_nil) (nomark _)) (pss_one (ps_ret (pe_tup pa_nil))) pss_nil)
    (pss_cons (ps_asg (pe_call (ok_without_ends T) (hr.mono (by decide)) rfl T.without_ends.m T.without_ends.F.kp (bi_without_ends T) .nil pass0 (pa_cons (pv 0) (pa_cons (pv 1) (pa_cons (pv 2) pa_nil)))) (kpg_tup (K := K) (n := 3) rfl rfl (pgs_cons (pg_name (i := 3) nd rfl (Or.inl rfl)) (pgs_cons (pg_name (i := 4) nd rfl (Or.inl rfl)) (pgs_cons (pg_name (i := 5) nd rfl (Or.inl rfl)) pgs_nil)))))
    (pss_cons (ps_asg (pe_tup (pa_cons (pe_tup (pa_cons pe_int pa_nil)) (pa_cons (pe_tup (pa_cons pe_int pa_nil)) pa_nil))) (kpg_tup (K := K) (n := 2) rfl rfl (pgs_cons (pg_name (i := 6) nd rfl (Or.inl rfl)) (pgs_cons (pg_name (i := 7) nd rfl (Or.inl rfl)) pgs_nil))))
    (pss_cons (ps_for PassesOwn.never rfl (kpi_seq (K := K) rfl (pe_call (ok_parts_of T) (hr.mono (by decide)) rfl T.parts_of.m T.parts_of.F.kp (bi_parts_of T) .nil pass0 (pa_cons (pv 5) pa_nil))) (kpg_tup (K := K) (n := 2) rfl rfl (pgs_cons (pg_name (i := 8) nd rfl (Or.inl rfl)) (pgs_cons (pg_name (i := 9) nd rfl (Or.inl rfl)) pgs_nil))) (pss_cons (ps_set (i := 6) nd rfl (Or.inl rfl) (pe_call (ok_product T) (hr.mono (by decide)) rfl T.product.m T.product.F.kp (bi_product T) .nil pass0 (pa_cons (pv 6) (pa_cons (pe_call (ok_power T) (hr.mono (by decide)) rfl T.power.m T.power.F.kp (bi_power T) .nil pass0 (pa_cons (pv 9) (pa_cons (pe_op op_fdivA (pv 8) pe_int) pa_nil))) pa_nil))))
    (pss_one (ps_set (i := 7) nd rfl (Or.inl rfl) (pe_ifExp (pt_cmpR (kop_eq (K := K) rfl hr.units) (pe_op op_modA (pv 8) pe_int) pe_int (nomark _)) (pe_call (ok_product T) (hr.mono (by decide)) rfl T.product.m T.product.F.kp (bi_product T) .nil pass0 (pa_cons (pv 7) (pa_cons (pv 9) pa_nil))) (pv 7))))))
    (pss_cons (ps_if (pt_cmpR op_lt (pe_call (ok_value_at_polys T) (hr.mono (by decide)) rfl T.value_at_polys.m T.value_at_polys.F.kp (bi_value_at_polys T) .nil pass0 (pa_cons (pv 7) (pa_cons (pv 2) pa_nil))) pe_int (nomark _)) (pss_one (ps_set (i := 7) nd rfl (Or.inl rfl) (pe_callTy (kcr_tuple (K := K) rfl) (by rfl) T.tuple (by decide +kernel) (pa_cons (pe_lc (own := [("count", 10)]) rfl nd (kpi_seq (K := K) rfl (pv 7)) (blkOk_by (N := nm_entry) (sc := defScope s_entry) (by decide +kernel)) (fun _ _ _ _ _ => (pg_name (i := 10) nd rfl (Or.inl rfl))) (fun _ _ _ _ _ => pts_nil) (fun _ _ _ _ _ => (pe_un un_neg (pv 10)))) pa_nil)))) pss_nil)
    (pss_one (ps_ret (pe_tup (pa_cons (pv 3) (pa_cons (pv 4) (pa_cons (pv 6) (pa_cons (pe_call (ok_chain_of T) (hr.mono (by decide)) rfl T.chain_of.m T.chain_of.F.kp (bi_chain_of T) .nil pass0 (pa_cons (pv 7) pa_nil)) pa_nil)))))))))))), ?_⟩
  exact ((sk_seq (sk_if (tk_test (gk_op od_eq gk_var (gk_tup ak_nil))) (sk_ret (gk_tup ak_nil)) sk_next)
    (sk_seq (sk_asg (gk_call (ak_cons gk_var (ak_cons gk_var (ak_cons gk_var ak_nil)))) (gt_tup (gts_cons gt_name (gts_cons gt_name (gts_cons gt_name gts_nil)))))
    (sk_seq (sk_asg (gk_tup (ak_cons (gk_tup (ak_cons gk_int ak_nil)) (ak_cons (gk_tup (ak_cons gk_int ak_nil)) ak_nil))) (gt_tup (gts_cons gt_name (gts_cons gt_name gts_nil))))
    (sk_seq (sk_for (ik_seq (gk_call (ak_cons gk_var ak_nil))) (gt_tup (gts_cons gt_name (gts_cons gt_name gts_nil))) ((sk_seq (sk_set (gk_call (ak_cons gk_var (ak_cons (gk_call (ak_cons gk_var (ak_cons (gk_op od_fdiv gk_var gk_int) ak_nil))) ak_nil))))
    (sk_set (gk_if (tk_test (gk_op od_eq (gk_op od_mod gk_var gk_int) gk_int)) (gk_call (ak_cons gk_var (ak_cons gk_var ak_nil))) gk_var))) : SOk K _ b_entry_1))
    (sk_seq (sk_if (tk_test (gk_op od_lt (gk_call (ak_cons gk_var (ak_cons gk_var ak_nil))) gk_int)) (sk_set (gk_cb cd_tuple (ak_cons (gk_lc (ik_seq gk_var) gt_name tk_yes (gk_un ud_neg gk_var) (by decide)) ak_nil))) sk_next)
    (sk_ret (gk_tup (ak_cons gk_var (ak_cons gk_var (ak_cons gk_var (ak_cons (gk_call (ak_cons gk_var ak_nil)) ak_nil))))))))))) : SOk K _ b_entry)
theorem sc_integers_of : FnScope nm_integers_of pm_integers_of (defScope s_integers_of) := ⟨rfl, rfl, rfl, by decide +kernel, rfl, by decide +kernel, by decide +kernel⟩
theorem bi_integers_of (T : Txt K mg) : Binds K T.integers_of.fd pm_integers_of [] := T.integers_of.F.binds fun _ _ _ _ _ _ us hl => match us, hl with | [_], _ => rfl
theorem ok_integers_of (T : Txt K mg) : FnOk P w K mg base CX0 2 T.integers_of.f T.integers_of.fd pm_integers_of (spF K r_integers_of) := by
  have nd := sc_integers_of.nd
  refine data_F T.integers_of.F sc_integers_of fun cdv A outer s H E hr => ?_
  refine ⟨_, (pss_cons (ps_set (i := 1) nd rfl (Or.inr rfl) pe_int)
    (pss_cons (ps_for PassesOwn.never rfl (kpi_seq (K := K) rfl (pv 0)) (pg_name (i := 2) nd rfl (Or.inl rfl)) (pss_one (ps_set (i := 1) nd rfl (Or.inr rfl) (pe_op op_mulA (pv 1) (pe_ix (kix (K := K) rfl) (pv 2) pe_int (fun _ _ => rfl))))))
    (pss_one (ps_ret (pe_call (ok_trimmed T) (hr.mono (by decide)) rfl T.trimmed.m T.trimmed.F.kp (bi_trimmed T) .nil pass0 (pa_cons (pe_lc (own := [("top", 3), ("low", 4)]) rfl nd (kpi_seq (K := K) rfl (pv 0)) (blkOk_by (N := nm_integers_of) (sc := defScope s_integers_of) (by decide +kernel)) (fun _ _ _ _ _ => (kpg_tup (K := K) (n := 2) rfl rfl (pgs_cons (pg_name (i := 3) nd rfl (Or.inl rfl)) (pgs_cons (pg_name (i := 4) nd rfl (Or.inl rfl)) pgs_nil)))) (fun _ _ _ _ _ => pts_nil) (fun _ _ _ _ _ => (pe_op op_mulA (pv 3) (pe_op op_fdivA (pv 1) (pv 4))))) pa_nil)))))), ?_⟩
  exact ((sk_seq (sk_set gk_int)
    (sk_seq (sk_for (ik_seq gk_var) gt_name ((sk_set (gk_op od_mul gk_var (gk_op od_ix gk_var gk_int))) : SOk K _ b_integers_of_1))
    (sk_ret (gk_call (ak_cons (gk_lc (ik_seq gk_var) (gt_tup (gts_cons gt_name (gts_cons gt_name gts_nil))) tk_yes (gk_op od_mul gk_var (gk_op od_fdiv gk_var gk_var)) (by decide)) ak_nil))))) : SOk K _ b_integers_of)
theorem sc_knots_of : FnScope nm_knots_of pm_knots_of (defScope s_knots_of) := ⟨rfl, rfl, rfl, by decide +kernel, rfl, by decide +kernel, by decide +kernel⟩
theorem bi_knots_of (T : Txt K mg) : Binds K T.knots_of.fd pm_knots_of [] := T.knots_of.F.binds fun _ _ _ _ _ _ us hl => match us, hl with | [_], _ => rfl
theorem ok_knots_of (T : Txt K mg) : FnOk P w K mg base CX0 3 T.knots_of.f T.knots_of.fd pm_knots_of (spF K r_knots_of) := by
  have nd := sc_knots_of.nd
  refine data_F T.knots_of.F sc_knots_of fun cdv A outer s H E hr => ?_
  refine ⟨_, (pss_cons (ps_set (i := 1) nd rfl (Or.inl rfl) (pe_lst (pa_cons (kpe_fld (K := K) rfl (pv 0) rfl) (pa_cons (kpe_fld (K := K) rfl (pv 0) rfl) (kpa_star (K := K) rfl (pe_lc (own := [("point", 7), ("weight", 8)]) rfl nd (kpi_seq (K := K) rfl (kpe_fld (K := K) rfl (pv 0) rfl)) (blkOk_by (N := nm_knots_of) (sc := defScope s_knots_of) (by decide +kernel)) (fun _ _ _ _ _ => (kpg_tup (K := K) (n := 2) rfl rfl (pgs_cons (pg_name (i := 7) nd rfl (Or.inl rfl)) (pgs_cons (pg_name (i := 8) nd rfl (Or.inl rfl)) pgs_nil)))) (fun _ _ _ _ _ => pts_nil) (fun _ _ _ _ _ => (pv 7))) pa_nil)))))
    (pss_cons (ps_for PassesOwn.never rfl (kpi_seq (K := K) rfl (kpe_fld (K := K) rfl (pv 0) rfl)) (kpg_tup (K := K) (n := 3) rfl rfl (pgs_cons (pg_name (i := 2) nd rfl (Or.inl rfl)) (pgs_cons (pg_name (i := 3) nd rfl (Or.inl rfl)) (pgs_cons (pg_name (i := 4) nd rfl (Or.inl rfl)) pgs_nil)))) (pss_one (ps_set (i := 1) nd rfl (Or.inl rfl) (pe_lst (kpa_star (K := K) rfl (pv 1) (pa_cons (pv 2) (pa_cons (pv 3) pa_nil)))))))
    (pss_cons (ps_set (i := 5) nd rfl (Or.inr rfl) pe_int)
    (pss_cons (ps_for PassesOwn.never rfl (kpi_seq (K := K) rfl (pv 1)) (pg_name (i := 6) nd rfl (Or.inl rfl)) (pss_one (ps_set (i := 5) nd rfl (Or.inr rfl) (pe_op op_mulA (pv 5) (pe_ix (kix (K := K) rfl) (pv 6) pe_int (fun _ _ => rfl))))))
    (pss_one (ps_ret (pe_lc (own := [("count", 11)]) rfl nd (kpi_seq (K := K) rfl (pe_callB (cr_sortedSet rfl) (by rfl) T.sorted (by decide +kernel) (pa_cons (pe_callTy (kcr_setInts (K := K) rfl rfl) (by rfl) T.set (by decide +kernel) (pa_cons (pe_lc (own := [("top", 9), ("low", 10)]) rfl nd (kpi_seq (K := K) rfl (pv 1)) (blkOk_by (N := nm_knots_of) (sc := defScope s_knots_of) (by decide +kernel)) (fun _ _ _ _ _ => (kpg_tup (K := K) (n := 2) rfl rfl (pgs_cons (pg_name (i := 9) nd rfl (Or.inl rfl)) (pgs_cons (pg_name (i := 10) nd rfl (Or.inl rfl)) pgs_nil)))) (fun _ _ _ _ _ => pts_nil) (fun _ _ _ _ _ => (pe_callTy cr_int (by rfl) T.int (by decide +kernel) (pa_cons (pe_op op_mulA (pv 9) (pe_op op_fdivA (pv 5) (pv 10))) pa_nil)))) pa_nil)) pa_nil))) (blkOk_by (N := nm_knots_of) (sc := defScope s_knots_of) (by decide +kernel)) (fun _ _ _ _ _ => (pg_name (i := 11) nd rfl (Or.inl rfl))) (fun _ _ _ _ _ => pts_nil) (fun _ _ _ _ _ => (pe_call (ok_lowest T) (hr.mono (by decide)) rfl T.lowest.m T.lowest.F.kp (bi_lowest T) .nil pass0 (pa_cons (pv 11) (pa_cons (pv 5) pa_nil))))))))))), ?_⟩
  exact ((sk_seq (sk_set (gk_lst (ak_cons (gk_fld T.Rule rfl gk_var) (ak_cons (gk_fld T.Rule rfl gk_var) (ak_star (gk_lc (ik_seq (gk_fld T.Rule rfl gk_var)) (gt_tup (gts_cons gt_name (gts_cons gt_name gts_nil))) tk_yes gk_var (by decide)) ak_nil)))))
    (sk_seq (sk_for (ik_seq (gk_fld T.Rule rfl gk_var)) (gt_tup (gts_cons gt_name (gts_cons gt_name (gts_cons gt_name gts_nil)))) ((sk_set (gk_lst (ak_star gk_var (ak_cons gk_var (ak_cons gk_var ak_nil))))) : SOk K _ b_knots_of_1))
    (sk_seq (sk_set gk_int)
    (sk_seq (sk_for (ik_seq gk_var) gt_name ((sk_set (gk_op od_mul gk_var (gk_op od_ix gk_var gk_int))) : SOk K _ b_knots_of_2))
    (sk_ret (gk_lc (ik_seq (gk_sortSet (ak_cons (gk_lc (ik_seq gk_var) (gt_tup (gts_cons gt_name (gts_cons gt_name gts_nil))) tk_yes (gk_cb cd_int (ak_cons (gk_op od_mul gk_var (gk_op od_fdiv gk_var gk_var)) ak_nil)) (by decide)) ak_nil))) gt_name tk_yes (gk_call (ak_cons gk_var (ak_cons gk_var ak_nil))) (by decide))))))) : SOk K _ b_knots_of)
theorem sc_powered : FnScope nm_powered pm_powered (defScope s_powered) := ⟨rfl, rfl, rfl, by decide +kernel, rfl, by decide +kernel, by decide +kernel⟩
theorem bi_powered (T : Txt K mg) : Binds K T.powered.fd pm_powered [] := T.powered.F.binds fun _ _ _ _ _ _ us hl => match us, hl with | [_, _], _ => rfl
theorem ok_powered (T : Txt K mg) : FnOk P w K mg base CX0 4 T.powered.f T.powered.fd pm_powered (spF K r_powered) := by
  have nd := sc_powered.nd
  refine data_F T.powered.F sc_powered fun cdv A outer s H E hr => ?_
  refine ⟨_, (pss_cons (ps_set (i := 2) nd rfl (Or.inl rfl) (pe_glob rfl T.ONE.m T.ONE.r))
    (pss_cons (ps_for PassesOwn.never rfl (pi_range1 rfl T.range (pa_cons (pv 1) pa_nil)) (pg_name (i := 3) nd rfl (Or.inl rfl)) (pss_one (ps_set (i := 2) nd rfl (Or.inl rfl) (pe_call (ok_multiplied T) (hr.mono (by decide)) rfl T.multiplied.m T.multiplied.F.kp (bi_multiplied T) .nil pass0 (pa_cons (pv 2) (pa_cons (pv 0) pa_nil))))))
    (pss_one (ps_ret (pv 2))))), ?_⟩
  exact ((sk_seq (sk_set (gk_c T.ONE.d))
    (sk_seq (sk_for (ik_range1 (ak_cons gk_var ak_nil)) gt_name ((sk_set (gk_call (ak_cons gk_var (ak_cons gk_var ak_nil)))) : SOk K _ b_powered_1))
    (sk_ret gk_mv))) : SOk K _ b_powered)
theorem sc_ways : FnScope nm_ways pm_ways (defScope s_ways) := ⟨rfl, rfl, rfl, by decide +kernel, rfl, by decide +kernel, by decide +kernel⟩
theorem bi_ways (T : Txt K mg) : Binds K T.ways.fd pm_ways [] := T.ways.F.binds fun _ _ _ _ _ _ us hl => match us, hl with | [_, _], _ => rfl
theorem ok_ways (T : Txt K mg) : FnOk P w K mg base CX0 1 T.ways.f T.ways.fd pm_ways (spF K r_ways) := by
  have nd := sc_ways.nd
  refine data_F T.ways.F sc_ways fun cdv A outer s H E hr => ?_
  refine ⟨_, (pss_cons (ps_set (i := 2) nd rfl (Or.inl rfl) pe_int)
    (pss_cons (ps_for PassesOwn.never rfl (pi_range1 rfl T.range (pa_cons (pv 1) pa_nil)) (pg_name (i := 3) nd rfl (Or.inl rfl)) (pss_one (ps_set (i := 2) nd rfl (Or.inl rfl) (pe_op op_fdivA (pe_op op_mulA (pv 2) (pe_op op_subA (pv 0) (pv 3))) (pe_op (kop_addB (K := K) rfl) (pv 3) pe_int)))))
    (pss_one (ps_ret (pv 2))))), ?_⟩
  exact ((sk_seq (sk_set gk_int)
    (sk_seq (sk_for (ik_range1 (ak_cons gk_var ak_nil)) gt_name ((sk_set (gk_op od_fdiv (gk_op od_mul gk_var (gk_op od_sub gk_var gk_var)) (gk_op od_addB gk_var gk_int))) : SOk K _ b_ways_1))
    (sk_ret gk_mv))) : SOk K _ b_ways)
theorem sc_distance_power : FnScope nm_distance_power pm_distance_power (defScope s_distance_power) := ⟨rfl, rfl, rfl, by decide +kernel, rfl, by decide +kernel, by decide +kernel⟩
theorem bi_distance_power (T : Txt K mg) : Binds K T.distance_power.fd pm_distance_power [] := T.distance_power.F.binds fun _ _ _ _ _ _ us hl => match us, hl with | [_, _, _], _ => rfl
theorem ok_distance_power (T : Txt K mg) : FnOk P w K mg base CX0 5 T.distance_power.f T.distance_power.fd pm_distance_power (spF K r_distance_power) := by
  have nd := sc_distance_power.nd
  refine data_F T.distance_power.F sc_distance_power fun cdv A outer s H E hr => ?_
  refine ⟨_, (pss_cons (ps_set (i := 3) nd rfl (Or.inl rfl) (pe_lst pa_nil))
    (pss_cons (ps_for PassesOwn.never rfl (pi_range1 rfl T.range (pa_cons (pe_op (kop_addB (K := K) rfl) (pv 1) pe_int) pa_nil)) (pg_name (i := 4) nd rfl (Or.inl rfl)) (pss_cons (ps_set (i := 5) nd rfl (Or.inl rfl) (pe_ifExp (pt_cmpR (kop_eq (K := K) rfl hr.units) (pe_op op_modA (pv 4) pe_int) pe_int (nomark _)) pe_int (pe_un un_neg pe_int)))
    (pss_one (ps_expr (kpe_app (K := K) rfl (pv 3) (pe_call (ok_multiplied T) (hr.mono (by decide)) rfl T.multiplied.m T.multiplied.F.kp (bi_multiplied T) .nil pass0 (pa_cons (pe_call (ok_multiplied T) (hr.mono (by decide)) rfl T.multiplied.m T.multiplied.F.kp (bi_multiplied T) .nil pass0 (pa_cons (pe_tup (pa_cons (pe_op op_mulA (pv 5) (pe_call (ok_ways T) (hr.mono (by decide)) rfl T.ways.m T.ways.F.kp (bi_ways T) .nil pass0 (pa_cons (pv 1) (pa_cons (pv 4) pa_nil)))) (pa_cons pe_int pa_nil))) (pa_cons (pe_call (ok_powered T) (hr.mono (by decide)) rfl T.powered.m T.powered.F.kp (bi_powered T) .nil pass0 (pa_cons (pv 0) (pa_cons (pe_op op_subA (pv 1) (pv 4)) pa_nil))) pa_nil))) (pa_cons (pv 2) pa_nil))))))))
    (pss_one (ps_ret (pv 3))))), ?_⟩
  exact ((sk_seq (sk_set (gk_lst ak_nil))
    (sk_seq (sk_for (ik_range1 (ak_cons (gk_op od_addB gk_var gk_int) ak_nil)) gt_name ((sk_seq (sk_set (gk_if (tk_test (gk_op od_eq (gk_op od_mod gk_var gk_int) gk_int)) gk_int (gk_un ud_neg gk_int)))
    (sk_app (gk_call (ak_cons (gk_call (ak_cons (gk_tup (ak_cons (gk_op od_mul gk_var (gk_call (ak_cons gk_var (ak_cons gk_var ak_nil)))) (ak_cons gk_int ak_nil))) (ak_cons (gk_call (ak_cons gk_var (ak_cons (gk_op od_sub gk_var gk_var) ak_nil))) ak_nil))) (ak_cons gk_var ak_nil))))) : SOk K _ b_distance_power_1))
    (sk_ret gk_mv))) : SOk K _ b_distance_power)
theorem sc_less_by : FnScope nm_less_by pm_less_by (defScope s_less_by) := ⟨rfl, rfl, rfl, by decide +kernel, rfl, by decide +kernel, by decide +kernel⟩
theorem bi_less_by (T : Txt K mg) : Binds K T.less_by.fd pm_less_by [] := T.less_by.F.binds fun _ _ _ _ _ _ us hl => match us, hl with | [_, _], _ => rfl
theorem ok0_less_by (T : Txt K mg) : FnOk P w K mg base CX0 3 T.less_by.f T.less_by.fd pm_less_by (spF K r0_less_by) := by
  have nd := sc_less_by.nd
  refine data_F T.less_by.F sc_less_by fun cdv A outer s H E hr => ?_
  refine ⟨_, (pss_one (ps_ret (pe_call (ok_lowest T) (hr.mono (by decide)) rfl T.lowest.m T.lowest.F.kp (bi_lowest T) .nil pass0 (pa_cons (pe_op op_subA (pe_op op_mulA (pe_ix (kix (K := K) rfl) (pv 0) pe_int (fun _ _ => rfl)) (pe_ix (kix (K := K) rfl) (pv 1) pe_int (fun _ _ => rfl))) (pe_op op_mulA (pe_ix (kix (K := K) rfl) (pv 1) pe_int (fun _ _ => rfl)) (pe_ix (kix (K := K) rfl) (pv 0) pe_int (fun _ _ => rfl)))) (pa_cons (pe_op op_mulA (pe_ix (kix (K := K) rfl) (pv 0) pe_int (fun _ _ => rfl)) (pe_ix (kix (K := K) rfl) (pv 1) pe_int (fun _ _ => rfl))) pa_nil))))), ?_⟩
  exact ((sk_ret (gk_call (ak_cons (gk_op od_sub (gk_op od_mul (gk_op od_ix gk_var gk_int) (gk_op od_ix gk_var gk_int)) (gk_op od_mul (gk_op od_ix gk_var gk_int) (gk_op od_ix gk_var gk_int))) (ak_cons (gk_op od_mul (gk_op od_ix gk_var gk_int) (gk_op od_ix gk_var gk_int)) ak_nil)))) : SOk K _ b_less_by)
theorem ok_less_by (T : Txt K mg) : FnOk P w K mg base CX0 3 T.less_by.f T.less_by.fd pm_less_by (spF K r_less_by) := imp_F (ok0_less_by T) le_less_by
theorem sc_sum_of : FnScope nm_sum_of pm_sum_of (defScope s_sum_of) := ⟨rfl, rfl, rfl, by decide +kernel, rfl, by decide +kernel, by decide +kernel⟩
theorem bi_sum_of (T : Txt K mg) : Binds K T.sum_of.fd pm_sum_of [] := T.sum_of.F.binds fun _ _ _ _ _ _ us hl => match us, hl with | [_, _], _ => rfl
theorem ok_sum_of (T : Txt K mg) : FnOk P w K mg base CX0 4 T.sum_of.f T.sum_of.fd pm_sum_of (spF K r_sum_of) := by
  have nd := sc_sum_of.nd
  refine data_F T.sum_of.F sc_sum_of fun cdv A outer s H E hr => ?_
  refine ⟨_, (pss_cons (ps_set (i := 2) nd rfl (Or.inl rfl) (pe_lst (kpa_star (K := K) rfl (pv 0) (kpa_star (K := K) rfl (pe_lc (own := [("spot", 3)]) rfl nd (pi_range1 rfl T.range (pa_cons (pe_op op_subA (pe_callB (kcr_len (K := K) rfl) (by rfl) T.len (by decide +kernel) (pa_cons (pv 1) pa_nil)) (pe_callB (kcr_len (K := K) rfl) (by rfl) T.len (by decide +kernel) (pa_cons (pv 0) pa_nil))) pa_nil)) (blkOk_by (N := nm_sum_of) (sc := defScope s_sum_of) (by decide +kernel)) (fun _ _ _ _ _ => (pg_name (i := 3) nd rfl (Or.inl rfl))) (fun _ _ _ _ _ => pts_nil) (fun _ _ _ _ _ => (pe_glob rfl T.NOUGHT.m T.NOUGHT.r))) pa_nil))))
    (pss_one (ps_ret (pe_lc (own := [("here", 4), ("there", 5)]) rfl nd (kpi_zipA (K := K) rfl rfl T.zip (pa_cons (pv 2) (pa_cons (pv 1) pa_nil))) (blkOk_by (N := nm_sum_of) (sc := defScope s_sum_of) (by decide +kernel)) (fun _ _ _ _ _ => (kpg_tup (K := K) (n := 2) rfl rfl (pgs_cons (pg_name (i := 4) nd rfl (Or.inl rfl)) (pgs_cons (pg_name (i := 5) nd rfl (Or.inl rfl)) pgs_nil)))) (fun _ _ _ _ _ => pts_nil) (fun _ _ _ _ _ => (pe_call (ok_added T) (hr.mono (by decide)) rfl T.added.m T.added.F.kp (bi_added T) .nil pass0 (pa_cons (pv 4) (pa_cons (pv 5) pa_nil)))))))), ?_⟩
  exact ((sk_seq (sk_set (gk_lst (ak_star gk_var (ak_star (gk_lc (ik_range1 (ak_cons (gk_op od_sub (gk_cb cd_len (ak_cons gk_var ak_nil)) (gk_cb cd_len (ak_cons gk_var ak_nil))) ak_nil)) gt_name tk_yes (gk_c T.NOUGHT.d) (by decide)) ak_nil))))
    (sk_ret (gk_lc (ik_zipA (ak_cons gk_var (ak_cons gk_var ak_nil))) (gt_tup (gts_cons gt_name (gts_cons gt_name gts_nil))) tk_yes (gk_call (ak_cons gk_var (ak_cons gk_var ak_nil))) (by decide)))) : SOk K _ b_sum_of)
theorem sc_piece : FnScope nm_piece pm_piece (defScope s_piece) := ⟨rfl, rfl, rfl, by decide +kernel, rfl, by decide +kernel, by decide +kernel⟩
theorem bi_piece (T : Txt K mg) : Binds K T.piece.fd pm_piece [] := T.piece.F.binds fun _ _ _ _ _ _ us hl => match us, hl with | [_, _, _, _], _ => rfl
theorem ok_piece (T : Txt K mg) : FnOk P w K mg base CX0 6 T.piece.f T.piece.fd pm_piece (spF K r_piece) := by
  have nd := sc_piece.nd
  refine data_F T.piece.F sc_piece fun cdv A outer s H E hr => ?_
  refine ⟨_, (pss_cons (ps_setLc (i := 4) (own := [("spot", 11)]) rfl nd rfl rfl (sw_true rfl rfl rfl (by decide +kernel)) (pi_range1 rfl T.range (pa_cons (pe_op (kop_addB (K := K) rfl) (pv 1) pe_int) pa_nil)) (blkOk_by (N := nm_piece) (sc := defScope s_piece) (by decide +kernel)) (fun _ _ _ _ _ => (pg_name (i := 11) nd rfl (Or.inl rfl))) (fun _ _ _ _ _ => pts_nil) (fun _ _ _ _ _ => (pe_glob rfl T.NOUGHT.m T.NOUGHT.r)))
    (pss_cons (ps_for PassesOwn.never rfl (kpi_seq (K := K) rfl (kpe_fld (K := K) rfl (pv 0) rfl)) (kpg_tup (K := K) (n := 2) rfl rfl (pgs_cons (pg_name (i := 5) nd rfl (Or.inl rfl)) (pgs_cons (pg_name (i := 6) nd rfl (Or.inl rfl)) pgs_nil))) (pss_one (ps_if (pt_not (kpt_tru (K := K) rfl (pe_call (ok_is_less T) (hr.mono (by decide)) rfl T.is_less.m T.is_less.F.kp (bi_is_less T) .nil pass0 (pa_cons (pv 5) (pa_cons (pv 3) pa_nil))) (by intro _; rfl))) (pss_one (ps_set (i := 4) nd rfl (Or.inl rfl) (pe_call (ok_sum_of T) (hr.mono (by decide)) rfl T.sum_of.m T.sum_of.F.kp (bi_sum_of T) .nil pass0 (pa_cons (pe_call (ok_distance_power T) (hr.mono (by decide)) rfl T.distance_power.m T.distance_power.F.kp (bi_distance_power T) .nil pass0 (pa_cons (pv 5) (pa_cons (pe_op op_subA (pv 1) pe_int) (pa_cons (pv 6) pa_nil)))) (pa_cons (pv 4) pa_nil))))) pss_nil)))
    (pss_cons (ps_for PassesOwn.never rfl (kpi_seq (K := K) rfl (kpe_fld (K := K) rfl (pv 0) rfl)) (kpg_tup (K := K) (n := 3) rfl rfl (pgs_cons (pg_name (i := 7) nd rfl (Or.inl rfl)) (pgs_cons (pg_name (i := 8) nd rfl (Or.inl rfl)) (pgs_cons (pg_name (i := 9) nd rfl (Or.inl rfl)) pgs_nil)))) (pss_cons (ps_set (i := 10) nd rfl (Or.inl rfl) (pe_call (ok_multiplied T) (hr.mono (by decide)) rfl T.multiplied.m T.multiplied.F.kp (bi_multiplied T) .nil pass0 (pa_cons (pv 9) (pa_cons (pe_tup (pa_cons pe_int (pa_cons (pv 1) pa_nil))) pa_nil))))
    (pss_cons (ps_if (pt_not (kpt_tru (K := K) rfl (pe_call (ok_is_less T) (hr.mono (by decide)) rfl T.is_less.m T.is_less.F.kp (bi_is_less T) .nil pass0 (pa_cons (pv 8) (pa_cons (pv 3) pa_nil))) (by intro _; rfl))) (pss_one (ps_set (i := 4) nd rfl (Or.inl rfl) (pe_call (ok_sum_of T) (hr.mono (by decide)) rfl T.sum_of.m T.sum_of.F.kp (bi_sum_of T) .nil pass0 (pa_cons (pe_call (ok_distance_power T) (hr.mono (by decide)) rfl T.distance_power.m T.distance_power.F.kp (bi_distance_power T) .nil pass0 (pa_cons (pv 8) (pa_cons (pv 1) (pa_cons (pv 10) pa_nil)))) (pa_cons (pv 4) pa_nil))))) pss_nil)
    (pss_one (ps_if (pt_not (kpt_tru (K := K) rfl (pe_call (ok_is_less T) (hr.mono (by decide)) rfl T.is_less.m T.is_less.F.kp (bi_is_less T) .nil pass0 (pa_cons (pv 7) (pa_cons (pv 3) pa_nil))) (by intro _; rfl))) (pss_one (ps_set (i := 4) nd rfl (Or.inl rfl) (pe_call (ok_sum_of T) (hr.mono (by decide)) rfl T.sum_of.m T.sum_of.F.kp (bi_sum_of T) .nil pass0 (pa_cons (pe_call (ok_distance_power T) (hr.mono (by decide)) rfl T.distance_power.m T.distance_power.F.kp (bi_distance_power T) .nil pass0 (pa_cons (pv 7) (pa_cons (pv 1) (pa_cons (pe_call (ok_less_by T) (hr.mono (by decide)) rfl T.less_by.m T.less_by.F.kp (bi_less_by T) .nil pass0 (pa_cons (pe_glob rfl T.NOUGHT.m T.NOUGHT.r) (pa_cons (pv 10) pa_nil))) pa_nil)))) (pa_cons (pv 4) pa_nil))))) pss_nil)))))
    (pss_one (ps_ret (pe_callTy (kcr_tuple (K := K) rfl) (by rfl) T.tuple (by decide +kernel) (pa_cons (pv 4) pa_nil))))))), ?_⟩
  exact ((sk_seq (sk_set (gk_lc (ik_range1 (ak_cons (gk_op od_addB gk_var gk_int) ak_nil)) gt_name tk_yes (gk_c T.NOUGHT.d) (by decide)))
    (sk_seq (sk_for (ik_seq (gk_fld T.Rule rfl gk_var)) (gt_tup (gts_cons gt_name (gts_cons gt_name gts_nil))) ((sk_if (tk_not (tk_truK (gk_call (ak_cons gk_var (ak_cons gk_var ak_nil))))) (sk_set (gk_call (ak_cons (gk_call (ak_cons gk_var (ak_cons (gk_op od_sub gk_var gk_int) (ak_cons gk_var ak_nil)))) (ak_cons gk_var ak_nil)))) sk_next) : SOk K _ b_piece_1))
    (sk_seq (sk_for (ik_seq (gk_fld T.Rule rfl gk_var)) (gt_tup (gts_cons gt_name (gts_cons gt_name (gts_cons gt_name gts_nil)))) ((sk_seq (sk_set (gk_call (ak_cons gk_var (ak_cons (gk_tup (ak_cons gk_int (ak_cons gk_var ak_nil))) ak_nil))))
    (sk_seq (sk_if (tk_not (tk_truK (gk_call (ak_cons gk_var (ak_cons gk_var ak_nil))))) (sk_set (gk_call (ak_cons (gk_call (ak_cons gk_var (ak_cons gk_var (ak_cons gk_var ak_nil)))) (ak_cons gk_var ak_nil)))) sk_next)
    (sk_if (tk_not (tk_truK (gk_call (ak_cons gk_var (ak_cons gk_var ak_nil))))) (sk_set (gk_call (ak_cons (gk_call (ak_cons gk_var (ak_cons gk_var (ak_cons (gk_call (ak_cons (gk_c T.NOUGHT.d) (ak_cons gk_var ak_nil))) ak_nil)))) (ak_cons gk_var ak_nil)))) sk_next))) : SOk K _ b_piece_2))
    (sk_ret (gk_cb cd_tuple (ak_cons gk_var ak_nil)))))) : SOk K _ b_piece)
theorem sc_kernel : FnScope nm_kernel pm_kernel (defScope s_kernel) := ⟨rfl, rfl, rfl, by decide +kernel, rfl, by decide +kernel, by decide +kernel⟩
theorem bi_kernel (T : Txt K mg) : Binds K T.kernel.fd pm_kernel [] := T.kernel.F.binds fun _ _ _ _ _ _ us hl => match us, hl with | [_, _], _ => rfl
theorem ok_kernel (T : Txt K mg) : FnOk P w K mg base CX0 7 T.kernel.f T.kernel.fd pm_kernel (spF K r_kernel) := by
  have nd := sc_kernel.nd
  refine data_F T.kernel.F sc_kernel fun cdv A outer s H E hr => ?_
  refine ⟨_, (pss_cons (ps_set (i := 2) nd rfl (Or.inl rfl) (pe_call (ok_knots_of T) (hr.mono (by decide)) rfl T.knots_of.m T.knots_of.F.kp (bi_knots_of T) .nil pass0 (pa_cons (pv 0) pa_nil)))
    (pss_one (ps_ret (pe_callTy (kcr_tuple (K := K) rfl) (by rfl) T.tuple (by decide +kernel) (pa_cons (pe_lc (own := [("start", 3), ("end", 4)]) rfl nd (kpi_zipA (K := K) rfl rfl T.zip (pa_cons (pv 2) (pa_cons (pe_slice (ksl_B (K := K) rfl) (pv 2) (po_some pe_int) po_none) pa_nil))) (blkOk_by (N := nm_kernel) (sc := defScope s_kernel) (by decide +kernel)) (fun _ _ _ _ _ => (kpg_tup (K := K) (n := 2) rfl rfl (pgs_cons (pg_name (i := 3) nd rfl (Or.inl rfl)) (pgs_cons (pg_name (i := 4) nd rfl (Or.inl rfl)) pgs_nil)))) (fun _ _ _ _ _ => pts_nil) (fun _ _ _ _ _ => (pe_tup (pa_cons (pv 3) (pa_cons (pv 4) (pa_cons (pe_call (ok_piece T) (hr.mono (by decide)) rfl T.piece.m T.piece.F.kp (bi_piece T) .nil pass0 (pa_cons (pv 0) (pa_cons (pv 1) (pa_cons (pv 3) (pa_cons (pv 4) pa_nil))))) pa_nil)))))) pa_nil))))), ?_⟩
  exact ((sk_seq (sk_set (gk_call (ak_cons gk_var ak_nil)))
    (sk_ret (gk_cb cd_tuple (ak_cons (gk_lc (ik_zipA (ak_cons gk_var (ak_cons (gk_sl sd_B gk_var (pk_some gk_int) pk_none) ak_nil))) (gt_tup (gts_cons gt_name (gts_cons gt_name gts_nil))) tk_yes (gk_tup (ak_cons gk_var (ak_cons gk_var (ak_cons (gk_call (ak_cons gk_var (ak_cons gk_var (ak_cons gk_var (ak_cons gk_var ak_nil))))) ak_nil)))) (by decide)) ak_nil)))) : SOk K _ b_kernel)
theorem sc_quotient : FnScope nm_quotient pm_quotient (defScope s_quotient) := ⟨rfl, rfl, rfl, by decide +kernel, rfl, by decide +kernel, by decide +kernel⟩
theorem bi_quotient (T : Txt K mg) : Binds K T.quotient.fd pm_quotient [] := T.quotient.F.binds fun _ _ _ _ _ _ us hl => match us, hl with | [_, _], _ => rfl
theorem ok0_quotient (T : Txt K mg) : FnOk P w K mg base CX0 3 T.quotient.f T.quotient.fd pm_quotient (spF K r0_quotient) := by
  have nd := sc_quotient.nd
  refine data_F T.quotient.F sc_quotient fun cdv A outer s H E hr => ?_
  refine ⟨_, (pss_one (ps_ret (pe_call (ok_lowest T) (hr.mono (by decide)) rfl T.lowest.m T.lowest.F.kp (bi_lowest T) .nil pass0 (pa_cons (pe_op op_mulA (pe_ix (kix (K := K) rfl) (pv 0) pe_int (fun _ _ => rfl)) (pe_ix (kix (K := K) rfl) (pv 1) pe_int (fun _ _ => rfl))) (pa_cons (pe_op op_mulA (pe_ix (kix (K := K) rfl) (pv 0) pe_int (fun _ _ => rfl)) (pe_ix (kix (K := K) rfl) (pv 1) pe_int (fun _ _ => rfl))) pa_nil))))), ?_⟩
  exact ((sk_ret (gk_call (ak_cons (gk_op od_mul (gk_op od_ix gk_var gk_int) (gk_op od_ix gk_var gk_int)) (ak_cons (gk_op od_mul (gk_op od_ix gk_var gk_int) (gk_op od_ix gk_var gk_int)) ak_nil)))) : SOk K _ b_quotient)
theorem ok_quotient (T : Txt K mg) : FnOk P w K mg base CX0 3 T.quotient.f T.quotient.fd pm_quotient (spF K r_quotient) := imp_F (ok0_quotient T) le_quotient
theorem sc_area_powers : FnScope nm_area_powers pm_area_powers (defScope s_area_powers) := ⟨rfl, rfl, rfl, by decide +kernel, rfl, by decide +kernel, by decide +kernel⟩
theorem bi_area_powers (T : Txt K mg) : Binds K T.area_powers.fd pm_area_powers [] := T.area_powers.F.binds fun _ _ _ _ _ _ us hl => match us, hl with | [_], _ => rfl
theorem ok_area_powers (T : Txt K mg) : FnOk P w K mg base CX0 4 T.area_powers.f T.area_powers.fd pm_area_powers (spF K r_area_powers) := by
  have nd := sc_area_powers.nd
  refine data_F T.area_powers.F sc_area_powers fun cdv A outer s H E hr => ?_
  refine ⟨_, (pss_one (ps_ret (pe_lst (pa_cons (pe_glob rfl T.NOUGHT.m T.NOUGHT.r) (kpa_star (K := K) rfl (pe_lc (own := [("at", 1), ("one", 2)]) rfl nd (kpi_enumA (K := K) rfl rfl T.enumerate (pa_cons (pv 0) pa_nil)) (blkOk_by (N := nm_area_powers) (sc := defScope s_area_powers) (by decide +kernel)) (fun _ _ _ _ _ => (kpg_tup (K := K) (n := 2) rfl rfl (pgs_cons (pg_name (i := 1) nd rfl (Or.inl rfl)) (pgs_cons (pg_name (i := 2) nd rfl (Or.inl rfl)) pgs_nil)))) (fun _ _ _ _ _ => pts_nil) (fun _ _ _ _ _ => (pe_call (ok_quotient T) (hr.mono (by decide)) rfl T.quotient.m T.quotient.F.kp (bi_quotient T) .nil pass0 (pa_cons (pv 2) (pa_cons (pe_tup (pa_cons (pe_op (kop_addB (K := K) rfl) (pv 1) pe_int) (pa_cons pe_int pa_nil))) pa_nil))))) pa_nil))))), ?_⟩
  exact ((sk_ret (gk_lst (ak_cons (gk_c T.NOUGHT.d) (ak_star (gk_lc (ik_enumA (ak_cons gk_var ak_nil)) (gt_tup (gts_cons gt_name (gts_cons gt_name gts_nil))) tk_yes (gk_call (ak_cons gk_var (ak_cons (gk_tup (ak_cons (gk_op od_addB gk_var gk_int) (ak_cons gk_int ak_nil))) ak_nil))) (by decide)) ak_nil)))) : SOk K _ b_area_powers)
theorem sc_value_at_rules : FnScope nm_value_at_rules pm_value_at_rules (defScope s_value_at_rules) := ⟨rfl, rfl, rfl, by decide +kernel, rfl, by decide +kernel, by decide +kernel⟩
theorem bi_value_at_rules (T : Txt K mg) : Binds K T.value_at_rules.fd pm_value_at_rules [] := T.value_at_rules.F.binds fun _ _ _ _ _ _ us hl => match us, hl with | [_, _], _ => rfl
theorem ok_value_at_rules (T : Txt K mg) : FnOk P w K mg base CX0 4 T.value_at_rules.f T.value_at_rules.fd pm_value_at_rules (spF K r_value_at_rules) := by
  have nd := sc_value_at_rules.nd
  refine data_F T.value_at_rules.F sc_value_at_rules fun cdv A outer s H E hr => ?_
  refine ⟨_, (pss_cons (ps_set (i := 2) nd rfl (Or.inl rfl) (pe_glob rfl T.NOUGHT.m T.NOUGHT.r))
    (pss_cons (ps_for PassesOwn.never rfl (kpi_seq (K := K) rfl (kpe_rev (K := K) rfl (pv 0) (pe_un un_neg pe_int))) (pg_name (i := 3) nd rfl (Or.inl rfl)) (pss_one (ps_set (i := 2) nd rfl (Or.inl rfl) (pe_call (ok_added T) (hr.mono (by decide)) rfl T.added.m T.added.F.kp (bi_added T) .nil pass0 (pa_cons (pe_call (ok_multiplied T) (hr.mono (by decide)) rfl T.multiplied.m T.multiplied.F.kp (bi_multiplied T) .nil pass0 (pa_cons (pv 2) (pa_cons (pv 1) pa_nil))) (pa_cons (pv 3) pa_nil))))))
    (pss_one (ps_ret (pv 2))))), ?_⟩
  exact ((sk_seq (sk_set (gk_c T.NOUGHT.d))
    (sk_seq (sk_for (ik_seq (gk_rev gk_var (gk_un ud_neg gk_int))) gt_name ((sk_set (gk_call (ak_cons (gk_call (ak_cons gk_var (ak_cons gk_var ak_nil))) (ak_cons gk_var ak_nil)))) : SOk K _ b_value_at_rules_1))
    (sk_ret gk_mv))) : SOk K _ b_value_at_rules)
theorem sc_told : FnScope nm_told pm_told (defScope s_told) := ⟨rfl, rfl, rfl, by decide +kernel, rfl, by decide +kernel, by decide +kernel⟩
theorem bi_told (T : Txt K mg) : Binds K T.told.fd pm_told [] := T.told.F.binds fun _ _ _ _ _ _ us hl => match us, hl with | [_, _], _ => rfl
theorem ok_told (T : Txt K mg) : FnOk P w K mg base CX0 5 T.told.f T.told.fd pm_told (spF K r_told) := by
  have nd := sc_told.nd
  refine data_F T.told.F sc_told fun cdv A outer s H E hr => ?_
  refine ⟨_, (pss_cons (ps_set (i := 2) nd rfl (Or.inr rfl) (pe_lc (own := [("one", 8)]) rfl nd (kpi_seq (K := K) rfl (pv 1)) (blkOk_by (N := nm_told) (sc := defScope s_told) (by decide +kernel)) (fun _ _ _ _ _ => (pg_name (i := 8) nd rfl (Or.inl rfl))) (fun _ _ _ _ _ => pts_nil) (fun _ _ _ _ _ => (pe_call (ok_value_of T) (hr.mono (by decide)) rfl T.value_of.m T.value_of.F.kp (bi_value_of T) .nil pass0 (pa_cons (pv 8) pa_nil)))))
    (pss_cons (ps_set (i := 3) nd rfl (Or.inl rfl) (pe_call (ok_area_powers T) (hr.mono (by decide)) rfl T.area_powers.m T.area_powers.F.kp (bi_area_powers T) .nil pass0 (pa_cons (pv 2) pa_nil)))
    (pss_cons (ps_setLc (i := 4) (own := [("point", 9), ("weight", 10)]) rfl nd rfl rfl (sw_true rfl rfl rfl (by decide +kernel)) (kpi_seq (K := K) rfl (kpe_fld (K := K) rfl (pv 0) rfl)) (blkOk_by (N := nm_told) (sc := defScope s_told) (by decide +kernel)) (fun _ _ _ _ _ => (kpg_tup (K := K) (n := 2) rfl rfl (pgs_cons (pg_name (i := 9) nd rfl (Or.inl rfl)) (pgs_cons (pg_name (i := 10) nd rfl (Or.inl rfl)) pgs_nil)))) (fun _ _ _ _ _ => pts_nil) (fun _ _ _ _ _ => (pe_call (ok_multiplied T) (hr.mono (by decide)) rfl T.multiplied.m T.multiplied.F.kp (bi_multiplied T) .nil pass0 (pa_cons (pv 10) (pa_cons (pe_call (ok_value_at_rules T) (hr.mono (by decide)) rfl T.value_at_rules.m T.value_at_rules.F.kp (bi_value_at_rules T) .nil pass0 (pa_cons (pv 2) (pa_cons (pv 9) pa_nil))) pa_nil)))))
    (pss_cons (ps_for PassesOwn.never rfl (kpi_seq (K := K) rfl (kpe_fld (K := K) rfl (pv 0) rfl)) (kpg_tup (K := K) (n := 3) rfl rfl (pgs_cons (pg_name (i := 5) nd rfl (Or.inl rfl)) (pgs_cons (pg_name (i := 6) nd rfl (Or.inl rfl)) (pgs_cons (pg_name (i := 7) nd rfl (Or.inl rfl)) pgs_nil)))) (pss_one (ps_expr (kpe_app (K := K) rfl (pv 4) (pe_call (ok_multiplied T) (hr.mono (by decide)) rfl T.multiplied.m T.multiplied.F.kp (bi_multiplied T) .nil pass0 (pa_cons (pv 7) (pa_cons (pe_call (ok_less_by T) (hr.mono (by decide)) rfl T.less_by.m T.less_by.F.kp (bi_less_by T) .nil pass0 (pa_cons (pe_call (ok_value_at_rules T) (hr.mono (by decide)) rfl T.value_at_rules.m T.value_at_rules.F.kp (bi_value_at_rules T) .nil pass0 (pa_cons (pv 3) (pa_cons (pv 6) pa_nil))) (pa_cons (pe_call (ok_value_at_rules T) (hr.mono (by decide)) rfl T.value_at_rules.m T.value_at_rules.F.kp (bi_value_at_rules T) .nil pass0 (pa_cons (pv 3) (pa_cons (pv 5) pa_nil))) pa_nil))) pa_nil)))))))
    (pss_one (ps_ret (pe_call (ok_summed T) (hr.mono (by decide)) rfl T.summed.m T.summed.F.kp (bi_summed T) .nil pass0 (pa_cons (pv 4) pa_nil)))))))), ?_⟩
  exact ((sk_seq (sk_set (gk_lc (ik_seq gk_var) gt_name tk_yes (gk_call (ak_cons gk_var ak_nil)) (by decide)))
    (sk_seq (sk_set (gk_call (ak_cons gk_var ak_nil)))
    (sk_seq (sk_set (gk_lc (ik_seq (gk_fld T.Rule rfl gk_var)) (gt_tup (gts_cons gt_name (gts_cons gt_name gts_nil))) tk_yes (gk_call (ak_cons gk_var (ak_cons (gk_call (ak_cons gk_var (ak_cons gk_var ak_nil))) ak_nil))) (by decide)))
    (sk_seq (sk_for (ik_seq (gk_fld T.Rule rfl gk_var)) (gt_tup (gts_cons gt_name (gts_cons gt_name (gts_cons gt_name gts_nil)))) ((sk_app (gk_call (ak_cons gk_var (ak_cons (gk_call (ak_cons (gk_call (ak_cons gk_var (ak_cons gk_var ak_nil))) (ak_cons (gk_call (ak_cons gk_var (ak_cons gk_var ak_nil))) ak_nil))) ak_nil)))) : SOk K _ b_told_1))
    (sk_ret (gk_call (ak_cons gk_var ak_nil))))))) : SOk K _ b_told)
theorem sc_degree : FnScope nm_degree pm_degree (defScope s_degree) := ⟨rfl, rfl, rfl, by decide +kernel, rfl, by decide +kernel, by decide +kernel⟩
theorem bi_degree (T : Txt K mg) : Binds K T.degree.fd pm_degree [] := T.degree.F.binds fun _ _ _ _ _ _ us hl => match us, hl with | [_], _ => rfl
theorem ok_degree (T : Txt K mg) : FnOk P w K mg base CX0 6 T.degree.f T.degree.fd pm_degree (spF K r_degree) := by
  have nd := sc_degree.nd
  refine data_F T.degree.F sc_degree fun cdv A outer s H E hr => ?_
  refine ⟨_, (pss_cons (ps_if (pt_cmpR (kop_eq (K := K) rfl hr.units) (pe_op (kop_addB (K := K) rfl) (pe_callB (kcr_len (K := K) rfl) (by rfl) T.len (by decide +kernel) (pa_cons (kpe_fld (K := K) rfl (pv 0) rfl) pa_nil)) (pe_callB (kcr_len (K := K) rfl) (by rfl) T.len (by decide +kernel) (pa_cons (kpe_fld (K := K) rfl (pv 0) rfl) pa_nil))) pe_int (nomark _)) (pss_one (ps_ret pe_non)) pss_nil)
    (pss_cons (ps_set (i := 1) nd rfl (Or.inl rfl) (pe_lst (pa_cons (pe_glob rfl T.ONE.m T.ONE.r) pa_nil)))
    (pss_cons (ps_while PassesOwn.never (pt_cmpR (kop_eq (K := K) rfl hr.units) (pe_call (ok_told T) (hr.mono (by decide)) rfl T.told.m T.told.F.kp (bi_told T) .nil pass0 (pa_cons (pv 0) (pa_cons (pv 1) pa_nil))) (pe_glob rfl T.NOUGHT.m T.NOUGHT.r) (nomark _)) (pss_one (ps_set (i := 1) nd rfl (Or.inl rfl) (pe_lst (pa_cons (pe_glob rfl T.NOUGHT.m T.NOUGHT.r) (kpa_star (K := K) rfl (pv 1) pa_nil))))))
    (pss_one (ps_ret (pe_op op_subA (pe_callB (kcr_len (K := K) rfl) (by rfl) T.len (by decide +kernel) (pa_cons (pv 1) pa_nil)) pe_int)))))), ?_⟩
  exact ((sk_seq (sk_if (tk_test (gk_op od_eq (gk_op od_addB (gk_cb cd_len (ak_cons (gk_fld T.Rule rfl gk_var) ak_nil)) (gk_cb cd_len (ak_cons (gk_fld T.Rule rfl gk_var) ak_nil))) gk_int)) (sk_ret gk_non) sk_next)
    (sk_seq (sk_set (gk_lst (ak_cons (gk_c T.ONE.d) ak_nil)))
    (sk_seq (sk_while (fun _ => 1000) (tk_test (gk_op od_eq (gk_call (ak_cons gk_var (ak_cons gk_var ak_nil))) (gk_c T.NOUGHT.d))) ((sk_set (gk_lst (ak_cons (gk_c T.NOUGHT.d) (ak_star gk_var ak_nil)))) : SOk K _ b_degree_1))
    (sk_ret (gk_op od_sub (gk_cb cd_len (ak_cons gk_var ak_nil)) gk_int))))) : SOk K _ b_degree)
theorem sc_is_exact_enough : FnScope nm_is_exact_enough pm_is_exact_enough (defScope s_is_exact_enough) := ⟨rfl, rfl, rfl, by decide +kernel, rfl, by decide +kernel, by decide +kernel⟩
theorem bi_is_exact_enough (T : Txt K mg) : Binds K T.is_exact_enough.fd pm_is_exact_enough [] := T.is_exact_enough.F.binds fun _ _ _ _ _ _ us hl => match us, hl with | [_, _], _ => rfl
theorem ok_is_exact_enough (T : Txt K mg) : FnOk P w K mg base CX0 7 T.is_exact_enough.f T.is_exact_enough.fd pm_is_exact_enough (spF K r_is_exact_enough) := by
  have nd := sc_is_exact_enough.nd
  refine data_F T.is_exact_enough.F sc_is_exact_enough fun cdv A outer s H E hr => ?_
  refine ⟨_, (pss_cons (ps_set (i := 2) nd rfl (Or.inl rfl) (pe_call (ok_degree T) (hr.mono (by decide)) rfl T.degree.m T.degree.F.kp (bi_degree T) .nil pass0 (pa_cons (pv 0) pa_nil)))
    (pss_one (ps_ret (pe_or (pe_cmpR op_isA (pv 2) pe_non (nomark _)) (pe_one (pe_cmpR op_ge (pv 2) (pe_op op_subA (pv 1) pe_int) (nomark _))))))), ?_⟩
  exact ((sk_seq (sk_set (gk_call (ak_cons gk_var ak_nil)))
    (sk_ret (gk_vor (gk_op od_is gk_var gk_non) (gk_op od_ge gk_var (gk_op od_sub gk_var gk_int))))) : SOk K _ b_is_exact_enough)
theorem sc_sign_changes : FnScope nm_sign_changes pm_sign_changes (defScope s_sign_changes) := ⟨rfl, rfl, rfl, by decide +kernel, rfl, by decide +kernel, by decide +kernel⟩
theorem bi_sign_changes (T : Txt K mg) : Binds K T.sign_changes.fd pm_sign_changes [] := T.sign_changes.F.binds fun _ _ _ _ _ _ us hl => match us, hl with | [_], _ => rfl
theorem ok_sign_changes (T : Txt K mg) : FnOk P w K mg base CX0 1 T.sign_changes.f T.sign_changes.fd pm_sign_changes (spF K r_sign_changes) := by
  have nd := sc_sign_changes.nd
  refine data_F T.sign_changes.F sc_sign_changes fun cdv A outer s H E hr => ?_
  refine ⟨_, (pss_cons (ps_setLc (i := 1) (own := [("sign", 2)]) rfl nd rfl rfl (sw_true rfl rfl rfl (by decide +kernel)) (kpi_seq (K := K) rfl (pv 0)) (blkOk_by (N := nm_sign_changes) (sc := defScope s_sign_changes) (by decide +kernel)) (fun _ _ _ _ _ => (pg_name (i := 2) nd rfl (Or.inl rfl))) (fun _ _ _ _ _ => (pts_one (pt_cmpR (kop_ne (K := K) rfl hr.units) (pv 2) pe_int (nomark _)))) (fun _ _ _ _ _ => (pv 2)))
    (pss_one (ps_ret (pe_callB (kcr_len (K := K) rfl) (by rfl) T.len (by decide +kernel) (pa_cons (pe_lc (own := [("one", 3), ("other", 4)]) rfl nd (kpi_zipA (K := K) rfl rfl T.zip (pa_cons (pv 1) (pa_cons (pe_slice (ksl_B (K := K) rfl) (pv 1) (po_some pe_int) po_none) pa_nil))) (blkOk_by (N := nm_sign_changes) (sc := defScope s_sign_changes) (by decide +kernel)) (fun _ _ _ _ _ => (kpg_tup (K := K) (n := 2) rfl rfl (pgs_cons (pg_name (i := 3) nd rfl (Or.inl rfl)) (pgs_cons (pg_name (i := 4) nd rfl (Or.inl rfl)) pgs_nil)))) (fun _ _ _ _ _ => (pts_one (pt_cmpR (kop_ne (K := K) rfl hr.units) (pv 3) (pv 4) (nomark _)))) (fun _ _ _ _ _ => pe_int)) pa_nil))))), ?_⟩
  exact ((sk_seq (sk_set (gk_lc (ik_seq gk_var) gt_name (tk_test (gk_op od_ne gk_var gk_int)) gk_var (by decide)))
    (sk_ret (gk_cb cd_len (ak_cons (gk_lc (ik_zipA (ak_cons gk_var (ak_cons (gk_sl sd_B gk_var (pk_some gk_int) pk_none) ak_nil))) (gt_tup (gts_cons gt_name (gts_cons gt_name gts_nil))) (tk_test (gk_op od_ne gk_var gk_var)) gk_int (by decide)) ak_nil)))) : SOk K _ b_sign_changes)
theorem sc_changes_at : FnScope nm_changes_at pm_changes_at (defScope s_changes_at) := ⟨rfl, rfl, rfl, by decide +kernel, rfl, by decide +kernel, by decide +kernel⟩
theorem bi_changes_at (T : Txt K mg) : Binds K T.changes_at.fd pm_changes_at [] := T.changes_at.F.binds fun _ _ _ _ _ _ us hl => match us, hl with | [_, _], _ => rfl
theorem ok_changes_at (T : Txt K mg) : FnOk P w K mg base CX0 2 T.changes_at.f T.changes_at.fd pm_changes_at (spF K r_changes_at) := by
  have nd := sc_changes_at.nd
  refine data_F T.changes_at.F sc_changes_at fun cdv A outer s H E hr => ?_
  refine ⟨_, (pss_one (ps_ret (pe_call (ok_sign_changes T) (hr.mono (by decide)) rfl T.sign_changes.m T.sign_changes.F.kp (bi_sign_changes T) .nil pass0 (pa_cons (pe_lc (own := [("poly", 2)]) rfl nd (kpi_seq (K := K) rfl (pv 0)) (blkOk_by (N := nm_changes_at) (sc := defScope s_changes_at) (by decide +kernel)) (fun _ _ _ _ _ => (pg_name (i := 2) nd rfl (Or.inl rfl))) (fun _ _ _ _ _ => pts_nil) (fun _ _ _ _ _ => (pe_call (ok_sign_of T) (hr.mono (by decide)) rfl T.sign_of.m T.sign_of.F.kp (bi_sign_of T) .nil pass0 (pa_cons (pe_call (ok_value_at_polys T) (hr.mono (by decide)) rfl T.value_at_polys.m T.value_at_polys.F.kp (bi_value_at_polys T) .nil pass0 (pa_cons (pv 2) (pa_cons (pv 1) pa_nil))) pa_nil)))) pa_nil)))), ?_⟩
  exact ((sk_ret (gk_call (ak_cons (gk_lc (ik_seq gk_var) gt_name tk_yes (gk_call (ak_cons (gk_call (ak_cons gk_var (ak_cons gk_var ak_nil))) ak_nil)) (by decide)) ak_nil))) : SOk K _ b_changes_at)
theorem sc_once_each : FnScope nm_once_each pm_once_each (defScope s_once_each) := ⟨rfl, rfl, rfl, by decide +kernel, rfl, by decide +kernel, by decide +kernel⟩
theorem bi_once_each (T : Txt K mg) : Binds K T.once_each.fd pm_once_each [] := T.once_each.F.binds fun _ _ _ _ _ _ us hl => match us, hl with | [_], _ => rfl
theorem ok_once_each (T : Txt K mg) : FnOk P w K mg base CX0 6 T.once_each.f T.once_each.fd pm_once_each (spF K r_once_each) := by
  have nd := sc_once_each.nd
  refine data_F T.once_each.F sc_once_each fun cdv A outer s H E hr => ?_
  refine ⟨_, (pss_one (ps_ret (pe_call (ok_upright T) (hr.mono (by decide)) rfl T.upright.m T.upright.F.kp (bi_upright T) .nil pass0 (pa_cons (pe_call (ok_divided T) (hr.mono (by decide)) rfl T.divided.m T.divided.F.kp (bi_divided T) .nil pass0 (pa_cons (pv 0) (pa_cons (pe_call (ok_common T) (hr.mono (by decide)) rfl T.common.m T.common.F.kp (bi_common T) .nil pass0 (pa_cons (pv 0) (pa_cons (pe_call (ok_derived T) (hr.mono (by decide)) rfl T.derived.m T.derived.F.kp (bi_derived T) .nil pass0 (pa_cons (pv 0) pa_nil)) pa_nil))) pa_nil))) pa_nil)))), ?_⟩
  exact ((sk_ret (gk_call (ak_cons (gk_call (ak_cons gk_var (ak_cons (gk_call (ak_cons gk_var (ak_cons (gk_call (ak_cons gk_var ak_nil)) ak_nil))) ak_nil))) ak_nil))) : SOk K _ b_once_each)
theorem sc_roots_between : FnScope nm_roots_between pm_roots_between (defScope s_roots_between) := ⟨rfl, rfl, rfl, by decide +kernel, rfl, by decide +kernel, by decide +kernel⟩
theorem bi_roots_between (T : Txt K mg) : Binds K T.roots_between.fd pm_roots_between [] := T.roots_between.F.binds fun _ _ _ _ _ _ us hl => match us, hl with | [_, _, _], _ => rfl
theorem ok_roots_between (T : Txt K mg) : FnOk P w K mg base CX0 7 T.roots_between.f T.roots_between.fd pm_roots_between (spF K r_roots_between) := by
  have nd := sc_roots_between.nd
  refine data_F T.roots_between.F sc_roots_between fun cdv A outer s H E hr => ?_
  refine ⟨_, (pss_cons (ps_if (pt_cmpR op_lt (pe_callB (kcr_len (K := K) rfl) (by rfl) T.len (by decide +kernel) (pa_cons (pv 0) pa_nil)) pe_int (nomark _)) (pss_one (ps_ret pe_int)) pss_nil)
    (pss_cons (ps_set (i := 3) nd rfl (Or.inl rfl) (pe_call (ok_chain_of T) (hr.mono (by decide)) rfl T.chain_of.m T.chain_of.F.kp (bi_chain_of T) .nil pass0 (pa_cons (pe_call (ok_once_each T) (hr.mono (by decide)) rfl T.once_each.m T.once_each.F.kp (bi_once_each T) .nil pass0 (pa_cons (pv 0) pa_nil)) pa_nil)))
    (pss_one (ps_ret (pe_op op_subA (pe_call (ok_changes_at T) (hr.mono (by decide)) rfl T.changes_at.m T.changes_at.F.kp (bi_changes_at T) .nil pass0 (pa_cons (pv 3) (pa_cons (pv 1) pa_nil))) (pe_call (ok_changes_at T) (hr.mono (by decide)) rfl T.changes_at.m T.changes_at.F.kp (bi_changes_at T) .nil pass0 (pa_cons (pv 3) (pa_cons (pv 2) pa_nil)))))))), ?_⟩
  exact ((sk_seq (sk_if (tk_test (gk_op od_lt (gk_cb cd_len (ak_cons gk_var ak_nil)) gk_int)) (sk_ret gk_int) sk_next)
    (sk_seq (sk_set (gk_call (ak_cons (gk_call (ak_cons gk_var ak_nil)) ak_nil)))
    (sk_ret (gk_op od_sub (gk_call (ak_cons gk_var (ak_cons gk_var ak_nil))) (gk_call (ak_cons gk_var (ak_cons gk_var ak_nil))))))) : SOk K _ b_roots_between)
theorem sc_is_nowhere_below : FnScope nm_is_nowhere_below pm_is_nowhere_below (defScope s_is_nowhere_below) := ⟨rfl, rfl, rfl, by decide +kernel, rfl, by decide +kernel, by decide +kernel⟩
theorem bi_is_nowhere_below (T : Txt K mg) : Binds K T.is_nowhere_below.fd pm_is_nowhere_below [] := T.is_nowhere_below.F.binds fun _ _ _ _ _ _ us hl => match us, hl with | [_, _, _], _ => rfl
theorem ok_is_nowhere_below (T : Txt K mg) : FnOk P w K mg base CX0 8 T.is_nowhere_below.f T.is_nowhere_below.fd pm_is_nowhere_below (spF K r_is_nowhere_below) := by
  have nd := sc_is_nowhere_below.nd
  refine data_F T.is_nowhere_below.F sc_is_nowhere_below fun cdv A outer s H E hr => ?_
  refine ⟨_, (pss_cons (ps_if (pt_cmpR (kop_eq (K := K) rfl hr.units) (pv 0) (pe_tup pa_nil) (nomark _)) (pss_one (ps_ret pe_bl)) pss_nil)
    (pss_cons (ps_set (i := 3) nd rfl (Or.inl rfl) (pe_ix (kix (K := K) rfl) (pe_call (ok_without_ends T) (hr.mono (by decide)) rfl T.without_ends.m T.without_ends.F.kp (bi_without_ends T) .nil pass0 (pa_cons (pv 0) (pa_cons (pv 1) (pa_cons (pv 2) pa_nil)))) pe_int (fun _ _ => rfl)))
    (pss_cons (ps_if (pt_cmpR op_lt (pe_call (ok_value_at_polys T) (hr.mono (by decide)) rfl T.value_at_polys.m T.value_at_polys.F.kp (bi_value_at_polys T) .nil pass0 (pa_cons (pv 3) (pa_cons (pv 2) pa_nil))) pe_int (nomark _)) (pss_one (ps_ret pe_bl)) pss_nil)
    (pss_one (ps_ret (pe_callB (kcr_all (K := K) rfl rfl) (by rfl) T.all (by decide +kernel) (pa_cons (pe_lc (own := [("often", 4), ("one", 5)]) rfl nd (kpi_seq (K := K) rfl (pe_call (ok_parts_of T) (hr.mono (by decide)) rfl T.parts_of.m T.parts_of.F.kp (bi_parts_of T) .nil pass0 (pa_cons (pv 3) pa_nil))) (blkOk_by (N := nm_is_nowhere_below) (sc := defScope s_is_nowhere_below) (by decide +kernel)) (fun _ _ _ _ _ => (kpg_tup (K := K) (n := 2) rfl rfl (pgs_cons (pg_name (i := 4) nd rfl (Or.inl rfl)) (pgs_cons (pg_name (i := 5) nd rfl (Or.inl rfl)) pgs_nil)))) (fun _ _ _ _ _ => pts_nil) (fun _ _ _ _ _ => (pe_or (pe_cmpR (kop_eq (K := K) rfl hr.units) (pe_op op_modA (pv 4) pe_int) pe_int (nomark _)) (pe_one (pe_cmpR (kop_eq (K := K) rfl hr.units) (pe_call (ok_roots_between T) (hr.mono (by decide)) rfl T.roots_between.m T.roots_between.F.kp (bi_roots_between T) .nil pass0 (pa_cons (pv 5) (pa_cons (pv 1) (pa_cons (pv 2) pa_nil)))) pe_int (nomark _)))))) pa_nil))))))), ?_⟩
  exact ((sk_seq (sk_if (tk_test (gk_op od_eq gk_var (gk_tup ak_nil))) (sk_ret gk_bl) sk_next)
    (sk_seq (sk_set (gk_op od_ix (gk_call (ak_cons gk_var (ak_cons gk_var (ak_cons gk_var ak_nil)))) gk_int))
    (sk_seq (sk_if (tk_test (gk_op od_lt (gk_call (ak_cons gk_var (ak_cons gk_var ak_nil))) gk_int)) (sk_ret gk_bl) sk_next)
    (sk_ret (gk_cb cd_all (ak_cons (gk_lc (ik_seq (gk_call (ak_cons gk_var ak_nil))) (gt_tup (gts_cons gt_name (gts_cons gt_name gts_nil))) tk_yes (gk_vor (gk_op od_eq (gk_op od_mod gk_var gk_int) gk_int) (gk_op od_eq (gk_call (ak_cons gk_var (ak_cons gk_var (ak_cons gk_var ak_nil)))) gk_int)) (by decide)) ak_nil)))))) : SOk K _ b_is_nowhere_below)
theorem sc_never_below : FnScope nm_never_below pm_never_below (defScope s_never_below) := ⟨rfl, rfl, rfl, by decide +kernel, rfl, by decide +kernel, by decide +kernel⟩
theorem bi_never_below (T : Txt K mg) : Binds K T.never_below.fd pm_never_below [] := T.never_below.F.binds fun _ _ _ _ _ _ us hl => match us, hl with | [_, _], _ => rfl
theorem ok_never_below (T : Txt K mg) : FnOk P w K mg base CX0 9 T.never_below.f T.never_below.fd pm_never_below (spF K r_never_below) := by
  have nd := sc_never_below.nd
  refine data_F T.never_below.F sc_never_below fun cdv A outer s H E hr => ?_
  refine ⟨_, (pss_cons (ps_if (pt_cmpR (kop_eq (K := K) rfl hr.units) (pv 1) pe_int (nomark _)) (pss_cons (ps_set (i := 2) nd rfl (Or.inl rfl) (pe_lst (kpa_star (K := K) rfl (pe_lc (own := [("point", 3), ("weight", 4)]) rfl nd (kpi_seq (K := K) rfl (kpe_fld (K := K) rfl (pv 0) rfl)) (blkOk_by (N := nm_never_below) (sc := defScope s_never_below) (by decide +kernel)) (fun _ _ _ _ _ => (kpg_tup (K := K) (n := 2) rfl rfl (pgs_cons (pg_name (i := 3) nd rfl (Or.inl rfl)) (pgs_cons (pg_name (i := 4) nd rfl (Or.inl rfl)) pgs_nil)))) (fun _ _ _ _ _ => pts_nil) (fun _ _ _ _ _ => (pv 4))) (kpa_star (K := K) rfl (pe_lc (own := [("start", 5), ("end", 6), ("share", 7)]) rfl nd (kpi_seq (K := K) rfl (kpe_fld (K := K) rfl (pv 0) rfl)) (blkOk_by (N := nm_never_below) (sc := defScope s_never_below) (by decide +kernel)) (fun _ _ _ _ _ => (kpg_tup (K := K) (n := 3) rfl rfl (pgs_cons (pg_name (i := 5) nd rfl (Or.inl rfl)) (pgs_cons (pg_name (i := 6) nd rfl (Or.inl rfl)) (pgs_cons (pg_name (i := 7) nd rfl (Or.inl rfl)) pgs_nil))))) (fun _ _ _ _ _ => pts_nil) (fun _ _ _ _ _ => (pv 7))) pa_nil))))
    (pss_one (ps_ret (pe_callB (kcr_all (K := K) rfl rfl) (by rfl) T.all (by decide +kernel) (pa_cons (pe_lc (own := [("one", 8)]) rfl nd (kpi_seq (K := K) rfl (pv 2)) (blkOk_by (N := nm_never_below) (sc := defScope s_never_below) (by decide +kernel)) (fun _ _ _ _ _ => (pg_name (i := 8) nd rfl (Or.inl rfl))) (fun _ _ _ _ _ => pts_nil) (fun _ _ _ _ _ => (pe_cmpR op_gt (pe_ix (kix (K := K) rfl) (pv 8) pe_int (fun _ _ => rfl)) pe_int (nomark _)))) pa_nil))))) pss_nil)
    (pss_cons (ps_if (pt_not (kpt_tru (K := K) rfl (pe_call (ok_is_exact_enough T) (hr.mono (by decide)) rfl T.is_exact_enough.m T.is_exact_enough.F.kp (bi_is_exact_enough T) .nil pass0 (pa_cons (pv 0) (pa_cons (pv 1) pa_nil))) (by intro _; rfl))) (pss_one (ps_ret pe_bl)) pss_nil)
    (pss_one (ps_ret (pe_callB (kcr_all (K := K) rfl rfl) (by rfl) T.all (by decide +kernel) (pa_cons (pe_lc (own := [("start", 5), ("end", 6), ("powers", 9)]) rfl nd (kpi_seq (K := K) rfl (pe_call (ok_kernel T) (hr.mono (by decide)) rfl T.kernel.m T.kernel.F.kp (bi_kernel T) .nil pass0 (pa_cons (pv 0) (pa_cons (pv 1) pa_nil)))) (blkOk_by (N := nm_never_below) (sc := defScope s_never_below) (by decide +kernel)) (fun _ _ _ _ _ => (kpg_tup (K := K) (n := 3) rfl rfl (pgs_cons (pg_name (i := 5) nd rfl (Or.inl rfl)) (pgs_cons (pg_name (i := 6) nd rfl (Or.inl rfl)) (pgs_cons (pg_name (i := 9) nd rfl (Or.inl rfl)) pgs_nil))))) (fun _ _ _ _ _ => pts_nil) (fun _ _ _ _ _ => (pe_call (ok_is_nowhere_below T) (hr.mono (by decide)) rfl T.is_nowhere_below.m T.is_nowhere_below.F.kp (bi_is_nowhere_below T) .nil pass0 (pa_cons (pe_call (ok_integers_of T) (hr.mono (by decide)) rfl T.integers_of.m T.integers_of.F.kp (bi_integers_of T) .nil pass0 (pa_cons (pv 9) pa_nil)) (pa_cons (pv 5) (pa_cons (pv 6) pa_nil)))))) pa_nil)))))), ?_⟩
  exact ((sk_seq (sk_if (tk_test (gk_op od_eq gk_var gk_int)) (sk_seq (sk_set (gk_lst (ak_star (gk_lc (ik_seq (gk_fld T.Rule rfl gk_var)) (gt_tup (gts_cons gt_name (gts_cons gt_name gts_nil))) tk_yes gk_var (by decide)) (ak_star (gk_lc (ik_seq (gk_fld T.Rule rfl gk_var)) (gt_tup (gts_cons gt_name (gts_cons gt_name (gts_cons gt_name gts_nil)))) tk_yes gk_var (by decide)) ak_nil))))
    (sk_ret (gk_cb cd_all (ak_cons (gk_lc (ik_seq gk_var) gt_name tk_yes (gk_op od_gt (gk_op od_ix gk_var gk_int) gk_int) (by decide)) ak_nil)))) sk_next)
    (sk_seq (sk_if (tk_not (tk_truK (gk_call (ak_cons gk_var (ak_cons gk_var ak_nil))))) (sk_ret gk_bl) sk_next)
    (sk_ret (gk_cb cd_all (ak_cons (gk_lc (ik_seq (gk_call (ak_cons gk_var (ak_cons gk_var ak_nil)))) (gt_tup (gts_cons gt_name (gts_cons gt_name (gts_cons gt_name gts_nil)))) tk_yes (gk_call (ak_cons (gk_call (ak_cons gk_var ak_nil)) (ak_cons gk_var (ak_cons gk_var ak_nil)))) (by decide)) ak_nil))))) : SOk K _ b_never_below)
theorem sc_paper : FnScope nm_paper pm_paper (defScope s_paper) := ⟨rfl, rfl, rfl, by decide +kernel, rfl, by decide +kernel, by decide +kernel⟩
theorem bi_paper (T : Txt K mg) : Binds K T.paper.fd pm_paper [] := T.paper.F.binds fun _ _ _ _ _ _ us hl => match us, hl with | [_, _], _ => rfl
theorem ok_paper (T : Txt K mg) : FnOk P w K mg base CX0 10 T.paper.f T.paper.fd pm_paper (spF K r_paper) := by
  have nd := sc_paper.nd
  refine data_F T.paper.F sc_paper fun cdv A outer s H E hr => ?_
  refine ⟨_, (pss_cons (ps_if (pt_not (kpt_tru (K := K) rfl (pe_call (ok_never_below T) (hr.mono (by decide)) rfl T.never_below.m T.never_below.F.kp (bi_never_below T) .nil pass0 (pa_cons (pv 0) (pa_cons (pv 1) pa_nil))) (by intro _; rfl))) (pss_one (ps_ret pe_non)) pss_nil)
    (pss_one (ps_ret (pe_callTy (kcr_tuple (K := K) rfl) (by rfl) T.tuple (by decide +kernel) (pa_cons (pe_lc (own := [("start", 2), ("end", 3), ("powers", 4)]) rfl nd (kpi_seq (K := K) rfl (pe_call (ok_kernel T) (hr.mono (by decide)) rfl T.kernel.m T.kernel.F.kp (bi_kernel T) .nil pass0 (pa_cons (pv 0) (pa_cons (pv 1) pa_nil)))) (blkOk_by (N := nm_paper) (sc := defScope s_paper) (by decide +kernel)) (fun _ _ _ _ _ => (kpg_tup (K := K) (n := 3) rfl rfl (pgs_cons (pg_name (i := 2) nd rfl (Or.inl rfl)) (pgs_cons (pg_name (i := 3) nd rfl (Or.inl rfl)) (pgs_cons (pg_name (i := 4) nd rfl (Or.inl rfl)) pgs_nil))))) (fun _ _ _ _ _ => pts_nil) (fun _ _ _ _ _ => (pe_call (ok_entry T) (hr.mono (by decide)) rfl T.entry.m T.entry.F.kp (bi_entry T) .nil pass0 (pa_cons (pe_call (ok_integers_of T) (hr.mono (by decide)) rfl T.integers_of.m T.integers_of.F.kp (bi_integers_of T) .nil pass0 (pa_cons (pv 4) pa_nil)) (pa_cons (pv 2) (pa_cons (pv 3) pa_nil)))))) pa_nil))))), ?_⟩
  exact ((sk_seq (sk_if (tk_not (tk_truK (gk_call (ak_cons gk_var (ak_cons gk_var ak_nil))))) (sk_ret gk_non) sk_next)
    (sk_ret (gk_cb cd_tuple (ak_cons (gk_lc (ik_seq (gk_call (ak_cons gk_var (ak_cons gk_var ak_nil)))) (gt_tup (gts_cons gt_name (gts_cons gt_name (gts_cons gt_name gts_nil)))) tk_yes (gk_call (ak_cons (gk_call (ak_cons gk_var ak_nil)) (ak_cons gk_var (ak_cons gk_var ak_nil)))) (by decide)) ak_nil)))) : SOk K _ b_paper)
theorem sc_are_like : FnScope nm_are_like pm_are_like (defScope s_are_like) := ⟨rfl, rfl, rfl, by decide +kernel, rfl, by decide +kernel, by decide +kernel⟩
theorem bi_are_like (T : Txt K mg) : Binds K T.are_like.fd pm_are_like [] := T.are_like.F.binds fun _ _ _ _ _ _ us hl => match us, hl with | [_, _, _], _ => rfl
theorem ok_are_like (T : Txt K mg) : FnOk P w K mg base CX0 3 T.are_like.f T.are_like.fd pm_are_like (spF K r_are_like) := by
  have nd := sc_are_like.nd
  refine data_F T.are_like.F sc_are_like fun cdv A outer s H E hr => ?_
  refine ⟨_, (pss_one (ps_ret (pe_cmpR (kop_eq (K := K) rfl hr.units) (pe_call (ok_primitive T) (hr.mono (by decide)) rfl T.primitive.m T.primitive.F.kp (bi_primitive T) .nil pass0 (pa_cons (pv 0) pa_nil)) (pe_callTy (kcr_tuple (K := K) rfl) (by rfl) T.tuple (by decide +kernel) (pa_cons (pe_lc (own := [("count", 3)]) rfl nd (kpi_seq (K := K) rfl (pe_call (ok_primitive T) (hr.mono (by decide)) rfl T.primitive.m T.primitive.F.kp (bi_primitive T) .nil pass0 (pa_cons (pv 1) pa_nil))) (blkOk_by (N := nm_are_like) (sc := defScope s_are_like) (by decide +kernel)) (fun _ _ _ _ _ => (pg_name (i := 3) nd rfl (Or.inl rfl))) (fun _ _ _ _ _ => pts_nil) (fun _ _ _ _ _ => (pe_op op_mulA (pv 2) (pv 3)))) pa_nil)) (nomark _)))), ?_⟩
  exact ((sk_ret (gk_op od_eq (gk_call (ak_cons gk_var ak_nil)) (gk_cb cd_tuple (ak_cons (gk_lc (ik_seq (gk_call (ak_cons gk_var ak_nil))) gt_name tk_yes (gk_op od_mul gk_var gk_var) (by decide)) ak_nil)))) : SOk K _ b_are_like)
theorem sc_is_number : FnScope nm_is_number pm_is_number (defScope s_is_number) := ⟨rfl, rfl, rfl, by decide +kernel, rfl, by decide +kernel, by decide +kernel⟩
theorem bi_is_number (T : Txt K mg) : Binds K T.is_number.fd pm_is_number [] := T.is_number.F.binds fun _ _ _ _ _ _ us hl => match us, hl with | [_], _ => rfl
theorem ok_is_number (T : Txt K mg) : FnOk P w K mg base CX0 2 T.is_number.f T.is_number.fd pm_is_number (spF K r_is_number) := by
  have nd := sc_is_number.nd
  refine data_F T.is_number.F sc_is_number fun cdv A outer s H E hr => ?_
  refine ⟨_, (pss_one (ps_ret (pe_and (pe_call (ok_is_integer T) (hr.mono (by decide)) rfl T.is_integer.m T.is_integer.F.kp (bi_is_integer T) .nil pass0 (pa_cons (pv 0) pa_nil)) (pe_one (pe_cmpR op_ge (pv 0) pe_int (nomark _)))))), ?_⟩
  exact ((sk_ret (gk_vand (gk_call (ak_cons gk_var ak_nil)) (gk_op od_ge gk_var gk_int))) : SOk K _ b_is_number)
theorem sc_is_poly : FnScope nm_is_poly pm_is_poly (defScope s_is_poly) := ⟨rfl, rfl, rfl, by decide +kernel, rfl, by decide +kernel, by decide +kernel⟩
theorem bi_is_poly (T : Txt K mg) : Binds K T.is_poly.fd pm_is_poly [] := T.is_poly.F.binds fun _ _ _ _ _ _ us hl => match us, hl with | [_], _ => rfl
theorem ok_is_poly (T : Txt K mg) : FnOk P w K mg base CX0 2 T.is_poly.f T.is_poly.fd pm_is_poly (spF K r_is_poly) := by
  have nd := sc_is_poly.nd
  refine data_F T.is_poly.F sc_is_poly fun cdv A outer s H E hr => ?_
  refine ⟨_, (pss_cons (ps_if (PW.pt (pw_or (pt_not (kpt_tru (K := K) rfl (pe_callB (kcr_isi (K := K) rfl) (by rfl) T.isinstance (by decide +kernel) (pa_cons (pv 0) (pa_cons (pe_bltn (v := .ty "tuple") (u := .type "tuple") (by rfl) T.tuple (by decide +kernel) rfl) pa_nil))) (by intro _; rfl))) (pw_or1 (pt_cmpR (kop_eq (K := K) rfl hr.units) (pv 0) (pe_tup pa_nil) (nomark _))))) (pss_one (ps_ret pe_bl)) pss_nil)
    (pss_one (ps_ret (pe_and (pe_callB (kcr_all (K := K) rfl rfl) (by rfl) T.all (by decide +kernel) (pa_cons (pe_lc (own := [("count", 1)]) rfl nd (kpi_seq (K := K) rfl (pv 0)) (blkOk_by (N := nm_is_poly) (sc := defScope s_is_poly) (by decide +kernel)) (fun _ _ _ _ _ => (pg_name (i := 1) nd rfl (Or.inl rfl))) (fun _ _ _ _ _ => pts_nil) (fun _ _ _ _ _ => (pe_call (ok_is_integer T) (hr.mono (by decide)) rfl T.is_integer.m T.is_integer.F.kp (bi_is_integer T) .nil pass0 (pa_cons (pv 1) pa_nil)))) pa_nil)) (pe_one (pe_cmpR (kop_ne (K := K) rfl hr.units) (pe_ix (kix (K := K) rfl) (pv 0) (pe_un un_neg pe_int) (fun _ _ => rfl)) pe_int (nomark _))))))), ?_⟩
  exact ((sk_seq (sk_if (tk_or (tk_not (tk_truK (gk_cb cd_isi (ak_cons gk_var (ak_cons (gk_c fun _ => .ty _) ak_nil))))) (tk_test (gk_op od_eq gk_var (gk_tup ak_nil)))) (sk_ret gk_bl) sk_next)
    (sk_ret (gk_vand (gk_cb cd_all (ak_cons (gk_lc (ik_seq gk_var) gt_name tk_yes (gk_call (ak_cons gk_var ak_nil)) (by decide)) ak_nil)) (gk_op od_ne (gk_op od_ix gk_var (gk_un ud_neg gk_int)) gk_int)))) : SOk K _ b_is_poly)
theorem sc_is_formed : FnScope nm_is_formed pm_is_formed (defScope s_is_formed) := ⟨rfl, rfl, rfl, by decide +kernel, rfl, by decide +kernel, by decide +kernel⟩
theorem bi_is_formed (T : Txt K mg) : Binds K T.is_formed.fd pm_is_formed [] := T.is_formed.F.binds fun _ _ _ _ _ _ us hl => match us, hl with | [_], _ => rfl
theorem ok_is_formed (T : Txt K mg) : FnOk P w K mg base CX0 3 T.is_formed.f T.is_formed.fd pm_is_formed (spF K r_is_formed) := by
  have nd := sc_is_formed.nd
  refine data_F T.is_formed.F sc_is_formed fun cdv A outer s H E hr => ?_
  refine ⟨_, (pss_cons (ps_if (PW.pt (pw_or (pt_not (kpt_tru (K := K) rfl (pe_callB (kcr_isi (K := K) rfl) (by rfl) T.isinstance (by decide +kernel) (pa_cons (pv 0) (pa_cons (pe_bltn (v := .ty "tuple") (u := .type "tuple") (by rfl) T.tuple (by decide +kernel) rfl) pa_nil))) (by intro _; rfl))) (pw_or (pt_cmpR (kop_ne (K := K) rfl hr.units) (pe_callB (kcr_len (K := K) rfl) (by rfl) T.len (by decide +kernel) (pa_cons (pv 0) pa_nil)) pe_int (nomark _)) (pw_or1 (pt_not (kpt_tru (K := K) rfl (pe_call (ok_is_poly T) (hr.mono (by decide)) rfl T.is_poly.m T.is_poly.F.kp (bi_is_poly T) .nil pass0 (pa_cons (pe_ix (kix (K := K) rfl) (pv 0) pe_int (fun _ _ => rfl)) pa_nil)) (by intro _; rfl))))))) (pss_one (ps_ret pe_bl)) pss_nil)
    (pss_cons (ps_if (PW.pt (pw_or (pt_not (kpt_tru (K := K) rfl (pe_call (ok_is_number T) (hr.mono (by decide)) rfl T.is_number.m T.is_number.F.kp (bi_is_number T) .nil pass0 (pa_cons (pe_ix (kix (K := K) rfl) (pv 0) pe_int (fun _ _ => rfl)) pa_nil)) (by intro _; rfl))) (pw_or (pt_not (kpt_tru (K := K) rfl (pe_call (ok_is_number T) (hr.mono (by decide)) rfl T.is_number.m T.is_number.F.kp (bi_is_number T) .nil pass0 (pa_cons (pe_ix (kix (K := K) rfl) (pv 0) pe_int (fun _ _ => rfl)) pa_nil)) (by intro _; rfl))) (pw_or1 (pt_not (kpt_tru (K := K) rfl (pe_callB (kcr_isi (K := K) rfl) (by rfl) T.isinstance (by decide +kernel) (pa_cons (pe_ix (kix (K := K) rfl) (pv 0) pe_int (fun _ _ => rfl)) (pa_cons (pe_bltn (v := .ty "tuple") (u := .type "tuple") (by rfl) T.tuple (by decide +kernel) rfl) pa_nil))) (by intro _; rfl))))))) (pss_one (ps_ret pe_bl)) pss_nil)
    (pss_one (ps_ret (pe_and (pe_cmpR (kop_ne (K := K) rfl hr.units) (pe_ix (kix (K := K) rfl) (pv 0) pe_int (fun _ _ => rfl)) (pe_tup pa_nil) (nomark _)) (pe_one (pe_callB (kcr_all (K := K) rfl rfl) (by rfl) T.all (by decide +kernel) (pa_cons (pe_lc (own := [("one", 1)]) rfl nd (kpi_seq (K := K) rfl (pe_ix (kix (K := K) rfl) (pv 0) pe_int (fun _ _ => rfl))) (blkOk_by (N := nm_is_formed) (sc := defScope s_is_formed) (by decide +kernel)) (fun _ _ _ _ _ => (pg_name (i := 1) nd rfl (Or.inl rfl))) (fun _ _ _ _ _ => pts_nil) (fun _ _ _ _ _ => (pe_call (ok_is_poly T) (hr.mono (by decide)) rfl T.is_poly.m T.is_poly.F.kp (bi_is_poly T) .nil pass0 (pa_cons (pv 1) pa_nil)))) pa_nil)))))))), ?_⟩
  exact ((sk_seq (sk_if (tk_or (tk_not (tk_truK (gk_cb cd_isi (ak_cons gk_var (ak_cons (gk_c fun _ => .ty _) ak_nil))))) (tk_or (tk_test (gk_op od_ne (gk_cb cd_len (ak_cons gk_var ak_nil)) gk_int)) (tk_not (tk_truK (gk_call (ak_cons (gk_op od_ix gk_var gk_int) ak_nil)))))) (sk_ret gk_bl) sk_next)
    (sk_seq (sk_if (tk_or (tk_not (tk_truK (gk_call (ak_cons (gk_op od_ix gk_var gk_int) ak_nil)))) (tk_or (tk_not (tk_truK (gk_call (ak_cons (gk_op od_ix gk_var gk_int) ak_nil)))) (tk_not (tk_truK (gk_cb cd_isi (ak_cons (gk_op od_ix gk_var gk_int) (ak_cons (gk_c fun _ => .ty _) ak_nil))))))) (sk_ret gk_bl) sk_next)
    (sk_ret (gk_vand (gk_op od_ne (gk_op od_ix gk_var gk_int) (gk_tup ak_nil)) (gk_cb cd_all (ak_cons (gk_lc (ik_seq (gk_op od_ix gk_var gk_int)) gt_name tk_yes (gk_call (ak_cons gk_var ak_nil)) (by decide)) ak_nil)))))) : SOk K _ b_is_formed)
theorem sc_is_good : FnScope nm_is_good pm_is_good (defScope s_is_good) := ⟨rfl, rfl, rfl, by decide +kernel, rfl, by decide +kernel, by decide +kernel⟩
theorem bi_is_good (T : Txt K mg) : Binds K T.is_good.fd pm_is_good [] := T.is_good.F.binds fun _ _ _ _ _ _ us hl => match us, hl with | [_], _ => rfl
theorem ok_is_good (T : Txt K mg) : FnOk P w K mg base CX0 5 T.is_good.f T.is_good.fd pm_is_good (spF K r_is_good) := by
  have nd := sc_is_good.nd
  refine data_F T.is_good.F sc_is_good fun cdv A outer s H E hr => ?_
  refine ⟨_, (pss_cons (ps_if (pt_cmpR (kop_ne (K := K) rfl hr.units) (pe_callB (kcr_len (K := K) rfl) (by rfl) T.len (by decide +kernel) (pa_cons (pe_ix (kix (K := K) rfl) (pv 0) (pe_un un_neg pe_int) (fun _ _ => rfl)) pa_nil)) pe_int (nomark _)) (pss_one (ps_ret pe_bl)) pss_nil)
    (pss_cons (ps_if (pt_cmpR (kop_eq (K := K) rfl hr.units) (pe_callB (kcr_len (K := K) rfl) (by rfl) T.len (by decide +kernel) (pa_cons (pv 0) pa_nil)) pe_int (nomark _)) (pss_one (ps_ret pe_bl)) pss_nil)
    (pss_cons (ps_if (pt_not (kpt_tru (K := K) rfl (pe_call (ok_are_like T) (hr.mono (by decide)) rfl T.are_like.m T.are_like.F.kp (bi_are_like T) .nil pass0 (pa_cons (pe_ix (kix (K := K) rfl) (pv 0) pe_int (fun _ _ => rfl)) (pa_cons (pe_call (ok_derived T) (hr.mono (by decide)) rfl T.derived.m T.derived.F.kp (bi_derived T) .nil pass0 (pa_cons (pe_ix (kix (K := K) rfl) (pv 0) pe_int (fun _ _ => rfl)) pa_nil)) (pa_cons pe_int pa_nil)))) (by intro _; rfl))) (pss_one (ps_ret pe_bl)) pss_nil)
    (pss_one (ps_ret (pe_callB (kcr_all (K := K) rfl rfl) (by rfl) T.all (by decide +kernel) (pa_cons (pe_lc (own := [("one", 1), ("other", 2), ("last", 3)]) rfl nd (kpi_zip3 (K := K) rfl rfl T.zip (pa_cons (pv 0) (pa_cons (pe_slice (ksl_B (K := K) rfl) (pv 0) (po_some pe_int) po_none) (pa_cons (pe_slice (ksl_B (K := K) rfl) (pv 0) (po_some pe_int) po_none) pa_nil)))) (blkOk_by (N := nm_is_good) (sc := defScope s_is_good) (by decide +kernel)) (fun _ _ _ _ _ => (kpg_tup (K := K) (n := 3) rfl rfl (pgs_cons (pg_name (i := 1) nd rfl (Or.inl rfl)) (pgs_cons (pg_name (i := 2) nd rfl (Or.inl rfl)) (pgs_cons (pg_name (i := 3) nd rfl (Or.inl rfl)) pgs_nil))))) (fun _ _ _ _ _ => pts_nil) (fun _ _ _ _ _ => (pe_call (ok_are_like T) (hr.mono (by decide)) rfl T.are_like.m T.are_like.F.kp (bi_are_like T) .nil pass0 (pa_cons (pv 3) (pa_cons (pe_call (ok_rest T) (hr.mono (by decide)) rfl T.rest.m T.rest.F.kp (bi_rest T) .nil pass0 (pa_cons (pv 1) (pa_cons (pv 2) pa_nil))) (pa_cons (pe_un un_neg pe_int) pa_nil)))))) pa_nil))))))), ?_⟩
  exact ((sk_seq (sk_if (tk_test (gk_op od_ne (gk_cb cd_len (ak_cons (gk_op od_ix gk_var (gk_un ud_neg gk_int)) ak_nil)) gk_int)) (sk_ret gk_bl) sk_next)
    (sk_seq (sk_if (tk_test (gk_op od_eq (gk_cb cd_len (ak_cons gk_var ak_nil)) gk_int)) (sk_ret gk_bl) sk_next)
    (sk_seq (sk_if (tk_not (tk_truK (gk_call (ak_cons (gk_op od_ix gk_var gk_int) (ak_cons (gk_call (ak_cons (gk_op od_ix gk_var gk_int) ak_nil)) (ak_cons gk_int ak_nil)))))) (sk_ret gk_bl) sk_next)
    (sk_ret (gk_cb cd_all (ak_cons (gk_lc (ik_zip3 (ak_cons gk_var (ak_cons (gk_sl sd_B gk_var (pk_some gk_int) pk_none) (ak_cons (gk_sl sd_B gk_var (pk_some gk_int) pk_none) ak_nil)))) (gt_tup (gts_cons gt_name (gts_cons gt_name (gts_cons gt_name gts_nil)))) tk_yes (gk_call (ak_cons gk_var (ak_cons (gk_call (ak_cons gk_var (ak_cons gk_var ak_nil))) (ak_cons (gk_un ud_neg gk_int) ak_nil)))) (by decide)) ak_nil)))))) : SOk K _ b_is_good)
theorem sc_entry_holds : FnScope nm_entry_holds pm_entry_holds (defScope s_entry_holds) := ⟨rfl, rfl, rfl, by decide +kernel, rfl, by decide +kernel, by decide +kernel⟩
theorem bi_entry_holds (T : Txt K mg) : Binds K T.entry_holds.fd pm_entry_holds [] := T.entry_holds.F.binds fun _ _ _ _ _ _ us hl => match us, hl with | [_, _, _, _], _ => rfl
theorem ok_entry_holds (T : Txt K mg) : FnOk P w K mg base CX0 6 T.entry_holds.f T.entry_holds.fd pm_entry_holds (spF K r_entry_holds) := by
  have nd := sc_entry_holds.nd
  refine data_F T.entry_holds.F sc_entry_holds fun cdv A outer s H E hr => ?_
  refine ⟨_, (pss_cons (ps_if (PW.pt (pw_or (pt_cmpR (kop_eq (K := K) rfl hr.units) (pv 0) (pe_tup pa_nil) (nomark _)) (pw_or1 (PW.pt (pw_and (kpt_tru (K := K) rfl (pe_callB (kcr_isi (K := K) rfl) (by rfl) T.isinstance (by decide +kernel) (pa_cons (pv 3) (pa_cons (pe_bltn (v := .ty "tuple") (u := .type "tuple") (by rfl) T.tuple (by decide +kernel) rfl) pa_nil))) (by intro _; rfl)) (pw_and1 (pt_cmpR (kop_eq (K := K) rfl hr.units) (pv 3) (pe_tup pa_nil) (nomark _)))))))) (pss_one (ps_ret (pe_and (pe_cmpR (kop_eq (K := K) rfl hr.units) (pv 0) (pe_tup pa_nil) (nomark _)) (pe_and (pe_callB (kcr_isi (K := K) rfl) (by rfl) T.isinstance (by decide +kernel) (pa_cons (pv 3) (pa_cons (pe_bltn (v := .ty "tuple") (u := .type "tuple") (by rfl) T.tuple (by decide +kernel) rfl) pa_nil))) (pe_one (pe_cmpR (kop_eq (K := K) rfl hr.units) (pv 3) (pe_tup pa_nil) (nomark _))))))) pss_nil)
    (pss_cons (ps_if (pt_not (kpt_tru (K := K) rfl (pe_call (ok_is_formed T) (hr.mono (by decide)) rfl T.is_formed.m T.is_formed.F.kp (bi_is_formed T) .nil pass0 (pa_cons (pv 3) pa_nil)) (by intro _; rfl))) (pss_one (ps_ret pe_bl)) pss_nil)
    (pss_cons (ps_asg (pv 3) (kpg_tup (K := K) (n := 4) rfl rfl (pgs_cons (pg_name (i := 4) nd rfl (Or.inl rfl)) (pgs_cons (pg_name (i := 5) nd rfl (Or.inl rfl)) (pgs_cons (pg_name (i := 6) nd rfl (Or.inl rfl)) (pgs_cons (pg_name (i := 7) nd rfl (Or.inl rfl)) pgs_nil))))))
    (pss_cons (ps_if (PW.pt (pw_or (pt_cmpR (kop_ne (K := K) rfl hr.units) (pe_op (kop_addB (K := K) rfl) (pe_op (kop_addB (K := K) rfl) (pe_op (kop_addB (K := K) rfl) (pv 4) (pv 5)) (pe_op op_mulA pe_int (pe_callB (kcr_len (K := K) rfl) (by rfl) T.len (by decide +kernel) (pa_cons (pv 6) pa_nil)))) (pe_callB (kcr_len (K := K) rfl) (by rfl) T.len (by decide +kernel) (pa_cons (pe_ix (kix (K := K) rfl) (pv 7) pe_int (fun _ _ => rfl)) pa_nil))) (pe_op (kop_addB (K := K) rfl) (pe_callB (kcr_len (K := K) rfl) (by rfl) T.len (by decide +kernel) (pa_cons (pv 0) pa_nil)) pe_int) (nomark _)) (pw_or1 (pt_not (kpt_tru (K := K) rfl (pe_call (ok_is_good T) (hr.mono (by decide)) rfl T.is_good.m T.is_good.F.kp (bi_is_good T) .nil pass0 (pa_cons (pv 7) pa_nil)) (by intro _; rfl)))))) (pss_one (ps_ret pe_bl)) pss_nil)
    (pss_cons (ps_if (PW.pt (pw_or (pt_cmpR op_le (pe_call (ok_value_at_polys T) (hr.mono (by decide)) rfl T.value_at_polys.m T.value_at_polys.F.kp (bi_value_at_polys T) .nil pass0 (pa_cons (pe_ix (kix (K := K) rfl) (pv 7) pe_int (fun _ _ => rfl)) (pa_cons (pv 1) pa_nil))) pe_int (nomark _)) (pw_or1 (pt_cmpR op_le (pe_call (ok_value_at_polys T) (hr.mono (by decide)) rfl T.value_at_polys.m T.value_at_polys.F.kp (bi_value_at_polys T) .nil pass0 (pa_cons (pe_ix (kix (K := K) rfl) (pv 7) pe_int (fun _ _ => rfl)) (pa_cons (pv 2) pa_nil))) pe_int (nomark _))))) (pss_one (ps_ret pe_bl)) pss_nil)
    (pss_cons (ps_if (pt_cmpR (kop_ne (K := K) rfl hr.units) (pe_call (ok_changes_at T) (hr.mono (by decide)) rfl T.changes_at.m T.changes_at.F.kp (bi_changes_at T) .nil pass0 (pa_cons (pv 7) (pa_cons (pv 1) pa_nil))) (pe_call (ok_changes_at T) (hr.mono (by decide)) rfl T.changes_at.m T.changes_at.F.kp (bi_changes_at T) .nil pass0 (pa_cons (pv 7) (pa_cons (pv 2) pa_nil))) (nomark _)) (pss_one (ps_ret pe_bl)) pss_nil)
    (pss_cons (ps_set (i := 8) nd rfl (Or.inl rfl) (pe_call (ok_product T) (hr.mono (by decide)) rfl T.product.m T.product.F.kp (bi_product T) .nil pass0 (pa_cons (pe_call (ok_power T) (hr.mono (by decide)) rfl T.power.m T.power.F.kp (bi_power T) .nil pass0 (pa_cons (pe_tup (pa_cons (pe_un un_neg (pe_ix (kix (K := K) rfl) (pv 1) pe_int (fun _ _ => rfl))) (pa_cons (pe_ix (kix (K := K) rfl) (pv 1) pe_int (fun _ _ => rfl)) pa_nil))) (pa_cons (pv 4) pa_nil))) (pa_cons (pe_call (ok_power T) (hr.mono (by decide)) rfl T.power.m T.power.F.kp (bi_power T) .nil pass0 (pa_cons (pe_tup (pa_cons (pe_ix (kix (K := K) rfl) (pv 2) pe_int (fun _ _ => rfl)) (pa_cons (pe_un un_neg (pe_ix (kix (K := K) rfl) (pv 2) pe_int (fun _ _ => rfl))) pa_nil))) (pa_cons (pv 5) pa_nil))) pa_nil))))
    (pss_one (ps_ret (pe_call (ok_are_like T) (hr.mono (by decide)) rfl T.are_like.m T.are_like.F.kp (bi_are_like T) .nil pass0 (pa_cons (pe_call (ok_product T) (hr.mono (by decide)) rfl T.product.m T.product.F.kp (bi_product T) .nil pass0 (pa_cons (pv 8) (pa_cons (pe_call (ok_product T) (hr.mono (by decide)) rfl T.product.m T.product.F.kp (bi_product T) .nil pass0 (pa_cons (pe_call (ok_product T) (hr.mono (by decide)) rfl T.product.m T.product.F.kp (bi_product T) .nil pass0 (pa_cons (pv 6) (pa_cons (pv 6) pa_nil))) (pa_cons (pe_ix (kix (K := K) rfl) (pv 7) pe_int (fun _ _ => rfl)) pa_nil))) pa_nil))) (pa_cons (pv 0) (pa_cons pe_int pa_nil))))))))))))), ?_⟩
  exact ((sk_seq (sk_if (tk_or (tk_test (gk_op od_eq gk_var (gk_tup ak_nil))) (tk_and (tk_truK (gk_cb cd_isi (ak_cons gk_var (ak_cons (gk_c fun _ => .ty _) ak_nil)))) (tk_test (gk_op od_eq gk_var (gk_tup ak_nil))))) (sk_ret (gk_vand (gk_op od_eq gk_var (gk_tup ak_nil)) (gk_vand (gk_cb cd_isi (ak_cons gk_var (ak_cons (gk_c fun _ => .ty _) ak_nil))) (gk_op od_eq gk_var (gk_tup ak_nil))))) sk_next)
    (sk_seq (sk_if (tk_not (tk_truK (gk_call (ak_cons gk_var ak_nil)))) (sk_ret gk_bl) sk_next)
    (sk_seq (sk_asg gk_var (gt_tup (gts_cons gt_name (gts_cons gt_name (gts_cons gt_name (gts_cons gt_name gts_nil))))))
    (sk_seq (sk_if (tk_or (tk_test (gk_op od_ne (gk_op od_addB (gk_op od_addB (gk_op od_addB gk_var gk_var) (gk_op od_mul gk_int (gk_cb cd_len (ak_cons gk_var ak_nil)))) (gk_cb cd_len (ak_cons (gk_op od_ix gk_var gk_int) ak_nil))) (gk_op od_addB (gk_cb cd_len (ak_cons gk_var ak_nil)) gk_int))) (tk_not (tk_truK (gk_call (ak_cons gk_var ak_nil))))) (sk_ret gk_bl) sk_next)
    (sk_seq (sk_if (tk_or (tk_test (gk_op od_le (gk_call (ak_cons (gk_op od_ix gk_var gk_int) (ak_cons gk_var ak_nil))) gk_int)) (tk_test (gk_op od_le (gk_call (ak_cons (gk_op od_ix gk_var gk_int) (ak_cons gk_var ak_nil))) gk_int))) (sk_ret gk_bl) sk_next)
    (sk_seq (sk_if (tk_test (gk_op od_ne (gk_call (ak_cons gk_var (ak_cons gk_var ak_nil))) (gk_call (ak_cons gk_var (ak_cons gk_var ak_nil))))) (sk_ret gk_bl) sk_next)
    (sk_seq (sk_set (gk_call (ak_cons (gk_call (ak_cons (gk_tup (ak_cons (gk_un ud_neg (gk_op od_ix gk_var gk_int)) (ak_cons (gk_op od_ix gk_var gk_int) ak_nil))) (ak_cons gk_var ak_nil))) (ak_cons (gk_call (ak_cons (gk_tup (ak_cons (gk_op od_ix gk_var gk_int) (ak_cons (gk_un ud_neg (gk_op od_ix gk_var gk_int)) ak_nil))) (ak_cons gk_var ak_nil))) ak_nil))))
    (sk_ret (gk_call (ak_cons (gk_call (ak_cons gk_var (ak_cons (gk_call (ak_cons (gk_call (ak_cons gk_var (ak_cons gk_var ak_nil))) (ak_cons (gk_op od_ix gk_var gk_int) ak_nil))) ak_nil))) (ak_cons gk_var (ak_cons gk_int ak_nil)))))))))))) : SOk K _ b_entry_holds)
theorem sc_paper_holds : FnScope nm_paper_holds pm_paper_holds (defScope s_paper_holds) := ⟨rfl, rfl, rfl, by decide +kernel, rfl, by decide +kernel, by decide +kernel⟩
theorem bi_paper_holds (T : Txt K mg) : Binds K T.paper_holds.fd pm_paper_holds [] := T.paper_holds.F.binds fun _ _ _ _ _ _ us hl => match us, hl with | [_, _, _], _ => rfl
theorem ok_paper_holds (T : Txt K mg) : FnOk P w K mg base CX0 8 T.paper_holds.f T.paper_holds.fd pm_paper_holds (spF K r_paper_holds) := by
  have nd := sc_paper_holds.nd
  refine data_F T.paper_holds.F sc_paper_holds fun cdv A outer s H E hr => ?_
  refine ⟨_, (pss_cons (ps_if (PW.pt (pw_or (pt_not (kpt_tru (K := K) rfl (pe_call (ok_is_exact_enough T) (hr.mono (by decide)) rfl T.is_exact_enough.m T.is_exact_enough.F.kp (bi_is_exact_enough T) .nil pass0 (pa_cons (pv 0) (pa_cons (pv 1) pa_nil))) (by intro _; rfl))) (pw_or1 (pt_not (kpt_tru (K := K) rfl (pe_callB (kcr_isi (K := K) rfl) (by rfl) T.isinstance (by decide +kernel) (pa_cons (pv 2) (pa_cons (pe_bltn (v := .ty "tuple") (u := .type "tuple") (by rfl) T.tuple (by decide +kernel) rfl) pa_nil))) (by intro _; rfl)))))) (pss_one (ps_ret pe_bl)) pss_nil)
    (pss_cons (ps_set (i := 3) nd rfl (Or.inl rfl) (pe_call (ok_kernel T) (hr.mono (by decide)) rfl T.kernel.m T.kernel.F.kp (bi_kernel T) .nil pass0 (pa_cons (pv 0) (pa_cons (pv 1) pa_nil))))
    (pss_cons (ps_if (pt_cmpR (kop_ne (K := K) rfl hr.units) (pe_callB (kcr_len (K := K) rfl) (by rfl) T.len (by decide +kernel) (pa_cons (pv 3) pa_nil)) (pe_callB (kcr_len (K := K) rfl) (by rfl) T.len (by decide +kernel) (pa_cons (pv 2) pa_nil)) (nomark _)) (pss_one (ps_ret pe_bl)) pss_nil)
    (pss_cons (ps_setLc (i := 4) (own := [("row", 5), ("one", 6)]) rfl nd rfl rfl (sw_true rfl rfl rfl (by decide +kernel)) (kpi_zipA (K := K) rfl rfl T.zip (pa_cons (pv 3) (pa_cons (pv 2) pa_nil))) (blkOk_by (N := nm_paper_holds) (sc := defScope s_paper_holds) (by decide +kernel)) (fun _ _ _ _ _ => (kpg_tup (K := K) (n := 2) rfl rfl (pgs_cons (pg_name (i := 5) nd rfl (Or.inl rfl)) (pgs_cons (pg_name (i := 6) nd rfl (Or.inl rfl)) pgs_nil)))) (fun _ _ _ _ _ => pts_nil) (fun _ _ _ _ _ => (pe_call (ok_entry_holds T) (hr.mono (by decide)) rfl T.entry_holds.m T.entry_holds.F.kp (bi_entry_holds T) .nil pass0 (pa_cons (pe_call (ok_integers_of T) (hr.mono (by decide)) rfl T.integers_of.m T.integers_of.F.kp (bi_integers_of T) .nil pass0 (pa_cons (pe_ix (kix (K := K) rfl) (pv 5) pe_int (fun _ _ => rfl)) pa_nil)) (pa_cons (pe_ix (kix (K := K) rfl) (pv 5) pe_int (fun _ _ => rfl)) (pa_cons (pe_ix (kix (K := K) rfl) (pv 5) pe_int (fun _ _ => rfl)) (pa_cons (pv 6) pa_nil)))))))
    (pss_one (ps_ret (pe_callB (kcr_all (K := K) rfl rfl) (by rfl) T.all (by decide +kernel) (pa_cons (pv 4) pa_nil)))))))), ?_⟩
  exact ((sk_seq (sk_if (tk_or (tk_not (tk_truK (gk_call (ak_cons gk_var (ak_cons gk_var ak_nil))))) (tk_not (tk_truK (gk_cb cd_isi (ak_cons gk_var (ak_cons (gk_c fun _ => .ty _) ak_nil)))))) (sk_ret gk_bl) sk_next)
    (sk_seq (sk_set (gk_call (ak_cons gk_var (ak_cons gk_var ak_nil))))
    (sk_seq (sk_if (tk_test (gk_op od_ne (gk_cb cd_len (ak_cons gk_var ak_nil)) (gk_cb cd_len (ak_cons gk_var ak_nil)))) (sk_ret gk_bl) sk_next)
    (sk_seq (sk_set (gk_lc (ik_zipA (ak_cons gk_var (ak_cons gk_var ak_nil))) (gt_tup (gts_cons gt_name (gts_cons gt_name gts_nil))) tk_yes (gk_call (ak_cons (gk_call (ak_cons (gk_op od_ix gk_var gk_int) ak_nil)) (ak_cons (gk_op od_ix gk_var gk_int) (ak_cons (gk_op od_ix gk_var gk_int) (ak_cons gk_var ak_nil))))) (by decide)))
    (sk_ret (gk_cb cd_all (ak_cons gk_var ak_nil))))))) : SOk K _ b_paper_holds)
theorem sc_law : FnScope nm_law pm_law (defScope s_law) := ⟨rfl, rfl, rfl, by decide +kernel, rfl, by decide +kernel, by decide +kernel⟩
theorem bi_law (T : Txt K mg) : Binds K T.law.fd pm_law [] := T.law.F.binds fun _ _ _ _ _ _ us hl => match us, hl with | [_], _ => rfl
theorem ok_law (T : Txt K mg) {s : Shared} {H : Hp} {a : Addr} {Q : VK} (e0 : Env0 P w K mg base callerA [] s H) (bd0 : BindsTo s T.law.fd ⟨[.ref a], []⟩ [("_law_script", .ref a)]) (q : spF K r_law [.ref a] H Q E0) :
    codeAny (model P w) callerA (.call (.ref T.law.f) ⟨[.ref a], []⟩) (CR CX0 [] P w H s Q E0) s := by
  have nd := sc_law.nd
  refine call_law (k := 10) T.law.F sc_law ⟨rfl, by decide, by decide⟩ (fun cdv s H E hg hr => ?_) e0 bd0 q
  refine ⟨_, (pss_cons (ps_for PassesOwn.never rfl (pi_range1 rfl T.range (pa_cons (pe_callB (cr_max2 rfl) (by rfl) T.max (by decide +kernel) (pa_cons pe_int (pa_cons (pe_callB (cr_min2 rfl) (by rfl) T.min (by decide +kernel) (pa_cons pe_int (pa_cons (pe_callB (kcr_len (K := K) rfl) (by rfl) T.len (by decide +kernel) (pa_cons (pv 0) pa_nil)) pa_nil))) pa_nil))) pa_nil)) (pg_name (i := 1) nd rfl (Or.inl rfl)) (pss_cons (ps_set (i := 2) nd rfl (Or.inl rfl) (pe_call (ok_w_seed T) (hr.mono (by decide)) rfl T.w_seed.m T.w_seed.F.kp (bi_w_seed T) .nil pass0 (pa_cons (pv 0) (pa_cons (pv 1) pa_nil))))
    (pss_cons (ps_set (i := 3) nd rfl (Or.inl rfl) (pe_op (kop_addB (K := K) rfl) pe_int (pe_call (ok_w_choose T) (hr.mono (by decide)) rfl T.w_choose.m T.w_choose.F.kp (bi_w_choose T) .nil pass0 (pa_cons (pv 2) (pa_cons pe_int pa_nil)))))
    (pss_cons (ps_set (i := 4) nd rfl (Or.inl rfl) (pe_meth (pe_op (OpR.or op_subA (op_bin (E := E0) T.sf_Rule T.Rule_sub.m.at_ T.Rule_sub.m.fn (ok_Rule_sub T) (hr.mono (by decide)) (bi_Rule_sub T) pass0)) (pe_call (ok_area T) (hr.mono (by decide)) rfl T.area.m T.area.F.kp (bi_area T) .nil pass0 (pa_cons pe_int (pa_cons pe_int pa_nil))) (pe_make T.mk_Rule (ok_Rule_init T) (hr.mono (by decide)) rfl T.Rule.mg (bi_Rule_init_4 T).choose_spec.2 (bi_Rule_init_4 T).choose_spec.1 pass0 (pa_cons pe_int (pa_cons pe_int (pa_cons (pe_lst (pa_cons (pe_tup (pa_cons (pe_tup (pa_cons pe_int (pa_cons pe_int pa_nil))) (pa_cons pe_int pa_nil))) pa_nil)) pa_nil))))) T.Rule.cls T.Rule_scaled.m (ok_Rule_scaled T) (hr.mono (by decide)) (bi_Rule_scaled T) .nil pass0 (pa_cons (pv 3) pa_nil)))
    (pss_cons (ps_set (i := 5) nd rfl (Or.inl rfl) (pe_meth (pe_op (OpR.or op_subA (op_bin (E := E0) T.sf_Rule T.Rule_sub.m.at_ T.Rule_sub.m.fn (ok_Rule_sub T) (hr.mono (by decide)) (bi_Rule_sub T) pass0)) (pe_make T.mk_Rule (ok_Rule_init T) (hr.mono (by decide)) rfl T.Rule.mg (bi_Rule_init_4 T).choose_spec.2 (bi_Rule_init_4 T).choose_spec.1 pass0 (pa_cons pe_int (pa_cons pe_int (pa_cons (pe_lst (pa_cons (pe_tup (pa_cons pe_int (pa_cons (pe_tup (pa_cons pe_int (pa_cons pe_int pa_nil))) pa_nil))) (pa_cons (pe_tup (pa_cons pe_int (pa_cons (pe_tup (pa_cons pe_int (pa_cons pe_int pa_nil))) pa_nil))) pa_nil))) pa_nil)))) (pe_call (ok_area T) (hr.mono (by decide)) rfl T.area.m T.area.F.kp (bi_area T) .nil pass0 (pa_cons pe_int (pa_cons pe_int pa_nil)))) T.Rule.cls T.Rule_scaled.m (ok_Rule_scaled T) (hr.mono (by decide)) (bi_Rule_scaled T) .nil pass0 (pa_cons (pe_tup (pa_cons pe_int (pa_cons (pv 3) pa_nil))) pa_nil)))
    (pss_cons (ps_asg (pe_tup (pa_cons (pe_tup (pa_cons pe_int (pa_cons pe_int (pa_cons (pe_tup (pa_cons pe_int pa_nil)) (pa_cons (pe_tup (pa_cons (pe_tup (pa_cons pe_int pa_nil)) pa_nil)) pa_nil))))) (pa_cons (pe_tup (pa_cons pe_int (pa_cons pe_int (pa_cons (pe_tup (pa_cons pe_int pa_nil)) (pa_cons (pe_tup (pa_cons (pe_tup (pa_cons pe_int pa_nil)) pa_nil)) pa_nil))))) pa_nil))) (kpg_tup (K := K) (n := 2) rfl rfl (pgs_cons (pg_name (i := 6) nd rfl (Or.inl rfl)) (pgs_cons (pg_name (i := 7) nd rfl (Or.inl rfl)) pgs_nil))))
    (pss_cons (ps_set (i := 8) nd rfl (Or.inl rfl) (pe_lst (pa_cons (pe_tup (pa_cons (pv 4) (pa_cons pe_int (pa_cons (pe_tup (pa_cons (pv 6) (pa_cons (pv 7) pa_nil))) (pa_cons pe_bl pa_nil))))) (pa_cons (pe_tup (pa_cons (pv 4) (pa_cons pe_int (pa_cons (pe_tup (pa_cons (pv 7) (pa_cons (pv 6) pa_nil))) (pa_cons pe_bl pa_nil))))) (pa_cons (pe_tup (pa_cons (pv 4) (pa_cons pe_int (pa_cons (pe_tup (pa_cons (pv 6) (pa_cons (pv 7) pa_nil))) (pa_cons pe_bl pa_nil))))) pa_nil)))))
    (pss_cons (ps_set (i := 8) nd rfl (Or.inl rfl) (pe_op (kop_addB (K := K) rfl) (pv 8) (pe_lst (pa_cons (pe_tup (pa_cons (pv 4) (pa_cons pe_int (pa_cons (pe_tup (pa_cons (pe_tup (pa_cons pe_int (pa_cons pe_int (pa_cons (pe_tup (pa_cons pe_int (pa_cons pe_int pa_nil))) (pa_cons (pe_tup (pa_cons (pe_tup (pa_cons pe_int pa_nil)) pa_nil)) pa_nil))))) (pa_cons (pe_tup (pa_cons pe_int (pa_cons pe_int (pa_cons (pe_tup (pa_cons pe_int (pa_cons (pe_op op_subA pe_int pe_int) pa_nil))) (pa_cons (pe_tup (pa_cons (pe_tup (pa_cons (pv 3) pa_nil)) pa_nil)) pa_nil))))) pa_nil))) (pa_cons pe_bl pa_nil))))) pa_nil))))
    (pss_cons (ps_set (i := 8) nd rfl (Or.inl rfl) (pe_op (kop_addB (K := K) rfl) (pv 8) (pe_lst (pa_cons (pe_tup (pa_cons (pv 4) (pa_cons pe_int (pa_cons (pe_tup (pa_cons (pe_tup (pa_cons pe_int (pa_cons pe_int (pa_cons (pe_tup (pa_cons pe_int (pa_cons pe_int pa_nil))) (pa_cons (pe_tup (pa_cons (pe_tup (pa_cons pe_int pa_nil)) pa_nil)) pa_nil))))) (pa_cons (pe_tup (pa_cons pe_int (pa_cons pe_int (pa_cons (pe_tup (pa_cons (pe_op op_subA pe_int pe_int) (pa_cons pe_int pa_nil))) (pa_cons (pe_tup (pa_cons (pe_tup (pa_cons (pe_op op_subA pe_int pe_int) pa_nil)) pa_nil)) pa_nil))))) pa_nil))) (pa_cons pe_bl pa_nil))))) pa_nil))))
    (pss_cons (ps_set (i := 8) nd rfl (Or.inl rfl) (pe_op (kop_addB (K := K) rfl) (pv 8) (pe_lst (pa_cons (pe_tup (pa_cons (pv 5) (pa_cons pe_int (pa_cons (pe_tup (pa_cons (pe_tup (pa_cons pe_int (pa_cons pe_int (pa_cons (pe_tup (pa_cons pe_int pa_nil)) (pa_cons (pe_tup (pa_cons (pe_tup (pa_cons pe_int pa_nil)) pa_nil)) pa_nil))))) pa_nil)) (pa_cons pe_bl pa_nil))))) (pa_cons (pe_tup (pa_cons (pv 5) (pa_cons pe_int (pa_cons (pe_tup (pa_cons (pe_tup (pa_cons pe_int (pa_cons pe_int (pa_cons (pe_tup (pa_cons (pv 3) pa_nil)) (pa_cons (pe_tup (pa_cons (pe_tup (pa_cons pe_int pa_nil)) pa_nil)) pa_nil))))) pa_nil)) (pa_cons pe_bl pa_nil))))) pa_nil)))))
    (pss_cons (ps_set (i := 8) nd rfl (Or.inl rfl) (pe_op (kop_addB (K := K) rfl) (pv 8) (pe_lst (pa_cons (pe_tup (pa_cons (pv 5) (pa_cons pe_int (pa_cons (pe_tup (pa_cons (pe_tup (pa_cons pe_int (pa_cons pe_int (pa_cons (pe_tup (pa_cons pe_int pa_nil)) (pa_cons (pe_tup (pa_cons (pe_tup (pa_cons pe_int (pa_cons pe_int (pa_cons (pe_op op_subA pe_int pe_int) pa_nil)))) (pa_cons (pe_tup (pa_cons pe_int (pa_cons (pe_op op_subA pe_int pe_int) pa_nil))) (pa_cons (pe_tup (pa_cons pe_int pa_nil)) pa_nil)))) pa_nil))))) pa_nil)) (pa_cons pe_bl pa_nil))))) pa_nil))))
    (pss_cons (ps_set (i := 8) nd rfl (Or.inl rfl) (pe_op (kop_addB (K := K) rfl) (pv 8) (pe_lst (pa_cons (pe_tup (pa_cons (pv 5) (pa_cons pe_int (pa_cons (pe_tup pa_nil) (pa_cons pe_bl pa_nil))))) (pa_cons (pe_tup (pa_cons (pv 5) (pa_cons pe_int (pa_cons (pe_tup (pa_cons (pe_tup (pa_cons pe_int (pa_cons pe_int (pa_cons (pe_tup (pa_cons pe_int pa_nil)) (pa_cons (pe_tup (pa_cons (pe_tup (pa_cons pe_int (pa_cons (pe_op op_subA pe_int pe_int) pa_nil))) (pa_cons (pe_tup (pa_cons (pe_op op_subA pe_int pe_int) pa_nil)) pa_nil))) pa_nil))))) pa_nil)) (pa_cons pe_bl pa_nil))))) pa_nil)))))
    (pss_cons (ps_expr (kpe_app (K := K) rfl (pv 8) (pe_tup (pa_cons (pv 5) (pa_cons pe_int (pa_cons (pe_tup (pa_cons (pe_tup (pa_cons pe_int (pa_cons pe_int (pa_cons (pe_tup (pa_cons pe_int pa_nil)) (pa_cons (pe_tup (pa_cons (pe_tup (pa_cons (pe_op op_subA pe_int pe_int) pa_nil)) pa_nil)) pa_nil))))) pa_nil)) (pa_cons pe_bl pa_nil)))))))
    (pss_cons (ps_set (i := 9) nd rfl (Or.inl rfl) (pe_op (OpR.or op_subA (op_bin (E := E0) T.sf_Rule T.Rule_sub.m.at_ T.Rule_sub.m.fn (ok_Rule_sub T) (hr.mono (by decide)) (bi_Rule_sub T) pass0)) (pe_call (ok_area T) (hr.mono (by decide)) rfl T.area.m T.area.F.kp (bi_area T) .nil pass0 (pa_cons pe_int (pa_cons pe_int pa_nil))) (pe_make T.mk_Rule (ok_Rule_init T) (hr.mono (by decide)) rfl T.Rule.mg (bi_Rule_init_4 T).choose_spec.2 (bi_Rule_init_4 T).choose_spec.1 pass0 (pa_cons pe_int (pa_cons pe_int (pa_cons (pe_lst (pa_cons (pe_tup (pa_cons (pe_tup (pa_cons pe_int (pa_cons pe_int pa_nil))) (pa_cons (pe_tup (pa_cons pe_int (pa_cons pe_int pa_nil))) pa_nil))) (pa_cons (pe_tup (pa_cons (pe_tup (pa_cons pe_int (pa_cons pe_int pa_nil))) (pa_cons (pe_tup (pa_cons pe_int (pa_cons pe_int pa_nil))) pa_nil))) pa_nil))) pa_nil))))))
    (pss_cons (ps_expr (kpe_app (K := K) rfl (pv 8) (pe_tup (pa_cons (pv 9) (pa_cons pe_int (pa_cons (pe_tup (pa_cons (pv 6) (pa_cons (pe_tup (pa_cons pe_int (pa_cons pe_int (pa_cons (pe_tup (pa_cons (pe_op op_subA pe_int pe_int) (pa_cons pe_int pa_nil))) (pa_cons (pe_tup (pa_cons (pe_tup (pa_cons pe_int pa_nil)) pa_nil)) pa_nil))))) (pa_cons (pv 7) pa_nil)))) (pa_cons pe_bl pa_nil)))))))
    (pss_cons (ps_expr (kpe_app (K := K) rfl (pv 8) (pe_tup (pa_cons (pv 9) (pa_cons pe_int (pa_cons (pe_tup (pa_cons (pv 6) (pa_cons (pe_tup (pa_cons pe_int (pa_cons pe_int (pa_cons (pe_tup (pa_cons pe_int (pa_cons pe_int pa_nil))) (pa_cons (pe_tup (pa_cons (pe_tup (pa_cons pe_int pa_nil)) pa_nil)) pa_nil))))) (pa_cons (pv 7) pa_nil)))) (pa_cons pe_bl pa_nil)))))))
    (pss_cons (ps_expr (kpe_app (K := K) rfl (pv 8) (pe_tup (pa_cons (pv 9) (pa_cons pe_int (pa_cons (pe_tup (pa_cons (pv 6) (pa_cons (pe_tup (pa_cons pe_int (pa_cons pe_int (pa_cons (pe_tup (pa_cons pe_int pa_nil)) (pa_cons (pe_tup (pa_cons (pe_tup (pa_cons pe_int (pa_cons (pe_op op_subA pe_int pe_int) (pa_cons pe_int pa_nil)))) (pa_cons (pe_tup (pa_cons (pe_op op_subA pe_int pe_int) (pa_cons pe_int pa_nil))) (pa_cons (pe_tup (pa_cons pe_int pa_nil)) pa_nil)))) pa_nil))))) (pa_cons (pv 7) pa_nil)))) (pa_cons pe_bl pa_nil)))))))
    (pss_cons (ps_set (i := 10) nd rfl (Or.inl rfl) (pe_make T.mk_Rule (ok_Rule_init T) (hr.mono (by decide)) rfl T.Rule.mg (bi_Rule_init_4 T).choose_spec.2 (bi_Rule_init_4 T).choose_spec.1 pass0 (pa_cons pe_int (pa_cons pe_int (pa_cons (pe_lst (pa_cons (pe_tup (pa_cons pe_int (pa_cons pe_int pa_nil))) (pa_cons (pe_tup (pa_cons pe_int (pa_cons (pe_op op_subA pe_int pe_int) pa_nil))) pa_nil))) pa_nil)))))
    (pss_cons (ps_set (i := 8) nd rfl (Or.inl rfl) (pe_op (kop_addB (K := K) rfl) (pv 8) (pe_lst (pa_cons (pe_tup (pa_cons (pv 10) (pa_cons pe_int (pa_cons (pe_tup (pa_cons (pe_tup (pa_cons pe_int (pa_cons pe_int (pa_cons (pe_tup (pa_cons pe_int pa_nil)) (pa_cons (pe_tup (pa_cons (pe_tup (pa_cons pe_int pa_nil)) pa_nil)) pa_nil))))) pa_nil)) (pa_cons pe_bl pa_nil))))) (pa_cons (pe_tup (pa_cons (pv 10) (pa_cons pe_int (pa_cons (pe_tup (pa_cons (pe_tup (pa_cons pe_int (pa_cons pe_int (pa_cons (pe_tup (pa_cons pe_int pa_nil)) (pa_cons (pe_tup (pa_cons (pe_tup (pa_cons (pv 3) pa_nil)) pa_nil)) pa_nil))))) pa_nil)) (pa_cons pe_bl pa_nil))))) pa_nil)))))
    (pss_cons (ps_set (i := 11) nd rfl (Or.inl rfl) (pe_make T.mk_Rule (ok_Rule_init T) (hr.mono (by decide)) rfl T.Rule.mg (bi_Rule_init_4 T).choose_spec.2 (bi_Rule_init_4 T).choose_spec.1 pass0 (pa_cons pe_int (pa_cons pe_int (pa_cons (pe_lst (pa_cons (pe_tup (pa_cons pe_int (pa_cons (pe_op op_subA pe_int (pv 3)) pa_nil))) (pa_cons (pe_tup (pa_cons pe_int (pa_cons (pv 3) pa_nil))) pa_nil))) pa_nil)))))
    (pss_cons (ps_set (i := 8) nd rfl (Or.inl rfl) (pe_op (kop_addB (K := K) rfl) (pv 8) (pe_lst (pa_cons (pe_tup (pa_cons (pv 11) (pa_cons pe_int (pa_cons (pe_tup (pa_cons (pe_tup (pa_cons pe_int (pa_cons pe_int (pa_cons (pe_tup (pa_cons pe_int pa_nil)) (pa_cons (pe_tup (pa_cons (pe_tup (pa_cons pe_int pa_nil)) pa_nil)) pa_nil))))) pa_nil)) (pa_cons pe_bl pa_nil))))) (pa_cons (pe_tup (pa_cons (pv 11) (pa_cons pe_int (pa_cons (pe_tup (pa_cons (pe_tup pa_nil) pa_nil)) (pa_cons pe_bl pa_nil))))) (pa_cons (pe_tup (pa_cons (pe_op (OpR.or op_subA (op_bin (E := E0) T.sf_Rule T.Rule_sub.m.at_ T.Rule_sub.m.fn (ok_Rule_sub T) (hr.mono (by decide)) (bi_Rule_sub T) pass0)) (pv 11) (pv 11)) (pa_cons pe_int (pa_cons (pe_tup (pa_cons (pe_tup pa_nil) pa_nil)) (pa_cons pe_bl pa_nil))))) pa_nil))))))
    (pss_cons (ps_set (i := 8) nd rfl (Or.inl rfl) (pe_op (kop_addB (K := K) rfl) (pv 8) (pe_lst (pa_cons (pe_tup (pa_cons (pe_op (OpR.or op_subA (op_bin (E := E0) T.sf_Rule T.Rule_sub.m.at_ T.Rule_sub.m.fn (ok_Rule_sub T) (hr.mono (by decide)) (bi_Rule_sub T) pass0)) (pv 11) (pv 11)) (pa_cons pe_int (pa_cons (pe_tup (pa_cons (pe_tup pa_nil) pa_nil)) (pa_cons pe_bl pa_nil))))) (pa_cons (pe_tup (pa_cons (pe_op (OpR.or op_subA (op_bin (E := E0) T.sf_Rule T.Rule_sub.m.at_ T.Rule_sub.m.fn (ok_Rule_sub T) (hr.mono (by decide)) (bi_Rule_sub T) pass0)) (pv 11) (pv 11)) (pa_cons pe_int (pa_cons (pe_tup (pa_cons (pv 6) pa_nil)) (pa_cons pe_bl pa_nil))))) pa_nil)))))
    (pss_cons (ps_set (i := 12) nd rfl (Or.inl rfl) (pe_op (OpR.or (kop_addB (K := K) rfl) (op_bin (E := E0) T.sf_Rule T.Rule_add.m.at_ T.Rule_add.m.fn (ok_Rule_add T) (hr.mono (by decide)) (bi_Rule_add T) pass0)) (pe_op (OpR.or op_subA (op_bin (E := E0) T.sf_Rule T.Rule_sub.m.at_ T.Rule_sub.m.fn (ok_Rule_sub T) (hr.mono (by decide)) (bi_Rule_sub T) pass0)) (pe_call (ok_area T) (hr.mono (by decide)) rfl T.area.m T.area.F.kp (bi_area T) .nil pass0 (pa_cons pe_int (pa_cons pe_int pa_nil))) (pe_make T.mk_Rule (ok_Rule_init T) (hr.mono (by decide)) rfl T.Rule.mg (bi_Rule_init_4 T).choose_spec.2 (bi_Rule_init_4 T).choose_spec.1 pass0 (pa_cons pe_int (pa_cons pe_int (pa_cons (pe_lst (pa_cons (pe_tup (pa_cons pe_int (pa_cons pe_int pa_nil))) pa_nil)) pa_nil))))) (pe_make T.mk_Rule (ok_Rule_init T) (hr.mono (by decide)) rfl T.Rule.mg (bi_Rule_init_4 T).choose_spec.2 (bi_Rule_init_4 T).choose_spec.1 pass0 (pa_cons pe_int (pa_cons pe_int (pa_cons (pe_lst (pa_cons (pe_tup (pa_cons pe_int (pa_cons pe_int pa_nil))) (pa_cons (pe_tup (pa_cons pe_int (pa_cons (pe_op op_subA pe_int pe_int) pa_nil))) pa_nil))) pa_nil))))))
    (pss_cons (ps_expr (kpe_app (K := K) rfl (pv 8) (pe_tup (pa_cons (pv 12) (pa_cons pe_int (pa_cons (pe_tup (pa_cons (pe_tup (pa_cons pe_int (pa_cons pe_int (pa_cons (pe_tup (pa_cons pe_int pa_nil)) (pa_cons (pe_tup (pa_cons (pe_tup (pa_cons pe_int (pa_cons (pe_op op_subA pe_int pe_int) pa_nil))) (pa_cons (pe_tup (pa_cons (pe_op op_subA pe_int pe_int) pa_nil)) pa_nil))) pa_nil))))) pa_nil)) (pa_cons pe_bl pa_nil)))))))
    (pss_cons (ps_expr (kpe_app (K := K) rfl (pv 8) (pe_tup (pa_cons (pv 12) (pa_cons pe_int (pa_cons (pe_tup (pa_cons (pe_tup (pa_cons pe_int (pa_cons pe_int (pa_cons (pe_tup (pa_cons pe_int pa_nil)) (pa_cons (pe_tup (pa_cons (pe_tup (pa_cons pe_int pa_nil)) pa_nil)) pa_nil))))) pa_nil)) (pa_cons pe_bl pa_nil)))))))
    (pss_cons (ps_set (i := 13) nd rfl (Or.inl rfl) (pe_op (OpR.or (kop_addB (K := K) rfl) (op_bin (E := E0) T.sf_Rule T.Rule_add.m.at_ T.Rule_add.m.fn (ok_Rule_add T) (hr.mono (by decide)) (bi_Rule_add T) pass0)) (pv 12) (pe_make T.mk_Rule (ok_Rule_init T) (hr.mono (by decide)) rfl T.Rule.mg (bi_Rule_init_4 T).choose_spec.2 (bi_Rule_init_4 T).choose_spec.1 pass0 (pa_cons pe_int (pa_cons pe_int (pa_cons (pe_lst (pa_cons (pe_tup (pa_cons pe_int (pa_cons pe_int pa_nil))) (pa_cons (pe_tup (pa_cons pe_int (pa_cons (pe_op op_subA pe_int pe_int) pa_nil))) pa_nil))) pa_nil))))))
    (pss_cons (ps_expr (kpe_app (K := K) rfl (pv 8) (pe_tup (pa_cons (pv 13) (pa_cons pe_int (pa_cons (pe_tup (pa_cons (pe_tup (pa_cons pe_int (pa_cons pe_int (pa_cons (pe_tup (pa_cons pe_int pa_nil)) (pa_cons (pe_tup (pa_cons (pe_tup (pa_cons pe_int (pa_cons (pe_op op_subA pe_int pe_int) pa_nil))) (pa_cons (pe_tup (pa_cons (pe_op op_subA pe_int pe_int) pa_nil)) pa_nil))) pa_nil))))) pa_nil)) (pa_cons pe_bl pa_nil)))))))
    (pss_cons (ps_expr (kpe_app (K := K) rfl (pv 8) (pe_tup (pa_cons (pv 13) (pa_cons pe_int (pa_cons (pe_tup (pa_cons (pe_tup (pa_cons pe_int (pa_cons pe_int (pa_cons (pe_tup (pa_cons pe_int pa_nil)) (pa_cons (pe_tup (pa_cons (pe_tup (pa_cons pe_int (pa_cons (pe_op op_subA pe_int pe_int) pa_nil))) pa_nil)) pa_nil))))) pa_nil)) (pa_cons pe_bl pa_nil)))))))
    (pss_cons (ps_for PassesOwn.never rfl (kpi_seq (K := K) rfl (pv 8)) (kpg_tup (K := K) (n := 4) rfl rfl (pgs_cons (pg_name (i := 14) nd rfl (Or.inl rfl)) (pgs_cons (pg_name (i := 15) nd rfl (Or.inl rfl)) (pgs_cons (pg_name (i := 16) nd rfl (Or.inl rfl)) (pgs_cons (pg_name (i := 17) nd rfl (Or.inl rfl)) pgs_nil))))) (pss_one (ps_if (pt_cmpR (kop_ne (K := K) rfl hr.units) (pe_call (ok_paper_holds T) (hr.mono (by decide)) rfl T.paper_holds.m T.paper_holds.F.kp (bi_paper_holds T) .nil pass0 (pa_cons (pv 14) (pa_cons (pv 15) (pa_cons (pv 16) pa_nil)))) (pv 17) (nomark _)) (pss_one (ps_ret pe_bl)) pss_nil)))
    (pss_one (ps_if (PW.pt (pw_or (pt_cmpR op_isNotA (pe_call (ok_paper T) (hr.mono (by decide)) rfl T.paper.m T.paper.F.kp (bi_paper T) .nil pass0 (pa_cons (pv 4) (pa_cons pe_int pa_nil))) pe_non (nomark _)) (pw_or (pt_cmpR op_isNotA (pe_call (ok_paper T) (hr.mono (by decide)) rfl T.paper.m T.paper.F.kp (bi_paper T) .nil pass0 (pa_cons (pv 5) (pa_cons pe_int pa_nil))) pe_non (nomark _)) (pw_or1 (pt_cmpR op_isNotA (pe_call (ok_paper T) (hr.mono (by decide)) rfl T.paper.m T.paper.F.kp (bi_paper T) .nil pass0 (pa_cons (pv 10) (pa_cons pe_int pa_nil))) pe_non (nomark _)))))) (pss_one (ps_ret pe_bl)) pss_nil)))))))))))))))))))))))))))))))
    (pss_one (ps_ret pe_bl))), ?_⟩
  exact ((sk_seq (sk_for (ik_range1 (ak_cons (gk_cb cd_max2 (ak_cons gk_int (ak_cons (gk_cb cd_min2 (ak_cons gk_int (ak_cons (gk_cb cd_len (ak_cons gk_var ak_nil)) ak_nil))) ak_nil))) ak_nil)) gt_name ((sk_seq (sk_set (gk_call (ak_cons gk_var (ak_cons gk_var ak_nil))))
    (sk_seq (sk_set (gk_op od_addB gk_int (gk_callB (ak_cons gk_int ak_nil))))
    (sk_seq (sk_set (gk_meth (nm := "scaled") T.Rule (by decide +kernel) (fun _ => .nil) (gk_op (od_own T.Rule.at_ od_sub) (gk_call (ak_cons gk_int (ak_cons gk_int ak_nil))) (gk_make T.Rule (fun H => (drs_drop (T.Rule_init.d H) 1)) (ak_cons gk_int (ak_cons gk_int (ak_cons (gk_lst (ak_cons (gk_tup (ak_cons (gk_tup (ak_cons gk_int (ak_cons gk_int ak_nil))) (ak_cons gk_int ak_nil))) ak_nil)) ak_nil))))) (ak_cons gk_var ak_nil)))
    (sk_seq (sk_set (gk_meth (nm := "scaled") T.Rule (by decide +kernel) (fun _ => .nil) (gk_op (od_own T.Rule.at_ od_sub) (gk_make T.Rule (fun H => (drs_drop (T.Rule_init.d H) 1)) (ak_cons gk_int (ak_cons gk_int (ak_cons (gk_lst (ak_cons (gk_tup (ak_cons gk_int (ak_cons (gk_tup (ak_cons gk_int (ak_cons gk_int ak_nil))) ak_nil))) (ak_cons (gk_tup (ak_cons gk_int (ak_cons (gk_tup (ak_cons gk_int (ak_cons gk_int ak_nil))) ak_nil))) ak_nil))) ak_nil)))) (gk_call (ak_cons gk_int (ak_cons gk_int ak_nil)))) (ak_cons (gk_tup (ak_cons gk_int (ak_cons gk_var ak_nil))) ak_nil)))
    (sk_seq (sk_asg (gk_tup (ak_cons (gk_tup (ak_cons gk_int (ak_cons gk_int (ak_cons (gk_tup (ak_cons gk_int ak_nil)) (ak_cons (gk_tup (ak_cons (gk_tup (ak_cons gk_int ak_nil)) ak_nil)) ak_nil))))) (ak_cons (gk_tup (ak_cons gk_int (ak_cons gk_int (ak_cons (gk_tup (ak_cons gk_int ak_nil)) (ak_cons (gk_tup (ak_cons (gk_tup (ak_cons gk_int ak_nil)) ak_nil)) ak_nil))))) ak_nil))) (gt_tup (gts_cons gt_name (gts_cons gt_name gts_nil))))
    (sk_seq (sk_set (gk_lst (ak_cons (gk_tup (ak_cons gk_var (ak_cons gk_int (ak_cons (gk_tup (ak_cons gk_var (ak_cons gk_var ak_nil))) (ak_cons gk_bl ak_nil))))) (ak_cons (gk_tup (ak_cons gk_var (ak_cons gk_int (ak_cons (gk_tup (ak_cons gk_var (ak_cons gk_var ak_nil))) (ak_cons gk_bl ak_nil))))) (ak_cons (gk_tup (ak_cons gk_var (ak_cons gk_int (ak_cons (gk_tup (ak_cons gk_var (ak_cons gk_var ak_nil))) (ak_cons gk_bl ak_nil))))) ak_nil)))))
    (sk_seq (sk_set (gk_op od_addB gk_var (gk_lst (ak_cons (gk_tup (ak_cons gk_var (ak_cons gk_int (ak_cons (gk_tup (ak_cons (gk_tup (ak_cons gk_int (ak_cons gk_int (ak_cons (gk_tup (ak_cons gk_int (ak_cons gk_int ak_nil))) (ak_cons (gk_tup (ak_cons (gk_tup (ak_cons gk_int ak_nil)) ak_nil)) ak_nil))))) (ak_cons (gk_tup (ak_cons gk_int (ak_cons gk_int (ak_cons (gk_tup (ak_cons gk_int (ak_cons (gk_op od_sub gk_int gk_int) ak_nil))) (ak_cons (gk_tup (ak_cons (gk_tup (ak_cons gk_var ak_nil)) ak_nil)) ak_nil))))) ak_nil))) (ak_cons gk_bl ak_nil))))) ak_nil))))
    (sk_seq (sk_set (gk_op od_addB gk_var (gk_lst (ak_cons (gk_tup (ak_cons gk_var (ak_cons gk_int (ak_cons (gk_tup (ak_cons (gk_tup (ak_cons gk_int (ak_cons gk_int (ak_cons (gk_tup (ak_cons gk_int (ak_cons gk_int ak_nil))) (ak_cons (gk_tup (ak_cons (gk_tup (ak_cons gk_int ak_nil)) ak_nil)) ak_nil))))) (ak_cons (gk_tup (ak_cons gk_int (ak_cons gk_int (ak_cons (gk_tup (ak_cons (gk_op od_sub gk_int gk_int) (ak_cons gk_int ak_nil))) (ak_cons (gk_tup (ak_cons (gk_tup (ak_cons (gk_op od_sub gk_int gk_int) ak_nil)) ak_nil)) ak_nil))))) ak_nil))) (ak_cons gk_bl ak_nil))))) ak_nil))))
    (sk_seq (sk_set (gk_op od_addB gk_var (gk_lst (ak_cons (gk_tup (ak_cons gk_var (ak_cons gk_int (ak_cons (gk_tup (ak_cons (gk_tup (ak_cons gk_int (ak_cons gk_int (ak_cons (gk_tup (ak_cons gk_int ak_nil)) (ak_cons (gk_tup (ak_cons (gk_tup (ak_cons gk_int ak_nil)) ak_nil)) ak_nil))))) ak_nil)) (ak_cons gk_bl ak_nil))))) (ak_cons (gk_tup (ak_cons gk_var (ak_cons gk_int (ak_cons (gk_tup (ak_cons (gk_tup (ak_cons gk_int (ak_cons gk_int (ak_cons (gk_tup (ak_cons gk_var ak_nil)) (ak_cons (gk_tup (ak_cons (gk_tup (ak_cons gk_int ak_nil)) ak_nil)) ak_nil))))) ak_nil)) (ak_cons gk_bl ak_nil))))) ak_nil)))))
    (sk_seq (sk_set (gk_op od_addB gk_var (gk_lst (ak_cons (gk_tup (ak_cons gk_var (ak_cons gk_int (ak_cons (gk_tup (ak_cons (gk_tup (ak_cons gk_int (ak_cons gk_int (ak_cons (gk_tup (ak_cons gk_int ak_nil)) (ak_cons (gk_tup (ak_cons (gk_tup (ak_cons gk_int (ak_cons gk_int (ak_cons (gk_op od_sub gk_int gk_int) ak_nil)))) (ak_cons (gk_tup (ak_cons gk_int (ak_cons (gk_op od_sub gk_int gk_int) ak_nil))) (ak_cons (gk_tup (ak_cons gk_int ak_nil)) ak_nil)))) ak_nil))))) ak_nil)) (ak_cons gk_bl ak_nil))))) ak_nil))))
    (sk_seq (sk_set (gk_op od_addB gk_var (gk_lst (ak_cons (gk_tup (ak_cons gk_var (ak_cons gk_int (ak_cons (gk_tup ak_nil) (ak_cons gk_bl ak_nil))))) (ak_cons (gk_tup (ak_cons gk_var (ak_cons gk_int (ak_cons (gk_tup (ak_cons (gk_tup (ak_cons gk_int (ak_cons gk_int (ak_cons (gk_tup (ak_cons gk_int ak_nil)) (ak_cons (gk_tup (ak_cons (gk_tup (ak_cons gk_int (ak_cons (gk_op od_sub gk_int gk_int) ak_nil))) (ak_cons (gk_tup (ak_cons (gk_op od_sub gk_int gk_int) ak_nil)) ak_nil))) ak_nil))))) ak_nil)) (ak_cons gk_bl ak_nil))))) ak_nil)))))
    (sk_seq (sk_app (gk_tup (ak_cons gk_var (ak_cons gk_int (ak_cons (gk_tup (ak_cons (gk_tup (ak_cons gk_int (ak_cons gk_int (ak_cons (gk_tup (ak_cons gk_int ak_nil)) (ak_cons (gk_tup (ak_cons (gk_tup (ak_cons (gk_op od_sub gk_int gk_int) ak_nil)) ak_nil)) ak_nil))))) ak_nil)) (ak_cons gk_bl ak_nil))))))
    (sk_seq (sk_set (gk_op (od_own T.Rule.at_ od_sub) (gk_call (ak_cons gk_int (ak_cons gk_int ak_nil))) (gk_make T.Rule (fun H => (drs_drop (T.Rule_init.d H) 1)) (ak_cons gk_int (ak_cons gk_int (ak_cons (gk_lst (ak_cons (gk_tup (ak_cons (gk_tup (ak_cons gk_int (ak_cons gk_int ak_nil))) (ak_cons (gk_tup (ak_cons gk_int (ak_cons gk_int ak_nil))) ak_nil))) (ak_cons (gk_tup (ak_cons (gk_tup (ak_cons gk_int (ak_cons gk_int ak_nil))) (ak_cons (gk_tup (ak_cons gk_int (ak_cons gk_int ak_nil))) ak_nil))) ak_nil))) ak_nil))))))
    (sk_seq (sk_app (gk_tup (ak_cons gk_var (ak_cons gk_int (ak_cons (gk_tup (ak_cons gk_var (ak_cons (gk_tup (ak_cons gk_int (ak_cons gk_int (ak_cons (gk_tup (ak_cons (gk_op od_sub gk_int gk_int) (ak_cons gk_int ak_nil))) (ak_cons (gk_tup (ak_cons (gk_tup (ak_cons gk_int ak_nil)) ak_nil)) ak_nil))))) (ak_cons gk_var ak_nil)))) (ak_cons gk_bl ak_nil))))))
    (sk_seq (sk_app (gk_tup (ak_cons gk_var (ak_cons gk_int (ak_cons (gk_tup (ak_cons gk_var (ak_cons (gk_tup (ak_cons gk_int (ak_cons gk_int (ak_cons (gk_tup (ak_cons gk_int (ak_cons gk_int ak_nil))) (ak_cons (gk_tup (ak_cons (gk_tup (ak_cons gk_int ak_nil)) ak_nil)) ak_nil))))) (ak_cons gk_var ak_nil)))) (ak_cons gk_bl ak_nil))))))
    (sk_seq (sk_app (gk_tup (ak_cons gk_var (ak_cons gk_int (ak_cons (gk_tup (ak_cons gk_var (ak_cons (gk_tup (ak_cons gk_int (ak_cons gk_int (ak_cons (gk_tup (ak_cons gk_int ak_nil)) (ak_cons (gk_tup (ak_cons (gk_tup (ak_cons gk_int (ak_cons (gk_op od_sub gk_int gk_int) (ak_cons gk_int ak_nil)))) (ak_cons (gk_tup (ak_cons (gk_op od_sub gk_int gk_int) (ak_cons gk_int ak_nil))) (ak_cons (gk_tup (ak_cons gk_int ak_nil)) ak_nil)))) ak_nil))))) (ak_cons gk_var ak_nil)))) (ak_cons gk_bl ak_nil))))))
    (sk_seq (sk_set (gk_make T.Rule (fun H => (drs_drop (T.Rule_init.d H) 1)) (ak_cons gk_int (ak_cons gk_int (ak_cons (gk_lst (ak_cons (gk_tup (ak_cons gk_int (ak_cons gk_int ak_nil))) (ak_cons (gk_tup (ak_cons gk_int (ak_cons (gk_op od_sub gk_int gk_int) ak_nil))) ak_nil))) ak_nil)))))
    (sk_seq (sk_set (gk_op od_addB gk_var (gk_lst (ak_cons (gk_tup (ak_cons gk_var (ak_cons gk_int (ak_cons (gk_tup (ak_cons (gk_tup (ak_cons gk_int (ak_cons gk_int (ak_cons (gk_tup (ak_cons gk_int ak_nil)) (ak_cons (gk_tup (ak_cons (gk_tup (ak_cons gk_int ak_nil)) ak_nil)) ak_nil))))) ak_nil)) (ak_cons gk_bl ak_nil))))) (ak_cons (gk_tup (ak_cons gk_var (ak_cons gk_int (ak_cons (gk_tup (ak_cons (gk_tup (ak_cons gk_int (ak_cons gk_int (ak_cons (gk_tup (ak_cons gk_int ak_nil)) (ak_cons (gk_tup (ak_cons (gk_tup (ak_cons gk_var ak_nil)) ak_nil)) ak_nil))))) ak_nil)) (ak_cons gk_bl ak_nil))))) ak_nil)))))
    (sk_seq (sk_set (gk_make T.Rule (fun H => (drs_drop (T.Rule_init.d H) 1)) (ak_cons gk_int (ak_cons gk_int (ak_cons (gk_lst (ak_cons (gk_tup (ak_cons gk_int (ak_cons (gk_op od_sub gk_int gk_var) ak_nil))) (ak_cons (gk_tup (ak_cons gk_int (ak_cons gk_var ak_nil))) ak_nil))) ak_nil)))))
    (sk_seq (sk_set (gk_op od_addB gk_var (gk_lst (ak_cons (gk_tup (ak_cons gk_var (ak_cons gk_int (ak_cons (gk_tup (ak_cons (gk_tup (ak_cons gk_int (ak_cons gk_int (ak_cons (gk_tup (ak_cons gk_int ak_nil)) (ak_cons (gk_tup (ak_cons (gk_tup (ak_cons gk_int ak_nil)) ak_nil)) ak_nil))))) ak_nil)) (ak_cons gk_bl ak_nil))))) (ak_cons (gk_tup (ak_cons gk_var (ak_cons gk_int (ak_cons (gk_tup (ak_cons (gk_tup ak_nil) ak_nil)) (ak_cons gk_bl ak_nil))))) (ak_cons (gk_tup (ak_cons (gk_op (od_own T.Rule.at_ od_sub) gk_var gk_var) (ak_cons gk_int (ak_cons (gk_tup (ak_cons (gk_tup ak_nil) ak_nil)) (ak_cons gk_bl ak_nil))))) ak_nil))))))
    (sk_seq (sk_set (gk_op od_addB gk_var (gk_lst (ak_cons (gk_tup (ak_cons (gk_op (od_own T.Rule.at_ od_sub) gk_var gk_var) (ak_cons gk_int (ak_cons (gk_tup (ak_cons (gk_tup ak_nil) ak_nil)) (ak_cons gk_bl ak_nil))))) (ak_cons (gk_tup (ak_cons (gk_op (od_own T.Rule.at_ od_sub) gk_var gk_var) (ak_cons gk_int (ak_cons (gk_tup (ak_cons gk_var ak_nil)) (ak_cons gk_bl ak_nil))))) ak_nil)))))
    (sk_seq (sk_set (gk_op (od_own T.Rule.at_ od_addB) (gk_op (od_own T.Rule.at_ od_sub) (gk_call (ak_cons gk_int (ak_cons gk_int ak_nil))) (gk_make T.Rule (fun H => (drs_drop (T.Rule_init.d H) 1)) (ak_cons gk_int (ak_cons gk_int (ak_cons (gk_lst (ak_cons (gk_tup (ak_cons gk_int (ak_cons gk_int ak_nil))) ak_nil)) ak_nil))))) (gk_make T.Rule (fun H => (drs_drop (T.Rule_init.d H) 1)) (ak_cons gk_int (ak_cons gk_int (ak_cons (gk_lst (ak_cons (gk_tup (ak_cons gk_int (ak_cons gk_int ak_nil))) (ak_cons (gk_tup (ak_cons gk_int (ak_cons (gk_op od_sub gk_int gk_int) ak_nil))) ak_nil))) ak_nil))))))
    (sk_seq (sk_app (gk_tup (ak_cons gk_var (ak_cons gk_int (ak_cons (gk_tup (ak_cons (gk_tup (ak_cons gk_int (ak_cons gk_int (ak_cons (gk_tup (ak_cons gk_int ak_nil)) (ak_cons (gk_tup (ak_cons (gk_tup (ak_cons gk_int (ak_cons (gk_op od_sub gk_int gk_int) ak_nil))) (ak_cons (gk_tup (ak_cons (gk_op od_sub gk_int gk_int) ak_nil)) ak_nil))) ak_nil))))) ak_nil)) (ak_cons gk_bl ak_nil))))))
    (sk_seq (sk_app (gk_tup (ak_cons gk_var (ak_cons gk_int (ak_cons (gk_tup (ak_cons (gk_tup (ak_cons gk_int (ak_cons gk_int (ak_cons (gk_tup (ak_cons gk_int ak_nil)) (ak_cons (gk_tup (ak_cons (gk_tup (ak_cons gk_int ak_nil)) ak_nil)) ak_nil))))) ak_nil)) (ak_cons gk_bl ak_nil))))))
    (sk_seq (sk_set (gk_op (od_own T.Rule.at_ od_addB) gk_var (gk_make T.Rule (fun H => (drs_drop (T.Rule_init.d H) 1)) (ak_cons gk_int (ak_cons gk_int (ak_cons (gk_lst (ak_cons (gk_tup (ak_cons gk_int (ak_cons gk_int ak_nil))) (ak_cons (gk_tup (ak_cons gk_int (ak_cons (gk_op od_sub gk_int gk_int) ak_nil))) ak_nil))) ak_nil))))))
    (sk_seq (sk_app (gk_tup (ak_cons gk_var (ak_cons gk_int (ak_cons (gk_tup (ak_cons (gk_tup (ak_cons gk_int (ak_cons gk_int (ak_cons (gk_tup (ak_cons gk_int ak_nil)) (ak_cons (gk_tup (ak_cons (gk_tup (ak_cons gk_int (ak_cons (gk_op od_sub gk_int gk_int) ak_nil))) (ak_cons (gk_tup (ak_cons (gk_op od_sub gk_int gk_int) ak_nil)) ak_nil))) ak_nil))))) ak_nil)) (ak_cons gk_bl ak_nil))))))
    (sk_seq (sk_app (gk_tup (ak_cons gk_var (ak_cons gk_int (ak_cons (gk_tup (ak_cons (gk_tup (ak_cons gk_int (ak_cons gk_int (ak_cons (gk_tup (ak_cons gk_int ak_nil)) (ak_cons (gk_tup (ak_cons (gk_tup (ak_cons gk_int (ak_cons (gk_op od_sub gk_int gk_int) ak_nil))) ak_nil)) ak_nil))))) ak_nil)) (ak_cons gk_bl ak_nil))))))
    (sk_seq (sk_for (ik_seq gk_var) (gt_tup (gts_cons gt_name (gts_cons gt_name (gts_cons gt_name (gts_cons gt_name gts_nil))))) ((sk_if (tk_test (gk_op od_ne (gk_call (ak_cons gk_var (ak_cons gk_var (ak_cons gk_var ak_nil)))) gk_var)) (sk_ret gk_bl) sk_next) : SOk K _ b_law_1))
    (sk_if (tk_or (tk_test (gk_op od_isNot (gk_call (ak_cons gk_var (ak_cons gk_int ak_nil))) gk_non)) (tk_or (tk_test (gk_op od_isNot (gk_call (ak_cons gk_var (ak_cons gk_int ak_nil))) gk_non)) (tk_test (gk_op od_isNot (gk_call (ak_cons gk_var (ak_cons gk_int ak_nil))) gk_non)))) (sk_ret gk_bl) sk_next))))))))))))))))))))))))))))) : SOk K _ b_law_2))
    (sk_ret gk_bl)) : SOk K _ b_law)
end
end Bk
namespace Bk
open PySem L2
theorem xseq_assoc (a b c : MS) : xseq (xseq a b) c = xseq a (xseq b c) := by
  funext G
  unfold xseq
  cases a G with
  | none => rfl
  | some q =>
    obtain ⟨fl, G1⟩ := q
    cases fl <;> rfl
def s_a : MS := (xseq (xset 4 (xmeth 0 r_Rule_scaled [] (xop (opOwn 0 r_Rule_sub opSub) (xcall r_area (xcons (xc (.int 0)) (xcons (xc (.int 1)) xnil))) (xmake 0 r_Rule_init ([.tup [], .tup []].drop 1) (xcons (xc (.int 0)) (xcons (xc (.int 1)) (xcons (xlst (xcons (xtup (xcons (xtup (xcons (xc (.int 1)) (xcons (xc (.int 2)) xnil))) (xcons (xc (.int 1)) xnil))) xnil)) xnil))))) (xcons (xv 3) xnil))) (xseq (xset 5 (xmeth 0 r_Rule_scaled [] (xop (opOwn 0 r_Rule_sub opSub) (xmake 0 r_Rule_init ([.tup [], .tup []].drop 1) (xcons (xc (.int 0)) (xcons (xc (.int 1)) (xcons (xlst (xcons (xtup (xcons (xc (.int 0)) (xcons (xtup (xcons (xc (.int 1)) (xcons (xc (.int 2)) xnil))) xnil))) (xcons (xtup (xcons (xc (.int 1)) (xcons (xtup (xcons (xc (.int 1)) (xcons (xc (.int 2)) xnil))) xnil))) xnil))) xnil)))) (xcall r_area (xcons (xc (.int 0)) (xcons (xc (.int 1)) xnil)))) (xcons (xtup (xcons (xc (.int 1)) (xcons (xv 3) xnil))) xnil))) (xseq (xasg (xtup (xcons (xtup (xcons (xc (.int 2)) (xcons (xc (.int 0)) (xcons (xtup (xcons (xc (.int 1)) xnil)) (xcons (xtup (xcons (xtup (xcons (xc (.int 1)) xnil)) xnil)) xnil))))) (xcons (xtup (xcons (xc (.int 0)) (xcons (xc (.int 2)) (xcons (xtup (xcons (xc (.int 1)) xnil)) (xcons (xtup (xcons (xtup (xcons (xc (.int 1)) xnil)) xnil)) xnil))))) xnil))) (tgt [(tgn 6), (tgn 7)])) (xseq (xset 8 (xlst (xcons (xtup (xcons (xv 4) (xcons (xc (.int 2)) (xcons (xtup (xcons (xv 6) (xcons (xv 7) xnil))) (xcons (xc (.bl true)) xnil))))) (xcons (xtup (xcons (xv 4) (xcons (xc (.int 2)) (xcons (xtup (xcons (xv 7) (xcons (xv 6) xnil))) (xcons (xc (.bl false)) xnil))))) (xcons (xtup (xcons (xv 4) (xcons (xc (.int 1)) (xcons (xtup (xcons (xv 6) (xcons (xv 7) xnil))) (xcons (xc (.bl false)) xnil))))) xnil))))) (xseq (xset 8 (xop opAddB (xv 8) (xlst (xcons (xtup (xcons (xv 4) (xcons (xc (.int 2)) (xcons (xtup (xcons (xtup (xcons (xc (.int 0)) (xcons (xc (.int 0)) (xcons (xtup (xcons (xc (.int 0)) (xcons (xc (.int 1)) xnil))) (xcons (xtup (xcons (xtup (xcons (xc (.int 1)) xnil)) xnil)) xnil))))) (xcons (xtup (xcons (xc (.int 0)) (xcons (xc (.int 0)) (xcons (xtup (xcons (xc (.int 1)) (xcons (xop opSub (xc (.int 0)) (xc (.int 1))) xnil))) (xcons (xtup (xcons (xtup (xcons (xv 3) xnil)) xnil)) xnil))))) xnil))) (xcons (xc (.bl true)) xnil))))) xnil)))) (xseq (xset 8 (xop opAddB (xv 8) (xlst (xcons (xtup (xcons (xv 4) (xcons (xc (.int 2)) (xcons (xtup (xcons (xtup (xcons (xc (.int 0)) (xcons (xc (.int 0)) (xcons (xtup (xcons (xc (.int 0)) (xcons (xc (.int 1)) xnil))) (xcons (xtup (xcons (xtup (xcons (xc (.int 1)) xnil)) xnil)) xnil))))) (xcons (xtup (xcons (xc (.int 0)) (xcons (xc (.int 0)) (xcons (xtup (xcons (xop opSub (xc (.int 0)) (xc (.int 1))) (xcons (xc (.int 1)) xnil))) (xcons (xtup (xcons (xtup (xcons (xop opSub (xc (.int 0)) (xc (.int 1))) xnil)) xnil)) xnil))))) xnil))) (xcons (xc (.bl false)) xnil))))) xnil)))) (xseq (xset 8 (xop opAddB (xv 8) (xlst (xcons (xtup (xcons (xv 5) (xcons (xc (.int 2)) (xcons (xtup (xcons (xtup (xcons (xc (.int 1)) (xcons (xc (.int 1)) (xcons (xtup (xcons (xc (.int 1)) xnil)) (xcons (xtup (xcons (xtup (xcons (xc (.int 1)) xnil)) xnil)) xnil))))) xnil)) (xcons (xc (.bl true)) xnil))))) (xcons (xtup (xcons (xv 5) (xcons (xc (.int 2)) (xcons (xtup (xcons (xtup (xcons (xc (.int 1)) (xcons (xc (.int 1)) (xcons (xtup (xcons (xv 3) xnil)) (xcons (xtup (xcons (xtup (xcons (xc (.int 2)) xnil)) xnil)) xnil))))) xnil)) (xcons (xc (.bl true)) xnil))))) xnil))))) (xseq (xset 8 (xop opAddB (xv 8) (xlst (xcons (xtup (xcons (xv 5) (xcons (xc (.int 2)) (xcons (xtup (xcons (xtup (xcons (xc (.int 0)) (xcons (xc (.int 0)) (xcons (xtup (xcons (xc (.int 1)) xnil)) (xcons (xtup (xcons (xtup (xcons (xc (.int 0)) (xcons (xc (.int 1)) (xcons (xop opSub (xc (.int 0)) (xc (.int 1))) xnil)))) (xcons (xtup (xcons (xc (.int 1)) (xcons (xop opSub (xc (.int 0)) (xc (.int 2))) xnil))) (xcons (xtup (xcons (xc (.int 1)) xnil)) xnil)))) xnil))))) xnil)) (xcons (xc (.bl false)) xnil))))) xnil)))) (xseq (xset 8 (xop opAddB (xv 8) (xlst (xcons (xtup (xcons (xv 5) (xcons (xc (.int 2)) (xcons (xtup xnil) (xcons (xc (.bl false)) xnil))))) (xcons (xtup (xcons (xv 5) (xcons (xc (.int 2)) (xcons (xtup (xcons (xtup (xcons (xc (.int 1)) (xcons (xc (.int 0)) (xcons (xtup (xcons (xc (.int 1)) xnil)) (xcons (xtup (xcons (xtup (xcons (xc (.int 1)) (xcons (xop opSub (xc (.int 0)) (xc (.int 1))) xnil))) (xcons (xtup (xcons (xop opSub (xc (.int 0)) (xc (.int 1))) xnil)) xnil))) xnil))))) xnil)) (xcons (xc (.bl false)) xnil))))) xnil))))) (xseq (xapp 8 (xtup (xcons (xv 5) (xcons (xc (.int 2)) (xcons (xtup (xcons (xtup (xcons (xc (.int 1)) (xcons (xc (.int 1)) (xcons (xtup (xcons (xc (.int 1)) xnil)) (xcons (xtup (xcons (xtup (xcons (xop opSub (xc (.int 0)) (xc (.int 1))) xnil)) xnil)) xnil))))) xnil)) (xcons (xc (.bl false)) xnil)))))) (xseq (xset 9 (xop (opOwn 0 r_Rule_sub opSub) (xcall r_area (xcons (xc (.int 0)) (xcons (xc (.int 1)) xnil))) (xmake 0 r_Rule_init ([.tup [], .tup []].drop 1) (xcons (xc (.int 0)) (xcons (xc (.int 1)) (xcons (xlst (xcons (xtup (xcons (xtup (xcons (xc (.int 1)) (xcons (xc (.int 4)) xnil))) (xcons (xtup (xcons (xc (.int 1)) (xcons (xc (.int 2)) xnil))) xnil))) (xcons (xtup (xcons (xtup (xcons (xc (.int 3)) (xcons (xc (.int 4)) xnil))) (xcons (xtup (xcons (xc (.int 1)) (xcons (xc (.int 2)) xnil))) xnil))) xnil))) xnil)))))) (xseq (xapp 8 (xtup (xcons (xv 9) (xcons (xc (.int 2)) (xcons (xtup (xcons (xv 6) (xcons (xtup (xcons (xc (.int 0)) (xcons (xc (.int 0)) (xcons (xtup (xcons (xop opSub (xc (.int 0)) (xc (.int 1))) (xcons (xc (.int 2)) xnil))) (xcons (xtup (xcons (xtup (xcons (xc (.int 1)) xnil)) xnil)) xnil))))) (xcons (xv 7) xnil)))) (xcons (xc (.bl true)) xnil)))))) (xseq (xapp 8 (xtup (xcons (xv 9) (xcons (xc (.int 2)) (xcons (xtup (xcons (xv 6) (xcons (xtup (xcons (xc (.int 0)) (xcons (xc (.int 0)) (xcons (xtup (xcons (xc (.int 1)) (xcons (xc (.int 2)) xnil))) (xcons (xtup (xcons (xtup (xcons (xc (.int 1)) xnil)) xnil)) xnil))))) (xcons (xv 7) xnil)))) (xcons (xc (.bl false)) xnil)))))) (xseq (xapp 8 (xtup (xcons (xv 9) (xcons (xc (.int 2)) (xcons (xtup (xcons (xv 6) (xcons (xtup (xcons (xc (.int 0)) (xcons (xc (.int 0)) (xcons (xtup (xcons (xc (.int 1)) xnil)) (xcons (xtup (xcons (xtup (xcons (xc (.int 1)) (xcons (xop opSub (xc (.int 0)) (xc (.int 4))) (xcons (xc (.int 4)) xnil)))) (xcons (xtup (xcons (xop opSub (xc (.int 0)) (xc (.int 1))) (xcons (xc (.int 2)) xnil))) (xcons (xtup (xcons (xc (.int 1)) xnil)) xnil)))) xnil))))) (xcons (xv 7) xnil)))) (xcons (xc (.bl false)) xnil)))))) (xseq (xset 10 (xmake 0 r_Rule_init ([.tup [], .tup []].drop 1) (xcons (xc (.int 0)) (xcons (xc (.int 1)) (xcons (xlst (xcons (xtup (xcons (xc (.int 1)) (xcons (xc (.int 1)) xnil))) (xcons (xtup (xcons (xc (.int 0)) (xcons (xop opSub (xc (.int 0)) (xc (.int 1))) xnil))) xnil))) xnil))))) (xseq (xset 8 (xop opAddB (xv 8) (xlst (xcons (xtup (xcons (xv 10) (xcons (xc (.int 1)) (xcons (xtup (xcons (xtup (xcons (xc (.int 0)) (xcons (xc (.int 0)) (xcons (xtup (xcons (xc (.int 1)) xnil)) (xcons (xtup (xcons (xtup (xcons (xc (.int 1)) xnil)) xnil)) xnil))))) xnil)) (xcons (xc (.bl true)) xnil))))) (xcons (xtup (xcons (xv 10) (xcons (xc (.int 1)) (xcons (xtup (xcons (xtup (xcons (xc (.int 0)) (xcons (xc (.int 0)) (xcons (xtup (xcons (xc (.int 3)) xnil)) (xcons (xtup (xcons (xtup (xcons (xv 3) xnil)) xnil)) xnil))))) xnil)) (xcons (xc (.bl true)) xnil))))) xnil))))) (xseq (xset 11 (xmake 0 r_Rule_init ([.tup [], .tup []].drop 1) (xcons (xc (.int 0)) (xcons (xc (.int 1)) (xcons (xlst (xcons (xtup (xcons (xc (.int 0)) (xcons (xop opSub (xc (.int 0)) (xv 3)) xnil))) (xcons (xtup (xcons (xc (.int 1)) (xcons (xv 3) xnil))) xnil))) xnil))))) (xseq (xset 8 (xop opAddB (xv 8) (xlst (xcons (xtup (xcons (xv 11) (xcons (xc (.int 1)) (xcons (xtup (xcons (xtup (xcons (xc (.int 0)) (xcons (xc (.int 0)) (xcons (xtup (xcons (xc (.int 1)) xnil)) (xcons (xtup (xcons (xtup (xcons (xc (.int 1)) xnil)) xnil)) xnil))))) xnil)) (xcons (xc (.bl true)) xnil))))) (xcons (xtup (xcons (xv 11) (xcons (xc (.int 1)) (xcons (xtup (xcons (xtup xnil) xnil)) (xcons (xc (.bl false)) xnil))))) (xcons (xtup (xcons (xop (opOwn 0 r_Rule_sub opSub) (xv 11) (xv 11)) (xcons (xc (.int 1)) (xcons (xtup (xcons (xtup xnil) xnil)) (xcons (xc (.bl true)) xnil))))) xnil)))))) (xseq (xset 8 (xop opAddB (xv 8) (xlst (xcons (xtup (xcons (xop (opOwn 0 r_Rule_sub opSub) (xv 11) (xv 11)) (xcons (xc (.int 3)) (xcons (xtup (xcons (xtup xnil) xnil)) (xcons (xc (.bl true)) xnil))))) (xcons (xtup (xcons (xop (opOwn 0 r_Rule_sub opSub) (xv 11) (xv 11)) (xcons (xc (.int 3)) (xcons (xtup (xcons (xv 6) xnil)) (xcons (xc (.bl false)) xnil))))) xnil))))) (xseq (xset 12 (xop (opOwn 0 r_Rule_add opAddB) (xop (opOwn 0 r_Rule_sub opSub) (xcall r_area (xcons (xc (.int 0)) (xcons (xc (.int 2)) xnil))) (xmake 0 r_Rule_init ([.tup [], .tup []].drop 1) (xcons (xc (.int 0)) (xcons (xc (.int 2)) (xcons (xlst (xcons (xtup (xcons (xc (.int 2)) (xcons (xc (.int 2)) xnil))) xnil)) xnil))))) (xmake 0 r_Rule_init ([.tup [], .tup []].drop 1) (xcons (xc (.int 0)) (xcons (xc (.int 2)) (xcons (xlst (xcons (xtup (xcons (xc (.int 2)) (xcons (xc (.int 2)) xnil))) (xcons (xtup (xcons (xc (.int 0)) (xcons (xop opSub (xc (.int 0)) (xc (.int 2))) xnil))) xnil))) xnil)))))) (xseq (xapp 8 (xtup (xcons (xv 12) (xcons (xc (.int 1)) (xcons (xtup (xcons (xtup (xcons (xc (.int 0)) (xcons (xc (.int 0)) (xcons (xtup (xcons (xc (.int 1)) xnil)) (xcons (xtup (xcons (xtup (xcons (xc (.int 2)) (xcons (xop opSub (xc (.int 0)) (xc (.int 1))) xnil))) (xcons (xtup (xcons (xop opSub (xc (.int 0)) (xc (.int 1))) xnil)) xnil))) xnil))))) xnil)) (xcons (xc (.bl false)) xnil)))))) (xseq (xapp 8 (xtup (xcons (xv 12) (xcons (xc (.int 1)) (xcons (xtup (xcons (xtup (xcons (xc (.int 0)) (xcons (xc (.int 1)) (xcons (xtup (xcons (xc (.int 1)) xnil)) (xcons (xtup (xcons (xtup (xcons (xc (.int 1)) xnil)) xnil)) xnil))))) xnil)) (xcons (xc (.bl true)) xnil)))))) (xseq (xset 13 (xop (opOwn 0 r_Rule_add opAddB) (xv 12) (xmake 0 r_Rule_init ([.tup [], .tup []].drop 1) (xcons (xc (.int 0)) (xcons (xc (.int 2)) (xcons (xlst (xcons (xtup (xcons (xc (.int 2)) (xcons (xc (.int 1)) xnil))) (xcons (xtup (xcons (xc (.int 0)) (xcons (xop opSub (xc (.int 0)) (xc (.int 1))) xnil))) xnil))) xnil)))))) (xseq (xapp 8 (xtup (xcons (xv 13) (xcons (xc (.int 1)) (xcons (xtup (xcons (xtup (xcons (xc (.int 0)) (xcons (xc (.int 0)) (xcons (xtup (xcons (xc (.int 1)) xnil)) (xcons (xtup (xcons (xtup (xcons (xc (.int 3)) (xcons (xop opSub (xc (.int 0)) (xc (.int 1))) xnil))) (xcons (xtup (xcons (xop opSub (xc (.int 0)) (xc (.int 1))) xnil)) xnil))) xnil))))) xnil)) (xcons (xc (.bl true)) xnil)))))) (xapp 8 (xtup (xcons (xv 13) (xcons (xc (.int 1)) (xcons (xtup (xcons (xtup (xcons (xc (.int 0)) (xcons (xc (.int 0)) (xcons (xtup (xcons (xc (.int 1)) xnil)) (xcons (xtup (xcons (xtup (xcons (xc (.int 3)) (xcons (xop opSub (xc (.int 0)) (xc (.int 1))) xnil))) xnil)) xnil))))) xnil)) (xcons (xc (.bl false)) xnil))))))))))))))))))))))))))))))
def s_b : MS := (xseq (xfor (xseqI (xv 8)) (tgt [(tgn 14), (tgn 15), (tgn 16), (tgn 17)]) b_law_1) (xifs (xtor (xtest (xop opIsNot (xcall r_paper (xcons (xv 4) (xcons (xc (.int 1)) xnil))) (xc .non))) (xtor (xtest (xop opIsNot (xcall r_paper (xcons (xv 5) (xcons (xc (.int 3)) xnil))) (xc .non))) (xtest (xop opIsNot (xcall r_paper (xcons (xv 10) (xcons (xc (.int 2)) xnil))) (xc .non))))) (xret (xc (.bl false))) xnext))
theorem b_law_2_parts : b_law_2 = (xseq (xset 2 (xcall r_w_seed (xcons (xv 0) (xcons (xv 1) xnil)))) (xseq (xset 3 (xop opAddB (xc (.int 1)) (xcallB r_w_choose 2 (xcons (xc (.int 60)) xnil)))) (xseq s_a s_b))) := by
  unfold b_law_2 s_a s_b
  simp only [xseq_assoc]
theorem frt_app {T S : List Nat} {i : Nat} {a : M R} (ha : Fr S a) (hT : sub T S = true) (hi : i ∉ S) : FrT T S S (xapp i a) := fun G H G' ag e => by
  have em : isLst G i = isLst H i := by unfold isLst; rw [ag.2 i hi]
  unfold xapp at e ⊢
  rw [em] at e
  by_cases hm : isLst H i = true
  case neg => rw [if_neg hm] at e; cases e
  rw [if_pos hm] at e ⊢
  obtain ⟨xs, G1, h1, h2⟩ := bd_inv e
  obtain ⟨H1, h3, a3, k3⟩ := frt_expr (T := T) ha hT ag h1
  rw [h3]
  simp only [bd_some]
  unfold app at h2 ⊢
  rw [a3.2 i hi] at h2
  split at h2
  case h_2 => cases h2
  rename_i en hen
  split at h2
  case h_2 => cases h2
  rename_i mo hmo
  split at h2
  case isFalse => cases h2
  rename_i hf
  cases h2
  refine ⟨_, by rw [if_pos hf], a3.set, k3.trans (kp_set fun z => hi (sub_ok hT z))⟩
theorem f_a : FrT [0, 2] [0, 1, 2, 4, 5, 6, 7, 8, 9, 10, 11, 12, 13, 14, 15, 16, 17] [0, 1, 2, 14, 15, 16, 17] s_a := by
  unfold s_a
  refine frt_mono (S1 := (less (less (less (less (less (less (less (less (less (less (less (less (less (less (less (less (less (less [0, 1, 2, 4, 5, 6, 7, 8, 9, 10, 11, 12, 13, 14, 15, 16, 17] 4) 5) 6) 7) 8) 8) 8) 8) 8) 8) 9) 10) 8) 11) 8) 8) 12) 13)) ?_ (by decide)
  repeat' (first | (refine frt_seq (frt_app ?_ (by decide) (by decide)) ?_) | (refine frt_app ?_ (by decide) (by decide)) | exact frt_ret | exact frt_next | (refine frt_seq (frt_asgT ?_ (by decide) (frgt_t (frgs_cons (frgt_n (by decide)) (frgs_cons (frgt_n (by decide)) frgs_nil)))) ?_) | (refine frt_seq (frt_asgT ?_ (by decide) (frgt_t (frgs_cons (frgt_n (by decide)) (frgs_cons (frgt_n (by decide)) (frgs_cons (frgt_n (by decide)) frgs_nil))))) ?_) | (refine frt_seq (frt_asgT ?_ (by decide) (frgt_t (frgs_cons (frgt_n (by decide)) (frgs_cons (frgt_n (by decide)) (frgs_cons (frgt_n (by decide)) (frgs_cons (frgt_n (by decide)) frgs_nil)))))) ?_) | (refine frt_seq (S1 := less _ _) (frt_set ?_ (by decide) (by decide)) ?_) | (refine frt_seq (S1 := less (less _ _) _) (frt_par ?_ (by decide) (by decide) (by decide)) ?_) | (refine frt_seq (S1 := less (less (less _ _) _) _) (frt_par3 ?_ (by decide) (by decide) (by decide) (by decide)) ?_) | (refine frt_seq (frt_ifs ?_ (by decide) frt_ret frt_next) ?_) | (refine frt_ifs ?_ (by decide) frt_ret frt_next) | (refine frt_set ?_ (by decide) (by decide)) | (refine frt_par ?_ (by decide) (by decide) (by decide)) | (refine frt_par3 ?_ (by decide) (by decide) (by decide) (by decide)) | apply fr_test | apply fr_tru | apply fr_op | apply fr_un | exact fr_c | exact fr_nil | exact fr_nilR | exact fr_yes | apply fr_lc | apply fr_seqI | apply fr_enumA | apply fr_zipA | apply fr_range1 | apply fr_range2 | apply fr_cons | apply fr_consR | apply fr_star | apply fr_lst | apply fr_tup | apply fr_callD | apply fr_call | apply fr_cb | apply fr_make | apply fr_meth | apply fr_fld | apply fr_sl | apply fr_rev | exact fr_nop | apply fr_part | apply fr_if | apply fr_tand | apply fr_tor | apply fr_tnot | apply fr_vand | apply fr_vor | apply fr_vnot | apply fr_chain | exact fr_v (by decide) | exact frg_n (by decide) | decide)
theorem f_b : FrT [0] [0, 1, 2, 14, 15, 16, 17] [0, 1, 2, 14, 15, 16, 17] s_b := by
  unfold s_b
  refine frt_seq (frt_for (S1 := less (less (less (less [0, 1, 2, 14, 15, 16, 17] 14) 15) 16) 17) (fr_seqI (fr_v (by decide))) (by decide) (frgt_t (frgs_cons (frgt_n (by decide)) (frgs_cons (frgt_n (by decide)) (frgs_cons (frgt_n (by decide)) (frgs_cons (frgt_n (by decide)) frgs_nil))))) (by decide) ?_ (fun G G' => by unfold b_law_1; exact ifs_nobk G G')) ?_
  · unfold b_law_1
    repeat' (first | exact frt_ret | exact frt_next | (refine frt_seq (frt_asgT ?_ (by decide) (frgt_t (frgs_cons (frgt_n (by decide)) (frgs_cons (frgt_n (by decide)) frgs_nil)))) ?_) | (refine frt_seq (frt_asgT ?_ (by decide) (frgt_t (frgs_cons (frgt_n (by decide)) (frgs_cons (frgt_n (by decide)) (frgs_cons (frgt_n (by decide)) frgs_nil))))) ?_) | (refine frt_seq (frt_asgT ?_ (by decide) (frgt_t (frgs_cons (frgt_n (by decide)) (frgs_cons (frgt_n (by decide)) (frgs_cons (frgt_n (by decide)) (frgs_cons (frgt_n (by decide)) frgs_nil)))))) ?_) | (refine frt_seq (S1 := less _ _) (frt_set ?_ (by decide) (by decide)) ?_) | (refine frt_seq (S1 := less (less _ _) _) (frt_par ?_ (by decide) (by decide) (by decide)) ?_) | (refine frt_seq (S1 := less (less (less _ _) _) _) (frt_par3 ?_ (by decide) (by decide) (by decide) (by decide)) ?_) | (refine frt_seq (frt_ifs ?_ (by decide) frt_ret frt_next) ?_) | (refine frt_ifs ?_ (by decide) frt_ret frt_next) | (refine frt_set ?_ (by decide) (by decide)) | (refine frt_par ?_ (by decide) (by decide) (by decide)) | (refine frt_par3 ?_ (by decide) (by decide) (by decide) (by decide)) | apply fr_test | apply fr_tru | apply fr_op | apply fr_un | exact fr_c | exact fr_nil | exact fr_nilR | exact fr_yes | apply fr_lc | apply fr_seqI | apply fr_enumA | apply fr_zipA | apply fr_range1 | apply fr_range2 | apply fr_cons | apply fr_consR | apply fr_star | apply fr_lst | apply fr_tup | apply fr_callD | apply fr_call | apply fr_cb | apply fr_make | apply fr_meth | apply fr_fld | apply fr_sl | apply fr_rev | exact fr_nop | apply fr_part | apply fr_if | apply fr_tand | apply fr_tor | apply fr_tnot | apply fr_vand | apply fr_vor | apply fr_vnot | apply fr_chain | exact fr_v (by decide) | exact frg_n (by decide) | decide)
  · repeat' (first | exact frt_ret | exact frt_next | (refine frt_seq (frt_asgT ?_ (by decide) (frgt_t (frgs_cons (frgt_n (by decide)) (frgs_cons (frgt_n (by decide)) frgs_nil)))) ?_) | (refine frt_seq (frt_asgT ?_ (by decide) (frgt_t (frgs_cons (frgt_n (by decide)) (frgs_cons (frgt_n (by decide)) (frgs_cons (frgt_n (by decide)) frgs_nil))))) ?_) | (refine frt_seq (frt_asgT ?_ (by decide) (frgt_t (frgs_cons (frgt_n (by decide)) (frgs_cons (frgt_n (by decide)) (frgs_cons (frgt_n (by decide)) (frgs_cons (frgt_n (by decide)) frgs_nil)))))) ?_) | (refine frt_seq (S1 := less _ _) (frt_set ?_ (by decide) (by decide)) ?_) | (refine frt_seq (S1 := less (less _ _) _) (frt_par ?_ (by decide) (by decide) (by decide)) ?_) | (refine frt_seq (S1 := less (less (less _ _) _) _) (frt_par3 ?_ (by decide) (by decide) (by decide) (by decide)) ?_) | (refine frt_seq (frt_ifs ?_ (by decide) frt_ret frt_next) ?_) | (refine frt_ifs ?_ (by decide) frt_ret frt_next) | (refine frt_set ?_ (by decide) (by decide)) | (refine frt_par ?_ (by decide) (by decide) (by decide)) | (refine frt_par3 ?_ (by decide) (by decide) (by decide) (by decide)) | apply fr_test | apply fr_tru | apply fr_op | apply fr_un | exact fr_c | exact fr_nil | exact fr_nilR | exact fr_yes | apply fr_lc | apply fr_seqI | apply fr_enumA | apply fr_zipA | apply fr_range1 | apply fr_range2 | apply fr_cons | apply fr_consR | apply fr_star | apply fr_lst | apply fr_tup | apply fr_callD | apply fr_call | apply fr_cb | apply fr_make | apply fr_meth | apply fr_fld | apply fr_sl | apply fr_rev | exact fr_nop | apply fr_part | apply fr_if | apply fr_tand | apply fr_tor | apply fr_tnot | apply fr_vand | apply fr_vor | apply fr_vnot | apply fr_chain | exact fr_v (by decide) | exact frg_n (by decide) | decide)
def ga (a : Int) : Gam := [.un, .un, .un, .im (.int (1 + a)), .un, .un, .un, .un, .un, .un, .un, .un, .un, .un, .un, .un, .un, .un]
def bothP (s t : MS) (f : Gam → Gam) (G : Gam) : Bool := match s G with
  | some (.nx, G1) => nxB (t (f G1))
  | _ => false
theorem bothP_ok {s t : MS} {f : Gam → Gam} {G : Gam} (h : bothP s t f G = true) : ∃ G1 G2, s G = some (.nx, G1) ∧ t (f G1) = some (.nx, G2) := by
  unfold bothP at h
  split at h
  · rename_i G1 e
    obtain ⟨G2, h2⟩ := nxB_ok h
    exact ⟨G1, G2, e, h2⟩
  · cases h
def row (a : Int) : Bool := bothP s_a s_b id (ga a)
theorem tab_0 : row 0 = true := by decide +kernel
theorem tab_1 : row 1 = true := by decide +kernel
theorem tab_2 : row 2 = true := by decide +kernel
theorem tab_3 : row 3 = true := by decide +kernel
theorem tab_4 : row 4 = true := by decide +kernel
theorem tab_5 : row 5 = true := by decide +kernel
theorem tab_6 : row 6 = true := by decide +kernel
theorem tab_7 : row 7 = true := by decide +kernel
theorem tab_8 : row 8 = true := by decide +kernel
theorem tab_9 : row 9 = true := by decide +kernel
theorem tab_10 : row 10 = true := by decide +kernel
theorem tab_11 : row 11 = true := by decide +kernel
theorem tab_12 : row 12 = true := by decide +kernel
theorem tab_13 : row 13 = true := by decide +kernel
theorem tab_14 : row 14 = true := by decide +kernel
theorem tab_15 : row 15 = true := by decide +kernel
theorem tab_16 : row 16 = true := by decide +kernel
theorem tab_17 : row 17 = true := by decide +kernel
theorem tab_18 : row 18 = true := by decide +kernel
theorem tab_19 : row 19 = true := by decide +kernel
theorem tab_20 : row 20 = true := by decide +kernel
theorem tab_21 : row 21 = true := by decide +kernel
theorem tab_22 : row 22 = true := by decide +kernel
theorem tab_23 : row 23 = true := by decide +kernel
theorem tab_24 : row 24 = true := by decide +kernel
theorem tab_25 : row 25 = true := by decide +kernel
theorem tab_26 : row 26 = true := by decide +kernel
theorem tab_27 : row 27 = true := by decide +kernel
theorem tab_28 : row 28 = true := by decide +kernel
theorem tab_29 : row 29 = true := by decide +kernel
theorem tab_30 : row 30 = true := by decide +kernel
theorem tab_31 : row 31 = true := by decide +kernel
theorem tab_32 : row 32 = true := by decide +kernel
theorem tab_33 : row 33 = true := by decide +kernel
theorem tab_34 : row 34 = true := by decide +kernel
theorem tab_35 : row 35 = true := by decide +kernel
theorem tab_36 : row 36 = true := by decide +kernel
theorem tab_37 : row 37 = true := by decide +kernel
theorem tab_38 : row 38 = true := by decide +kernel
theorem tab_39 : row 39 = true := by decide +kernel
theorem tab_40 : row 40 = true := by decide +kernel
theorem tab_41 : row 41 = true := by decide +kernel
theorem tab_42 : row 42 = true := by decide +kernel
theorem tab_43 : row 43 = true := by decide +kernel
theorem tab_44 : row 44 = true := by decide +kernel
theorem tab_45 : row 45 = true := by decide +kernel
theorem tab_46 : row 46 = true := by decide +kernel
theorem tab_47 : row 47 = true := by decide +kernel
theorem tab_48 : row 48 = true := by decide +kernel
theorem tab_49 : row 49 = true := by decide +kernel
theorem tab_50 : row 50 = true := by decide +kernel
theorem tab_51 : row 51 = true := by decide +kernel
theorem tab_52 : row 52 = true := by decide +kernel
theorem tab_53 : row 53 = true := by decide +kernel
theorem tab_54 : row 54 = true := by decide +kernel
theorem tab_55 : row 55 = true := by decide +kernel
theorem tab_56 : row 56 = true := by decide +kernel
theorem tab_57 : row 57 = true := by decide +kernel
theorem tab_58 : row 58 = true := by decide +kernel
theorem tab_59 : row 59 = true := by decide +kernel
theorem tab : ∀ {a : Nat}, a < 60 → row a = true
  | 0, _ => tab_0
  | 1, _ => tab_1
  | 2, _ => tab_2
  | 3, _ => tab_3
  | 4, _ => tab_4
  | 5, _ => tab_5
  | 6, _ => tab_6
  | 7, _ => tab_7
  | 8, _ => tab_8
  | 9, _ => tab_9
  | 10, _ => tab_10
  | 11, _ => tab_11
  | 12, _ => tab_12
  | 13, _ => tab_13
  | 14, _ => tab_14
  | 15, _ => tab_15
  | 16, _ => tab_16
  | 17, _ => tab_17
  | 18, _ => tab_18
  | 19, _ => tab_19
  | 20, _ => tab_20
  | 21, _ => tab_21
  | 22, _ => tab_22
  | 23, _ => tab_23
  | 24, _ => tab_24
  | 25, _ => tab_25
  | 26, _ => tab_26
  | 27, _ => tab_27
  | 28, _ => tab_28
  | 29, _ => tab_29
  | 30, _ => tab_30
  | 31, _ => tab_31
  | 32, _ => tab_32
  | 33, _ => tab_33
  | 34, _ => tab_34
  | 35, _ => tab_35
  | 36, _ => tab_36
  | 37, _ => tab_37
  | 38, _ => tab_38
  | 39, _ => tab_39
  | 40, _ => tab_40
  | 41, _ => tab_41
  | 42, _ => tab_42
  | 43, _ => tab_43
  | 44, _ => tab_44
  | 45, _ => tab_45
  | 46, _ => tab_46
  | 47, _ => tab_47
  | 48, _ => tab_48
  | 49, _ => tab_49
  | 50, _ => tab_50
  | 51, _ => tab_51
  | 52, _ => tab_52
  | 53, _ => tab_53
  | 54, _ => tab_54
  | 55, _ => tab_55
  | 56, _ => tab_56
  | 57, _ => tab_57
  | 58, _ => tab_58
  | 59, _ => tab_59
  | a + 60, h => absurd h (by omega)
theorem len18 : ∀ {G : Gam}, G.length = 18 → ∃ a b c d e f g h i j k l m n o p q r, G = [a, b, c, d, e, f, g, h, i, j, k, l, m, n, o, p, q, r]
  | [_, _, _, _, _, _, _, _, _, _, _, _, _, _, _, _, _, _], _ => ⟨_, _, _, _, _, _, _, _, _, _, _, _, _, _, _, _, _, _, rfl⟩
structure Iv (x0 : Ent) (G : Gam) : Prop where
  l : G.length = 18
  a : G[0]? = some x0
theorem Iv.form {x0 : Ent} {G : Gam} (h : Iv x0 G) : ∃ b c d e f g h i j k l m n o p q r, G = [x0, b, c, d, e, f, g, h, i, j, k, l, m, n, o, p, q, r] := by
  obtain ⟨a, b, c, d, e, f, g, h', i, j, k, l, m, n, o, p, q, r, rfl⟩ := len18 h.l
  have h1 := Option.some.inj h.a
  subst h1
  exact ⟨b, c, d, e, f, g, h', i, j, k, l, m, n, o, p, q, r, rfl⟩
theorem v_turn {ns : List Int} {G : Gam} {k : Nat} (hk : k < 64) (iv : Iv (.im (.frz (ns.map .int))) G) (h1 : G[1]? = some (.im (.int (0 + (k : Int))))) : ∃ G', b_law_2 G = some (.nx, G') ∧ Iv (.im (.frz (ns.map .int))) G' := by
  obtain ⟨x1, x2, x3, x4, x5, x6, x7, x8, x9, x10, x11, x12, x13, x14, x15, x16, x17, rfl⟩ := iv.form
  have h2 := Option.some.inj h1
  subst h2
  obtain ⟨bs, s1, s2⟩ := v_w_seed (ns := ns) (k := 0 + (k : Int)) (by omega) (by omega)
  obtain ⟨f, b1, e1, f0, f4, c1⟩ := v_w_choose (m := 60) s2 (by decide) (by decide)
  have ef : f = ((f.toNat : Nat) : Int) := (Int.toNat_of_nonneg f0).symm
  obtain ⟨G1, G2, r1, r2⟩ := bothP_ok (tab (a := f.toNat) (by omega))
  rw [← ef] at r1
  rw [b_law_2_parts]
  rw [xseq_nx (show _ = some (Fl.nx, [Ent.im (.frz (ns.map .int)), .im (.int (0 + (k : Int))), .ow bs, x3, x4, x5, x6, x7, x8, x9, x10, x11, x12, x13, x14, x15, x16, x17]) from xset_e (xcall_ok (xc1 rfl (xc1 rfl xnil_ok)) s1) rfl)]
  have p1 : xop opAddB (xc (.int 1)) (xcallB r_w_choose 2 (xcons (xc (.int 60)) xnil)) [Ent.im (.frz (ns.map .int)), .im (.int (0 + (k : Int))), .ow bs, x3, x4, x5, x6, x7, x8, x9, x10, x11, x12, x13, x14, x15, x16, x17] = some (.im (.int (1 + f)), [Ent.im (.frz (ns.map .int)), .im (.int (0 + (k : Int))), .ow b1, x3, x4, x5, x6, x7, x8, x9, x10, x11, x12, x13, x14, x15, x16, x17]) := xo2 rfl (xcallB_ok rfl (xc1 rfl xnil_ok) rfl rfl e1 rfl) rfl
  rw [xseq_nx (show _ = some (Fl.nx, [Ent.im (.frz (ns.map .int)), .im (.int (0 + (k : Int))), .ow b1, .im (.int (1 + f)), x4, x5, x6, x7, x8, x9, x10, x11, x12, x13, x14, x15, x16, x17]) from xset_e p1 rfl)]
  obtain ⟨H1, q1, ag1, kp1⟩ := frt_run (H := [Ent.im (.frz (ns.map .int)), .im (.int (0 + (k : Int))), .ow b1, .im (.int (1 + f)), x4, x5, x6, x7, x8, x9, x10, x11, x12, x13, x14, x15, x16, x17]) f_a r1 rfl (fun i hi => by
    rcases i with _ | _ | _ | _ | _ | _ | _ | _ | _ | _ | _ | _ | _ | _ | _ | _ | _ | _ | i <;> first | rfl | exact absurd (by decide) hi)
  rw [xseq_nx q1]
  obtain ⟨H2, q2, ag2, kp2⟩ := f_b G1 H1 G2 ag1 r2
  exact ⟨H2, q2, kp2.1.trans kp1.1, (kp2.2 0 (by decide)).trans (kp1.2 0 (by decide))⟩
theorem law_true : ∀ ns : List Int, ns.length ≤ 63 → r_law [.frz (ns.map .int)] = some (.im (.bl true)) := fun ns hn => by
  have hlen : cbLen [.frz (ns.map .int)] = some (.im (.int ns.length)) := by
    show some (R.im (.int (((ns.map D.int).length : Nat) : Int))) = _
    rw [List.length_map]
  have e1 : xcb cbMax2 (xcons (xc (.int 1)) (xcons (xcb cbMin2 (xcons (xc (.int 4)) (xcons (xcb cbLen (xcons (xv 0) xnil)) xnil))) xnil)) [.im (.frz (ns.map .int)), .un, .un, .un, .un, .un, .un, .un, .un, .un, .un, .un, .un, .un, .un, .un, .un, .un] = some (.im (.int (if (if (ns.length : Int) < 4 then (ns.length : Int) else 4) > 1 then (if (ns.length : Int) < 4 then (ns.length : Int) else 4) else 1)), [.im (.frz (ns.map .int)), .un, .un, .un, .un, .un, .un, .un, .un, .un, .un, .un, .un, .un, .un, .un, .un, .un]) :=
    xcb_ok (xc1 rfl (xc1 (xcb_ok (xc1 rfl (xc1 (xcb_ok (xc1 rfl xnil_ok) hlen) xnil_ok)) rfl) xnil_ok)) rfl
  generalize hc : (if (if (ns.length : Int) < 4 then (ns.length : Int) else 4) > 1 then (if (ns.length : Int) < 4 then (ns.length : Int) else 4) else 1) = c at e1
  have c9 : 0 < c ∧ c ≤ 4 := by
    rw [← hc]
    split <;> (try split at *) <;> omega
  obtain ⟨G', g1, iv⟩ := xforL_inv (tg := tgn 1) (b := b_law_2) (Iv (.im (.frz (ns.map .int)))) (ds := rng 0 c.toNat) (G := [.im (.frz (ns.map .int)), .un, .un, .un, .un, .un, .un, .un, .un, .un, .un, .un, .un, .un, .un, .un, .un, .un]) ⟨rfl, rfl⟩ (fun e he G hG => by
    obtain ⟨k, hk, rfl⟩ := rng_mem he
    obtain ⟨G2, e2, i2⟩ := v_turn (ns := ns) (G := G.set 1 (.im (.int (0 + (k : Int))))) (k := k) (by omega) ⟨by rw [List.length_set]; exact hG.l, by rw [List.getElem?_set_ne (by decide)]; exact hG.a⟩ (by rw [List.getElem?_set_self (by rw [hG.l]; decide)])
    exact ⟨_, G2, rfl, .inl e2, i2⟩)
  refine runF_st rfl ?_
  refine st_nx (by exact xfor_ok (xrange1_ok (xc1 e1 xnil_ok) (okR_of (by omega) (by omega))) g1) ?_
  exact st_ret rfl
end Bk
namespace Bk
open PySem L2 PyProof.Rows
theorem all_mk {l : PySem.W.OpenLaw} {w : World} {K : PySem.W.Frag} {h : Heap} {mg : PySem.Str → Option Value} {fa : Addr} (X : K.In h) (G : h.Ns mainGlobals mg) (hfa : mg "law" = some (.ref fa))
    {C_Rule : Addr} (aC_Rule : PySem.W.nsIn K mainGlobals (cName 0) = some (some (.ref C_Rule))) (pg_Rule : PySem.W.plainGet K C_Rule Str.empty = true) (hd_Rule : PySem.W.hasDictIn K C_Rule = true) (po_Rule : PySem.W.plainOver K C_Rule = true) (sa_Rule : PySem.W.findIn K (.ref C_Rule) "__setattr__" = some (some (.builtin "object.__setattr__")))
    (na_Rule_0 : PySem.W.findIn K (.ref C_Rule) "low" = some none)
    (na_Rule_1 : PySem.W.findIn K (.ref C_Rule) "high" = some none)
    (na_Rule_2 : PySem.W.findIn K (.ref C_Rule) "weights" = some none)
    (na_Rule_3 : PySem.W.findIn K (.ref C_Rule) "shares" = some none)
    {f_is_sequence : Addr} {od_is_sequence an_is_sequence : Option Addr} {sl_is_sequence : Array (Option Value)} {oc_is_sequence kV_is_sequence dc_is_sequence pc_is_sequence cd_is_sequence ct_is_sequence : Value}
    (a_is_sequence : PySem.W.nsIn K mainGlobals "is_sequence" = some (some (.ref f_is_sequence))) (l_is_sequence : K.lookup f_is_sequence = some ⟨oc_is_sequence, od_is_sequence, .func (PySem.W.fnOf "is_sequence" "is_sequence" (defArgs s_is_sequence) (defBody s_is_sequence) (defScope s_is_sequence) .none kV_is_sequence dc_is_sequence pc_is_sequence an_is_sequence cd_is_sequence ct_is_sequence), sl_is_sequence⟩) (c_is_sequence : PySem.W.codeIn K cd_is_sequence "is_sequence" = true) (k_is_sequence : PySem.W.keepIn K (.ref f_is_sequence) = true)
    {f_is_less : Addr} {od_is_less an_is_less : Option Addr} {sl_is_less : Array (Option Value)} {oc_is_less kV_is_less dc_is_less pc_is_less cd_is_less ct_is_less : Value}
    (a_is_less : PySem.W.nsIn K mainGlobals "is_less" = some (some (.ref f_is_less))) (l_is_less : K.lookup f_is_less = some ⟨oc_is_less, od_is_less, .func (PySem.W.fnOf "is_less" "is_less" (defArgs s_is_less) (defBody s_is_less) (defScope s_is_less) .none kV_is_less dc_is_less pc_is_less an_is_less cd_is_less ct_is_less), sl_is_less⟩) (c_is_less : PySem.W.codeIn K cd_is_less "is_less" = true) (k_is_less : PySem.W.keepIn K (.ref f_is_less) = true)
    {f_is_integer : Addr} {od_is_integer an_is_integer : Option Addr} {sl_is_integer : Array (Option Value)} {oc_is_integer kV_is_integer dc_is_integer pc_is_integer cd_is_integer ct_is_integer : Value}
    (a_is_integer : PySem.W.nsIn K mainGlobals "is_integer" = some (some (.ref f_is_integer))) (l_is_integer : K.lookup f_is_integer = some ⟨oc_is_integer, od_is_integer, .func (PySem.W.fnOf "is_integer" "is_integer" (defArgs s_is_integer) (defBody s_is_integer) (defScope s_is_integer) .none kV_is_integer dc_is_integer pc_is_integer an_is_integer cd_is_integer ct_is_integer), sl_is_integer⟩) (c_is_integer : PySem.W.codeIn K cd_is_integer "is_integer" = true) (k_is_integer : PySem.W.keepIn K (.ref f_is_integer) = true)
    {f_divisor : Addr} {od_divisor an_divisor : Option Addr} {sl_divisor : Array (Option Value)} {oc_divisor kV_divisor dc_divisor pc_divisor cd_divisor ct_divisor : Value}
    (a_divisor : PySem.W.nsIn K mainGlobals "divisor" = some (some (.ref f_divisor))) (l_divisor : K.lookup f_divisor = some ⟨oc_divisor, od_divisor, .func (PySem.W.fnOf "divisor" "divisor" (defArgs s_divisor) (defBody s_divisor) (defScope s_divisor) .none kV_divisor dc_divisor pc_divisor an_divisor cd_divisor ct_divisor), sl_divisor⟩) (c_divisor : PySem.W.codeIn K cd_divisor "divisor" = true) (k_divisor : PySem.W.keepIn K (.ref f_divisor) = true)
    {f_is_pair : Addr} {od_is_pair an_is_pair : Option Addr} {sl_is_pair : Array (Option Value)} {oc_is_pair kV_is_pair dc_is_pair pc_is_pair cd_is_pair ct_is_pair : Value}
    (a_is_pair : PySem.W.nsIn K mainGlobals "is_pair" = some (some (.ref f_is_pair))) (l_is_pair : K.lookup f_is_pair = some ⟨oc_is_pair, od_is_pair, .func (PySem.W.fnOf "is_pair" "is_pair" (defArgs s_is_pair) (defBody s_is_pair) (defScope s_is_pair) .none kV_is_pair dc_is_pair pc_is_pair an_is_pair cd_is_pair ct_is_pair), sl_is_pair⟩) (c_is_pair : PySem.W.codeIn K cd_is_pair "is_pair" = true) (k_is_pair : PySem.W.keepIn K (.ref f_is_pair) = true)
    {f_is_value : Addr} {od_is_value an_is_value : Option Addr} {sl_is_value : Array (Option Value)} {oc_is_value kV_is_value dc_is_value pc_is_value cd_is_value ct_is_value : Value}
    (a_is_value : PySem.W.nsIn K mainGlobals "is_value" = some (some (.ref f_is_value))) (l_is_value : K.lookup f_is_value = some ⟨oc_is_value, od_is_value, .func (PySem.W.fnOf "is_value" "is_value" (defArgs s_is_value) (defBody s_is_value) (defScope s_is_value) .none kV_is_value dc_is_value pc_is_value an_is_value cd_is_value ct_is_value), sl_is_value⟩) (c_is_value : PySem.W.codeIn K cd_is_value "is_value" = true) (k_is_value : PySem.W.keepIn K (.ref f_is_value) = true)
    {f_value_of : Addr} {od_value_of an_value_of : Option Addr} {sl_value_of : Array (Option Value)} {oc_value_of kV_value_of dc_value_of pc_value_of cd_value_of ct_value_of : Value}
    (a_value_of : PySem.W.nsIn K mainGlobals "value_of" = some (some (.ref f_value_of))) (l_value_of : K.lookup f_value_of = some ⟨oc_value_of, od_value_of, .func (PySem.W.fnOf "value_of" "value_of" (defArgs s_value_of) (defBody s_value_of) (defScope s_value_of) .none kV_value_of dc_value_of pc_value_of an_value_of cd_value_of ct_value_of), sl_value_of⟩) (c_value_of : PySem.W.codeIn K cd_value_of "value_of" = true) (k_value_of : PySem.W.keepIn K (.ref f_value_of) = true)
    {f_is_between : Addr} {od_is_between an_is_between : Option Addr} {sl_is_between : Array (Option Value)} {oc_is_between kV_is_between dc_is_between pc_is_between cd_is_between ct_is_between : Value}
    (a_is_between : PySem.W.nsIn K mainGlobals "is_between" = some (some (.ref f_is_between))) (l_is_between : K.lookup f_is_between = some ⟨oc_is_between, od_is_between, .func (PySem.W.fnOf "is_between" "is_between" (defArgs s_is_between) (defBody s_is_between) (defScope s_is_between) .none kV_is_between dc_is_between pc_is_between an_is_between cd_is_between ct_is_between), sl_is_between⟩) (c_is_between : PySem.W.codeIn K cd_is_between "is_between" = true) (k_is_between : PySem.W.keepIn K (.ref f_is_between) = true)
    {f_is_share : Addr} {od_is_share an_is_share : Option Addr} {sl_is_share : Array (Option Value)} {oc_is_share kV_is_share dc_is_share pc_is_share cd_is_share ct_is_share : Value}
    (a_is_share : PySem.W.nsIn K mainGlobals "is_share" = some (some (.ref f_is_share))) (l_is_share : K.lookup f_is_share = some ⟨oc_is_share, od_is_share, .func (PySem.W.fnOf "is_share" "is_share" (defArgs s_is_share) (defBody s_is_share) (defScope s_is_share) .none kV_is_share dc_is_share pc_is_share an_is_share cd_is_share ct_is_share), sl_is_share⟩) (c_is_share : PySem.W.codeIn K cd_is_share "is_share" = true) (k_is_share : PySem.W.keepIn K (.ref f_is_share) = true)
    {f_is_weight : Addr} {od_is_weight an_is_weight : Option Addr} {sl_is_weight : Array (Option Value)} {oc_is_weight kV_is_weight dc_is_weight pc_is_weight cd_is_weight ct_is_weight : Value}
    (a_is_weight : PySem.W.nsIn K mainGlobals "is_weight" = some (some (.ref f_is_weight))) (l_is_weight : K.lookup f_is_weight = some ⟨oc_is_weight, od_is_weight, .func (PySem.W.fnOf "is_weight" "is_weight" (defArgs s_is_weight) (defBody s_is_weight) (defScope s_is_weight) .none kV_is_weight dc_is_weight pc_is_weight an_is_weight cd_is_weight ct_is_weight), sl_is_weight⟩) (c_is_weight : PySem.W.codeIn K cd_is_weight "is_weight" = true) (k_is_weight : PySem.W.keepIn K (.ref f_is_weight) = true)
    {f_ascending : Addr} {od_ascending an_ascending : Option Addr} {sl_ascending : Array (Option Value)} {oc_ascending kV_ascending dc_ascending pc_ascending cd_ascending ct_ascending : Value}
    (a_ascending : PySem.W.nsIn K mainGlobals "ascending" = some (some (.ref f_ascending))) (l_ascending : K.lookup f_ascending = some ⟨oc_ascending, od_ascending, .func (PySem.W.fnOf "ascending" "ascending" (defArgs s_ascending) (defBody s_ascending) (defScope s_ascending) .none kV_ascending dc_ascending pc_ascending an_ascending cd_ascending ct_ascending), sl_ascending⟩) (c_ascending : PySem.W.codeIn K cd_ascending "ascending" = true) (k_ascending : PySem.W.keepIn K (.ref f_ascending) = true)
    {f_lowest : Addr} {od_lowest an_lowest : Option Addr} {sl_lowest : Array (Option Value)} {oc_lowest kV_lowest dc_lowest pc_lowest cd_lowest ct_lowest : Value}
    (a_lowest : PySem.W.nsIn K mainGlobals "lowest" = some (some (.ref f_lowest))) (l_lowest : K.lookup f_lowest = some ⟨oc_lowest, od_lowest, .func (PySem.W.fnOf "lowest" "lowest" (defArgs s_lowest) (defBody s_lowest) (defScope s_lowest) .none kV_lowest dc_lowest pc_lowest an_lowest cd_lowest ct_lowest), sl_lowest⟩) (c_lowest : PySem.W.codeIn K cd_lowest "lowest" = true) (k_lowest : PySem.W.keepIn K (.ref f_lowest) = true)
    {f_added : Addr} {od_added an_added : Option Addr} {sl_added : Array (Option Value)} {oc_added kV_added dc_added pc_added cd_added ct_added : Value}
    (a_added : PySem.W.nsIn K mainGlobals "added" = some (some (.ref f_added))) (l_added : K.lookup f_added = some ⟨oc_added, od_added, .func (PySem.W.fnOf "added" "added" (defArgs s_added) (defBody s_added) (defScope s_added) .none kV_added dc_added pc_added an_added cd_added ct_added), sl_added⟩) (c_added : PySem.W.codeIn K cd_added "added" = true) (k_added : PySem.W.keepIn K (.ref f_added) = true)
    {f_summed : Addr} {od_summed an_summed : Option Addr} {sl_summed : Array (Option Value)} {oc_summed kV_summed dc_summed pc_summed cd_summed ct_summed : Value}
    (a_summed : PySem.W.nsIn K mainGlobals "summed" = some (some (.ref f_summed))) (l_summed : K.lookup f_summed = some ⟨oc_summed, od_summed, .func (PySem.W.fnOf "summed" "summed" (defArgs s_summed) (defBody s_summed) (defScope s_summed) .none kV_summed dc_summed pc_summed an_summed cd_summed ct_summed), sl_summed⟩) (c_summed : PySem.W.codeIn K cd_summed "summed" = true) (k_summed : PySem.W.keepIn K (.ref f_summed) = true)
    {f_least_shares : Addr} {od_least_shares an_least_shares : Option Addr} {sl_least_shares : Array (Option Value)} {oc_least_shares kV_least_shares dc_least_shares pc_least_shares cd_least_shares ct_least_shares : Value}
    (a_least_shares : PySem.W.nsIn K mainGlobals "least_shares" = some (some (.ref f_least_shares))) (l_least_shares : K.lookup f_least_shares = some ⟨oc_least_shares, od_least_shares, .func (PySem.W.fnOf "least_shares" "least_shares" (defArgs s_least_shares) (defBody s_least_shares) (defScope s_least_shares) .none kV_least_shares dc_least_shares pc_least_shares an_least_shares cd_least_shares ct_least_shares), sl_least_shares⟩) (c_least_shares : PySem.W.codeIn K cd_least_shares "least_shares" = true) (k_least_shares : PySem.W.keepIn K (.ref f_least_shares) = true)
    {f_least_weights : Addr} {od_least_weights an_least_weights : Option Addr} {sl_least_weights : Array (Option Value)} {oc_least_weights kV_least_weights dc_least_weights pc_least_weights cd_least_weights ct_least_weights : Value}
    (a_least_weights : PySem.W.nsIn K mainGlobals "least_weights" = some (some (.ref f_least_weights))) (l_least_weights : K.lookup f_least_weights = some ⟨oc_least_weights, od_least_weights, .func (PySem.W.fnOf "least_weights" "least_weights" (defArgs s_least_weights) (defBody s_least_weights) (defScope s_least_weights) .none kV_least_weights dc_least_weights pc_least_weights an_least_weights cd_least_weights ct_least_weights), sl_least_weights⟩) (c_least_weights : PySem.W.codeIn K cd_least_weights "least_weights" = true) (k_least_weights : PySem.W.keepIn K (.ref f_least_weights) = true)
    {f_need_stretch : Addr} {od_need_stretch an_need_stretch : Option Addr} {sl_need_stretch : Array (Option Value)} {oc_need_stretch kV_need_stretch dc_need_stretch pc_need_stretch cd_need_stretch ct_need_stretch : Value}
    (a_need_stretch : PySem.W.nsIn K mainGlobals "need_stretch" = some (some (.ref f_need_stretch))) (l_need_stretch : K.lookup f_need_stretch = some ⟨oc_need_stretch, od_need_stretch, .func (PySem.W.fnOf "need_stretch" "need_stretch" (defArgs s_need_stretch) (defBody s_need_stretch) (defScope s_need_stretch) .none kV_need_stretch dc_need_stretch pc_need_stretch an_need_stretch cd_need_stretch ct_need_stretch), sl_need_stretch⟩) (c_need_stretch : PySem.W.codeIn K cd_need_stretch "need_stretch" = true) (k_need_stretch : PySem.W.keepIn K (.ref f_need_stretch) = true)
    {f_Rule_init : Addr} {od_Rule_init an_Rule_init : Option Addr} {sl_Rule_init : Array (Option Value)} {oc_Rule_init kV_Rule_init dc_Rule_init pc_Rule_init cd_Rule_init ct_Rule_init : Value}
    {dT_Rule_init : Addr} {oT_Rule_init : Obj} {gi_Rule_init : List Value} {gn_Rule_init : Nat} (t_Rule_init : K.lookup dT_Rule_init = some oT_Rule_init) (td_Rule_init : oT_Rule_init.data = .seq gi_Rule_init.toArray gn_Rule_init) (v_Rule_init : ∃ vs, Vals vs gi_Rule_init ∧ ∀ H, DRs K H vs [.tup [], .tup []])
    (a_Rule_init : PySem.W.findIn K (.ref C_Rule) "__init__" = some (some (.ref f_Rule_init))) (l_Rule_init : K.lookup f_Rule_init = some ⟨oc_Rule_init, od_Rule_init, .func (PySem.W.fnOf "__init__" "Rule.__init__" (defArgs s_Rule_init) (defBody s_Rule_init) (defScope s_Rule_init) (.ref dT_Rule_init) kV_Rule_init dc_Rule_init pc_Rule_init an_Rule_init cd_Rule_init ct_Rule_init), sl_Rule_init⟩) (c_Rule_init : PySem.W.codeIn K cd_Rule_init "Rule.__init__" = true) (k_Rule_init : PySem.W.keepIn K (.ref f_Rule_init) = true)
    (i_Rule_init : PySem.W.isFn K (.ref f_Rule_init) = true)
    (mk_Rule : PySem.W.makesIn K C_Rule = true) (kc_Rule : PySem.W.keepIn K (.ref C_Rule) = true)
    {f_Rule_add : Addr} {od_Rule_add an_Rule_add : Option Addr} {sl_Rule_add : Array (Option Value)} {oc_Rule_add kV_Rule_add dc_Rule_add pc_Rule_add cd_Rule_add ct_Rule_add : Value}
    (a_Rule_add : PySem.W.findIn K (.ref C_Rule) "__add__" = some (some (.ref f_Rule_add))) (l_Rule_add : K.lookup f_Rule_add = some ⟨oc_Rule_add, od_Rule_add, .func (PySem.W.fnOf "__add__" "Rule.__add__" (defArgs s_Rule_add) (defBody s_Rule_add) (defScope s_Rule_add) .none kV_Rule_add dc_Rule_add pc_Rule_add an_Rule_add cd_Rule_add ct_Rule_add), sl_Rule_add⟩) (c_Rule_add : PySem.W.codeIn K cd_Rule_add "Rule.__add__" = true) (k_Rule_add : PySem.W.keepIn K (.ref f_Rule_add) = true)
    (i_Rule_add : PySem.W.isFn K (.ref f_Rule_add) = true)
    {f_Rule_neg : Addr} {od_Rule_neg an_Rule_neg : Option Addr} {sl_Rule_neg : Array (Option Value)} {oc_Rule_neg kV_Rule_neg dc_Rule_neg pc_Rule_neg cd_Rule_neg ct_Rule_neg : Value}
    (a_Rule_neg : PySem.W.findIn K (.ref C_Rule) "__neg__" = some (some (.ref f_Rule_neg))) (l_Rule_neg : K.lookup f_Rule_neg = some ⟨oc_Rule_neg, od_Rule_neg, .func (PySem.W.fnOf "__neg__" "Rule.__neg__" (defArgs s_Rule_neg) (defBody s_Rule_neg) (defScope s_Rule_neg) .none kV_Rule_neg dc_Rule_neg pc_Rule_neg an_Rule_neg cd_Rule_neg ct_Rule_neg), sl_Rule_neg⟩) (c_Rule_neg : PySem.W.codeIn K cd_Rule_neg "Rule.__neg__" = true) (k_Rule_neg : PySem.W.keepIn K (.ref f_Rule_neg) = true)
    (i_Rule_neg : PySem.W.isFn K (.ref f_Rule_neg) = true)
    {f_Rule_sub : Addr} {od_Rule_sub an_Rule_sub : Option Addr} {sl_Rule_sub : Array (Option Value)} {oc_Rule_sub kV_Rule_sub dc_Rule_sub pc_Rule_sub cd_Rule_sub ct_Rule_sub : Value}
    (a_Rule_sub : PySem.W.findIn K (.ref C_Rule) "__sub__" = some (some (.ref f_Rule_sub))) (l_Rule_sub : K.lookup f_Rule_sub = some ⟨oc_Rule_sub, od_Rule_sub, .func (PySem.W.fnOf "__sub__" "Rule.__sub__" (defArgs s_Rule_sub) (defBody s_Rule_sub) (defScope s_Rule_sub) .none kV_Rule_sub dc_Rule_sub pc_Rule_sub an_Rule_sub cd_Rule_sub ct_Rule_sub), sl_Rule_sub⟩) (c_Rule_sub : PySem.W.codeIn K cd_Rule_sub "Rule.__sub__" = true) (k_Rule_sub : PySem.W.keepIn K (.ref f_Rule_sub) = true)
    (i_Rule_sub : PySem.W.isFn K (.ref f_Rule_sub) = true)
    {f_multiplied : Addr} {od_multiplied an_multiplied : Option Addr} {sl_multiplied : Array (Option Value)} {oc_multiplied kV_multiplied dc_multiplied pc_multiplied cd_multiplied ct_multiplied : Value}
    (a_multiplied : PySem.W.nsIn K mainGlobals "multiplied" = some (some (.ref f_multiplied))) (l_multiplied : K.lookup f_multiplied = some ⟨oc_multiplied, od_multiplied, .func (PySem.W.fnOf "multiplied" "multiplied" (defArgs s_multiplied) (defBody s_multiplied) (defScope s_multiplied) .none kV_multiplied dc_multiplied pc_multiplied an_multiplied cd_multiplied ct_multiplied), sl_multiplied⟩) (c_multiplied : PySem.W.codeIn K cd_multiplied "multiplied" = true) (k_multiplied : PySem.W.keepIn K (.ref f_multiplied) = true)
    {f_Rule_scaled : Addr} {od_Rule_scaled an_Rule_scaled : Option Addr} {sl_Rule_scaled : Array (Option Value)} {oc_Rule_scaled kV_Rule_scaled dc_Rule_scaled pc_Rule_scaled cd_Rule_scaled ct_Rule_scaled : Value}
    (a_Rule_scaled : PySem.W.findIn K (.ref C_Rule) "scaled" = some (some (.ref f_Rule_scaled))) (l_Rule_scaled : K.lookup f_Rule_scaled = some ⟨oc_Rule_scaled, od_Rule_scaled, .func (PySem.W.fnOf "scaled" "Rule.scaled" (defArgs s_Rule_scaled) (defBody s_Rule_scaled) (defScope s_Rule_scaled) .none kV_Rule_scaled dc_Rule_scaled pc_Rule_scaled an_Rule_scaled cd_Rule_scaled ct_Rule_scaled), sl_Rule_scaled⟩) (c_Rule_scaled : PySem.W.codeIn K cd_Rule_scaled "Rule.scaled" = true) (k_Rule_scaled : PySem.W.keepIn K (.ref f_Rule_scaled) = true)
    (i_Rule_scaled : PySem.W.isFn K (.ref f_Rule_scaled) = true)
    {f_w_choose : Addr} {od_w_choose an_w_choose : Option Addr} {sl_w_choose : Array (Option Value)} {oc_w_choose kV_w_choose dc_w_choose pc_w_choose cd_w_choose ct_w_choose : Value}
    (a_w_choose : PySem.W.nsIn K mainGlobals "_law_choose" = some (some (.ref f_w_choose))) (l_w_choose : K.lookup f_w_choose = some ⟨oc_w_choose, od_w_choose, .func (PySem.W.fnOf "_law_choose" "_law_choose" (defArgs s_w_choose) (defBody s_w_choose) (defScope s_w_choose) .none kV_w_choose dc_w_choose pc_w_choose an_w_choose cd_w_choose ct_w_choose), sl_w_choose⟩) (c_w_choose : PySem.W.codeIn K cd_w_choose "_law_choose" = true) (k_w_choose : PySem.W.keepIn K (.ref f_w_choose) = true)
    {f_w_seed : Addr} {od_w_seed an_w_seed : Option Addr} {sl_w_seed : Array (Option Value)} {oc_w_seed kV_w_seed dc_w_seed pc_w_seed cd_w_seed ct_w_seed : Value}
    (a_w_seed : PySem.W.nsIn K mainGlobals "_law_seed" = some (some (.ref f_w_seed))) (l_w_seed : K.lookup f_w_seed = some ⟨oc_w_seed, od_w_seed, .func (PySem.W.fnOf "_law_seed" "_law_seed" (defArgs s_w_seed) (defBody s_w_seed) (defScope s_w_seed) .none kV_w_seed dc_w_seed pc_w_seed an_w_seed cd_w_seed ct_w_seed), sl_w_seed⟩) (c_w_seed : PySem.W.codeIn K cd_w_seed "_law_seed" = true) (k_w_seed : PySem.W.keepIn K (.ref f_w_seed) = true)
    {f_area : Addr} {od_area an_area : Option Addr} {sl_area : Array (Option Value)} {oc_area kV_area dc_area pc_area cd_area ct_area : Value}
    (a_area : PySem.W.nsIn K mainGlobals "area" = some (some (.ref f_area))) (l_area : K.lookup f_area = some ⟨oc_area, od_area, .func (PySem.W.fnOf "area" "area" (defArgs s_area) (defBody s_area) (defScope s_area) .none kV_area dc_area pc_area an_area cd_area ct_area), sl_area⟩) (c_area : PySem.W.codeIn K cd_area "area" = true) (k_area : PySem.W.keepIn K (.ref f_area) = true)
    {f_trimmed : Addr} {od_trimmed an_trimmed : Option Addr} {sl_trimmed : Array (Option Value)} {oc_trimmed kV_trimmed dc_trimmed pc_trimmed cd_trimmed ct_trimmed : Value}
    (a_trimmed : PySem.W.nsIn K mainGlobals "trimmed" = some (some (.ref f_trimmed))) (l_trimmed : K.lookup f_trimmed = some ⟨oc_trimmed, od_trimmed, .func (PySem.W.fnOf "trimmed" "trimmed" (defArgs s_trimmed) (defBody s_trimmed) (defScope s_trimmed) .none kV_trimmed dc_trimmed pc_trimmed an_trimmed cd_trimmed ct_trimmed), sl_trimmed⟩) (c_trimmed : PySem.W.codeIn K cd_trimmed "trimmed" = true) (k_trimmed : PySem.W.keepIn K (.ref f_trimmed) = true)
    {f_derived : Addr} {od_derived an_derived : Option Addr} {sl_derived : Array (Option Value)} {oc_derived kV_derived dc_derived pc_derived cd_derived ct_derived : Value}
    (a_derived : PySem.W.nsIn K mainGlobals "derived" = some (some (.ref f_derived))) (l_derived : K.lookup f_derived = some ⟨oc_derived, od_derived, .func (PySem.W.fnOf "derived" "derived" (defArgs s_derived) (defBody s_derived) (defScope s_derived) .none kV_derived dc_derived pc_derived an_derived cd_derived ct_derived), sl_derived⟩) (c_derived : PySem.W.codeIn K cd_derived "derived" = true) (k_derived : PySem.W.keepIn K (.ref f_derived) = true)
    {f_primitive : Addr} {od_primitive an_primitive : Option Addr} {sl_primitive : Array (Option Value)} {oc_primitive kV_primitive dc_primitive pc_primitive cd_primitive ct_primitive : Value}
    (a_primitive : PySem.W.nsIn K mainGlobals "primitive" = some (some (.ref f_primitive))) (l_primitive : K.lookup f_primitive = some ⟨oc_primitive, od_primitive, .func (PySem.W.fnOf "primitive" "primitive" (defArgs s_primitive) (defBody s_primitive) (defScope s_primitive) .none kV_primitive dc_primitive pc_primitive an_primitive cd_primitive ct_primitive), sl_primitive⟩) (c_primitive : PySem.W.codeIn K cd_primitive "primitive" = true) (k_primitive : PySem.W.keepIn K (.ref f_primitive) = true)
    {f_plus : Addr} {od_plus an_plus : Option Addr} {sl_plus : Array (Option Value)} {oc_plus kV_plus dc_plus pc_plus cd_plus ct_plus : Value}
    {dT_plus : Addr} {oT_plus : Obj} {gi_plus : List Value} {gn_plus : Nat} (t_plus : K.lookup dT_plus = some oT_plus) (td_plus : oT_plus.data = .seq gi_plus.toArray gn_plus) (v_plus : ∃ vs, Vals vs gi_plus ∧ ∀ H, DRs K H vs [.int (1)])
    (a_plus : PySem.W.nsIn K mainGlobals "plus" = some (some (.ref f_plus))) (l_plus : K.lookup f_plus = some ⟨oc_plus, od_plus, .func (PySem.W.fnOf "plus" "plus" (defArgs s_plus) (defBody s_plus) (defScope s_plus) (.ref dT_plus) kV_plus dc_plus pc_plus an_plus cd_plus ct_plus), sl_plus⟩) (c_plus : PySem.W.codeIn K cd_plus "plus" = true) (k_plus : PySem.W.keepIn K (.ref f_plus) = true)
    {f_product : Addr} {od_product an_product : Option Addr} {sl_product : Array (Option Value)} {oc_product kV_product dc_product pc_product cd_product ct_product : Value}
    (a_product : PySem.W.nsIn K mainGlobals "product" = some (some (.ref f_product))) (l_product : K.lookup f_product = some ⟨oc_product, od_product, .func (PySem.W.fnOf "product" "product" (defArgs s_product) (defBody s_product) (defScope s_product) .none kV_product dc_product pc_product an_product cd_product ct_product), sl_product⟩) (c_product : PySem.W.codeIn K cd_product "product" = true) (k_product : PySem.W.keepIn K (.ref f_product) = true)
    {f_sign_of : Addr} {od_sign_of an_sign_of : Option Addr} {sl_sign_of : Array (Option Value)} {oc_sign_of kV_sign_of dc_sign_of pc_sign_of cd_sign_of ct_sign_of : Value}
    (a_sign_of : PySem.W.nsIn K mainGlobals "sign_of" = some (some (.ref f_sign_of))) (l_sign_of : K.lookup f_sign_of = some ⟨oc_sign_of, od_sign_of, .func (PySem.W.fnOf "sign_of" "sign_of" (defArgs s_sign_of) (defBody s_sign_of) (defScope s_sign_of) .none kV_sign_of dc_sign_of pc_sign_of an_sign_of cd_sign_of ct_sign_of), sl_sign_of⟩) (c_sign_of : PySem.W.codeIn K cd_sign_of "sign_of" = true) (k_sign_of : PySem.W.keepIn K (.ref f_sign_of) = true)
    {f_parted : Addr} {od_parted an_parted : Option Addr} {sl_parted : Array (Option Value)} {oc_parted kV_parted dc_parted pc_parted cd_parted ct_parted : Value}
    (a_parted : PySem.W.nsIn K mainGlobals "parted" = some (some (.ref f_parted))) (l_parted : K.lookup f_parted = some ⟨oc_parted, od_parted, .func (PySem.W.fnOf "parted" "parted" (defArgs s_parted) (defBody s_parted) (defScope s_parted) .none kV_parted dc_parted pc_parted an_parted cd_parted ct_parted), sl_parted⟩) (c_parted : PySem.W.codeIn K cd_parted "parted" = true) (k_parted : PySem.W.keepIn K (.ref f_parted) = true)
    {f_rest : Addr} {od_rest an_rest : Option Addr} {sl_rest : Array (Option Value)} {oc_rest kV_rest dc_rest pc_rest cd_rest ct_rest : Value}
    (a_rest : PySem.W.nsIn K mainGlobals "rest" = some (some (.ref f_rest))) (l_rest : K.lookup f_rest = some ⟨oc_rest, od_rest, .func (PySem.W.fnOf "rest" "rest" (defArgs s_rest) (defBody s_rest) (defScope s_rest) .none kV_rest dc_rest pc_rest an_rest cd_rest ct_rest), sl_rest⟩) (c_rest : PySem.W.codeIn K cd_rest "rest" = true) (k_rest : PySem.W.keepIn K (.ref f_rest) = true)
    {f_chain_of : Addr} {od_chain_of an_chain_of : Option Addr} {sl_chain_of : Array (Option Value)} {oc_chain_of kV_chain_of dc_chain_of pc_chain_of cd_chain_of ct_chain_of : Value}
    (a_chain_of : PySem.W.nsIn K mainGlobals "chain_of" = some (some (.ref f_chain_of))) (l_chain_of : K.lookup f_chain_of = some ⟨oc_chain_of, od_chain_of, .func (PySem.W.fnOf "chain_of" "chain_of" (defArgs s_chain_of) (defBody s_chain_of) (defScope s_chain_of) .none kV_chain_of dc_chain_of pc_chain_of an_chain_of cd_chain_of ct_chain_of), sl_chain_of⟩) (c_chain_of : PySem.W.codeIn K cd_chain_of "chain_of" = true) (k_chain_of : PySem.W.keepIn K (.ref f_chain_of) = true)
    {f_upright : Addr} {od_upright an_upright : Option Addr} {sl_upright : Array (Option Value)} {oc_upright kV_upright dc_upright pc_upright cd_upright ct_upright : Value}
    (a_upright : PySem.W.nsIn K mainGlobals "upright" = some (some (.ref f_upright))) (l_upright : K.lookup f_upright = some ⟨oc_upright, od_upright, .func (PySem.W.fnOf "upright" "upright" (defArgs s_upright) (defBody s_upright) (defScope s_upright) .none kV_upright dc_upright pc_upright an_upright cd_upright ct_upright), sl_upright⟩) (c_upright : PySem.W.codeIn K cd_upright "upright" = true) (k_upright : PySem.W.keepIn K (.ref f_upright) = true)
    {f_common : Addr} {od_common an_common : Option Addr} {sl_common : Array (Option Value)} {oc_common kV_common dc_common pc_common cd_common ct_common : Value}
    (a_common : PySem.W.nsIn K mainGlobals "common" = some (some (.ref f_common))) (l_common : K.lookup f_common = some ⟨oc_common, od_common, .func (PySem.W.fnOf "common" "common" (defArgs s_common) (defBody s_common) (defScope s_common) .none kV_common dc_common pc_common an_common cd_common ct_common), sl_common⟩) (c_common : PySem.W.codeIn K cd_common "common" = true) (k_common : PySem.W.keepIn K (.ref f_common) = true)
    {f_divided : Addr} {od_divided an_divided : Option Addr} {sl_divided : Array (Option Value)} {oc_divided kV_divided dc_divided pc_divided cd_divided ct_divided : Value}
    (a_divided : PySem.W.nsIn K mainGlobals "divided" = some (some (.ref f_divided))) (l_divided : K.lookup f_divided = some ⟨oc_divided, od_divided, .func (PySem.W.fnOf "divided" "divided" (defArgs s_divided) (defBody s_divided) (defScope s_divided) .none kV_divided dc_divided pc_divided an_divided cd_divided ct_divided), sl_divided⟩) (c_divided : PySem.W.codeIn K cd_divided "divided" = true) (k_divided : PySem.W.keepIn K (.ref f_divided) = true)
    {f_parts_of : Addr} {od_parts_of an_parts_of : Option Addr} {sl_parts_of : Array (Option Value)} {oc_parts_of kV_parts_of dc_parts_of pc_parts_of cd_parts_of ct_parts_of : Value}
    (a_parts_of : PySem.W.nsIn K mainGlobals "parts_of" = some (some (.ref f_parts_of))) (l_parts_of : K.lookup f_parts_of = some ⟨oc_parts_of, od_parts_of, .func (PySem.W.fnOf "parts_of" "parts_of" (defArgs s_parts_of) (defBody s_parts_of) (defScope s_parts_of) .none kV_parts_of dc_parts_of pc_parts_of an_parts_of cd_parts_of ct_parts_of), sl_parts_of⟩) (c_parts_of : PySem.W.codeIn K cd_parts_of "parts_of" = true) (k_parts_of : PySem.W.keepIn K (.ref f_parts_of) = true)
    {f_power : Addr} {od_power an_power : Option Addr} {sl_power : Array (Option Value)} {oc_power kV_power dc_power pc_power cd_power ct_power : Value}
    (a_power : PySem.W.nsIn K mainGlobals "power" = some (some (.ref f_power))) (l_power : K.lookup f_power = some ⟨oc_power, od_power, .func (PySem.W.fnOf "power" "power" (defArgs s_power) (defBody s_power) (defScope s_power) .none kV_power dc_power pc_power an_power cd_power ct_power), sl_power⟩) (c_power : PySem.W.codeIn K cd_power "power" = true) (k_power : PySem.W.keepIn K (.ref f_power) = true)
    {f_value_at_polys : Addr} {od_value_at_polys an_value_at_polys : Option Addr} {sl_value_at_polys : Array (Option Value)} {oc_value_at_polys kV_value_at_polys dc_value_at_polys pc_value_at_polys cd_value_at_polys ct_value_at_polys : Value}
    (a_value_at_polys : PySem.W.nsIn K mainGlobals "value_at_polys" = some (some (.ref f_value_at_polys))) (l_value_at_polys : K.lookup f_value_at_polys = some ⟨oc_value_at_polys, od_value_at_polys, .func (PySem.W.fnOf "value_at" "value_at" (defArgs s_value_at_polys) (defBody s_value_at_polys) (defScope s_value_at_polys) .none kV_value_at_polys dc_value_at_polys pc_value_at_polys an_value_at_polys cd_value_at_polys ct_value_at_polys), sl_value_at_polys⟩) (c_value_at_polys : PySem.W.codeIn K cd_value_at_polys "value_at" = true) (k_value_at_polys : PySem.W.keepIn K (.ref f_value_at_polys) = true)
    {f_without_ends : Addr} {od_without_ends an_without_ends : Option Addr} {sl_without_ends : Array (Option Value)} {oc_without_ends kV_without_ends dc_without_ends pc_without_ends cd_without_ends ct_without_ends : Value}
    (a_without_ends : PySem.W.nsIn K mainGlobals "without_ends" = some (some (.ref f_without_ends))) (l_without_ends : K.lookup f_without_ends = some ⟨oc_without_ends, od_without_ends, .func (PySem.W.fnOf "without_ends" "without_ends" (defArgs s_without_ends) (defBody s_without_ends) (defScope s_without_ends) .none kV_without_ends dc_without_ends pc_without_ends an_without_ends cd_without_ends ct_without_ends), sl_without_ends⟩) (c_without_ends : PySem.W.codeIn K cd_without_ends "without_ends" = true) (k_without_ends : PySem.W.keepIn K (.ref f_without_ends) = true)
    {f_entry : Addr} {od_entry an_entry : Option Addr} {sl_entry : Array (Option Value)} {oc_entry kV_entry dc_entry pc_entry cd_entry ct_entry : Value}
    (a_entry : PySem.W.nsIn K mainGlobals "entry" = some (some (.ref f_entry))) (l_entry : K.lookup f_entry = some ⟨oc_entry, od_entry, .func (PySem.W.fnOf "entry" "entry" (defArgs s_entry) (defBody s_entry) (defScope s_entry) .none kV_entry dc_entry pc_entry an_entry cd_entry ct_entry), sl_entry⟩) (c_entry : PySem.W.codeIn K cd_entry "entry" = true) (k_entry : PySem.W.keepIn K (.ref f_entry) = true)
    {f_integers_of : Addr} {od_integers_of an_integers_of : Option Addr} {sl_integers_of : Array (Option Value)} {oc_integers_of kV_integers_of dc_integers_of pc_integers_of cd_integers_of ct_integers_of : Value}
    (a_integers_of : PySem.W.nsIn K mainGlobals "integers_of" = some (some (.ref f_integers_of))) (l_integers_of : K.lookup f_integers_of = some ⟨oc_integers_of, od_integers_of, .func (PySem.W.fnOf "integers_of" "integers_of" (defArgs s_integers_of) (defBody s_integers_of) (defScope s_integers_of) .none kV_integers_of dc_integers_of pc_integers_of an_integers_of cd_integers_of ct_integers_of), sl_integers_of⟩) (c_integers_of : PySem.W.codeIn K cd_integers_of "integers_of" = true) (k_integers_of : PySem.W.keepIn K (.ref f_integers_of) = true)
    {f_knots_of : Addr} {od_knots_of an_knots_of : Option Addr} {sl_knots_of : Array (Option Value)} {oc_knots_of kV_knots_of dc_knots_of pc_knots_of cd_knots_of ct_knots_of : Value}
    (a_knots_of : PySem.W.nsIn K mainGlobals "knots_of" = some (some (.ref f_knots_of))) (l_knots_of : K.lookup f_knots_of = some ⟨oc_knots_of, od_knots_of, .func (PySem.W.fnOf "knots_of" "knots_of" (defArgs s_knots_of) (defBody s_knots_of) (defScope s_knots_of) .none kV_knots_of dc_knots_of pc_knots_of an_knots_of cd_knots_of ct_knots_of), sl_knots_of⟩) (c_knots_of : PySem.W.codeIn K cd_knots_of "knots_of" = true) (k_knots_of : PySem.W.keepIn K (.ref f_knots_of) = true)
    {f_powered : Addr} {od_powered an_powered : Option Addr} {sl_powered : Array (Option Value)} {oc_powered kV_powered dc_powered pc_powered cd_powered ct_powered : Value}
    (a_powered : PySem.W.nsIn K mainGlobals "powered" = some (some (.ref f_powered))) (l_powered : K.lookup f_powered = some ⟨oc_powered, od_powered, .func (PySem.W.fnOf "powered" "powered" (defArgs s_powered) (defBody s_powered) (defScope s_powered) .none kV_powered dc_powered pc_powered an_powered cd_powered ct_powered), sl_powered⟩) (c_powered : PySem.W.codeIn K cd_powered "powered" = true) (k_powered : PySem.W.keepIn K (.ref f_powered) = true)
    {f_ways : Addr} {od_ways an_ways : Option Addr} {sl_ways : Array (Option Value)} {oc_ways kV_ways dc_ways pc_ways cd_ways ct_ways : Value}
    (a_ways : PySem.W.nsIn K mainGlobals "ways" = some (some (.ref f_ways))) (l_ways : K.lookup f_ways = some ⟨oc_ways, od_ways, .func (PySem.W.fnOf "ways" "ways" (defArgs s_ways) (defBody s_ways) (defScope s_ways) .none kV_ways dc_ways pc_ways an_ways cd_ways ct_ways), sl_ways⟩) (c_ways : PySem.W.codeIn K cd_ways "ways" = true) (k_ways : PySem.W.keepIn K (.ref f_ways) = true)
    {f_distance_power : Addr} {od_distance_power an_distance_power : Option Addr} {sl_distance_power : Array (Option Value)} {oc_distance_power kV_distance_power dc_distance_power pc_distance_power cd_distance_power ct_distance_power : Value}
    (a_distance_power : PySem.W.nsIn K mainGlobals "distance_power" = some (some (.ref f_distance_power))) (l_distance_power : K.lookup f_distance_power = some ⟨oc_distance_power, od_distance_power, .func (PySem.W.fnOf "distance_power" "distance_power" (defArgs s_distance_power) (defBody s_distance_power) (defScope s_distance_power) .none kV_distance_power dc_distance_power pc_distance_power an_distance_power cd_distance_power ct_distance_power), sl_distance_power⟩) (c_distance_power : PySem.W.codeIn K cd_distance_power "distance_power" = true) (k_distance_power : PySem.W.keepIn K (.ref f_distance_power) = true)
    {f_less_by : Addr} {od_less_by an_less_by : Option Addr} {sl_less_by : Array (Option Value)} {oc_less_by kV_less_by dc_less_by pc_less_by cd_less_by ct_less_by : Value}
    (a_less_by : PySem.W.nsIn K mainGlobals "less_by" = some (some (.ref f_less_by))) (l_less_by : K.lookup f_less_by = some ⟨oc_less_by, od_less_by, .func (PySem.W.fnOf "less_by" "less_by" (defArgs s_less_by) (defBody s_less_by) (defScope s_less_by) .none kV_less_by dc_less_by pc_less_by an_less_by cd_less_by ct_less_by), sl_less_by⟩) (c_less_by : PySem.W.codeIn K cd_less_by "less_by" = true) (k_less_by : PySem.W.keepIn K (.ref f_less_by) = true)
    {f_sum_of : Addr} {od_sum_of an_sum_of : Option Addr} {sl_sum_of : Array (Option Value)} {oc_sum_of kV_sum_of dc_sum_of pc_sum_of cd_sum_of ct_sum_of : Value}
    (a_sum_of : PySem.W.nsIn K mainGlobals "sum_of" = some (some (.ref f_sum_of))) (l_sum_of : K.lookup f_sum_of = some ⟨oc_sum_of, od_sum_of, .func (PySem.W.fnOf "sum_of" "sum_of" (defArgs s_sum_of) (defBody s_sum_of) (defScope s_sum_of) .none kV_sum_of dc_sum_of pc_sum_of an_sum_of cd_sum_of ct_sum_of), sl_sum_of⟩) (c_sum_of : PySem.W.codeIn K cd_sum_of "sum_of" = true) (k_sum_of : PySem.W.keepIn K (.ref f_sum_of) = true)
    {f_piece : Addr} {od_piece an_piece : Option Addr} {sl_piece : Array (Option Value)} {oc_piece kV_piece dc_piece pc_piece cd_piece ct_piece : Value}
    (a_piece : PySem.W.nsIn K mainGlobals "piece" = some (some (.ref f_piece))) (l_piece : K.lookup f_piece = some ⟨oc_piece, od_piece, .func (PySem.W.fnOf "piece" "piece" (defArgs s_piece) (defBody s_piece) (defScope s_piece) .none kV_piece dc_piece pc_piece an_piece cd_piece ct_piece), sl_piece⟩) (c_piece : PySem.W.codeIn K cd_piece "piece" = true) (k_piece : PySem.W.keepIn K (.ref f_piece) = true)
    {f_kernel : Addr} {od_kernel an_kernel : Option Addr} {sl_kernel : Array (Option Value)} {oc_kernel kV_kernel dc_kernel pc_kernel cd_kernel ct_kernel : Value}
    (a_kernel : PySem.W.nsIn K mainGlobals "kernel" = some (some (.ref f_kernel))) (l_kernel : K.lookup f_kernel = some ⟨oc_kernel, od_kernel, .func (PySem.W.fnOf "kernel" "kernel" (defArgs s_kernel) (defBody s_kernel) (defScope s_kernel) .none kV_kernel dc_kernel pc_kernel an_kernel cd_kernel ct_kernel), sl_kernel⟩) (c_kernel : PySem.W.codeIn K cd_kernel "kernel" = true) (k_kernel : PySem.W.keepIn K (.ref f_kernel) = true)
    {f_quotient : Addr} {od_quotient an_quotient : Option Addr} {sl_quotient : Array (Option Value)} {oc_quotient kV_quotient dc_quotient pc_quotient cd_quotient ct_quotient : Value}
    (a_quotient : PySem.W.nsIn K mainGlobals "quotient" = some (some (.ref f_quotient))) (l_quotient : K.lookup f_quotient = some ⟨oc_quotient, od_quotient, .func (PySem.W.fnOf "quotient" "quotient" (defArgs s_quotient) (defBody s_quotient) (defScope s_quotient) .none kV_quotient dc_quotient pc_quotient an_quotient cd_quotient ct_quotient), sl_quotient⟩) (c_quotient : PySem.W.codeIn K cd_quotient "quotient" = true) (k_quotient : PySem.W.keepIn K (.ref f_quotient) = true)
    {f_area_powers : Addr} {od_area_powers an_area_powers : Option Addr} {sl_area_powers : Array (Option Value)} {oc_area_powers kV_area_powers dc_area_powers pc_area_powers cd_area_powers ct_area_powers : Value}
    (a_area_powers : PySem.W.nsIn K mainGlobals "area_powers" = some (some (.ref f_area_powers))) (l_area_powers : K.lookup f_area_powers = some ⟨oc_area_powers, od_area_powers, .func (PySem.W.fnOf "area_powers" "area_powers" (defArgs s_area_powers) (defBody s_area_powers) (defScope s_area_powers) .none kV_area_powers dc_area_powers pc_area_powers an_area_powers cd_area_powers ct_area_powers), sl_area_powers⟩) (c_area_powers : PySem.W.codeIn K cd_area_powers "area_powers" = true) (k_area_powers : PySem.W.keepIn K (.ref f_area_powers) = true)
    {f_value_at_rules : Addr} {od_value_at_rules an_value_at_rules : Option Addr} {sl_value_at_rules : Array (Option Value)} {oc_value_at_rules kV_value_at_rules dc_value_at_rules pc_value_at_rules cd_value_at_rules ct_value_at_rules : Value}
    (a_value_at_rules : PySem.W.nsIn K mainGlobals "value_at_rules" = some (some (.ref f_value_at_rules))) (l_value_at_rules : K.lookup f_value_at_rules = some ⟨oc_value_at_rules, od_value_at_rules, .func (PySem.W.fnOf "value_at" "value_at" (defArgs s_value_at_rules) (defBody s_value_at_rules) (defScope s_value_at_rules) .none kV_value_at_rules dc_value_at_rules pc_value_at_rules an_value_at_rules cd_value_at_rules ct_value_at_rules), sl_value_at_rules⟩) (c_value_at_rules : PySem.W.codeIn K cd_value_at_rules "value_at" = true) (k_value_at_rules : PySem.W.keepIn K (.ref f_value_at_rules) = true)
    {f_told : Addr} {od_told an_told : Option Addr} {sl_told : Array (Option Value)} {oc_told kV_told dc_told pc_told cd_told ct_told : Value}
    (a_told : PySem.W.nsIn K mainGlobals "told" = some (some (.ref f_told))) (l_told : K.lookup f_told = some ⟨oc_told, od_told, .func (PySem.W.fnOf "told" "told" (defArgs s_told) (defBody s_told) (defScope s_told) .none kV_told dc_told pc_told an_told cd_told ct_told), sl_told⟩) (c_told : PySem.W.codeIn K cd_told "told" = true) (k_told : PySem.W.keepIn K (.ref f_told) = true)
    {f_degree : Addr} {od_degree an_degree : Option Addr} {sl_degree : Array (Option Value)} {oc_degree kV_degree dc_degree pc_degree cd_degree ct_degree : Value}
    (a_degree : PySem.W.nsIn K mainGlobals "degree" = some (some (.ref f_degree))) (l_degree : K.lookup f_degree = some ⟨oc_degree, od_degree, .func (PySem.W.fnOf "degree" "degree" (defArgs s_degree) (defBody s_degree) (defScope s_degree) .none kV_degree dc_degree pc_degree an_degree cd_degree ct_degree), sl_degree⟩) (c_degree : PySem.W.codeIn K cd_degree "degree" = true) (k_degree : PySem.W.keepIn K (.ref f_degree) = true)
    {f_is_exact_enough : Addr} {od_is_exact_enough an_is_exact_enough : Option Addr} {sl_is_exact_enough : Array (Option Value)} {oc_is_exact_enough kV_is_exact_enough dc_is_exact_enough pc_is_exact_enough cd_is_exact_enough ct_is_exact_enough : Value}
    (a_is_exact_enough : PySem.W.nsIn K mainGlobals "is_exact_enough" = some (some (.ref f_is_exact_enough))) (l_is_exact_enough : K.lookup f_is_exact_enough = some ⟨oc_is_exact_enough, od_is_exact_enough, .func (PySem.W.fnOf "is_exact_enough" "is_exact_enough" (defArgs s_is_exact_enough) (defBody s_is_exact_enough) (defScope s_is_exact_enough) .none kV_is_exact_enough dc_is_exact_enough pc_is_exact_enough an_is_exact_enough cd_is_exact_enough ct_is_exact_enough), sl_is_exact_enough⟩) (c_is_exact_enough : PySem.W.codeIn K cd_is_exact_enough "is_exact_enough" = true) (k_is_exact_enough : PySem.W.keepIn K (.ref f_is_exact_enough) = true)
    {f_sign_changes : Addr} {od_sign_changes an_sign_changes : Option Addr} {sl_sign_changes : Array (Option Value)} {oc_sign_changes kV_sign_changes dc_sign_changes pc_sign_changes cd_sign_changes ct_sign_changes : Value}
    (a_sign_changes : PySem.W.nsIn K mainGlobals "sign_changes" = some (some (.ref f_sign_changes))) (l_sign_changes : K.lookup f_sign_changes = some ⟨oc_sign_changes, od_sign_changes, .func (PySem.W.fnOf "sign_changes" "sign_changes" (defArgs s_sign_changes) (defBody s_sign_changes) (defScope s_sign_changes) .none kV_sign_changes dc_sign_changes pc_sign_changes an_sign_changes cd_sign_changes ct_sign_changes), sl_sign_changes⟩) (c_sign_changes : PySem.W.codeIn K cd_sign_changes "sign_changes" = true) (k_sign_changes : PySem.W.keepIn K (.ref f_sign_changes) = true)
    {f_changes_at : Addr} {od_changes_at an_changes_at : Option Addr} {sl_changes_at : Array (Option Value)} {oc_changes_at kV_changes_at dc_changes_at pc_changes_at cd_changes_at ct_changes_at : Value}
    (a_changes_at : PySem.W.nsIn K mainGlobals "changes_at" = some (some (.ref f_changes_at))) (l_changes_at : K.lookup f_changes_at = some ⟨oc_changes_at, od_changes_at, .func (PySem.W.fnOf "changes_at" "changes_at" (defArgs s_changes_at) (defBody s_changes_at) (defScope s_changes_at) .none kV_changes_at dc_changes_at pc_changes_at an_changes_at cd_changes_at ct_changes_at), sl_changes_at⟩) (c_changes_at : PySem.W.codeIn K cd_changes_at "changes_at" = true) (k_changes_at : PySem.W.keepIn K (.ref f_changes_at) = true)
    {f_once_each : Addr} {od_once_each an_once_each : Option Addr} {sl_once_each : Array (Option Value)} {oc_once_each kV_once_each dc_once_each pc_once_each cd_once_each ct_once_each : Value}
    (a_once_each : PySem.W.nsIn K mainGlobals "once_each" = some (some (.ref f_once_each))) (l_once_each : K.lookup f_once_each = some ⟨oc_once_each, od_once_each, .func (PySem.W.fnOf "once_each" "once_each" (defArgs s_once_each) (defBody s_once_each) (defScope s_once_each) .none kV_once_each dc_once_each pc_once_each an_once_each cd_once_each ct_once_each), sl_once_each⟩) (c_once_each : PySem.W.codeIn K cd_once_each "once_each" = true) (k_once_each : PySem.W.keepIn K (.ref f_once_each) = true)
    {f_roots_between : Addr} {od_roots_between an_roots_between : Option Addr} {sl_roots_between : Array (Option Value)} {oc_roots_between kV_roots_between dc_roots_between pc_roots_between cd_roots_between ct_roots_between : Value}
    (a_roots_between : PySem.W.nsIn K mainGlobals "roots_between" = some (some (.ref f_roots_between))) (l_roots_between : K.lookup f_roots_between = some ⟨oc_roots_between, od_roots_between, .func (PySem.W.fnOf "roots_between" "roots_between" (defArgs s_roots_between) (defBody s_roots_between) (defScope s_roots_between) .none kV_roots_between dc_roots_between pc_roots_between an_roots_between cd_roots_between ct_roots_between), sl_roots_between⟩) (c_roots_between : PySem.W.codeIn K cd_roots_between "roots_between" = true) (k_roots_between : PySem.W.keepIn K (.ref f_roots_between) = true)
    {f_is_nowhere_below : Addr} {od_is_nowhere_below an_is_nowhere_below : Option Addr} {sl_is_nowhere_below : Array (Option Value)} {oc_is_nowhere_below kV_is_nowhere_below dc_is_nowhere_below pc_is_nowhere_below cd_is_nowhere_below ct_is_nowhere_below : Value}
    (a_is_nowhere_below : PySem.W.nsIn K mainGlobals "is_nowhere_below" = some (some (.ref f_is_nowhere_below))) (l_is_nowhere_below : K.lookup f_is_nowhere_below = some ⟨oc_is_nowhere_below, od_is_nowhere_below, .func (PySem.W.fnOf "is_nowhere_below" "is_nowhere_below" (defArgs s_is_nowhere_below) (defBody s_is_nowhere_below) (defScope s_is_nowhere_below) .none kV_is_nowhere_below dc_is_nowhere_below pc_is_nowhere_below an_is_nowhere_below cd_is_nowhere_below ct_is_nowhere_below), sl_is_nowhere_below⟩) (c_is_nowhere_below : PySem.W.codeIn K cd_is_nowhere_below "is_nowhere_below" = true) (k_is_nowhere_below : PySem.W.keepIn K (.ref f_is_nowhere_below) = true)
    {f_never_below : Addr} {od_never_below an_never_below : Option Addr} {sl_never_below : Array (Option Value)} {oc_never_below kV_never_below dc_never_below pc_never_below cd_never_below ct_never_below : Value}
    (a_never_below : PySem.W.nsIn K mainGlobals "never_below" = some (some (.ref f_never_below))) (l_never_below : K.lookup f_never_below = some ⟨oc_never_below, od_never_below, .func (PySem.W.fnOf "never_below" "never_below" (defArgs s_never_below) (defBody s_never_below) (defScope s_never_below) .none kV_never_below dc_never_below pc_never_below an_never_below cd_never_below ct_never_below), sl_never_below⟩) (c_never_below : PySem.W.codeIn K cd_never_below "never_below" = true) (k_never_below : PySem.W.keepIn K (.ref f_never_below) = true)
    {f_paper : Addr} {od_paper an_paper : Option Addr} {sl_paper : Array (Option Value)} {oc_paper kV_paper dc_paper pc_paper cd_paper ct_paper : Value}
    (a_paper : PySem.W.nsIn K mainGlobals "paper" = some (some (.ref f_paper))) (l_paper : K.lookup f_paper = some ⟨oc_paper, od_paper, .func (PySem.W.fnOf "paper" "paper" (defArgs s_paper) (defBody s_paper) (defScope s_paper) .none kV_paper dc_paper pc_paper an_paper cd_paper ct_paper), sl_paper⟩) (c_paper : PySem.W.codeIn K cd_paper "paper" = true) (k_paper : PySem.W.keepIn K (.ref f_paper) = true)
    {f_are_like : Addr} {od_are_like an_are_like : Option Addr} {sl_are_like : Array (Option Value)} {oc_are_like kV_are_like dc_are_like pc_are_like cd_are_like ct_are_like : Value}
    (a_are_like : PySem.W.nsIn K mainGlobals "are_like" = some (some (.ref f_are_like))) (l_are_like : K.lookup f_are_like = some ⟨oc_are_like, od_are_like, .func (PySem.W.fnOf "are_like" "are_like" (defArgs s_are_like) (defBody s_are_like) (defScope s_are_like) .none kV_are_like dc_are_like pc_are_like an_are_like cd_are_like ct_are_like), sl_are_like⟩) (c_are_like : PySem.W.codeIn K cd_are_like "are_like" = true) (k_are_like : PySem.W.keepIn K (.ref f_are_like) = true)
    {f_is_number : Addr} {od_is_number an_is_number : Option Addr} {sl_is_number : Array (Option Value)} {oc_is_number kV_is_number dc_is_number pc_is_number cd_is_number ct_is_number : Value}
    (a_is_number : PySem.W.nsIn K mainGlobals "is_number" = some (some (.ref f_is_number))) (l_is_number : K.lookup f_is_number = some ⟨oc_is_number, od_is_number, .func (PySem.W.fnOf "is_number" "is_number" (defArgs s_is_number) (defBody s_is_number) (defScope s_is_number) .none kV_is_number dc_is_number pc_is_number an_is_number cd_is_number ct_is_number), sl_is_number⟩) (c_is_number : PySem.W.codeIn K cd_is_number "is_number" = true) (k_is_number : PySem.W.keepIn K (.ref f_is_number) = true)
    {f_is_poly : Addr} {od_is_poly an_is_poly : Option Addr} {sl_is_poly : Array (Option Value)} {oc_is_poly kV_is_poly dc_is_poly pc_is_poly cd_is_poly ct_is_poly : Value}
    (a_is_poly : PySem.W.nsIn K mainGlobals "is_poly" = some (some (.ref f_is_poly))) (l_is_poly : K.lookup f_is_poly = some ⟨oc_is_poly, od_is_poly, .func (PySem.W.fnOf "is_poly" "is_poly" (defArgs s_is_poly) (defBody s_is_poly) (defScope s_is_poly) .none kV_is_poly dc_is_poly pc_is_poly an_is_poly cd_is_poly ct_is_poly), sl_is_poly⟩) (c_is_poly : PySem.W.codeIn K cd_is_poly "is_poly" = true) (k_is_poly : PySem.W.keepIn K (.ref f_is_poly) = true)
    {f_is_formed : Addr} {od_is_formed an_is_formed : Option Addr} {sl_is_formed : Array (Option Value)} {oc_is_formed kV_is_formed dc_is_formed pc_is_formed cd_is_formed ct_is_formed : Value}
    (a_is_formed : PySem.W.nsIn K mainGlobals "is_formed" = some (some (.ref f_is_formed))) (l_is_formed : K.lookup f_is_formed = some ⟨oc_is_formed, od_is_formed, .func (PySem.W.fnOf "is_formed" "is_formed" (defArgs s_is_formed) (defBody s_is_formed) (defScope s_is_formed) .none kV_is_formed dc_is_formed pc_is_formed an_is_formed cd_is_formed ct_is_formed), sl_is_formed⟩) (c_is_formed : PySem.W.codeIn K cd_is_formed "is_formed" = true) (k_is_formed : PySem.W.keepIn K (.ref f_is_formed) = true)
    {f_is_good : Addr} {od_is_good an_is_good : Option Addr} {sl_is_good : Array (Option Value)} {oc_is_good kV_is_good dc_is_good pc_is_good cd_is_good ct_is_good : Value}
    (a_is_good : PySem.W.nsIn K mainGlobals "is_good" = some (some (.ref f_is_good))) (l_is_good : K.lookup f_is_good = some ⟨oc_is_good, od_is_good, .func (PySem.W.fnOf "is_good" "is_good" (defArgs s_is_good) (defBody s_is_good) (defScope s_is_good) .none kV_is_good dc_is_good pc_is_good an_is_good cd_is_good ct_is_good), sl_is_good⟩) (c_is_good : PySem.W.codeIn K cd_is_good "is_good" = true) (k_is_good : PySem.W.keepIn K (.ref f_is_good) = true)
    {f_entry_holds : Addr} {od_entry_holds an_entry_holds : Option Addr} {sl_entry_holds : Array (Option Value)} {oc_entry_holds kV_entry_holds dc_entry_holds pc_entry_holds cd_entry_holds ct_entry_holds : Value}
    (a_entry_holds : PySem.W.nsIn K mainGlobals "entry_holds" = some (some (.ref f_entry_holds))) (l_entry_holds : K.lookup f_entry_holds = some ⟨oc_entry_holds, od_entry_holds, .func (PySem.W.fnOf "entry_holds" "entry_holds" (defArgs s_entry_holds) (defBody s_entry_holds) (defScope s_entry_holds) .none kV_entry_holds dc_entry_holds pc_entry_holds an_entry_holds cd_entry_holds ct_entry_holds), sl_entry_holds⟩) (c_entry_holds : PySem.W.codeIn K cd_entry_holds "entry_holds" = true) (k_entry_holds : PySem.W.keepIn K (.ref f_entry_holds) = true)
    {f_paper_holds : Addr} {od_paper_holds an_paper_holds : Option Addr} {sl_paper_holds : Array (Option Value)} {oc_paper_holds kV_paper_holds dc_paper_holds pc_paper_holds cd_paper_holds ct_paper_holds : Value}
    (a_paper_holds : PySem.W.nsIn K mainGlobals "paper_holds" = some (some (.ref f_paper_holds))) (l_paper_holds : K.lookup f_paper_holds = some ⟨oc_paper_holds, od_paper_holds, .func (PySem.W.fnOf "paper_holds" "paper_holds" (defArgs s_paper_holds) (defBody s_paper_holds) (defScope s_paper_holds) .none kV_paper_holds dc_paper_holds pc_paper_holds an_paper_holds cd_paper_holds ct_paper_holds), sl_paper_holds⟩) (c_paper_holds : PySem.W.codeIn K cd_paper_holds "paper_holds" = true) (k_paper_holds : PySem.W.keepIn K (.ref f_paper_holds) = true)
    {f_law : Addr} {od_law an_law : Option Addr} {sl_law : Array (Option Value)} {oc_law kV_law dc_law pc_law cd_law ct_law : Value}
    (a_law : PySem.W.nsIn K mainGlobals "law" = some (some (.ref f_law))) (l_law : K.lookup f_law = some ⟨oc_law, od_law, .func (PySem.W.fnOf "law" "law" (defArgs s_law) (defBody s_law) (defScope s_law) .none kV_law dc_law pc_law an_law cd_law ct_law), sl_law⟩) (c_law : PySem.W.codeIn K cd_law "law" = true) (k_law : PySem.W.keepIn K (.ref f_law) = true)
    (sf_Rule : PySem.W.selfFirst K C_Rule = true)
    {g_NOUGHT : Addr} {gd_NOUGHT : Option Addr} {gi_NOUGHT : Array Value} {gn_NOUGHT : Nat} {gs_NOUGHT : Array (Option Value)} (a_NOUGHT : PySem.W.nsIn K mainGlobals "NOUGHT" = some (some (.ref g_NOUGHT))) (l_NOUGHT : K.lookup g_NOUGHT = some ⟨.type "tuple", gd_NOUGHT, .seq gi_NOUGHT gn_NOUGHT, gs_NOUGHT⟩) (v_NOUGHT : gi_NOUGHT.size ≤ sizeLine ∧ ∃ vs, Vals vs gi_NOUGHT.toList ∧ ∀ H, DRs K H vs [.int (0), .int (1)])
    {g_ONE : Addr} {gd_ONE : Option Addr} {gi_ONE : Array Value} {gn_ONE : Nat} {gs_ONE : Array (Option Value)} (a_ONE : PySem.W.nsIn K mainGlobals "ONE" = some (some (.ref g_ONE))) (l_ONE : K.lookup g_ONE = some ⟨.type "tuple", gd_ONE, .seq gi_ONE gn_ONE, gs_ONE⟩) (v_ONE : gi_ONE.size ≤ sizeLine ∧ ∃ vs, Vals vs gi_ONE.toList ∧ ∀ H, DRs K H vs [.int (1), .int (1)])
    (z_abs : PySem.W.nsIn K mainGlobals "abs" = some none)
    (z_all : PySem.W.nsIn K mainGlobals "all" = some none)
    (z_bool : PySem.W.nsIn K mainGlobals "bool" = some none)
    (z_enumerate : PySem.W.nsIn K mainGlobals "enumerate" = some none)
    (z_int : PySem.W.nsIn K mainGlobals "int" = some none)
    (z_isinstance : PySem.W.nsIn K mainGlobals "isinstance" = some none)
    (z_len : PySem.W.nsIn K mainGlobals "len" = some none)
    (z_list : PySem.W.nsIn K mainGlobals "list" = some none)
    (z_max : PySem.W.nsIn K mainGlobals "max" = some none)
    (z_min : PySem.W.nsIn K mainGlobals "min" = some none)
    (z_range : PySem.W.nsIn K mainGlobals "range" = some none)
    (z_set : PySem.W.nsIn K mainGlobals "set" = some none)
    (z_sorted : PySem.W.nsIn K mainGlobals "sorted" = some none)
    (z_tuple : PySem.W.nsIn K mainGlobals "tuple" = some none)
    (z_zip : PySem.W.nsIn K mainGlobals "zip" = some none)
    : ∃ fd : FuncData, (∀ (s : Shared) (u : Value), BindsTo s fd ⟨[u], []⟩ [("_law_script", u)]) ∧ ∀ (base : Heap) (s : Shared) (H : Hp) (a : Addr) (Q : VK), K.In base → base.Ns mainGlobals mg → Env0 l.prog w K mg base callerA [] s H → BindsTo s fd ⟨[.ref a], []⟩ [("_law_script", .ref a)] → spF K r_law [.ref a] H Q E0 →
      codeAny (model l.prog w) callerA (.call (.ref fa) ⟨[.ref a], []⟩) (CR CX0 [] l.prog w H s Q E0) s := by
  have e := hfa.symm.trans (PySem.W.mg_of X G a_law)
  cases e
  have T : ∃ T : Txt K mg, T.law = fnT X G a_law l_law c_law k_law := ⟨{ Rule := ⟨C_Rule, PySem.W.mg_of X G aC_Rule, aC_Rule, ⟨pg_Rule, hd_Rule, po_Rule, sa_Rule⟩, na_list4 na_Rule_0 na_Rule_1 na_Rule_2 na_Rule_3⟩, is_sequence := fnT X G a_is_sequence l_is_sequence c_is_sequence k_is_sequence, is_less := fnT X G a_is_less l_is_less c_is_less k_is_less, is_integer := fnT X G a_is_integer l_is_integer c_is_integer k_is_integer, divisor := fnT X G a_divisor l_divisor c_divisor k_divisor, is_pair := fnT X G a_is_pair l_is_pair c_is_pair k_is_pair, is_value := fnT X G a_is_value l_is_value c_is_value k_is_value, value_of := fnT X G a_value_of l_value_of c_value_of k_value_of, is_between := fnT X G a_is_between l_is_between c_is_between k_is_between, is_share := fnT X G a_is_share l_is_share c_is_share k_is_share, is_weight := fnT X G a_is_weight l_is_weight c_is_weight k_is_weight, ascending := fnT X G a_ascending l_ascending c_ascending k_ascending, lowest := fnT X G a_lowest l_lowest c_lowest k_lowest, added := fnT X G a_added l_added c_added k_added, summed := fnT X G a_summed l_summed c_summed k_summed, least_shares := fnT X G a_least_shares l_least_shares c_least_shares k_least_shares, least_weights := fnT X G a_least_weights l_least_weights c_least_weights k_least_weights, need_stretch := fnT X G a_need_stretch l_need_stretch c_need_stretch k_need_stretch, Rule_init := ⟨f_Rule_init, _, v_Rule_init.choose, ⟨⟨_, _, _, _, _, _, _, _, _, _, rfl, l_Rule_init, c_Rule_init, .inr ⟨vne v_Rule_init.choose_spec.2 rfl, _, _, _, _, rfl, t_Rule_init, td_Rule_init, v_Rule_init.choose_spec.1⟩, .inl rfl⟩, k_Rule_init⟩, ⟨a_Rule_init, i_Rule_init, k_Rule_init⟩, v_Rule_init.choose_spec.2⟩, mk_Rule := ⟨mk_Rule, a_Rule_init, i_Rule_init, kc_Rule⟩, Rule_add := ⟨f_Rule_add, _, fun_mk l_Rule_add c_Rule_add k_Rule_add, ⟨a_Rule_add, i_Rule_add, k_Rule_add⟩⟩, Rule_neg := ⟨f_Rule_neg, _, fun_mk l_Rule_neg c_Rule_neg k_Rule_neg, ⟨a_Rule_neg, i_Rule_neg, k_Rule_neg⟩⟩, Rule_sub := ⟨f_Rule_sub, _, fun_mk l_Rule_sub c_Rule_sub k_Rule_sub, ⟨a_Rule_sub, i_Rule_sub, k_Rule_sub⟩⟩, multiplied := fnT X G a_multiplied l_multiplied c_multiplied k_multiplied, Rule_scaled := ⟨f_Rule_scaled, _, fun_mk l_Rule_scaled c_Rule_scaled k_Rule_scaled, ⟨a_Rule_scaled, i_Rule_scaled, k_Rule_scaled⟩⟩, w_choose := fnT X G a_w_choose l_w_choose c_w_choose k_w_choose, w_seed := fnT X G a_w_seed l_w_seed c_w_seed k_w_seed, area := fnT X G a_area l_area c_area k_area, trimmed := fnT X G a_trimmed l_trimmed c_trimmed k_trimmed, derived := fnT X G a_derived l_derived c_derived k_derived, primitive := fnT X G a_primitive l_primitive c_primitive k_primitive, plus := ⟨f_plus, _, v_plus.choose, ⟨⟨_, _, _, _, _, _, _, _, _, _, rfl, l_plus, c_plus, .inr ⟨vne v_plus.choose_spec.2 rfl, _, _, _, _, rfl, t_plus, td_plus, v_plus.choose_spec.1⟩, .inl rfl⟩, k_plus⟩, PySem.W.mg_of X G a_plus, v_plus.choose_spec.2⟩, product := fnT X G a_product l_product c_product k_product, sign_of := fnT X G a_sign_of l_sign_of c_sign_of k_sign_of, parted := fnT X G a_parted l_parted c_parted k_parted, rest := fnT X G a_rest l_rest c_rest k_rest, chain_of := fnT X G a_chain_of l_chain_of c_chain_of k_chain_of, upright := fnT X G a_upright l_upright c_upright k_upright, common := fnT X G a_common l_common c_common k_common, divided := fnT X G a_divided l_divided c_divided k_divided, parts_of := fnT X G a_parts_of l_parts_of c_parts_of k_parts_of, power := fnT X G a_power l_power c_power k_power, value_at_polys := ⟨f_value_at_polys, _, fun_mk l_value_at_polys c_value_at_polys k_value_at_polys, PySem.W.mg_of X G a_value_at_polys⟩, without_ends := fnT X G a_without_ends l_without_ends c_without_ends k_without_ends, entry := fnT X G a_entry l_entry c_entry k_entry, integers_of := fnT X G a_integers_of l_integers_of c_integers_of k_integers_of, knots_of := fnT X G a_knots_of l_knots_of c_knots_of k_knots_of, powered := fnT X G a_powered l_powered c_powered k_powered, ways := fnT X G a_ways l_ways c_ways k_ways, distance_power := fnT X G a_distance_power l_distance_power c_distance_power k_distance_power, less_by := fnT X G a_less_by l_less_by c_less_by k_less_by, sum_of := fnT X G a_sum_of l_sum_of c_sum_of k_sum_of, piece := fnT X G a_piece l_piece c_piece k_piece, kernel := fnT X G a_kernel l_kernel c_kernel k_kernel, quotient := fnT X G a_quotient l_quotient c_quotient k_quotient, area_powers := fnT X G a_area_powers l_area_powers c_area_powers k_area_powers, value_at_rules := ⟨f_value_at_rules, _, fun_mk l_value_at_rules c_value_at_rules k_value_at_rules, PySem.W.mg_of X G a_value_at_rules⟩, told := fnT X G a_told l_told c_told k_told, degree := fnT X G a_degree l_degree c_degree k_degree, is_exact_enough := fnT X G a_is_exact_enough l_is_exact_enough c_is_exact_enough k_is_exact_enough, sign_changes := fnT X G a_sign_changes l_sign_changes c_sign_changes k_sign_changes, changes_at := fnT X G a_changes_at l_changes_at c_changes_at k_changes_at, once_each := fnT X G a_once_each l_once_each c_once_each k_once_each, roots_between := fnT X G a_roots_between l_roots_between c_roots_between k_roots_between, is_nowhere_below := fnT X G a_is_nowhere_below l_is_nowhere_below c_is_nowhere_below k_is_nowhere_below, never_below := fnT X G a_never_below l_never_below c_never_below k_never_below, paper := fnT X G a_paper l_paper c_paper k_paper, are_like := fnT X G a_are_like l_are_like c_are_like k_are_like, is_number := fnT X G a_is_number l_is_number c_is_number k_is_number, is_poly := fnT X G a_is_poly l_is_poly c_is_poly k_is_poly, is_formed := fnT X G a_is_formed l_is_formed c_is_formed k_is_formed, is_good := fnT X G a_is_good l_is_good c_is_good k_is_good, entry_holds := fnT X G a_entry_holds l_entry_holds c_entry_holds k_entry_holds, paper_holds := fnT X G a_paper_holds l_paper_holds c_paper_holds k_paper_holds, law := fnT X G a_law l_law c_law k_law, sf_Rule := sf_Rule, NOUGHT := coTup X G a_NOUGHT l_NOUGHT v_NOUGHT.1 (Classical.choose_spec v_NOUGHT.2).1 (Classical.choose_spec v_NOUGHT.2).2, ONE := coTup X G a_ONE l_ONE v_ONE.1 (Classical.choose_spec v_ONE.2).1 (Classical.choose_spec v_ONE.2).2, abs := PySem.W.mg_none_of X G z_abs, all := PySem.W.mg_none_of X G z_all, bool := PySem.W.mg_none_of X G z_bool, enumerate := PySem.W.mg_none_of X G z_enumerate, int := PySem.W.mg_none_of X G z_int, isinstance := PySem.W.mg_none_of X G z_isinstance, len := PySem.W.mg_none_of X G z_len, list := PySem.W.mg_none_of X G z_list, max := PySem.W.mg_none_of X G z_max, min := PySem.W.mg_none_of X G z_min, range := PySem.W.mg_none_of X G z_range, set := PySem.W.mg_none_of X G z_set, sorted := PySem.W.mg_none_of X G z_sorted, tuple := PySem.W.mg_none_of X G z_tuple, zip := PySem.W.mg_none_of X G z_zip }, rfl⟩
  obtain ⟨T, hT⟩ := T
  refine ⟨(fnT X G a_law l_law c_law k_law).fd, fun s v => .of_eq rfl, fun base s H a Q _ _ e0 bd0 q => ?_⟩
  have z := ok_law (P := l.prog) (w := w) (base := base) T (s := s) (H := H) (a := a) (Q := Q) e0
  rw [hT] at z
  exact z bd0 q
end Bk
open PySem PySem.W PyProof.Rows
theorem PySem.Challenge.cw_bendkinds_k36_papers_known_by_hand_holds : PySem.Challenge.rw_bendkinds_k36_papers_known_by_hand.Holds := by
  w_on; o_law; k_head; (case hw => w_witness2)
  k_fill
  refine Bk.law_end (l := PySem.Challenge.rw_bendkinds_k36_papers_known_by_hand) (x := "_law_script") (m := Bk.r_law) rfl rfl (fun w h Y => PySem.W.kIn_of Y) ?F Bk.law_true
  case F =>
    intro w mg fa h KX G hmg
    refine' Bk.all_mk KX G hmg ?aC_Rule ?pg_Rule ?hd_Rule ?po_Rule ?sa_Rule ?na_Rule_0 ?na_Rule_1 ?na_Rule_2 ?na_Rule_3 ?a_is_sequence ?l_is_sequence ?c_is_sequence ?k_is_sequence ?a_is_less ?l_is_less ?c_is_less ?k_is_less ?a_is_integer ?l_is_integer ?c_is_integer ?k_is_integer ?a_divisor ?l_divisor ?c_divisor ?k_divisor ?a_is_pair ?l_is_pair ?c_is_pair ?k_is_pair ?a_is_value ?l_is_value ?c_is_value ?k_is_value ?a_value_of ?l_value_of ?c_value_of ?k_value_of ?a_is_between ?l_is_between ?c_is_between ?k_is_between ?a_is_share ?l_is_share ?c_is_share ?k_is_share ?a_is_weight ?l_is_weight ?c_is_weight ?k_is_weight ?a_ascending ?l_ascending ?c_ascending ?k_ascending ?a_lowest ?l_lowest ?c_lowest ?k_lowest ?a_added ?l_added ?c_added ?k_added ?a_summed ?l_summed ?c_summed ?k_summed ?a_least_shares ?l_least_shares ?c_least_shares ?k_least_shares ?a_least_weights ?l_least_weights ?c_least_weights ?k_least_weights ?a_need_stretch ?l_need_stretch ?c_need_stretch ?k_need_stretch ?t_Rule_init ?td_Rule_init ?v_Rule_init ?a_Rule_init ?l_Rule_init ?c_Rule_init ?k_Rule_init ?i_Rule_init ?mk_Rule ?kc_Rule ?a_Rule_add ?l_Rule_add ?c_Rule_add ?k_Rule_add ?i_Rule_add ?a_Rule_neg ?l_Rule_neg ?c_Rule_neg ?k_Rule_neg ?i_Rule_neg ?a_Rule_sub ?l_Rule_sub ?c_Rule_sub ?k_Rule_sub ?i_Rule_sub ?a_multiplied ?l_multiplied ?c_multiplied ?k_multiplied ?a_Rule_scaled ?l_Rule_scaled ?c_Rule_scaled ?k_Rule_scaled ?i_Rule_scaled ?a_w_choose ?l_w_choose ?c_w_choose ?k_w_choose ?a_w_seed ?l_w_seed ?c_w_seed ?k_w_seed ?a_area ?l_area ?c_area ?k_area ?a_trimmed ?l_trimmed ?c_trimmed ?k_trimmed ?a_derived ?l_derived ?c_derived ?k_derived ?a_primitive ?l_primitive ?c_primitive ?k_primitive ?t_plus ?td_plus ?v_plus ?a_plus ?l_plus ?c_plus ?k_plus ?a_product ?l_product ?c_product ?k_product ?a_sign_of ?l_sign_of ?c_sign_of ?k_sign_of ?a_parted ?l_parted ?c_parted ?k_parted ?a_rest ?l_rest ?c_rest ?k_rest ?a_chain_of ?l_chain_of ?c_chain_of ?k_chain_of ?a_upright ?l_upright ?c_upright ?k_upright ?a_common ?l_common ?c_common ?k_common ?a_divided ?l_divided ?c_divided ?k_divided ?a_parts_of ?l_parts_of ?c_parts_of ?k_parts_of ?a_power ?l_power ?c_power ?k_power ?a_value_at_polys ?l_value_at_polys ?c_value_at_polys ?k_value_at_polys ?a_without_ends ?l_without_ends ?c_without_ends ?k_without_ends ?a_entry ?l_entry ?c_entry ?k_entry ?a_integers_of ?l_integers_of ?c_integers_of ?k_integers_of ?a_knots_of ?l_knots_of ?c_knots_of ?k_knots_of ?a_powered ?l_powered ?c_powered ?k_powered ?a_ways ?l_ways ?c_ways ?k_ways ?a_distance_power ?l_distance_power ?c_distance_power ?k_distance_power ?a_less_by ?l_less_by ?c_less_by ?k_less_by ?a_sum_of ?l_sum_of ?c_sum_of ?k_sum_of ?a_piece ?l_piece ?c_piece ?k_piece ?a_kernel ?l_kernel ?c_kernel ?k_kernel ?a_quotient ?l_quotient ?c_quotient ?k_quotient ?a_area_powers ?l_area_powers ?c_area_powers ?k_area_powers ?a_value_at_rules ?l_value_at_rules ?c_value_at_rules ?k_value_at_rules ?a_told ?l_told ?c_told ?k_told ?a_degree ?l_degree ?c_degree ?k_degree ?a_is_exact_enough ?l_is_exact_enough ?c_is_exact_enough ?k_is_exact_enough ?a_sign_changes ?l_sign_changes ?c_sign_changes ?k_sign_changes ?a_changes_at ?l_changes_at ?c_changes_at ?k_changes_at ?a_once_each ?l_once_each ?c_once_each ?k_once_each ?a_roots_between ?l_roots_between ?c_roots_between ?k_roots_between ?a_is_nowhere_below ?l_is_nowhere_below ?c_is_nowhere_below ?k_is_nowhere_below ?a_never_below ?l_never_below ?c_never_below ?k_never_below ?a_paper ?l_paper ?c_paper ?k_paper ?a_are_like ?l_are_like ?c_are_like ?k_are_like ?a_is_number ?l_is_number ?c_is_number ?k_is_number ?a_is_poly ?l_is_poly ?c_is_poly ?k_is_poly ?a_is_formed ?l_is_formed ?c_is_formed ?k_is_formed ?a_is_good ?l_is_good ?c_is_good ?k_is_good ?a_entry_holds ?l_entry_holds ?c_entry_holds ?k_entry_holds ?a_paper_holds ?l_paper_holds ?c_paper_holds ?k_paper_holds ?a_law ?l_law ?c_law ?k_law ?sf_Rule ?a_NOUGHT ?l_NOUGHT ?v_NOUGHT ?a_ONE ?l_ONE ?v_ONE ?z_abs ?z_all ?z_bool ?z_enumerate ?z_int ?z_isinstance ?z_len ?z_list ?z_max ?z_min ?z_range ?z_set ?z_sorted ?z_tuple ?z_zip
    (case aC_Rule => k_is)
    (case pg_Rule => k_is)
    (case hd_Rule => k_is)
    (case po_Rule => k_is)
    (case sa_Rule => k_is)
    (case na_Rule_0 => k_is)
    (case na_Rule_1 => k_is)
    (case na_Rule_2 => k_is)
    (case na_Rule_3 => k_is)
    (case a_is_sequence => k_is)
    (case l_is_sequence => k_is)
    (case c_is_sequence => k_is)
    (case k_is_sequence => k_is)
    (case a_is_less => k_is)
    (case l_is_less => k_is)
    (case c_is_less => k_is)
    (case k_is_less => k_is)
    (case a_is_integer => k_is)
    (case l_is_integer => k_is)
    (case c_is_integer => k_is)
    (case k_is_integer => k_is)
    (case a_divisor => k_is)
    (case l_divisor => k_is)
    (case c_divisor => k_is)
    (case k_divisor => k_is)
    (case a_is_pair => k_is)
    (case l_is_pair => k_is)
    (case c_is_pair => k_is)
    (case k_is_pair => k_is)
    (case a_is_value => k_is)
    (case l_is_value => k_is)
    (case c_is_value => k_is)
    (case k_is_value => k_is)
    (case a_value_of => k_is)
    (case l_value_of => k_is)
    (case c_value_of => k_is)
    (case k_value_of => k_is)
    (case a_is_between => k_is)
    (case l_is_between => k_is)
    (case c_is_between => k_is)
    (case k_is_between => k_is)
    (case a_is_share => k_is)
    (case l_is_share => k_is)
    (case c_is_share => k_is)
    (case k_is_share => k_is)
    (case a_is_weight => k_is)
    (case l_is_weight => k_is)
    (case c_is_weight => k_is)
    (case k_is_weight => k_is)
    (case a_ascending => k_is)
    (case l_ascending => k_is)
    (case c_ascending => k_is)
    (case k_ascending => k_is)
    (case a_lowest => k_is)
    (case l_lowest => k_is)
    (case c_lowest => k_is)
    (case k_lowest => k_is)
    (case a_added => k_is)
    (case l_added => k_is)
    (case c_added => k_is)
    (case k_added => k_is)
    (case a_summed => k_is)
    (case l_summed => k_is)
    (case c_summed => k_is)
    (case k_summed => k_is)
    (case a_least_shares => k_is)
    (case l_least_shares => k_is)
    (case c_least_shares => k_is)
    (case k_least_shares => k_is)
    (case a_least_weights => k_is)
    (case l_least_weights => k_is)
    (case c_least_weights => k_is)
    (case k_least_weights => k_is)
    (case a_need_stretch => k_is)
    (case l_need_stretch => k_is)
    (case c_need_stretch => k_is)
    (case k_need_stretch => k_is)
    (case a_Rule_init => k_is)
    (case l_Rule_init => k_is)
    (case c_Rule_init => k_is)
    (case k_Rule_init => k_is)
    (case i_Rule_init => k_is)
    (case mk_Rule => k_is)
    (case kc_Rule => k_is)
    (case a_Rule_add => k_is)
    (case l_Rule_add => k_is)
    (case c_Rule_add => k_is)
    (case k_Rule_add => k_is)
    (case i_Rule_add => k_is)
    (case a_Rule_neg => k_is)
    (case l_Rule_neg => k_is)
    (case c_Rule_neg => k_is)
    (case k_Rule_neg => k_is)
    (case i_Rule_neg => k_is)
    (case a_Rule_sub => k_is)
    (case l_Rule_sub => k_is)
    (case c_Rule_sub => k_is)
    (case k_Rule_sub => k_is)
    (case i_Rule_sub => k_is)
    (case a_multiplied => k_is)
    (case l_multiplied => k_is)
    (case c_multiplied => k_is)
    (case k_multiplied => k_is)
    (case a_Rule_scaled => k_is)
    (case l_Rule_scaled => k_is)
    (case c_Rule_scaled => k_is)
    (case k_Rule_scaled => k_is)
    (case i_Rule_scaled => k_is)
    (case a_w_choose => k_is)
    (case l_w_choose => k_is)
    (case c_w_choose => k_is)
    (case k_w_choose => k_is)
    (case a_w_seed => k_is)
    (case l_w_seed => k_is)
    (case c_w_seed => k_is)
    (case k_w_seed => k_is)
    (case a_area => k_is)
    (case l_area => k_is)
    (case c_area => k_is)
    (case k_area => k_is)
    (case a_trimmed => k_is)
    (case l_trimmed => k_is)
    (case c_trimmed => k_is)
    (case k_trimmed => k_is)
    (case a_derived => k_is)
    (case l_derived => k_is)
    (case c_derived => k_is)
    (case k_derived => k_is)
    (case a_primitive => k_is)
    (case l_primitive => k_is)
    (case c_primitive => k_is)
    (case k_primitive => k_is)
    (case a_plus => k_is)
    (case l_plus => k_is)
    (case c_plus => k_is)
    (case k_plus => k_is)
    (case a_product => k_is)
    (case l_product => k_is)
    (case c_product => k_is)
    (case k_product => k_is)
    (case a_sign_of => k_is)
    (case l_sign_of => k_is)
    (case c_sign_of => k_is)
    (case k_sign_of => k_is)
    (case a_parted => k_is)
    (case l_parted => k_is)
    (case c_parted => k_is)
    (case k_parted => k_is)
    (case a_rest => k_is)
    (case l_rest => k_is)
    (case c_rest => k_is)
    (case k_rest => k_is)
    (case a_chain_of => k_is)
    (case l_chain_of => k_is)
    (case c_chain_of => k_is)
    (case k_chain_of => k_is)
    (case a_upright => k_is)
    (case l_upright => k_is)
    (case c_upright => k_is)
    (case k_upright => k_is)
    (case a_common => k_is)
    (case l_common => k_is)
    (case c_common => k_is)
    (case k_common => k_is)
    (case a_divided => k_is)
    (case l_divided => k_is)
    (case c_divided => k_is)
    (case k_divided => k_is)
    (case a_parts_of => k_is)
    (case l_parts_of => k_is)
    (case c_parts_of => k_is)
    (case k_parts_of => k_is)
    (case a_power => k_is)
    (case l_power => k_is)
    (case c_power => k_is)
    (case k_power => k_is)
    (case a_value_at_polys => k_is)
    (case l_value_at_polys => k_is)
    (case c_value_at_polys => k_is)
    (case k_value_at_polys => k_is)
    (case a_without_ends => k_is)
    (case l_without_ends => k_is)
    (case c_without_ends => k_is)
    (case k_without_ends => k_is)
    (case a_entry => k_is)
    (case l_entry => k_is)
    (case c_entry => k_is)
    (case k_entry => k_is)
    (case a_integers_of => k_is)
    (case l_integers_of => k_is)
    (case c_integers_of => k_is)
    (case k_integers_of => k_is)
    (case a_knots_of => k_is)
    (case l_knots_of => k_is)
    (case c_knots_of => k_is)
    (case k_knots_of => k_is)
    (case a_powered => k_is)
    (case l_powered => k_is)
    (case c_powered => k_is)
    (case k_powered => k_is)
    (case a_ways => k_is)
    (case l_ways => k_is)
    (case c_ways => k_is)
    (case k_ways => k_is)
    (case a_distance_power => k_is)
    (case l_distance_power => k_is)
    (case c_distance_power => k_is)
    (case k_distance_power => k_is)
    (case a_less_by => k_is)
    (case l_less_by => k_is)
    (case c_less_by => k_is)
    (case k_less_by => k_is)
    (case a_sum_of => k_is)
    (case l_sum_of => k_is)
    (case c_sum_of => k_is)
    (case k_sum_of => k_is)
    (case a_piece => k_is)
    (case l_piece => k_is)
    (case c_piece => k_is)
    (case k_piece => k_is)
    (case a_kernel => k_is)
    (case l_kernel => k_is)
    (case c_kernel => k_is)
    (case k_kernel => k_is)
    (case a_quotient => k_is)
    (case l_quotient => k_is)
    (case c_quotient => k_is)
    (case k_quotient => k_is)
    (case a_area_powers => k_is)
    (case l_area_powers => k_is)
    (case c_area_powers => k_is)
    (case k_area_powers => k_is)
    (case a_value_at_rules => k_is)
    (case l_value_at_rules => k_is)
    (case c_value_at_rules => k_is)
    (case k_value_at_rules => k_is)
    (case a_told => k_is)
    (case l_told => k_is)
    (case c_told => k_is)
    (case k_told => k_is)
    (case a_degree => k_is)
    (case l_degree => k_is)
    (case c_degree => k_is)
    (case k_degree => k_is)
    (case a_is_exact_enough => k_is)
    (case l_is_exact_enough => k_is)
    (case c_is_exact_enough => k_is)
    (case k_is_exact_enough => k_is)
    (case a_sign_changes => k_is)
    (case l_sign_changes => k_is)
    (case c_sign_changes => k_is)
    (case k_sign_changes => k_is)
    (case a_changes_at => k_is)
    (case l_changes_at => k_is)
    (case c_changes_at => k_is)
    (case k_changes_at => k_is)
    (case a_once_each => k_is)
    (case l_once_each => k_is)
    (case c_once_each => k_is)
    (case k_once_each => k_is)
    (case a_roots_between => k_is)
    (case l_roots_between => k_is)
    (case c_roots_between => k_is)
    (case k_roots_between => k_is)
    (case a_is_nowhere_below => k_is)
    (case l_is_nowhere_below => k_is)
    (case c_is_nowhere_below => k_is)
    (case k_is_nowhere_below => k_is)
    (case a_never_below => k_is)
    (case l_never_below => k_is)
    (case c_never_below => k_is)
    (case k_never_below => k_is)
    (case a_paper => k_is)
    (case l_paper => k_is)
    (case c_paper => k_is)
    (case k_paper => k_is)
    (case a_are_like => k_is)
    (case l_are_like => k_is)
    (case c_are_like => k_is)
    (case k_are_like => k_is)
    (case a_is_number => k_is)
    (case l_is_number => k_is)
    (case c_is_number => k_is)
    (case k_is_number => k_is)
    (case a_is_poly => k_is)
    (case l_is_poly => k_is)
    (case c_is_poly => k_is)
    (case k_is_poly => k_is)
    (case a_is_formed => k_is)
    (case l_is_formed => k_is)
    (case c_is_formed => k_is)
    (case k_is_formed => k_is)
    (case a_is_good => k_is)
    (case l_is_good => k_is)
    (case c_is_good => k_is)
    (case k_is_good => k_is)
    (case a_entry_holds => k_is)
    (case l_entry_holds => k_is)
    (case c_entry_holds => k_is)
    (case k_entry_holds => k_is)
    (case a_paper_holds => k_is)
    (case l_paper_holds => k_is)
    (case c_paper_holds => k_is)
    (case k_paper_holds => k_is)
    (case a_law => k_is)
    (case l_law => k_is)
    (case c_law => k_is)
    (case k_law => k_is)
    (case sf_Rule => k_is)
    (case a_NOUGHT => k_is)
    (case l_NOUGHT => k_is)
    (case a_ONE => k_is)
    (case l_ONE => k_is)
    (case z_abs => k_is)
    (case z_all => k_is)
    (case z_bool => k_is)
    (case z_enumerate => k_is)
    (case z_int => k_is)
    (case z_isinstance => k_is)
    (case z_len => k_is)
    (case z_list => k_is)
    (case z_max => k_is)
    (case z_min => k_is)
    (case z_range => k_is)
    (case z_set => k_is)
    (case z_sorted => k_is)
    (case z_tuple => k_is)
    (case z_zip => k_is)
    (case t_Rule_init => k_is)
    (case td_Rule_init => rfl)
    (case v_Rule_init => exact ⟨[.ref _, .ref _], (.cons rfl (.cons rfl .nil)), fun _ => (.cons (.tup (.inr ⟨_, #[], _, (by k_is), rfl, rfl, by decide, .nil⟩) .nil) (.cons (.tup (.inr ⟨_, #[], _, (by k_is), rfl, rfl, by decide, .nil⟩) .nil) .nil))⟩)
    (case t_plus => k_is)
    (case td_plus => rfl)
    (case v_plus => exact ⟨[.int _], (.cons ⟨_, rfl⟩ .nil), fun _ => (.cons (.int _) .nil)⟩)
    (case v_NOUGHT => exact ⟨by decide, [.int (0), .int (1)], .cons ⟨_, rfl⟩ (.cons ⟨_, rfl⟩ (.nil)), fun _ => .cons (.int _) (.cons (.int _) (.nil))⟩)
    (case v_ONE => exact ⟨by decide, [.int (1), .int (1)], .cons ⟨_, rfl⟩ (.cons ⟨_, rfl⟩ (.nil)), fun _ => .cons (.int _) (.cons (.int _) (.nil))⟩)
