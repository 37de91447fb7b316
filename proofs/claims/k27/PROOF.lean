import PyProof.Rows.All
import Wide.All
import OpenK.AllK
import Wide.FinOn
import HandS.ForMost
import HandS.IsInst
import HandS.Wide
import HandS.Flow
import HandS.Style
import HandS.RaiseMore
import KE.GoesEnum
import HandS.Codes
import KE.KOpsOwn
import KE.KCallOwn
import KE.KFmtOwn
import HandS.SlotsOwn
import HandS.TupAny
import HandS.Star
import HandS.FStr
import HandS.Text
import HandS.Comp
import HandS.Replace
import HandS.SortRule
import HandS.SortInts
import HandS.Defaults
import HandS.MakeKw
import HandS.Strs
import HandS.SetFor
import HandS.TupMul
import HandS.Deep
import KE.RegKIsAll
import PySem.Challenge.RW_bendkinds_k27_any_values_as_no
set_option Elab.async false
set_option linter.all false
set_option maxRecDepth 100000
set_option maxHeartbeats 4000000
namespace Bk
open PySem L2
inductive D where
  | non | bl (b : Bool) | int (i : Int) | str (x : PySem.Str)
  | lst (xs : List D) | frz (xs : List D) | tup (xs : List D) | obj (c : Nat) (xs : List D) | ty (n : String) | cl (c : Nat) | dic (ks : List PySem.Str) (xs : List D)
def cName : Nat → PySem.Str
  | 0 => "Rule" | 1 => "Part" | 2 => "Live" | 3 => "Block" | 4 => "Desk" | _ => "Table"
def cAttrs : Nat → List PySem.Str
  | 0 => ["low", "high", "weights", "shares"]
  | 1 => ["start", "end", "powers", "whole", "least_high", "most_high"]
  | 2 => ["past"] | 3 => ["live", "kept"] | 4 => ["kept"]
  | _ => ["many", "size", "signs", "lines", "base"]
/-- the class of that number stands at C -/
def CAt (K : PySem.W.Frag) (c : Nat) (C : Addr) : Prop := PySem.W.nsIn K mainGlobals (cName c) = some (some (.ref C))
theorem CAt.eq {K : PySem.W.Frag} {c : Nat} {C C' : Addr} (h : CAt K c C) (h' : CAt K c C') : C = C' := by
  unfold CAt at h h'
  rw [h] at h'
  cases h'
  rfl
mutual
inductive DR (K : PySem.W.Frag) (H : Hp) : V → D → Prop
  | non : DR K H .non .non
  | bl (b : Bool) : DR K H (.bl b) (.bl b)
  | int (i : Int) : DR K H (.int i) (.int i)
  | str (x : PySem.Str) : DR K H (.str x) (.str x)
  | lst {a : Addr} {xs : List V} {ds : List D} : H a = some (.lst xs) → DRs K H xs ds → DR K H (.ref a) (.lst ds)
  | frz {a : Addr} {xs : List V} {ds : List D} : SqL K H a xs → DRs K H xs ds → DR K H (.ref a) (.frz ds)
  | tup {a : Addr} {xs : List V} {ds : List D} : SqT K H a xs → DRs K H xs ds → DR K H (.ref a) (.tup ds)
  | obj {a C dx : Addr} {c : Nat} {fs : List (PySem.Str × V)} {vs : List V} {ds : List D} : CAt K c C → H a = some (.ins C dx fs) → fs.map (·.1) = (cAttrs c).take ds.length → fs.map (·.2) = vs → DRs K H vs ds → DR K H (.ref a) (.obj c ds)
  | ty (n : String) : DR K H (.ty n) (.ty n)
  | cl {c : Nat} {C : Addr} : CAt K c C → DR K H (.ref C) (.cl c)
  | dic {a : Addr} {ks : List PySem.Str} {vs : List V} {ds : List D} : Rd H a (.dK ((ks.map Sum.inr).zip vs)) → DRs K H vs ds → ks.length = vs.length → DR K H (.ref a) (.dic ks ds)
inductive DRs (K : PySem.W.Frag) (H : Hp) : List V → List D → Prop
  | nil : DRs K H [] []
  | cons {v : V} {vs : List V} {d : D} {ds : List D} : DR K H v d → DRs K H vs ds → DRs K H (v :: vs) (d :: ds)
end
theorem same_rd {H H' : Hp} (e : Same H H') {a : Addr} {u : HO} (r : Rd H a u) : Rd H' a u := by
  cases r with
  | inl h => exact .inl (e _ _ h)
  | inr h =>
    obtain ⟨o, h⟩ := h
    exact .inr ⟨o, e _ _ h⟩
theorem same_tup {K : PySem.W.Frag} {H H' : Hp} (e : Same H H') {a : Addr} {xs : List V} (h : SqT K H a xs) : SqT K H' a xs := by
  cases h with
  | inl h => exact .inl (same_rd e h)
  | inr h => exact .inr h
theorem same_lst {K : PySem.W.Frag} {H H' : Hp} (e : Same H H') {a : Addr} {xs : List V} (h : SqL K H a xs) : SqL K H' a xs := by
  cases h with
  | inl h => exact .inl (same_rd e h)
  | inr h => exact .inr h
mutual
theorem DR.mono {K : PySem.W.Frag} {H H' : Hp} (e : Same H H') : ∀ {v : V} {d : D}, DR K H v d → DR K H' v d
  | _, _, .non => .non
  | _, _, .bl b => .bl b
  | _, _, .int i => .int i
  | _, _, .str x => .str x
  | _, _, .lst h hs => .lst (e _ _ h) (DRs.mono e hs)
  | _, _, .frz h hs => .frz (same_lst e h) (DRs.mono e hs)
  | _, _, .tup h hs => .tup (same_tup e h) (DRs.mono e hs)
  | _, _, .obj c h h1 h2 hs => .obj c (e _ _ h) h1 h2 (DRs.mono e hs)
  | _, _, .ty n => .ty n
  | _, _, .cl c => .cl c
  | _, _, .dic h hs hl => .dic (same_rd e h) (DRs.mono e hs) hl
theorem DRs.mono {K : PySem.W.Frag} {H H' : Hp} (e : Same H H') : ∀ {vs : List V} {ds : List D}, DRs K H vs ds → DRs K H' vs ds
  | _, _, .nil => .nil
  | _, _, .cons h hs => .cons (DR.mono e h) (DRs.mono e hs)
end
section
variable {K : PySem.W.Frag} {H : Hp}
theorem DRs.len : ∀ {vs : List V} {ds : List D}, DRs K H vs ds → vs.length = ds.length
  | _, _, .nil => rfl
  | _, _, .cons _ hs => congrArg Nat.succ (DRs.len hs)
theorem DRs.at : ∀ {vs : List V} {ds : List D} {i : Nat} {d : D}, DRs K H vs ds → ds[i]? = some d → ∃ v, vs[i]? = some v ∧ DR K H v d
  | _, _, _, _, .nil, e => by simp at e
  | _, _, 0, _, .cons h _, e => by simp at e; subst e; exact ⟨_, rfl, h⟩
  | _, _, i + 1, _, .cons _ hs, e => by
    obtain ⟨v, h1, h2⟩ := DRs.at (i := i) hs (by simpa using e)
    exact ⟨v, by simpa using h1, h2⟩
theorem DRs.ta : ∀ {vs : List V} {ds : List D} {i : Nat} {v : V}, DRs K H vs ds → vs[i]? = some v → ∃ d, ds[i]? = some d ∧ DR K H v d
  | _, _, _, _, .nil, e => by simp at e
  | _, _, 0, _, .cons h _, e => by simp at e; subst e; exact ⟨_, rfl, h⟩
  | _, _, i + 1, _, .cons _ hs, e => by
    obtain ⟨v, h1, h2⟩ := DRs.ta (i := i) hs (by simpa using e)
    exact ⟨v, by simpa using h1, h2⟩
theorem DRs.app : ∀ {vs ws : List V} {ds es : List D}, DRs K H vs ds → DRs K H ws es → DRs K H (vs ++ ws) (ds ++ es)
  | _, _, _, _, .nil, h => h
  | _, _, _, _, .cons a t, h => .cons a (DRs.app t h)
theorem DRs.one {v : V} {d : D} (h : DR K H v d) : DRs K H [v] [d] := .cons h .nil
theorem DRs.drop : ∀ {vs : List V} {ds : List D} (n : Nat), DRs K H vs ds → DRs K H (vs.drop n) (ds.drop n)
  | _, _, 0, h => h
  | _, _, _ + 1, .nil => .nil
  | _, _, n + 1, .cons _ t => DRs.drop n t
theorem DRs.take : ∀ {vs : List V} {ds : List D} (n : Nat), DRs K H vs ds → DRs K H (vs.take n) (ds.take n)
  | _, _, 0, _ => .nil
  | _, _, _ + 1, .nil => .nil
  | _, _, n + 1, .cons a t => .cons a (DRs.take n t)
theorem DRs.set {v : V} {d : D} (h : DR K H v d) : ∀ {vs : List V} {ds : List D} (i : Nat), DRs K H vs ds → DRs K H (vs.set i v) (ds.set i d)
  | _, _, _, .nil => .nil
  | _, _, 0, .cons _ t => .cons h t
  | _, _, i + 1, .cons a t => .cons a (DRs.set h i t)
theorem DRs.rev : ∀ {vs : List V} {ds : List D}, DRs K H vs ds → DRs K H vs.reverse ds.reverse
  | _, _, .nil => .nil
  | _, _, .cons a t => by
    rw [List.reverse_cons, List.reverse_cons]
    exact DRs.app (DRs.rev t) (.cons a .nil)
theorem DRs.rep {vs : List V} {ds : List D} (h : DRs K H vs ds) : ∀ k : Nat, DRs K H (List.replicate k vs).flatten (List.replicate k ds).flatten
  | 0 => .nil
  | k + 1 => by
    rw [List.replicate_succ, List.replicate_succ, List.flatten_cons, List.flatten_cons]
    exact DRs.app h (DRs.rep h k)
theorem DRs.ints : ∀ (ns : List Int), DRs K H (ns.map V.int) (ns.map D.int)
  | [] => .nil
  | n :: ns => .cons (.int n) (DRs.ints ns)
end
/-- what may change: a list, an instance -/
inductive Mob where
  | l (ds : List D) | o (c : Nat) (ds : List D)
def Mob.d : Mob → D
  | .l ds => .lst ds
  | .o c ds => .obj c ds
inductive Ent where
  | un | im (d : D) | ow (m : Mob) | bx (m : Mob)
def Ent.mu : Ent → Option Mob
  | .ow m => some m
  | .bx m => some m
  | _ => none
abbrev Gam := List Ent
inductive R where
  | im (d : D) | ow (m : Mob)
abbrev R.ol (ds : List D) : R := .ow (.l ds)
abbrev Ent.ol (ds : List D) : Ent := .ow (.l ds)
abbrev Ent.bl (ds : List D) : Ent := .bx (.l ds)
def R.d : R → D
  | .im d => d
  | .ow m => m.d
def R.ent : R → Ent
  | .im d => .im d
  | .ow m => .ow m
abbrev M (α : Type) := Gam → Option (α × Gam)
/-- the object at an address is that thing -/
def MobO (K : PySem.W.Frag) (Hs : Hp) : Mob → HO → Prop
  | .l ds, o => ∃ vs, o = .lst vs ∧ DRs K Hs vs ds
  | .o c ds, o => ∃ C dx fs, CAt K c C ∧ o = .ins C dx fs ∧ fs.map (·.1) = (cAttrs c).take ds.length ∧ DRs K Hs (fs.map (·.2)) ds
theorem MobO.mono {K : PySem.W.Frag} {H H' : Hp} (e : Same H H') {m : Mob} {o : HO} (h : MobO K H m o) : MobO K H' m o := by
  cases m with
  | l ds =>
    obtain ⟨vs, h1, h2⟩ := h
    exact ⟨vs, h1, h2.mono e⟩
  | o c ds =>
    obtain ⟨C, dx, fs, h1, h2, h3, h4⟩ := h
    exact ⟨C, dx, fs, h1, h2, h3, h4.mono e⟩
theorem MobO.dr {K : PySem.W.Frag} {H : Hp} {m : Mob} {o : HO} {a : Addr} (h : MobO K H m o) (ha : H a = some o) : DR K H (.ref a) m.d := by
  cases m with
  | l ds =>
    obtain ⟨vs, rfl, h2⟩ := h
    exact .lst ha h2
  | o c ds =>
    obtain ⟨C, dx, fs, h1, rfl, h3, h4⟩ := h
    exact .obj h1 ha h3 rfl h4
structure Rel (K : PySem.W.Frag) (Fz : Hp) (ba : Nat → Addr) (G : Gam) (σ : L2.St) (H Hs : Hp) : Prop where
  sub : Same Hs H
  fz : ∀ a o, Fz a = some o → H a = some o ∧ Hs a = none
  len : σ.length = G.length
  im : ∀ (i : Nat) (d : D), G[i]? = some (.im d) → ∃ v, σ[i]? = some (some v) ∧ DR K Hs v d
  mu : ∀ (i : Nat) (e : Ent) (m : Mob), G[i]? = some e → e.mu = some m → ∃ l o, σ[i]? = some (some (.ref l)) ∧ H l = some o ∧ Hs l = none ∧ Fz l = none ∧ MobO K Hs m o
  dj : ∀ (i j : Nat) (e e' : Ent) (l : Addr), G[i]? = some e → G[j]? = some e' → e.mu ≠ none → e'.mu ≠ none → σ[i]? = some (some (.ref l)) → σ[j]? = some (some (.ref l)) → i = j
  bx : ∀ (i : Nat) (m : Mob), G[i]? = some (.bx m) → σ[i]? = some (some (.ref (ba i)))
/-- more was laid, nothing that stood was touched; what is hidden stays hidden -/
structure Ext (H Hs H' Hs' : Hp) : Prop where
  a : Same H H'
  b : Same Hs Hs'
  c : Same Hs' H'
  n : ∀ x o, H x = some o → Hs x = none → Hs' x = none
theorem Ext.refl {H Hs : Hp} (s : Same Hs H) : Ext H Hs H Hs := ⟨Same.refl _, Same.refl _, s, fun _ _ _ h => h⟩
theorem Ext.trans {H Hs H1 Hs1 H2 Hs2 : Hp} (p : Ext H Hs H1 Hs1) (q : Ext H1 Hs1 H2 Hs2) : Ext H Hs H2 Hs2 :=
  ⟨p.a.trans q.a, p.b.trans q.b, q.c, fun x o h1 h2 => q.n x o (p.a x o h1) (p.n x o h1 h2)⟩
theorem same_new {H : Hp} {p : Addr} {o : HO} (h : H p = none) : Same H (upd H p o) := fun a u e => by
  rw [upd_ne (ne_of_none e h)]
  exact e
theorem none_sub {Hs H : Hp} (s : Same Hs H) {p : Addr} (h : H p = none) : Hs p = none := s.free h
theorem same_upd2 {Hs H : Hp} (s : Same Hs H) {p : Addr} {o : HO} : Same (upd Hs p o) (upd H p o) := fun a u e => by
  by_cases z : a = p
  · subst z
    rw [upd_same] at e ⊢
    exact e
  · rw [upd_ne z] at e ⊢
    exact s a u e
theorem Ext.new {H Hs : Hp} {p : Addr} {o : HO} (s : Same Hs H) (h : H p = none) : Ext H Hs (upd H p o) (upd Hs p o) :=
  ⟨same_new h, same_new (none_sub s h), same_upd2 s, fun x u h1 h2 => by rw [upd_ne (ne_of_none h1 h)]; exact h2⟩
theorem Ext.hid {H Hs : Hp} {p : Addr} {o : HO} (s : Same Hs H) (h : H p = none) : Ext H Hs (upd H p o) Hs :=
  ⟨same_new h, Same.refl _, s.trans (same_new h), fun x u _ h2 => h2⟩
section
variable {K : PySem.W.Frag} {Fz : Hp} {ba : Nat → Addr} {G : Gam} {σ : L2.St} {H Hs H' Hs' : Hp}
theorem Rel.ext (r : Rel K Fz ba G σ H Hs) (e : Ext H Hs H' Hs') : Rel K Fz ba G σ H' Hs' where
  sub := e.c
  fz := fun a o h => let ⟨h1, h2⟩ := r.fz a o h; ⟨e.a a o h1, e.n a o h1 h2⟩
  len := r.len
  im := fun i d h => let ⟨v, h1, h2⟩ := r.im i d h; ⟨v, h1, h2.mono e.b⟩
  mu := fun i en ds h h0 => let ⟨l, vs, h1, h2, h3, h4, h5⟩ := r.mu i en ds h h0; ⟨l, vs, h1, e.a l _ h2, e.n l _ h2 h3, h4, h5.mono e.b⟩
  dj := r.dj
  bx := r.bx
def Res (K : PySem.W.Frag) (Fz : Hp) (G : Gam) (σ : L2.St) (H Hs : Hp) (v : V) : R → Prop
  | .im d => DR K Hs v d
  | .ow m => ∃ p o, v = .ref p ∧ H p = some o ∧ Hs p = none ∧ Fz p = none ∧ MobO K Hs m o ∧ ∀ (i : Nat) (e : Ent), G[i]? = some e → e.mu ≠ none → σ[i]? ≠ some (some (.ref p))
/-- an owned object becomes a shared one -/
theorem Rel.froze (r : Rel K Fz ba G σ H Hs) {p : Addr} {o : HO} (h : H p = some o) (hs : Hs p = none) (hf : Fz p = none) (hn : ∀ (i : Nat) (e : Ent), G[i]? = some e → e.mu ≠ none → σ[i]? ≠ some (some (.ref p))) :
    Rel K Fz ba G σ H (upd Hs p o) ∧ Same Hs (upd Hs p o) := by
  have sm : Same Hs (upd Hs p o) := same_new hs
  refine ⟨⟨fun a u e => ?_, fun a u e => ?_, r.len, fun i d e => ?_, fun i en ds e e0 => ?_, r.dj, r.bx⟩, sm⟩
  · by_cases z : a = p
    · subst z
      rw [upd_same] at e
      rw [h]
      exact e
    · rw [upd_ne z] at e
      exact r.sub a u e
  · obtain ⟨h1, h2⟩ := r.fz a u e
    refine ⟨h1, ?_⟩
    rw [upd_ne (ne_of_none e hf)]
    exact h2
  · obtain ⟨v, h1, h2⟩ := r.im i d e
    exact ⟨v, h1, h2.mono sm⟩
  · obtain ⟨l, vs, h1, h2, h3, h4, h5⟩ := r.mu i en ds e e0
    refine ⟨l, vs, h1, h2, ?_, h4, h5.mono sm⟩
    have z : l ≠ p := by
      intro z
      subst z
      exact hn i en e (by rw [e0]; simp) h1
    rw [upd_ne z]
    exact h3
theorem Rel.fzr (r : Rel K Fz ba G σ H Hs) {v : V} {x : R} (h : Res K Fz G σ H Hs v x) : ∃ Hs', Rel K Fz ba G σ H Hs' ∧ Same Hs Hs' ∧ DR K Hs' v x.d := by
  cases x with
  | im d => exact ⟨Hs, r, Same.refl _, h⟩
  | ow ds =>
    obtain ⟨p, vs, rfl, h1, h2, h3, h4, h5⟩ := h
    obtain ⟨q1, q2⟩ := r.froze h1 h2 h3 h5
    exact ⟨_, q1, q2, (h4.mono q2).dr upd_same⟩
theorem get_set {α : Type} {l : List α} {i j : Nat} {a b : α} (h : (l.set i a)[j]? = some b) : (i = j ∧ b = a ∧ i < l.length) ∨ (i ≠ j ∧ l[j]? = some b) := by
  by_cases z : i = j
  · subst z
    by_cases hi : i < l.length
    · rw [List.getElem?_set_self hi] at h
      cases h
      exact .inl ⟨rfl, rfl, hi⟩
    · rw [List.getElem?_eq_none (by simp; omega)] at h
      cases h
  · rw [List.getElem?_set_ne z] at h
    exact .inr ⟨z, h⟩
/-- a name is stored -/
theorem Rel.set (r : Rel K Fz ba G σ H Hs) {i : Nat} {v : V} {x : R} (h : Res K Fz G σ H Hs v x) : Rel K Fz ba (G.set i x.ent) (σ.set i (some v)) H Hs where
  sub := r.sub
  fz := r.fz
  len := by rw [List.length_set, List.length_set]; exact r.len
  im := fun j d e => by
    rcases get_set e with ⟨rfl, e1, hi⟩ | ⟨z, e1⟩
    · refine ⟨v, by rw [List.getElem?_set_self (by rw [r.len]; exact hi)], ?_⟩
      cases x with
      | im d' => cases e1; exact h
      | ow ds => cases e1
    · obtain ⟨v', h1, h2⟩ := r.im j d e1
      exact ⟨v', by rw [List.getElem?_set_ne z]; exact h1, h2⟩
  mu := fun j en ds e e0 => by
    rcases get_set e with ⟨rfl, e1, hi⟩ | ⟨z, e1⟩
    · cases x with
      | im d' => subst e1; cases e0
      | ow ds' =>
        subst e1
        cases e0
        obtain ⟨p, vs, rfl, h1, h2, h3, h4, _⟩ := h
        exact ⟨p, vs, by rw [List.getElem?_set_self (by rw [r.len]; exact hi)], h1, h2, h3, h4⟩
    · obtain ⟨l, vs, h1, h2⟩ := r.mu j en ds e1 e0
      exact ⟨l, vs, by rw [List.getElem?_set_ne z]; exact h1, h2⟩
  dj := fun j k e e' l h1 h2 m1 m2 s1 s2 => by
    rcases get_set h1 with ⟨z1, e1, hi⟩ | ⟨z1, e1⟩
    · rcases get_set h2 with ⟨z2, e2, _⟩ | ⟨z2, e2⟩
      · exact z1.symm.trans z2
      · exfalso
        subst z1
        rw [List.getElem?_set_self (by rw [r.len]; exact hi)] at s1
        rw [List.getElem?_set_ne z2] at s2
        cases s1
        cases x with
        | im d' => subst e1; exact m1 rfl
        | ow ds' =>
          obtain ⟨p, vs, q, _, _, _, _, q2⟩ := h
          cases q
          exact q2 k e' e2 m2 s2
    · rcases get_set h2 with ⟨z2, e2, hi⟩ | ⟨z2, e2⟩
      · exfalso
        subst z2
        rw [List.getElem?_set_self (by rw [r.len]; exact hi)] at s2
        rw [List.getElem?_set_ne z1] at s1
        cases s2
        cases x with
        | im d' => subst e2; exact m2 rfl
        | ow ds' =>
          obtain ⟨p, vs, q, _, _, _, _, q2⟩ := h
          cases q
          exact q2 j e e1 m1 s1
      · rw [List.getElem?_set_ne z1] at s1
        rw [List.getElem?_set_ne z2] at s2
        exact r.dj j k e e' l e1 e2 m1 m2 s1 s2
  bx := fun j ds e => by
    rcases get_set e with ⟨_, e1, _⟩ | ⟨z, e1⟩
    · cases x <;> cases e1
    · rw [List.getElem?_set_ne z]
      exact r.bx j ds e1
/-- a slot is forgotten -/
theorem Rel.forget (r : Rel K Fz ba G σ H Hs) (i : Nat) : Rel K Fz ba (G.set i .un) (σ.set i none) H Hs where
  sub := r.sub
  fz := r.fz
  len := by rw [List.length_set, List.length_set]; exact r.len
  im := fun j d e => by
    rcases get_set e with ⟨_, e1, _⟩ | ⟨z, e1⟩
    · cases e1
    · rw [List.getElem?_set_ne z]
      exact r.im j d e1
  mu := fun j en ds e e0 => by
    rcases get_set e with ⟨_, e1, _⟩ | ⟨z, e1⟩
    · subst e1; cases e0
    · rw [List.getElem?_set_ne z]
      exact r.mu j en ds e1 e0
  dj := fun j k e e' l h1 h2 m1 m2 s1 s2 => by
    rcases get_set h1 with ⟨_, e1, _⟩ | ⟨z1, e1⟩
    · subst e1; exact absurd rfl m1
    · rcases get_set h2 with ⟨_, e2, _⟩ | ⟨z2, e2⟩
      · subst e2; exact absurd rfl m2
      · rw [List.getElem?_set_ne z1] at s1
        rw [List.getElem?_set_ne z2] at s2
        exact r.dj j k e e' l e1 e2 m1 m2 s1 s2
  bx := fun j ds e => by
    rcases get_set e with ⟨_, e1, _⟩ | ⟨z, e1⟩
    · cases e1
    · rw [List.getElem?_set_ne z]
      exact r.bx j ds e1
end
def GOk (K : PySem.W.Frag) (t : TE) (f : M R) : Prop := ∀ Fz ba G σ H Hs r G', Rel K Fz ba G σ H Hs → f G = some (r, G') →
  ∀ Q : VK, (∀ v H' Hs', Rel K Fz ba G' σ H' Hs' → Same Hs Hs' → Res K Fz G' σ H' Hs' v r → Q v H') → t σ H Q
def TOk (K : PySem.W.Frag) (t : TT) (f : M Bool) : Prop := ∀ Fz ba G σ H Hs b G', Rel K Fz ba G σ H Hs → f G = some (b, G') →
  ∀ Q : Bool → Hp → Prop, (∀ H' Hs', Rel K Fz ba G' σ H' Hs' → Same Hs Hs' → Q b H') → t σ H Q
def AOk (K : PySem.W.Frag) (t : TA) (f : M (List D)) : Prop := ∀ Fz ba G σ H Hs ds G', Rel K Fz ba G σ H Hs → f G = some (ds, G') →
  ∀ Q : List V → Hp → Prop, (∀ vs H' Hs', Rel K Fz ba G' σ H' Hs' → Same Hs Hs' → DRs K Hs' vs ds → Q vs H') → t σ H Q
inductive Fl where
  | nx | bk | ct | rt (r : R)
abbrev MS := Gam → Option (Fl × Gam)
def Post (K : PySem.W.Frag) (Fz : Hp) (ba : Nat → Addr) (G' : Gam) (Hs : Hp) (Dn : Ends) : Fl → Prop
  | .nx => ∀ σ' H' Hs', Rel K Fz ba G' σ' H' Hs' → Same Hs Hs' → Dn.nx σ' H'
  | .bk => ∀ σ' H' Hs', Rel K Fz ba G' σ' H' Hs' → Same Hs Hs' → Dn.bk σ' H'
  | .ct => ∀ σ' H' Hs', Rel K Fz ba G' σ' H' Hs' → Same Hs Hs' → Dn.ct σ' H'
  | .rt r => ∀ v σ' H' Hs', Rel K Fz ba G' σ' H' Hs' → Same Hs Hs' → Res K Fz G' σ' H' Hs' v r → Dn.rt v H'
def SOk (K : PySem.W.Frag) (t : TS) (f : MS) : Prop := ∀ Fz ba G σ H Hs fl G', Rel K Fz ba G σ H Hs → f G = some (fl, G') → ∀ Dn : Ends, Post K Fz ba G' Hs Dn fl → t Dn σ H
theorem Post.mono {K : PySem.W.Frag} {Fz : Hp} {ba : Nat → Addr} {G' : Gam} {Hs Hs1 : Hp} {Dn : Ends} {fl : Fl} (h : Post K Fz ba G' Hs Dn fl) (s : Same Hs Hs1) : Post K Fz ba G' Hs1 Dn fl := by
  cases fl with
  | nx => exact fun σ' H' Hs' r q => h σ' H' Hs' r (s.trans q)
  | bk => exact fun σ' H' Hs' r q => h σ' H' Hs' r (s.trans q)
  | ct => exact fun σ' H' Hs' r q => h σ' H' Hs' r (s.trans q)
  | rt x => exact fun v σ' H' Hs' r q => h v σ' H' Hs' r (s.trans q)
/-- a target: which slots it writes -/
structure GtOk (K : PySem.W.Frag) (g : TG) (f : D → Gam → Option Gam) (js : List Nat) : Prop where
  run : ∀ Fz ba G σ H Hs v d G', Rel K Fz ba G σ H Hs → DR K Hs v d → f d G = some G' → ∀ Q : L2.St → Hp → Prop, (∀ σ', Rel K Fz ba G' σ' H Hs → σ'.length = σ.length → (∀ i : Nat, i ∉ js → σ'[i]? = σ[i]?) → Q σ' H) → g v σ H Q
/-- an iterator gives the items ds -/
structure Yl (K : PySem.W.Frag) (J : It) (ds : List D) (Hs0 : Hp) : Prop where
  go : ∀ i H, Same Hs0 H → i < ds.length → J.go i H
  stop : ∀ i H, Same Hs0 H → ds.length ≤ i → J.stop i H
  yld : ∀ i x H H' Hs, i < ds.length → Same Hs0 Hs → Same Hs H → J.yld i H x H' → ∃ d Hs', ds[i]? = some d ∧ Ext H Hs H' Hs' ∧ DR K Hs' x d
def IOk (K : PySem.W.Frag) (w : TI) (f : M (List D)) : Prop := ∀ Fz ba G σ H Hs ds G', Rel K Fz ba G σ H Hs → f G = some (ds, G') →
  ∀ Q : It → Hp → Prop, (∀ J H' Hs', Rel K Fz ba G' σ H' Hs' → Same Hs Hs' → Yl K J ds Hs' → Q J H') → w σ H Q
/-- a result that was laid behind H -/
def ResF (K : PySem.W.Frag) (H H' Hs' : Hp) (v : V) : R → Prop
  | .im d => DR K Hs' v d
  | .ow m => ∃ p o, v = .ref p ∧ H p = none ∧ H' p = some o ∧ Hs' p = none ∧ MobO K Hs' m o
theorem ResF.res {K : PySem.W.Frag} {Fz : Hp} {ba : Nat → Addr} {G : Gam} {σ : L2.St} {H Hs H' Hs' : Hp} {v : V} {x : R} (r : Rel K Fz ba G σ H Hs) (h : ResF K H H' Hs' v x) : Res K Fz G σ H' Hs' v x := by
  cases x with
  | im d => exact h
  | ow ds =>
    obtain ⟨p, vs, rfl, h1, h2, h3, h4⟩ := h
    refine ⟨p, vs, rfl, h2, h3, ?_, h4, fun i e g m q => ?_⟩
    · cases z : Fz p with
      | none => rfl
      | some o =>
        obtain ⟨z1, _⟩ := r.fz p o z
        rw [h1] at z1
        cases z1
    · obtain ⟨ds', hd⟩ : ∃ ds', e.mu = some ds' := by
        cases z : e.mu with
        | none => exact absurd z m
        | some ds' => exact ⟨ds', rfl⟩
      obtain ⟨l, ws, q1, q2, _⟩ := r.mu i e ds' g hd
      rw [q] at q1
      cases q1
      rw [h1] at q2
      cases q2
end Bk
namespace Bk
open PySem L2
def bd {α β : Type} (x : Option (α × Gam)) (f : α → Gam → Option β) : Option β := match x with
  | none => none
  | some (a, G) => f a G
@[simp] theorem bd_none {α β : Type} {f : α → Gam → Option β} : bd (none : Option (α × Gam)) f = none := rfl
@[simp] theorem bd_some {α β : Type} {a : α} {G : Gam} {f : α → Gam → Option β} : bd (some (a, G)) f = f a G := rfl
theorem bd_inv {α β : Type} {x : Option (α × Gam)} {f : α → Gam → Option β} {r : β} (h : bd x f = some r) : ∃ a G, x = some (a, G) ∧ f a G = some r := by
  cases x with
  | none => cases h
  | some p => exact ⟨p.1, p.2, rfl, h⟩
def xv (i : Nat) : M R := fun G => match G[i]? with
  | some (.im d) => some (.im d, G)
  | some (.ow m) => some (.im m.d, G.set i (.im m.d))
  | _ => none
/-- the name's list, which the name gives away -/
def xmv (i : Nat) : M R := fun G => match G[i]? with
  | some (.im d) => some (.im d, G)
  | some (.ow m) => some (.ow m, G.set i .un)
  | _ => none
def xc (d : D) : M R := fun G => some (.im d, G)
def xop (o : D → D → Option R) (a b : M R) : M R := fun G => bd (a G) fun x G1 => bd (b G1) fun y G2 => match o x.d y.d with
  | none => none
  | some r => some (r, G2)
def xun (o : D → Option R) (a : M R) : M R := fun G => bd (a G) fun x G1 => match o x.d with
  | none => none
  | some r => some (r, G1)
def xnil : M (List D) := fun G => some ([], G)
def xcons (a : M R) (r : M (List D)) : M (List D) := fun G => bd (a G) fun x G1 => bd (r G1) fun xs G2 => some (x.d :: xs, G2)
def xcb (o : List D → Option R) (a : M (List D)) : M R := fun G => bd (a G) fun xs G1 => match o xs with
  | none => none
  | some r => some (r, G1)
def few (n : Nat) : Bool := decide (n ≤ 16000000)
def xtup (a : M (List D)) : M R := fun G => bd (a G) fun xs G1 => if few xs.length then some (.im (.tup xs), G1) else none
def xlst (a : M (List D)) : M R := fun G => bd (a G) fun xs G1 => if few xs.length then some (.ol xs, G1) else none
def xif (t : M Bool) (a b : M R) : M R := fun G => bd (t G) fun k G1 => if k then a G1 else b G1
def xtest (a : M R) : M Bool := fun G => bd (a G) fun x G1 => match x.d with
  | .bl b => some (b, G1)
  | _ => none
def truth : D → Option Bool
  | .non => some false
  | .bl b => some b
  | .int i => some (i != 0)
  | .str x => if few x.length then some ((x.length : Int) != 0) else none
  | .lst xs => some (!xs.isEmpty)
  | .frz xs => some (!xs.isEmpty)
  | .tup xs => some (!xs.isEmpty)
  | _ => none
def xtru (a : M R) : M Bool := fun G => bd (a G) fun x G1 => match truth x.d with
  | some b => some (b, G1)
  | none => none
def xtand (a b : M Bool) : M Bool := fun G => bd (a G) fun k G1 => if k then b G1 else some (false, G1)
def xtor (a b : M Bool) : M Bool := fun G => bd (a G) fun k G1 => if k then some (true, G1) else b G1
def xtnot (a : M Bool) : M Bool := fun G => bd (a G) fun k G1 => some (!k, G1)
def xtyes : M Bool := fun G => some (true, G)
def xvand (a b : M R) : M R := fun G => bd (a G) fun x G1 => match x.d with
  | .bl k => if k then b G1 else some (.im (.bl false), G1)
  | _ => none
def xvor (a b : M R) : M R := fun G => bd (a G) fun x G1 => match x.d with
  | .bl k => if k then some (.im (.bl true), G1) else b G1
  | _ => none
def xvnot (a : M R) : M R := fun G => bd (a G) fun x G1 => match x.d with
  | .bl k => some (.im (.bl (!k)), G1)
  | _ => none
def xchain (o o' : D → D → Option R) (a b c : M R) : M R := fun G => bd (a G) fun x G1 => bd (b G1) fun y G2 => match o x.d y.d with
  | some (.im (.bl k)) => if k then bd (c G2) fun z G3 => (match o' y.d z.d with | some r => some (r, G3) | none => none) else some (.im (.bl false), G2)
  | _ => none
/-- a slice's part -/
abbrev MO := M (Option Int)
def xnop : MO := fun G => some (none, G)
def xpart (a : M R) : MO := fun G => bd (a G) fun x G1 => match x.d with
  | .int i => some (some i, G1)
  | _ => none
def xsl (o : D → Option Int → Option Int → Option R) (a : M R) (l h : MO) : M R := fun G => bd (a G) fun x G1 => bd (l G1) fun i G2 => bd (h G2) fun j G3 => match o x.d i j with
  | some r => some (r, G3)
  | none => none
def xcall (m : List D → Option R) (a : M (List D)) : M R := fun G => bd (a G) fun xs G1 => match m xs with
  | some r => some (r, G1)
  | none => none
def Ent.with (e : Ent) (m : Mob) : Ent := match e with
  | .ow _ => .ow m
  | .bx _ => .bx m
  | e => e
/-- a call that may change the list of the name at i -/
def isMu (G : Gam) (i : Nat) : Bool := match G[i]? with
  | some e => e.mu.isSome
  | none => false
def isLst (G : Gam) (i : Nat) : Bool := match G[i]? with
  | some e => match e.mu with
    | some (.l _) => true
    | _ => false
  | none => false
def callB (m : Mob → List D → Option (R × Mob)) (i : Nat) (xs : List D) (G1 : Gam) : Option (R × Gam) := match G1[i]? with
  | some e => match e.mu with
    | some bs => match m bs xs with
      | some (r, bs') => some (r, G1.set i (e.with bs'))
      | none => none
    | none => none
  | none => none
def xcallB (m : Mob → List D → Option (R × Mob)) (i : Nat) (a : M (List D)) : M R := fun G => if isMu G i then bd (a G) fun xs G1 => callB m i xs G1 else none
/-- an item of the name's list at i, a number -/
def ixv (i : Nat) (y : D) (G1 : Gam) : Option (R × Gam) := match y, G1[i]? with
  | .int k, some e => match e.mu with
    | some (.l ds) => match atI ds k with
      | some d => some (.im d, G1)
      | none => none
    | _ => none
  | _, _ => none
def xixv (i : Nat) (b : M R) : M R := fun G => if isMu G i then bd (b G) fun y G1 => ixv i y.d G1 else none
/-- one way for a name that owns a list, another for a name that holds a value -/
def xby (i : Nat) (a b : M R) : M R := fun G => if isMu G i then a G else b G
def xnext : MS := fun G => some (.nx, G)
def xseq (s t : MS) : MS := fun G => match s G with
  | some (.nx, G1) => t G1
  | o => o
def xasg (a : M R) (tg : D → Gam → Option Gam) : MS := fun G => bd (a G) fun x G1 => match tg x.d G1 with
  | some G2 => some (.nx, G2)
  | none => none
def xset (i : Nat) (a : M R) : MS := fun G => bd (a G) fun x G1 => some (.nx, G1.set i x.ent)
def xret (a : M R) : MS := fun G => bd (a G) fun x G1 => some (.rt x, G1)
def xdrop (a : M R) : MS := fun G => bd (a G) fun _ G1 => some (.nx, G1)
def xifs (t : M Bool) (a b : MS) : MS := fun G => bd (t G) fun k G1 => if k then a G1 else b G1
def xnever : MS := fun _ => none
/-- the name's list grows -/
def app (i : Nat) (x : D) (G1 : Gam) : Option (Fl × Gam) := match G1[i]? with
  | some e => match e.mu with
    | some (.l ds) => if few ds.length then some (.nx, G1.set i (e.with (.l (ds ++ [x])))) else none
    | _ => none
  | none => none
def xapp (i : Nat) (a : M R) : MS := fun G => if isLst G i then bd (a G) fun x G1 => app i x.d G1 else none
/-- an item of the name's list is stored -/
def put (i : Nat) (x k : D) (G2 : Gam) : Option (Fl × Gam) := match k, G2[i]? with
  | .int k, some e => match e.mu with
    | some (.l ds) => match ixN ds.length k with
      | some j => some (.nx, G2.set i (e.with (.l (ds.set j x))))
      | none => none
    | _ => none
  | _, _ => none
def xput (i : Nat) (a b : M R) : MS := fun G => bd (a G) fun x G1 => if isMu G1 i then bd (b G1) fun k G2 => put i x.d k.d G2 else none
def xwhileN (c : M Bool) (b : MS) : Nat → MS
  | 0, _ => none
  | n + 1, G => bd (c G) fun k G1 => if k then (match b G1 with
      | some (.nx, G2) => xwhileN c b n G2
      | some (.ct, G2) => xwhileN c b n G2
      | some (.bk, G2) => some (.nx, G2)
      | some (.rt r, G2) => some (.rt r, G2)
      | none => none) else some (.nx, G1)
def xwhile (fuel : Gam → Nat) (c : M Bool) (b : MS) : MS := fun G => xwhileN c b (fuel G) G
def xforL (tg : D → Gam → Option Gam) (b : MS) : List D → MS
  | [], G => some (.nx, G)
  | d :: ds, G => match tg d G with
    | none => none
    | some G1 => match b G1 with
      | some (.nx, G2) => xforL tg b ds G2
      | some (.ct, G2) => xforL tg b ds G2
      | some (.bk, G2) => some (.nx, G2)
      | some (.rt r, G2) => some (.rt r, G2)
      | none => none
def xfor (it : M (List D)) (tg : D → Gam → Option Gam) (b : MS) : MS := fun G => bd (it G) fun ds G1 => xforL tg b ds G1
def tgn (i : Nat) : D → Gam → Option Gam := fun d G => some (G.set i (.im d))
def tgs : List (D → Gam → Option Gam) → List D → Gam → Option Gam
  | [], [], G => some G
  | t :: ts, d :: ds, G => match t d G with
    | some G1 => tgs ts ds G1
    | none => none
  | _, _, _ => none
def tgt (ts : List (D → Gam → Option Gam)) : D → Gam → Option Gam := fun d G => match d with
  | .tup ds => tgs ts ds G
  | _ => none
def wipeG (G : Gam) : List Nat → Gam
  | [] => G
  | v :: vs => (wipeG G vs).set v .un
def unw (G1 G2 : Gam) : List Nat → Gam
  | [] => G2
  | v :: vs => (unw G1 G2 vs).set v (G1.getD v .un)
def noMu (G : Gam) (vs : List Nat) : Bool := vs.all fun v => match G[v]? with
  | some e => e.mu.isNone
  | none => true
def xlcL (tg : D → Gam → Option Gam) (t : M Bool) (e : M R) (vs : List Nat) : List D → M (List D)
  | [], G => some ([], G)
  | d :: ds, G => match tg d G with
    | none => none
    | some G1 => bd (t G1) fun k G2 => if k then bd (e G2) fun x G3 => bd (xlcL tg t e vs ds (wipeG G3 vs)) fun out G4 => some (x.d :: out, G4)
        else xlcL tg t e vs ds (wipeG G2 vs)
def xlc (it : M (List D)) (tg : D → Gam → Option Gam) (t : M Bool) (e : M R) (vs : List Nat) : M R := fun G => bd (it G) fun ds G1 =>
  if noMu G1 vs then bd (xlcL tg t e vs ds (wipeG G1 vs)) fun out G2 => if few out.length then some (.ol out, unw G1 G2 vs) else none else none
def rng (lo : Int) (n : Nat) : List D := (List.range n).map fun (i : Nat) => .int (lo + (i : Int))
def okR (i : Int) : Bool := decide (-(2 ^ 62) ≤ i) && decide (i < 2 ^ 62)
def xrange1 (a : M (List D)) : M (List D) := fun G => bd (a G) fun xs G1 => match xs with
  | [.int n] => if okR n then some (rng 0 n.toNat, G1) else none
  | _ => none
def asL : D → Option (List D)
  | .lst ds => some ds
  | .frz ds => some ds
  | _ => none
def enumD (k : Nat) : List D → List D
  | [] => []
  | d :: ds => .tup [.int (k : Int), d] :: enumD (k + 1) ds
section
variable {K : PySem.W.Frag}
theorem few_ok {n : Nat} (h : few n = true) : n ≤ sizeLine := Nat.le_trans (of_decide_eq_true h) (by decide)
theorem few_lt {n : Nat} (h : few n = true) : n < sizeLine := Nat.lt_of_le_of_lt (of_decide_eq_true h) (by decide)
/-- an expression, its value shared -/
theorem GOk.im {t : TE} {f : M R} (h : GOk K t f) {Fz : Hp} {ba : Nat → Addr} {G : Gam} {σ : L2.St} {H Hs : Hp} {r : R} {G' : Gam} (q : Rel K Fz ba G σ H Hs) (e : f G = some (r, G')) {Q : VK}
    (k : ∀ v H' Hs', Rel K Fz ba G' σ H' Hs' → Same Hs Hs' → DR K Hs' v r.d → Q v H') : t σ H Q :=
  h Fz ba G σ H Hs r G' q e Q fun v H' Hs' q' s x => by
    obtain ⟨Hs2, q2, s2, d⟩ := q'.fzr x
    exact k v H' Hs2 q2 (s.trans s2) d
theorem gk_c {v : V} {d : D} (h : ∀ H, DR K H v d) : GOk K (tC v) (xc d) := fun Fz ba G σ H Hs r G' q e Q k => by
  cases e
  exact k v H Hs q (Same.refl _) (h Hs)
theorem gk_int {i : Int} : GOk K (tC (.int i)) (xc (.int i)) := gk_c fun _ => .int i
theorem gk_bl {b : Bool} : GOk K (tC (.bl b)) (xc (.bl b)) := gk_c fun _ => .bl b
theorem gk_non : GOk K (tC .non) (xc .non) := gk_c fun _ => .non
theorem gk_str {x : PySem.Str} : GOk K (tC (.str x)) (xc (.str x)) := gk_c fun _ => .str x
theorem Rel.notmu {Fz : Hp} {ba : Nat → Addr} {G : Gam} {σ : L2.St} {H Hs : Hp} (q : Rel K Fz ba G σ H Hs) {i : Nat} {e e2 : Ent} {l : Addr} (h1 : G[i]? = some e) (m1 : e.mu ≠ none) (s1 : σ[i]? = some (some (.ref l))) :
    ∀ (j : Nat) (e' : Ent), (G.set i e2)[j]? = some e' → e2.mu = none → e'.mu ≠ none → σ[j]? ≠ some (some (.ref l)) := fun j e' h2 m0 m2 s2 => by
  rcases get_set h2 with ⟨_, e1, _⟩ | ⟨z, h3⟩
  · subst e1; exact m2 m0
  · exact z (q.dj i j e e' l h1 h3 m1 m2 s1 s2)
/-- the entry at i is another, that owns nothing -/
theorem Rel.re {Fz : Hp} {ba : Nat → Addr} {G : Gam} {σ : L2.St} {H Hs : Hp} (q : Rel K Fz ba G σ H Hs) {i : Nat} {e : Ent} (m : e.mu = none) (h : ∀ d, e = .im d → ∃ v, σ[i]? = some (some v) ∧ DR K Hs v d) : Rel K Fz ba (G.set i e) σ H Hs where
  sub := q.sub
  fz := q.fz
  len := by rw [List.length_set]; exact q.len
  im := fun j d h1 => by
    rcases get_set h1 with ⟨rfl, e1, _⟩ | ⟨z, h2⟩
    · exact h d e1.symm
    · exact q.im j d h2
  mu := fun j en ds h1 h0 => by
    rcases get_set h1 with ⟨rfl, e1, _⟩ | ⟨z, h2⟩
    · subst e1; rw [m] at h0; cases h0
    · exact q.mu j en ds h2 h0
  dj := fun j k e1 e2 l h1 h2 m1 m2 s1 s2 => by
    rcases get_set h1 with ⟨_, z1, _⟩ | ⟨z1, h1⟩
    · subst z1; exact absurd m m1
    · rcases get_set h2 with ⟨_, z2, _⟩ | ⟨z2, h2⟩
      · subst z2; exact absurd m m2
      · exact q.dj j k e1 e2 l h1 h2 m1 m2 s1 s2
  bx := fun j ds h1 => by
    rcases get_set h1 with ⟨_, e1, _⟩ | ⟨z, h2⟩
    · subst e1; cases m
    · exact q.bx j ds h2
theorem gk_var {i : Nat} : GOk K (tVar i) (xv i) := fun Fz ba G σ H Hs r G' q e Q k => by
  unfold xv at e
  cases h : G[i]? with
  | none => rw [h] at e; cases e
  | some en =>
    rw [h] at e
    cases en with
    | un => cases e
    | bx ds => cases e
    | im d =>
      cases e
      obtain ⟨v, h1, h2⟩ := q.im i d h
      exact ⟨v, h1, k v H Hs q (Same.refl _) h2⟩
    | ow ds =>
      cases e
      obtain ⟨l, vs, h1, h2, h3, h4, h5⟩ := q.mu i _ ds h rfl
      have q1 : Rel K Fz ba (G.set i .un) σ H Hs := q.re rfl fun d z => nomatch z
      obtain ⟨q2, s2⟩ := q1.froze h2 h3 h4 fun j e' g m => q.notmu h (by simp [Ent.mu]) h1 j e' g rfl m
      have q3 : Rel K Fz ba ((G.set i .un).set i (.im ds.d)) σ H (upd Hs l vs) := q2.re rfl fun d z => by
        cases z
        exact ⟨_, h1, (h5.mono s2).dr upd_same⟩
      rw [List.set_set] at q3
      exact ⟨_, h1, k _ H _ q3 s2 ((h5.mono s2).dr upd_same)⟩
theorem gk_mv {i : Nat} : GOk K (tVar i) (xmv i) := fun Fz ba G σ H Hs r G' q e Q k => by
  unfold xmv at e
  cases h : G[i]? with
  | none => rw [h] at e; cases e
  | some en =>
    rw [h] at e
    cases en with
    | un => cases e
    | bx ds => cases e
    | im d =>
      cases e
      obtain ⟨v, h1, h2⟩ := q.im i d h
      exact ⟨v, h1, k v H Hs q (Same.refl _) h2⟩
    | ow ds =>
      cases e
      obtain ⟨l, vs, h1, h2, h3, h4, h5⟩ := q.mu i _ ds h rfl
      have q1 : Rel K Fz ba (G.set i .un) σ H Hs := q.re rfl fun d z => nomatch z
      exact ⟨_, h1, k _ H Hs q1 (Same.refl _) ⟨l, vs, rfl, h2, h3, h4, h5, fun j e' g m => q.notmu h (by simp [Ent.mu]) h1 j e' g rfl m⟩⟩
def OpD (K : PySem.W.Frag) (r : R2) (o : D → D → Option R) : Prop := ∀ H Hs x y dx dy res, Same Hs H → DR K Hs x dx → DR K Hs y dy → o dx dy = some res →
  ∀ Q : VK, (∀ v H' Hs', Ext H Hs H' Hs' → ResF K H H' Hs' v res → Q v H') → r x y H Q
def UnD (K : PySem.W.Frag) (r : V → Hp → VK → Prop) (o : D → Option R) : Prop := ∀ H Hs x dx res, Same Hs H → DR K Hs x dx → o dx = some res →
  ∀ Q : VK, (∀ v H' Hs', Ext H Hs H' Hs' → ResF K H H' Hs' v res → Q v H') → r x H Q
def CbD (K : PySem.W.Frag) (r : List V → Hp → VK → Prop) (o : List D → Option R) : Prop := ∀ H Hs xs ds res, Same Hs H → DRs K Hs xs ds → o ds = some res →
  ∀ Q : VK, (∀ v H' Hs', Ext H Hs H' Hs' → ResF K H H' Hs' v res → Q v H') → r xs H Q
def SlD (K : PySem.W.Frag) (r : V → Option Int → Option Int → Hp → VK → Prop) (o : D → Option Int → Option Int → Option R) : Prop := ∀ H Hs x dx l h res, Same Hs H → DR K Hs x dx → o dx l h = some res →
  ∀ Q : VK, (∀ v H' Hs', Ext H Hs H' Hs' → ResF K H H' Hs' v res → Q v H') → r x l h H Q
theorem gk_op {r : R2} {o : D → D → Option R} {ta tb : TE} {a b : M R} (ho : OpD K r o) (ha : GOk K ta a) (hb : GOk K tb b) : GOk K (tOp r ta tb) (xop o a b) := fun Fz ba G σ H Hs res G' q e Q k => by
  obtain ⟨x, G1, e1, e⟩ := bd_inv e
  obtain ⟨y, G2, e2, e⟩ := bd_inv e
  cases h : o x.d y.d with
  | none => rw [h] at e; cases e
  | some r' =>
    rw [h] at e
    cases e
    refine ha.im q e1 fun v1 H1 Hs1 q1 s1 d1 => ?_
    refine hb.im q1 e2 fun v2 H2 Hs2 q2 s2 d2 => ?_
    exact ho H2 Hs2 v1 v2 x.d y.d _ q2.sub (d1.mono s2) d2 h Q fun v H3 Hs3 ex rf => k v H3 Hs3 (q2.ext ex) ((s1.trans s2).trans ex.b) (rf.res q2)
theorem gk_un {r : V → Hp → VK → Prop} {o : D → Option R} {ta : TE} {a : M R} (ho : UnD K r o) (ha : GOk K ta a) : GOk K (tUn r ta) (xun o a) := fun Fz ba G σ H Hs res G' q e Q k => by
  obtain ⟨x, G1, e1, e⟩ := bd_inv e
  cases h : o x.d with
  | none => rw [h] at e; cases e
  | some r' =>
    rw [h] at e
    cases e
    refine ha.im q e1 fun v1 H1 Hs1 q1 s1 d1 => ?_
    exact ho H1 Hs1 v1 x.d _ q1.sub d1 h Q fun v H3 Hs3 ex rf => k v H3 Hs3 (q1.ext ex) (s1.trans ex.b) (rf.res q1)
theorem ak_nil : AOk K tNil xnil := fun Fz ba G σ H Hs ds G' q e Q k => by
  cases e
  exact k [] H Hs q (Same.refl _) .nil
theorem ak_cons {ta : TE} {tr : TA} {a : M R} {r : M (List D)} (ha : GOk K ta a) (hr : AOk K tr r) : AOk K (tCons ta tr) (xcons a r) := fun Fz ba G σ H Hs ds G' q e Q k => by
  obtain ⟨x, G1, e1, e⟩ := bd_inv e
  obtain ⟨xs, G2, e2, e⟩ := bd_inv e
  cases e
  refine ha.im q e1 fun v1 H1 Hs1 q1 s1 d1 => ?_
  exact hr Fz ba G1 σ H1 Hs1 xs _ q1 e2 _ fun vs H2 Hs2 q2 s2 d2 => k _ H2 Hs2 q2 (s1.trans s2) (.cons (d1.mono s2) d2)
theorem gk_cb {r : List V → Hp → VK → Prop} {o : List D → Option R} {ta : TA} {a : M (List D)} (ho : CbD K r o) (ha : AOk K ta a) : GOk K (tCB r ta) (xcb o a) := fun Fz ba G σ H Hs res G' q e Q k => by
  obtain ⟨xs, G1, e1, e⟩ := bd_inv e
  cases h : o xs with
  | none => rw [h] at e; cases e
  | some r' =>
    rw [h] at e
    cases e
    refine ha Fz ba G σ H Hs xs _ q e1 _ fun vs H1 Hs1 q1 s1 d1 => ?_
    exact ho H1 Hs1 vs xs _ q1.sub d1 h Q fun v H3 Hs3 ex rf => k v H3 Hs3 (q1.ext ex) (s1.trans ex.b) (rf.res q1)
theorem gk_tup {ta : TA} {a : M (List D)} (ha : AOk K ta a) : GOk K (tTup ta) (xtup a) := fun Fz ba G σ H Hs res G' q e Q k => by
  obtain ⟨xs, G1, e1, e⟩ := bd_inv e
  split at e
  · rename_i hf
    cases e
    refine ha Fz ba G σ H Hs xs _ q e1 _ fun vs H1 Hs1 q1 s1 d1 => ⟨by rw [d1.len]; exact few_ok hf, fun p hp => ?_⟩
    have ex : Ext H1 Hs1 (upd H1 p (.tup vs)) (upd Hs1 p (.tup vs)) := Ext.new q1.sub hp
    exact k _ _ _ (q1.ext ex) (s1.trans ex.b) (.tup (SqT.of upd_same) (d1.mono ex.b))
  · cases e
theorem gk_lst {ta : TA} {a : M (List D)} (ha : AOk K ta a) : GOk K (tLst ta) (xlst a) := fun Fz ba G σ H Hs res G' q e Q k => by
  obtain ⟨xs, G1, e1, e⟩ := bd_inv e
  split at e
  · rename_i hf
    cases e
    refine ha Fz ba G σ H Hs xs _ q e1 _ fun vs H1 Hs1 q1 s1 d1 => ⟨by rw [d1.len]; exact few_ok hf, fun p hp => ?_⟩
    have ex : Ext H1 Hs1 (upd H1 p (.lst vs)) Hs1 := Ext.hid q1.sub hp
    have rf : ResF K H1 (upd H1 p (.lst vs)) Hs1 (.ref p) (.ol xs) := ⟨p, _, rfl, hp, upd_same, none_sub q1.sub hp, vs, rfl, d1⟩
    exact k _ _ _ (q1.ext ex) (s1.trans ex.b) (rf.res q1)
  · cases e
theorem gk_if {t : TT} {ta tb : TE} {c : M Bool} {a b : M R} (hc : TOk K t c) (ha : GOk K ta a) (hb : GOk K tb b) : GOk K (tIf t ta tb) (xif c a b) := fun Fz ba G σ H Hs res G' q e Q k => by
  obtain ⟨x, G1, e1, e⟩ := bd_inv e
  refine hc Fz ba G σ H Hs x G1 q e1 _ fun H1 Hs1 q1 s1 => ?_
  cases x with
  | true => exact ha Fz ba G1 σ H1 Hs1 res G' q1 e Q fun v H2 Hs2 q2 s2 d => k v H2 Hs2 q2 (s1.trans s2) d
  | false => exact hb Fz ba G1 σ H1 Hs1 res G' q1 e Q fun v H2 Hs2 q2 s2 d => k v H2 Hs2 q2 (s1.trans s2) d
theorem dr_bl {H : Hp} {v : V} {b : Bool} (h : DR K H v (.bl b)) : v = .bl b := by cases h; rfl
theorem dr_int {H : Hp} {v : V} {i : Int} (h : DR K H v (.int i)) : v = .int i := by cases h; rfl
theorem tk_test {ta : TE} {a : M R} (ha : GOk K ta a) : TOk K (tTest ta) (xtest a) := fun Fz ba G σ H Hs b G' q e Q k => by
  obtain ⟨x, G1, e1, e⟩ := bd_inv e
  refine ha.im q e1 fun v H1 Hs1 q1 s1 d => ?_
  cases h : x.d with
  | bl c =>
    rw [h] at e d
    cases e
    exact ⟨_, dr_bl d, k H1 Hs1 q1 s1⟩
  | _ => rw [h] at e; cases e
theorem truth_ok {H : Hp} {v : V} {d : D} {b : Bool} (h : DR K H v d) (e : truth d = some b) : TruV K v H b := by
  have emp : ∀ {vs : List V} {ds : List D}, DRs K H vs ds → (!ds.isEmpty) = !vs.isEmpty := fun h => by cases h <;> rfl
  cases h with
  | non => cases e; rfl
  | bl b => cases e; rfl
  | int i => cases e; rfl
  | str x =>
    by_cases hf : few x.length = true
    · rw [show truth (.str x) = some ((x.length : Int) != 0) from if_pos hf] at e
      cases e
      exact ⟨few_ok hf, rfl⟩
    · rw [show truth (.str x) = none from if_neg hf] at e
      cases e
  | lst h hs => cases e; exact .inl ⟨_, SqL.of h, emp hs⟩
  | frz h hs => cases e; exact .inl ⟨_, h, emp hs⟩
  | tup h hs => cases e; exact .inr (.inl ⟨_, h, emp hs⟩)
  | _ => cases e
theorem tru_mono {x : V} {H H' : Hp} {k : Bool} (s : Same H H') (h : TruV K x H k) : TruV K x H' k := by
  cases x with
  | ref p =>
    rcases h with ⟨xs, h1, h2⟩ | ⟨xs, h1, h2⟩ | ⟨kvs, h1, h2⟩
    · exact .inl ⟨xs, same_lst s h1, h2⟩
    · exact .inr (.inl ⟨xs, same_tup s h1, h2⟩)
    · exact .inr (.inr ⟨kvs, s _ _ h1, h2⟩)
  | _ => exact h
theorem tk_tru {ta : TE} {a : M R} (ha : GOk K ta a) : TOk K (fun σ H Q => ta σ H fun x H' => ∃ k, TruV K x H' k ∧ Q k H') (xtru a) := fun Fz ba G σ H Hs b G' q e Q k => by
  obtain ⟨x, G1, e1, e⟩ := bd_inv e
  refine ha.im q e1 fun v H1 Hs1 q1 s1 d => ?_
  cases h : truth x.d with
  | none => rw [h] at e; cases e
  | some c =>
    rw [h] at e
    cases e
    exact ⟨_, tru_mono q1.sub (truth_ok d h), k H1 Hs1 q1 s1⟩
theorem tk_and {t u : TT} {a b : M Bool} (ha : TOk K t a) (hb : TOk K u b) : TOk K (tAnd t u) (xtand a b) := fun Fz ba G σ H Hs r G' q e Q k => by
  obtain ⟨x, G1, e1, e⟩ := bd_inv e
  refine ha Fz ba G σ H Hs x G1 q e1 _ fun H1 Hs1 q1 s1 => ?_
  cases x with
  | true => exact hb Fz ba G1 σ H1 Hs1 r G' q1 e Q fun H2 Hs2 q2 s2 => k H2 Hs2 q2 (s1.trans s2)
  | false => cases e; exact k H1 Hs1 q1 s1
theorem tk_or {t u : TT} {a b : M Bool} (ha : TOk K t a) (hb : TOk K u b) : TOk K (tOr t u) (xtor a b) := fun Fz ba G σ H Hs r G' q e Q k => by
  obtain ⟨x, G1, e1, e⟩ := bd_inv e
  refine ha Fz ba G σ H Hs x G1 q e1 _ fun H1 Hs1 q1 s1 => ?_
  cases x with
  | true => cases e; exact k H1 Hs1 q1 s1
  | false => exact hb Fz ba G1 σ H1 Hs1 r G' q1 e Q fun H2 Hs2 q2 s2 => k H2 Hs2 q2 (s1.trans s2)
theorem tk_not {t : TT} {a : M Bool} (ha : TOk K t a) : TOk K (tNot t) (xtnot a) := fun Fz ba G σ H Hs r G' q e Q k => by
  obtain ⟨x, G1, e1, e⟩ := bd_inv e
  cases e
  exact ha Fz ba G σ H Hs x _ q e1 _ fun H1 Hs1 q1 s1 => k H1 Hs1 q1 s1
theorem tk_yes : TOk K tYes xtyes := fun Fz ba G σ H Hs r G' q e Q k => by
  cases e
  exact k H Hs q (Same.refl _)
theorem gk_vand {ta tb : TE} {a b : M R} (ha : GOk K ta a) (hb : GOk K tb b) : GOk K (tAndV ta tb) (xvand a b) := fun Fz ba G σ H Hs res G' q e Q k => by
  obtain ⟨x, G1, e1, e⟩ := bd_inv e
  refine ha.im q e1 fun v H1 Hs1 q1 s1 d => ?_
  cases h : x.d with
  | bl c =>
    rw [h] at e d
    refine ⟨c, dr_bl d, ?_⟩
    cases c with
    | true => exact hb Fz ba G1 σ H1 Hs1 res G' q1 e Q fun v H2 Hs2 q2 s2 d => k v H2 Hs2 q2 (s1.trans s2) d
    | false => cases e; exact k _ H1 Hs1 q1 s1 (.bl false)
  | _ => rw [h] at e; cases e
theorem gk_vor {ta tb : TE} {a b : M R} (ha : GOk K ta a) (hb : GOk K tb b) : GOk K (tOrV ta tb) (xvor a b) := fun Fz ba G σ H Hs res G' q e Q k => by
  obtain ⟨x, G1, e1, e⟩ := bd_inv e
  refine ha.im q e1 fun v H1 Hs1 q1 s1 d => ?_
  cases h : x.d with
  | bl c =>
    rw [h] at e d
    refine ⟨c, dr_bl d, ?_⟩
    cases c with
    | false => exact hb Fz ba G1 σ H1 Hs1 res G' q1 e Q fun v H2 Hs2 q2 s2 d => k v H2 Hs2 q2 (s1.trans s2) d
    | true => cases e; exact k _ H1 Hs1 q1 s1 (.bl true)
  | _ => rw [h] at e; cases e
theorem gk_vnot {ta : TE} {a : M R} (ha : GOk K ta a) : GOk K (tNotV ta) (xvnot a) := fun Fz ba G σ H Hs res G' q e Q k => by
  obtain ⟨x, G1, e1, e⟩ := bd_inv e
  refine ha.im q e1 fun v H1 Hs1 q1 s1 d => ?_
  cases h : x.d with
  | bl c =>
    rw [h] at e d
    cases e
    exact ⟨c, dr_bl d, k _ H1 Hs1 q1 s1 (.bl _)⟩
  | _ => rw [h] at e; cases e
theorem gk_chain {r r' : R2} {o o' : D → D → Option R} {ta tb tc : TE} {a b c : M R} (ho : OpD K r o) (ho' : OpD K r' o') (ha : GOk K ta a) (hb : GOk K tb b) (hc : GOk K tc c) : GOk K (tChain r r' ta tb tc) (xchain o o' a b c) :=
  fun Fz ba G σ H Hs res G' q e Q k => by
  obtain ⟨x, G1, e1, e⟩ := bd_inv e
  obtain ⟨y, G2, e2, e⟩ := bd_inv e
  refine ha.im q e1 fun v1 H1 Hs1 q1 s1 d1 => ?_
  refine hb.im q1 e2 fun v2 H2 Hs2 q2 s2 d2 => ?_
  cases h : o x.d y.d with
  | none => rw [h] at e; cases e
  | some r1 =>
    rw [h] at e
    cases r1 with
    | ow ds => cases e
    | im dd =>
      cases dd with
      | bl kk =>
        refine ho H2 Hs2 v1 v2 x.d y.d _ q2.sub (d1.mono s2) d2 h _ fun v H3 Hs3 ex rf => ⟨kk, dr_bl rf, ?_⟩
        have q3 := q2.ext ex
        cases kk with
        | false => cases e; exact k _ H3 Hs3 q3 ((s1.trans s2).trans ex.b) (.bl false)
        | true =>
          obtain ⟨z, G3, e3, e⟩ := bd_inv e
          cases h' : o' y.d z.d with
          | none => rw [h'] at e; cases e
          | some r2 =>
            rw [h'] at e
            cases e
            refine hc.im q3 e3 fun v3 H4 Hs4 q4 s4 d4 => ?_
            exact ho' H4 Hs4 v2 v3 y.d z.d _ q4.sub (d2.mono (ex.b.trans s4)) d4 h' Q fun v H5 Hs5 ex5 rf5 => k v H5 Hs5 (q4.ext ex5) ((((s1.trans s2).trans ex.b).trans s4).trans ex5.b) (rf5.res q4)
      | _ => cases e
def POk (K : PySem.W.Frag) (t : TO) (f : MO) : Prop := ∀ Fz ba G σ H Hs o G', Rel K Fz ba G σ H Hs → f G = some (o, G') →
  ∀ Q : Option Int → Hp → Prop, (∀ H' Hs', Rel K Fz ba G' σ H' Hs' → Same Hs Hs' → Q o H') → t σ H Q
theorem pk_none : POk K tNoPart xnop := fun Fz ba G σ H Hs r G' q e Q k => by
  cases e
  exact k H Hs q (Same.refl _)
theorem pk_some {ta : TE} {a : M R} (ha : GOk K ta a) : POk K (tPart ta) (xpart a) := fun Fz ba G σ H Hs r G' q e Q k => by
  obtain ⟨x, G1, e1, e⟩ := bd_inv e
  refine ha.im q e1 fun v H1 Hs1 q1 s1 d => ?_
  cases h : x.d with
  | int i =>
    rw [h] at e d
    cases e
    exact ⟨i, dr_int d, k H1 Hs1 q1 s1⟩
  | _ => rw [h] at e; cases e
theorem gk_sl {r : V → Option Int → Option Int → Hp → VK → Prop} {o : D → Option Int → Option Int → Option R} {ta : TE} {tl th : TO} {a : M R} {l h : MO} (ho : SlD K r o) (ha : GOk K ta a) (hl : POk K tl l) (hh : POk K th h) : GOk K (tSl r ta tl th) (xsl o a l h) :=
  fun Fz ba G σ H Hs res G' q e Q k => by
  obtain ⟨x, G1, e1, e⟩ := bd_inv e
  obtain ⟨i, G2, e2, e⟩ := bd_inv e
  obtain ⟨j, G3, e3, e⟩ := bd_inv e
  cases h' : o x.d i j with
  | none => rw [h'] at e; cases e
  | some r1 =>
    rw [h'] at e
    cases e
    refine ha.im q e1 fun v1 H1 Hs1 q1 s1 d1 => ?_
    refine hl Fz ba G1 σ H1 Hs1 i G2 q1 e2 _ fun H2 Hs2 q2 s2 => ?_
    refine hh Fz ba G2 σ H2 Hs2 j _ q2 e3 _ fun H3 Hs3 q3 s3 => ?_
    exact ho H3 Hs3 v1 x.d i j _ q3.sub (d1.mono (s2.trans s3)) h' Q fun v H5 Hs5 ex5 rf5 => k v H5 Hs5 (q3.ext ex5) (((s1.trans s2).trans s3).trans ex5.b) (rf5.res q3)
end
end Bk
namespace Bk
open PySem L2
section
variable {K : PySem.W.Frag}
/-- a def that computes m -/
def spF (K : PySem.W.Frag) (m : List D → Option R) : Sp := fun vs H Q _ => ∃ Hs ds r, Same Hs H ∧ DRs K Hs vs ds ∧ m ds = some r ∧ ∀ v H' Hs', Ext H Hs H' Hs' → ResF K H H' Hs' v r → Q v H'
structure ExtB (l : Addr) (H Hs H' Hs' : Hp) : Prop where
  a : ∀ x o, x ≠ l → H x = some o → H' x = some o
  b : Same Hs Hs'
  c : Same Hs' H'
  n : ∀ x o, H x = some o → Hs x = none → Hs' x = none
/-- a def whose first argument is a list that it may change -/
def spB (K : PySem.W.Frag) (m : Mob → List D → Option (R × Mob)) : Sp := fun vs H Q _ => ∃ Hs l vs' bo bds ds r bds', vs = V.ref l :: vs' ∧ Same Hs H ∧ H l = some bo ∧ Hs l = none ∧ MobO K Hs bds bo ∧ DRs K Hs vs' ds ∧
  m bds ds = some (r, bds') ∧ ∀ v H' Hs' bo', ExtB l H Hs H' Hs' → H' l = some bo' → Hs' l = none → MobO K Hs' bds' bo' → ResF K H H' Hs' v r → Q v H'
theorem gk_call {m : List D → Option R} {E : XK} {ta : TA} {a : M (List D)} (ha : AOk K ta a) : GOk K (tCall (spF K m) [] E ta) (xcall m a) := fun Fz ba G σ H Hs res G' q e Q k => by
  obtain ⟨xs, G1, e1, e⟩ := bd_inv e
  cases h : m xs with
  | none => rw [h] at e; cases e
  | some r' =>
    rw [h] at e
    cases e
    refine ha Fz ba G σ H Hs xs _ q e1 _ fun vs H1 Hs1 q1 s1 d1 => ?_
    exact ⟨Hs1, xs, _, q1.sub, by rw [List.append_nil]; exact d1, h, fun v H3 Hs3 ex rf => k v H3 Hs3 (q1.ext ex) (s1.trans ex.b) (rf.res q1)⟩
theorem with_mu {e : Ent} {ds es : Mob} (h : e.mu = some ds) : (e.with es).mu = some es := by
  cases e with
  | un => cases h
  | im d => cases h
  | ow _ => rfl
  | bx _ => rfl
/-- the list of the name at i has changed -/
theorem Rel.mut {Fz : Hp} {ba : Nat → Addr} {G : Gam} {σ : L2.St} {H Hs H' Hs' : Hp} (q : Rel K Fz ba G σ H Hs) {i : Nat} {e : Ent} {ds es : Mob} {l : Addr} {ws : HO} (h : G[i]? = some e) (m : e.mu = some ds) (s : σ[i]? = some (some (.ref l)))
    (x : ExtB l H Hs H' Hs') (hl : H' l = some ws) (hn : Hs' l = none) (hd : MobO K Hs' es ws) : Rel K Fz ba (G.set i (e.with es)) σ H' Hs' := by
  obtain ⟨l0, vs0, z1, z2, z3, z4, _⟩ := q.mu i e ds h m
  rw [s] at z1
  cases z1
  have me : e.mu ≠ none := by rw [m]; simp
  refine ⟨x.c, fun a o f => ?_, by rw [List.length_set]; exact q.len, fun j d f => ?_, fun j en ds' f f0 => ?_, fun j k e1 e2 l' f1 f2 m1 m2 s1 s2 => ?_, fun j ds' f => ?_⟩
  · obtain ⟨f1, f2⟩ := q.fz a o f
    have ne : a ≠ l := ne_of_none f z4
    exact ⟨x.a a o ne f1, x.n a o f1 f2⟩
  · rcases get_set f with ⟨_, e1, _⟩ | ⟨_, f⟩
    · exfalso
      have z := with_mu (es := es) m
      rw [← e1] at z
      cases z
    · obtain ⟨v, g1, g2⟩ := q.im j d f
      exact ⟨v, g1, g2.mono x.b⟩
  · rcases get_set f with ⟨rfl, e1, _⟩ | ⟨z, f⟩
    · subst e1
      rw [with_mu m] at f0
      cases f0
      exact ⟨l, ws, s, hl, hn, z4, hd⟩
    · obtain ⟨l', vs, g1, g2, g3, g4, g5⟩ := q.mu j en ds' f f0
      have ne : l' ≠ l := fun y => by
        subst y
        exact z (q.dj i j e en l' h f me (by rw [f0]; simp) s g1)
      exact ⟨l', vs, g1, x.a l' _ ne g2, x.n l' _ g2 g3, g4, g5.mono x.b⟩
  · have old : ∀ {j : Nat} {en : Ent}, (G.set i (e.with es))[j]? = some en → en.mu ≠ none → ∃ en', G[j]? = some en' ∧ en'.mu ≠ none := fun {j en} f m' => by
      rcases get_set f with ⟨rfl, _, _⟩ | ⟨_, f⟩
      · exact ⟨e, h, me⟩
      · exact ⟨en, f, m'⟩
    obtain ⟨y1, a1, a2⟩ := old f1 m1
    obtain ⟨y2, b1, b2⟩ := old f2 m2
    exact q.dj j k y1 y2 l' a1 b1 a2 b2 s1 s2
  · rcases get_set f with ⟨rfl, e1, _⟩ | ⟨_, f⟩
    · cases e with
      | un => cases m
      | im d => cases m
      | ow _ => cases e1
      | bx bs => exact q.bx i bs h
    · exact q.bx j ds' f
theorem isMu_ok {G : Gam} {i : Nat} (h : isMu G i = true) : ∃ e ds, G[i]? = some e ∧ e.mu = some ds := by
  unfold isMu at h
  cases z : G[i]? with
  | none => rw [z] at h; cases h
  | some e =>
    rw [z] at h
    cases y : e.mu with
    | none => simp only [y] at h; cases h
    | some ds => exact ⟨e, ds, rfl, y⟩
theorem gk_callB {m : Mob → List D → Option (R × Mob)} {E : XK} {i : Nat} {ta : TA} {a : M (List D)} (ha : AOk K ta a) : GOk K (tCall (spB K m) [] E (tCons (tVar i) ta)) (xcallB m i a) := fun Fz ba G σ H Hs res G' q e Q k => by
  unfold xcallB at e
  split at e
  case isFalse => cases e
  rename_i hm
  obtain ⟨e0, ds0, y1, y2⟩ := isMu_ok hm
  obtain ⟨l, vs0, y3, _⟩ := q.mu i e0 ds0 y1 y2
  obtain ⟨xs, G1, e1, e⟩ := bd_inv e
  unfold callB at e
  cases h : G1[i]? with
  | none => rw [h] at e; cases e
  | some en =>
    cases h0 : en.mu with
    | none => simp only [h, h0] at e; cases e
    | some bs =>
      simp only [h, h0] at e
      cases h1 : m bs xs with
      | none => simp only [h1] at e; cases e
      | some p =>
        obtain ⟨r1, bs'⟩ := p
        simp only [h1] at e
        cases e
        refine ⟨_, y3, ?_⟩
        refine ha Fz ba G σ H Hs xs _ q e1 _ fun vs H1 Hs1 q1 s1 d1 => ?_
        obtain ⟨l', bvs, g1, g2, g3, g4, g5⟩ := q1.mu i en bs h h0
        rw [y3] at g1
        cases g1
        refine ⟨Hs1, l, vs, bvs, bs, xs, _, bs', by rw [List.append_nil], q1.sub, g2, g3, g5, d1, h1, fun v H3 Hs3 ws ex hl hn hd rf => ?_⟩
        have q3 := q1.mut h h0 y3 ex hl hn hd
        refine k v H3 Hs3 q3 (s1.trans ex.b) ?_
        cases res with
        | im d => exact rf
        | ow ds =>
          obtain ⟨p, vs, rfl, z1, z2, z3, z4⟩ := rf
          refine ⟨p, vs, rfl, z2, z3, ?_, z4, fun j en' g mm qq => ?_⟩
          · cases z : Fz p with
            | none => rfl
            | some o =>
              obtain ⟨w1, _⟩ := q1.fz p o z
              rw [z1] at w1
              cases w1
          · obtain ⟨ds', hd'⟩ : ∃ ds', en'.mu = some ds' := by
              cases z : en'.mu with
              | none => exact absurd z mm
              | some ds' => exact ⟨ds', rfl⟩
            have old : ∃ o, H1 p = some o := by
              rcases get_set g with ⟨rfl, _, _⟩ | ⟨_, g⟩
              · rw [y3] at qq
                cases qq
                exact ⟨_, g2⟩
              · obtain ⟨l2, ws2, q1', q2', _⟩ := q1.mu j en' ds' g hd'
                rw [qq] at q1'
                cases q1'
                exact ⟨_, q2'⟩
            obtain ⟨o, ho⟩ := old
            rw [z1] at ho
            cases ho
theorem Rel.same_slot {Fz : Hp} {ba : Nat → Addr} {G : Gam} {σ : L2.St} {H Hs : Hp} (q : Rel K Fz ba G σ H Hs) {i : Nat} (h : isMu G i = true) : ∃ l, σ[i]? = some (some (.ref l)) ∧
    ∀ G1 H1 Hs1 e ds, Rel K Fz ba G1 σ H1 Hs1 → G1[i]? = some e → e.mu = some ds → ∃ vs, H1 l = some vs ∧ Hs1 l = none ∧ MobO K Hs1 ds vs := by
  obtain ⟨e0, ds0, y1, y2⟩ := isMu_ok h
  obtain ⟨l, vs0, y3, _⟩ := q.mu i e0 ds0 y1 y2
  refine ⟨l, y3, fun G1 H1 Hs1 e ds q1 h1 h2 => ?_⟩
  obtain ⟨l', bvs, g1, g2, g3, g4, g5⟩ := q1.mu i e ds h1 h2
  rw [y3] at g1
  cases g1
  exact ⟨bvs, g2, g3, g5⟩
theorem at_ok {H : Hp} {vs : List V} {ds : List D} {k : Int} {d : D} (h : DRs K H vs ds) (e : atI ds k = some d) : ∃ v, atI vs k = some v ∧ DR K H v d := by
  unfold atI at e ⊢
  rw [h.len]
  cases z : ixN ds.length k with
  | none => rw [z] at e; cases e
  | some j =>
    rw [z] at e
    exact h.at (i := j) e
theorem gk_ixv {i : Nat} {tb : TE} {b : M R} (hb : GOk K tb b) : GOk K (tOp (rIx K) (tVar i) tb) (xixv i b) := fun Fz ba G σ H Hs res G' q e Q k => by
  unfold xixv at e
  split at e
  case isFalse => cases e
  rename_i hm
  obtain ⟨l, y3, yk⟩ := q.same_slot hm
  obtain ⟨y, G1, e1, e⟩ := bd_inv e
  refine ⟨_, y3, ?_⟩
  refine hb.im q e1 fun v H1 Hs1 q1 s1 d1 => ?_
  unfold ixv at e
  cases hy : y.d with
  | int n =>
    rw [hy] at d1 e
    cases h : G1[i]? with
    | none => simp only [h] at e; cases e
    | some en =>
      cases h0 : en.mu with
      | none => simp only [h, h0] at e; cases e
      | some mm =>
       cases mm with
       | o _ _ => simp only [h, h0] at e; cases e
       | l ds =>
        simp only [h, h0] at e
        cases h1 : atI ds n with
        | none => simp only [h1] at e; cases e
        | some d =>
          simp only [h1] at e
          cases e
          obtain ⟨_, z1, z2, vs, rfl, z3⟩ := yk _ H1 Hs1 en (.l ds) q1 h h0
          obtain ⟨w, w1, w2⟩ := at_ok z3 h1
          exact .inl ⟨l, vs, n, w, rfl, dr_int d1, SqL.of z1, w1, k w H1 Hs1 q1 s1 w2⟩
  | _ => simp only [hy] at e; cases e
def rLen (K : PySem.W.Frag) : List V → Hp → VK → Prop := fun xs H Q => ∃ x n, xs = [x] ∧ LenV K x H n ∧ Q (.int n) H
theorem gk_by {i : Nat} {t : TE} {a b : M R} (ha : GOk K t a) (hb : GOk K t b) : GOk K t (xby i a b) := fun Fz ba G σ H Hs res G' q e Q k => by
  unfold xby at e
  split at e
  · exact ha Fz ba G σ H Hs res G' q e Q k
  · exact hb Fz ba G σ H Hs res G' q e Q k
theorem sk_next : SOk K tNext xnext := fun Fz ba G σ H Hs fl G' q e Dn p => by
  cases e
  exact p σ H Hs q (Same.refl _)
theorem sk_seq {t u : TS} {a b : MS} (ha : SOk K t a) (hb : SOk K u b) : SOk K (tSeq t u) (xseq a b) := fun Fz ba G σ H Hs fl G' q e Dn p => by
  unfold xseq at e
  cases h : a G with
  | none => rw [h] at e; cases e
  | some x =>
    obtain ⟨f1, G1⟩ := x
    rw [h] at e
    refine ha Fz ba G σ H Hs f1 G1 q h { Dn with nx := u Dn } ?_
    cases f1 with
    | nx => exact fun σ1 H1 Hs1 q1 s1 => hb Fz ba G1 σ1 H1 Hs1 fl G' q1 e Dn (p.mono s1)
    | bk => cases e; exact p
    | ct => cases e; exact p
    | rt r => cases e; exact p
theorem sk_asg {ta : TE} {g : TG} {a : M R} {tg : D → Gam → Option Gam} {js : List Nat} (ha : GOk K ta a) (hg : GtOk K g tg js) : SOk K (tAsg ta g) (xasg a tg) := fun Fz ba G σ H Hs fl G' q e Dn p => by
  obtain ⟨x, G1, e1, e⟩ := bd_inv e
  cases h : tg x.d G1 with
  | none => rw [h] at e; cases e
  | some G2 =>
    rw [h] at e
    cases e
    refine ha.im q e1 fun v H1 Hs1 q1 s1 d1 => ?_
    exact hg.run Fz ba G1 σ H1 Hs1 v x.d _ q1 d1 h _ fun σ' q2 _ _ => p σ' H1 Hs1 q2 s1
theorem sk_set {i : Nat} {ta : TE} {a : M R} (ha : GOk K ta a) : SOk K (tAsg ta (gName i)) (xset i a) := fun Fz ba G σ H Hs fl G' q e Dn p => by
  obtain ⟨x, G1, e1, e⟩ := bd_inv e
  cases e
  exact ha Fz ba G σ H Hs x _ q e1 _ fun v H1 Hs1 q1 s1 r1 => p _ H1 Hs1 (q1.set r1) s1
theorem sk_ret {ta : TE} {a : M R} (ha : GOk K ta a) : SOk K (tRet ta) (xret a) := fun Fz ba G σ H Hs fl G' q e Dn p => by
  obtain ⟨x, G1, e1, e⟩ := bd_inv e
  cases e
  exact ha Fz ba G σ H Hs x _ q e1 _ fun v H1 Hs1 q1 s1 r1 => p v σ H1 Hs1 q1 s1 r1
theorem sk_drop {ta : TE} {a : M R} (ha : GOk K ta a) : SOk K (tDrop ta) (xdrop a) := fun Fz ba G σ H Hs fl G' q e Dn p => by
  obtain ⟨x, G1, e1, e⟩ := bd_inv e
  cases e
  exact ha Fz ba G σ H Hs x _ q e1 _ fun v H1 Hs1 q1 s1 r1 => p σ H1 Hs1 q1 s1
theorem sk_if {t : TT} {u w : TS} {c : M Bool} {a b : MS} (hc : TOk K t c) (ha : SOk K u a) (hb : SOk K w b) : SOk K (tIfS t u w) (xifs c a b) := fun Fz ba G σ H Hs fl G' q e Dn p => by
  obtain ⟨x, G1, e1, e⟩ := bd_inv e
  refine hc Fz ba G σ H Hs x G1 q e1 _ fun H1 Hs1 q1 s1 => ?_
  cases x with
  | true => exact ha Fz ba G1 σ H1 Hs1 fl G' q1 e Dn (p.mono s1)
  | false => exact hb Fz ba G1 σ H1 Hs1 fl G' q1 e Dn (p.mono s1)
theorem sk_never : SOk K tNever xnever := fun Fz ba G σ H Hs fl G' q e Dn p => by cases e
theorem extB_upd {H Hs : Hp} {l : Addr} {o : HO} (s : Same Hs H) (n : Hs l = none) : ExtB l H Hs (upd H l o) Hs :=
  ⟨fun x u ne e => by rw [upd_ne ne]; exact e, Same.refl _, fun a u e => by rw [upd_ne (ne_of_none e n)]; exact s a u e, fun x u _ h => h⟩
theorem isLst_ok {G : Gam} {i : Nat} (h : isLst G i = true) : ∃ e ds, G[i]? = some e ∧ e.mu = some (.l ds) := by
  unfold isLst at h
  cases z : G[i]? with
  | none => rw [z] at h; cases h
  | some e =>
    rw [z] at h
    cases y : e.mu with
    | none => simp only [y] at h; cases h
    | some m =>
      cases m with
      | o _ _ => simp only [y] at h; cases h
      | l ds => exact ⟨e, ds, rfl, y⟩
theorem isLst_mu {G : Gam} {i : Nat} (h : isLst G i = true) : isMu G i = true := by
  obtain ⟨e, ds, h1, h2⟩ := isLst_ok h
  unfold isMu
  rw [h1]
  simp only [h2]
  rfl
theorem sk_app {i : Nat} {te : TE} {a : M R} (ha : GOk K te a) : SOk K (tDrop (tBM K "list" rAppend (tVar i) (tCons te tNil))) (xapp i a) := fun Fz ba G σ H Hs fl G' q e Dn p => by
  unfold xapp at e
  split at e
  case isFalse => cases e
  rename_i hm
  obtain ⟨l, y3, yk⟩ := q.same_slot (isLst_mu hm)
  obtain ⟨x, G1, e1, e⟩ := bd_inv e
  obtain ⟨e0, ds0, y1, y2⟩ := isLst_ok hm
  obtain ⟨_, w1, _, vs0, rfl, _⟩ := yk G H Hs e0 _ q y1 y2
  refine ⟨_, y3, .inl ⟨rfl, vs0, SqL.of w1⟩, ?_⟩
  refine ha.im q e1 fun v H1 Hs1 q1 s1 d1 => ?_
  unfold app at e
  cases h : G1[i]? with
  | none => simp only [h] at e; cases e
  | some en =>
    cases h0 : en.mu with
    | none => simp only [h, h0] at e; cases e
    | some mm =>
     cases mm with
     | o _ _ => simp only [h, h0] at e; cases e
     | l ds =>
      simp only [h, h0] at e
      split at e
      case isFalse => cases e
      rename_i hf
      cases e
      obtain ⟨_, z1, z2, vs, rfl, z3⟩ := yk _ H1 Hs1 en _ q1 h h0
      refine ⟨l, vs, v, rfl, rfl, z1, by rw [z3.len]; exact few_lt hf, ?_⟩
      exact p σ _ Hs1 (q1.mut h h0 y3 (extB_upd q1.sub z2) upd_same z2 ⟨_, rfl, z3.app (.cons d1 .nil)⟩) s1
theorem sk_put {i : Nat} {te tk : TE} {a b : M R} (ha : GOk K te a) (hb : GOk K tk b) : SOk K (tAsg te (gSub (tVar i) tk rSetL)) (xput i a b) := fun Fz ba G σ H Hs fl G' q e Dn p => by
  obtain ⟨x, G1, e1, e⟩ := bd_inv e
  split at e
  case isFalse => cases e
  rename_i hm
  obtain ⟨k, G2, e2, e⟩ := bd_inv e
  refine ha.im q e1 fun v H1 Hs1 q1 s1 d1 => ?_
  obtain ⟨l, y3, yk⟩ := q1.same_slot hm
  refine ⟨_, y3, ?_⟩
  refine hb.im q1 e2 fun w H2 Hs2 q2 s2 d2 => ?_
  unfold put at e
  cases hy : k.d with
  | int n =>
    rw [hy] at d2 e
    cases h : G2[i]? with
    | none => simp only [h] at e; cases e
    | some en =>
      cases h0 : en.mu with
      | none => simp only [h, h0] at e; cases e
      | some mm =>
       cases mm with
       | o _ _ => simp only [h, h0] at e; cases e
       | l ds =>
        simp only [h, h0] at e
        cases h1 : ixN ds.length n with
        | none => simp only [h1] at e; cases e
        | some j =>
          simp only [h1] at e
          cases e
          obtain ⟨_, z1, z2, vs, rfl, z3⟩ := yk _ H2 Hs2 en _ q2 h h0
          refine ⟨l, vs, n, j, rfl, dr_int d2, z1, by rw [z3.len]; exact h1, ?_⟩
          exact p σ _ Hs2 (q2.mut h h0 y3 (extB_upd q2.sub z2) upd_same z2 ⟨_, rfl, DRs.set (d1.mono s2) j z3⟩) (s1.trans s2)
  | _ => simp only [hy] at e; cases e
theorem gt_name {i : Nat} : GtOk K (gName i) (tgn i) [i] := ⟨fun Fz ba G σ H Hs v d G' q r e Q k => by
  cases e
  exact k _ (q.set (x := .im d) r) List.length_set fun j hj => List.getElem?_set_ne fun z => hj (by rw [z]; exact List.mem_cons_self)⟩
structure GtsOk (K : PySem.W.Frag) (g : TGs) (f : List D → Gam → Option Gam) (js : List Nat) : Prop where
  run : ∀ Fz ba G σ H Hs vs ds G', Rel K Fz ba G σ H Hs → DRs K Hs vs ds → f ds G = some G' → ∀ Q : L2.St → Hp → Prop, (∀ σ', Rel K Fz ba G' σ' H Hs → σ'.length = σ.length → (∀ i : Nat, i ∉ js → σ'[i]? = σ[i]?) → Q σ' H) → g vs σ H Q
theorem gts_nil : GtsOk K gNil (tgs []) [] := ⟨fun Fz ba G σ H Hs vs ds G' q r e Q k => by
  cases r with
  | nil => cases e; exact ⟨rfl, k σ q rfl fun _ _ => rfl⟩
  | cons _ _ => cases e⟩
theorem gts_cons {t : TG} {u : TGs} {f : D → Gam → Option Gam} {fs : List (D → Gam → Option Gam)} {js ks : List Nat} (h : GtOk K t f js) (hs : GtsOk K u (tgs fs) ks) : GtsOk K (gCons t u) (tgs (f :: fs)) (js ++ ks) := ⟨fun Fz ba G σ H Hs vs ds G' q r e Q k => by
  cases r with
  | nil => cases e
  | @cons v vs d ds r1 r2 =>
    have e' : (match f d G with | some G1 => tgs fs ds G1 | none => none) = some G' := e
    cases h1 : f d G with
    | none => rw [h1] at e'; cases e'
    | some G1 =>
      rw [h1] at e'
      refine ⟨v, vs, rfl, h.run Fz ba G σ H Hs v d G1 q r1 h1 _ fun σ1 q1 l1 k1 => ?_⟩
      refine hs.run Fz ba G1 σ1 H Hs vs ds G' q1 r2 e' _ fun σ2 q2 l2 k2 => ?_
      exact k σ2 q2 (l2.trans l1) fun i hi => (k2 i fun z => hi (List.mem_append_right _ z)).trans (k1 i fun z => hi (List.mem_append_left _ z))⟩
theorem tgs_len : ∀ {fs : List (D → Gam → Option Gam)} {ds : List D} {G G' : Gam}, tgs fs ds G = some G' → ds.length = fs.length
  | [], [], _, _, _ => rfl
  | [], _ :: _, _, _, e => by cases e
  | _ :: _, [], _, _, e => by cases e
  | f :: fs, d :: ds, G, G', e => by
    have e' : (match f d G with | some G1 => tgs fs ds G1 | none => none) = some G' := e
    cases h1 : f d G with
    | none => rw [h1] at e'; cases e'
    | some G1 =>
      rw [h1] at e'
      exact congrArg Nat.succ (tgs_len e')
theorem gt_tup {u : TGs} {fs : List (D → Gam → Option Gam)} {js : List Nat} (h : GtsOk K u (tgs fs) js) : GtOk K (gTup K fs.length u) (tgt fs) js := ⟨fun Fz ba G σ H Hs v d G' q r e Q k => by
  cases r with
  | tup ht hd => exact ⟨_, _, rfl, same_tup q.sub ht, by rw [hd.len]; exact tgs_len e, h.run Fz ba G σ H Hs _ _ G' q hd e Q k⟩
  | _ => cases e⟩
theorem sk_while {t : TT} {u : TS} {c : M Bool} {b : MS} (fuel : Gam → Nat) (hc : TOk K t c) (hb : SOk K u b) : SOk K (tWhile t u) (xwhile fuel c b) := fun Fz ba G σ H Hs fl G' q e Dn p => by
  refine ⟨fun m σ1 H1 => ∃ G1 Hs1, Rel K Fz ba G1 σ1 H1 Hs1 ∧ Same Hs Hs1 ∧ xwhileN c b m G1 = some (fl, G'), ⟨fuel G, G, Hs, q, Same.refl _, e⟩, ?_⟩
  rintro m σ1 H1 ⟨G1, Hs1, q1, s1, e1⟩
  cases m with
  | zero => cases e1
  | succ n =>
    obtain ⟨x, G2, e2, e3⟩ := bd_inv e1
    refine hc Fz ba G1 σ1 H1 Hs1 x G2 q1 e2 _ fun H2 Hs2 q2 s2 => ?_
    cases x with
    | false => cases e3; exact p σ1 H2 Hs2 q2 (s1.trans s2)
    | true =>
      refine ⟨fun σ' H' => ∃ G3 Hs3, Rel K Fz ba G3 σ' H' Hs3 ∧ Same Hs Hs3 ∧ xwhileN c b n G3 = some (fl, G'), fun σ' H' ⟨G3, Hs3, a1, a2, a3⟩ => ⟨n, Nat.lt_succ_self n, G3, Hs3, a1, a2, a3⟩, ?_⟩
      rw [if_pos rfl] at e3
      cases hbG : b G2 with
      | none => rw [hbG] at e3; cases e3
      | some y =>
        obtain ⟨f1, G3⟩ := y
        rw [hbG] at e3
        refine hb Fz ba G2 σ1 H2 Hs2 f1 G3 q2 hbG _ ?_
        cases f1 with
        | nx => exact fun σ' H' Hs' a1 a2 => ⟨G3, Hs', a1, (s1.trans s2).trans a2, e3⟩
        | ct => exact fun σ' H' Hs' a1 a2 => ⟨G3, Hs', a1, (s1.trans s2).trans a2, e3⟩
        | bk => cases e3; exact fun σ' H' Hs' a1 a2 => p σ' H' Hs' a1 ((s1.trans s2).trans a2)
        | rt r => cases e3; exact fun v σ' H' Hs' a1 a2 a3 => p v σ' H' Hs' a1 ((s1.trans s2).trans a2) a3
theorem sk_for {w : TI} {g : TG} {u : TS} {it : M (List D)} {tg : D → Gam → Option Gam} {js : List Nat} {b : MS} (hi : IOk K w it) (hg : GtOk K g tg js) (hb : SOk K u b) : SOk K (tFor w g u) (xfor it tg b) := fun Fz ba G σ H Hs fl G' q e Dn p => by
  obtain ⟨ds, G1, e1, e⟩ := bd_inv e
  refine hi Fz ba G σ H Hs ds G1 q e1 _ fun J H1 Hs1 q1 s1 Y => ?_
  refine ⟨fun i m σ2 H2 => m = ds.length - i ∧ i ≤ ds.length ∧ ∃ G2 Hs2, Rel K Fz ba G2 σ2 H2 Hs2 ∧ Same Hs1 Hs2 ∧ xforL tg b (ds.drop i) G2 = some (fl, G'), ⟨ds.length, rfl, Nat.zero_le _, G1, Hs1, q1, Same.refl _, e⟩, ?_⟩
  rintro i m σ2 H2 ⟨rfl, hi, G2, Hs2, q2, s2, e2⟩
  by_cases hlt : i < ds.length
  · refine .inr ⟨Y.go i H2 (s2.trans q2.sub) hlt, fun σ' H' => i + 1 ≤ ds.length ∧ ∃ G3 Hs3, Rel K Fz ba G3 σ' H' Hs3 ∧ Same Hs1 Hs3 ∧ xforL tg b (ds.drop (i + 1)) G3 = some (fl, G'), fun σ' H' ⟨z, z2⟩ => ⟨ds.length - (i + 1), by omega, rfl, z, z2⟩, fun x H' y => ?_⟩
    obtain ⟨d, Hs3, d1, ex, dr⟩ := Y.yld i x H2 H' Hs2 hlt s2 q2.sub y
    have q3 := q2.ext ex
    have ed : ds.drop i = d :: ds.drop (i + 1) := by
      rw [List.drop_eq_getElem_cons hlt]
      rw [List.getElem?_eq_getElem hlt] at d1
      cases d1
      rfl
    rw [ed] at e2
    have e2' : (match tg d G2 with | none => none | some G3 => (match b G3 with | some (.nx, G4) => xforL tg b (ds.drop (i + 1)) G4 | some (.ct, G4) => xforL tg b (ds.drop (i + 1)) G4 | some (.bk, G4) => some (.nx, G4) | some (.rt r, G4) => some (.rt r, G4) | none => none)) = some (fl, G') := e2
    cases hG : tg d G2 with
    | none => rw [hG] at e2'; cases e2'
    | some G3 =>
      rw [hG] at e2'
      refine hg.run Fz ba G2 σ2 H' Hs3 x d G3 q3 dr hG _ fun σ3 q4 _ _ => ?_
      cases hbG : b G3 with
      | none => simp only [hbG] at e2'; cases e2'
      | some y =>
        obtain ⟨f1, G4⟩ := y
        simp only [hbG] at e2'
        refine hb Fz ba G3 σ3 H' Hs3 f1 G4 q4 hbG _ ?_
        cases f1 with
        | nx => exact fun σ' H5 Hs' a1 a2 => ⟨hlt, G4, Hs', a1, (s2.trans ex.b).trans a2, e2'⟩
        | ct => exact fun σ' H5 Hs' a1 a2 => ⟨hlt, G4, Hs', a1, (s2.trans ex.b).trans a2, e2'⟩
        | bk => cases e2'; exact fun σ' H5 Hs' a1 a2 => p σ' H5 Hs' a1 (((s1.trans s2).trans ex.b).trans a2)
        | rt r => cases e2'; exact fun v σ' H5 Hs' a1 a2 a3 => p v σ' H5 Hs' a1 (((s1.trans s2).trans ex.b).trans a2) a3
  · have hend : ds.length ≤ i := by omega
    rw [List.drop_eq_nil_of_le hend] at e2
    cases e2
    exact .inl ⟨Y.stop i H2 (s2.trans q2.sub) hend, p σ2 H2 Hs2 q2 (s1.trans s2)⟩
end
end Bk
namespace Bk
open PySem L2
section
variable {K : PySem.W.Frag}
theorem Yl.same {J : It} {ds : List D} {Hs Hs' : Hp} (y : Yl K J ds Hs) (s : Same Hs Hs') : Yl K J ds Hs' :=
  ⟨fun i H h => y.go i H (s.trans h), fun i H h => y.stop i H (s.trans h), fun i x H H' Hs1 hi h => y.yld i x H H' Hs1 hi (s.trans h)⟩
theorem yl_list {Hs : Hp} {a : Addr} {xs : List V} {ds : List D} (h : SqL K Hs a xs) (d : DRs K Hs xs ds) : Yl K (Itl K a) ds Hs where
  go := fun i H s hi => ⟨xs, xs[i]'(by rw [d.len]; exact hi), same_lst s h, by simp⟩
  stop := fun i H s hi => ⟨xs, same_lst s h, by rw [d.len]; exact hi⟩
  yld := fun i x H H' Hs1 _ s s1 y => by
    obtain ⟨rfl, y⟩ := y
    obtain ⟨e, e1, e2⟩ := d.ta (y xs (same_lst (s.trans s1) h))
    exact ⟨e, Hs1, e1, Ext.refl s1, e2.mono s⟩
theorem yl_tup {Hs : Hp} {a : Addr} {xs : List V} {ds : List D} (h : SqT K Hs a xs) (d : DRs K Hs xs ds) : Yl K (Itt K a) ds Hs where
  go := fun i H s hi => ⟨xs, xs[i]'(by rw [d.len]; exact hi), same_tup s h, by simp⟩
  stop := fun i H s hi => ⟨xs, same_tup s h, by rw [d.len]; exact hi⟩
  yld := fun i x H H' Hs1 _ s s1 y => by
    obtain ⟨rfl, y⟩ := y
    obtain ⟨e, e1, e2⟩ := d.ta (y xs (same_tup (s.trans s1) h))
    exact ⟨e, Hs1, e1, Ext.refl s1, e2.mono s⟩
theorem rng_len (lo : Int) (n : Nat) : (rng lo n).length = n := by simp [rng]
theorem yl_rng {Hs : Hp} {lo : Int} {n : Nat} : Yl K (Itr lo n) (rng lo n) Hs where
  go := fun i H s hi => by rw [rng_len] at hi; exact hi
  stop := fun i H s hi => by rw [rng_len] at hi; exact hi
  yld := fun i x H H' Hs1 hi s s1 y => by
    obtain ⟨rfl, rfl⟩ := y
    rw [rng_len] at hi
    exact ⟨.int (lo + (i : Int)), Hs1, by simp [rng, hi], Ext.refl s1, .int _⟩
theorem okR_inv {i : Int} (h : okR i = true) : -(2 ^ 62) ≤ i ∧ i < 2 ^ 62 := by
  unfold okR at h
  rw [Bool.and_eq_true] at h
  exact ⟨of_decide_eq_true h.1, of_decide_eq_true h.2⟩
theorem ik_range1 {ta : TA} {a : M (List D)} (ha : AOk K ta a) : IOk K (iRng1 ta) (xrange1 a) := fun Fz ba G σ H Hs ds G' q e Q k => by
  obtain ⟨xs, G1, e1, e⟩ := bd_inv e
  refine ha Fz ba G σ H Hs xs _ q e1 _ fun vs H1 Hs1 q1 s1 d => ?_
  split at e
  case h_2 => cases e
  split at e
  case isFalse => cases e
  rename_i hr
  cases e
  cases d with
  | cons d1 d2 =>
    cases d2
    cases d1
    exact ⟨_, rfl, (okR_inv hr).1, (okR_inv hr).2, k _ H1 Hs1 q1 s1 yl_rng⟩
theorem asL_ok {H : Hp} {v : V} {d : D} {ds : List D} (h : DR K H v d) (e : asL d = some ds) : ∃ a xs, v = .ref a ∧ SqL K H a xs ∧ DRs K H xs ds := by
  cases h with
  | lst hl hd => cases e; exact ⟨_, _, rfl, SqL.of hl, hd⟩
  | frz hl hd => cases e; exact ⟨_, _, rfl, hl, hd⟩
  | _ => cases e
theorem zip_get {α β : Type} : ∀ {xs : List α} {ys : List β} {i : Nat} {x : α} {y : β}, xs[i]? = some x → ys[i]? = some y → (xs.zip ys)[i]? = some (x, y)
  | [], _, _, _, _, h, _ => by simp at h
  | _ :: _, [], _, _, _, _, h => by simp at h
  | a :: xs, b :: ys, 0, _, _, h1, h2 => by simp at h1 h2; subst h1; subst h2; rfl
  | a :: xs, b :: ys, i + 1, _, _, h1, h2 => by
    simp only [List.zip_cons_cons, List.getElem?_cons_succ] at h1 h2 ⊢
    exact zip_get h1 h2
theorem enum_len : ∀ (k : Nat) (ds : List D), (enumD k ds).length = ds.length
  | _, [] => rfl
  | k, d :: ds => congrArg Nat.succ (enum_len (k + 1) ds)
theorem enum_get : ∀ {k : Nat} {ds : List D} {i : Nat} {d : D}, ds[i]? = some d → (enumD k ds)[i]? = some (.tup [.int ((k + i : Nat) : Int), d])
  | _, [], _, _, h => by simp at h
  | k, e :: ds, 0, _, h => by simp at h; subst h; rfl
  | k, e :: ds, i + 1, _, h => by
    simp only [List.getElem?_cons_succ] at h
    have z := enum_get (k := k + 1) h
    show (enumD (k + 1) ds)[i]? = _
    rw [z, show k + 1 + i = k + (i + 1) by omega]
theorem yl_enum {Hs : Hp} {a : Addr} {xs : List V} {ds : List D} (ha : SqL K Hs a xs) (da : DRs K Hs xs ds) : Yl K (Ite K a) (enumD 0 ds) Hs where
  go := fun i H s hi => by
    rw [enum_len] at hi
    exact ⟨xs, xs[i]'(by rw [da.len]; omega), same_lst s ha, by simp⟩
  stop := fun i H s hi => by
    rw [enum_len] at hi
    exact ⟨xs, same_lst s ha, by rw [da.len]; omega⟩
  yld := fun i x H H' Hs1 _ s s1 y => by
    obtain ⟨T, x1, rfl, hT, rfl, h1⟩ := y
    obtain ⟨d1, e1, r1⟩ := da.ta (h1 xs (same_lst (s.trans s1) ha))
    have ex : Ext H Hs1 (upd H T (.tup [.int (i : Nat), x1])) (upd Hs1 T (.tup [.int (i : Nat), x1])) := Ext.new s1 hT
    refine ⟨.tup [.int (i : Nat), d1], _, ?_, ex, .tup (SqT.of upd_same) (.cons (.int _) (.cons (r1.mono (s.trans ex.b)) .nil))⟩
    rw [enum_get e1, Nat.zero_add]
theorem Rel.wiped {Fz : Hp} {ba : Nat → Addr} {G : Gam} {σ : L2.St} {H Hs : Hp} (q : Rel K Fz ba G σ H Hs) : ∀ vs : List Nat, Rel K Fz ba (wipeG G vs) (wipe σ vs) H Hs
  | [] => q
  | v :: vs => (Rel.wiped q vs).forget v
theorem wipe_get {σ : L2.St} {i : Nat} : ∀ {vs : List Nat}, i ∉ vs → (wipe σ vs)[i]? = σ[i]?
  | [], _ => rfl
  | v :: vs, h => by
    have h1 : v ≠ i := fun z => h (by rw [z]; exact List.mem_cons_self)
    show ((wipe σ vs).set v none)[i]? = _
    rw [List.getElem?_set_ne h1]
    exact wipe_get fun z => h (List.mem_cons_of_mem _ z)
theorem wipe_in {σ : L2.St} {i : Nat} (hl : i < σ.length) : ∀ {vs : List Nat}, i ∈ vs → (wipe σ vs)[i]? = some none
  | v :: vs, h => by
    show ((wipe σ vs).set v none)[i]? = _
    by_cases z : v = i
    · subst z
      rw [List.getElem?_set_self (by rw [wipe_length]; exact hl)]
    · rw [List.getElem?_set_ne z]
      rcases List.mem_cons.mp h with z2 | h2
      · exact absurd z2.symm z
      · exact wipe_in hl h2
/-- slots outside of vs alike: wiped they are the same -/
theorem wipe_eq {σ τ : L2.St} {vs : List Nat} (hl : τ.length = σ.length) (h : ∀ i : Nat, i ∉ vs → τ[i]? = σ[i]?) : wipe τ vs = wipe σ vs := by
  refine List.ext_getElem? fun i => ?_
  by_cases hi : i ∈ vs
  · by_cases hlt : i < σ.length
    · rw [wipe_in hlt hi, wipe_in (by rw [hl]; exact hlt) hi]
    · rw [List.getElem?_eq_none (by rw [wipe_length, hl]; omega), List.getElem?_eq_none (by rw [wipe_length]; omega)]
  · rw [wipe_get hi, wipe_get hi]
    exact h i hi
theorem unw_len (G1 G2 : Gam) : ∀ vs : List Nat, (unw G1 G2 vs).length = G2.length
  | [] => rfl
  | v :: vs => by
    show ((unw G1 G2 vs).set v _).length = _
    rw [List.length_set]
    exact unw_len G1 G2 vs
theorem unw_out {G1 G2 : Gam} {i : Nat} : ∀ {vs : List Nat}, i ∉ vs → (unw G1 G2 vs)[i]? = G2[i]?
  | [], _ => rfl
  | v :: vs, h => by
    have h1 : v ≠ i := fun z => h (by rw [z]; exact List.mem_cons_self)
    show ((unw G1 G2 vs).set v _)[i]? = _
    rw [List.getElem?_set_ne h1]
    exact unw_out fun z => h (List.mem_cons_of_mem _ z)
theorem unw_in {G1 G2 : Gam} {i : Nat} (hl : G2.length = G1.length) : ∀ {vs : List Nat}, i ∈ vs → (unw G1 G2 vs)[i]? = G1[i]?
  | v :: vs, h => by
    show ((unw G1 G2 vs).set v (G1.getD v .un))[i]? = _
    by_cases z : v = i
    · subst z
      by_cases hlt : v < G1.length
      · rw [List.getElem?_set_self (by rw [unw_len, hl]; exact hlt), List.getElem?_eq_getElem hlt, List.getD_eq_getElem?_getD, List.getElem?_eq_getElem hlt]
        rfl
      · rw [List.getElem?_eq_none (by rw [List.length_set, unw_len, hl]; omega), List.getElem?_eq_none (by omega)]
    · rw [List.getElem?_set_ne z]
      rcases List.mem_cons.mp h with z2 | h2
      · exact absurd z2.symm z
      · exact unw_in hl h2
theorem noMu_ok {G : Gam} {vs : List Nat} (h : noMu G vs = true) {i : Nat} {e : Ent} (hi : i ∈ vs) (g : G[i]? = some e) : e.mu = none := by
  unfold noMu at h
  rw [List.all_eq_true] at h
  have z := h i hi
  rw [g] at z
  simpa using z
/-- behind a block: its own slots as they were -/
theorem Rel.unwipe {Fz : Hp} {ba : Nat → Addr} {G1 G2 : Gam} {σ : L2.St} {H1 Hs1 H2 Hs2 : Hp} {vs : List Nat} (q1 : Rel K Fz ba G1 σ H1 Hs1) (q2 : Rel K Fz ba G2 (wipe σ vs) H2 Hs2) (s : Same Hs1 Hs2) (nm : noMu G1 vs = true) : Rel K Fz ba (unw G1 G2 vs) σ H2 Hs2 := by
  have hl : G2.length = G1.length := by rw [← q1.len, ← q2.len, wipe_length]
  have mo : ∀ {i : Nat} {e : Ent}, (unw G1 G2 vs)[i]? = some e → e.mu ≠ none → i ∉ vs ∧ G2[i]? = some e := fun {i e} h m => by
    by_cases hi : i ∈ vs
    · rw [unw_in hl hi] at h
      exact absurd (noMu_ok nm hi h) m
    · rw [unw_out hi] at h
      exact ⟨hi, h⟩
  refine ⟨q2.sub, q2.fz, by rw [unw_len, hl]; exact q1.len, fun i d h => ?_, fun i e ds h h0 => ?_, fun i j e e' l h1 h2 m1 m2 t1 t2 => ?_, fun i ds h => ?_⟩
  · by_cases hi : i ∈ vs
    · rw [unw_in hl hi] at h
      obtain ⟨v, a1, a2⟩ := q1.im i d h
      exact ⟨v, a1, a2.mono s⟩
    · rw [unw_out hi] at h
      obtain ⟨v, a1, a2⟩ := q2.im i d h
      exact ⟨v, by rw [← wipe_get hi]; exact a1, a2⟩
  · obtain ⟨hi, h⟩ := mo h (by rw [h0]; simp)
    obtain ⟨l, ws, a1, a2⟩ := q2.mu i e ds h h0
    exact ⟨l, ws, by rw [← wipe_get hi]; exact a1, a2⟩
  · obtain ⟨hi, h1⟩ := mo h1 m1
    obtain ⟨hj, h2⟩ := mo h2 m2
    exact q2.dj i j e e' l h1 h2 m1 m2 (by rw [wipe_get hi]; exact t1) (by rw [wipe_get hj]; exact t2)
  · obtain ⟨hi, h⟩ := mo h (by simp [Ent.mu])
    have z := q2.bx i ds h
    rw [wipe_get hi] at z
    exact z
/-- a hidden object more -/
theorem Rel.hide {Fz : Hp} {ba : Nat → Addr} {G : Gam} {σ : L2.St} {H Hs : Hp} (q : Rel K Fz ba G σ H Hs) {p : Addr} {o : HO} (h : H p = none) : Rel K (upd Fz p o) ba G σ (upd H p o) Hs := by
  refine ⟨q.sub.trans (same_new h), fun a u e => ?_, q.len, q.im, fun i e ds g g0 => ?_, q.dj, q.bx⟩
  · by_cases z : a = p
    · subst z
      rw [upd_same] at e ⊢
      exact ⟨e, none_sub q.sub h⟩
    · rw [upd_ne z] at e ⊢
      exact q.fz a u e
  · obtain ⟨l, vs, a1, a2, a3, a4, a5⟩ := q.mu i e ds g g0
    have ne : l ≠ p := ne_of_none a2 h
    exact ⟨l, vs, a1, by rw [upd_ne ne]; exact a2, a3, by rw [upd_ne ne]; exact a4, a5⟩
/-- the hidden object is another -/
theorem Rel.rehide {Fz : Hp} {ba : Nat → Addr} {G : Gam} {σ : L2.St} {H Hs : Hp} {p : Addr} {o o' : HO} (q : Rel K (upd Fz p o) ba G σ H Hs) : Rel K (upd Fz p o') ba G σ (upd H p o') Hs := by
  obtain ⟨hp, hsp⟩ := q.fz p o upd_same
  refine ⟨fun a u e => ?_, fun a u e => ?_, q.len, q.im, fun i e ds g g0 => ?_, q.dj, q.bx⟩
  · rw [upd_ne (ne_of_none e hsp)]
    exact q.sub a u e
  · by_cases z : a = p
    · subst z
      rw [upd_same] at e ⊢
      exact ⟨e, hsp⟩
    · rw [upd_ne z] at e ⊢
      exact q.fz a u (by rw [upd_ne z]; exact e)
  · obtain ⟨l, vs, a1, a2, a3, a4, a5⟩ := q.mu i e ds g g0
    have ne : l ≠ p := by
      intro z
      subst z
      rw [upd_same] at a4
      cases a4
    rw [upd_ne ne] at a4
    exact ⟨l, vs, a1, by rw [upd_ne ne]; exact a2, a3, by rw [upd_ne ne]; exact a4, a5⟩
/-- no longer hidden, not owned either -/
theorem Rel.unhide {Fz : Hp} {ba : Nat → Addr} {G : Gam} {σ : L2.St} {H Hs : Hp} {p : Addr} {o : HO} (q : Rel K (upd Fz p o) ba G σ H Hs) (hf : Fz p = none) : Rel K Fz ba G σ H Hs := by
  refine ⟨q.sub, fun a u e => ?_, q.len, q.im, fun i e ds g g0 => ?_, q.dj, q.bx⟩
  · exact q.fz a u (by rw [upd_ne (ne_of_none e hf)]; exact e)
  · obtain ⟨l, vs, a1, a2, a3, a4, a5⟩ := q.mu i e ds g g0
    refine ⟨l, vs, a1, a2, a3, ?_, a5⟩
    cases z : Fz l with
    | none => rfl
    | some u =>
      have ne : l ≠ p := ne_of_none z hf
      rw [upd_ne ne, z] at a4
      cases a4
theorem gk_lc {w : TI} {g : TG} {t : TT} {te : TE} {it : M (List D)} {tg : D → Gam → Option Gam} {js vs : List Nat} {c : M Bool} {a : M R} (hi : IOk K w it) (hg : GtOk K g tg js) (hc : TOk K t c) (ha : GOk K te a) (hj : ∀ j ∈ js, j ∈ vs) :
    GOk K (tLc w g t te vs) (xlc it tg c a vs) := fun Fz ba G σ H Hs res G' q e Q k => by
  obtain ⟨ds, G1, e1, e⟩ := bd_inv e
  split at e
  case isFalse => cases e
  rename_i nm
  obtain ⟨out, G2, e2, e⟩ := bd_inv e
  split at e
  case isFalse => cases e
  rename_i hf
  cases e
  refine hi Fz ba G σ H Hs ds _ q e1 _ fun J H1 Hs1 q1 s1 Y p hp => ?_
  have hfp : Fz p = none := by
    cases z : Fz p with
    | none => rfl
    | some o =>
      obtain ⟨z1, _⟩ := q1.fz p o z
      rw [hp] at z1
      cases z1
  have q1w := (q1.wiped vs).hide (o := .lst []) hp
  refine ⟨fun i m H2 => m = ds.length - i ∧ i ≤ ds.length ∧ ∃ G3 Hs3 acc ad more, Rel K (upd Fz p (.lst acc)) ba G3 (wipe σ vs) H2 Hs3 ∧ Same Hs1 Hs3 ∧ DRs K Hs3 acc ad ∧ xlcL tg c a vs (ds.drop i) G3 = some (more, G2) ∧ ad ++ more = out,
    ⟨ds.length, rfl, Nat.zero_le _, wipeG G1 vs, Hs1, [], [], out, q1w, Same.refl _, .nil, e2, rfl⟩, ?_⟩
  rintro i m H2 ⟨rfl, hi2, G3, Hs3, acc, ad, more, q3, s3, da, e3, eo⟩
  by_cases hlt : i < ds.length
  · refine .inr ⟨Y.go i H2 (s3.trans q3.sub) hlt, fun H' => i + 1 ≤ ds.length ∧ ∃ G4 Hs4 acc ad more, Rel K (upd Fz p (.lst acc)) ba G4 (wipe σ vs) H' Hs4 ∧ Same Hs1 Hs4 ∧ DRs K Hs4 acc ad ∧ xlcL tg c a vs (ds.drop (i + 1)) G4 = some (more, G2) ∧ ad ++ more = out,
      fun H' ⟨z, z2⟩ => ⟨ds.length - (i + 1), by omega, rfl, z, z2⟩, fun x H' y => ?_⟩
    obtain ⟨d, Hs4, d1, ex, dr⟩ := Y.yld i x H2 H' Hs3 hlt s3 q3.sub y
    have q4 := q3.ext ex
    have ed : ds.drop i = d :: ds.drop (i + 1) := by
      rw [List.drop_eq_getElem_cons hlt]
      rw [List.getElem?_eq_getElem hlt] at d1
      cases d1
      rfl
    rw [ed] at e3
    unfold xlcL at e3
    cases hG : tg d G3 with
    | none => rw [hG] at e3; cases e3
    | some G4 =>
      rw [hG] at e3
      refine hg.run _ ba G3 _ H' Hs4 x d G4 q4 dr hG _ fun σ5 q5 l5 k5 => ?_
      have hlen : σ5.length = σ.length := by rw [l5, wipe_length]
      have hw : wipe σ5 vs = wipe σ vs := by
        have z := wipe_eq (σ := wipe σ vs) (τ := σ5) (vs := vs) (by rw [wipe_length]; exact hlen) fun j hj' => k5 j fun z => hj' (hj j z)
        rw [z]
        exact wipe_eq (wipe_length σ vs) fun j hj' => wipe_get hj'
      refine ⟨hw, ?_⟩
      obtain ⟨b, G5, e5, e6⟩ := bd_inv e3
      refine hc _ ba G4 σ5 H' Hs4 b G5 q5 e5 _ fun H5 Hs5 q6 s6 => ?_
      cases b with
      | true =>
        obtain ⟨r, G6, e7, e8⟩ := bd_inv (show bd (a G5) _ = _ from e6)
        obtain ⟨out2, G7, e9, e10⟩ := bd_inv e8
        cases e10
        rw [if_pos rfl]
        refine ha.im q6 e7 fun v H6 Hs6 q7 s7 d7 => ?_
        obtain ⟨f1, f2⟩ := q7.fz p _ upd_same
        have q8 := (q7.rehide (o' := .lst (acc ++ [v]))).wiped vs
        rw [hw] at q8
        refine ⟨acc, f1, ?_, hlt, _, Hs6, _, ad ++ [r.d], out2, q8, ((s3.trans ex.b).trans s6).trans s7, (da.mono ((ex.b.trans s6).trans s7)).app (.cons d7 .nil), e9, ?_⟩
        · have z1 := da.len
          have z2 : ad.length ≤ out.length := by rw [← eo, List.length_append]; omega
          exact Nat.lt_of_le_of_lt (by omega) (few_lt hf)
        · rw [List.append_assoc]
          exact eo
      | false =>
        rw [if_neg Bool.false_ne_true] at e6 ⊢
        have q8 := q6.wiped vs
        rw [hw] at q8
        exact ⟨hlt, _, Hs5, acc, ad, more, q8, (s3.trans ex.b).trans s6, da.mono (ex.b.trans s6), e6, eo⟩
  · have hend : ds.length ≤ i := by omega
    rw [List.drop_eq_nil_of_le hend] at e3
    cases e3
    rw [List.append_nil] at eo
    subst eo
    obtain ⟨f1, f2⟩ := q3.fz p _ upd_same
    refine .inl ⟨Y.stop i H2 (s3.trans q3.sub) hend, k _ H2 Hs3 (q1.unwipe (q3.unhide hfp) s3 nm) (s1.trans s3) ⟨p, _, rfl, f1, f2, hfp, ⟨acc, rfl, da⟩, fun j e' g m z => ?_⟩⟩
    have q9 := q1.unwipe (q3.unhide hfp) s3 nm
    by_cases hjv : j ∈ vs
    · have z1 := q1.len
      have z2 := q3.len
      rw [wipe_length, z1] at z2
      rw [unw_in (G1 := G1) z2.symm hjv] at g
      exact m (noMu_ok nm hjv g)
    · rw [unw_out hjv] at g
      obtain ⟨ds', hd'⟩ : ∃ ds', e'.mu = some ds' := by
        cases y : e'.mu with
        | none => exact absurd y m
        | some ds' => exact ⟨ds', rfl⟩
      obtain ⟨l, ws, a1, a2, a3, a4, a5⟩ := q3.mu j e' ds' g hd'
      rw [wipe_get hjv, z] at a1
      cases a1
      rw [upd_same] at a4
      cases a4
end
end Bk
namespace Bk
open PySem L2
def opAdd : D → D → Option R
  | .int i, .int j => some (.im (.int (i + j)))
  | .str x, .str y => if few (x.length + y.length) then some (.im (.str (x ++ y))) else none
  | .lst xs, .lst ys => if few (xs.length + ys.length) then some (.ol (xs ++ ys)) else none
  | _, _ => none
def opSub : D → D → Option R
  | .int i, .int j => some (.im (.int (i - j)))
  | _, _ => none
def okMul (i j : Int) : Bool := decide (i.natAbs.log2 + j.natAbs.log2 < 1000000)
theorem okMul_ok {i j : Int} (h : okMul i j = true) : CMulW i j := by
  unfold okMul at h
  exact (of_decide_eq_true h : i.natAbs.log2 + j.natAbs.log2 < 1000000)
def opMul : D → D → Option R
  | .int i, .int j => if okMul i j then some (.im (.int (i * j))) else none
  | .lst xs, .int k => if okR k && few (xs.length * k.toNat) then some (.ol (List.replicate k.toNat xs).flatten) else none
  | _, _ => none
def okDiv (j : Int) : Bool := decide (j ≠ 0) && decide (j.natAbs.log2 < 9000)
def opFdiv : D → D → Option R
  | .int i, .int j => if okDiv j then some (.im (.int (i.fdiv j))) else none
  | _, _ => none
def opMod : D → D → Option R
  | .int i, .int j => if decide (j ≠ 0) then some (.im (.int (i.fmod j))) else none
  | _, _ => none
def okPow (i j : Int) : Bool := decide (0 ≤ j) && decide (j ≤ 1000000) && decide (i.natAbs < 2 ^ 64)
def opPow : D → D → Option R
  | .int i, .int j => if okPow i j then some (.im (.int (i ^ j.toNat))) else none
  | _, _ => none
def cmp (p : Int → Int → Bool) : D → D → Option R
  | .int i, .int j => some (.im (.bl (p i j)))
  | _, _ => none
def opLt : D → D → Option R := cmp fun i j => decide (i < j)
def opLe : D → D → Option R := cmp fun i j => decide (i ≤ j)
def opGt : D → D → Option R := cmp fun i j => decide (j < i)
def opGe : D → D → Option R := cmp fun i j => decide (j ≤ i)
mutual
def toPy : D → Option PyData
  | .non => some .none
  | .bl b => some (.bool b)
  | .int i => some (.int i)
  | .str x => some (.str x)
  | .lst xs => (toPys xs).map .list
  | .frz xs => (toPys xs).map .list
  | .tup xs => (toPys xs).map .tuple
  | .obj _ _ => none
  | .ty _ => none
  | .cl _ => none
  | .dic _ _ => none
def toPys : List D → Option (List PyData)
  | [] => some []
  | x :: xs => match toPy x, toPys xs with
    | some p, some ps => some (p :: ps)
    | _, _ => none
end
def eqD (a b : D) : Option Bool := match a, b with
  | .int i, .int j => some (decide (i = j))
  | .str x, .str y => some (decide (x = y))
  | a, b => match toPy a, toPy b with
    | some p, some q => if SeqAt.shaped p && SeqAt.shaped q then some (PyData.eqv p q) else none
    | _, _ => none
def opEq (a b : D) : Option R := match eqD a b with
  | some k => some (.im (.bl k))
  | none => none
def opNe (a b : D) : Option R := match eqD a b with
  | some k => some (.im (.bl (!k)))
  | none => none
def isN : D → Bool
  | .non => true
  | _ => false
def isD : D → D → Option Bool
  | a, .non => some (isN a)
  | .bl a, .bl b => some (decide (a = b))
  | _, _ => none
def opIs (a b : D) : Option R := match isD a b with
  | some k => some (.im (.bl k))
  | none => none
def opIsNot (a b : D) : Option R := match isD a b with
  | some k => some (.im (.bl (!k)))
  | none => none
def opIx : D → D → Option R
  | .lst xs, .int k => (atI xs k).map .im
  | .frz xs, .int k => (atI xs k).map .im
  | .tup xs, .int k => (atI xs k).map .im
  | .str x, .int k => if few x.length then (atI x.cps.toList k).map fun c => .im (.str ⟨#[c]⟩) else none
  | _, _ => none
def unNeg : D → Option R
  | .int i => some (.im (.int (-i)))
  | _ => none
def rAddA : R2 := fun x y H Q => rI0 (fun i j => .int (i + j)) x y H Q ∨ (∃ i j, x = .str i ∧ y = .str j ∧ i.length + j.length ≤ sizeLine ∧ Q (.str (i ++ j)) H) ∨ rCat x y H Q
theorem op_addA {X : Cx} : OpR X (binaryOp .Add) rAddA := op_add.or (op_add_str.or op_cat)
def rMulA : R2 := fun x y H Q => rI CMulW (fun i j => .int (i * j)) x y H Q ∨ rRep x y H Q
theorem op_mulA {X : Cx} : OpR X (binaryOp .Mult) rMulA := op_mulW.or op_rep
def rFdivA : R2 := rI (fun _ j => j ≠ 0 ∧ j.natAbs.log2 < 9000) fun i j => .int (i.fdiv j)
theorem op_fdivA {X : Cx} : OpR X (binaryOp .FloorDiv) rFdivA := opI fun _ _ _ _ _ _ _ hc q => PyProof.Rows.floordiv_int hc.1 q (.inl (PyProof.noPylong_of_log2 hc.2))
def rModA : R2 := rI (fun _ j => j ≠ 0) fun i j => .int (i.fmod j)
theorem op_modA {X : Cx} : OpR X (binaryOp .Mod) rModA := op_modN
def rSubA : R2 := rI0 fun i j => .int (i - j)
theorem op_subA {X : Cx} : OpR X (binaryOp .Sub) rSubA := op_sub
def rPowA : R2 := rI CPow fun i j => .int (i ^ j.toNat)
theorem op_powA {X : Cx} : OpR X (binaryOp .Pow) rPowA := op_pow
def rIsA : R2 := fun x y H Q => (y = .non ∧ Q (.bl (decide (x = .non))) H) ∨ rIsB x y H Q
theorem op_isA {X : Cx} : OpR X (compareOp .Is) rIsA := op_isN.or op_isBl
def rIsNotA : R2 := fun x y H Q => (y = .non ∧ Q (.bl (!decide (x = .non))) H) ∨ rNotB x y H Q
theorem op_isNotA {X : Cx} : OpR X (compareOp .IsNot) rIsNotA := op_notN.or op_notBl
section
variable {K : PySem.W.Frag}
theorem od_add : OpD K rAddA opAdd := fun H Hs x y dx dy res s hx hy e Q k => by
  unfold opAdd at e
  split at e
  · cases e
    cases hx; cases hy
    exact .inl ⟨_, _, rfl, rfl, k _ H Hs (Ext.refl s) (.int _)⟩
  · split at e
    case isFalse => cases e
    rename_i hf
    cases e
    cases hx; cases hy
    exact .inr (.inl ⟨_, _, rfl, rfl, few_ok hf, k _ H Hs (Ext.refl s) (.str _)⟩)
  · split at e
    case isFalse => cases e
    rename_i hf
    cases e
    cases hx with
    | lst h1 d1 =>
      cases hy with
      | lst h2 d2 =>
        exact .inr (.inr ⟨_, _, _, _, rfl, rfl, s _ _ h1, s _ _ h2, by rw [d1.len, d2.len]; exact few_ok hf, fun p hp =>
          k _ _ Hs (Ext.hid s hp) ⟨p, _, rfl, hp, upd_same, none_sub s hp, _, rfl, d1.app d2⟩⟩)
  · cases e
theorem od_sub : OpD K rSubA opSub := fun H Hs x y dx dy res s hx hy e Q k => by
  unfold opSub at e
  split at e
  case h_2 => cases e
  cases e
  cases hx; cases hy
  exact ⟨_, _, rfl, rfl, k _ H Hs (Ext.refl s) (.int _)⟩
theorem od_mul : OpD K rMulA opMul := fun H Hs x y dx dy res s hx hy e Q k => by
  unfold opMul at e
  split at e
  · split at e
    case isFalse => cases e
    rename_i hf
    cases e
    cases hx; cases hy
    exact .inl ⟨_, _, rfl, rfl, okMul_ok hf, k _ H Hs (Ext.refl s) (.int _)⟩
  · split at e
    case isFalse => cases e
    rename_i hf
    rw [Bool.and_eq_true] at hf
    cases e
    cases hx with
    | lst h1 d1 =>
      cases hy
      obtain ⟨z1, z2⟩ : -(2 ^ 62) ≤ _ ∧ _ < 2 ^ 62 := okR_inv hf.1
      exact .inr ⟨_, _, _, rfl, rfl, s _ _ h1, by omega, by omega, by rw [d1.len]; exact few_ok hf.2, fun p hp =>
        k _ _ Hs (Ext.hid s hp) ⟨p, _, rfl, hp, upd_same, none_sub s hp, _, rfl, d1.rep _⟩⟩
  · cases e
theorem od_fdiv : OpD K rFdivA opFdiv := fun H Hs x y dx dy res s hx hy e Q k => by
  unfold opFdiv at e
  split at e
  case h_2 => cases e
  split at e
  case isFalse => cases e
  rename_i hf
  unfold okDiv at hf
  rw [Bool.and_eq_true] at hf
  cases e
  cases hx; cases hy
  exact ⟨_, _, rfl, rfl, ⟨of_decide_eq_true hf.1, of_decide_eq_true hf.2⟩, k _ H Hs (Ext.refl s) (.int _)⟩
theorem od_mod : OpD K rModA opMod := fun H Hs x y dx dy res s hx hy e Q k => by
  unfold opMod at e
  split at e
  case h_2 => cases e
  split at e
  case isFalse => cases e
  rename_i hf
  cases e
  cases hx; cases hy
  exact ⟨_, _, rfl, rfl, of_decide_eq_true hf, k _ H Hs (Ext.refl s) (.int _)⟩
theorem od_pow : OpD K rPowA opPow := fun H Hs x y dx dy res s hx hy e Q k => by
  unfold opPow at e
  split at e
  case h_2 => cases e
  split at e
  case isFalse => cases e
  rename_i hf
  unfold okPow at hf
  rw [Bool.and_eq_true, Bool.and_eq_true] at hf
  cases e
  cases hx; cases hy
  exact ⟨_, _, rfl, rfl, ⟨of_decide_eq_true hf.1.1, of_decide_eq_true hf.1.2, of_decide_eq_true hf.2⟩, k _ H Hs (Ext.refl s) (.int _)⟩
theorem od_cmp {p : Int → Int → Bool} : OpD K (rI0 fun i j => .bl (p i j)) (cmp p) := fun H Hs x y dx dy res s hx hy e Q k => by
  unfold cmp at e
  split at e
  case h_2 => cases e
  cases e
  cases hx; cases hy
  exact ⟨_, _, rfl, rfl, k _ H Hs (Ext.refl s) (.bl _)⟩
theorem od_lt : OpD K (rI0 fun i j => .bl (decide (i < j))) opLt := od_cmp
theorem od_le : OpD K (rI0 fun i j => .bl (decide (i ≤ j))) opLe := od_cmp
theorem od_gt : OpD K (rI0 fun i j => .bl (decide (j < i))) opGt := od_cmp
theorem od_ge : OpD K (rI0 fun i j => .bl (decide (j ≤ i))) opGe := od_cmp
mutual
theorem toPy_ok {H : Hp} : ∀ {d : D} {v : V} {p : PyData}, DR K H v d → toPy d = some p → Dp K H v p
  | .non, _, _, h, e => by cases h; unfold toPy at e; cases e; exact .non
  | .bl b, _, _, h, e => by cases h; unfold toPy at e; cases e; exact .bl b
  | .int i, _, _, h, e => by cases h; unfold toPy at e; cases e; exact .int i
  | .str x, _, _, h, e => by cases h; unfold toPy at e; cases e; exact .str x
  | .lst xs, _, _, h, e => by
    unfold toPy at e
    cases z : toPys xs with
    | none => rw [z] at e; cases e
    | some ps =>
      rw [z] at e
      cases e
      cases h with
      | lst h1 d1 => exact .lst (SqL.of h1) (toPys_ok d1 z)
  | .frz xs, _, _, h, e => by
    unfold toPy at e
    cases z : toPys xs with
    | none => rw [z] at e; cases e
    | some ps =>
      rw [z] at e
      cases e
      cases h with
      | frz h1 d1 => exact .lst h1 (toPys_ok d1 z)
  | .tup xs, _, _, h, e => by
    unfold toPy at e
    cases z : toPys xs with
    | none => rw [z] at e; cases e
    | some ps =>
      rw [z] at e
      cases e
      cases h with
      | tup h1 d1 => exact .tup h1 (toPys_ok d1 z)
  | .obj _ _, _, _, _, e => by unfold toPy at e; cases e
  | .ty _, _, _, _, e => by unfold toPy at e; cases e
  | .cl _, _, _, _, e => by unfold toPy at e; cases e
  | .dic _ _, _, _, _, e => by unfold toPy at e; cases e
theorem toPys_ok {H : Hp} : ∀ {ds : List D} {vs : List V} {ps : List PyData}, DRs K H vs ds → toPys ds = some ps → DpAll K H vs ps
  | [], _, _, h, e => by cases h; unfold toPys at e; cases e; exact .nil
  | d :: ds, _, _, h, e => by
    unfold toPys at e
    split at e
    case h_2 => cases e
    rename_i h1 h2
    cases e
    cases h with
    | cons a b => exact .cons (toPy_ok a h1) (toPys_ok b h2)
end
theorem shaped_int (i : Int) : SeqAt.shaped (.int i) = true := by
  unfold SeqAt.shaped
  simp [PyData.canLay0, PyData.depth]
theorem eqD_ok {H : Hp} {x y : V} {a b : D} {k : Bool} (hx : DR K H x a) (hy : DR K H y b) (e : eqD a b = some k) :
    (∃ p q, Dp K H x p ∧ Dp K H y q ∧ SeqAt.shaped p = true ∧ SeqAt.shaped q = true ∧ PyData.eqv p q = k) ∨ (scal x y = true ∧ decide (x = y) = k) := by
  unfold eqD at e
  split at e
  · cases e
    cases hx; cases hy
    exact .inl ⟨_, _, .int _, .int _, shaped_int _, shaped_int _, by simp only [PyData.eqv]; exact Bool.beq_eq_decide_eq _ _⟩
  · cases e
    cases hx; cases hy
    exact .inr ⟨rfl, by simp⟩
  · split at e
    case h_2 => cases e
    rename_i h1 h2
    split at e
    case isFalse => cases e
    rename_i hf
    rw [Bool.and_eq_true] at hf
    cases e
    exact .inl ⟨_, _, toPy_ok hx h1, toPy_ok hy h2, hf.1, hf.2, rfl⟩
def rEqA (K : PySem.W.Frag) : R2 := fun x y H Q => rEqD K x y H Q ∨ rEq x y H Q
def rNeA (K : PySem.W.Frag) : R2 := fun x y H Q => rNeD K x y H Q ∨ rNe x y H Q
theorem op_eqA {X : Cx} (hu : X.A.units + 64 < cLine) : OpR X (compareOp .Eq) (rEqA X.K) := (op_eqD hu).or op_eq
theorem op_neA {X : Cx} (hu : X.A.units + 64 < cLine) : OpR X (compareOp .NotEq) (rNeA X.K) := (op_neD hu).or op_ne
theorem dp_mono {H H' : Hp} (s : Same H H') {x : V} {d : D} {p : PyData} (h : DR K H x d) (e : toPy d = some p) : Dp K H' x p := toPy_ok (h.mono s) e
theorem od_eq : OpD K (rEqA K) opEq := fun H Hs x y dx dy res s hx hy e Q k => by
  unfold opEq at e
  cases z : eqD dx dy with
  | none => rw [z] at e; cases e
  | some b =>
    rw [z] at e
    cases e
    rcases eqD_ok (hx.mono s) (hy.mono s) z with ⟨p, q, a1, a2, a3, a4, a5⟩ | ⟨a1, a2⟩
    · exact .inl ⟨p, q, a1, a2, a3, a4, by rw [a5]; exact k _ H Hs (Ext.refl s) (.bl _)⟩
    · exact .inr ⟨a1, by rw [a2]; exact k _ H Hs (Ext.refl s) (.bl _)⟩
theorem od_ne : OpD K (rNeA K) opNe := fun H Hs x y dx dy res s hx hy e Q k => by
  unfold opNe at e
  cases z : eqD dx dy with
  | none => rw [z] at e; cases e
  | some b =>
    rw [z] at e
    cases e
    rcases eqD_ok (hx.mono s) (hy.mono s) z with ⟨p, q, a1, a2, a3, a4, a5⟩ | ⟨a1, a2⟩
    · exact .inl ⟨p, q, a1, a2, a3, a4, by rw [a5]; exact k _ H Hs (Ext.refl s) (.bl _)⟩
    · exact .inr ⟨a1, by rw [a2]; exact k _ H Hs (Ext.refl s) (.bl _)⟩
theorem isN_ok {H : Hp} {x : V} {d : D} (h : DR K H x d) : decide (x = .non) = isN d := by
  cases h <;> simp [isN]
theorem od_is : OpD K rIsA opIs := fun H Hs x y dx dy res s hx hy e Q k => by
  unfold opIs at e
  cases z : isD dx dy with
  | none => rw [z] at e; cases e
  | some b =>
    rw [z] at e
    cases e
    unfold isD at z
    split at z
    · cases z
      cases hy
      exact .inl ⟨rfl, by rw [isN_ok hx]; exact k _ H Hs (Ext.refl s) (.bl _)⟩
    · cases z
      cases hx; cases hy
      exact .inr ⟨_, _, rfl, rfl, k _ H Hs (Ext.refl s) (.bl _)⟩
    · cases z
theorem od_isNot : OpD K rIsNotA opIsNot := fun H Hs x y dx dy res s hx hy e Q k => by
  unfold opIsNot at e
  cases z : isD dx dy with
  | none => rw [z] at e; cases e
  | some b =>
    rw [z] at e
    cases e
    unfold isD at z
    split at z
    · cases z
      cases hy
      exact .inl ⟨rfl, by rw [isN_ok hx]; exact k _ H Hs (Ext.refl s) (.bl _)⟩
    · cases z
      cases hx; cases hy
      exact .inr ⟨_, _, rfl, rfl, k _ H Hs (Ext.refl s) (.bl _)⟩
    · cases z
theorem od_ix : OpD K (rIx K) opIx := fun H Hs x y dx dy res s hx hy e Q k => by
  have fin : ∀ {vs : List V} {ds : List D} {i : Int}, DRs K Hs vs ds → (atI ds i).map R.im = some res → ∃ w, atI vs i = some w ∧ Q w H := fun {vs ds i} h z => by
    cases z1 : atI ds i with
    | none => rw [z1] at z; cases z
    | some d =>
      rw [z1] at z
      cases z
      obtain ⟨w, w1, w2⟩ := at_ok h z1
      exact ⟨w, w1, k w H Hs (Ext.refl s) w2⟩
  unfold opIx at e
  split at e
  · cases hx with
    | lst h1 d1 =>
      cases hy
      obtain ⟨w, w1, w2⟩ := fin d1 e
      exact .inl ⟨_, _, _, w, rfl, rfl, SqL.of (s _ _ h1), w1, w2⟩
  · cases hx with
    | frz h1 d1 =>
      cases hy
      obtain ⟨w, w1, w2⟩ := fin d1 e
      exact .inl ⟨_, _, _, w, rfl, rfl, same_lst s h1, w1, w2⟩
  · cases hx with
    | tup h1 d1 =>
      cases hy
      obtain ⟨w, w1, w2⟩ := fin d1 e
      exact .inr (.inl ⟨_, _, _, w, rfl, rfl, same_tup s h1, w1, w2⟩)
  · split at e
    case isFalse => cases e
    rename_i hf
    rename_i z i
    cases hx; cases hy
    cases z1 : atI z.cps.toList i with
    | none => rw [z1] at e; cases e
    | some c =>
      rw [z1] at e
      cases e
      exact .inr (.inr ⟨z, i, c, rfl, rfl, few_ok hf, z1, k _ H Hs (Ext.refl s) (.str _)⟩)
  · cases e
theorem ud_neg : UnD K (rU fun i => .int (-i)) unNeg := fun H Hs x dx res s hx e Q k => by
  unfold unNeg at e
  split at e
  case h_2 => cases e
  cases e
  cases hx
  exact ⟨_, rfl, k _ H Hs (Ext.refl s) (.int _)⟩
/-- slices of lists -/
def cutD (xs : List D) (lo hi : Option Int) : List D := (xs.drop (HT.sIx xs.length 0 lo)).take (HT.sIx xs.length xs.length hi - HT.sIx xs.length 0 lo)
theorem cut_ok {H : Hp} {vs : List V} {ds : List D} (h : DRs K H vs ds) (lo hi : Option Int) : DRs K H (cutV vs lo hi) (cutD ds lo hi) := by
  unfold cutV cutD
  rw [h.len]
  exact (h.drop _).take _
def slL (d : D) (lo hi : Option Int) : Option R := match asL d with
  | some xs => some (.ol (cutD xs lo hi))
  | none => none
theorem sd_list : SlD K (rSlL K) slL := fun H Hs x dx l h res s hx e Q k => by
  unfold slL at e
  cases z : asL dx with
  | none => rw [z] at e; cases e
  | some xs =>
    rw [z] at e
    cases e
    obtain ⟨a, vs, rfl, h1, d1⟩ := asL_ok hx z
    exact ⟨a, vs, rfl, same_lst s h1, fun p hp => k _ _ Hs (Ext.hid s hp) ⟨p, _, rfl, hp, upd_same, none_sub s hp, _, rfl, cut_ok d1 _ _⟩⟩
def cbAbs : List D → Option R
  | [.int i] => some (.im (.int (if i < 0 then -i else i)))
  | _ => none
def rAbs : List V → Hp → VK → Prop := fun xs H Q => ∃ i, xs = [.int i] ∧ Q (.int (if i < 0 then -i else i)) H
theorem cr_abs {X : Cx} : CallR X (.builtin "abs") rAbs := call_abs
theorem cd_abs : CbD K rAbs cbAbs := fun H Hs xs ds res s h e Q k => by
  unfold cbAbs at e
  split at e
  case h_2 => cases e
  cases e
  cases h with
  | cons a b => cases b; cases a; exact ⟨_, rfl, k _ H Hs (Ext.refl s) (.int _)⟩
def cbInt : List D → Option R
  | [.int i] => some (.im (.int i))
  | [.bl b] => some (.im (.int (if b then 1 else 0)))
  | _ => none
def rInt : List V → Hp → VK → Prop := fun xs H Q => (∃ i, xs = [.int i] ∧ Q (.int i) H) ∨ ∃ k, xs = [.bl k] ∧ Q (.int (if k then 1 else 0)) H
theorem cr_int {X : Cx} : CallR X (.type "int") rInt := call_int1
theorem cd_int : CbD K rInt cbInt := fun H Hs xs ds res s h e Q k => by
  unfold cbInt at e
  split at e
  · cases e
    cases h with
    | cons a b => cases b; cases a; exact .inl ⟨_, rfl, k _ H Hs (Ext.refl s) (.int _)⟩
  · cases e
    cases h with
    | cons a b => cases b; cases a; exact .inr ⟨_, rfl, k _ H Hs (Ext.refl s) (.int _)⟩
  · cases e
def lenD : D → Option Nat
  | .lst xs => some xs.length
  | .frz xs => some xs.length
  | .tup xs => some xs.length
  | .str x => if few x.length then some x.length else none
  | _ => none
def cbLen : List D → Option R
  | [d] => (lenD d).map fun n => .im (.int n)
  | _ => none
theorem cr_len {X : Cx} : CallR X (.builtin "len") (rLen X.K) := call_len
theorem lenD_ok {H : Hp} {x : V} {d : D} {n : Nat} (h : DR K H x d) (e : lenD d = some n) : LenV K x H n := by
  cases h with
  | lst h1 d1 => cases e; exact .inl ⟨_, SqL.of h1, d1.len.symm⟩
  | frz h1 d1 => cases e; exact .inl ⟨_, h1, d1.len.symm⟩
  | tup h1 d1 => cases e; exact .inr ⟨_, h1, d1.len.symm⟩
  | str x =>
    by_cases hf : few x.length = true
    · rw [show lenD (.str x) = some x.length from if_pos hf] at e
      cases e
      exact ⟨few_ok hf, rfl⟩
    · rw [show lenD (.str x) = none from if_neg hf] at e
      cases e
  | _ => cases e
theorem cd_len : CbD K (rLen K) cbLen := fun H Hs xs ds res s h e Q k => by
  unfold cbLen at e
  split at e
  case h_2 => cases e
  rename_i d
  cases z : lenD d with
  | none => rw [z] at e; cases e
  | some n =>
    rw [z] at e
    cases e
    cases h with
    | cons a b =>
      cases b
      exact ⟨_, n, rfl, lenD_ok (a.mono s) z, k _ H Hs (Ext.refl s) (.int _)⟩
def cbMax2 : List D → Option R
  | [.int i, .int j] => some (.im (.int (if j > i then j else i)))
  | _ => none
def cbMin2 : List D → Option R
  | [.int i, .int j] => some (.im (.int (if j < i then j else i)))
  | _ => none
def rMax2 : List V → Hp → VK → Prop := fun xs H Q => ∃ i j, xs = [.int i, .int j] ∧ Q (.int (if j > i then j else i)) H
def rMin2 : List V → Hp → VK → Prop := fun xs H Q => ∃ i j, xs = [.int i, .int j] ∧ Q (.int (if j < i then j else i)) H
theorem cr_max2 {X : Cx} (hc : X.calm = true) : CallR X (.builtin "max") rMax2 := call_max2 hc
theorem cr_min2 {X : Cx} (hc : X.calm = true) : CallR X (.builtin "min") rMin2 := call_min2 hc
theorem cd_max2 : CbD K rMax2 cbMax2 := fun H Hs xs ds res s h e Q k => by
  unfold cbMax2 at e
  split at e
  case h_2 => cases e
  cases e
  cases h with
  | cons a b =>
    cases b with
    | cons b c => cases c; cases a; cases b; exact ⟨_, _, rfl, k _ H Hs (Ext.refl s) (.int _)⟩
theorem cd_min2 : CbD K rMin2 cbMin2 := fun H Hs xs ds res s h e Q k => by
  unfold cbMin2 at e
  split at e
  case h_2 => cases e
  cases e
  cases h with
  | cons a b =>
    cases b with
    | cons b c => cases c; cases a; cases b; exact ⟨_, _, rfl, k _ H Hs (Ext.refl s) (.int _)⟩
def bools : List D → Option (List Bool)
  | [] => some []
  | .bl b :: ds => match bools ds with
    | some bs => some (b :: bs)
    | none => none
  | _ :: _ => none
theorem bools_ok {H : Hp} : ∀ {ds : List D} {vs : List V} {bs : List Bool}, DRs K H vs ds → bools ds = some bs → vs = bs.map V.bl
  | [], _, _, h, e => by cases h; cases e; rfl
  | d :: ds, _, _, h, e => by
    cases h with
    | cons a b =>
      unfold bools at e
      split at e
      · rename_i heq; cases heq
      · rename_i heq
        cases heq
        split at e
        case h_2 => cases e
        rename_i z
        cases e
        cases a
        rw [List.map_cons, ← bools_ok b z]
      · cases e
def cbAll : List D → Option R
  | [d] => match asL d with
    | some xs => (bools xs).map fun bs => .im (.bl (bs.all id))
    | none => none
  | _ => none
theorem cd_all : CbD K (rAll K) cbAll := fun H Hs xs ds res s h e Q k => by
  unfold cbAll at e
  split at e
  case h_2 => cases e
  split at e
  case h_2 => cases e
  rename_i ys z
  cases z1 : bools ys with
  | none => rw [z1] at e; cases e
  | some bs =>
    rw [z1] at e
    cases e
    cases h with
    | cons a b =>
      cases b
      obtain ⟨l, vs, rfl, h1, d1⟩ := asL_ok a z
      exact ⟨l, bs, rfl, by rw [← bools_ok d1 z1]; exact same_lst s h1, k _ H Hs (Ext.refl s) (.bl _)⟩
def cbTuple : List D → Option R
  | [.tup xs] => some (.im (.tup xs))
  | [d] => (asL d).map fun xs => .im (.tup xs)
  | _ => none
def rTupleOf (K : PySem.W.Frag) : List V → Hp → VK → Prop := fun xs H Q => ∃ p ys, xs = [.ref p] ∧ ((SqL K H p ys ∧ ∀ l, H l = none → Q (.ref l) (upd H l (.tup ys))) ∨ (SqT K H p ys ∧ Q (.ref p) H))
theorem cr_tuple {X : Cx} : CallR X (.type "tuple") (rTupleOf X.K) := call_tuple_of
theorem cd_tuple : CbD K (rTupleOf K) cbTuple := fun H Hs xs ds res s h e Q k => by
  unfold cbTuple at e
  split at e
  · cases e
    cases h with
    | cons a b =>
      cases b
      cases a with
      | tup h1 d1 => exact ⟨_, _, rfl, .inr ⟨same_tup s h1, k _ H Hs (Ext.refl s) (.tup h1 d1)⟩⟩
  · rename_i d _
    cases z : asL d with
    | none => rw [z] at e; cases e
    | some ys =>
      rw [z] at e
      cases e
      cases h with
      | cons a b =>
        cases b
        obtain ⟨l, vs, rfl, h1, d1⟩ := asL_ok a z
        exact ⟨l, vs, rfl, .inl ⟨same_lst s h1, fun p hp => k _ _ _ (Ext.new s hp) (.tup (SqT.of upd_same) (d1.mono (Ext.new (o := HO.tup vs) s hp).b))⟩⟩
  · cases e
def seqD : D → Option (List D)
  | .lst xs => some xs
  | .frz xs => some xs
  | .tup xs => some xs
  | _ => none
def tyS : D → Option String
  | .non => some "NoneType"
  | .bl _ => some "bool"
  | .int _ => some "int"
  | .str _ => some "str"
  | .lst _ => some "list"
  | .frz _ => some "list"
  | .tup _ => some "tuple"
  | _ => none
def isiT (a b : String) : Option Bool :=
  if ["int", "bool", "str", "list", "tuple"].contains b then some (a == b || (a == "bool" && b == "int")) else none
theorem isiT_ok {a b : String} {k : Bool} (ha : ["NoneType", "bool", "int", "str", "list", "tuple"].contains a = true) (h : isiT a b = some k) : kitB a b = some k := by
  have hb : ["int", "bool", "str", "list", "tuple"].contains b = true := by
    unfold isiT at h
    split at h
    · assumption
    · cases h
  have key : (["NoneType", "bool", "int", "str", "list", "tuple"].all fun a => ["int", "bool", "str", "list", "tuple"].all fun b => decide (kitB a b = isiT a b)) = true := by decide +kernel
  rw [List.all_eq_true] at key
  have k1 := key a (by simpa using ha)
  rw [List.all_eq_true] at k1
  have k2 := of_decide_eq_true (k1 b (by simpa using hb))
  rw [k2]
  exact h
theorem tyS_ok {H : Hp} {x : V} {d : D} {t : String} (h : DR K H x d) (e : tyS d = some t) : TyX K H x (.type t) ∧ ["NoneType", "bool", "int", "str", "list", "tuple"].contains t = true := by
  cases h with
  | non => cases e; exact ⟨.base .non, by decide⟩
  | bl b => cases e; exact ⟨.base (.bl b), by decide⟩
  | int i => cases e; exact ⟨.base (.int i), by decide⟩
  | str x => cases e; exact ⟨.base (.str x), by decide⟩
  | lst h1 d1 => cases e; exact ⟨.base (.lst h1), by decide⟩
  | frz h1 d1 =>
    cases e
    rcases h1 with (h1 | ⟨o, h1⟩) | ⟨o, its, n, h1, h2, _⟩
    · exact ⟨.base (.lst h1), by decide⟩
    · exact ⟨.base (.frz h1), by decide⟩
    · exact ⟨.kList h1 h2, by decide⟩
  | tup h1 d1 =>
    cases e
    rcases h1 with (h1 | ⟨o, h1⟩) | ⟨o, its, n, h1, h2, _⟩
    · exact ⟨.base (.tup h1), by decide⟩
    · exact ⟨.fTuple h1, by decide⟩
    · exact ⟨.kTuple h1 h2, by decide⟩
  | _ => cases e
def cbIsi : List D → Option R
  | [d, .ty c] => match tyS d with
    | some t => (isiT t c).map fun k => .im (.bl k)
    | none => none
  | _ => none
theorem cd_isi : CbD K (rIsi K) cbIsi := fun H Hs xs ds res s h e Q k => by
  unfold cbIsi at e
  split at e
  case h_2 => cases e
  rename_i d c
  cases z : tyS d with
  | none => rw [z] at e; cases e
  | some t =>
    simp only [z] at e
    cases z1 : isiT t c with
    | none => rw [z1] at e; cases e
    | some b =>
      rw [z1] at e
      cases e
      cases h with
      | cons a a2 =>
        cases a2 with
        | cons a2 a3 =>
          cases a3
          cases a2
          obtain ⟨t1, t2⟩ := tyS_ok (a.mono s) z
          exact ⟨_, _, _, _, b, rfl, .ty c, t1, kit_ty (isiT_ok t2 z1), k _ H Hs (Ext.refl s) (.bl _)⟩
end
end Bk
namespace Bk
open PySem L2
def pad (n : Nat) (ds : List D) : Gam := ds.map Ent.im ++ List.replicate (n - ds.length) Ent.un
def outF : Option (Fl × Gam) → Option R
  | some (.rt r, _) => some r
  | some (.nx, _) => some (.im .non)
  | _ => none
def runF (k n : Nat) (b : MS) (ds : List D) : Option R := if ds.length = k then outF (b (pad n ds)) else none
def outB : Option (Fl × Gam) → Option (R × Mob)
  | some (.rt r, .bx bs :: _) => some (r, bs)
  | some (.nx, .bx bs :: _) => some (.im .non, bs)
  | _ => none
def runB (k n : Nat) (b : MS) (bs : Mob) (ds : List D) : Option (R × Mob) := if ds.length + 1 = k then outB (b (.bx bs :: pad (n - 1) ds)) else none
/-- what stands but is hidden -/
def hid (H Hs : Hp) : Hp := fun a => match Hs a with
  | none => H a
  | some _ => none
theorem hid_some {H Hs : Hp} {a : Addr} {o : HO} (h : hid H Hs a = some o) : H a = some o ∧ Hs a = none := by
  unfold hid at h
  cases z : Hs a with
  | none => rw [z] at h; exact ⟨h, rfl⟩
  | some u => rw [z] at h; cases h
theorem hid_of {H Hs : Hp} {a : Addr} {o : HO} (h : H a = some o) (n : Hs a = none) : hid H Hs a = some o := by
  unfold hid
  rw [n]
  exact h
section
variable {K : PySem.W.Frag}
theorem pad_get {n : Nat} {ds : List D} {i : Nat} {e : Ent} (h : (pad n ds)[i]? = some e) : (∃ d, ds[i]? = some d ∧ e = .im d) ∨ e = .un := by
  unfold pad at h
  rw [List.getElem?_append] at h
  split at h
  · rw [List.getElem?_map] at h
    cases z : ds[i]? with
    | none => rw [z] at h; cases h
    | some d => rw [z] at h; cases h; exact .inl ⟨d, rfl, rfl⟩
  · exact .inr (List.eq_of_mem_replicate (List.mem_of_getElem? h))
theorem pad_len (n : Nat) (ds : List D) (h : ds.length ≤ n) : (pad n ds).length = n := by
  unfold pad
  rw [List.length_append, List.length_map, List.length_replicate]
  omega
theorem start_get {N : List PySem.Str} {vs : List V} {i : Nat} {v : V} (h : vs[i]? = some v) : (L2.start N vs)[i]? = some (some v) := by
  unfold L2.start
  have hl : i < (vs.map some).length := by
    rw [List.length_map]
    exact (List.getElem?_eq_some_iff.mp h).1
  rw [List.getElem?_append_left hl, List.getElem?_map, h]
  rfl
theorem start_len {N : List PySem.Str} {vs : List V} (h : vs.length ≤ N.length) : (L2.start N vs).length = N.length := by
  unfold L2.start
  rw [List.length_append, List.length_map, List.length_replicate]
  omega
theorem rel_start {N : List PySem.Str} {H Hs : Hp} {vs : List V} {ds : List D} (s : Same Hs H) (d : DRs K Hs vs ds) (hl : vs.length ≤ N.length) : Rel K (hid H Hs) (fun _ => 0) (pad N.length ds) (L2.start N vs) H Hs := by
  refine ⟨s, fun a o h => hid_some h, by rw [start_len hl, pad_len _ _ (by rw [← d.len]; exact hl)], fun i e h => ?_, fun i e es h h0 => ?_, fun i j e e' l h1 _ m1 _ _ _ => ?_, fun i es h => ?_⟩
  · rcases pad_get h with ⟨e', h1, h2⟩ | h2
    · cases h2
      obtain ⟨v, v1, v2⟩ := d.at h1
      exact ⟨v, start_get v1, v2⟩
    · cases h2
  · rcases pad_get h with ⟨e', _, h2⟩ | h2
    · subst h2; cases h0
    · subst h2; cases h0
  · rcases pad_get h1 with ⟨e', _, h2⟩ | h2
    · subst h2; exact absurd rfl m1
    · subst h2; exact absurd rfl m1
  · rcases pad_get h with ⟨e', _, h2⟩ | h2
    · cases h2
    · cases h2
/-- behind a def's body: what the caller wants to know -/
theorem ext_end {Fz : Hp} {ba : Nat → Addr} {G : Gam} {σ : L2.St} {H Hs H' Hs' : Hp} (s : Same Hs H) (hf : Fz = hid H Hs) (q : Rel K Fz ba G σ H' Hs') (z : Same Hs Hs') : Ext H Hs H' Hs' := by
  subst hf
  refine ⟨fun a o h => ?_, z, q.sub, fun a o h n => (q.fz a o (hid_of h n)).2⟩
  cases y : Hs a with
  | none => exact (q.fz a o (hid_of h y)).1
  | some u =>
    have e := s a u y
    rw [h] at e
    cases e
    exact q.sub a o (z a o y)
theorem res_end {Fz : Hp} {G : Gam} {σ : L2.St} {H Hs H' Hs' : Hp} {v : V} {r : R} (hf : Fz = hid H Hs) (z : Same Hs Hs') (x : Res K Fz G σ H' Hs' v r) : ResF K H H' Hs' v r := by
  subst hf
  cases r with
  | im d => exact x
  | ow ds =>
    obtain ⟨p, vs, rfl, h1, h2, h3, h4, _⟩ := x
    refine ⟨p, vs, rfl, ?_, h1, h2, h4⟩
    cases y : H p with
    | none => rfl
    | some o =>
      cases y2 : Hs p with
      | some u =>
        rw [z p u y2] at h2
        cases h2
      | none =>
        rw [hid_of y y2] at h3
        cases h3
theorem fin_F {N : List PySem.Str} {k : Nat} {t : TS} {b : MS} (h : SOk K t b) (hk : k ≤ N.length) {vs : List V} {H : Hp} {Q : VK} {E : XK} (q : spF K (runF k N.length b) vs H Q E) : t { nx := fun _ H' => Q .non H', rt := Q } (L2.start N vs) H := by
  obtain ⟨Hs, ds, r, s, d, e, kk⟩ := q
  unfold runF at e
  split at e
  case isFalse => cases e
  rename_i hl
  have hv : vs.length ≤ N.length := by rw [d.len, hl]; exact hk
  have R0 := rel_start (N := N) s d hv
  cases z : b (pad N.length ds) with
  | none => rw [z] at e; cases e
  | some p =>
    obtain ⟨fl, G'⟩ := p
    rw [z] at e
    refine h _ _ _ _ _ _ fl G' R0 z _ ?_
    cases fl with
    | nx => cases e; exact fun σ' H' Hs' q1 s1 => kk .non H' Hs' (ext_end s rfl q1 s1) .non
    | rt r' => cases e; exact fun v σ' H' Hs' q1 s1 x => kk v H' Hs' (ext_end s rfl q1 s1) (res_end rfl s1 x)
    | bk => cases e
    | ct => cases e
theorem spF_len {k n : Nat} {b : MS} {vs : List V} {H : Hp} {Q : VK} {E : XK} (q : spF K (runF k n b) vs H Q E) : vs.length = k := by
  obtain ⟨Hs, ds, r, s, d, e, kk⟩ := q
  unfold runF at e
  split at e
  case isFalse => cases e
  rename_i hl
  rw [d.len, hl]
/-- the same with a list that may change -/
def hidB (l : Addr) (H Hs : Hp) : Hp := fun a => if a = l then none else hid H Hs a
theorem hidB_of {l : Addr} {H Hs : Hp} {a : Addr} {o : HO} (ne : a ≠ l) (h : H a = some o) (n : Hs a = none) : hidB l H Hs a = some o := by
  unfold hidB
  rw [if_neg ne]
  exact hid_of h n
theorem rel_startB {N : List PySem.Str} {H Hs : Hp} {l : Addr} {bvs : HO} {vs : List V} {bds : Mob} {ds : List D} (s : Same Hs H) (hl : H l = some bvs) (hn : Hs l = none) (hb : MobO K Hs bds bvs) (d : DRs K Hs vs ds) (hz : vs.length + 1 ≤ N.length) :
    Rel K (hidB l H Hs) (fun _ => l) (.bx bds :: pad (N.length - 1) ds) (L2.start N (.ref l :: vs)) H Hs := by
  have e0 : L2.start N (.ref l :: vs) = some (.ref l) :: (vs.map some ++ List.replicate (N.length - (vs.length + 1)) none) := rfl
  have sg : ∀ {i : Nat} {v : V}, vs[i]? = some v → (L2.start N (.ref l :: vs))[i + 1]? = some (some v) := fun {i v} h => start_get (vs := .ref l :: vs) (by simpa using h)
  refine ⟨s, fun a o h => ?_, ?_, fun i e h => ?_, fun i e es h h0 => ?_, fun i j e e' l' h1 h2 m1 m2 _ _ => ?_, fun i es h => ?_⟩
  · unfold hidB at h
    split at h
    · cases h
    · exact hid_some h
  · rw [start_len (by simpa using hz), List.length_cons, pad_len _ _ (by rw [← d.len]; omega)]
    omega
  · cases i with
    | zero => cases h
    | succ i =>
      rcases pad_get (show (pad (N.length - 1) ds)[i]? = some _ by simpa using h) with ⟨e', h1, h2⟩ | h2
      · cases h2
        obtain ⟨v, v1, v2⟩ := d.at h1
        exact ⟨v, sg v1, v2⟩
      · cases h2
  · cases i with
    | zero =>
      cases h
      cases h0
      exact ⟨l, bvs, by rw [e0]; rfl, hl, hn, by unfold hidB; rw [if_pos rfl], hb⟩
    | succ i =>
      rcases pad_get (show (pad (N.length - 1) ds)[i]? = some _ by simpa using h) with ⟨e', _, h2⟩ | h2
      · subst h2; cases h0
      · subst h2; cases h0
  · have only : ∀ {i : Nat} {e : Ent}, (Ent.bx bds :: pad (N.length - 1) ds)[i]? = some e → e.mu ≠ none → i = 0 := fun {i e} h m => by
      cases i with
      | zero => rfl
      | succ i =>
        rcases pad_get (show (pad (N.length - 1) ds)[i]? = some _ by simpa using h) with ⟨e', _, h2⟩ | h2
        · subst h2; exact absurd rfl m
        · subst h2; exact absurd rfl m
    rw [only h1 m1, only h2 m2]
  · cases i with
    | zero => rw [e0]; rfl
    | succ i =>
      rcases pad_get (show (pad (N.length - 1) ds)[i]? = some _ by simpa using h) with ⟨e', _, h2⟩ | h2
      · cases h2
      · cases h2
theorem fin_B {N : List PySem.Str} {k : Nat} {t : TS} {b : MS} (h : SOk K t b) (hk : k ≤ N.length) {vs : List V} {H : Hp} {Q : VK} {E : XK} (q : spB K (runB k N.length b) vs H Q E) : t { nx := fun _ H' => Q .non H', rt := Q } (L2.start N vs) H := by
  obtain ⟨Hs, l, vs', bvs, bds, ds, r, bds', rfl, s, hl, hn, hb, d, e, kk⟩ := q
  unfold runB at e
  split at e
  case isFalse => cases e
  rename_i hlen
  have R0 := rel_startB (N := N) s hl hn hb d (by rw [d.len, hlen]; exact hk)
  -- what the caller wants to know
  have ex : ∀ {G σ H' Hs' bs}, Rel K (hidB l H Hs) (fun _ => l) (.bx bs :: G) σ H' Hs' → Same Hs Hs' → ExtB l H Hs H' Hs' ∧ ∃ ws, H' l = some ws ∧ Hs' l = none ∧ MobO K Hs' bs ws := fun {G σ H' Hs' bs} q1 s1 => by
    have hs0 : σ[0]? = some (some (.ref l)) := q1.bx 0 bs rfl
    obtain ⟨l', ws, a1, a2, a3, a4, a5⟩ := q1.mu 0 _ bs rfl rfl
    rw [hs0] at a1
    cases a1
    refine ⟨⟨fun a o ne h => ?_, s1, q1.sub, fun a o h n => ?_⟩, ws, a2, a3, a5⟩
    · cases y : Hs a with
      | none => exact (q1.fz a o (hidB_of ne h y)).1
      | some u =>
        have e := s a u y
        rw [h] at e
        cases e
        exact q1.sub a o (s1 a o y)
    · by_cases ne : a = l
      · rw [ne]; exact a3
      · exact (q1.fz a o (hidB_of ne h n)).2
  have rs : ∀ {G σ H' Hs' bs v r}, Rel K (hidB l H Hs) (fun _ => l) (.bx bs :: G) σ H' Hs' → Same Hs Hs' → Res K (hidB l H Hs) (.bx bs :: G) σ H' Hs' v r → ResF K H H' Hs' v r := fun {G σ H' Hs' bs v r} q1 s1 x => by
    cases r with
    | im d => exact x
    | ow ds =>
      obtain ⟨p, vs, rfl, h1, h2, h3, h4, h5⟩ := x
      have ne : p ≠ l := fun y => by
        subst y
        exact h5 0 _ rfl (by simp [Ent.mu]) (q1.bx 0 bs rfl)
      refine ⟨p, vs, rfl, ?_, h1, h2, h4⟩
      cases y : H p with
      | none => rfl
      | some o =>
        cases y2 : Hs p with
        | some u =>
          rw [s1 p u y2] at h2
          cases h2
        | none =>
          rw [hidB_of ne y y2] at h3
          cases h3
  cases z : b (.bx bds :: pad (N.length - 1) ds) with
  | none => rw [z] at e; cases e
  | some p =>
    obtain ⟨fl, G'⟩ := p
    rw [z] at e
    refine h _ _ _ _ _ _ fl G' R0 z _ ?_
    cases fl with
    | nx =>
      cases G' with
      | nil => cases e
      | cons e0 G' =>
        cases e0 with
        | bx bs =>
          cases e
          intro σ' H' Hs' q1 s1
          obtain ⟨x1, ws, x2, x3, x4⟩ := ex q1 s1
          exact kk .non H' Hs' ws x1 x2 x3 x4 .non
        | _ => cases e
    | rt r' =>
      cases G' with
      | nil => cases e
      | cons e0 G' =>
        cases e0 with
        | bx bs =>
          cases e
          intro v σ' H' Hs' q1 s1 x
          obtain ⟨x1, ws, x2, x3, x4⟩ := ex q1 s1
          exact kk v H' Hs' ws x1 x2 x3 x4 (rs q1 s1 x)
        | _ => cases e
    | bk => cases e
    | ct => cases e
theorem spB_len {k n : Nat} {b : MS} {vs : List V} {H : Hp} {Q : VK} {E : XK} (q : spB K (runB k n b) vs H Q E) : vs.length = k := by
  obtain ⟨Hs, l, vs', bvs, bds, ds, r, bds', rfl, s, hl, hn, hb, d, e, kk⟩ := q
  unfold runB at e
  split at e
  case isFalse => cases e
  rename_i hl
  rw [List.length_cons, d.len, hl]
end
theorem scope_le {N ps : List PySem.Str} {sc : Scope} (S : FnScope N ps sc) : ps.length ≤ N.length := by
  have h := congrArg List.length S.pre
  rw [List.length_take] at h
  omega
section
variable {P : Program} {w : World} {K : PySem.W.Frag} {mg : PySem.Str → Option Value} {base : Heap}
theorem data_F {x qual : PySem.Str} {st : Stmt} {f : Addr} {fd : FuncData} {N ps : List PySem.Str} {k : Nat} {b : MS} (F : Fun K x qual st f fd) (S : FnScope N ps (defScope st))
    (hb : ∀ (cdv : Value) (A : Around) (outer : List Env) (s : Shared) (H : Hp) (E : XK), Room k (A.deeper (PyProof.Rows.envOfC qual (defScope st) s.heap.objs.size f cdv)) →
      ∃ t, PSs (cxOf CX0 P w K mg base N qual (defScope st) f cdv A outer s H E).nox (defBody st) t ∧ SOk K t b) : FnOk P w K mg base CX0 (k + 1) f fd ps (spF K (runF ps.length N.length b)) :=
  F.ok S (fun vs H Q E q => spF_len q) fun cdv A outer s H vs Q E hr q => by
    obtain ⟨t, h1, h2⟩ := hb cdv A outer s H E hr
    exact ⟨t, h1, fin_F h2 (scope_le S) q⟩
theorem data_B {x qual : PySem.Str} {st : Stmt} {f : Addr} {fd : FuncData} {N ps : List PySem.Str} {k : Nat} {b : MS} (F : Fun K x qual st f fd) (S : FnScope N ps (defScope st))
    (hb : ∀ (cdv : Value) (A : Around) (outer : List Env) (s : Shared) (H : Hp) (E : XK), Room k (A.deeper (PyProof.Rows.envOfC qual (defScope st) s.heap.objs.size f cdv)) →
      ∃ t, PSs (cxOf CX0 P w K mg base N qual (defScope st) f cdv A outer s H E).nox (defBody st) t ∧ SOk K t b) : FnOk P w K mg base CX0 (k + 1) f fd ps (spB K (runB ps.length N.length b)) :=
  F.ok S (fun vs H Q E q => spB_len q) fun cdv A outer s H vs Q E hr q => by
    obtain ⟨t, h1, h2⟩ := hb cdv A outer s H E hr
    exact ⟨t, h1, fin_B h2 (scope_le S) q⟩
end
end Bk
namespace Bk
open PySem L2 PyProof.Rows
section
variable {P : Program} {w : World} {K : PySem.W.Frag} {mg : PySem.Str → Option Value} {base : Heap}
/-- the law's def called with one object, no call around it -/
theorem call_law {nm qual x : PySem.Str} {st : Stmt} {f a : Addr} {fd : FuncData} {N : List PySem.Str} {k : Nat} {b : MS} {s : Shared} {H : Hp} {Q : VK} (F : Fun K nm qual st f fd) (S : FnScope N [x] (defScope st)) (hr : Room (k + 1) callerA)
    (hb : ∀ (cdv : Value) (s : Shared) (H : Hp) (E : XK), (callerA.deeper (PyProof.Rows.envOfC qual (defScope st) s.heap.objs.size f cdv)).guards = some [] → Room k (callerA.deeper (PyProof.Rows.envOfC qual (defScope st) s.heap.objs.size f cdv)) →
      ∃ t, PSs (cxOf CX0 P w K mg base N qual (defScope st) f cdv callerA [] s H E).nox (defBody st) t ∧ SOk K t b)
    (e0 : Env0 P w K mg base callerA [] s H) (bd0 : BindsTo s fd ⟨[.ref a], []⟩ [(x, .ref a)]) (q : spF K (runF 1 N.length b) [.ref a] H Q E0) :
    codeAny (model P w) callerA (.call (.ref f) ⟨[.ref a], []⟩) (CR CX0 [] P w H s Q E0) s := by
  obtain ⟨oc, od, kV, doc, pm, an, cdv, ct, osl, rfl, lk, hcd⟩ := F.ex
  have KX : K.In s.heap := e0.mod.kin.keeps fun c o z => (e0.bs c o z).1
  have lim : s.heap.NoLimit := e0.mod.nolimit.keeps fun c o z => (e0.bs c o z).1
  have hpar := S.par x List.mem_cons_self
  refine codeAny_call_function hr.depth (KX f _ lk) rfl S.co S.gen rfl (PySem.W.codeRec_of KX hcd) (bd0 _ _ _ _ ?_)
  have hkd : ∀ y ∈ [(x, Value.ref a)], (defScope st).names.lookup y.1 = some .local ∨ ((defScope st).names.lookup y.1 = some .cell ∧ ((cellsFrom (s.heap.objs.size + 1) (defScope st).names []).lookup y.1).isSome = true) := by
    intro y hy
    obtain rfl := List.mem_singleton.mp hy
    rcases hpar with z | z
    · exact .inl z
    · exact .inr ⟨z, PySem.W.cellsFrom_some _ _ _ (.inl z)⟩
  refine wpAny_newFunctionEnv_cells S.kind hkd fun env he s1 y => ?_
  subst he
  refine ⟨lim.keeps y.toInCall.keep, codeAny_func ?_⟩
  obtain ⟨t, ht, hs⟩ := hb cdv s H E0 rfl (hr.deeper _)
  have I : Inv (cxOf CX0 P w K mg base N qual (defScope st) f cdv callerA [] s H E0) [] (L2.start N [.ref a]) H s1 := inv_start S hr.hd e0 rfl (.cons rfl .nil) y
  refine wpAny_mono (ht.nox.run [] s1 _ H _ I (fin_F hs (scope_le S) q)) (fun fl s2 h2 => ?_) fun e s2 h2 => h2
  cases fl with
  | ret u =>
    obtain ⟨v, σ2, H2, J, rv, q2⟩ := h2
    exact ⟨v, H2, J.os, J.bare, J.base, J.hok, rv, q2⟩
  | next =>
    obtain ⟨σ2, H2, J, q2⟩ := h2
    exact ⟨V.non, H2, J.os, J.bare, J.base, J.hok, rfl, q2⟩
  | brk =>
    obtain ⟨_, _, _, q2⟩ := h2
    exact q2.elim
  | cont =>
    obtain ⟨_, _, _, q2⟩ := h2
    exact q2.elim
end
/-- the goal that the head leaves, from what the law's body computes -/
theorem law_end {l : PySem.W.OpenLaw} {q : Program} {loose : List PySem.Str} {XP : (PySem.Str → Option Value) → Heap → Prop} {YP : World → Heap → Prop} {d : DefRec} {K : Params → PySem.W.Frag} {x : PySem.Str} {m : List D → Option R}
    (hn : l.most = some 63) (hdf : d.params.defaults = []) (hY : ∀ (w : World) (h : Heap), YP w h → (K w.params).In h)
    (F : ∀ (w : World) (mg : PySem.Str → Option Value) (fa : Addr) (h : Heap), (K w.params).In h → h.Ns mainGlobals mg → mg d.name = some (.ref fa) →
      ∃ fd : FuncData, (∀ (s : Shared) (u : Value), BindsTo s fd ⟨[u], []⟩ [(x, u)]) ∧
        ∀ (base : Heap) (s : Shared) (H : Hp) (a : Addr) (Q : VK), (K w.params).In base → base.Ns mainGlobals mg → Env0 l.prog w (K w.params) mg base callerA [] s H → BindsTo s fd ⟨[.ref a], []⟩ [(x, .ref a)] → spF (K w.params) m [.ref a] H Q E0 →
          codeAny (model l.prog w) callerA (.call (.ref fa) ⟨[.ref a], []⟩) (CR CX0 [] l.prog w H s Q E0) s)
    (hm : ∀ ns : List Int, ns.length ≤ 63 → m [.frz (ns.map .int)] = some (.im (.bl true))) :
    PySem.W.WalkO q loose XP YP l.row.toRowW d [] (fun f vs => PySem.call f vs) := by
  refine Att.attach_call hn hdf fun w s0 s1 mg mb fa o pm cd doc a vs ns G Y ho hd hcd hmg hobj hints hlen hg => ?_
  have KX := hY w _ Y
  obtain ⟨fd, hb, hF⟩ := F w mg fa _ KX G.T.g hmg
  have rv := vals_ints hints
  have hz : (ns.map V.int).length ≤ sizeLine := by rw [List.length_map]; exact Nat.le_trans hlen (by decide)
  have hsz : vs.toArray.size ≤ sizeLine := by rw [List.size_toArray, ← rv.length]; exact hz
  -- the run, from an abstract heap that knows the script at most
  have go : ∀ H : Hp, (∀ c, H c ≠ none → c = a) → (∀ c, H c = none ∨ ∃ ob xs, H c = some (.frz ob (.lst xs))) → SqL (K w.params) H a (ns.map V.int) → HOk l.prog w H s1.heap → (H a ≠ none → (K w.params).lookup a = none) →
      codeAny (model l.prog w) callerA (.call (.ref fa) ⟨[.ref a], []⟩) (fun r s' => r = .ok (.ret (.bool true)) ∧ OldK s1.heap s'.heap ∧ s'.os = s1.os ∧ AllBare s'.gens) s1 := by
    intro H hA hO hS hok hK
    have keepB : ∀ {c : Addr} {ob : Obj}, s1.heap.get? c = some ob → H c = none → (hidT s1.heap H).get? c = some ob := fun e n => hidT_get e n
    have free : ∀ {c : Addr} {ob : Obj}, s1.heap.get? c = some ob → (∀ its n, ob.data ≠ .seq its n) → H c = none := fun {c ob} e nd => by
      cases z : H c with
      | none => rfl
      | some u =>
        have e' := hA c (by rw [z]; simp)
        subst e'
        rw [hobj] at e
        cases e
        exact absurd rfl (nd _ _)
    have nsB : ∀ {c : Addr} {m : PySem.Str → Option Value}, s1.heap.Ns c m → (hidT s1.heap H).Ns c m := fun {c m} ⟨ob, es, ep, e, dd, r⟩ => ⟨ob, es, ep, keepB e (free e fun its n z => by rw [dd] at z; cases z), dd, r⟩
    have KB : (K w.params).In (hidT s1.heap H) := fun c ob e => keepB (KX c ob e) (by
      cases z : H c with
      | none => rfl
      | some u =>
        have e' := hA c (by rw [z]; simp)
        subst e'
        rw [hK (by rw [z]; simp)] at e
        cases e)
    have MB : Mod (K w.params) mg (hidT s1.heap H) := ⟨KB, nsB G.T.g, ⟨mb, nsB G.T.b, G.T.builtins⟩, let ⟨mc, z1, z2⟩ := G.T.nolimit; ⟨mc, nsB z1, z2⟩⟩
    have e0 : Env0 l.prog w (K w.params) mg (hidT s1.heap H) callerA [] s1 H :=
      ⟨rfl, MB, fun c ob e => of_hidT e, Nat.le_of_eq (hidT_size _ _), trivial, fun c hc => absurd (show c ∈ ([] : List Addr) from hc) (by simp), hok, .of_eq hg⟩
    have sp : spF (K w.params) m [.ref a] H (fun v _ => v = .bl true) E0 :=
      ⟨H, _, _, Same.refl _, .cons (.frz hS (DRs.ints ns)) .nil, hm ns hlen, fun v H' Hs' _ r => dr_bl r⟩
    refine codeAny_mono (hF _ s1 H a _ KB (nsB G.T.g) e0 (hb s1 _) sp) fun r s2 h2 => ?_
    cases r with
    | error e => exact h2.elim
    | ok fl =>
      cases fl with
      | next => exact h2.elim
      | brk => exact h2.elim
      | cont => exact h2.elim
      | ret u =>
        obtain ⟨v, H2, os, bare, un, hok2, rv2, qv⟩ := h2
        have qv' : v = .bl true := qv
        subst qv'
        obtain rfl : u = Value.bool true := rv2
        refine ⟨rfl, OldK.of_keep fun c ob e => ?_, os, bare⟩
        rcases hO c with z | ⟨ob2, xs, z⟩
        · exact un.keep c ob e z (by intro y; exact absurd (show c ∈ ([] : List Addr) from y) (by simp)) (by simp)
        · have y := un.frzs c ob2 _ z
          obtain ⟨y1, _⟩ := hok c _ z
          obtain ⟨y2, _⟩ := hok2 c _ y
          rw [e] at y1
          cases y1
          exact y2
  cases hk : (K w.params).lookup a with
  | some ob =>
    have e := KX a ob hk
    rw [hobj] at e
    cases e
    exact go (fun _ => none) (fun c z => absurd rfl z) (fun _ => .inl rfl) (.inr ⟨_, vs.toArray, _, hk, rfl, rfl, rfl, hsz, by simpa using rv⟩) (fun c u z => by cases z) fun z => absurd rfl z
  | none =>
    have yes : ∀ {u : HO}, (if a = a then some u else none) = some u := fun {u} => if_pos rfl
    refine go (fun c => if c = a then some (.frz { cls := .type "list", data := .seq vs.toArray } (.lst (ns.map V.int))) else none) (fun c z => ?_) (fun c => ?_) (.inl (.inr ⟨_, yes⟩)) (fun c u z => ?_) fun _ => hk
    · refine Classical.byContradiction fun ne => z (if_neg ne)
    · by_cases e : c = a
      · exact .inr ⟨_, _, if_pos e⟩
      · exact .inl (if_neg e)
    · by_cases e : c = a
      · subst e
        have z' := yes.symm.trans z
        cases z'
        exact ⟨hobj, hz, vs, _, rv, hobj⟩
      · have z' := (if_neg e).symm.trans z
        cases z'
end Bk
namespace Bk
open PySem L2 PyProof.Rows
def rSlA (K : PySem.W.Frag) : V → Option Int → Option Int → Hp → VK → Prop := fun x lo hi H Q => rSlL K x lo hi H Q ∨ rSlT K x lo hi H Q
section
variable {K : PySem.W.Frag}
/-- xs[::k], k reckoned to be -1 -/
def tRevS (K : PySem.W.Frag) (te tk : TE) : TE := fun σ H Q => te σ H fun x H1 => tk σ H1 fun y H2 => y = .int (-1) ∧ (some (-1 : Int) = some (-1) ∧ ∃ a xs, x = .ref a ∧ SqL K H2 a xs ∧ ∀ p, H2 p = none → Q (.ref p) (upd H2 p (.lst xs.reverse)))
theorem pe_revS {X : Cx} {e st : Expr} {te tk : TE} {p3 pos : Pos} (he : PE X e te) (hk : PE X st tk) :
    PE X (.Subscript e (.Slice none none (some st) p3) pos) (tRevS X.K te tk) := by
  refine ⟨fun pins s σ H Q I h => ?_⟩
  refine Subscript_ (thn (he.run pins s σ H _ I h) fun v s1 ⟨x, H1, I1, r1, q1⟩ => ?_)
  refine wpAny_Slice (thn (po_none.run pins s1 σ H1 (fun o H2 => o = none ∧ H2 = H1) I1 ⟨rfl, rfl⟩) fun vl s2 ⟨l, H2, I2, pl, el, e2⟩ => ?_)
  subst el e2
  refine thn (po_none.run pins s2 σ H2 (fun o H3 => o = none ∧ H3 = H2) I2 ⟨rfl, rfl⟩) fun vu s3 ⟨u, H3, I3, pu, eu, e3⟩ => ?_
  subst eu e3
  have hst : PO X (some st) (fun σ H Q => tk σ H fun y H2 => y = .int (-1) ∧ Q (some (-1)) H2) := by
    refine ⟨fun pins s σ H Q I hw => ?_⟩
    rw [evalPart_some]
    refine thn (hk.run pins s σ H _ I hw) fun u s1 ⟨y, H1, I1, r1, q1⟩ => ?_
    obtain ⟨rfl, q⟩ := q1
    obtain ⟨t, rfl⟩ := r1
    exact ⟨some (-1), H1, I1, .int (-1) t, q⟩
  refine thn (hst.run pins s3 σ H3 (fun o H4 => o = some (-1) ∧ ∃ a xs, x = .ref a ∧ SqL X.K H4 a xs ∧ ∀ p, H4 p = none → Q (.ref p) (upd H4 p (.lst xs.reverse))) I3 q1) fun vs s4 ⟨o, H4, I4, ps, eo, a, xs, ex, hx, q⟩ => ?_
  subst eo ex
  cases r1
  have I5 : Inv X pins σ H4 { s4 with heap := s4.heap.push { cls := .type "slice", data := .fields #[vl, vu, vs] } } := I4.kept (t' := s4.toks) fun b ob q => Heap.get?_push_of_some _ q
  obtain ⟨its, r, ht, hz⟩ := I5.list hx
  have hlen := r.length
  show wpAny (model X.prog X.w) X.A (subscriptTail e (.Slice none none (some st) p3) (.ref a) (.ref s4.heap.objs.size)) (EP X pins σ Q) X.xe { s4 with heap := s4.heap.push { cls := .type "slice", data := .fields #[vl, vu, vs] } }
  refine tail_any (ops := [.ref a, .ref s4.heap.objs.size]) ht.isList.typeIs (PySem.slot_list_getitem.lookup) ?_ (by with_unfolding_all rfl)
  refine wpAny_getItem_list_slice ht.isList (Heap.IsSliceOf.new _ vl vu vs) pl pu ps (by decide) ?_ (by rw [List.size_toArray]; omega)
  rw [PySem.W.krv_pick]
  refine ⟨.ref _, _, I5.laid (t' := s4.toks) (o := .lst xs.reverse) (fun b ob q => Heap.get?_push_of_some _ q) (Nat.le_refl _) ?_, rfl, q _ (I5.hok.fresh (Nat.le_refl _))⟩
  exact ⟨by rw [List.length_reverse]; exact hz, _, 0, r.reverse, Heap.get?_push_size _ rfl⟩
def xrev (a b : M R) : M R := fun G => bd (a G) fun x G1 => bd (b G1) fun y G2 => match asL x.d, y.d with
  | some ds, .int k => if k = -1 then some (.ol ds.reverse, G2) else none
  | _, _ => none
theorem gk_rev {te tk : TE} {a b : M R} (ha : GOk K te a) (hb : GOk K tk b) : GOk K (tRevS K te tk) (xrev a b) := fun Fz ba G σ H Hs res G' q e Q k => by
  obtain ⟨x, G1, e1, e⟩ := bd_inv e
  obtain ⟨y, G2, e2, e⟩ := bd_inv e
  split at e
  case h_2 => cases e
  rename_i ds n h1 h2
  split at e
  case isFalse => cases e
  rename_i hn
  cases e
  refine ha.im q e1 fun v1 H1 Hs1 q1 s1 d1 => ?_
  refine hb.im q1 e2 fun v2 H2 Hs2 q2 s2 d2 => ?_
  rw [h2] at d2
  obtain ⟨a1, x1, rfl, l1, r1⟩ := asL_ok (d1.mono s2) h1
  refine ⟨by rw [dr_int d2, hn], rfl, a1, x1, rfl, same_lst q2.sub l1, fun p hp => ?_⟩
  have ex : Ext H2 Hs2 (upd H2 p (.lst x1.reverse)) Hs2 := Ext.hid q2.sub hp
  have rf : ResF K H2 (upd H2 p (.lst x1.reverse)) Hs2 (.ref p) (.ol ds.reverse) := ⟨p, _, rfl, hp, upd_same, none_sub q2.sub hp, _, rfl, r1.rev⟩
  exact k _ _ _ (q2.ext ex) ((s1.trans s2).trans ex.b) (rf.res q2)
def iSeq (K : PySem.W.Frag) (tl : TE) : TI := fun σ H R => tl σ H fun x H1 => ∃ a, x = .ref a ∧ (((∃ xs, SqL K H1 a xs) ∧ R (Itl K a) H1) ∨ ((∃ xs, SqT K H1 a xs) ∧ R (Itt K a) H1))
theorem pi_seq {X : Cx} {tg l : Expr} {tl : TE} (hl : PE X l tl) : PI X tg l (iSeq X.K tl) := by
  refine ⟨fun pins s σ H R I h => ?_⟩
  refine thn (hl.run pins s σ H _ I h) fun v s1 ⟨x, H1, I1, r1, q1⟩ => ?_
  obtain ⟨a, ex, hh⟩ := q1
  subst ex
  cases r1
  have fp : ∀ b ∈ [s1.heap.objs.size], FpOk X pins H1 b := fun b hb => by
    have e : b = s1.heap.objs.size := by simpa using hb
    subst e
    exact I1.fpOk (Nat.le_refl _) I1.fresh
  rcases hh with ⟨⟨xs, hq⟩, q⟩ | ⟨⟨xs, hq⟩, q⟩
  · obtain ⟨its, rv, p, hz⟩ := I1.list hq
    exact wpAny_pyIter_list p.isList ⟨_, _, _, _, H1, rfl, I1.kept (t' := s1.toks) fun b o e => Heap.get?_push_of_some _ e, turn_list a _, ⟨_, Heap.get?_push_size _ rfl, rfl, rfl⟩, fp, q⟩
  · obtain ⟨its, rv, p, hz⟩ := I1.tuple hq
    exact wpAny_pyIter_tuple (show s1.heap.IsTuple a its.toArray from p) ⟨_, _, _, _, H1, rfl, I1.kept (t' := s1.toks) fun b o e => Heap.get?_push_of_some _ e, turn_tuple a _, ⟨_, Heap.get?_push_size _ rfl, rfl, rfl⟩, fp, q⟩
def xseqI (a : M R) : M (List D) := fun G => bd (a G) fun x G1 => match seqD x.d with
  | some ds => some (ds, G1)
  | none => none
theorem ik_seq {ta : TE} {a : M R} (ha : GOk K ta a) : IOk K (iSeq K ta) (xseqI a) := fun Fz ba G σ H Hs ds G' q e Q k => by
  obtain ⟨x, G1, e1, e⟩ := bd_inv e
  refine ha.im q e1 fun v H1 Hs1 q1 s1 d => ?_
  cases h : x.d with
  | lst es =>
    rw [h] at e d
    cases e
    cases d with
    | lst hl hd => exact ⟨_, rfl, .inl ⟨⟨_, SqL.of (q1.sub _ _ hl)⟩, k _ H1 Hs1 q1 s1 (yl_list (SqL.of hl) hd)⟩⟩
  | frz es =>
    rw [h] at e d
    cases e
    cases d with
    | frz hl hd => exact ⟨_, rfl, .inl ⟨⟨_, same_lst q1.sub hl⟩, k _ H1 Hs1 q1 s1 (yl_list hl hd)⟩⟩
  | tup es =>
    rw [h] at e d
    cases e
    cases d with
    | tup hl hd => exact ⟨_, rfl, .inr ⟨⟨_, same_tup q1.sub hl⟩, k _ H1 Hs1 q1 s1 (yl_tup hl hd)⟩⟩
  | _ => rw [h] at e; cases e
end
theorem r70 {k : Nat} {A : Around} (hr : Room k A) : A.units + 70 < cLine := by
  have := hr.un
  omega
section
variable {X : Cx} {K : PySem.W.Frag} (hK : X.K = K)
include hK
theorem kop_eq (hu : X.A.units + 64 < cLine) : OpR X (compareOp .Eq) (rEqA K) := hK ▸ op_eqA hu
theorem kop_ne (hu : X.A.units + 64 < cLine) : OpR X (compareOp .NotEq) (rNeA K) := hK ▸ op_neA hu
theorem kix : IxR X (rIx K) := hK ▸ ix_seq
theorem kpi_seq {tg l : Expr} {tl : TE} (hl : PE X l tl) : PI X tg l (iSeq K tl) := hK ▸ pi_seq hl
theorem kcr_len : CallR X (.builtin "len") (rLen K) := hK ▸ cr_len
theorem kcr_all (hc : X.calm = true) : CallR X (.builtin "all") (rAll K) := hK ▸ cr_all hc
theorem kcr_tuple : CallR X (.type "tuple") (rTupleOf K) := hK ▸ cr_tuple
theorem kcr_isi : CallR X (.builtin "isinstance") (rIsi K) := hK ▸ call_isi
theorem kpe_rev {e st : Expr} {te tk : TE} {p3 pos : Pos} (he : PE X e te) (hk : PE X st tk) : PE X (.Subscript e (.Slice none none (some st) p3) pos) (tRevS K te tk) := hK ▸ pe_revS he hk
theorem kpg_tup {es : List Expr} {k : Nat} {t : TGs} {n : Nat} {pos : Pos} (hc : X.calm = true) (h : PGs X es t)
    (hn : (assignEach es X.env).length = n := by rfl) (hst : (assignEach es X.env).findIdx? (·.1) = none := by rfl) : PG X (.Tuple es k pos) (gTup K n t) := hK ▸ pg_tup hc h hn hst
def tTruK (K : PySem.W.Frag) (ta : TE) : TT := fun σ H Q => ta σ H fun x H' => ∃ k, TruV K x H' k ∧ Q k H'
theorem kpt_tru {a : Expr} {ta : TE} (ha : PE X a ta) (he : ∀ whole, isTrue a X.env whole = (do let v ← whole; standAt a.pos; holding [v] (truthy v))) : PT X a (tTruK K ta) := hK ▸ pt_truth ha he
theorem kpe_app {o e : Expr} {to te : TE} {apos cpos : Pos} (ho : PE X o to) (he : PE X e te)
    (hbase : attributeBase o "append" X.env (eval o X.env) = eval o X.env := by rfl)
    (hfew : ((backTo cpos (starEach [e] X.env)).all (fun x => !x.1) && (backToKw cpos (keywordEach [] X.env)).all (fun x => x.1.isSome) && decide ([e].length + ([] : List Keyword).length + (if ([] : List Keyword).isEmpty then 0 else 1) < 30)) = true := by rfl)
    (hline : (apos.endLine == cpos.line) = true := by rfl) (hs : starEach [e] X.env = (false, eval e X.env) :: starEach [] X.env := by rfl) (hplain : (backTo cpos (starEach [] X.env)).any (·.1) = false := by rfl) :
    PE X (.Call (.Attribute o "append" apos) [e] [] cpos) (tBM K "list" rAppend to (tCons te tNil)) :=
  hK ▸ pe_bm PySem.F.plainAttrs_list PySem.F.slot_list_append PySem.F.type_list_append mt_append ho (pa_cons he pa_nil hs) hbase hfew hline hs hplain
end
theorem tk_truK {K : PySem.W.Frag} {ta : TE} {a : M R} (ha : GOk K ta a) : TOk K (tTruK K ta) (xtru a) := tk_tru ha
/-- turns enough: one more than the number of the name at i -/
def fuelI (i : Nat) (G : Gam) : Nat := match G[i]? with
  | some (.im (.int j)) => j.natAbs + 1
  | _ => 0
/-- a def of the text, where it stands -/
structure FnT (K : PySem.W.Frag) (mg : PySem.Str → Option Value) (x : PySem.Str) (st : Stmt) where
  f : Addr
  fd : FuncData
  F : Fun K x x st f fd
  m : mg x = some (.ref f)
/-- a global that stands for data -/
structure CoT (K : PySem.W.Frag) (mg : PySem.Str → Option Value) (x : PySem.Str) (d : D) where
  v : V
  u : Value
  m : mg x = some u
  r : RelV v u
  d : ∀ H, DR K H v d
def coTup {K : PySem.W.Frag} {h : Heap} {mg : PySem.Str → Option Value} {x : PySem.Str} (X : K.In h) (G : h.Ns mainGlobals mg) {a : Addr} {dd : Option Addr} {its : Array Value} {n : Nat} {sl : Array (Option Value)} {vs : List V} {ds : List D}
    (ha : PySem.W.nsIn K mainGlobals x = some (some (.ref a))) (l : K.lookup a = some ⟨.type "tuple", dd, .seq its n, sl⟩) (hz : its.size ≤ sizeLine) (hv : Vals vs its.toList) (hd : ∀ H, DRs K H vs ds) : CoT K mg x (.tup ds) :=
  ⟨.ref a, .ref a, PySem.W.mg_of X G ha, rfl, fun H => .tup (.inr ⟨_, its, n, l, rfl, rfl, hz, hv⟩) (hd H)⟩
def fnT {K : PySem.W.Frag} {h : Heap} {mg : PySem.Str → Option Value} {x : PySem.Str} {st : Stmt} (X : K.In h) (G : h.Ns mainGlobals mg) {f : Addr} {od an : Option Addr} {sl : Array (Option Value)} {oc kV dc pm cd ct : Value}
    (a : PySem.W.nsIn K mainGlobals x = some (some (.ref f))) (l : K.lookup f = some ⟨oc, od, .func (PySem.W.fnOf x x (defArgs st) (defBody st) (defScope st) .none kV dc pm an cd ct), sl⟩) (c : PySem.W.codeIn K cd x = true) (k : PySem.W.keepIn K (.ref f) = true) : FnT K mg x st :=
  ⟨f, _, fun_mk l c k, PySem.W.mg_of X G a⟩
end Bk
namespace Bk
open PySem L2 PySem.Builtin PySem.Spec PyProof.Rows
theorem enum_of {v : Value} {o : Obj} {H : Heap → Prop} (B : Begins v o H) :
    Meets (Builtin.«enumerate.__new__» ⟨[.type "enumerate", v], []⟩) (fun _ R s => H s.heap ∧ R (.ok (.ret (.ref (s.heap.push o).objs.size)))
      { s with heap := (s.heap.push o).push { cls := .type "enumerate", data := .fields #[.none, .bool false, .ref s.heap.objs.size, rawInt 0, .none, .none] } }) :=
  .of_wp fun prog w A R s hh => by
    obtain ⟨hp, g, d, tk, os⟩ := s
    obtain ⟨hb, hr⟩ := hh
    have hsub := sub_enumerate
    have qi : ∀ {A' : Around} {E Q : Value → Shared → Prop}, Q (.ref hp.objs.size) ⟨hp.push o, g, d, tk, os⟩ → wpAny (model prog w) A' (pyIter v) Q E ⟨hp, g, d, tk, os⟩ := fun k => B.iter prog w _ _ ⟨hp, g, d, tk, os⟩ _ hb k
    wp_walk using qi
    refine wpAny_stack_any fun fr => wpAny_pure ?_
    split
    case h_1 c _ _ _ _ _ =>
      cases (c == Value.type "enumerate") <;> (wp_walk using qi; exact ⟨_, rfl, hr⟩)
    all_goals (wp_walk using qi; exact ⟨_, rfl, hr⟩)
theorem enum_call {prog : Program} {w : World} {A : Around} {E : Value → Shared → Prop} {s : Shared} {v : Value} {o : Obj} {H : Heap → Prop} {Q : Value → Shared → Prop} (B : Begins v o H) (h1 : H s.heap)
    (h : ∀ h', IsEnum h' (s.heap.objs.size + 1) s.heap.objs.size 0 .none → h'.get? s.heap.objs.size = some o → (∀ b ob, s.heap.get? b = some ob → h'.get? b = some ob) → Q (.ref (s.heap.objs.size + 1)) { s with heap := h' }) :
    wpAny (model prog w) A (call (.type "enumerate") [v]) Q E s := by
  have hz : (s.heap.push o).objs.size = s.heap.objs.size + 1 := Heap.size_push ..
  have he := Heap.get?_push_size (s.heap.push o) (o := { cls := .type "enumerate", data := .fields #[.none, .bool false, .ref s.heap.objs.size, rawInt 0, .none, .none] }) rfl
  rw [hz] at he
  refine callType_new F.called_enumerate (by decide) (F.typeCall_enumerate_1 _) (F.newCall_enumerate_1 _) (fun ob => F.args_object_init_2 ob _) F.entry_enumerate_new (enum_of B) ⟨h1, ?_⟩
  show _ ∧ _
  rw [hz]
  exact ⟨⟨_, he, rfl⟩, h _ he (Heap.get?_push_of_some _ (Heap.get?_push_size _ B.free)) fun b ob x => Heap.get?_push_of_some _ (Heap.get?_push_of_some _ x)⟩
theorem draws_end {prog : Program} {w : World} {A : Around} (hh : A.handled = none) (it t : Addr) (items : Array Value) (i : Nat) (hi : items.size ≤ i) :
    Draws prog w A it [it, t] i (fun _ _ => True) (fun j h => (h.IsTupleIter it t j ∧ h.IsTuple t items) ∧ j = i) where
  live := fun _ _ st => st.1.1.elim fun o ho => ⟨o, ho.1⟩
  frame := fun _ _ _ st hk => ⟨⟨st.1.1.at fun o e => hk it (by simp) o e, st.1.2.at fun o e => hk t (by simp) o e⟩, st.2⟩
  item := fun j s Q E hj st hQ => absurd st.2 (Nat.ne_of_lt hj)
  done := fun s Q E st hE => wpAny_nextOf_tuple_end hh st.1.1 st.1.2 (Array.getElem?_eq_none hi) hE
/-- the tuple at a, each item in a new pair -/
def Itet (K : PySem.W.Frag) (a : Addr) : It :=
  ⟨fun i H => ∃ (xs : List V) (x : V), SqT K H a xs ∧ xs[i]? = some x, fun i H v H' => ∃ T x, v = .ref T ∧ H T = none ∧ H' = upd H T (.tup [.int (i : Nat), x]) ∧ ∀ xs, SqT K H a xs → xs[i]? = some x, fun i H => ∃ xs : List V, SqT K H a xs ∧ xs.length ≤ i⟩
theorem turn_enumT {P : Program} {w : World} {K : PySem.W.Frag} {elts : List Expr} {kk : Nat} {tpos : Pos} (a e it : Addr) (hea : e ≠ a) (hta : a ≠ it) :
    Turn P w K (.Tuple elts kk tpos) (Itet K a) [e, it] e (fun i h => (∃ old, IsEnum h e it ((i : Nat) : Int) old) ∧ h.IsTupleIter it a i ∧ e ≠ it) where
  mem := by simp
  obj := fun i h st b hb => by
    obtain ⟨⟨old, he⟩, ⟨o, ho, hc, hd⟩, _⟩ := st
    have eb : b = e ∨ b = it := by simpa using hb
    rcases eb with rfl | rfl
    · exact ⟨_, he, fun v q => nomatch q⟩
    · exact ⟨o, ho, fun v q => by rw [hd] at q; cases q⟩
  keep := fun i h h' st k => ⟨st.1.elim fun old he => ⟨old, k e (by simp) _ he⟩, st.2.1.at fun o q => k it (by simp) o q, st.2.2⟩
  item := by
    intro X hP hw hK hc i pins s σ H E I hf st hg
    subst hP hw hK
    obtain ⟨⟨old, he⟩, hit, hne⟩ := st
    obtain ⟨xs, x, hq, hx⟩ := hg
    obtain ⟨its, rv, p, hz⟩ := I.tuple hq
    obtain ⟨u, hu, ru⟩ := rv.get hx
    have hlt : i < its.toArray.size := by
      have : i < its.length := (List.getElem?_eq_some_iff.mp hu).1
      simpa using this
    have hel : e < s.heap.objs.size := Heap.lt_size he
    have hil : it < s.heap.objs.size := by obtain ⟨_, q, _⟩ := hit; exact Heap.lt_size q
    refine wpAny_pyNext_enum_itemD (Draws.tuple (A := X.A.in1) (I.ok.hd hc) it a hta its.toArray) he ⟨hit, show s.heap.IsTuple a its.toArray from p⟩ hlt hne (by simp [hne, hea]) fun y h' tk hP ho st' hT hsz hk => ?_
    have ey : y = u := by
      have : its[i]? = some y := by simpa using hP
      rw [hu] at this
      cases this
      rfl
    subst ey
    refine ⟨_, rfl, wpAny_letOwnedTupleGo_enum (s := { s with heap := h', toks := tk + 1 }) ho fun h'' he' sb => ?_⟩
    have hT2 := (sb.2 _ (Nat.ne_of_gt hel)).trans hT
    have new : ObjOk X.prog X.w (upd H s.heap.objs.size (.tup [.int (i : Nat), x])) h'' s.heap.objs.size (.tup [.int (i : Nat), x]) :=
      ⟨by show 2 ≤ sizeLine; decide, [.int i tk, y], .cons ⟨_, rfl⟩ (.cons ru .nil), ⟨_, hT2, rfl, _, rfl⟩⟩
    have I1 : Inv X pins σ (upd H s.heap.objs.size (.tup [.int (i : Nat), x])) { s with heap := h'', toks := tk + 1 } :=
      I.turnedNew (ch := [e, it]) (fun b ob hb q => (sb.2 b (fun z => hb (by simp [z]))).trans (hk b ob (fun z => hb (by simp [z])) (fun z => hb (by simp [z])) q)) hf (Nat.le_refl _) new
    refine ⟨.ref s.heap.objs.size, _, I1, rfl, ⟨_, x, rfl, I.hok.fresh (Nat.le_refl _), rfl, fun ys hy => by rw [I.tuple_inj hy hq]; exact hx⟩, ⟨⟨y, ?_⟩, st'.1.at fun o q => (sb.2 it (Ne.symm hne)).trans q, hne⟩, fun b hb => ?_⟩
    · rw [show ((i + 1 : Nat) : Int) = (i : Int) + 1 by omega]
      exact he'
    · have eb : b = e ∨ b = it := by simpa using hb
      have hlb : b < s.heap.objs.size := by rcases eb with rfl | rfl; exact hel; exact hil
      rw [upd_ne (Nat.ne_of_lt hlb)]
      exact (hf b hb).1
  done := by
    intro X hP hw hK hc i pins s σ H E I hf st hg
    subst hP hw hK
    obtain ⟨⟨old, he⟩, hit, hne⟩ := st
    obtain ⟨xs, hq, hx⟩ := hg
    obtain ⟨its, rv, p, hz⟩ := I.tuple hq
    have hl := rv.length
    obtain ⟨f0, f1, f2, f3, f4, f5⟩ := hf it (by simp)
    exact wpAny_pyNext_enum_endD (draws_end (A := X.A.in1) (I.ok.hd hc) it a its.toArray i (by simp; omega)) he ⟨⟨hit, show s.heap.IsTuple a its.toArray from p⟩, rfl⟩ fun h' eb => ⟨rfl, I.turned (t' := s.toks) (fun b o hb q => eb b o hb q) f0 f1 f3 f4 f5⟩
  self := fun A i s Q E st h => let ⟨⟨_, he⟩, _⟩ := st; wpAny_pyIter_enum he h
/-- over a list or a tuple -/
def iEnumA (K : PySem.W.Frag) (ta : TA) : TI := fun σ H R => ta σ H fun vs H1 => ∃ a, vs = [.ref a] ∧ (((∃ xs, SqL K H1 a xs) ∧ R (Ite K a) H1) ∨ ((∃ xs, SqT K H1 a xs) ∧ R (Itet K a) H1))
theorem pi_enumA {X : Cx} {e : Expr} {ta : TA} {p pos tpos : Pos} {elts : List Expr} {kk : Nat} (hg : Gl X "enumerate") (hm : X.mg "enumerate" = none) (ha : PA X [e] ta) (hs : starEach [e] X.env = [(false, eval e X.env)] := by rfl) :
    PI X (.Tuple elts kk tpos) (.Call (.Name "enumerate" p) [e] [] pos) (iEnumA X.K ta) := by
  refine ⟨fun pins s σ H R I h => Call_ (ld_blt I hg hm boot_enumerate (callWith_type1 (thn (ha.run pos pins s σ H _ I h) fun us s1 ⟨vs, H1, I1, r1, a, ex, q⟩ => ?_) hs rfl))⟩
  subst ex
  cases r1 with
  | cons r rr =>
    cases rr
    cases r
    have fp : ∀ b ∈ [s1.heap.objs.size + 1, s1.heap.objs.size], FpOk X pins H1 b := fun b hb => by
      have eb : b = s1.heap.objs.size + 1 ∨ b = s1.heap.objs.size := by simpa using hb
      have hle : s1.heap.objs.size ≤ b := by
        rcases eb with rfl | rfl
        · exact Nat.le_succ _
        · exact Nat.le_refl _
      exact I1.fpOk hle (I1.hok.fresh hle)
    rcases q with ⟨⟨xs, hq⟩, q⟩ | ⟨⟨xs, hq⟩, q⟩
    · obtain ⟨its, rv, p', hz⟩ := I1.list hq
      exact call_enumerate_list p'.isList fun h' he hit hsz hk => wpAny_pyIter_enum he ⟨_, _, _, _, H1, rfl, I1.kept (t' := s1.toks) hk, turn_enum a _ _, ⟨⟨.none, he⟩, hit, Nat.succ_ne_self _⟩, fp, q⟩
    · obtain ⟨its, rv, p', hz⟩ := I1.tuple hq
      have hlt : a < s1.heap.objs.size := by obtain ⟨o, e, _⟩ := p'; exact Heap.lt_size e
      exact enum_call (begins_tuple a its.toArray) (show s1.heap.IsTuple a its.toArray from p') fun h' he hit hk => wpAny_pyIter_enum he
        ⟨_, _, _, _, H1, rfl, I1.kept (t' := s1.toks) hk, turn_enumT a _ _ (Nat.ne_of_gt (Nat.lt_succ_of_lt hlt)) (Nat.ne_of_lt hlt), ⟨⟨.none, he⟩, ⟨_, hit, rfl, rfl⟩, Nat.succ_ne_self _⟩, fp, q⟩
section
variable {K : PySem.W.Frag}
theorem yl_enumT {Hs : Hp} {a : Addr} {xs : List V} {ds : List D} (ha : SqT K Hs a xs) (da : DRs K Hs xs ds) : Yl K (Itet K a) (enumD 0 ds) Hs where
  go := fun i H s hi => by
    rw [enum_len] at hi
    exact ⟨xs, xs[i]'(by rw [da.len]; omega), same_tup s ha, by simp⟩
  stop := fun i H s hi => by
    rw [enum_len] at hi
    exact ⟨xs, same_tup s ha, by rw [da.len]; omega⟩
  yld := fun i x H H' Hs1 _ s s1 y => by
    obtain ⟨T, x1, rfl, hT, rfl, h1⟩ := y
    obtain ⟨d1, e1, r1⟩ := da.ta (h1 xs (same_tup (s.trans s1) ha))
    have ex : Ext H Hs1 (upd H T (.tup [.int (i : Nat), x1])) (upd Hs1 T (.tup [.int (i : Nat), x1])) := Ext.new s1 hT
    refine ⟨.tup [.int (i : Nat), d1], _, ?_, ex, .tup (SqT.of upd_same) (.cons (.int _) (.cons (r1.mono (s.trans ex.b)) .nil))⟩
    rw [enum_get e1, Nat.zero_add]
def xenumA (a : M (List D)) : M (List D) := fun G => bd (a G) fun xs G1 => match xs with
  | [x] => match seqD x with
    | some ds => some (enumD 0 ds, G1)
    | none => none
  | _ => none
theorem ik_enumA {ta : TA} {a : M (List D)} (ha : AOk K ta a) : IOk K (iEnumA K ta) (xenumA a) := fun Fz ba G σ H Hs ds G' q e Q k => by
  obtain ⟨xs, G1, e1, e⟩ := bd_inv e
  refine ha Fz ba G σ H Hs xs _ q e1 _ fun vs H1 Hs1 q1 s1 d => ?_
  split at e
  case h_2 => cases e
  rename_i x
  cases d with
  | cons d1 d2 =>
    cases d2
    cases h : seqD x with
    | none => rw [h] at e; cases e
    | some es =>
      rw [h] at e
      cases e
      cases x with
      | lst xs => cases h; obtain ⟨a1, x1, rfl, l1, r1⟩ := asL_ok d1 rfl; exact ⟨a1, rfl, .inl ⟨⟨_, same_lst q1.sub l1⟩, k _ H1 Hs1 q1 s1 (yl_enum l1 r1)⟩⟩
      | frz xs => cases h; obtain ⟨a1, x1, rfl, l1, r1⟩ := asL_ok d1 rfl; exact ⟨a1, rfl, .inl ⟨⟨_, same_lst q1.sub l1⟩, k _ H1 Hs1 q1 s1 (yl_enum l1 r1)⟩⟩
      | tup xs =>
        cases h
        cases d1 with
        | tup hl hd => exact ⟨_, rfl, .inr ⟨⟨_, same_tup q1.sub hl⟩, k _ H1 Hs1 q1 s1 (yl_enumT hl hd)⟩⟩
      | _ => cases h
end
theorem kpi_enumA {X : Cx} {K : PySem.W.Frag} (hK : X.K = K) {e : Expr} {ta : TA} {p pos tpos : Pos} {elts : List Expr} {kk : Nat} (hg : Gl X "enumerate") (hm : X.mg "enumerate" = none) (ha : PA X [e] ta) (hs : starEach [e] X.env = [(false, eval e X.env)] := by rfl) :
    PI X (.Tuple elts kk tpos) (.Call (.Name "enumerate" p) [e] [] pos) (iEnumA K ta) := hK ▸ pi_enumA hg hm ha hs
end Bk
namespace Bk
open PySem L2 PySem.Builtin PySem.Spec PyProof.Rows
/-- a list (k) or a tuple -/
def SqK (K : PySem.W.Frag) (k : Bool) (a : Addr) (H : Hp) (xs : List V) : Prop := match k with
  | true => SqL K H a xs
  | false => SqT K H a xs
def ItK (k : Bool) (it a : Addr) (i : Nat) (h : Heap) : Prop := match k with
  | true => h.IsListIter it a i
  | false => h.IsTupleIter it a i
def InK (k : Bool) (a : Addr) (its : Array Value) (h : Heap) : Prop := match k with
  | true => h.IsList a its
  | false => h.IsTuple a its
def obK (k : Bool) (a : Addr) : Obj := match k with
  | true => { cls := .type "list_iterator", data := .fields #[.ref a, .int 0 0] }
  | false => { cls := .type "tuple_iterator", data := .fields #[.ref a, .int 0 0] }
theorem draws_k {prog : Program} {w : World} {A : Around} (hh : A.handled = none) (k : Bool) (it a : Addr) (hne : a ≠ it) (its : Array Value) : Draws prog w A it [it, a] its.size (fun i v => its[i]? = some v) (fun i h => ItK k it a i h ∧ InK k a its h) := by
  cases k
  · exact Draws.tuple hh it a hne its
  · exact Draws.list hh it a hne its
theorem drawsL_end {prog : Program} {w : World} {A : Around} (hh : A.handled = none) (it t : Addr) (items : Array Value) (i : Nat) (hi : items.size ≤ i) :
    Draws prog w A it [it, t] i (fun _ _ => True) (fun j h => (h.IsListIter it t j ∧ h.IsList t items) ∧ j = i) where
  live := fun _ _ st => st.1.1.elim fun o ho => ⟨o, ho.1⟩
  frame := fun _ _ _ st hk => ⟨⟨st.1.1.at fun o e => hk it (by simp) o e, st.1.2.at fun o e => hk t (by simp) o e⟩, st.2⟩
  item := fun j s Q E hj st hQ => absurd st.2 (Nat.ne_of_lt hj)
  done := fun s Q E st hE => wpAny_nextOf_list_end hh st.1.1 st.1.2 (Array.getElem?_eq_none hi) hE
theorem draws_stop {prog : Program} {w : World} {A : Around} (hh : A.handled = none) (k : Bool) (it a : Addr) (hne : a ≠ it) (its : Array Value) (i : Nat) {h : Heap} (h1 : ItK k it a i h) (h2 : InK k a its h) :
    ∃ n P St, Draws prog w A it [it, a] n P St ∧ St i h ∧ i ≤ n ∧ (its.size ≤ i → i = n) := by
  by_cases hi : its.size ≤ i
  · cases k
    · exact ⟨_, _, _, draws_end hh it a its i hi, ⟨⟨h1, h2⟩, rfl⟩, Nat.le_refl _, fun _ => rfl⟩
    · exact ⟨_, _, _, drawsL_end hh it a its i hi, ⟨⟨h1, h2⟩, rfl⟩, Nat.le_refl _, fun _ => rfl⟩
  · exact ⟨_, _, _, draws_k hh k it a hne its, ⟨h1, h2⟩, by omega, fun z => absurd z hi⟩
theorem begins_k (k : Bool) (a : Addr) (its : Array Value) : Begins (.ref a) (obK k a) (InK k a its) := by
  cases k
  · exact begins_tuple a its
  · exact begins_list a its
theorem itk_obj {k : Bool} {it a : Addr} {i : Nat} {h : Heap} (h1 : ItK k it a i h) : ∃ o, h.get? it = some o ∧ ∀ v, o.data ≠ .cell v := by
  cases k
  · obtain ⟨o, e, _, d⟩ := h1
    exact ⟨o, e, fun v q => by rw [d] at q; cases q⟩
  · obtain ⟨o, e, _, d⟩ := h1
    exact ⟨o, e, fun v q => by rw [d] at q; cases q⟩
theorem ItK.at {k : Bool} {it a : Addr} {i : Nat} {h h' : Heap} (h1 : ItK k it a i h) (hk : ∀ o, h.get? it = some o → h'.get? it = some o) : ItK k it a i h' := by
  cases k
  · exact Heap.IsTupleIter.at h1 hk
  · exact Heap.IsListIter.at h1 hk
theorem itk_new {k : Bool} {it a : Addr} {h : Heap} (e : h.get? it = some (obK k a)) : ItK k it a 0 h := by
  cases k
  · exact ⟨_, e, rfl, rfl⟩
  · exact ⟨_, e, rfl, rfl⟩
section
variable {X : Cx} {pins : List (Addr × Obj)} {σ : L2.St} {H : Hp} {s : Shared} {k : Bool} {a : Addr} {xs ys : List V}
theorem inv_k (I : Inv X pins σ H s) (h : SqK X.K k a H xs) : ∃ its : List Value, Vals xs its ∧ InK k a its.toArray s.heap ∧ a < s.heap.objs.size := by
  cases k
  · obtain ⟨its, r, p, _⟩ := I.tuple h
    exact ⟨its, r, show s.heap.IsTuple a its.toArray from p, by obtain ⟨o, e, _⟩ := p; exact Heap.lt_size e⟩
  · obtain ⟨its, r, p, _⟩ := I.list h
    exact ⟨its, r, p.isList, p.lt⟩
theorem inj_k (I : Inv X pins σ H s) (h : SqK X.K k a H xs) (h' : SqK X.K k a H ys) : xs = ys := by
  cases k
  · exact I.tuple_inj h h'
  · exact I.list_inj h h'
end
def ItZ (K : PySem.W.Frag) (k l : Bool) (a b : Addr) : It :=
  ⟨fun i H => ∃ (xs ys : List V) (x y : V), SqK K k a H xs ∧ SqK K l b H ys ∧ xs[i]? = some x ∧ ys[i]? = some y,
    fun i H v H' => ∃ T x y, v = .ref T ∧ H T = none ∧ H' = upd H T (.tup [x, y]) ∧ (∀ xs, SqK K k a H xs → xs[i]? = some x) ∧ ∀ ys, SqK K l b H ys → ys[i]? = some y,
    fun i H => ∃ xs ys : List V, SqK K k a H xs ∧ SqK K l b H ys ∧ (xs.length ≤ i ∨ ys.length ≤ i)⟩
theorem turn_zipK {P : Program} {w : World} {K : PySem.W.Frag} {elts : List Expr} {kk : Nat} {tpos : Pos} {k l : Bool} {a b z TI TO i1 i2 : Addr} (D : ZipSep2 z TI TO i1 i2 [i1, a] [i2, b]) (ha : a ≠ i1) (hb : b ≠ i2) :
    Turn P w K (.Tuple elts kk tpos) (ItZ K k l a b) [z, TI, TO, i1, i2] z (fun i h => IsZip h z TI TO .none ∧ IsTupOf2 h TI (.ref i1) (.ref i2) ∧ (∃ x y, IsTupOf2 h TO x y) ∧ ItK k i1 a i h ∧ ItK l i2 b i h) where
  mem := by simp
  obj := fun i h st c hc => by
    obtain ⟨hz, hTI, ⟨x, y, hTO⟩, h1, h2⟩ := st
    have ec : c = z ∨ c = TI ∨ c = TO ∨ c = i1 ∨ c = i2 := by simpa using hc
    rcases ec with rfl | rfl | rfl | rfl | rfl
    · exact ⟨_, hz, fun v q => nomatch q⟩
    · exact ⟨_, hTI, fun v q => nomatch q⟩
    · exact ⟨_, hTO, fun v q => nomatch q⟩
    · exact itk_obj h1
    · exact itk_obj h2
  keep := fun i h h' st kp => by
    obtain ⟨hz, hTI, ⟨x, y, hTO⟩, h1, h2⟩ := st
    exact ⟨kp z (by simp) _ hz, kp TI (by simp) _ hTI, ⟨x, y, kp TO (by simp) _ hTO⟩, h1.at fun o q => kp i1 (by simp) o q, h2.at fun o q => kp i2 (by simp) o q⟩
  item := by
    intro X hP hw hK hc i pins s σ H E I hf st hg
    subst hP hw hK
    obtain ⟨hz, hTI, ⟨x0, y0, hTO⟩, h1, h2⟩ := st
    obtain ⟨xs, ys, x, y, qx, qy, hx, hy⟩ := hg
    obtain ⟨its, rv, p, _⟩ := inv_k I qx
    obtain ⟨its2, rv2, p2, _⟩ := inv_k I qy
    obtain ⟨u, hu, ru⟩ := rv.get hx
    obtain ⟨u2, hu2, ru2⟩ := rv2.get hy
    have hlt : i < its.toArray.size := by simpa using (List.getElem?_eq_some_iff.mp hu).1
    have hlt2 : i < its2.toArray.size := by simpa using (List.getElem?_eq_some_iff.mp hu2).1
    have hzl : z < s.heap.objs.size := Heap.lt_size hz
    have lts : ∀ c ∈ [z, TI, TO, i1, i2], c < s.heap.objs.size := fun c hcm => by
      have ec : c = z ∨ c = TI ∨ c = TO ∨ c = i1 ∨ c = i2 := by simpa using hcm
      rcases ec with rfl | rfl | rfl | rfl | rfl
      · exact hzl
      · exact Heap.lt_size hTI
      · exact Heap.lt_size hTO
      · obtain ⟨_, e1, _⟩ := itk_obj h1; exact Heap.lt_size e1
      · obtain ⟨_, e2, _⟩ := itk_obj h2; exact Heap.lt_size e2
    refine wpAny_pyNext_zipD2_item D (draws_k (A := X.A.in1) (I.ok.hd hc) k i1 a ha its.toArray) (draws_k (A := X.A.in1) (I.ok.hd hc) l i2 b hb its2.toArray) hz hTI hTO ⟨h1, p⟩ ⟨h2, p2⟩ hlt hlt2 fun v1 v2 h' tk e1 e2 z' TO' st1 st2 hT hsz hk => ?_
    have ev1 : v1 = u := by
      have q : its[i]? = some v1 := by simpa using e1
      rw [hu] at q; cases q; rfl
    have ev2 : v2 = u2 := by
      have q : its2[i]? = some v2 := by simpa using e2
      rw [hu2] at q; cases q; rfl
    subst ev1 ev2
    refine ⟨_, rfl, wpAny_letOwnedTupleGo_zip (s := { s with heap := h', toks := tk }) z' fun h'' z'' sb => ?_⟩
    have hT2 : h''.get? s.heap.objs.size = some { cls := .type "tuple", data := .seq #[v1, v2] } := (sb.2 _ (Nat.ne_of_gt hzl)).trans hT
    have new : ObjOk X.prog X.w (upd H s.heap.objs.size (.tup [x, y])) h'' s.heap.objs.size (.tup [x, y]) := ⟨by show 2 ≤ sizeLine; decide, [v1, v2], .cons ru (.cons ru2 .nil), ⟨_, hT2, rfl, _, rfl⟩⟩
    have I1 : Inv X pins σ (upd H s.heap.objs.size (.tup [x, y])) { s with heap := h'', toks := tk } :=
      I.turnedNew (ch := [z, TI, TO, i1, i2]) (fun c o hcb q => (sb.2 c (fun q' => hcb (by simp [q']))).trans (hk c o (fun q' => hcb (by simp [q'])) (fun q' => hcb (by simp [q'])) (fun q' => hcb (by simp [q'])) (fun q' => hcb (by simp [q'])) q)) hf (Nat.le_refl _) new
    have n1 : i1 ≠ z := fun q => D.zf1 (q ▸ D.mem1)
    have n2 : i2 ≠ z := fun q => D.zf2 (q ▸ D.mem2)
    refine ⟨.ref s.heap.objs.size, _, I1, rfl, ⟨_, x, y, rfl, I.hok.fresh (Nat.le_refl _), rfl, fun l' hl => by rw [inj_k I hl qx]; exact hx, fun l' hl => by rw [inj_k I hl qy]; exact hy⟩, ⟨z'', ?_, ⟨v1, v2, (sb.2 _ D.TOz).trans TO'⟩, st1.1.at fun o q => (sb.2 _ n1).trans q, st2.1.at fun o q => (sb.2 _ n2).trans q⟩, fun c hcm => ?_⟩
    · exact (sb.2 _ D.TIz).trans (hk _ _ D.TIz D.TITO D.TIi1 D.TIi2 hTI)
    · rw [upd_ne (Nat.ne_of_lt (lts c hcm))]
      exact (hf c hcm).1
  done := by
    intro X hP hw hK hc i pins s σ H E I hf st hg
    subst hP hw hK
    obtain ⟨hz, hTI, ⟨x0, y0, hTO⟩, h1, h2⟩ := st
    obtain ⟨xs, ys, qx, qy, hend⟩ := hg
    obtain ⟨its, rv, p, _⟩ := inv_k I qx
    obtain ⟨its2, rv2, p2, _⟩ := inv_k I qy
    have l1 := rv.length
    have l2 := rv2.length
    obtain ⟨n1, P1, St1, D1, s1, le1, e1⟩ := draws_stop (prog := X.prog) (w := X.w) (A := X.A.in1) (I.ok.hd hc) k i1 a ha its.toArray i h1 p
    obtain ⟨n2, P2, St2, D2, s2, le2, e2⟩ := draws_stop (prog := X.prog) (w := X.w) (A := X.A.in1) (I.ok.hd hc) l i2 b hb its2.toArray i h2 p2
    exact wpAny_pyNext_zipD2_end D D1 D2 hz hTI hTO s1 s2 le1 le2 (by
      rcases hend with q | q
      · exact .inl (e1 (by simp; omega))
      · exact .inr (e2 (by simp; omega))) fun h' tk hk => ⟨rfl, I.turnedL (ch := [z, TI, TO, i1, i2]) (fun c o hcb q => hk c o (fun q' => hcb (by simp [q'])) (fun q' => hcb (by simp [q'])) (fun q' => hcb (by simp [q'])) (fun q' => hcb (by simp [q'])) q) hf⟩
  self := fun A i s Q E st h => wpAny_pyIter_zip st.1 h
def iZipA (K : PySem.W.Frag) (ta : TA) : TI := fun σ H R => ta σ H fun vs H1 => ∃ k l a b xs ys, vs = [.ref a, .ref b] ∧ SqK K k a H1 xs ∧ SqK K l b H1 ys ∧ R (ItZ K k l a b) H1
theorem pi_zipA {X : Cx} {e e2 : Expr} {ta : TA} {p pos tpos : Pos} {elts : List Expr} {kk : Nat} (hg : Gl X "zip") (hm : X.mg "zip" = none) (ha : PA X [e, e2] ta)
    (hs : starEach [e, e2] X.env = (false, eval e X.env) :: starEach [e2] X.env := by rfl) (hpl : (backTo pos (starEach [e2] X.env)).any (·.1) = false := by rfl) :
    PI X (.Tuple elts kk tpos) (.Call (.Name "zip" p) [e, e2] [] pos) (iZipA X.K ta) := by
  refine ⟨fun pins s σ H R I h => Call_ (ld_blt I hg hm PyProof.Rows.boot_zip (callWith_type1 (thn (ha.run pos pins s σ H _ I h) fun us s1 ⟨vs, H1, I1, r1, k, l, a, b, xs, ys, ex, qx, qy, q⟩ => ?_) hs hpl))⟩
  subst ex
  cases r1 with
  | cons r rr =>
    cases rr with
    | cons r' rr =>
      cases rr
      cases r
      cases r'
      obtain ⟨its, rv, p1, la⟩ := inv_k I1 qx
      obtain ⟨its2, rv2, p2, lb⟩ := inv_k I1 qy
      refine zip_begins2 (begins_k k a its.toArray) (begins_k l b its2.toArray) p1 p2 fun h' hz hTI hTO h1 h2 hsz hk => wpAny_pyIter_zip hz ?_
      have sep := zip_sep2 (N := s1.heap.objs.size) (fp1 := [a]) (fp2 := [b]) (by simpa using la) (by simpa using lb)
      refine ⟨_, _, _, _, H1, rfl, I1.kept (t' := s1.toks) hk, turn_zipK sep (Nat.ne_of_lt la) (Nat.ne_of_lt (Nat.lt_succ_of_lt lb)), ⟨hz, hTI, ⟨_, _, hTO⟩, itk_new h1, itk_new h2⟩, fun c hcm => ?_, q⟩
      have ec : c = s1.heap.objs.size + 4 ∨ c = s1.heap.objs.size + 2 ∨ c = s1.heap.objs.size + 3 ∨ c = s1.heap.objs.size ∨ c = s1.heap.objs.size + 1 := by simpa using hcm
      have hle : s1.heap.objs.size ≤ c := by
        rcases ec with rfl | rfl | rfl | rfl | rfl
        · exact Nat.le_add_right _ _
        · exact Nat.le_add_right _ _
        · exact Nat.le_add_right _ _
        · exact Nat.le_refl _
        · exact Nat.le_add_right _ _
      exact I1.fpOk hle (I1.hok.fresh hle)
theorem kpi_zipA {X : Cx} {K : PySem.W.Frag} (hK : X.K = K) {e e2 : Expr} {ta : TA} {p pos tpos : Pos} {elts : List Expr} {kk : Nat} (hg : Gl X "zip") (hm : X.mg "zip" = none) (ha : PA X [e, e2] ta)
    (hs : starEach [e, e2] X.env = (false, eval e X.env) :: starEach [e2] X.env := by rfl) (hpl : (backTo pos (starEach [e2] X.env)).any (·.1) = false := by rfl) :
    PI X (.Tuple elts kk tpos) (.Call (.Name "zip" p) [e, e2] [] pos) (iZipA K ta) := hK ▸ pi_zipA hg hm ha hs hpl
section
variable {K : PySem.W.Frag}
theorem same_k {k : Bool} {a : Addr} {H H' : Hp} {xs : List V} (s : Same H H') (h : SqK K k a H xs) : SqK K k a H' xs := by
  cases k
  · exact same_tup s h
  · exact same_lst s h
theorem seqD_ok {H : Hp} {v : V} {d : D} {ds : List D} (h : DR K H v d) (e : seqD d = some ds) : ∃ k a xs, v = .ref a ∧ SqK K k a H xs ∧ DRs K H xs ds := by
  cases d with
  | tup xs =>
    cases e
    cases h with
    | tup hl hd => exact ⟨false, _, _, rfl, hl, hd⟩
  | lst xs => obtain ⟨a, vs, z, hl, hd⟩ := asL_ok h e; exact ⟨true, a, vs, z, hl, hd⟩
  | frz xs => obtain ⟨a, vs, z, hl, hd⟩ := asL_ok h e; exact ⟨true, a, vs, z, hl, hd⟩
  | _ => cases e
theorem yl_zipA {Hs : Hp} {k l : Bool} {a b : Addr} {xs ys : List V} {ds es : List D} (ha : SqK K k a Hs xs) (hb : SqK K l b Hs ys) (da : DRs K Hs xs ds) (db : DRs K Hs ys es) : Yl K (ItZ K k l a b) ((ds.zip es).map fun p => .tup [p.1, p.2]) Hs where
  go := fun i H s hi => by
    rw [List.length_map, List.length_zip] at hi
    exact ⟨xs, ys, xs[i]'(by rw [da.len]; omega), ys[i]'(by rw [db.len]; omega), same_k s ha, same_k s hb, by simp, by simp⟩
  stop := fun i H s hi => by
    rw [List.length_map, List.length_zip] at hi
    exact ⟨xs, ys, same_k s ha, same_k s hb, by rw [da.len, db.len]; omega⟩
  yld := fun i x H H' Hs1 _ s s1 y => by
    obtain ⟨T, x1, y1, rfl, hT, rfl, h1, h2⟩ := y
    obtain ⟨d1, e1, r1⟩ := da.ta (h1 xs (same_k (s.trans s1) ha))
    obtain ⟨d2, e2, r2⟩ := db.ta (h2 ys (same_k (s.trans s1) hb))
    have ex : Ext H Hs1 (upd H T (.tup [x1, y1])) (upd Hs1 T (.tup [x1, y1])) := Ext.new s1 hT
    refine ⟨.tup [d1, d2], _, ?_, ex, .tup (SqT.of upd_same) (.cons (r1.mono (s.trans ex.b)) (.cons (r2.mono (s.trans ex.b)) .nil))⟩
    rw [List.getElem?_map, zip_get e1 e2]
    rfl
def xzipA (a : M (List D)) : M (List D) := fun G => bd (a G) fun xs G1 => match xs with
  | [x, y] => match seqD x, seqD y with
    | some ds, some es => some ((ds.zip es).map fun p => .tup [p.1, p.2], G1)
    | _, _ => none
  | _ => none
theorem ik_zipA {ta : TA} {a : M (List D)} (ha : AOk K ta a) : IOk K (iZipA K ta) (xzipA a) := fun Fz ba G σ H Hs ds G' q e Q k => by
  obtain ⟨xs, G1, e1, e⟩ := bd_inv e
  refine ha Fz ba G σ H Hs xs _ q e1 _ fun vs H1 Hs1 q1 s1 d => ?_
  split at e
  case h_2 => cases e
  split at e
  case h_2 => cases e
  rename_i h1 h2
  cases e
  cases d with
  | cons d1 d2 =>
    cases d2 with
    | cons d2 d3 =>
      cases d3
      obtain ⟨k1, a1, x1, rfl, l1, r1⟩ := seqD_ok d1 h1
      obtain ⟨k2, a2, x2, rfl, l2, r2⟩ := seqD_ok d2 h2
      exact ⟨k1, k2, a1, a2, x1, x2, rfl, same_k q1.sub l1, same_k q1.sub l2, k _ H1 Hs1 q1 s1 (yl_zipA l1 l2 r1 r2)⟩
end
end Bk
namespace Bk
open PySem L2
theorem cAttrs_nd (c : Nat) : (cAttrs c).Nodup := by
  match c with
  | 0 => decide +kernel
  | 1 => decide +kernel
  | 2 => decide +kernel
  | 3 => decide +kernel
  | 4 => decide +kernel
  | n + 5 => show (cAttrs 5).Nodup; decide +kernel
section
variable {K : PySem.W.Frag} {H : Hp}
theorem fs_get : ∀ {fs : List (PySem.Str × V)} {i : Nat} {v : V}, (fs.map (·.1)).Nodup → (fs.map (·.2))[i]? = some v → ∀ f, (fs.map (·.1))[i]? = some f → fs.lookup f = some v
  | [], _, _, _, h, _, _ => by simp at h
  | (g, x) :: r, 0, _, _, h, f, e => by
    simp at h e
    subst h e
    simp [List.lookup]
  | (g, x) :: r, i + 1, v, nd, h, f, e => by
    simp only [List.map_cons, List.getElem?_cons_succ] at h e
    rw [List.map_cons, List.nodup_cons] at nd
    have hne : f ≠ g := fun z => nd.1 (z ▸ List.mem_of_getElem? e)
    have hb : (f == g) = false := beq_eq_false_iff_ne.mpr hne
    show List.lookup f ((g, x) :: r) = some v
    simp only [List.lookup, hb]
    exact fs_get nd.2 h f e
theorem putF_old : ∀ {fs : List (PySem.Str × V)} {i : Nat} {f : PySem.Str} {v : V}, (fs.map (·.1)).Nodup → (fs.map (·.1))[i]? = some f → (putF f v fs).map (·.1) = fs.map (·.1) ∧ (putF f v fs).map (·.2) = (fs.map (·.2)).set i v
  | [], _, _, _, _, h => by simp at h
  | (g, x) :: r, 0, f, v, _, h => by
    simp at h
    subst h
    simp only [putF, if_true]
    exact ⟨rfl, rfl⟩
  | (g, x) :: r, i + 1, f, v, nd, h => by
    simp only [List.map_cons, List.getElem?_cons_succ] at h
    rw [List.map_cons, List.nodup_cons] at nd
    have hne : g ≠ f := fun z => nd.1 (z ▸ List.mem_of_getElem? h)
    simp only [putF, if_neg hne]
    obtain ⟨i1, i2⟩ := putF_old (v := v) nd.2 h
    exact ⟨by rw [List.map_cons, i1]; rfl, by rw [List.map_cons, i2]; rfl⟩
theorem putF_new : ∀ {fs : List (PySem.Str × V)} {f : PySem.Str} {v : V}, f ∉ fs.map (·.1) → (putF f v fs).map (·.1) = fs.map (·.1) ++ [f] ∧ (putF f v fs).map (·.2) = fs.map (·.2) ++ [v]
  | [], _, _, _ => ⟨rfl, rfl⟩
  | (g, x) :: r, f, v, h => by
    rw [List.map_cons, List.mem_cons, not_or] at h
    simp only [putF, if_neg (fun z : g = f => h.1 z.symm)]
    obtain ⟨i1, i2⟩ := putF_new (v := v) h.2
    exact ⟨by rw [List.map_cons, i1]; rfl, by rw [List.map_cons, i2]; rfl⟩
theorem take_nd {c n : Nat} : ((cAttrs c).take n).Nodup := List.Nodup.sublist (List.take_sublist _ _) (cAttrs_nd c)
theorem take_at {c n i : Nat} {f : PySem.Str} (h : (cAttrs c)[i]? = some f) (hi : i < n) : ((cAttrs c).take n)[i]? = some f := by
  rw [List.getElem?_take, if_pos hi]
  exact h
/-- what is known of a class of the text -/
structure ClT (K : PySem.W.Frag) (mg : PySem.Str → Option Value) (c : Nat) where
  C : Addr
  mg : mg (cName c) = some (.ref C)
  at_ : CAt K c C
  cls : Cls K C
  na : ∀ f ∈ cAttrs c, NoAttr K C f
variable {mg : PySem.Str → Option Value}
/-- o.f, the i-th attribute of an instance of the class c -/
def xfld (c i : Nat) (a : M R) : M R := fun G => bd (a G) fun x G1 => match x.d with
  | .obj c' ds => if c' = c then (match ds[i]? with | some d => some (.im d, G1) | none => none) else none
  | _ => none
theorem gk_fld {c i : Nat} {f : PySem.Str} (T : ClT K mg c) (hf : (cAttrs c)[i]? = some f) {ta : TE} {a : M R} (ha : GOk K ta a) : GOk K (tFld K ta f) (xfld c i a) := fun Fz ba G σ H Hs res G' q e0 Q k => by
  obtain ⟨x, G1, e1, e⟩ := bd_inv e0
  refine ha.im q e1 fun v H1 Hs1 q1 s1 d1 => ?_
  cases hd : x.d with
  | obj c' ds =>
    rw [hd] at e d1
    simp only at e
    split at e
    case isFalse => cases e
    rename_i hc
    subst hc
    split at e
    case h_2 => cases e
    rename_i d hi
    cases e
    cases d1 with
    | obj hC hH hn hv hs =>
      subst hv
      cases hC.eq T.at_
      obtain ⟨w, w1, w2⟩ := hs.at hi
      have hlt : i < ds.length := (List.getElem?_eq_some_iff.mp hi).1
      refine ⟨_, _, _, _, w, rfl, q1.sub _ _ hH, T.cls, T.na f (List.mem_of_getElem? hf), fs_get ?_ w1 f ?_, k w H1 Hs1 q1 s1 w2⟩
      · rw [hn]; exact take_nd
      · rw [hn]; exact take_at hf hlt
  | _ => rw [hd] at e; cases e
/-- the i-th attribute of the instance that the name owns -/
def xfldv (j c i : Nat) : M R := fun G => match G[j]? with
  | some e => match e.mu with
    | some (.o c' ds) => if c' = c then (match ds[i]? with | some d => some (.im d, G) | none => none) else none
    | _ => none
  | none => none
theorem gk_fldv {j c i : Nat} {f : PySem.Str} (T : ClT K mg c) (hf : (cAttrs c)[i]? = some f) : GOk K (tFld K (tVar j) f) (xfldv j c i) := fun Fz ba G σ H Hs res G' q e Q k => by
  unfold xfldv at e
  cases h : G[j]? with
  | none => simp only [h] at e; cases e
  | some en =>
    cases h0 : en.mu with
    | none => simp only [h, h0] at e; cases e
    | some mm =>
     cases mm with
     | l _ => simp only [h, h0] at e; cases e
     | o c' ds =>
      simp only [h, h0] at e
      split at e
      case isFalse => cases e
      rename_i hc
      subst hc
      split at e
      case h_2 => cases e
      rename_i d hi
      cases e
      obtain ⟨l, o, g1, g2, g3, g4, C, dx, fs, hC, rfl, hn, hs⟩ := q.mu j en _ h h0
      cases hC.eq T.at_
      obtain ⟨w, w1, w2⟩ := hs.at hi
      have hlt : i < ds.length := (List.getElem?_eq_some_iff.mp hi).1
      refine ⟨_, g1, _, _, _, _, w, rfl, g2, T.cls, T.na f (List.mem_of_getElem? hf), fs_get ?_ w1 f ?_, k w H Hs q (Same.refl _) w2⟩
      · rw [hn]; exact take_nd
      · rw [hn]; exact take_at hf hlt
/-- the i-th attribute stored -/
def putO (i : Nat) (x : D) (ds : List D) : Option (List D) := if i < ds.length then some (ds.set i x) else if i = ds.length then some (ds ++ [x]) else none
def putA (j c i : Nat) (x : D) (G : Gam) : Option Gam := match G[j]? with
  | some e => match e.mu with
    | some (.o c' ds) => if c' = c then (match putO i x ds with | some es => some (G.set j (e.with (.o c es))) | none => none) else none
    | _ => none
  | none => none
theorem cAttrs_few (c : Nat) : (cAttrs c).length ≤ 6 := by
  match c with
  | 0 => decide
  | 1 => decide
  | 2 => decide
  | 3 => decide
  | 4 => decide
  | n + 5 => show (cAttrs 5).length ≤ 6; decide
theorem putA_ok {j c i : Nat} {f : PySem.Str} (T : ClT K mg c) (hf : (cAttrs c)[i]? = some f) {Fz : Hp} {ba : Nat → Addr} {G G' : Gam} {σ : L2.St} {H Hs : Hp} {v : V} {d : D} (q : Rel K Fz ba G σ H Hs) (hd : DR K Hs v d) (e : putA j c i d G = some G') :
    ∃ a dx fs, σ[j]? = some (some (.ref a)) ∧ H a = some (.ins T.C dx fs) ∧ fs.length < 1000 ∧ Rel K Fz ba G' σ (upd H a (.ins T.C dx (putF f v fs))) Hs := by
  unfold putA at e
  cases h : G[j]? with
  | none => simp only [h] at e; cases e
  | some en =>
    cases h0 : en.mu with
    | none => simp only [h, h0] at e; cases e
    | some mm =>
     cases mm with
     | l _ => simp only [h, h0] at e; cases e
     | o c' ds =>
      simp only [h, h0] at e
      split at e
      case isFalse => cases e
      rename_i hc
      subst hc
      split at e
      case h_2 => cases e
      rename_i es hp
      cases e
      obtain ⟨l, o, g1, g2, g3, g4, C, dx, fs, hC, rfl, hn, hs⟩ := q.mu j en _ h h0
      cases hC.eq T.at_
      have hlen : fs.length = ds.length := by
        have z := hs.len
        rw [List.length_map] at z
        exact z
      have hi6 : (cAttrs c').length ≤ 6 := cAttrs_few c'
      have hle : ds.length ≤ 6 := by
        have z := congrArg List.length hn
        rw [List.length_map, List.length_take, hlen] at z
        omega
      refine ⟨l, dx, fs, g1, g2, by omega, ?_⟩
      have hiA : i < (cAttrs c').length := (List.getElem?_eq_some_iff.mp hf).1
      refine q.mut h h0 g1 (extB_upd q.sub g3) upd_same g3 ⟨_, dx, putF f v fs, hC, rfl, ?_⟩
      unfold putO at hp
      have nd : (fs.map (·.1)).Nodup := by rw [hn]; exact take_nd
      split at hp
      · rename_i hlt
        cases hp
        obtain ⟨p1, p2⟩ := putF_old (v := v) nd (by rw [hn]; exact take_at hf hlt)
        rw [p1, p2, List.length_set]
        exact ⟨hn, DRs.set hd i hs⟩
      · split at hp
        case isFalse => cases hp
        rename_i hlt heq
        cases hp
        have hnew : f ∉ fs.map (·.1) := by
          rw [hn]
          intro hm
          obtain ⟨j', hj⟩ := List.mem_iff_getElem?.mp hm
          have hj1 : j' < ds.length := by
            have z := (List.getElem?_eq_some_iff.mp hj).1
            rw [List.length_take] at z
            omega
          rw [List.getElem?_take, if_pos hj1] at hj
          have hj2 := (List.getElem?_eq_some_iff.mp hj)
          have hf2 := (List.getElem?_eq_some_iff.mp hf)
          obtain ⟨a1, a2⟩ := hj2
          obtain ⟨b1, b2⟩ := hf2
          have z : j' = i := (List.getElem_inj (cAttrs_nd c')).mp (a2.trans b2.symm)
          omega
        obtain ⟨p1, p2⟩ := putF_new (v := v) hnew
        rw [p1, p2]
        refine ⟨?_, hs.app (.cons hd .nil)⟩
        rw [hn, List.length_append, List.length_singleton, List.take_succ, ← heq, hf]
        rfl
def xsetf (j c i : Nat) (a : M R) : MS := fun G => bd (a G) fun x G1 => match putA j c i x.d G1 with
  | some G2 => some (.nx, G2)
  | none => none
theorem sk_setf {j c i : Nat} {f : PySem.Str} (T : ClT K mg c) (hf : (cAttrs c)[i]? = some f) {ta : TE} {a : M R} (ha : GOk K ta a) : SOk K (sFld K (tVar j) ta f) (xsetf j c i a) := fun Fz ba G σ H Hs fl G' q e Dn p => by
  obtain ⟨x, G1, e1, e⟩ := bd_inv e
  cases h : putA j c i x.d G1 with
  | none => rw [h] at e; cases e
  | some G2 =>
    rw [h] at e
    cases e
    refine ha.im q e1 fun v H1 Hs1 q1 s1 d1 => ?_
    obtain ⟨b, dx, fs, g1, g2, g3, g4⟩ := putA_ok T hf q1 d1 h
    exact ⟨_, g1, b, T.C, dx, fs, rfl, g2, T.cls, T.na f (List.mem_of_getElem? hf), g3, p σ _ Hs1 g4 s1⟩
end
end Bk
namespace Bk
open PySem L2
section
variable {X : Cx} {CX : CXT} {k : Nat} {C g : Addr} {fd : FuncData} {ps : List PySem.Str} {sp : Sp} {E : XK}
/-- isinstance(x, a tuple of types), the tuple known in any way -/
def rIsiS (K : PySem.W.Frag) : List V → Hp → VK → Prop := fun xs H Q => ∃ (x : V) (tp : Addr) (cs : List V) (t : Value) (us : List Value) (b : Bool), xs = [x, .ref tp] ∧ SqT K H tp cs ∧ Paired ClsV cs us ∧ TyX K H x t ∧ PySem.W.kitAny K t us = some b ∧ Q (.bl b) H
theorem cr_isiS : CallR X (.builtin "isinstance") (rIsiS X.K) := by
  intro pins s σ H xs us Q I r h
  obtain ⟨x, tp, cs, t, ws, b, rfl, hT, kk, ty, e, q⟩ := h
  obtain ⟨u1, u2, rfl, r1, r2⟩ := vals2 r
  cases (show u2 = Value.ref tp from r2)
  obtain ⟨P, Z, p, hx⟩ := kit_of I r1 ty
  obtain ⟨its, rv, ⟨⟨oc, od, dt, sl⟩, h1, h2, n, h3⟩, _⟩ := I.tuple hT
  have e3 := ClsV.all kk rv
  subst e3
  simp only at h2 h3
  subst h2 h3
  exact PySem.W.kia_tup Z I.kIn p h1 e hx fun tk => ⟨.bl b, H, I.tok tk, rfl, q⟩
end
section
variable {K : PySem.W.Frag} {mg : PySem.Str → Option Value}
def xmake (c : Nat) (m : Mob → List D → Option (R × Mob)) (dds : List D) (a : M (List D)) : M R := fun G => bd (a G) fun xs G1 => match m (.o c []) (xs ++ dds) with
  | some (.im .non, m') => some (.ow m', G1)
  | _ => none
theorem gk_make {c : Nat} {m : Mob → List D → Option (R × Mob)} {dds : List D} {dvs : List V} {E : XK} (T : ClT K mg c) (hd : ∀ H, DRs K H dvs dds) {ta : TA} {a : M (List D)} (ha : AOk K ta a) : GOk K (tMake T.C (spB K m) dvs E ta) (xmake c m dds a) := fun Fz ba G σ H Hs res G' q e0 Q k => by
  obtain ⟨xs, G1, e1, e⟩ := bd_inv e0
  split at e
  case h_2 => cases e
  rename_i m' hm
  cases e
  refine ha Fz ba G σ H Hs xs _ q e1 _ fun vs H1 Hs1 q1 s1 d1 x dx hx hdx hne => ?_
  have sm : Same H1 (upd (upd H1 dx (.own x)) x (.ins T.C dx [])) := fun b o hb => by
    rw [upd_ne (ne_of_none hb hx), upd_ne (ne_of_none hb hdx)]
    exact hb
  refine ⟨Hs1, x, vs ++ dvs, _, .o c [], xs ++ dds, .im .non, m', rfl, q1.sub.trans sm, upd_same, none_sub q1.sub hx, ⟨T.C, dx, [], T.at_, rfl, rfl, .nil⟩, d1.app (hd _), hm, fun v H2 Hs2 o2 ex hl hn hd2 rf => ?_⟩
  refine ⟨by cases rf; rfl, ?_⟩
  have ex2 : Ext H1 Hs1 H2 Hs2 := ⟨fun b o hb => ex.a b o (ne_of_none hb hx) (sm b o hb), ex.b, ex.c, fun b o hb hnb => ex.n b o (sm b o hb) hnb⟩
  have rf2 : ResF K H1 H2 Hs2 (.ref x) (.ow m') := ⟨x, o2, rfl, hx, hl, hn, hd2⟩
  exact k _ H2 Hs2 (q1.ext ex2) (s1.trans ex.b) (rf2.res q1)
def tyL : List D → Option (List String)
  | [] => some []
  | .ty b :: r => (tyL r).map fun l => b :: l
  | _ :: _ => none
def isiL (a : String) : List String → Option Bool
  | [] => some false
  | b :: r => match isiT a b with
    | some true => some true
    | some false => isiL a r
    | none => none
theorem tyL_ok {H : Hp} : ∀ {ds : List D} {vs : List V} {l : List String}, DRs K H vs ds → tyL ds = some l → Paired ClsV vs (l.map Value.type)
  | [], _, _, h, e => by cases h; cases e; exact .nil
  | d :: ds, _, l, h, e => by
    cases h with
    | cons h1 h2 =>
      cases d with
      | ty b =>
        cases h1
        unfold tyL at e
        cases z : tyL ds with
        | none => rw [z] at e; cases e
        | some l' =>
          rw [z] at e
          cases e
          exact .cons (.ty b) (tyL_ok h2 z)
      | _ => cases e
theorem isiL_ok {a : String} (ha : ["NoneType", "bool", "int", "str", "list", "tuple"].contains a = true) : ∀ {l : List String} {k : Bool}, isiL a l = some k → PySem.W.kitAny K (.type a) (l.map Value.type) = some k
  | [], _, e => by cases e; rfl
  | b :: l, k, e => by
    unfold isiL at e
    rw [List.map_cons]
    unfold PySem.W.kitAny
    split at e
    · rename_i z
      cases e
      rw [kit_ty (isiT_ok ha z)]
    · rename_i z
      rw [kit_ty (isiT_ok ha z)]
      exact isiL_ok ha e
    · cases e
def cbIsiS : List D → Option R
  | [d, .tup cs] => match tyS d, tyL cs with
    | some t, some l => (isiL t l).map fun k => .im (.bl k)
    | _, _ => none
  | _ => none
theorem cd_isiS : CbD K (rIsiS K) cbIsiS := fun H Hs xs ds res s h e Q k => by
  unfold cbIsiS at e
  split at e
  case h_2 => cases e
  split at e
  case h_2 => cases e
  rename_i t l z1 z2
  cases z3 : isiL t l with
  | none => rw [z3] at e; cases e
  | some b =>
    rw [z3] at e
    cases e
    cases h with
    | cons a a2 =>
      cases a2 with
      | cons a2 a3 =>
        cases a3
        cases a2 with
        | tup h1 h2 =>
          obtain ⟨t1, t2⟩ := tyS_ok (a.mono s) z1
          exact ⟨_, _, _, _, _, b, rfl, same_tup s h1, tyL_ok h2 z2, t1, isiL_ok t2 z3, k _ H Hs (Ext.refl s) (.bl _)⟩
end
end Bk
namespace Bk
open PySem L2
section
variable {K : PySem.W.Frag}
def xstar (a : M R) (r : M (List D)) : M (List D) := fun G => bd (a G) fun x G1 => match seqD x.d with
  | some ds => bd (r G1) fun es G2 => some (ds ++ es, G2)
  | none => none
theorem ak_star {ta : TE} {tr : TA} {a : M R} {r : M (List D)} (ha : GOk K ta a) (hr : AOk K tr r) : AOk K (StX.tStar K ta tr) (xstar a r) := fun Fz ba G σ H Hs ds G' q e0 Q k => by
  obtain ⟨x, G1, e1, e⟩ := bd_inv e0
  refine ha.im q e1 fun v H1 Hs1 q1 s1 d1 => ?_
  split at e
  case h_2 => cases e
  rename_i xs hx
  obtain ⟨es, G2, e2, e⟩ := bd_inv e
  cases e
  obtain ⟨kk, p, vs, rfl, hp, hd⟩ := seqD_ok d1 hx
  have hp1 : SqT K H1 p vs ∨ SqL K H1 p vs := by
    cases kk with
    | true => exact .inr (same_lst q1.sub hp)
    | false => exact .inl (same_tup q1.sub hp)
  exact ⟨p, vs, rfl, hp1, hr Fz ba G1 σ H1 Hs1 es _ q1 e2 _ fun ws H2 Hs2 q2 s2 d2 => k _ H2 Hs2 q2 (s1.trans s2) ((hd.mono s2).app d2)⟩
def opAddB : D → D → Option R
  | .tup xs, .tup ys => if few (xs.length + ys.length) then some (.im (.tup (xs ++ ys))) else none
  | x, y => opAdd x y
def rAddB (K : PySem.W.Frag) : R2 := fun x y H Q => rAddA x y H Q ∨ rCatA K x y H Q
theorem op_addB {X : Cx} : OpR X (binaryOp .Add) (rAddB X.K) := op_addA.or op_catA
theorem od_addB : OpD K (rAddB K) opAddB := fun H Hs x y dx dy res s hx hy e Q k => by
  unfold opAddB at e
  split at e
  · split at e
    case isFalse => cases e
    rename_i xs ys hf
    cases e
    have hx0 := hx
    have hy0 := hy
    cases hx with
    | tup h1 d1 =>
      cases hy with
      | tup h2 d2 =>
        refine .inr ⟨_, _, _, _, rfl, rfl, same_tup s h1, same_tup s h2, by rw [d1.len, d2.len]; exact few_ok hf, fun z => ?_, fun _ z => ?_, fun _ _ p hp => ?_⟩
        · subst z
          cases d1
          exact k _ H Hs (Ext.refl s) hy0
        · subst z
          cases d2
          rw [List.append_nil] at k
          exact k _ H Hs (Ext.refl s) hx0
        · exact k _ _ _ (Ext.new s hp) (.tup (SqT.of upd_same) ((d1.app d2).mono (Ext.new (o := HO.tup _) s hp).b))
  · exact .inl (od_add H Hs x y dx dy res s hx hy e Q k)
def slB (d : D) (lo hi : Option Int) : Option R := match d with
  | .tup xs => some (.im (.tup (cutD xs lo hi)))
  | .str z => if few z.length then some (.im (.str (cutS z lo hi))) else none
  | d => slL d lo hi
def rSlB (K : PySem.W.Frag) : V → Option Int → Option Int → Hp → VK → Prop := fun x lo hi H Q => (rSlL K x lo hi H Q ∨ L2.rSlA K x lo hi H Q) ∨ rSlS x lo hi H Q
theorem sl_B {X : Cx} : SlR X (rSlB X.K) := (sl_list.or sl_tupA).or sl_str
theorem cut_whole {xs : List D} {lo hi : Option Int} (h : HT.sIx xs.length 0 lo = 0 ∧ HT.sIx xs.length xs.length hi = xs.length) : cutD xs lo hi = xs := by
  unfold cutD
  rw [h.1, h.2]
  simp
theorem sd_B : SlD K (rSlB K) slB := fun H Hs x dx l h res s hx e Q k => by
  unfold slB at e
  split at e
  · cases e
    have hx0 := hx
    cases hx with
    | tup h1 d1 =>
      refine .inl (.inr ⟨_, _, rfl, same_tup s h1, fun z => ?_, fun z p hp => ?_⟩)
      · rw [d1.len] at z
        rw [cut_whole z] at k
        exact k _ H Hs (Ext.refl s) hx0
      · exact k _ _ _ (Ext.new s hp) (.tup (SqT.of upd_same) (cut_ok (d1.mono (Ext.new (o := HO.tup _) s hp).b) _ _))
  · split at e
    case isFalse => cases e
    rename_i hf
    cases e
    cases hx
    exact .inr ⟨_, rfl, few_ok hf, k _ H Hs (Ext.refl s) (.str _)⟩
  · exact .inl (.inl (sd_list H Hs x _ l h res s hx e Q k))
def flatD : D → Option V
  | .non => some .non
  | .bl b => some (.bl b)
  | .int i => some (.int i)
  | .str x => some (.str x)
  | _ => none
def flatDs : List D → Option (List V)
  | [] => some []
  | d :: ds => match flatD d, flatDs ds with
    | some v, some vs => some (v :: vs)
    | _, _ => none
theorem flatD_ok {H : Hp} {x v : V} {d : D} (h : DR K H x d) (e : flatD d = some v) : x = v ∧ flatV v = true := by
  cases h <;> cases e <;> exact ⟨rfl, rfl⟩
theorem flatDs_ok {H : Hp} : ∀ {ds : List D} {xs vs : List V}, DRs K H xs ds → flatDs ds = some vs → xs = vs ∧ vs.all flatV = true
  | [], _, _, h, e => by cases h; cases e; exact ⟨rfl, rfl⟩
  | d :: ds, _, _, h, e => by
    unfold flatDs at e
    split at e
    case h_2 => cases e
    rename_i h1 h2
    cases e
    cases h with
    | cons a b =>
      obtain ⟨e1, f1⟩ := flatD_ok a h1
      obtain ⟨e2, f2⟩ := flatDs_ok b h2
      subst e1 e2
      exact ⟨rfl, by rw [List.all_cons, f1, f2]; rfl⟩
def opIn (neg : Bool) (x y : D) : Option R := match y with
  | .str z => match x with
    | .str i => match i.cps.toList with
      | [c] => some (.im (.bl (if neg then !decide (c ∈ z.cps.toList) else decide (c ∈ z.cps.toList))))
      | _ => none
    | _ => none
  | y => match seqD y, flatD x with
    | some ds, some v => match flatDs ds with
      | some vs => some (.im (.bl (if neg then !inV v vs else inV v vs)))
      | none => none
    | _, _ => none
def rInA (K : PySem.W.Frag) (neg : Bool) : R2 := fun x y H Q => rIn K neg x y H Q ∨ ∃ (c : Nat) (z : PySem.Str), x = .str ⟨#[c]⟩ ∧ y = .str z ∧ Q (.bl (if neg then !decide (c ∈ z.cps.toList) else decide (c ∈ z.cps.toList))) H
theorem op_inA {X : Cx} : OpR X (compareOp .In) (rInA X.K false) := op_in_seq.or op_in_sign
theorem op_notInA {X : Cx} : OpR X (compareOp .NotIn) (rInA X.K true) := op_notIn_seq.or op_notIn_sign
theorem od_in {neg : Bool} : OpD K (rInA K neg) (opIn neg) := fun H Hs x y dx dy res s hx hy e Q k => by
  unfold opIn at e
  split at e
  · split at e
    case h_2 => cases e
    split at e
    case h_2 => cases e
    rename_i z _ i _ c hc
    have hi : i = ⟨#[c]⟩ := by
      have z2 : i.cps = #[c] := by
        have z3 := congrArg List.toArray hc
        simpa using z3
      cases i
      exact congrArg PySem.Str.mk z2
    subst hi
    cases e
    cases hx; cases hy
    exact .inr ⟨c, z, rfl, rfl, k _ H Hs (Ext.refl s) (.bl _)⟩
  · split at e
    case h_2 => cases e
    rename_i ds v h1 h2
    split at e
    case h_2 => cases e
    rename_i vs h3
    cases e
    obtain ⟨e1, f1⟩ := flatD_ok hx h2
    obtain ⟨kk, p, xs, rfl, hp, hd⟩ := seqD_ok hy h1
    obtain ⟨e3, f3⟩ := flatDs_ok hd h3
    subst e1 e3
    refine .inl ⟨p, xs, rfl, ?_, f1, f3, k _ H Hs (Ext.refl s) (.bl _)⟩
    cases kk with
    | true => exact .inl (same_lst s hp)
    | false => exact .inr (same_tup s hp)
end
section
variable {K : PySem.W.Frag}
def MutD (K : PySem.W.Frag) (r : V → List V → Hp → VK → Prop) (f : List D → List D → Option (D × List D)) : Prop := ∀ H Hs l vs ds ws xs d ds', Same Hs H → H l = some (.lst vs) → DRs K Hs vs ds → DRs K Hs ws xs → f ds xs = some (d, ds') →
  ∀ Q : VK, (∀ v vs', DR K Hs v d → DRs K Hs vs' ds' → Q v (upd H l (.lst vs'))) → r (.ref l) ws H Q
def xmut (j : Nat) (f : List D → List D → Option (D × List D)) (as : M (List D)) : M R := fun G => if isLst G j then bd (as G) fun xs G1 => match G1[j]? with
  | some e => match e.mu with
    | some (.l ds) => match f ds xs with
      | some (d, ds') => some (.im d, G1.set j (e.with (.l ds')))
      | none => none
    | _ => none
  | none => none else none
theorem gk_mut {j : Nat} {r : V → List V → Hp → VK → Prop} {f : List D → List D → Option (D × List D)} (hr : MutD K r f) {ta : TA} {as : M (List D)} (ha : AOk K ta as) : GOk K (tBM K "list" r (tVar j) ta) (xmut j f as) := fun Fz ba G σ H Hs res G' q e0 Q k => by
  unfold xmut at e0
  split at e0
  case isFalse => cases e0
  rename_i hm
  obtain ⟨l, y3, yk⟩ := q.same_slot (isLst_mu hm)
  obtain ⟨xs, G1, e1, e⟩ := bd_inv e0
  obtain ⟨en0, ds0, y1, y2⟩ := isLst_ok hm
  obtain ⟨_, w1, _, vs0, rfl, _⟩ := yk G H Hs en0 _ q y1 y2
  refine ⟨_, y3, .inl ⟨rfl, vs0, SqL.of w1⟩, ?_⟩
  refine ha Fz ba G σ H Hs xs _ q e1 _ fun ws H1 Hs1 q1 s1 d1 => ?_
  cases h : G1[j]? with
  | none => simp only [h] at e; cases e
  | some en =>
    cases h0 : en.mu with
    | none => simp only [h, h0] at e; cases e
    | some mm =>
     cases mm with
     | o _ _ => simp only [h, h0] at e; cases e
     | l ds =>
      simp only [h, h0] at e
      split at e
      case h_2 => cases e
      rename_i d ds' hf
      cases e
      obtain ⟨_, z1, z2, vs, rfl, z3⟩ := yk _ H1 Hs1 en _ q1 h h0
      exact hr H1 Hs1 l vs ds ws xs d ds' q1.sub z1 z3 d1 hf Q fun v vs' h1 h2 => k v _ Hs1 (q1.mut h h0 y3 (extB_upd q1.sub z2) upd_same z2 ⟨_, rfl, h2⟩) s1 h1
def rInsert : V → List V → Hp → VK → Prop := fun x vs H Q => ∃ (l : Addr) (xs : List V) (i : Int) (y : V), x = .ref l ∧ vs = [.int i, y] ∧ H l = some (.lst xs) ∧ xs.length < sizeLine ∧ 0 ≤ i ∧ i < 2 ^ 63 ∧ Q .non (upd H l (.lst (xs.take i.toNat ++ [y] ++ xs.drop i.toNat)))
def muIns (ds xs : List D) : Option (D × List D) := match xs with
  | [.int i, y] => if few ds.length && (decide (0 ≤ i) && okR i) then some (.non, ds.take i.toNat ++ [y] ++ ds.drop i.toNat) else none
  | _ => none
theorem md_ins : MutD K rInsert muIns := fun H Hs l vs ds ws xs d ds' s hl hd hw e Q k => by
  unfold muIns at e
  split at e
  case h_2 => cases e
  split at e
  case isFalse => cases e
  rename_i i y hf
  cases e
  rw [Bool.and_eq_true, Bool.and_eq_true] at hf
  obtain ⟨z1, z2⟩ : -(2 ^ 62) ≤ i ∧ i < 2 ^ 62 := okR_inv hf.2.2
  cases hw with
  | cons a b =>
    cases b with
    | cons b c =>
      cases c
      cases a
      exact ⟨l, vs, i, _, rfl, rfl, hl, by rw [hd.len]; exact few_lt hf.1, of_decide_eq_true hf.2.1, by omega, k _ _ .non (((hd.take _).app (.cons b .nil)).app (hd.drop _))⟩
end
end Bk
namespace Bk
open PySem L2
section
variable {K : PySem.W.Frag}
def xlc2L (tg : D → Gam → Option Gam) (c : M Bool) (it1 : M (List D)) (tg1 : D → Gam → Option Gam) (c1 : M Bool) (e : M R) (vs vs1 : List Nat) : List D → M (List D)
  | [], G => some ([], G)
  | d :: ds, G => match tg d G with
    | none => none
    | some G1 => bd (c G1) fun k G2 => if k then bd (it1 G2) fun ds1 G3 => bd (xlcL tg1 c1 e vs1 ds1 (wipeG G3 vs1)) fun o1 G4 => bd (xlc2L tg c it1 tg1 c1 e vs vs1 ds (wipeG G4 vs)) fun o2 G5 => some (o1 ++ o2, G5)
        else xlc2L tg c it1 tg1 c1 e vs vs1 ds (wipeG G2 vs)
def xlc2 (it : M (List D)) (tg : D → Gam → Option Gam) (c : M Bool) (it1 : M (List D)) (tg1 : D → Gam → Option Gam) (c1 : M Bool) (e : M R) (vs vs1 : List Nat) : M R := fun G => bd (it G) fun ds G1 =>
  if noMu G1 vs then bd (xlc2L tg c it1 tg1 c1 e vs vs1 ds (wipeG G1 vs)) fun out G2 => if few out.length then some (.ol out, unw G1 G2 vs) else none else none
theorem wipe_sub {σ : L2.St} {vs vs1 : List Nat} (h : ∀ j ∈ vs1, j ∈ vs) : wipe (wipe σ vs1) vs = wipe σ vs := wipe_eq (wipe_length σ vs1) fun j hj => wipe_get fun z => hj (h j z)
theorem gk_lc2 {w w1 : TI} {g g1 : TG} {t t1 : TT} {te : TE} {it it1 : M (List D)} {tg tg1 : D → Gam → Option Gam} {js js1 vs vs1 : List Nat} {c c1 : M Bool} {a : M R} (hi : IOk K w it) (hg : GtOk K g tg js) (hc : TOk K t c) (hi1 : IOk K w1 it1) (hg1 : GtOk K g1 tg1 js1) (hc1 : TOk K t1 c1) (ha : GOk K te a)
    (hj : ∀ j ∈ js, j ∈ vs) (hj1 : ∀ j ∈ js1, j ∈ vs1) (hs : ∀ j ∈ vs1, j ∈ vs) : GOk K (tLc2 w g t w1 g1 t1 te vs vs1) (xlc2 it tg c it1 tg1 c1 a vs vs1) := fun Fz ba G σ H Hs res G' q e Q k => by
  obtain ⟨ds, G1, e1, e⟩ := bd_inv e
  split at e
  case isFalse => cases e
  rename_i nm
  obtain ⟨out, G2, e2, e⟩ := bd_inv e
  split at e
  case isFalse => cases e
  rename_i hf
  cases e
  refine hi Fz ba G σ H Hs ds _ q e1 _ fun J H1 Hs1 q1 s1 Y p hp => ?_
  have hfp : Fz p = none := by
    cases z : Fz p with
    | none => rfl
    | some o =>
      obtain ⟨z1, _⟩ := q1.fz p o z
      rw [hp] at z1
      cases z1
  have q1w := (q1.wiped vs).hide (o := .lst []) hp
  refine ⟨fun i m H2 => m = ds.length - i ∧ i ≤ ds.length ∧ ∃ G3 Hs3 acc ad more, Rel K (upd Fz p (.lst acc)) ba G3 (wipe σ vs) H2 Hs3 ∧ Same Hs1 Hs3 ∧ DRs K Hs3 acc ad ∧ xlc2L tg c it1 tg1 c1 a vs vs1 (ds.drop i) G3 = some (more, G2) ∧ ad ++ more = out,
    ⟨ds.length, rfl, Nat.zero_le _, wipeG G1 vs, Hs1, [], [], out, q1w, Same.refl _, .nil, e2, rfl⟩, ?_⟩
  rintro i m H2 ⟨rfl, hi2, G3, Hs3, acc, ad, more, q3, s3, da, e3, eo⟩
  by_cases hlt : i < ds.length
  · refine .inr ⟨Y.go i H2 (s3.trans q3.sub) hlt, fun H' => i + 1 ≤ ds.length ∧ ∃ G4 Hs4 acc ad more, Rel K (upd Fz p (.lst acc)) ba G4 (wipe σ vs) H' Hs4 ∧ Same Hs1 Hs4 ∧ DRs K Hs4 acc ad ∧ xlc2L tg c it1 tg1 c1 a vs vs1 (ds.drop (i + 1)) G4 = some (more, G2) ∧ ad ++ more = out,
      fun H' ⟨z, z2⟩ => ⟨ds.length - (i + 1), by omega, rfl, z, z2⟩, fun x H' y => ?_⟩
    obtain ⟨d, Hs4, d1, ex, dr⟩ := Y.yld i x H2 H' Hs3 hlt s3 q3.sub y
    have q4 := q3.ext ex
    have ed : ds.drop i = d :: ds.drop (i + 1) := by
      rw [List.drop_eq_getElem_cons hlt]
      rw [List.getElem?_eq_getElem hlt] at d1
      cases d1
      rfl
    rw [ed] at e3
    unfold xlc2L at e3
    cases hG : tg d G3 with
    | none => rw [hG] at e3; cases e3
    | some G4 =>
      rw [hG] at e3
      refine hg.run _ ba G3 _ H' Hs4 x d G4 q4 dr hG _ fun σ5 q5 l5 k5 => ?_
      have hlen : σ5.length = σ.length := by rw [l5, wipe_length]
      have hw : wipe σ5 vs = wipe σ vs := by
        have z := wipe_eq (σ := wipe σ vs) (τ := σ5) (vs := vs) (by rw [wipe_length]; exact hlen) fun j hj' => k5 j fun z => hj' (hj j z)
        rw [z]
        exact wipe_eq (wipe_length σ vs) fun j hj' => wipe_get hj'
      refine ⟨hw, ?_⟩
      obtain ⟨b, G5, e5, e6⟩ := bd_inv e3
      refine hc _ ba G4 σ5 H' Hs4 b G5 q5 e5 _ fun H5 Hs5 q6 s6 => ?_
      cases b with
      | true =>
        obtain ⟨ds1, G6, e7, e8⟩ := bd_inv (show bd (it1 G5) _ = _ from e6)
        obtain ⟨o1, G7, e9, e10⟩ := bd_inv e8
        obtain ⟨o2, G8, e11, e12⟩ := bd_inv e10
        cases e12
        rw [if_pos rfl]
        refine hi1 _ ba G5 σ5 H5 Hs5 ds1 G6 q6 e7 _ fun J1 H6 Hs6 q7 s7 Y1 => ?_
        refine ⟨fun j n H7 => n = ds1.length - j ∧ j ≤ ds1.length ∧ ∃ G9 Hs9 acc ad more, Rel K (upd Fz p (.lst acc)) ba G9 (wipe σ5 vs1) H7 Hs9 ∧ Same Hs6 Hs9 ∧ DRs K Hs9 acc ad ∧ xlcL tg1 c1 a vs1 (ds1.drop j) G9 = some (more, G7) ∧ ad ++ (more ++ o2) = out,
          ⟨ds1.length, rfl, Nat.zero_le _, wipeG G6 vs1, Hs6, acc, ad, o1, q7.wiped vs1, Same.refl _, da.mono ((ex.b.trans s6).trans s7), e9, eo⟩, ?_⟩
        rintro j n H7 ⟨rfl, hj2, G9, Hs9, acc9, ad9, more9, q9, s9, da9, e13, eo9⟩
        by_cases hlt1 : j < ds1.length
        · refine .inr ⟨Y1.go j H7 (s9.trans q9.sub) hlt1, fun H' => j + 1 ≤ ds1.length ∧ ∃ G9 Hs9 acc ad more, Rel K (upd Fz p (.lst acc)) ba G9 (wipe σ5 vs1) H' Hs9 ∧ Same Hs6 Hs9 ∧ DRs K Hs9 acc ad ∧ xlcL tg1 c1 a vs1 (ds1.drop (j + 1)) G9 = some (more, G7) ∧ ad ++ (more ++ o2) = out,
            fun H' ⟨z, z2⟩ => ⟨ds1.length - (j + 1), by omega, rfl, z, z2⟩, fun x1 H8 y1 => ?_⟩
          obtain ⟨dd, Hs10, dd1, ex1, dr1⟩ := Y1.yld j x1 H7 H8 Hs9 hlt1 s9 q9.sub y1
          have q10 := q9.ext ex1
          have ed1 : ds1.drop j = dd :: ds1.drop (j + 1) := by
            rw [List.drop_eq_getElem_cons hlt1]
            rw [List.getElem?_eq_getElem hlt1] at dd1
            cases dd1
            rfl
          rw [ed1] at e13
          unfold xlcL at e13
          cases hG1 : tg1 dd G9 with
          | none => rw [hG1] at e13; cases e13
          | some G11 =>
            rw [hG1] at e13
            refine hg1.run _ ba G9 _ H8 Hs10 x1 dd G11 q10 dr1 hG1 _ fun σ6 q11 l6 k6 => ?_
            have hlen6 : σ6.length = σ5.length := by rw [l6, wipe_length]
            have hw6 : wipe σ6 vs1 = wipe σ5 vs1 := by
              have z := wipe_eq (σ := wipe σ5 vs1) (τ := σ6) (vs := vs1) (by rw [wipe_length]; exact hlen6) fun j hj' => k6 j fun z => hj' (hj1 j z)
              rw [z]
              exact wipe_eq (wipe_length σ5 vs1) fun j hj' => wipe_get hj'
            refine ⟨hw6, ?_⟩
            obtain ⟨b1, G12, e14, e15⟩ := bd_inv e13
            refine hc1 _ ba G11 σ6 H8 Hs10 b1 G12 q11 e14 _ fun H12 Hs12 q12 s12 => ?_
            cases b1 with
            | true =>
              obtain ⟨r, G13, e16, e17⟩ := bd_inv (show bd (a G12) _ = _ from e15)
              obtain ⟨out2, G14, e18, e19⟩ := bd_inv e17
              cases e19
              rw [if_pos rfl]
              refine ha.im q12 e16 fun v H13 Hs13 q13 s13 d13 => ?_
              obtain ⟨f1, f2⟩ := q13.fz p _ upd_same
              have q14 := (q13.rehide (o' := .lst (acc9 ++ [v]))).wiped vs1
              rw [hw6] at q14
              refine ⟨acc9, f1, ?_, hlt1, _, Hs13, _, ad9 ++ [r.d], out2, q14, ((s9.trans ex1.b).trans s12).trans s13, (da9.mono ((ex1.b.trans s12).trans s13)).app (.cons d13 .nil), e18, ?_⟩
              · have z1 := da9.len
                have z2 : ad9.length ≤ out.length := by rw [← eo9, List.length_append]; omega
                exact Nat.lt_of_le_of_lt (by omega) (few_lt hf)
              · rw [← eo9]
                simp
            | false =>
              rw [if_neg Bool.false_ne_true] at e15 ⊢
              have q14 := q12.wiped vs1
              rw [hw6] at q14
              exact ⟨hlt1, _, Hs12, acc9, ad9, more9, q14, (s9.trans ex1.b).trans s12, da9.mono (ex1.b.trans s12), e15, eo9⟩
        · have hend : ds1.length ≤ j := by omega
          rw [List.drop_eq_nil_of_le hend] at e13
          cases e13
          rw [List.nil_append] at eo9
          refine .inl ⟨Y1.stop j H7 (s9.trans q9.sub) hend, hlt, _, Hs9, acc9, ad9, o2, ?_, (((s3.trans ex.b).trans s6).trans s7).trans s9, da9, e11, eo9⟩
          have z := q9.wiped vs
          rw [wipe_sub hs, hw] at z
          exact z
      | false =>
        rw [if_neg Bool.false_ne_true] at e6 ⊢
        have q8 := q6.wiped vs
        rw [hw] at q8
        exact ⟨hlt, _, Hs5, acc, ad, more, q8, (s3.trans ex.b).trans s6, da.mono (ex.b.trans s6), e6, eo⟩
  · have hend : ds.length ≤ i := by omega
    rw [List.drop_eq_nil_of_le hend] at e3
    cases e3
    rw [List.append_nil] at eo
    subst eo
    obtain ⟨f1, f2⟩ := q3.fz p _ upd_same
    refine .inl ⟨Y.stop i H2 (s3.trans q3.sub) hend, k _ H2 Hs3 (q1.unwipe (q3.unhide hfp) s3 nm) (s1.trans s3) ⟨p, _, rfl, f1, f2, hfp, ⟨acc, rfl, da⟩, fun j e' g m z => ?_⟩⟩
    by_cases hjv : j ∈ vs
    · have z1 := q1.len
      have z2 := q3.len
      rw [wipe_length, z1] at z2
      rw [unw_in (G1 := G1) z2.symm hjv] at g
      exact m (noMu_ok nm hjv g)
    · rw [unw_out hjv] at g
      obtain ⟨ds', hd'⟩ : ∃ ds', e'.mu = some ds' := by
        cases y : e'.mu with
        | none => exact absurd y m
        | some ds' => exact ⟨ds', rfl⟩
      obtain ⟨l, ws, a1, a2, a3, a4, a5⟩ := q3.mu j e' ds' g hd'
      rw [wipe_get hjv, z] at a1
      cases a1
      rw [upd_same] at a4
      cases a4
end
end Bk
namespace Bk
open PySem L2
section
variable {K : PySem.W.Frag}
/-- the address that a result owns is p -/
def OwnAt (v : V) (r : R) (p : Addr) : Prop := (∃ m, r = .ow m) ∧ v = .ref p
inductive ResL (K : PySem.W.Frag) (Fz : Hp) (G : Gam) (σ : L2.St) (H Hs : Hp) : List V → List R → Prop
  | nil : ResL K Fz G σ H Hs [] []
  | cons {v : V} {r : R} {vs : List V} {rs : List R} : Res K Fz G σ H Hs v r → (∀ p, OwnAt v r p → ∀ x ∈ vs.zip rs, ¬ OwnAt x.1 x.2 p) → ResL K Fz G σ H Hs vs rs → ResL K Fz G σ H Hs (v :: vs) (r :: rs)
theorem Rel.lock {Fz : Hp} {ba : Nat → Addr} {G : Gam} {σ : L2.St} {H Hs : Hp} (q : Rel K Fz ba G σ H Hs) {p : Addr} {o : HO} (h : H p = some o) (hs : Hs p = none) (hn : ∀ (i : Nat) (e : Ent), G[i]? = some e → e.mu ≠ none → σ[i]? ≠ some (some (.ref p))) : Rel K (upd Fz p o) ba G σ H Hs := by
  refine ⟨q.sub, fun a u e => ?_, q.len, q.im, fun i e ds g g0 => ?_, q.dj, q.bx⟩
  · by_cases z : a = p
    · subst z
      rw [upd_same] at e
      cases e
      exact ⟨h, hs⟩
    · rw [upd_ne z] at e
      exact q.fz a u e
  · obtain ⟨l, vs, a1, a2, a3, a4, a5⟩ := q.mu i e ds g g0
    have ne : l ≠ p := fun z => by
      subst z
      exact hn i e g (by rw [g0]; simp) a1
    exact ⟨l, vs, a1, a2, a3, by rw [upd_ne ne]; exact a4, a5⟩
theorem Res.unlock {Fz : Hp} {G : Gam} {σ : L2.St} {H Hs : Hp} {p : Addr} {o : HO} (hf : Fz p = none) {v : V} {r : R} (h : Res K (upd Fz p o) G σ H Hs v r) : Res K Fz G σ H Hs v r ∧ ¬ OwnAt v r p := by
  cases r with
  | im d => exact ⟨h, fun ⟨⟨m, z⟩, _⟩ => nomatch z⟩
  | ow m =>
    obtain ⟨p', o', rfl, h1, h2, h3, h4, h5⟩ := h
    have ne : p' ≠ p := fun z => by
      subst z
      rw [upd_same] at h3
      cases h3
    rw [upd_ne ne] at h3
    exact ⟨⟨p', o', rfl, h1, h2, h3, h4, h5⟩, fun ⟨_, z⟩ => ne (V.ref.inj z)⟩
theorem ResL.unlock {Fz : Hp} {G : Gam} {σ : L2.St} {H Hs : Hp} {p : Addr} {o : HO} (hf : Fz p = none) : ∀ {vs : List V} {rs : List R}, ResL K (upd Fz p o) G σ H Hs vs rs → ResL K Fz G σ H Hs vs rs ∧ ∀ x ∈ vs.zip rs, ¬ OwnAt x.1 x.2 p
  | _, _, .nil => ⟨.nil, fun x h => by simp at h⟩
  | _, _, .cons h hd t => by
    obtain ⟨a1, a2⟩ := h.unlock hf
    obtain ⟨b1, b2⟩ := ResL.unlock hf t
    refine ⟨.cons a1 hd b1, fun x hx => ?_⟩
    rw [List.zip_cons_cons, List.mem_cons] at hx
    rcases hx with rfl | hx
    · exact a2
    · exact b2 x hx
def AROk (K : PySem.W.Frag) (t : TA) (f : M (List R)) : Prop := ∀ Fz ba G σ H Hs rs G', Rel K Fz ba G σ H Hs → f G = some (rs, G') →
  ∀ Q : List V → Hp → Prop, (∀ vs H' Hs', Rel K Fz ba G' σ H' Hs' → Same Hs Hs' → ResL K Fz G' σ H' Hs' vs rs → Q vs H') → t σ H Q
def ynil : M (List R) := fun G => some ([], G)
def ycons (a : M R) (r : M (List R)) : M (List R) := fun G => bd (a G) fun x G1 => bd (r G1) fun xs G2 => some (x :: xs, G2)
theorem yk_nil : AROk K tNil ynil := fun Fz ba G σ H Hs rs G' q e Q k => by
  cases e
  exact k [] H Hs q (Same.refl _) .nil
theorem yk_cons {ta : TE} {tr : TA} {a : M R} {r : M (List R)} (ha : GOk K ta a) (hr : AROk K tr r) : AROk K (tCons ta tr) (ycons a r) := fun Fz ba G σ H Hs rs G' q e Q k => by
  obtain ⟨x, G1, e1, e⟩ := bd_inv e
  obtain ⟨xs, G2, e2, e⟩ := bd_inv e
  cases e
  refine ha Fz ba G σ H Hs x G1 q e1 _ fun v H1 Hs1 q1 s1 r1 => ?_
  cases x with
  | im d =>
    refine hr Fz ba G1 σ H1 Hs1 xs _ q1 e2 _ fun vs H2 Hs2 q2 s2 r2 => k _ H2 Hs2 q2 (s1.trans s2) (.cons (show DR K Hs2 v d from DR.mono s2 r1) (fun p ⟨⟨m, z⟩, _⟩ => nomatch z) r2)
  | ow m =>
    obtain ⟨p, o, rfl, h1, h2, h3, h4, h5⟩ := r1
    have ql := q1.lock h1 h2 h5
    refine hr _ ba G1 σ H1 Hs1 xs _ ql e2 _ fun vs H2 Hs2 q2 s2 r2 => ?_
    obtain ⟨f1, f2⟩ := q2.fz p o upd_same
    obtain ⟨u1, u2⟩ := ResL.unlock h3 r2
    refine k _ H2 Hs2 (q2.unhide h3) (s1.trans s2) (.cons ⟨p, o, rfl, f1, f2, h3, h4.mono s2, fun i e g mm z => ?_⟩ (fun p' ⟨_, z⟩ => ?_) u1)
    · obtain ⟨ds', hd'⟩ : ∃ ds', e.mu = some ds' := by
        cases y : e.mu with
        | none => exact absurd y mm
        | some ds' => exact ⟨ds', rfl⟩
      obtain ⟨l, ws, a1, a2, a3, a4, a5⟩ := q2.mu i e ds' g hd'
      rw [z] at a1
      cases a1
      rw [upd_same] at a4
      cases a4
    · cases z
      exact u2
/-- a result is still one behind a store of another -/
theorem Res.set {Fz : Hp} {G : Gam} {σ : L2.St} {H Hs : Hp} {i : Nat} {v w : V} {x y : R} (hl : σ.length = G.length) (h : Res K Fz G σ H Hs w y) (hd : ∀ p, OwnAt v x p → ¬ OwnAt w y p) (hx : Res K Fz G σ H Hs v x) : Res K Fz (G.set i x.ent) (σ.set i (some v)) H Hs w y := by
  cases y with
  | im d => exact h
  | ow m =>
    obtain ⟨p, o, rfl, h1, h2, h3, h4, h5⟩ := h
    refine ⟨p, o, rfl, h1, h2, h3, h4, fun j e g mm z => ?_⟩
    rcases get_set g with ⟨rfl, e1, hi⟩ | ⟨ne, g⟩
    · rw [List.getElem?_set_self (by rw [hl]; exact hi)] at z
      cases z
      cases x with
      | im d => subst e1; exact mm rfl
      | ow m' => exact hd p ⟨⟨m', rfl⟩, rfl⟩ ⟨⟨m, rfl⟩, rfl⟩
    · rw [List.getElem?_set_ne ne] at z
      exact h5 j e g mm z
def ypar (i j : Nat) (a : M (List R)) : MS := fun G => bd (a G) fun xs G1 => match xs with
  | [x, y] => some (.nx, (G1.set i x.ent).set j y.ent)
  | _ => none
theorem sk_ypar {i j : Nat} {ta : TA} {a : M (List R)} (ha : AROk K ta a) : SOk K (tPar i j ta) (ypar i j a) := fun Fz ba G σ H Hs fl G' q e Dn p => by
  obtain ⟨xs, G1, e1, e⟩ := bd_inv e
  split at e
  case h_2 => cases e
  rename_i x y
  cases e
  refine ha Fz ba G σ H Hs _ _ q e1 _ fun vs H1 Hs1 q1 s1 d1 => ?_
  cases d1 with
  | cons rx hd d1 =>
    cases d1 with
    | cons ry hd2 d1 =>
      cases d1
      have q2 := q1.set (i := i) rx
      have ry2 := Res.set (i := i) q1.len ry (fun p hp => hd p hp (_, y) (List.mem_cons_self)) rx
      exact ⟨_, _, rfl, p _ H1 Hs1 (q2.set (i := j) ry2) s1⟩
end
section
variable {X : Cx} {o : Expr} {f : PySem.Str} {pos : Pos} {ta : TE}
def gFld (K : PySem.W.Frag) (ta : TE) (f : PySem.Str) : TG := fun v σ H Q => ta σ H fun x H1 => ∃ a C dx fs, x = .ref a ∧ H1 a = some (.ins C dx fs) ∧ Cls K C ∧ NoAttr K C f ∧ fs.length < 1000 ∧ Q σ (upd H1 a (.ins C dx (putF f v fs)))
theorem pg_fld (ho : PE X o ta) : PG X (.Attribute o f pos) (gFld X.K ta f) := by
  refine ⟨fun pins s σ H v u Q I r h => ?_⟩
  show wpAny _ _ (do
    let ov ← holding [u] (eval o X.env)
    standAt pos.atName
    holding [u, ov] (setAttr ov f u)
    release [u, ov] []) _ _ _
  refine wpAny_bind (wpAny_holding (thn (ho.run pins s σ H _ I h) fun ov s1 ⟨x, H1, I1, r1, a, C, dx, fs, ex, ea, c, n, hl, q⟩ => ?_))
  subst ex
  obtain rfl : ov = Value.ref a := r1
  refine wpAny_bind (wpAny_standAt (wpAny_bind (wpAny_holding (setattr_ok I1 ea c n hl r fun s2 I2 => ?_))))
  exact wpAny_release ⟨σ, _, I2, q⟩
end
section
variable {K : PySem.W.Frag} {mg : PySem.Str → Option Value}
def tgf (j c i : Nat) : D → Gam → Option Gam := fun d G => putA j c i d G
theorem gt_fld {j c i : Nat} {f : PySem.Str} (T : ClT K mg c) (hf : (cAttrs c)[i]? = some f) : ∀ Fz ba G σ H Hs v d G', Rel K Fz ba G σ H Hs → DR K Hs v d → tgf j c i d G = some G' → ∀ Q : L2.St → Hp → Prop, (∀ H', Rel K Fz ba G' σ H' Hs → Q σ H') → gFld K (tVar j) f v σ H Q := fun Fz ba G σ H Hs v d G' q hd e Q k => by
  obtain ⟨a, dx, fs, g1, g2, g3, g4⟩ := putA_ok T hf q hd e
  exact ⟨_, g1, a, T.C, dx, fs, rfl, g2, T.cls, T.na f (List.mem_of_getElem? hf), g3, k _ g4⟩
/-- self.f, self.g = e -/
def xasgF (j c i k : Nat) (a : M R) : MS := fun G => bd (a G) fun x G1 => match x.d with
  | .tup [d, d'] => match putA j c i d G1 with
    | some G2 => match putA j c k d' G2 with
      | some G3 => some (.nx, G3)
      | none => none
    | none => none
  | _ => none
theorem sk_asgF {j c i k : Nat} {f g : PySem.Str} (T : ClT K mg c) (hf : (cAttrs c)[i]? = some f) (hg : (cAttrs c)[k]? = some g) {ta : TE} {a : M R} (ha : GOk K ta a) : SOk K (tAsg ta (gTup K 2 (gCons (gFld K (tVar j) f) (gCons (gFld K (tVar j) g) gNil)))) (xasgF j c i k a) := fun Fz ba G σ H Hs fl G' q e Dn p => by
  obtain ⟨x, G1, e1, e⟩ := bd_inv e
  refine ha.im q e1 fun v H1 Hs1 q1 s1 d1 => ?_
  split at e
  case h_2 => cases e
  rename_i d d' hx
  rw [hx] at d1
  split at e
  case h_2 => cases e
  rename_i G2 h2
  split at e
  case h_2 => cases e
  rename_i G3 h3
  cases e
  cases d1 with
  | tup ht hd =>
    cases hd with
    | cons da hd =>
      cases hd with
      | cons db hd =>
        cases hd
        refine ⟨_, _, rfl, same_tup q1.sub ht, rfl, _, _, rfl, ?_⟩
        refine gt_fld T hf Fz ba G1 σ H1 Hs1 _ d G2 q1 da h2 _ fun H2 q2 => ?_
        refine ⟨_, _, rfl, ?_⟩
        refine gt_fld T hg Fz ba G2 σ H2 Hs1 _ d' _ q2 db h3 _ fun H3 q3 => ?_
        exact ⟨rfl, p σ H3 Hs1 q3 s1⟩
end
end Bk
namespace Bk
open PySem L2 PyProof.Rows Srt
section
variable {prog : Program} {w : World} {A : Around} {E : Value → Shared → Prop} {s : Shared}
/-- a tuple of an int and a pair of ints -/
def IsKP (h : Heap) (v : Value) (k : Int × Int × Int) : Prop := ∃ (a b : Addr) (o o2 : Obj) (t u z : Tok) (n n2 : Nat), v = .ref a ∧ h.get? a = some o ∧ o.cls = .type "tuple" ∧ o.data = .seq #[.int k.1 t, .ref b] n ∧ h.get? b = some o2 ∧ o2.cls = .type "tuple" ∧ o2.data = .seq #[.int k.2.1 u, .int k.2.2 z] n2
theorem IsKP.keeps {h h' : Heap} {v : Value} {k : Int × Int × Int} (p : IsKP h v k) (kk : ∀ b o, h.get? b = some o → o.cls = .type "tuple" → h'.get? b = some o) : IsKP h' v k := by
  obtain ⟨a, b, o, o2, t, u, z, n, n2, e, h1, h2, h3, h4, h5, h6⟩ := p
  exact ⟨a, b, o, o2, t, u, z, n, n2, e, kk _ _ h1 h2, h2, h3, kk _ _ h4 h5, h5, h6⟩
def ltK (k : Value → Int × Int × Int) (v u : Value) : Bool := decide ((k v).1 < (k u).1)
theorem swo_K (k : Value → Int × Int × Int) : SrtO.Swo (ltK k) := by
  refine ⟨fun x y h => ?_, fun x y z h1 h2 => ?_⟩
  · have a := of_decide_eq_true h
    exact decide_eq_false (by omega)
  · have a := of_decide_eq_false h1
    have b := of_decide_eq_false h2
    exact decide_eq_false (by omega)
theorem eq_pairs {b b' : Addr} {o2 o2' : Obj} {p q : Int} {u z u' z' : Tok} {n n' : Nat} (hu : A.units < cLine) (h1 : s.heap.get? b = some o2) (c1 : o2.cls = .type "tuple") (d1 : o2.data = .seq #[.int p u, .int q z] n) (h2 : s.heap.get? b' = some o2') (c2 : o2'.cls = .type "tuple") (d2 : o2'.data = .seq #[.int p u', .int q z'] n') :
    SeqAt.EqAt A s (.ref b) (.ref b') true := by
  by_cases e : b = b'
  · subst e
    exact SeqAt.EqAt.same _
  · have key := SeqAt.RcAt.tuples (A := A) (s := s) (l := b) (b := b') (items := #[.int p u, .int q z]) (items2 := #[.int p u', .int q z']) (e := fun _ => true) ⟨o2, h1, c1, n, d1⟩ ⟨o2', h2, c2, n', d2⟩ hu (fun j j1 j2 => ?_)
    · have key2 : SeqAt.RcAt A s (.ref b) (.ref b') true := by
        have z : ((List.range (min (#[Value.int p u, Value.int q z]).size (#[Value.int p u', Value.int q z']).size)).all (fun _ => true) && (#[Value.int p u, Value.int q z]).size == (#[Value.int p u', Value.int q z']).size) = true := by
          show ((List.range 2).all (fun _ => true) && (2 == 2)) = true
          decide
        rw [z] at key
        exact key
      exact SeqAt.EqAt.of_refs e key2
    · match j, j1, j2 with
      | 0, _, _ => simpa using SeqAt.EqAt.int_int (A := A.in1) (s := s) p u p u'
      | 1, _, _ => simpa using SeqAt.EqAt.int_int (A := A.in1) (s := s) q z q z'
theorem kp_cmp {vs : List Value} {k : Value → Int × Int × Int} (hu : A.units < cLine) (hp : ∀ v ∈ vs, IsKP s.heap v (k v)) (hq : ∀ v ∈ vs, ∀ u ∈ vs, (k v).1 = (k u).1 → (k v).2 = (k u).2) : SrtO.Cmp prog w A s (tuples' true) (fun p => p.1 ∈ vs) (SrtO.lt2 (ltK k)) := by
  intro p q hm hm'
  have h1 := hp _ hm
  have h2 := hp _ hm'
  have h3 := hq _ hm _ hm'
  show wpAny (model prog w) A (keyLt' (tuples' true) p.1 q.1) (fun r s' => s' = s ∧ r = ltK k p.1 q.1) (fun _ _ => False) s
  unfold ltK
  generalize k p.1 = x at h1 h3 ⊢
  generalize k q.1 = y at h2 h3 ⊢
  obtain ⟨a, b, o, o2, t, u, z, n, n2, e, a1, a2, a3, a4, a5, a6⟩ := h1
  obtain ⟨a', b', o', o2', t', u', z', n', n2', e', b1, b2, b3, b4, b5, b6⟩ := h2
  rw [e, e']
  refine PySem.W.kat_lt a1 a3 b1 b3 ?_
  show PySem.W.KatLex prog w A true (decide (2 < 2)) _ [(.int x.1 t, .int y.1 t'), (.ref b, .ref b')] 0 s
  refine PySem.W.kat_cons (SeqAt.EqAt.int_int x.1 t y.1 t' prog w _ _ ?_)
  refine PySem.W.kat_go (fun e1 => ?_) (fun e1 => ?_)
  · have ex : x.1 = y.1 := by simpa using e1
    have e2 := h3 ex
    rw [← e2] at b6
    refine PySem.W.kat_yes (PySem.W.kat_cons (eq_pairs hu a4 a5 a6 b4 b5 b6 prog w _ _ ?_))
    refine PySem.W.kat_yes (PySem.W.kat_nil ⟨rfl, ?_⟩)
    rw [ex]
    exact (decide_eq_false (Int.lt_irrefl _)).symm
  · exact PySem.W.kat_no (oneLt_int ⟨rfl, rfl⟩)
theorem kp_firsts {h : Heap} : ∀ {vs : List Value}, (∀ v ∈ vs, ∃ k, IsKP h v k) → ∃ fs : List Value, PySem.W.KatTups h vs fs ∧ fs.length = vs.length ∧ ∀ f ∈ fs, ∃ x t, f = Value.int x t
  | [], _ => ⟨[], PySem.W.KatTups.nil, rfl, fun _ hm => by simp at hm⟩
  | v :: vs, hp => by
    obtain ⟨fs, h1, h2, h3⟩ := kp_firsts (vs := vs) fun v' hm => hp v' (List.mem_cons_of_mem _ hm)
    obtain ⟨k, a, b, o, o2, t, u, z, n, n2, e, a1, a2, a3, a4, a5, a6⟩ := hp v (List.mem_cons_self ..)
    subst e
    refine ⟨.int k.1 t :: fs, ?_, by rw [List.length_cons, List.length_cons, h2], fun f hf => ?_⟩
    · exact PySem.W.KatTups.cons a1 a2 a3 rfl h1
    · rcases List.mem_cons.mp hf with rfl | hf
      · exact ⟨_, _, rfl⟩
      · exact h3 f hf
theorem kp_sortable {a : Addr} {vs : List Value} {k : Value → Int × Int × Int} (hu : A.units < cLine) (h0 : 0 < vs.length) (hp : ∀ v ∈ vs, IsKP s.heap v (k v)) (hq : ∀ v ∈ vs, ∀ u ∈ vs, (k v).1 = (k u).1 → (k v).2 = (k u).2) (ha : ∀ o, s.heap.get? a = some o → o.cls ≠ .type "tuple") :
    SrtO.SortableO prog w A s a vs (ltK k) := by
  intro h' keep
  have hp' : ∀ v ∈ vs, IsKP h' v (k v) := fun v hm => (hp v hm).keeps fun b o e c => keep b o (fun z => ha o (z ▸ e) c) e
  obtain ⟨fs, h1, h2, h3⟩ := kp_firsts fun v hm => ⟨_, hp' v hm⟩
  refine ⟨tuples' true, fun Q E hq2 => ?_, kp_cmp hu hp' hq⟩
  refine PySem.W.kat_kind (T := .type "int") h1 (by omega) (fun f hm => ?_) rfl ?_
  · obtain ⟨x, t, rfl⟩ := h3 f hm
    exact PySem.W.Looks.now
  · rw [show (Value.type "int" != Value.type "tuple") = true by decide +kernel]
    exact hq2
theorem sorted_kp {l : Addr} {vs : List Value} {k : Value → Int × Int × Int} {Q : Value → Shared → Prop} (hu : A.in1.in1.units < cLine) (hl : s.heap.IsList l vs.toArray) (hz : vs.length ≤ sizeLine) (hp : ∀ v ∈ vs, IsKP s.heap v (k v)) (hq : ∀ v ∈ vs, ∀ u ∈ vs, (k v).1 = (k u).1 → (k v).2 = (k u).2)
    (h : ∀ (h' : Heap) (d : Addr) (out : List Value), SrtO.Srtd (ltK k) out → SrtO.Stb (ltK k) out vs → (∀ b o, s.heap.get? b = some o → h'.get? b = some o) → s.heap.objs.size ≤ d → (∃ n, h'.get? d = some (seqObj "list" out.toArray n)) → Q (.ref d) { s with heap := h' }) :
    wpAny (model prog w) A (call (.builtin "sorted") [.ref l]) Q E s := by
  refine SrtO.sorted_ord (swo_K k) hl hz (fun h2 h₁ a ha kk => ?_) fun out hs hb => ?_
  · refine kp_sortable (s := { s with heap := h₁ }) hu (by omega) (fun v hm => (hp v hm).keeps fun b o e _ => (kk b o e).2) hq fun o e => ?_
    rw [ha] at e
    cases e
    exact fun c => absurd (Value.type.inj c) (by decide)
  · exact h _ _ out hs hb (fun b o e => sortedAll_old e) (Nat.le_succ _) (sortedAll_at s.heap vs out.toArray)
end
/-- the same order on the values of the layer -/
abbrev ltV (k : V → Int × Int × Int) (x y : V) : Bool := decide ((k x).1 < (k y).1)
theorem ltV_swo (k : V → Int × Int × Int) : SrtO.Swo (ltV k) := by
  refine ⟨fun x y h => ?_, fun x y z h1 h2 => ?_⟩
  · have a := of_decide_eq_true h
    exact decide_eq_false (by omega)
  · have a := of_decide_eq_false h1
    have b := of_decide_eq_false h2
    exact decide_eq_false (by omega)
def rSortK (K : PySem.W.Frag) : List V → Hp → VK → Prop := fun vs H Q => ∃ (a : Addr) (xs : List V) (k : V → Int × Int × Int), vs = [V.ref a] ∧ SqL K H a xs ∧ (∀ x ∈ xs, ∃ t b, x = V.ref t ∧ SqT K H t [.int (k x).1, .ref b] ∧ SqT K H b [.int (k x).2.1, .int (k x).2.2]) ∧
  (∀ x ∈ xs, ∀ y ∈ xs, (k x).1 = (k y).1 → (k x).2 = (k y).2) ∧ ∀ ys p, SrtO.Srtd (ltV k) ys → SrtO.Stb (ltV k) ys xs → H p = none → Q (.ref p) (upd H p (.lst ys))
section
variable {X : Cx}
theorem cr_sortK (hu : X.A.in1.in1.units < cLine) : CallR X (.builtin "sorted") (rSortK X.K) := by
  intro pins s σ H vs us Q I r h
  obtain ⟨a, xs, k, rfl, hs, hx, hq, q⟩ := h
  obtain ⟨its, rv, hl, hz⟩ := I.list hs
  obtain ⟨u, rfl, ru⟩ := r.one
  cases (show u = Value.ref a from ru)
  obtain ⟨e1, e2⟩ := refs_back rv fun x m => by
    obtain ⟨t, b, e, _⟩ := hx x m
    exact ⟨t, e⟩
  have hm : ∀ v ∈ its, backV v ∈ xs := fun v hv => by
    rw [e1]
    exact List.mem_map.mpr ⟨v, hv, rfl⟩
  refine sorted_kp (k := fun u => k (backV u)) hu hl.isList (by rw [← rv.length]; exact hz) (fun v hv => ?_) (fun v hv u hu' => hq _ (hm v hv) _ (hm u hu')) fun h' d out h1 h2 kp hd hn => ?_
  · obtain ⟨t, rfl⟩ := e2 v hv
    obtain ⟨t', b, e, h1, h2⟩ := hx _ (hm _ hv)
    cases e
    obtain ⟨its1, r1, ⟨o1, p1, p2, n1, p3⟩, _⟩ := I.tuple h1
    obtain ⟨its2, r2, ⟨o2, p4, p5, n2, p6⟩, _⟩ := I.tuple h2
    obtain ⟨u1, u2, rfl, ⟨t1, rfl⟩, rj⟩ := vals2 r1
    obtain ⟨u3, u4, rfl, ⟨t3, rfl⟩, ⟨t4, rfl⟩⟩ := vals2 r2
    cases (show u2 = Value.ref b from rj)
    exact ⟨t, b, o1, o2, t1, t3, t4, n1, n2, rfl, p1, p2, p3, p4, p5, p6⟩
  · have h3 : ∀ u ∈ out, ∃ a, u = Value.ref a := fun u hu => e2 u (h2.perm.mem_iff.mp hu)
    obtain ⟨n, hn⟩ := hn
    have hb : SrtO.Stb (ltV k) (out.map backV) xs := by
      rw [e1]
      exact SrtO.Stb.map (ltV_swo k) backV h2
    refine ⟨.ref d, upd H d (.lst (out.map backV)), I.laid (t' := s.toks) kp hd ⟨?_, out, n, vals_back h3, hn⟩, rfl, q _ d (SrtO.srtd_map h1) hb (I.hok.fresh hd)⟩
    rw [hb.len]
    exact hz
end
section
variable {α β : Type}
def insK (f : α → Int) (x : α) : List α → List α
  | [] => [x]
  | y :: r => if f x ≤ f y then x :: y :: r else y :: insK f x r
def sortK (f : α → Int) : List α → List α
  | [] => []
  | x :: r => insK f x (sortK f r)
theorem insK_perm (f : α → Int) (x : α) : ∀ l : List α, (insK f x l).Perm (x :: l)
  | [] => List.Perm.refl _
  | y :: r => by
    unfold insK
    split
    · exact List.Perm.refl _
    · exact ((insK_perm f x r).cons y).trans (List.Perm.swap x y r)
theorem sortK_perm (f : α → Int) : ∀ l : List α, (sortK f l).Perm l
  | [] => List.Perm.refl _
  | x :: r => (insK_perm f x _).trans ((sortK_perm f r).cons x)
theorem insK_sorted (f : α → Int) (x : α) : ∀ {l : List α}, l.Pairwise (fun a b => f a ≤ f b) → (insK f x l).Pairwise (fun a b => f a ≤ f b)
  | [], _ => List.pairwise_singleton _ _
  | y :: r, h => by
    unfold insK
    obtain ⟨h1, h2⟩ := List.pairwise_cons.mp h
    split
    · rename_i hxy
      refine List.pairwise_cons.mpr ⟨fun z hz => ?_, h⟩
      rcases List.mem_cons.mp hz with rfl | hz
      · exact hxy
      · exact Int.le_trans hxy (h1 z hz)
    · rename_i hxy
      refine List.pairwise_cons.mpr ⟨fun z hz => ?_, insK_sorted f x h2⟩
      rcases List.mem_cons.mp ((insK_perm f x r).mem_iff.mp hz) with rfl | hz
      · omega
      · exact h1 z hz
theorem sortK_sorted (f : α → Int) : ∀ l : List α, (sortK f l).Pairwise (fun a b => f a ≤ f b)
  | [] => List.Pairwise.nil
  | x :: r => insK_sorted f x (sortK_sorted f r)
theorem insK_filter (f : α → Int) (c : Int) (x : α) : ∀ l : List α, (insK f x l).filter (fun y => f y == c) = (x :: l).filter (fun y => f y == c)
  | [] => rfl
  | y :: r => by
    unfold insK
    split
    · rfl
    · rename_i hxy
      have ih := insK_filter f c x r
      by_cases hx : f x = c
      · have hy : ¬ f y = c := by omega
        rw [List.filter_cons_of_neg (by simpa using hy), ih, List.filter_cons_of_pos (by simpa using hx), List.filter_cons_of_pos (by simpa using hx), List.filter_cons_of_neg (by simpa using hy)]
      · rw [List.filter_cons_of_neg (a := x) (by simpa using hx), List.filter_cons, List.filter_cons, ih, List.filter_cons_of_neg (a := x) (by simpa using hx)]
theorem sortK_filter (f : α → Int) (c : Int) : ∀ l : List α, (sortK f l).filter (fun y => f y == c) = l.filter (fun y => f y == c)
  | [] => rfl
  | x :: r => by
    show (insK f x (sortK f r)).filter _ = _
    rw [insK_filter, List.filter_cons, List.filter_cons, sortK_filter f c r]
theorem insK_map (f : β → Int) (g : α → β) (x : α) : ∀ l : List α, (insK (fun a => f (g a)) x l).map g = insK f (g x) (l.map g)
  | [] => rfl
  | y :: r => by
    unfold insK
    rw [List.map_cons]
    split
    · rename_i h
      simp only [h, if_true, List.map_cons]
    · rename_i h
      simp only [h, if_false, List.map_cons, insK_map f g x r]
theorem sortK_map (f : β → Int) (g : α → β) : ∀ l : List α, (sortK (fun a => f (g a)) l).map g = sortK f (l.map g)
  | [] => rfl
  | x :: r => by
    show (insK _ x (sortK _ r)).map g = insK f (g x) (sortK f (r.map g))
    rw [insK_map, sortK_map f g r]
end
def keyD : D → Int
  | .tup (.int x :: _) => x
  | _ => 0
def kpD : D → Option (Int × Int × Int)
  | .tup [.int x, .tup [.int p, .int q]] => some (x, p, q)
  | _ => none
def kpDs : List D → Option (List (Int × Int × Int))
  | [] => some []
  | d :: ds => match kpD d, kpDs ds with
    | some a, some as => some (a :: as)
    | _, _ => none
/-- alike in the first: alike -/
def okKP : List (Int × Int × Int) → Bool
  | [] => true
  | a :: r => r.all (fun b => !(a.1 == b.1) || (a.2.1 == b.2.1 && a.2.2 == b.2.2)) && okKP r
theorem okKP_ok : ∀ {l : List (Int × Int × Int)}, okKP l = true → ∀ a ∈ l, ∀ b ∈ l, a.1 = b.1 → a.2 = b.2
  | [], _, a, ha, _, _, _ => by simp at ha
  | c :: r, h, a, ha, b, hb, e => by
    unfold okKP at h
    rw [Bool.and_eq_true, List.all_eq_true] at h
    obtain ⟨h1, h2⟩ := h
    have key : ∀ b ∈ r, c.1 = b.1 → c.2 = b.2 := fun b hb e => by
      have z := h1 b hb
      simp only [e, beq_self_eq_true, Bool.not_true, Bool.false_or, Bool.and_eq_true, beq_iff_eq] at z
      exact Prod.ext z.1 z.2
    rcases List.mem_cons.mp ha with ea | ha'
    · rcases List.mem_cons.mp hb with eb | hb'
      · rw [ea, eb]
      · rw [ea] at e ⊢
        exact key b hb' e
    · rcases List.mem_cons.mp hb with eb | hb'
      · rw [eb] at e ⊢
        exact (key a ha' e.symm).symm
      · exact okKP_ok h2 a ha' b hb' e
def cbSorted : List D → Option R
  | [d] => match seqL d with
    | some ds => match kpDs ds with
      | some l => if okKP l then some (.ol (sortK keyD ds)) else none
      | none => none
    | none => none
  | _ => none
where seqL : D → Option (List D)
  | .lst ds => some ds
  | .frz ds => some ds
  | _ => none
section
variable {K : PySem.W.Frag}
theorem zip_drs {H : Hp} : ∀ {vs : List V} {ds : List D}, DRs K H vs ds → ∀ p ∈ vs.zip ds, DR K H p.1 p.2
  | _, _, .nil, p, h => by simp at h
  | _, _, .cons a t, p, h => by
    rw [List.zip_cons_cons, List.mem_cons] at h
    rcases h with rfl | h
    · exact a
    · exact zip_drs t p h
theorem drs_of {H : Hp} : ∀ {l : List (V × D)}, (∀ p ∈ l, DR K H p.1 p.2) → DRs K H (l.map (·.1)) (l.map (·.2))
  | [], _ => .nil
  | p :: l, h => .cons (h p List.mem_cons_self) (drs_of fun q hq => h q (List.mem_cons_of_mem _ hq))
theorem DRs.zips {H : Hp} : ∀ {vs : List V} {ds : List D}, DRs K H vs ds → (vs.zip ds).map (·.1) = vs ∧ (vs.zip ds).map (·.2) = ds
  | _, _, .nil => ⟨rfl, rfl⟩
  | _, _, .cons a t => by
    obtain ⟨h1, h2⟩ := DRs.zips t
    exact ⟨by rw [List.zip_cons_cons, List.map_cons, h1], by rw [List.zip_cons_cons, List.map_cons, h2]⟩
theorem kpDs_mem : ∀ {ds : List D} {l : List (Int × Int × Int)}, kpDs ds = some l → ∀ d ∈ ds, ∃ a ∈ l, kpD d = some a
  | [], _, _, d, h => by simp at h
  | e :: ds, l, h, d, hd => by
    unfold kpDs at h
    split at h
    case h_2 => cases h
    rename_i a as h1 h2
    cases h
    rcases List.mem_cons.mp hd with rfl | hd
    · exact ⟨a, List.mem_cons_self, h1⟩
    · obtain ⟨b, hb, e⟩ := kpDs_mem h2 d hd
      exact ⟨b, List.mem_cons_of_mem _ hb, e⟩
theorem kpD_key {d : D} {a : Int × Int × Int} (h : kpD d = some a) : keyD d = a.1 := by
  unfold kpD at h
  split at h
  · cases h; rfl
  · cases h
/-- the value's own key: that of the data behind it -/
theorem key_of {H : Hp} {v : V} {d : D} {a : Int × Int × Int} (h : DR K H v d) (e : kpD d = some a) : ∃ t b, v = .ref t ∧ SqT K H t [.int a.1, .ref b] ∧ SqT K H b [.int a.2.1, .int a.2.2] := by
  unfold kpD at e
  split at e
  case h_2 => cases e
  cases e
  cases h with
  | tup h1 d1 =>
    cases d1 with
    | cons a1 d1 =>
      cases d1 with
      | cons a2 d1 =>
        cases d1
        cases a1
        cases a2 with
        | tup h2 d2 =>
          cases d2 with
          | cons b1 d2 =>
            cases d2 with
            | cons b2 d2 =>
              cases d2
              cases b1
              cases b2
              exact ⟨_, _, rfl, h1, h2⟩
theorem sortK_congr {α : Type} {f g : α → Int} : ∀ {l : List α}, (∀ x ∈ l, f x = g x) → sortK f l = sortK g l := by
  have ins : ∀ {x : α} {l : List α}, f x = g x → (∀ y ∈ l, f y = g y) → insK f x l = insK g x l := fun {x l} hx h => by
    induction l with
    | nil => rfl
    | cons y r ih =>
      unfold insK
      rw [hx, h y List.mem_cons_self, ih fun z hz => h z (List.mem_cons_of_mem _ hz)]
  intro l h
  induction l with
  | nil => rfl
  | cons x r ih =>
    show insK f x (sortK f r) = insK g x (sortK g r)
    rw [ih fun z hz => h z (List.mem_cons_of_mem _ hz)]
    exact ins (h x List.mem_cons_self) fun y hy => h y (List.mem_cons_of_mem _ ((sortK_perm g r).mem_iff.mp hy))
theorem sortK_uniq {k : V → Int × Int × Int} {ys xs : List V} (h1 : SrtO.Srtd (ltV k) ys) (h2 : SrtO.Stb (ltV k) ys xs) : ys = sortK (fun v => (k v).1) xs := by
  have s1 : SrtO.Srtd (ltV k) (sortK (fun v => (k v).1) xs) := (sortK_sorted (fun v => (k v).1) xs).imp fun {a b} h => decide_eq_false (by omega)
  have s2 : SrtO.Stb (ltV k) (sortK (fun v => (k v).1) xs) xs := by
    refine ⟨sortK_perm _ _, fun x => ?_⟩
    have e : SrtO.eqv (ltV k) x = fun y => (k y).1 == (k x).1 := funext fun y => by
      unfold SrtO.eqv
      by_cases h : (k y).1 = (k x).1
      · simp [h]
      · have : (k x).1 < (k y).1 ∨ (k y).1 < (k x).1 := by omega
        have hb : ((k y).1 == (k x).1) = false := beq_eq_false_iff_ne.mpr h
        rcases this with z | z
        · have e1 : ltV k x y = true := decide_eq_true z
          show (!ltV k x y && !ltV k y x) = ((k y).1 == (k x).1)
          rw [e1, hb]
          rfl
        · have e1 : ltV k y x = true := decide_eq_true z
          show (!ltV k x y && !ltV k y x) = ((k y).1 == (k x).1)
          rw [e1, hb, Bool.not_true, Bool.and_false]
    rw [e]
    exact sortK_filter (fun v => (k v).1) _ xs
  refine SrtO.stb_uniq (ltV_swo k) h1 s1 ⟨h2.perm.trans s2.perm.symm, fun x => (h2.cls x).trans (s2.cls x).symm⟩
def rSortP (K : PySem.W.Frag) : List V → Hp → VK → Prop := fun vs H Q => ∃ (a : Addr) (ps : List (V × Int × Int × Int)), vs = [V.ref a] ∧ SqL K H a (ps.map (·.1)) ∧ (∀ p ∈ ps, ∃ t b, p.1 = V.ref t ∧ SqT K H t [.int p.2.1, .ref b] ∧ SqT K H b [.int p.2.2.1, .int p.2.2.2]) ∧
  (∀ p ∈ ps, ∀ q ∈ ps, p.2.1 = q.2.1 → p.2.2 = q.2.2) ∧ ∀ p, H p = none → Q (.ref p) (upd H p (.lst ((sortK (fun p => p.2.1) ps).map (·.1))))
theorem cr_sortP {X : Cx} (hu : X.A.in1.in1.units < cLine) : CallR X (.builtin "sorted") (rSortP X.K) := by
  intro pins s σ H vs us Q I r h
  obtain ⟨a, ps, rfl, hs, hx, hq, q⟩ := h
  open Classical in
  let k : V → Int × Int × Int := fun v => if h : ∃ p ∈ ps, p.1 = v then h.choose.2 else (0, 0, 0)
  have hk : ∀ p ∈ ps, k p.1 = p.2 := fun p hp => by
    have hh : ∃ p' ∈ ps, p'.1 = p.1 := ⟨p, hp, rfl⟩
    have e : k p.1 = hh.choose.2 := dif_pos hh
    obtain ⟨m1, m2⟩ := hh.choose_spec
    rw [e]
    generalize hh.choose = p' at m1 m2
    obtain ⟨t, b, e1, h1, h2⟩ := hx p hp
    obtain ⟨t', b', e1', h1', h2'⟩ := hx p' m1
    rw [m2, e1] at e1'
    cases e1'
    have z := I.tuple_inj h1 h1'
    simp only [List.cons.injEq, V.int.injEq, V.ref.injEq, and_true] at z
    obtain ⟨z1, z2⟩ := z
    subst z2
    have y := I.tuple_inj h2 h2'
    simp only [List.cons.injEq, V.int.injEq, and_true] at y
    exact Prod.ext z1.symm (Prod.ext y.1.symm y.2.symm)
  refine cr_sortK hu pins s σ H _ us Q I r ⟨a, ps.map (·.1), k, rfl, hs, fun x hm => ?_, fun x hm y hm' e => ?_, fun ys p h1 h2 hp => ?_⟩
  · obtain ⟨p, hp, rfl⟩ := List.mem_map.mp hm
    obtain ⟨t, b, e, h1, h2⟩ := hx p hp
    rw [hk p hp]
    exact ⟨t, b, e, h1, h2⟩
  · obtain ⟨p, hp, rfl⟩ := List.mem_map.mp hm
    obtain ⟨p', hp', rfl⟩ := List.mem_map.mp hm'
    rw [hk p hp, hk p' hp'] at e ⊢
    exact hq p hp p' hp' e
  · have e : ys = (sortK (fun p => p.2.1) ps).map (·.1) := by
      rw [sortK_uniq h1 h2, ← sortK_map (fun v => (k v).1) (fun p : V × Int × Int × Int => p.1) ps]
      exact congrArg _ (sortK_congr fun p hp => by rw [hk p hp])
    rw [e]
    exact q p hp
theorem cd_sorted : CbD K (rSortP K) cbSorted := fun H Hs xs ds res s h e Q k => by
  unfold cbSorted at e
  split at e
  case h_2 => cases e
  rename_i d
  split at e
  case h_2 => cases e
  rename_i es hes
  split at e
  case h_2 => cases e
  rename_i l hl
  split at e
  case isFalse => cases e
  rename_i hok
  cases e
  have hsq : ∃ a vs, xs = [V.ref a] ∧ SqL K Hs a vs ∧ DRs K Hs vs es := by
    cases h with
    | cons a b =>
      cases b
      unfold cbSorted.seqL at hes
      split at hes
      · cases hes
        cases a with
        | lst h1 d1 => exact ⟨_, _, rfl, SqL.of h1, d1⟩
      · cases hes
        cases a with
        | frz h1 d1 => exact ⟨_, _, rfl, h1, d1⟩
      · cases hes
  obtain ⟨a, vs, rfl, hq, hd⟩ := hsq
  obtain ⟨z1, z2⟩ := hd.zips
  have hm : ∀ p ∈ vs.zip es, ∃ c ∈ l, kpD p.2 = some c := fun p hp => kpDs_mem hl _ (by rw [← z2]; exact List.mem_map.mpr ⟨p, hp, rfl⟩)
  let g : V × D → V × Int × Int × Int := fun p => (p.1, (kpD p.2).getD (0, 0, 0))
  have eg : ∀ p, (g p).1 = p.1 := fun _ => rfl
  have hg : ∀ p ∈ vs.zip es, ∃ c ∈ l, kpD p.2 = some c ∧ (g p).2 = c := fun p hp => by
    obtain ⟨c, c1, c2⟩ := hm p hp
    exact ⟨c, c1, c2, by show (kpD p.2).getD _ = c; rw [c2]; rfl⟩
  refine ⟨a, (vs.zip es).map g, rfl, ?_, fun p hp => ?_, fun p hp p' hp' ee => ?_, fun p hp => ?_⟩
  · have : ((vs.zip es).map g).map (·.1) = vs := by
      rw [List.map_map]
      exact z1
    rw [this]
    exact same_lst s hq
  · obtain ⟨p0, hp0, rfl⟩ := List.mem_map.mp hp
    obtain ⟨c, c1, c2, c3⟩ := hg p0 hp0
    obtain ⟨t, b, e1, h1, h2⟩ := key_of (zip_drs hd p0 hp0) c2
    rw [c3]
    exact ⟨t, b, e1, same_tup s h1, same_tup s h2⟩
  · obtain ⟨p0, hp0, rfl⟩ := List.mem_map.mp hp
    obtain ⟨p1, hp1, rfl⟩ := List.mem_map.mp hp'
    obtain ⟨c, c1, c2, c3⟩ := hg p0 hp0
    obtain ⟨c', c1', c2', c3'⟩ := hg p1 hp1
    rw [c3, c3'] at ee ⊢
    exact okKP_ok hok c c1 c' c1' ee
  · have e1 : (sortK (fun p : V × Int × Int × Int => p.2.1) ((vs.zip es).map g)).map (·.1) = (sortK (fun p : V × D => keyD p.2) (vs.zip es)).map (·.1) := by
      rw [← sortK_map (fun p : V × Int × Int × Int => p.2.1) g (vs.zip es), List.map_map]
      rw [show ((fun x : V × Int × Int × Int => x.1) ∘ g) = (fun p : V × D => p.1) from rfl]
      refine congrArg _ (sortK_congr fun p hp => ?_)
      obtain ⟨c, c1, c2, c3⟩ := hg p hp
      rw [c3, kpD_key c2]
    have e2 : (sortK (fun p : V × D => keyD p.2) (vs.zip es)).map (·.2) = sortK keyD es := by
      rw [sortK_map keyD (fun p : V × D => p.2) (vs.zip es), z2]
    have hdr : DRs K Hs ((sortK (fun p : V × D => keyD p.2) (vs.zip es)).map (·.1)) (sortK keyD es) := by
      rw [← e2]
      exact drs_of fun p hp => zip_drs hd p ((sortK_perm _ _).mem_iff.mp hp)
    rw [e1]
    exact k _ _ Hs (Ext.hid s hp) ⟨p, _, rfl, hp, upd_same, none_sub s hp, _, rfl, hdr⟩
end
end Bk
namespace Bk
open PySem L2
/-- a method of the text with defaults -/
structure FnMD (K : PySem.W.Frag) (C : Addr) (x qual : PySem.Str) (st : Stmt) (dds : List D) where
  f : Addr
  fd : FuncData
  dvs : List V
  F : FunD K x qual (defArgs st) (defBody st) (defScope st) dvs [] f fd
  m : Meth K C x f
  d : ∀ H, DRs K H dvs dds
section
variable {P : Program} {w : World} {K : PySem.W.Frag} {mg : PySem.Str → Option Value} {base : Heap}
theorem data_BD {x qual : PySem.Str} {st : Stmt} {f : Addr} {fd : FuncData} {dvs : List V} {N ps : List PySem.Str} {k : Nat} {b : MS} (F : FunD K x qual (defArgs st) (defBody st) (defScope st) dvs [] f fd) (S : FnScope N ps (defScope st))
    (hb : ∀ (cdv : Value) (A : Around) (outer : List Env) (s : Shared) (H : Hp) (E : XK), Room k (A.deeper (PyProof.Rows.envOfC qual (defScope st) s.heap.objs.size f cdv)) →
      ∃ t, PSs (cxOf CX0 P w K mg base N qual (defScope st) f cdv A outer s H E).nox (defBody st) t ∧ SOk K t b) : FnOk P w K mg base CX0 (k + 1) f fd ps (spB K (runB ps.length N.length b)) :=
  F.ok S (fun vs H Q E q => spB_len q) fun cdv A outer s H vs Q E hr q => by
    obtain ⟨t, h1, h2⟩ := hb cdv A outer s H E hr
    exact ⟨t, PSs.nox h1, fin_B h2 (scope_le S) q⟩
end
section
variable {K : PySem.W.Frag} {mg : PySem.Str → Option Value}
theorem drs_drop {H : Hp} {vs : List V} {ds : List D} (h : DRs K H vs ds) (n : Nat) : DRs K H (vs.drop n) (ds.drop n) := h.drop n
variable {X : Cx} (hK : X.K = K)
include hK
theorem kop_addB : OpR X (binaryOp .Add) (rAddB K) := hK ▸ op_addB
theorem ksl_B : SlR X (rSlB K) := hK ▸ sl_B
theorem kpa_star {e : Expr} {es : List Expr} {te : TE} {t : TA} {p : Pos} (he : PE X e te) (hr : PA X es t) (hs : starEach (.Starred e p :: es) X.env = (true, eval e X.env) :: starEach es X.env := by rfl) : PA X (.Starred e p :: es) (StX.tStar K te t) := hK ▸ StX.pa_star he hr hs
theorem kpe_fld {e : Expr} {f : PySem.Str} {pos : Pos} {ta : TE} (he : PE X e ta) (hb : attributeBase e f X.env (eval e X.env) = eval e X.env) : PE X (.Attribute e f pos) (tFld K ta f) := hK ▸ pe_fld he hb
theorem kps_fld {o value : Expr} {f : PySem.Str} {pos pos' : Pos} {ta tv : TE} (ha : PE X o ta) (hv : PE X value tv) (hs : swapsWith value (some (.Attribute o f pos')) pos.line X.env = pure false) : PS X (.Assign [.Attribute o f pos'] value pos) (sFld K ta tv f) := hK ▸ ps_fld ha hv hs
theorem kpg_fld {o : Expr} {f : PySem.Str} {pos : Pos} {ta : TE} (ho : PE X o ta) : PG X (.Attribute o f pos) (gFld K ta f) := hK ▸ pg_fld ho
theorem kcr_isiS : CallR X (.builtin "isinstance") (rIsiS K) := hK ▸ cr_isiS
theorem kcr_sorted (hu : X.A.in1.in1.units < cLine) : CallR X (.builtin "sorted") (rSortP K) := hK ▸ cr_sortP hu
theorem kpe_bm {o e : Expr} {es : List Expr} {to : TE} {t : TA} {name : PySem.Str} {apos cpos : Pos} {T id : String} {r : V → List V → Hp → VK → Prop} (pa : PlainAttrs T) (slot : Slot T name id) (hty : typeOf (.builtin id) = pure (.type "method_descriptor")) (hm : MtR X id r) (ho : PE X o to) (ha : PA X (e :: es) t)
    (hbase : attributeBase o name X.env (eval o X.env) = eval o X.env := by rfl)
    (hfew : ((backTo cpos (starEach (e :: es) X.env)).all (fun x => !x.1) && (backToKw cpos (keywordEach [] X.env)).all (fun x => x.1.isSome) && decide ((e :: es).length + ([] : List Keyword).length + (if ([] : List Keyword).isEmpty then 0 else 1) < 30)) = true := by rfl)
    (hline : (apos.endLine == cpos.line) = true := by rfl) (hs : starEach (e :: es) X.env = (false, eval e X.env) :: starEach es X.env := by rfl) (hplain : (backTo cpos (starEach es X.env)).any (·.1) = false := by rfl) :
    PE X (.Call (.Attribute o name apos) (e :: es) [] cpos) (tBM K T r to t) := hK ▸ pe_bm pa slot hty hm ho ha hbase hfew hline hs hplain
end
theorem room_u2 {k : Nat} {A : Around} (hr : Room k A) : A.in1.in1.units < cLine := by
  have := hr.units
  show A.units + 1 + 1 < cLine
  omega
end Bk
namespace Bk
open PySem L2
section
variable {K : PySem.W.Frag} {C : Addr}
theorem na_list1 {a : PySem.Str} (h1 : NoAttr K C a) : ∀ f ∈ [a], NoAttr K C f := fun f h => by
  rw [List.mem_singleton] at h
  rw [h]
  exact h1
theorem na_cons {a : PySem.Str} {l : List PySem.Str} (h1 : NoAttr K C a) (h : ∀ f ∈ l, NoAttr K C f) : ∀ f ∈ a :: l, NoAttr K C f := fun f hf => by
  rcases List.mem_cons.mp hf with z | z
  · rw [z]; exact h1
  · exact h f z
theorem na_list2 {a b : PySem.Str} (h1 : NoAttr K C a) (h2 : NoAttr K C b) : ∀ f ∈ [a, b], NoAttr K C f := na_cons h1 (na_list1 h2)
theorem na_list3 {a b c : PySem.Str} (h1 : NoAttr K C a) (h2 : NoAttr K C b) (h3 : NoAttr K C c) : ∀ f ∈ [a, b, c], NoAttr K C f := na_cons h1 (na_list2 h2 h3)
theorem na_list4 {a b c d : PySem.Str} (h1 : NoAttr K C a) (h2 : NoAttr K C b) (h3 : NoAttr K C c) (h4 : NoAttr K C d) : ∀ f ∈ [a, b, c, d], NoAttr K C f := na_cons h1 (na_list3 h2 h3 h4)
theorem vne {vs : List V} {d : D} {ds ds' : List D} (h : ∀ H, DRs K H vs ds) (e : ds = d :: ds') : vs ≠ [] := fun z => by
  have z2 := (h fun _ => none).len
  rw [z, e] at z2
  cases z2
end
end Bk
namespace Bk
open PySem L2
section
variable {K : PySem.W.Frag}
/-- the list behind slot i is laid aside -/
theorem Rel.aside {Fz : Hp} {ba : Nat → Addr} {G : Gam} {σ : L2.St} {H Hs : Hp} (q : Rel K Fz ba G σ H Hs) {i : Nat} {e : Ent} {ds : List D} (h : G[i]? = some e) (h0 : e.mu = some (.l ds)) :
    ∃ l vs, σ[i]? = some (some (.ref l)) ∧ H l = some (.lst vs) ∧ Hs l = none ∧ Fz l = none ∧ DRs K Hs vs ds ∧ (∀ m, e = .bx m → ba i = l) ∧ Rel K (upd Fz l (.lst vs)) ba (G.set i .un) σ H Hs := by
  obtain ⟨l, o, a1, a2, a3, a4, vs, rfl, a5⟩ := q.mu i e (.l ds) h h0
  refine ⟨l, vs, a1, a2, a3, a4, a5, fun m hm => ?_, ⟨q.sub, fun a u z => ?_, by rw [List.length_set]; exact q.len, fun j d hj => ?_, fun j e' m hj hm => ?_, fun j k e1 e2 x h1 h2 m1 m2 t1 t2 => ?_, fun j m hj => ?_⟩⟩
  · subst hm
    have := q.bx i m h
    rw [a1] at this
    cases this
    rfl
  · by_cases zz : a = l
    · subst zz
      rw [upd_same] at z
      cases z
      exact ⟨a2, a3⟩
    · rw [upd_ne zz] at z
      exact q.fz a u z
  · rcases get_set hj with ⟨_, z, _⟩ | ⟨_, z⟩
    · cases z
    · exact q.im j d z
  · rcases get_set hj with ⟨_, z, _⟩ | ⟨ne, z⟩
    · subst z; cases hm
    · obtain ⟨l', o', b1, b2, b3, b4, b5⟩ := q.mu j e' m z hm
      refine ⟨l', o', b1, b2, b3, ?_, b5⟩
      have : l' ≠ l := fun y => by
        subst y
        exact ne (q.dj i j e e' l' h z (by rw [h0]; simp) (by rw [hm]; simp) a1 b1)
      rw [upd_ne this]
      exact b4
  · rcases get_set h1 with ⟨_, z, _⟩ | ⟨_, z1⟩
    · subst z; exact absurd rfl m1
    · rcases get_set h2 with ⟨_, z, _⟩ | ⟨_, z2⟩
      · subst z; exact absurd rfl m2
      · exact q.dj j k e1 e2 x z1 z2 m1 m2 t1 t2
  · rcases get_set hj with ⟨_, z, _⟩ | ⟨_, z⟩
    · cases z
    · exact q.bx j m z
/-- it is taken up again -/
theorem Rel.again {Fz : Hp} {ba : Nat → Addr} {G : Gam} {σ : L2.St} {H Hs : Hp} {l : Addr} {vs : List V} {ds : List D} {i : Nat} {e : Ent} (q : Rel K (upd Fz l (.lst vs)) ba G σ H Hs) (hu : G[i]? = some .un) (h0 : e.mu = some (.l ds)) (hs : σ[i]? = some (some (.ref l))) (hf : Fz l = none) (hd : DRs K Hs vs ds)
    (hb : ∀ m, e = .bx m → ba i = l) : Rel K Fz ba (G.set i e) σ H Hs := by
  obtain ⟨f1, f2⟩ := q.fz l _ upd_same
  have old : ∀ (j : Nat) (e' : Ent) (m : Mob), G[j]? = some e' → e'.mu = some m → ∃ l' o, σ[j]? = some (some (.ref l')) ∧ H l' = some o ∧ Hs l' = none ∧ Fz l' = none ∧ MobO K Hs m o ∧ l' ≠ l := fun j e' m h1 h2 => by
    obtain ⟨l', o, b1, b2, b3, b4, b5⟩ := q.mu j e' m h1 h2
    have ne : l' ≠ l := fun z => by
      subst z
      rw [upd_same] at b4
      cases b4
    rw [upd_ne ne] at b4
    exact ⟨l', o, b1, b2, b3, b4, b5, ne⟩
  have mm : ∀ {e' : Ent}, e'.mu ≠ none → ∃ m, e'.mu = some m := fun {e'} h => by
    cases y : e'.mu with
    | none => exact absurd y h
    | some m => exact ⟨m, rfl⟩
  refine ⟨q.sub, fun a u z => ?_, by rw [List.length_set]; exact q.len, fun j d hj => ?_, fun j e' m hj hm => ?_, fun j k e1 e2 x h1 h2 m1 m2 t1 t2 => ?_, fun j m hj => ?_⟩
  · exact q.fz a u (by rw [upd_ne (ne_of_none z hf)]; exact z)
  · rcases get_set hj with ⟨_, z, _⟩ | ⟨_, z⟩
    · subst z; cases h0
    · exact q.im j d z
  · rcases get_set hj with ⟨y, z, _⟩ | ⟨_, z⟩
    · subst y
      subst z
      rw [h0] at hm
      cases hm
      exact ⟨l, _, hs, f1, f2, hf, vs, rfl, hd⟩
    · obtain ⟨l', o, b1, b2, b3, b4, b5, _⟩ := old j e' m z hm
      exact ⟨l', o, b1, b2, b3, b4, b5⟩
  · rcases get_set h1 with ⟨y1, z1, _⟩ | ⟨y1, z1⟩
    · rcases get_set h2 with ⟨y2, z2, _⟩ | ⟨y2, z2⟩
      · exact y1.symm.trans y2
      · exfalso
        obtain ⟨m, hm⟩ := mm m2
        obtain ⟨l', o, b1, _, _, _, _, ne⟩ := old k e2 m z2 hm
        rw [← y1, hs] at t1
        rw [t2] at b1
        cases t1
        cases b1
        exact ne rfl
    · rcases get_set h2 with ⟨y2, z2, _⟩ | ⟨y2, z2⟩
      · exfalso
        obtain ⟨m, hm⟩ := mm m1
        obtain ⟨l', o, b1, _, _, _, _, ne⟩ := old j e1 m z1 hm
        rw [← y2, hs] at t2
        rw [t1] at b1
        cases t2
        cases b1
        exact ne rfl
      · exact q.dj j k e1 e2 x z1 z2 m1 m2 t1 t2
  · rcases get_set hj with ⟨y, z, _⟩ | ⟨_, z⟩
    · subst y
      rw [hb m z.symm]
      exact hs
    · exact q.bx j m z
def isUn (G : Gam) (i : Nat) : Bool := match G[i]? with
  | some .un => true
  | _ => false
theorem isUn_ok {G : Gam} {i : Nat} (h : isUn G i = true) : G[i]? = some .un := by
  unfold isUn at h
  split at h
  · assumption
  · cases h
def xlcv (i : Nat) (tg : D → Gam → Option Gam) (t : M Bool) (e : M R) (vs : List Nat) : M R := fun G => match G[i]? with
  | some en => match en.mu with
    | some (.l ds) => if noMu (G.set i .un) vs then bd (xlcL tg t e vs ds (wipeG (G.set i .un) vs)) fun out G2 => if few out.length && isUn (unw (G.set i .un) G2 vs) i then some (.ol out, (unw (G.set i .un) G2 vs).set i en) else none else none
    | _ => none
  | none => none
theorem gk_lcv {g : TG} {t : TT} {te : TE} {i : Nat} {tg : D → Gam → Option Gam} {js vs : List Nat} {c : M Bool} {a : M R} (hg : GtOk K g tg js) (hc : TOk K t c) (ha : GOk K te a) (hj : ∀ j ∈ js, j ∈ vs) :
    GOk K (tLc (iSeq K (tVar i)) g t te vs) (xlcv i tg c a vs) := fun Fz ba G σ H Hs res G' q e Q k => by
  unfold xlcv at e
  split at e
  case h_2 => cases e
  rename_i en hen
  split at e
  case h_2 => cases e
  rename_i ds hmu
  split at e
  case isFalse => cases e
  rename_i nm
  obtain ⟨out, G2, e2, e⟩ := bd_inv e
  split at e
  case isFalse => cases e
  rename_i hf
  rw [Bool.and_eq_true] at hf
  obtain ⟨hf, hun⟩ := hf
  have hun := isUn_ok hun
  cases e
  obtain ⟨l, lvs, a1, a2, a3, a4, a5, a6, q1⟩ := q.aside hen hmu
  generalize hFz : upd Fz l (.lst lvs) = Fz1 at q1
  have hFl : Fz1 l = some (.lst lvs) := by rw [← hFz]; exact upd_same
  generalize hG1 : G.set i .un = G1 at *
  refine ⟨_, a1, l, rfl, .inl ⟨⟨lvs, SqL.of a2⟩, fun p hp => ?_⟩⟩
  have hfp : Fz1 p = none := by
    cases z : Fz1 p with
    | none => rfl
    | some o =>
      obtain ⟨z1, _⟩ := q1.fz p o z
      rw [hp] at z1
      cases z1
  have hlp : l ≠ p := ne_of_none a2 hp
  have q1w := (q1.wiped vs).hide (o := .lst []) hp
  have atl : ∀ {G3 σ3 H3 Hs3 acc}, Rel K (upd Fz1 p (.lst acc)) ba G3 σ3 H3 Hs3 → H3 l = some (.lst lvs) := fun {G3 σ3 H3 Hs3 acc} z => (z.fz l _ (by rw [upd_ne hlp]; exact hFl)).1
  refine ⟨fun i m H2 => m = ds.length - i ∧ i ≤ ds.length ∧ ∃ G3 Hs3 acc ad more, Rel K (upd Fz1 p (.lst acc)) ba G3 (wipe σ vs) H2 Hs3 ∧ Same Hs Hs3 ∧ DRs K Hs3 acc ad ∧ xlcL tg c a vs (ds.drop i) G3 = some (more, G2) ∧ ad ++ more = out,
    ⟨ds.length, rfl, Nat.zero_le _, wipeG G1 vs, Hs, [], [], out, q1w, Same.refl _, .nil, e2, rfl⟩, ?_⟩
  rintro n m H2 ⟨rfl, hi2, G3, Hs3, acc, ad, more, q3, s3, da, e3, eo⟩
  have hll := atl q3
  by_cases hlt : n < ds.length
  · refine .inr ⟨⟨lvs, lvs[n]'(by rw [a5.len]; exact hlt), SqL.of hll, by simp⟩, fun H' => n + 1 ≤ ds.length ∧ ∃ G4 Hs4 acc ad more, Rel K (upd Fz1 p (.lst acc)) ba G4 (wipe σ vs) H' Hs4 ∧ Same Hs Hs4 ∧ DRs K Hs4 acc ad ∧ xlcL tg c a vs (ds.drop (n + 1)) G4 = some (more, G2) ∧ ad ++ more = out,
      fun H' ⟨z, z2⟩ => ⟨ds.length - (n + 1), by omega, rfl, z, z2⟩, fun x H' y => ?_⟩
    obtain ⟨rfl, y⟩ := y
    obtain ⟨d, d1, dr⟩ := a5.ta (y lvs (SqL.of hll))
    have dr := dr.mono s3
    have q4 := q3
    have ed : ds.drop n = d :: ds.drop (n + 1) := by
      rw [List.drop_eq_getElem_cons hlt]
      rw [List.getElem?_eq_getElem hlt] at d1
      cases d1
      rfl
    rw [ed] at e3
    unfold xlcL at e3
    cases hG : tg d G3 with
    | none => rw [hG] at e3; cases e3
    | some G4 =>
      rw [hG] at e3
      refine hg.run _ ba G3 _ H' Hs3 x d G4 q4 dr hG _ fun σ5 q5 l5 k5 => ?_
      have hlen : σ5.length = σ.length := by rw [l5, wipe_length]
      have hw : wipe σ5 vs = wipe σ vs := by
        have z := wipe_eq (σ := wipe σ vs) (τ := σ5) (vs := vs) (by rw [wipe_length]; exact hlen) fun j hj' => k5 j fun z => hj' (hj j z)
        rw [z]
        exact wipe_eq (wipe_length σ vs) fun j hj' => wipe_get hj'
      refine ⟨hw, ?_⟩
      obtain ⟨b, G5, e5, e6⟩ := bd_inv e3
      refine hc _ ba G4 σ5 H' Hs3 b G5 q5 e5 _ fun H5 Hs5 q6 s6 => ?_
      cases b with
      | true =>
        obtain ⟨r, G6, e7, e8⟩ := bd_inv (show bd (a G5) _ = _ from e6)
        obtain ⟨out2, G7, e9, e10⟩ := bd_inv e8
        cases e10
        rw [if_pos rfl]
        refine ha.im q6 e7 fun v H6 Hs6 q7 s7 d7 => ?_
        obtain ⟨f1, f2⟩ := q7.fz p _ upd_same
        have q8 := (q7.rehide (o' := .lst (acc ++ [v]))).wiped vs
        rw [hw] at q8
        refine ⟨acc, f1, ?_, hlt, _, Hs6, _, ad ++ [r.d], out2, q8, (s3.trans s6).trans s7, (da.mono (s6.trans s7)).app (.cons d7 .nil), e9, ?_⟩
        · have z1 := da.len
          have z2 : ad.length ≤ out.length := by rw [← eo, List.length_append]; omega
          exact Nat.lt_of_le_of_lt (by omega) (few_lt hf)
        · rw [List.append_assoc]
          exact eo
      | false =>
        rw [if_neg Bool.false_ne_true] at e6 ⊢
        have q8 := q6.wiped vs
        rw [hw] at q8
        exact ⟨hlt, _, Hs5, acc, ad, more, q8, s3.trans s6, da.mono s6, e6, eo⟩
  · have hend : ds.length ≤ n := by omega
    rw [List.drop_eq_nil_of_le hend] at e3
    cases e3
    rw [List.append_nil] at eo
    subst eo
    obtain ⟨f1, f2⟩ := q3.fz p _ upd_same
    have q9 := q1.unwipe (q3.unhide hfp) s3 nm
    have q9' : Rel K (upd Fz l (.lst lvs)) ba (unw G1 G2 vs) σ H2 Hs3 := by rw [hFz]; exact q9
    have q10 := q9'.again hun hmu a1 a4 (a5.mono s3) a6
    have hfp0 : Fz p = none := by
      rw [← hFz, upd_ne (Ne.symm hlp)] at hfp
      exact hfp
    refine .inl ⟨⟨lvs, SqL.of hll, by rw [a5.len]; exact hend⟩, k _ H2 Hs3 q10 s3 ⟨p, _, rfl, f1, f2, hfp0, ⟨acc, rfl, da⟩, fun j e' g m z => ?_⟩⟩
    rcases get_set g with ⟨y1, z1, _⟩ | ⟨y1, g⟩
    · rw [← y1, a1] at z
      cases z
      exact hlp rfl
    · by_cases hjv : j ∈ vs
      · have z1 := q1.len
        have z2 := q3.len
        rw [wipe_length, z1] at z2
        rw [unw_in (G1 := G1) z2.symm hjv] at g
        exact m (noMu_ok nm hjv g)
      · rw [unw_out hjv] at g
        obtain ⟨ds', hd'⟩ : ∃ ds', e'.mu = some ds' := by
          cases y : e'.mu with
          | none => exact absurd y m
          | some ds' => exact ⟨ds', rfl⟩
        obtain ⟨l', ws, b1, b2, b3, b4, b5⟩ := q3.mu j e' ds' g hd'
        rw [wipe_get hjv, z] at b1
        cases b1
        rw [upd_same] at b4
        cases b4
/-- a slice of the name's list, which goes on -/
def slv (i : Nat) (lo hi : Option Int) (G : Gam) : Option (R × Gam) := match G[i]? with
  | some e => match e.mu with
    | some (.l ds) => some (.ol (cutD ds lo hi), G)
    | _ => none
  | none => none
def xslv (i : Nat) (l h : MO) : M R := fun G => if isMu G i then bd (l G) fun x G1 => bd (h G1) fun y G2 => slv i x y G2 else none
theorem gk_slv {i : Nat} {tl th : TO} {l h : MO} (hl : POk K tl l) (hh : POk K th h) : GOk K (tSl (rSlB K) (tVar i) tl th) (xslv i l h) := fun Fz ba G σ H Hs res G' q e Q k => by
  unfold xslv at e
  split at e
  case isFalse => cases e
  rename_i hm
  obtain ⟨a, y3, yk⟩ := q.same_slot hm
  obtain ⟨x, G1, e1, e⟩ := bd_inv e
  obtain ⟨y, G2, e2, e⟩ := bd_inv e
  refine ⟨_, y3, ?_⟩
  refine hl Fz ba G σ H Hs x G1 q e1 _ fun H2 Hs2 q2 s2 => ?_
  refine hh Fz ba G1 σ H2 Hs2 y _ q2 e2 _ fun H3 Hs3 q3 s3 => ?_
  unfold slv at e
  cases h : G2[i]? with
  | none => simp only [h] at e; cases e
  | some en =>
    cases h0 : en.mu with
    | none => simp only [h, h0] at e; cases e
    | some mm =>
      cases mm with
      | o _ _ => simp only [h, h0] at e; cases e
      | l ds =>
        simp only [h, h0] at e
        cases e
        obtain ⟨_, z1, z2, vs, rfl, z3⟩ := yk _ H3 Hs3 en (.l ds) q3 h h0
        refine .inl (.inl ⟨a, vs, rfl, SqL.of z1, fun p hp => ?_⟩)
        exact k _ _ Hs3 (q3.ext (Ext.hid q3.sub hp)) (s2.trans s3) ((show ResF K H3 (upd H3 p (.lst (cutV vs x y))) Hs3 (.ref p) (.ol (cutD ds x y)) from ⟨p, _, rfl, hp, upd_same, none_sub q3.sub hp, _, rfl, cut_ok z3 _ _⟩).res q3)
end
end Bk
namespace Bk
open PySem L2
def opInB (neg : Bool) (x y : D) : Option R := match opIn neg x y with
  | some r => some r
  | none => match toPy x, toPy y with
    | some p, some (.list ps) => if SeqAt.shaped p && SeqAt.shaped (.list ps) then some (.im (.bl (if neg then !(ps.any fun z => PyData.eqv z p) else ps.any fun z => PyData.eqv z p))) else none
    | _, _ => none
section
variable {K : PySem.W.Frag}
def rInB (K : PySem.W.Frag) (neg : Bool) : R2 := fun x y H Q => rInA K neg x y H Q ∨ (if neg then rNotInD K x y H Q else rInD K x y H Q)
theorem kop_inB {X : Cx} (hK : X.K = K) (hu : X.A.units + 70 < cLine) : OpR X (compareOp .In) (rInB K false) := hK ▸ (op_inA.or (op_inD (by omega)))
theorem kop_notInB {X : Cx} (hK : X.K = K) (hu : X.A.units + 70 < cLine) : OpR X (compareOp .NotIn) (rInB K true) := hK ▸ (op_notInA.or (op_notInD (by omega)))
theorem od_inB {neg : Bool} : OpD K (rInB K neg) (opInB neg) := fun H Hs x y dx dy res s hx hy e Q k => by
  unfold opInB at e
  split at e
  · rename_i r h
    cases e
    exact .inl (od_in H Hs x y dx dy _ s hx hy h Q k)
  · split at e
    case h_2 => cases e
    rename_i p ps h1 h2
    split at e
    case isFalse => cases e
    rename_i hok
    cases e
    rw [Bool.and_eq_true] at hok
    refine .inr ?_
    cases neg
    · exact ⟨p, ps, dp_mono s hx h1, dp_mono s hy h2, hok.1, hok.2, k _ H Hs (Ext.refl s) (.bl _)⟩
    · exact ⟨p, ps, dp_mono s hx h1, dp_mono s hy h2, hok.1, hok.2, k _ H Hs (Ext.refl s) (.bl _)⟩
end
end Bk
namespace Bk
open PySem L2
structure IsU (K : PySem.W.Frag) (C : Addr) : Prop where
  ins : C8.InsC K C
  to : ∀ t ∈ ["int", "bool", "str", "list", "tuple"], PySem.W.kitOne K (.ref C) (.type t) = some false
theorem ut_list {K : PySem.W.Frag} {C : Addr} (h0 : PySem.W.kitOne K (.ref C) (.type "int") = some false) (h1 : PySem.W.kitOne K (.ref C) (.type "bool") = some false) (h2 : PySem.W.kitOne K (.ref C) (.type "str") = some false)
    (h3 : PySem.W.kitOne K (.ref C) (.type "list") = some false) (h4 : PySem.W.kitOne K (.ref C) (.type "tuple") = some false) : ∀ t ∈ ["int", "bool", "str", "list", "tuple"], PySem.W.kitOne K (.ref C) (.type t) = some false := fun t ht => by
  simp only [List.mem_cons, List.not_mem_nil, or_false] at ht
  rcases ht with rfl | rfl | rfl | rfl | rfl
  · exact h0
  · exact h1
  · exact h2
  · exact h3
  · exact h4
def cbIsiU (c : Nat) : List D → Option R
  | [.obj c' ds, .ty t] => if c' = c ∧ t ∈ ["int", "bool", "str", "list", "tuple"] then some (.im (.bl false)) else none
  | xs => cbIsi xs
theorem cd_isiU {K : PySem.W.Frag} {c : Nat} {C : Addr} (hC : CAt K c C) (I : IsU K C) : CbD K (rIsi K) (cbIsiU c) := fun H Hs xs ds res s h e Q k => by
  unfold cbIsiU at e
  split at e
  · split at e
    case isFalse => cases e
    rename_i hc
    obtain ⟨rfl, ht⟩ := hc
    cases e
    cases h with
    | cons a a2 =>
      cases a2 with
      | cons a2 a3 =>
        cases a3
        cases a2
        cases a with
        | obj hc3 hH hn hv hs =>
          cases hc3.eq hC
          exact ⟨_, _, _, _, false, rfl, .ty _, .base (.ins (s _ _ hH) I.ins.cl I.ins.ha I.ins.hn I.ins.htk I.ins.hm), I.to _ ht, k _ H Hs (Ext.refl s) (.bl _)⟩
  · exact cd_isi H Hs xs ds res s h e Q k
end Bk
namespace Bk
open PySem L2
def c_NOUGHT : D := .tup [.int (0), .int (1)]
def c_ONE : D := .tup [.int (1), .int (1)]
def b_is_sequence : MS := (xret (xcb cbIsiS (xcons (xv 0) (xcons (xtup (xcons (xc (.ty "list")) (xcons (xc (.ty "tuple")) xnil))) xnil))))
def r_is_sequence : List D → Option R := runF 1 1 b_is_sequence
def b_is_less : MS := (xret (xop opLt (xop opMul (xop opIx (xv 0) (xc (.int 0))) (xop opIx (xv 1) (xc (.int 1)))) (xop opMul (xop opIx (xv 1) (xc (.int 0))) (xop opIx (xv 0) (xc (.int 1))))))
def r_is_less : List D → Option R := runF 2 2 b_is_less
def b_is_integer : MS := (xret (xvand (xcb (cbIsiU 0) (xcons (xv 0) (xcons (xc (.ty "int")) xnil))) (xvnot (xcb (cbIsiU 0) (xcons (xv 0) (xcons (xc (.ty "bool")) xnil))))))
def r_is_integer : List D → Option R := runF 1 1 b_is_integer
def b_divisor_1 : MS := (ypar 0 1 (ycons (xv 1) (ycons (xop opMod (xv 0) (xv 1)) ynil)))
def b_divisor : MS := (xseq (ypar 0 1 (ycons (xcb cbAbs (xcons (xv 0) xnil)) (ycons (xcb cbAbs (xcons (xv 1) xnil)) ynil)))
  (xseq (xwhile (fuelI 1) (xtest (xop opNe (xv 1) (xc (.int 0)))) b_divisor_1)
  (xret (xmv 0))))
def r_divisor : List D → Option R := runF 2 2 b_divisor
def b_is_pair : MS := (xseq (xifs (xtor (xtnot (xtru (xcb (cbIsiU 0) (xcons (xv 0) (xcons (xc (.ty "tuple")) xnil))))) (xtor (xtest (xop opNe (xcb cbLen (xcons (xv 0) xnil)) (xc (.int 2)))) (xtnot (xtru (xcb cbAll (xcons (xlc (xseqI (xv 0)) (tgn 1) xtyes (xcall r_is_integer (xcons (xv 1) xnil)) [1]) xnil)))))) (xret (xc (.bl false))) xnext)
  (xret (xvand (xop opGt (xop opIx (xv 0) (xc (.int 1))) (xc (.int 0))) (xop opEq (xcall r_divisor (xcons (xop opIx (xv 0) (xc (.int 0))) (xcons (xop opIx (xv 0) (xc (.int 1))) xnil))) (xc (.int 1))))))
def r_is_pair : List D → Option R := runF 1 2 b_is_pair
def b_is_value : MS := (xret (xvor (xcall r_is_integer (xcons (xv 0) xnil)) (xcall r_is_pair (xcons (xv 0) xnil))))
def r_is_value : List D → Option R := runF 1 1 b_is_value
def b_value_of : MS := (xret (xif (xtru (xcall r_is_integer (xcons (xv 0) xnil))) (xtup (xcons (xv 0) (xcons (xc (.int 1)) xnil))) (xv 0)))
def r_value_of : List D → Option R := runF 1 1 b_value_of
def b_is_between : MS := (xret (xvand (xcall r_is_value (xcons (xv 0) xnil)) (xvand (xvnot (xcall r_is_less (xcons (xcall r_value_of (xcons (xv 0) xnil)) (xcons (xv 1) xnil)))) (xvnot (xcall r_is_less (xcons (xv 2) (xcons (xcall r_value_of (xcons (xv 0) xnil)) xnil)))))))
def r_is_between : List D → Option R := runF 3 3 b_is_between
def b_is_share : MS := (xseq (xifs (xtor (xtnot (xtru (xcb (cbIsiU 0) (xcons (xv 0) (xcons (xc (.ty "tuple")) xnil))))) (xtor (xtest (xop opNe (xcb cbLen (xcons (xv 0) xnil)) (xc (.int 3)))) (xtnot (xtru (xcall r_is_value (xcons (xop opIx (xv 0) (xc (.int 2))) xnil)))))) (xret (xc (.bl false))) xnext)
  (xseq (xifs (xtor (xtnot (xtru (xcall r_is_between (xcons (xop opIx (xv 0) (xc (.int 0))) (xcons (xv 1) (xcons (xv 2) xnil)))))) (xtnot (xtru (xcall r_is_between (xcons (xop opIx (xv 0) (xc (.int 1))) (xcons (xv 1) (xcons (xv 2) xnil))))))) (xret (xc (.bl false))) xnext)
  (xret (xcall r_is_less (xcons (xcall r_value_of (xcons (xop opIx (xv 0) (xc (.int 0))) xnil)) (xcons (xcall r_value_of (xcons (xop opIx (xv 0) (xc (.int 1))) xnil)) xnil))))))
def r_is_share : List D → Option R := runF 3 3 b_is_share
def b_is_weight : MS := (xseq (xifs (xtor (xtnot (xtru (xcb (cbIsiU 0) (xcons (xv 0) (xcons (xc (.ty "tuple")) xnil))))) (xtest (xop opNe (xcb cbLen (xcons (xv 0) xnil)) (xc (.int 2))))) (xret (xc (.bl false))) xnext)
  (xret (xvand (xcall r_is_between (xcons (xop opIx (xv 0) (xc (.int 0))) (xcons (xv 1) (xcons (xv 2) xnil)))) (xcall r_is_value (xcons (xop opIx (xv 0) (xc (.int 1))) xnil)))))
def r_is_weight : List D → Option R := runF 3 3 b_is_weight
def b_ascending_1 : MS := (xset 1 (xop opFdiv (xop opMul (xv 1) (xv 3)) (xcall r_divisor (xcons (xv 1) (xcons (xv 3) xnil)))))
def b_ascending : MS := (xseq (xset 1 (xc (.int 1)))
  (xseq (xfor (xseqI (xv 0)) (tgt [(tgn 2), (tgn 3)]) b_ascending_1)
  (xseq (xset 4 (xcb cbSorted (xcons (xlc (xseqI (xv 0)) (tgn 5) xtyes (xtup (xcons (xop opMul (xop opIx (xv 5) (xc (.int 0))) (xop opFdiv (xv 1) (xop opIx (xv 5) (xc (.int 1))))) (xcons (xv 5) xnil))) [5]) xnil)))
  (xret (xlc (xenumA (xcons (xv 4) xnil)) (tgt [(tgn 6), (tgt [(tgn 7), (tgn 5)])]) (xtor (xtest (xop opEq (xv 6) (xc (.int 0)))) (xtest (xop opNe (xop opIx (xop opIx (xv 4) (xop opSub (xv 6) (xc (.int 1)))) (xc (.int 1))) (xv 5)))) (xv 5) [6, 7, 5])))))
def r_ascending : List D → Option R := runF 1 8 b_ascending
def b_lowest : MS := (xseq (xset 2 (xcall r_divisor (xcons (xv 0) (xcons (xv 1) xnil))))
  (xseq (xset 2 (xif (xtest (xop opLt (xv 1) (xc (.int 0)))) (xun unNeg (xv 2)) (xv 2)))
  (xret (xtup (xcons (xop opFdiv (xv 0) (xv 2)) (xcons (xop opFdiv (xv 1) (xv 2)) xnil))))))
def r_lowest : List D → Option R := runF 2 3 b_lowest
def b_added : MS := (xret (xcall r_lowest (xcons (xop opAddB (xop opMul (xop opIx (xv 0) (xc (.int 0))) (xop opIx (xv 1) (xc (.int 1)))) (xop opMul (xop opIx (xv 1) (xc (.int 0))) (xop opIx (xv 0) (xc (.int 1))))) (xcons (xop opMul (xop opIx (xv 0) (xc (.int 1))) (xop opIx (xv 1) (xc (.int 1)))) xnil))))
def r_added : List D → Option R := runF 2 2 b_added
def b_summed_1 : MS := (xset 1 (xcall r_added (xcons (xv 1) (xcons (xv 2) xnil))))
def b_summed : MS := (xseq (xset 1 (xc c_NOUGHT))
  (xseq (xfor (xseqI (xv 0)) (tgn 2) b_summed_1)
  (xret (xmv 1))))
def r_summed : List D → Option R := runF 1 3 b_summed
def b_least_shares_1 : MS := (xseq (xset 6 (xlc (xseqI (xv 1)) (tgt [(tgn 10), (tgn 11), (tgn 8)]) (xtand (xtnot (xtru (xcall r_is_less (xcons (xv 4) (xcons (xv 10) xnil))))) (xtnot (xtru (xcall r_is_less (xcons (xv 11) (xcons (xv 5) xnil)))))) (xv 8) [10, 11, 8]))
  (xseq (xset 7 (xcall r_summed (xcons (xv 6) xnil)))
  (xifs (xtand (xtest (xop opGt (xcb cbLen (xcons (xv 3) xnil)) (xc (.int 0)))) (xtest (xop opEq (xop opIx (xop opIx (xv 3) (xun unNeg (xc (.int 1)))) (xc (.int 2))) (xv 7)))) (xset 3 (xlst (xstar (xsl slB (xv 3) xnop (xpart (xun unNeg (xc (.int 1))))) (xcons (xtup (xcons (xop opIx (xop opIx (xv 3) (xun unNeg (xc (.int 1)))) (xc (.int 0))) (xcons (xv 5) (xcons (xv 7) xnil)))) xnil)))) (xset 3 (xlst (xstar (xv 3) (xcons (xtup (xcons (xv 4) (xcons (xv 5) (xcons (xv 7) xnil)))) xnil)))))))
def b_least_shares : MS := (xseq (xset 1 (xlc (xseqI (xv 0)) (tgt [(tgn 4), (tgn 5), (tgn 8)]) xtyes (xtup (xcons (xcall r_value_of (xcons (xv 4) xnil)) (xcons (xcall r_value_of (xcons (xv 5) xnil)) (xcons (xcall r_value_of (xcons (xv 8) xnil)) xnil)))) [4, 5, 8]))
  (xseq (xset 2 (xcall r_ascending (xcons (xlc2 (xseqI (xv 1)) (tgt [(tgn 4), (tgn 5), (tgn 8)]) xtyes (xseqI (xtup (xcons (xv 4) (xcons (xv 5) xnil)))) (tgn 9) xtyes (xv 9) [4, 5, 8, 9] [9]) xnil)))
  (xseq (xset 3 (xlst xnil))
  (xseq (xfor (xzipA (xcons (xv 2) (xcons (xsl slB (xv 2) (xpart (xc (.int 1))) xnop) xnil))) (tgt [(tgn 4), (tgn 5)]) b_least_shares_1)
  (xret (xcb cbTuple (xcons (xlc (xseqI (xv 3)) (tgn 12) (xtest (xop opNe (xop opIx (xv 12) (xc (.int 2))) (xc c_NOUGHT))) (xv 12) [12]) xnil)))))))
def r_least_shares : List D → Option R := runF 1 13 b_least_shares
def b_least_weights_1 : MS := (xapp 2 (xtup (xcons (xv 3) (xcons (xcall r_summed (xcons (xlc (xseqI (xv 1)) (tgt [(tgn 5), (tgn 4)]) (xtest (xop opEq (xv 5) (xv 3))) (xv 4) [5, 4]) xnil)) xnil))))
def b_least_weights : MS := (xseq (xset 1 (xlc (xseqI (xv 0)) (tgt [(tgn 3), (tgn 4)]) xtyes (xtup (xcons (xcall r_value_of (xcons (xv 3) xnil)) (xcons (xcall r_value_of (xcons (xv 4) xnil)) xnil))) [3, 4]))
  (xseq (xset 2 (xlst xnil))
  (xseq (xfor (xseqI (xcall r_ascending (xcons (xlc (xseqI (xv 1)) (tgt [(tgn 3), (tgn 4)]) xtyes (xv 3) [3, 4]) xnil))) (tgn 3) b_least_weights_1)
  (xret (xcb cbTuple (xcons (xlc (xseqI (xv 2)) (tgn 6) (xtest (xop opNe (xop opIx (xv 6) (xc (.int 1))) (xc c_NOUGHT))) (xv 6) [6]) xnil))))))
def r_least_weights : List D → Option R := runF 1 7 b_least_weights
def b_need_stretch : MS := (xseq (xifs (xtnot (xtru (xcall r_is_value (xcons (xv 0) xnil)))) xnever xnext)
  (xseq (xifs (xtor (xtnot (xtru (xcall r_is_value (xcons (xv 1) xnil)))) (xtnot (xtru (xcall r_is_less (xcons (xcall r_value_of (xcons (xv 0) xnil)) (xcons (xcall r_value_of (xcons (xv 1) xnil)) xnil)))))) xnever xnext)
  (xret (xtup (xcons (xcall r_value_of (xcons (xv 0) xnil)) (xcons (xcall r_value_of (xcons (xv 1) xnil)) xnil))))))
def r_need_stretch : List D → Option R := runF 2 2 b_need_stretch
def b_Rule_init : MS := (xseq (xasgF 0 0 0 1 (xcall r_need_stretch (xcons (xv 1) (xcons (xv 2) xnil))))
  (xseq (xifs (xtor (xtnot (xtru (xcall r_is_sequence (xcons (xv 3) xnil)))) (xtnot (xtru (xcb cbAll (xcons (xlc (xseqI (xv 3)) (tgn 5) xtyes (xcall r_is_weight (xcons (xv 5) (xcons (xfldv 0 0 0) (xcons (xfldv 0 0 1) xnil)))) [5]) xnil))))) xnever xnext)
  (xseq (xifs (xtor (xtnot (xtru (xcall r_is_sequence (xcons (xv 4) xnil)))) (xtnot (xtru (xcb cbAll (xcons (xlc (xseqI (xv 4)) (tgn 5) xtyes (xcall r_is_share (xcons (xv 5) (xcons (xfldv 0 0 0) (xcons (xfldv 0 0 1) xnil)))) [5]) xnil))))) xnever xnext)
  (xseq (xsetf 0 0 2 (xcall r_least_weights (xcons (xv 3) xnil)))
  (xsetf 0 0 3 (xcall r_least_shares (xcons (xv 4) xnil)))))))
def r_Rule_init : Mob → List D → Option (R × Mob) := runB 5 6 b_Rule_init
def b_w_choose : MS := (xseq (xifs (xtest (xop opGt (xby 0 (xixv 0 (xc (.int 0))) (xop opIx (xv 0) (xc (.int 0)))) (xc (.int 0)))) (xseq (xset 2 (xop opMod (xcb cbInt (xcons (xby 0 (xixv 0 (xc (.int 0))) (xop opIx (xv 0) (xc (.int 0)))) xnil)) (xv 1)))
  (xseq (xput 0 (xop opFdiv (xby 0 (xixv 0 (xc (.int 0))) (xop opIx (xv 0) (xc (.int 0)))) (xv 1)) (xc (.int 0)))
  (xret (xmv 2)))) xnext)
  (xseq (xset 3 (xop opMod (xcb cbInt (xcons (xop opAddB (xop opMul (xby 0 (xixv 0 (xc (.int 1))) (xop opIx (xv 0) (xc (.int 1)))) (xc (.int 40014))) (xc (.int 67))) xnil)) (xc (.int 2147483563))))
  (xseq (xput 0 (xop opAddB (xop opMod (xcb cbInt (xcons (xop opAddB (xop opMul (xv 3) (xc (.int 40692))) (xc (.int 5099))) xnil)) (xc (.int 2147483629))) (xc (.int 1))) (xc (.int 1)))
  (xret (xop opMod (xcb cbInt (xcons (xop opFdiv (xop opAddB (xop opMul (xv 3) (xc (.int 2147483647))) (xby 0 (xixv 0 (xc (.int 1))) (xop opIx (xv 0) (xc (.int 1))))) (xc (.int 8191))) xnil)) (xv 1))))))
def r_w_choose : Mob → List D → Option (R × Mob) := runB 2 4 b_w_choose
def b_w_one_of : MS := (xret (xop opIx (xv 1) (xcallB r_w_choose 0 (xcons (xcb cbLen (xcons (xv 1) xnil)) xnil))))
def r_w_one_of : Mob → List D → Option (R × Mob) := runB 2 2 b_w_one_of
def r_w_anything_z : Mob → List D → Option (R × Mob) := fun _ _ => none
def b_w_anything_0 : MS := (xseq (xset 2 (xlst (xcons (xc .non) (xcons (xc (.bl true)) (xcons (xc (.bl false)) (xcons (xc (.int 0)) (xcons (xc (.int 1)) (xcons (xop opSub (xc (.int 0)) (xc (.int 1))) (xcons (xc (.int 60)) (xcons (xc (.str "")) (xcons (xc (.str "a")) (xcons (xc (.str "rule 0 1")) (xcons (xc (.str "kink")) (xcons (xc (.str "power")) (xcons (xc (.str "at")) (xcons (xc (.str "over")) xnil))))))))))))))))
  (xseq (xset 2 (xop opAddB (xv 2) (xlst (xcons (xmake 0 r_Rule_init ([.tup [], .tup []].drop 0) (xcons (xc (.int 0)) (xcons (xc (.int 1)) xnil))) (xcons (xlst xnil) (xcons (xtup xnil) (xcons (xc (.str "\n")) (xcons (xtup (xcons (xc (.int 1)) (xcons (xc (.int 2)) xnil))) (xcons (xtup (xcons (xc (.int 2)) (xcons (xc (.int 4)) xnil))) (xcons (xlst (xcons (xc (.int 1)) (xcons (xc (.int 2)) xnil))) (xcons (xtup (xcons (xc (.int 1)) (xcons (xc (.int 0)) xnil))) (xcons (xtup (xcons (xc (.str "kink")) (xcons (xtup (xcons (xc (.int 1)) (xcons (xc (.int 2)) xnil))) xnil))) xnil))))))))))))
  (xseq (xifs (xtor (xtest (xop opEq (xv 1) (xc (.int 0)))) (xtest (xop opGt (xcallB r_w_choose 0 (xcons (xc (.int 3)) xnil)) (xc (.int 0))))) (xret (xcallB r_w_one_of 0 (xcons (xv 2) xnil))) xnext)
  (xseq (xset 3 (xlc (xrange1 (xcons (xcallB r_w_choose 0 (xcons (xc (.int 4)) xnil)) xnil)) (tgn 4) xtyes (xcallB r_w_anything_z 0 (xcons (xop opSub (xv 1) (xc (.int 1))) xnil)) [4]))
  (xret (xif (xtest (xop opEq (xcallB r_w_choose 0 (xcons (xc (.int 2)) xnil)) (xc (.int 0)))) (xcb cbTuple (xcons (xv 3) xnil)) (xv 3)))))))
def r_w_anything_0 : Mob → List D → Option (R × Mob) := runB 2 5 b_w_anything_0
def b_w_anything_1 : MS := (xseq (xset 2 (xlst (xcons (xc .non) (xcons (xc (.bl true)) (xcons (xc (.bl false)) (xcons (xc (.int 0)) (xcons (xc (.int 1)) (xcons (xop opSub (xc (.int 0)) (xc (.int 1))) (xcons (xc (.int 60)) (xcons (xc (.str "")) (xcons (xc (.str "a")) (xcons (xc (.str "rule 0 1")) (xcons (xc (.str "kink")) (xcons (xc (.str "power")) (xcons (xc (.str "at")) (xcons (xc (.str "over")) xnil))))))))))))))))
  (xseq (xset 2 (xop opAddB (xv 2) (xlst (xcons (xmake 0 r_Rule_init ([.tup [], .tup []].drop 0) (xcons (xc (.int 0)) (xcons (xc (.int 1)) xnil))) (xcons (xlst xnil) (xcons (xtup xnil) (xcons (xc (.str "\n")) (xcons (xtup (xcons (xc (.int 1)) (xcons (xc (.int 2)) xnil))) (xcons (xtup (xcons (xc (.int 2)) (xcons (xc (.int 4)) xnil))) (xcons (xlst (xcons (xc (.int 1)) (xcons (xc (.int 2)) xnil))) (xcons (xtup (xcons (xc (.int 1)) (xcons (xc (.int 0)) xnil))) (xcons (xtup (xcons (xc (.str "kink")) (xcons (xtup (xcons (xc (.int 1)) (xcons (xc (.int 2)) xnil))) xnil))) xnil))))))))))))
  (xseq (xifs (xtor (xtest (xop opEq (xv 1) (xc (.int 0)))) (xtest (xop opGt (xcallB r_w_choose 0 (xcons (xc (.int 3)) xnil)) (xc (.int 0))))) (xret (xcallB r_w_one_of 0 (xcons (xv 2) xnil))) xnext)
  (xseq (xset 3 (xlc (xrange1 (xcons (xcallB r_w_choose 0 (xcons (xc (.int 4)) xnil)) xnil)) (tgn 4) xtyes (xcallB r_w_anything_0 0 (xcons (xop opSub (xv 1) (xc (.int 1))) xnil)) [4]))
  (xret (xif (xtest (xop opEq (xcallB r_w_choose 0 (xcons (xc (.int 2)) xnil)) (xc (.int 0)))) (xcb cbTuple (xcons (xv 3) xnil)) (xv 3)))))))
def r_w_anything_1 : Mob → List D → Option (R × Mob) := runB 2 5 b_w_anything_1
def b_w_anything_2 : MS := (xseq (xset 2 (xlst (xcons (xc .non) (xcons (xc (.bl true)) (xcons (xc (.bl false)) (xcons (xc (.int 0)) (xcons (xc (.int 1)) (xcons (xop opSub (xc (.int 0)) (xc (.int 1))) (xcons (xc (.int 60)) (xcons (xc (.str "")) (xcons (xc (.str "a")) (xcons (xc (.str "rule 0 1")) (xcons (xc (.str "kink")) (xcons (xc (.str "power")) (xcons (xc (.str "at")) (xcons (xc (.str "over")) xnil))))))))))))))))
  (xseq (xset 2 (xop opAddB (xv 2) (xlst (xcons (xmake 0 r_Rule_init ([.tup [], .tup []].drop 0) (xcons (xc (.int 0)) (xcons (xc (.int 1)) xnil))) (xcons (xlst xnil) (xcons (xtup xnil) (xcons (xc (.str "\n")) (xcons (xtup (xcons (xc (.int 1)) (xcons (xc (.int 2)) xnil))) (xcons (xtup (xcons (xc (.int 2)) (xcons (xc (.int 4)) xnil))) (xcons (xlst (xcons (xc (.int 1)) (xcons (xc (.int 2)) xnil))) (xcons (xtup (xcons (xc (.int 1)) (xcons (xc (.int 0)) xnil))) (xcons (xtup (xcons (xc (.str "kink")) (xcons (xtup (xcons (xc (.int 1)) (xcons (xc (.int 2)) xnil))) xnil))) xnil))))))))))))
  (xseq (xifs (xtor (xtest (xop opEq (xv 1) (xc (.int 0)))) (xtest (xop opGt (xcallB r_w_choose 0 (xcons (xc (.int 3)) xnil)) (xc (.int 0))))) (xret (xcallB r_w_one_of 0 (xcons (xv 2) xnil))) xnext)
  (xseq (xset 3 (xlc (xrange1 (xcons (xcallB r_w_choose 0 (xcons (xc (.int 4)) xnil)) xnil)) (tgn 4) xtyes (xcallB r_w_anything_1 0 (xcons (xop opSub (xv 1) (xc (.int 1))) xnil)) [4]))
  (xret (xif (xtest (xop opEq (xcallB r_w_choose 0 (xcons (xc (.int 2)) xnil)) (xc (.int 0)))) (xcb cbTuple (xcons (xv 3) xnil)) (xv 3)))))))
def r_w_anything_2 : Mob → List D → Option (R × Mob) := runB 2 5 b_w_anything_2
def b_w_anything_3 : MS := (xseq (xset 2 (xlst (xcons (xc .non) (xcons (xc (.bl true)) (xcons (xc (.bl false)) (xcons (xc (.int 0)) (xcons (xc (.int 1)) (xcons (xop opSub (xc (.int 0)) (xc (.int 1))) (xcons (xc (.int 60)) (xcons (xc (.str "")) (xcons (xc (.str "a")) (xcons (xc (.str "rule 0 1")) (xcons (xc (.str "kink")) (xcons (xc (.str "power")) (xcons (xc (.str "at")) (xcons (xc (.str "over")) xnil))))))))))))))))
  (xseq (xset 2 (xop opAddB (xv 2) (xlst (xcons (xmake 0 r_Rule_init ([.tup [], .tup []].drop 0) (xcons (xc (.int 0)) (xcons (xc (.int 1)) xnil))) (xcons (xlst xnil) (xcons (xtup xnil) (xcons (xc (.str "\n")) (xcons (xtup (xcons (xc (.int 1)) (xcons (xc (.int 2)) xnil))) (xcons (xtup (xcons (xc (.int 2)) (xcons (xc (.int 4)) xnil))) (xcons (xlst (xcons (xc (.int 1)) (xcons (xc (.int 2)) xnil))) (xcons (xtup (xcons (xc (.int 1)) (xcons (xc (.int 0)) xnil))) (xcons (xtup (xcons (xc (.str "kink")) (xcons (xtup (xcons (xc (.int 1)) (xcons (xc (.int 2)) xnil))) xnil))) xnil))))))))))))
  (xseq (xifs (xtor (xtest (xop opEq (xv 1) (xc (.int 0)))) (xtest (xop opGt (xcallB r_w_choose 0 (xcons (xc (.int 3)) xnil)) (xc (.int 0))))) (xret (xcallB r_w_one_of 0 (xcons (xv 2) xnil))) xnext)
  (xseq (xset 3 (xlc (xrange1 (xcons (xcallB r_w_choose 0 (xcons (xc (.int 4)) xnil)) xnil)) (tgn 4) xtyes (xcallB r_w_anything_2 0 (xcons (xop opSub (xv 1) (xc (.int 1))) xnil)) [4]))
  (xret (xif (xtest (xop opEq (xcallB r_w_choose 0 (xcons (xc (.int 2)) xnil)) (xc (.int 0)))) (xcb cbTuple (xcons (xv 3) xnil)) (xv 3)))))))
def r_w_anything_3 : Mob → List D → Option (R × Mob) := runB 2 5 b_w_anything_3
def b_w_anything_4 : MS := (xseq (xset 2 (xlst (xcons (xc .non) (xcons (xc (.bl true)) (xcons (xc (.bl false)) (xcons (xc (.int 0)) (xcons (xc (.int 1)) (xcons (xop opSub (xc (.int 0)) (xc (.int 1))) (xcons (xc (.int 60)) (xcons (xc (.str "")) (xcons (xc (.str "a")) (xcons (xc (.str "rule 0 1")) (xcons (xc (.str "kink")) (xcons (xc (.str "power")) (xcons (xc (.str "at")) (xcons (xc (.str "over")) xnil))))))))))))))))
  (xseq (xset 2 (xop opAddB (xv 2) (xlst (xcons (xmake 0 r_Rule_init ([.tup [], .tup []].drop 0) (xcons (xc (.int 0)) (xcons (xc (.int 1)) xnil))) (xcons (xlst xnil) (xcons (xtup xnil) (xcons (xc (.str "\n")) (xcons (xtup (xcons (xc (.int 1)) (xcons (xc (.int 2)) xnil))) (xcons (xtup (xcons (xc (.int 2)) (xcons (xc (.int 4)) xnil))) (xcons (xlst (xcons (xc (.int 1)) (xcons (xc (.int 2)) xnil))) (xcons (xtup (xcons (xc (.int 1)) (xcons (xc (.int 0)) xnil))) (xcons (xtup (xcons (xc (.str "kink")) (xcons (xtup (xcons (xc (.int 1)) (xcons (xc (.int 2)) xnil))) xnil))) xnil))))))))))))
  (xseq (xifs (xtor (xtest (xop opEq (xv 1) (xc (.int 0)))) (xtest (xop opGt (xcallB r_w_choose 0 (xcons (xc (.int 3)) xnil)) (xc (.int 0))))) (xret (xcallB r_w_one_of 0 (xcons (xv 2) xnil))) xnext)
  (xseq (xset 3 (xlc (xrange1 (xcons (xcallB r_w_choose 0 (xcons (xc (.int 4)) xnil)) xnil)) (tgn 4) xtyes (xcallB r_w_anything_3 0 (xcons (xop opSub (xv 1) (xc (.int 1))) xnil)) [4]))
  (xret (xif (xtest (xop opEq (xcallB r_w_choose 0 (xcons (xc (.int 2)) xnil)) (xc (.int 0)))) (xcb cbTuple (xcons (xv 3) xnil)) (xv 3)))))))
def r_w_anything_4 : Mob → List D → Option (R × Mob) := runB 2 5 b_w_anything_4
def b_w_anything : MS := (xseq (xset 2 (xlst (xcons (xc .non) (xcons (xc (.bl true)) (xcons (xc (.bl false)) (xcons (xc (.int 0)) (xcons (xc (.int 1)) (xcons (xop opSub (xc (.int 0)) (xc (.int 1))) (xcons (xc (.int 60)) (xcons (xc (.str "")) (xcons (xc (.str "a")) (xcons (xc (.str "rule 0 1")) (xcons (xc (.str "kink")) (xcons (xc (.str "power")) (xcons (xc (.str "at")) (xcons (xc (.str "over")) xnil))))))))))))))))
  (xseq (xset 2 (xop opAddB (xv 2) (xlst (xcons (xmake 0 r_Rule_init ([.tup [], .tup []].drop 0) (xcons (xc (.int 0)) (xcons (xc (.int 1)) xnil))) (xcons (xlst xnil) (xcons (xtup xnil) (xcons (xc (.str "\n")) (xcons (xtup (xcons (xc (.int 1)) (xcons (xc (.int 2)) xnil))) (xcons (xtup (xcons (xc (.int 2)) (xcons (xc (.int 4)) xnil))) (xcons (xlst (xcons (xc (.int 1)) (xcons (xc (.int 2)) xnil))) (xcons (xtup (xcons (xc (.int 1)) (xcons (xc (.int 0)) xnil))) (xcons (xtup (xcons (xc (.str "kink")) (xcons (xtup (xcons (xc (.int 1)) (xcons (xc (.int 2)) xnil))) xnil))) xnil))))))))))))
  (xseq (xifs (xtor (xtest (xop opEq (xv 1) (xc (.int 0)))) (xtest (xop opGt (xcallB r_w_choose 0 (xcons (xc (.int 3)) xnil)) (xc (.int 0))))) (xret (xcallB r_w_one_of 0 (xcons (xv 2) xnil))) xnext)
  (xseq (xset 3 (xlc (xrange1 (xcons (xcallB r_w_choose 0 (xcons (xc (.int 4)) xnil)) xnil)) (tgn 4) xtyes (xcallB r_w_anything_4 0 (xcons (xop opSub (xv 1) (xc (.int 1))) xnil)) [4]))
  (xret (xif (xtest (xop opEq (xcallB r_w_choose 0 (xcons (xc (.int 2)) xnil)) (xc (.int 0)))) (xcb cbTuple (xcons (xv 3) xnil)) (xv 3)))))))
def r_w_anything : Mob → List D → Option (R × Mob) := runB 2 5 b_w_anything
def b_w_made : MS := (xret (xmake 0 r_Rule_init ([.tup [], .tup []].drop 2) (xcons (xop opIx (xv 0) (xc (.int 0))) (xcons (xop opIx (xv 0) (xc (.int 1))) (xcons (xop opIx (xv 0) (xc (.int 2))) (xcons (xop opIx (xv 0) (xc (.int 3))) xnil))))))
def r_w_made : List D → Option R := runF 1 1 b_w_made
def b_w_is_less : MS := (xret (xop opLt (xop opMul (xop opIx (xv 0) (xc (.int 0))) (xop opIx (xv 1) (xc (.int 1)))) (xop opMul (xop opIx (xv 1) (xc (.int 0))) (xop opIx (xv 0) (xc (.int 1))))))
def r_w_is_less : List D → Option R := runF 2 2 b_w_is_less
def b_w_divisor_1 : MS := (ypar 0 1 (ycons (xv 1) (ycons (xop opMod (xcb cbInt (xcons (xv 0) xnil)) (xv 1)) ynil)))
def b_w_divisor : MS := (xseq (ypar 0 1 (ycons (xcb cbAbs (xcons (xv 0) xnil)) (ycons (xcb cbAbs (xcons (xv 1) xnil)) ynil)))
  (xseq (xwhile (fuelI 1) (xtest (xop opNe (xv 1) (xc (.int 0)))) b_w_divisor_1)
  (xret (xmv 0))))
def r_w_divisor : List D → Option R := runF 2 2 b_w_divisor
def b_w_number : MS := (xseq (xifs (xtand (xtru (xcb (cbIsiU 0) (xcons (xv 0) (xcons (xc (.ty "int")) xnil)))) (xtnot (xtru (xcb (cbIsiU 0) (xcons (xv 0) (xcons (xc (.ty "bool")) xnil)))))) (xret (xtup (xcons (xv 0) (xcons (xc (.int 1)) xnil)))) xnext)
  (xseq (xifs (xtor (xtnot (xtru (xcb (cbIsiU 0) (xcons (xv 0) (xcons (xc (.ty "tuple")) xnil))))) (xtest (xop opNe (xcb cbLen (xcons (xv 0) xnil)) (xc (.int 2))))) (xret (xc .non)) xnext)
  (xseq (xifs (xtest (xop opNe (xlc (xseqI (xv 0)) (tgn 1) (xtor (xtru (xcb (cbIsiU 0) (xcons (xv 1) (xcons (xc (.ty "bool")) xnil)))) (xtnot (xtru (xcb (cbIsiU 0) (xcons (xv 1) (xcons (xc (.ty "int")) xnil)))))) (xc (.int 1)) [1]) (xlst xnil))) (xret (xc .non)) xnext)
  (xret (xif (xtand (xtest (xop opGt (xop opIx (xv 0) (xc (.int 1))) (xc (.int 0)))) (xtest (xop opEq (xcall r_w_divisor (xcons (xop opIx (xv 0) (xc (.int 0))) (xcons (xop opIx (xv 0) (xc (.int 1))) xnil))) (xc (.int 1))))) (xv 0) (xc .non))))))
def r_w_number : List D → Option R := runF 1 2 b_w_number
def b_w_inside_1 : MS := (xifs (xtor (xtest (xop opIs (xv 3) (xc .non))) (xtor (xtru (xcall r_w_is_less (xcons (xv 3) (xcons (xop opIx (xv 0) (xc (.int 0))) xnil)))) (xtru (xcall r_w_is_less (xcons (xop opIx (xv 0) (xc (.int 1))) (xcons (xv 3) xnil)))))) (xret (xc .non)) xnext)
def b_w_inside : MS := (xseq (xset 2 (xlc (xseqI (xv 1)) (tgn 3) xtyes (xcall r_w_number (xcons (xv 3) xnil)) [3]))
  (xseq (xfor (xseqI (xv 2)) (tgn 3) b_w_inside_1)
  (xret (xmv 2))))
def r_w_inside : List D → Option R := runF 2 4 b_w_inside
def b_w_low : MS := (xseq (xset 2 (xop opMul (xcall r_w_divisor (xcons (xv 0) (xcons (xv 1) xnil))) (xif (xtest (xop opGt (xv 1) (xc (.int 0)))) (xc (.int 1)) (xop opSub (xc (.int 0)) (xc (.int 1))))))
  (xret (xtup (xcons (xop opFdiv (xv 0) (xv 2)) (xcons (xop opFdiv (xv 1) (xv 2)) xnil)))))
def r_w_low : List D → Option R := runF 2 3 b_w_low
def b_w_minus : MS := (xret (xcall r_w_low (xcons (xop opSub (xop opMul (xop opIx (xv 0) (xc (.int 0))) (xop opIx (xv 1) (xc (.int 1)))) (xop opMul (xop opIx (xv 1) (xc (.int 0))) (xop opIx (xv 0) (xc (.int 1))))) (xcons (xop opMul (xop opIx (xv 0) (xc (.int 1))) (xop opIx (xv 1) (xc (.int 1)))) xnil))))
def r_w_minus : List D → Option R := runF 2 2 b_w_minus
def b_w_power_1 : MS := (xset 2 (xop opMul (xv 2) (xv 0)))
def b_w_power : MS := (xseq (xset 2 (xc (.int 1)))
  (xseq (xfor (xrange1 (xcons (xv 1) xnil)) (tgn 3) b_w_power_1)
  (xret (xmv 2))))
def r_w_power : List D → Option R := runF 2 4 b_w_power
def b_w_raised : MS := (xret (xcall r_w_low (xcons (xcall r_w_power (xcons (xop opIx (xv 0) (xc (.int 0))) (xcons (xv 1) xnil))) (xcons (xcall r_w_power (xcons (xop opIx (xv 0) (xc (.int 1))) (xcons (xv 1) xnil))) xnil))))
def r_w_raised : List D → Option R := runF 2 2 b_w_raised
def b_w_behind : MS := (xseq (xifs (xtnot (xtru (xcall r_w_is_less (xcons (xv 0) (xcons (xv 1) xnil))))) (xret (xtup (xcons (xc (.int 0)) (xcons (xc (.int 1)) xnil)))) xnext)
  (xret (xcall r_w_raised (xcons (xcall r_w_minus (xcons (xv 1) (xcons (xv 0) xnil))) (xcons (xv 2) xnil)))))
def r_w_behind : List D → Option R := runF 3 3 b_w_behind
def b_w_plus : MS := (xret (xcall r_w_low (xcons (xop opAddB (xop opMul (xop opIx (xv 0) (xc (.int 0))) (xop opIx (xv 1) (xc (.int 1)))) (xop opMul (xop opIx (xv 1) (xc (.int 0))) (xop opIx (xv 0) (xc (.int 1))))) (xcons (xop opMul (xop opIx (xv 0) (xc (.int 1))) (xop opIx (xv 1) (xc (.int 1)))) xnil))))
def r_w_plus : List D → Option R := runF 2 2 b_w_plus
def b_w_sum_1 : MS := (xset 1 (xcall r_w_plus (xcons (xv 1) (xcons (xv 2) xnil))))
def b_w_sum : MS := (xseq (xset 1 (xtup (xcons (xc (.int 0)) (xcons (xc (.int 1)) xnil))))
  (xseq (xfor (xseqI (xv 0)) (tgn 2) b_w_sum_1)
  (xret (xmv 1))))
def r_w_sum : List D → Option R := runF 1 3 b_w_sum
def b_w_times : MS := (xret (xcall r_w_low (xcons (xop opMul (xop opIx (xv 0) (xc (.int 0))) (xop opIx (xv 1) (xc (.int 0)))) (xcons (xop opMul (xop opIx (xv 0) (xc (.int 1))) (xop opIx (xv 1) (xc (.int 1)))) xnil))))
def r_w_times : List D → Option R := runF 2 2 b_w_times
def b_w_of_kink_1 : MS := (xseq (xset 7 (xcall r_w_minus (xcons (xcall r_w_behind (xcons (xv 1) (xcons (xv 5) (xcons (xop opAddB (xv 2) (xc (.int 1))) xnil)))) (xcons (xcall r_w_behind (xcons (xv 1) (xcons (xv 4) (xcons (xop opAddB (xv 2) (xc (.int 1))) xnil)))) xnil))))
  (xapp 3 (xcall r_w_times (xcons (xv 6) (xcons (xcall r_w_times (xcons (xv 7) (xcons (xtup (xcons (xc (.int 1)) (xcons (xop opAddB (xv 2) (xc (.int 1))) xnil))) xnil))) xnil)))))
def b_w_of_kink : MS := (xseq (xset 3 (xlc (xseqI (xop opIx (xv 0) (xc (.int 2)))) (tgt [(tgn 8), (tgn 9)]) xtyes (xcall r_w_times (xcons (xv 9) (xcons (xcall r_w_behind (xcons (xv 1) (xcons (xv 8) (xcons (xv 2) xnil)))) xnil))) [8, 9]))
  (xseq (xfor (xseqI (xop opIx (xv 0) (xc (.int 3)))) (tgt [(tgn 4), (tgn 5), (tgn 6)]) b_w_of_kink_1)
  (xret (xcall r_w_sum (xcons (xv 3) xnil)))))
def r_w_of_kink : List D → Option R := runF 3 10 b_w_of_kink
def b_w_of_power_1 : MS := (xseq (xset 6 (xcall r_w_minus (xcons (xcall r_w_raised (xcons (xv 4) (xcons (xop opAddB (xv 1) (xc (.int 1))) xnil))) (xcons (xcall r_w_raised (xcons (xv 3) (xcons (xop opAddB (xv 1) (xc (.int 1))) xnil))) xnil))))
  (xapp 2 (xcall r_w_times (xcons (xv 5) (xcons (xcall r_w_times (xcons (xv 6) (xcons (xtup (xcons (xc (.int 1)) (xcons (xop opAddB (xv 1) (xc (.int 1))) xnil))) xnil))) xnil)))))
def b_w_of_power : MS := (xseq (xset 2 (xlc (xseqI (xop opIx (xv 0) (xc (.int 2)))) (tgt [(tgn 7), (tgn 8)]) xtyes (xcall r_w_times (xcons (xv 8) (xcons (xcall r_w_raised (xcons (xv 7) (xcons (xv 1) xnil))) xnil))) [7, 8]))
  (xseq (xfor (xseqI (xop opIx (xv 0) (xc (.int 3)))) (tgt [(tgn 3), (tgn 4), (tgn 5)]) b_w_of_power_1)
  (xret (xcall r_w_sum (xcons (xv 2) xnil)))))
def r_w_of_power : List D → Option R := runF 2 9 b_w_of_power
def b_w_no_right_1 : MS := (xseq (xset 9 (xif (xtru (xcall r_w_is_less (xcons (xv 6) (xcons (xop opIx (xv 3) (xc (.int 0))) xnil)))) (xop opIx (xv 3) (xc (.int 0))) (xv 6)))
  (xseq (xset 10 (xif (xtru (xcall r_w_is_less (xcons (xv 7) (xcons (xop opIx (xv 3) (xc (.int 1))) xnil)))) (xv 7) (xop opIx (xv 3) (xc (.int 1)))))
  (xifs (xtru (xcall r_w_is_less (xcons (xv 9) (xcons (xv 10) xnil)))) (xapp 5 (xcall r_w_times (xcons (xv 8) (xcons (xcall r_w_minus (xcons (xv 10) (xcons (xv 9) xnil))) xnil)))) xnext)))
def b_w_no_right : MS := (xseq (xifs (xtor (xtnot (xtru (xcb (cbIsiU 0) (xcons (xv 2) (xcons (xc (.ty "tuple")) xnil))))) (xtor (xtest (xop opLt (xcb cbLen (xcons (xv 2) xnil)) (xc (.int 2)))) (xtnot (xtru (xcb (cbIsiU 0) (xcons (xop opIx (xv 2) (xc (.int 0))) (xcons (xc (.ty "str")) xnil))))))) (xret (xc (.bl false))) xnext)
  (xseq (xifs (xtand (xtest (xop opEq (xop opIx (xv 2) (xc (.int 0))) (xc (.str "power")))) (xtest (xop opEq (xcb cbLen (xcons (xv 2) xnil)) (xc (.int 3))))) (xseq (xifs (xtest (xop opNe (xlc (xseqI (xsl slB (xv 2) (xpart (xc (.int 1))) xnop)) (tgn 11) (xtor (xtru (xcb (cbIsiU 0) (xcons (xv 11) (xcons (xc (.ty "bool")) xnil)))) (xtnot (xtru (xcb (cbIsiU 0) (xcons (xv 11) (xcons (xc (.ty "int")) xnil)))))) (xc (.int 1)) [11]) (xlst xnil))) (xret (xc (.bl false))) xnext)
  (xseq (xifs (xtor (xtnot (xtest (xchain opLe opLt (xc (.int 0)) (xop opIx (xv 2) (xc (.int 1))) (xv 1)))) (xtest (xop (opInB true) (xop opIx (xv 2) (xc (.int 2))) (xtup (xcons (xc (.int 1)) (xcons (xop opSub (xc (.int 0)) (xc (.int 1))) xnil)))))) (xret (xc (.bl false))) xnext)
  (xret (xop opLt (xop opMul (xop opIx (xv 2) (xc (.int 2))) (xop opIx (xcall r_w_of_power (xcons (xv 0) (xcons (xop opIx (xv 2) (xc (.int 1))) xnil))) (xc (.int 0)))) (xc (.int 0)))))) xnext)
  (xseq (xset 3 (xcall r_w_inside (xcons (xv 0) (xcons (xsl slB (xv 2) (xpart (xc (.int 1))) xnop) xnil))))
  (xseq (xifs (xtest (xop opIs (xv 3) (xc .non))) (xret (xc (.bl false))) xnext)
  (xseq (xifs (xtand (xtest (xop opEq (xop opIx (xv 2) (xc (.int 0))) (xc (.str "kink")))) (xtand (xtest (xop opEq (xcb cbLen (xcons (xv 2) xnil)) (xc (.int 2)))) (xtest (xop opGt (xv 1) (xc (.int 0)))))) (xret (xop opLt (xop opIx (xcall r_w_of_kink (xcons (xv 0) (xcons (xop opIx (xv 3) (xc (.int 0))) (xcons (xop opSub (xv 1) (xc (.int 1))) xnil)))) (xc (.int 0))) (xc (.int 0)))) xnext)
  (xseq (xifs (xtand (xtest (xop opEq (xop opIx (xv 2) (xc (.int 0))) (xc (.str "at")))) (xtand (xtest (xop opEq (xcb cbLen (xcons (xv 2) xnil)) (xc (.int 2)))) (xtest (xop opEq (xv 1) (xc (.int 0)))))) (xret (xop opLt (xop opIx (xcall r_w_sum (xcons (xlc (xseqI (xop opIx (xv 0) (xc (.int 2)))) (tgt [(tgn 12), (tgn 13)]) (xtest (xop opEq (xv 12) (xop opIx (xv 3) (xc (.int 0))))) (xv 13) [12, 13]) xnil)) (xc (.int 0))) (xc (.int 0)))) xnext)
  (xseq (xifs (xtor (xtest (xop opNe (xop opIx (xv 2) (xc (.int 0))) (xc (.str "over")))) (xtor (xtest (xop opNe (xcb cbLen (xcons (xv 2) xnil)) (xc (.int 3)))) (xtor (xtest (xop opGt (xv 1) (xc (.int 0)))) (xtnot (xtru (xcall r_w_is_less (xcons (xop opIx (xv 3) (xc (.int 0))) (xcons (xop opIx (xv 3) (xc (.int 1))) xnil)))))))) (xret (xc (.bl false))) xnext)
  (xseq (xset 4 (xlc (xseqI (xop opIx (xv 0) (xc (.int 2)))) (tgn 14) (xtand (xtru (xcall r_w_is_less (xcons (xop opIx (xv 3) (xc (.int 0))) (xcons (xop opIx (xv 14) (xc (.int 0))) xnil)))) (xtru (xcall r_w_is_less (xcons (xop opIx (xv 14) (xc (.int 0))) (xcons (xop opIx (xv 3) (xc (.int 1))) xnil))))) (xv 14) [14]))
  (xseq (xset 5 (xlc (xseqI (xv 4)) (tgt [(tgn 12), (tgn 13)]) xtyes (xv 13) [12, 13]))
  (xseq (xfor (xseqI (xop opIx (xv 0) (xc (.int 3)))) (tgt [(tgn 6), (tgn 7), (tgn 8)]) b_w_no_right_1)
  (xret (xop opLt (xop opIx (xcall r_w_sum (xcons (xv 5) xnil)) (xc (.int 0))) (xc (.int 0))))))))))))))
def r_w_no_right : List D → Option R := runF 3 15 b_w_no_right
def b_w_factor : MS := (xseq (xset 2 (xop opAddB (xc (.int 1)) (xcallB r_w_choose 0 (xcons (xv 1) xnil))))
  (xret (xcall r_w_low (xcons (xif (xtest (xop opEq (xcallB r_w_choose 0 (xcons (xc (.int 2)) xnil)) (xc (.int 0)))) (xv 2) (xop opSub (xc (.int 0)) (xv 2))) (xcons (xcallB r_w_one_of 0 (xcons (xlst (xcons (xc (.int 1)) (xcons (xc (.int 1)) (xcons (xc (.int 2)) (xcons (xc (.int 3)) xnil))))) xnil)) xnil)))))
def r_w_factor : Mob → List D → Option (R × Mob) := runB 2 3 b_w_factor
def b_w_order_1 : MS := (xseq (xset 3 (xcb cbLen (xcons (xby 1 (xlcv 1 (tgn 4) (xtru (xcall r_w_is_less (xcons (xv 4) (xcons (xv 2) xnil)))) (xc (.int 1)) [4]) (xlc (xseqI (xv 1)) (tgn 4) (xtru (xcall r_w_is_less (xcons (xv 4) (xcons (xv 2) xnil)))) (xc (.int 1)) [4])) xnil)))
  (xifs (xtest (xop opNe (xby 1 (xslv 1 (xpart (xv 3)) (xpart (xop opAddB (xv 3) (xc (.int 1))))) (xsl slB (xv 1) (xpart (xv 3)) (xpart (xop opAddB (xv 3) (xc (.int 1)))))) (xlst (xcons (xv 2) xnil)))) (xdrop (xmut 1 muIns (xcons (xv 3) (xcons (xv 2) xnil)))) xnext))
def b_w_order : MS := (xseq (xset 1 (xlst xnil))
  (xseq (xfor (xseqI (xv 0)) (tgn 2) b_w_order_1)
  (xret (xmv 1))))
def r_w_order : List D → Option R := runF 1 5 b_w_order
def b_w_spot : MS := (xseq (xset 3 (xcallB r_w_one_of 0 (xcons (xlst (xcons (xc (.int 1)) (xcons (xc (.int 2)) (xcons (xc (.int 2)) (xcons (xc (.int 3)) (xcons (xc (.int 4)) xnil)))))) xnil)))
  (xseq (xset 4 (xcall r_w_low (xcons (xcallB r_w_choose 0 (xcons (xop opAddB (xv 3) (xc (.int 1))) xnil)) (xcons (xv 3) xnil))))
  (xret (xcall r_w_plus (xcons (xv 1) (xcons (xcall r_w_times (xcons (xv 4) (xcons (xcall r_w_minus (xcons (xv 2) (xcons (xv 1) xnil))) xnil))) xnil))))))
def r_w_spot : Mob → List D → Option (R × Mob) := runB 3 5 b_w_spot
def b_w_stretch : MS := (xseq (xset 1 (xcallB r_w_one_of 0 (xcons (xlst (xcons (xtup (xcons (xc (.int 0)) (xcons (xc (.int 1)) xnil))) (xcons (xtup (xcons (xc (.int 0)) (xcons (xc (.int 1)) xnil))) (xcons (xtup (xcons (xop opSub (xc (.int 0)) (xc (.int 1))) (xcons (xc (.int 1)) xnil))) (xcons (xtup (xcons (xc (.int 1)) (xcons (xc (.int 2)) xnil))) (xcons (xtup (xcons (xc (.int 2)) (xcons (xc (.int 1)) xnil))) xnil)))))) xnil)))
  (xret (xtup (xcons (xv 1) (xcons (xcall r_w_plus (xcons (xv 1) (xcons (xcallB r_w_one_of 0 (xcons (xlst (xcons (xtup (xcons (xc (.int 1)) (xcons (xc (.int 1)) xnil))) (xcons (xtup (xcons (xc (.int 1)) (xcons (xc (.int 1)) xnil))) (xcons (xtup (xcons (xc (.int 2)) (xcons (xc (.int 1)) xnil))) (xcons (xtup (xcons (xc (.int 3)) (xcons (xc (.int 2)) xnil))) xnil))))) xnil)) xnil))) xnil)))))
def r_w_stretch : Mob → List D → Option (R × Mob) := runB 1 2 b_w_stretch
def b_w_rule_1 : MS := (xseq (xset 8 (xcall r_w_order (xcons (xlst (xcons (xcallB r_w_spot 0 (xcons (xv 3) (xcons (xv 4) xnil))) (xcons (xcallB r_w_spot 0 (xcons (xv 3) (xcons (xv 4) xnil))) xnil))) xnil)))
  (xifs (xtest (xop opEq (xcb cbLen (xcons (xv 8) xnil)) (xc (.int 2)))) (xapp 6 (xtup (xcons (xop opIx (xv 8) (xc (.int 0))) (xcons (xop opIx (xv 8) (xc (.int 1))) (xcons (xcallB r_w_factor 0 (xcons (xc (.int 3)) xnil)) xnil))))) xnext))
def b_w_rule : MS := (xseq (xasg (xcallB r_w_stretch 0 xnil) (tgt [(tgn 3), (tgn 4)]))
  (xseq (xset 5 (xlc (xrange1 (xcons (xcallB r_w_choose 0 (xcons (xop opAddB (xv 1) (xc (.int 1))) xnil)) xnil)) (tgn 7) xtyes (xtup (xcons (xcallB r_w_spot 0 (xcons (xv 3) (xcons (xv 4) xnil))) (xcons (xcallB r_w_factor 0 (xcons (xc (.int 4)) xnil)) xnil))) [7]))
  (xseq (xset 6 (xlst xnil))
  (xseq (xfor (xrange1 (xcons (xcallB r_w_choose 0 (xcons (xop opAddB (xv 2) (xc (.int 1))) xnil)) xnil)) (tgn 7) b_w_rule_1)
  (xret (xtup (xcons (xv 3) (xcons (xv 4) (xcons (xv 5) (xcons (xv 6) xnil))))))))))
def r_w_rule : Mob → List D → Option (R × Mob) := runB 3 9 b_w_rule
def b_w_seed : MS := (xseq (xset 2 (xop opAddB (xop opMul (xc (.int 8837)) (xv 1)) (xc (.int 71))))
  (xseq (xifs (xtest (xop opLt (xv 1) (xcb cbLen (xcons (xv 0) xnil)))) (xset 2 (xcb cbAbs (xcons (xop opIx (xv 0) (xv 1)) xnil))) (xifs (xtest (xop opGt (xcb cbLen (xcons (xv 0) xnil)) (xc (.int 0)))) (xset 2 (xop opAddB (xv 2) (xop opMul (xop opMod (xcb cbInt (xcons (xcb cbAbs (xcons (xop opIx (xv 0) (xop opMod (xcb cbInt (xcons (xv 1) xnil)) (xcb cbLen (xcons (xv 0) xnil)))) xnil)) xnil)) (xc (.int 2147483629))) (xc (.int 46021))))) xnext))
  (xseq (xset 3 (xif (xtest (xop opGe (xv 2) (xop opPow (xc (.int 10)) (xc (.int 18))))) (xv 2) (xc (.int 0))))
  (xret (xlst (xcons (xv 3) (xcons (xop opAddB (xop opMod (xcb cbInt (xcons (xop opAddB (xop opMul (xop opMod (xcb cbInt (xcons (xv 2) xnil)) (xc (.int 2147483629))) (xc (.int 48271))) (xop opMul (xc (.int 44017)) (xv 1))) xnil)) (xc (.int 2147483629))) (xc (.int 1))) xnil)))))))
def r_w_seed : List D → Option R := runF 2 4 b_w_seed
def b_is_power : MS := (xseq (xifs (xtor (xtest (xop opNe (xcb cbLen (xcons (xv 1) xnil)) (xc (.int 3)))) (xtor (xtnot (xtru (xcall r_is_integer (xcons (xop opIx (xv 1) (xc (.int 1))) xnil)))) (xtnot (xtru (xcall r_is_integer (xcons (xop opIx (xv 1) (xc (.int 2))) xnil)))))) (xret (xc (.bl false))) xnext)
  (xret (xvand (xchain opLe opLt (xc (.int 0)) (xop opIx (xv 1) (xc (.int 1))) (xv 0)) (xop (opInB false) (xop opIx (xv 1) (xc (.int 2))) (xtup (xcons (xc (.int 1)) (xcons (xun unNeg (xc (.int 1))) xnil)))))))
def r_is_power : List D → Option R := runF 2 2 b_is_power
def b_is_within : MS := (xseq (xifs (xtnot (xtru (xcall r_is_value (xcons (xv 1) xnil)))) (xret (xc (.bl false))) xnext)
  (xret (xvand (xvnot (xcall r_is_less (xcons (xcall r_value_of (xcons (xv 1) xnil)) (xcons (xfld 0 0 (xv 0)) xnil)))) (xvnot (xcall r_is_less (xcons (xfld 0 1 (xv 0)) (xcons (xcall r_value_of (xcons (xv 1) xnil)) xnil)))))))
def r_is_within : List D → Option R := runF 2 2 b_is_within
def b_quotient : MS := (xret (xcall r_lowest (xcons (xop opMul (xop opIx (xv 0) (xc (.int 0))) (xop opIx (xv 1) (xc (.int 1)))) (xcons (xop opMul (xop opIx (xv 0) (xc (.int 1))) (xop opIx (xv 1) (xc (.int 0)))) xnil))))
def r_quotient : List D → Option R := runF 2 2 b_quotient
def b_area_powers : MS := (xret (xlst (xcons (xc c_NOUGHT) (xstar (xlc (xenumA (xcons (xv 0) xnil)) (tgt [(tgn 1), (tgn 2)]) xtyes (xcall r_quotient (xcons (xv 2) (xcons (xtup (xcons (xop opAddB (xv 1) (xc (.int 1))) (xcons (xc (.int 1)) xnil))) xnil))) [1, 2]) xnil))))
def r_area_powers : List D → Option R := runF 1 3 b_area_powers
def b_less_by : MS := (xret (xcall r_lowest (xcons (xop opSub (xop opMul (xop opIx (xv 0) (xc (.int 0))) (xop opIx (xv 1) (xc (.int 1)))) (xop opMul (xop opIx (xv 1) (xc (.int 0))) (xop opIx (xv 0) (xc (.int 1))))) (xcons (xop opMul (xop opIx (xv 0) (xc (.int 1))) (xop opIx (xv 1) (xc (.int 1)))) xnil))))
def r_less_by : List D → Option R := runF 2 2 b_less_by
def b_multiplied : MS := (xret (xcall r_lowest (xcons (xop opMul (xop opIx (xv 0) (xc (.int 0))) (xop opIx (xv 1) (xc (.int 0)))) (xcons (xop opMul (xop opIx (xv 0) (xc (.int 1))) (xop opIx (xv 1) (xc (.int 1)))) xnil))))
def r_multiplied : List D → Option R := runF 2 2 b_multiplied
def b_value_at_1 : MS := (xset 2 (xcall r_added (xcons (xcall r_multiplied (xcons (xv 2) (xcons (xv 1) xnil))) (xcons (xv 3) xnil))))
def b_value_at : MS := (xseq (xset 2 (xc c_NOUGHT))
  (xseq (xfor (xseqI (xrev (xv 0) (xun unNeg (xc (.int 1))))) (tgn 3) b_value_at_1)
  (xret (xmv 2))))
def r_value_at : List D → Option R := runF 2 4 b_value_at
def b_told_1 : MS := (xapp 4 (xcall r_multiplied (xcons (xv 7) (xcons (xcall r_less_by (xcons (xcall r_value_at (xcons (xv 3) (xcons (xv 6) xnil))) (xcons (xcall r_value_at (xcons (xv 3) (xcons (xv 5) xnil))) xnil))) xnil))))
def b_told : MS := (xseq (xset 2 (xlc (xseqI (xv 1)) (tgn 8) xtyes (xcall r_value_of (xcons (xv 8) xnil)) [8]))
  (xseq (xset 3 (xcall r_area_powers (xcons (xv 2) xnil)))
  (xseq (xset 4 (xlc (xseqI (xfld 0 2 (xv 0))) (tgt [(tgn 9), (tgn 10)]) xtyes (xcall r_multiplied (xcons (xv 10) (xcons (xcall r_value_at (xcons (xv 2) (xcons (xv 9) xnil))) xnil))) [9, 10]))
  (xseq (xfor (xseqI (xfld 0 3 (xv 0))) (tgt [(tgn 5), (tgn 6), (tgn 7)]) b_told_1)
  (xret (xcall r_summed (xcons (xv 4) xnil)))))))
def r_told : List D → Option R := runF 2 11 b_told
def b_told_between_1 : MS := (xseq (xset 7 (xif (xtru (xcall r_is_less (xcons (xv 4) (xcons (xv 1) xnil)))) (xv 1) (xv 4)))
  (xseq (xset 8 (xif (xtru (xcall r_is_less (xcons (xv 5) (xcons (xv 2) xnil)))) (xv 5) (xv 2)))
  (xifs (xtru (xcall r_is_less (xcons (xv 7) (xcons (xv 8) xnil)))) (xapp 3 (xcall r_multiplied (xcons (xv 6) (xcons (xcall r_less_by (xcons (xv 8) (xcons (xv 7) xnil))) xnil)))) xnext)))
def b_told_between : MS := (xseq (xset 3 (xlc (xseqI (xfld 0 2 (xv 0))) (tgt [(tgn 9), (tgn 10)]) (xtand (xtru (xcall r_is_less (xcons (xv 1) (xcons (xv 9) xnil)))) (xtru (xcall r_is_less (xcons (xv 9) (xcons (xv 2) xnil))))) (xv 10) [9, 10]))
  (xseq (xfor (xseqI (xfld 0 3 (xv 0))) (tgt [(tgn 4), (tgn 5), (tgn 6)]) b_told_between_1)
  (xret (xcall r_summed (xcons (xv 3) xnil)))))
def r_told_between : List D → Option R := runF 3 11 b_told_between
def b_powered_1 : MS := (xset 2 (xcall r_multiplied (xcons (xv 2) (xcons (xv 0) xnil))))
def b_powered : MS := (xseq (xset 2 (xc c_ONE))
  (xseq (xfor (xrange1 (xcons (xv 1) xnil)) (tgn 3) b_powered_1)
  (xret (xmv 2))))
def r_powered : List D → Option R := runF 2 4 b_powered
def b_told_kink_1 : MS := (xifs (xtru (xcall r_is_less (xcons (xv 3) (xcons (xv 5) xnil)))) (xapp 4 (xcall r_multiplied (xcons (xv 6) (xcons (xcall r_powered (xcons (xcall r_less_by (xcons (xv 5) (xcons (xv 3) xnil))) (xcons (xv 2) xnil))) xnil)))) xnext)
def b_told_kink_2 : MS := (xifs (xtru (xcall r_is_less (xcons (xv 3) (xcons (xv 8) xnil)))) (xseq (xset 10 (xcall r_powered (xcons (xcall r_less_by (xcons (xv 8) (xcons (xv 3) xnil))) (xcons (xop opAddB (xv 2) (xc (.int 1))) xnil))))
  (xseq (xset 11 (xif (xtru (xcall r_is_less (xcons (xv 3) (xcons (xv 7) xnil)))) (xcall r_powered (xcons (xcall r_less_by (xcons (xv 7) (xcons (xv 3) xnil))) (xcons (xop opAddB (xv 2) (xc (.int 1))) xnil))) (xc c_NOUGHT)))
  (xapp 4 (xcall r_multiplied (xcons (xcall r_multiplied (xcons (xv 9) (xcons (xcall r_lowest (xcons (xc (.int 1)) (xcons (xop opAddB (xv 2) (xc (.int 1))) xnil))) xnil))) (xcons (xcall r_less_by (xcons (xv 10) (xcons (xv 11) xnil))) xnil)))))) xnext)
def b_told_kink : MS := (xseq (ypar 3 4 (ycons (xcall r_value_of (xcons (xv 1) xnil)) (ycons (xlst xnil) ynil)))
  (xseq (xfor (xseqI (xfld 0 2 (xv 0))) (tgt [(tgn 5), (tgn 6)]) b_told_kink_1)
  (xseq (xfor (xseqI (xfld 0 3 (xv 0))) (tgt [(tgn 7), (tgn 8), (tgn 9)]) b_told_kink_2)
  (xret (xcall r_summed (xcons (xv 4) xnil))))))
def r_told_kink : List D → Option R := runF 3 12 b_told_kink
def b_number_told : MS := (xseq (xifs (xtand (xtest (xop opEq (xop opIx (xv 2) (xc (.int 0))) (xc (.str "power")))) (xtru (xcall r_is_power (xcons (xv 1) (xcons (xv 2) xnil))))) (xret (xcall r_told (xcons (xv 0) (xcons (xlst (xstar (xlc (xrange1 (xcons (xop opIx (xv 2) (xc (.int 1))) xnil)) (tgn 5) xtyes (xc c_NOUGHT) [5]) (xcons (xop opIx (xv 2) (xc (.int 2))) xnil))) xnil)))) xnext)
  (xseq (xifs (xtand (xtest (xop opEq (xop opIx (xv 2) (xc (.int 0))) (xc (.str "kink")))) (xtand (xtest (xop opGt (xv 1) (xc (.int 0)))) (xtand (xtest (xop opEq (xcb cbLen (xcons (xv 2) xnil)) (xc (.int 2)))) (xtru (xcall r_is_within (xcons (xv 0) (xcons (xop opIx (xv 2) (xc (.int 1))) xnil))))))) (xret (xcall r_told_kink (xcons (xv 0) (xcons (xop opIx (xv 2) (xc (.int 1))) (xcons (xop opSub (xv 1) (xc (.int 1))) xnil))))) xnext)
  (xseq (xifs (xtand (xtest (xop opEq (xop opIx (xv 2) (xc (.int 0))) (xc (.str "at")))) (xtand (xtest (xop opEq (xv 1) (xc (.int 0)))) (xtand (xtest (xop opEq (xcb cbLen (xcons (xv 2) xnil)) (xc (.int 2)))) (xtru (xcall r_is_within (xcons (xv 0) (xcons (xop opIx (xv 2) (xc (.int 1))) xnil))))))) (xret (xcall r_summed (xcons (xlc (xseqI (xfld 0 2 (xv 0))) (tgt [(tgn 6), (tgn 7)]) (xtest (xop opEq (xv 6) (xcall r_value_of (xcons (xop opIx (xv 2) (xc (.int 1))) xnil)))) (xv 7) [6, 7]) xnil))) xnext)
  (xseq (xifs (xtor (xtest (xop opNe (xop opIx (xv 2) (xc (.int 0))) (xc (.str "over")))) (xtor (xtest (xop opGt (xv 1) (xc (.int 0)))) (xtor (xtest (xop opNe (xcb cbLen (xcons (xv 2) xnil)) (xc (.int 3)))) (xtnot (xtru (xcb cbAll (xcons (xlc (xseqI (xsl slB (xv 2) (xpart (xc (.int 1))) xnop)) (tgn 8) xtyes (xcall r_is_within (xcons (xv 0) (xcons (xv 8) xnil))) [8]) xnil))))))) (xret (xc .non)) xnext)
  (xseq (ypar 3 4 (ycons (xcall r_value_of (xcons (xop opIx (xv 2) (xc (.int 1))) xnil)) (ycons (xcall r_value_of (xcons (xop opIx (xv 2) (xc (.int 2))) xnil)) ynil)))
  (xret (xif (xtru (xcall r_is_less (xcons (xv 3) (xcons (xv 4) xnil)))) (xcall r_told_between (xcons (xv 0) (xcons (xv 3) (xcons (xv 4) xnil)))) (xc .non))))))))
def r_number_told : List D → Option R := runF 3 9 b_number_told
def b_refuting_holds : MS := (xseq (xifs (xtor (xtnot (xtru (xcb (cbIsiU 0) (xcons (xv 2) (xcons (xc (.ty "tuple")) xnil))))) (xtor (xtest (xop opEq (xcb cbLen (xcons (xv 2) xnil)) (xc (.int 0)))) (xtnot (xtru (xcb (cbIsiU 0) (xcons (xop opIx (xv 2) (xc (.int 0))) (xcons (xc (.ty "str")) xnil))))))) (xret (xc (.bl false))) xnext)
  (xseq (xset 3 (xcall r_number_told (xcons (xv 0) (xcons (xv 1) (xcons (xv 2) xnil)))))
  (xret (xvand (xop opIsNot (xv 3) (xc .non)) (xop opLt (xop opIx (xv 3) (xc (.int 0))) (xc (.int 0)))))))
def r_refuting_holds : List D → Option R := runF 3 4 b_refuting_holds
def b_law_1 : MS := (xset 7 (xop opAddB (xv 7) (xlst (xcons (xtup (xcons (xv 8) (xcons (xcallB r_w_anything 2 (xcons (xc (.int 4)) xnil)) xnil))) (xcons (xtup (xcons (xv 8) (xcons (xcallB r_w_anything 2 (xcons (xc (.int 3)) xnil)) (xcons (xcallB r_w_anything 2 (xcons (xc (.int 3)) xnil)) xnil)))) xnil)))))
def b_law_2 : MS := (xifs (xtest (xop opNe (xcall r_refuting_holds (xcons (xv 6) (xcons (xv 5) (xcons (xv 9) xnil)))) (xcall r_w_no_right (xcons (xv 4) (xcons (xv 5) (xcons (xv 9) xnil)))))) (xret (xc (.bl false))) xnext)
def b_law_3 : MS := (xseq (ypar 4 5 (ycons (xcallB r_w_rule 2 (xcons (xc (.int 4)) (xcons (xc (.int 2)) xnil))) (ycons (xcallB r_w_choose 2 (xcons (xc (.int 4)) xnil)) ynil)))
  (xseq (xset 6 (xcall r_w_made (xcons (xv 4) xnil)))
  (xseq (xset 7 (xlst (xcons (xc .non) (xcons (xc (.bl true)) (xcons (xtup xnil) (xcons (xlst xnil) (xcons (xc (.str "kink")) (xcons (xtup (xcons (xc (.str "kink")) xnil)) (xcons (xtup (xcons (xc (.str "power")) (xcons (xc (.int 0)) xnil))) (xcons (xtup (xcons (xc (.str "power")) (xcons (xc (.int 0)) (xcons (xc (.bl true)) xnil)))) (xcons (xtup (xcons (xc (.str "power")) (xcons (xc (.bl false)) (xcons (xc (.int 1)) xnil)))) xnil)))))))))))
  (xseq (xset 7 (xop opAddB (xv 7) (xlst (xcons (xtup (xcons (xc (.str "power")) (xcons (xc (.int 0)) (xcons (xtup (xcons (xc (.int 1)) (xcons (xc (.int 1)) xnil))) xnil)))) (xcons (xtup (xcons (xc (.str "power")) (xcons (xc (.int 60)) (xcons (xc (.int 1)) xnil)))) (xcons (xtup (xcons (xc (.str "power")) (xcons (xop opSub (xc (.int 0)) (xc (.int 1))) (xcons (xc (.int 1)) xnil)))) xnil))))))
  (xseq (xset 7 (xop opAddB (xv 7) (xlst (xcons (xlst (xcons (xc (.str "kink")) (xcons (xc (.int 0)) xnil))) (xcons (xtup (xcons (xc (.str "kink")) (xcons (xc (.bl true)) xnil))) xnil)))))
  (xseq (xset 7 (xop opAddB (xv 7) (xlst (xcons (xtup (xcons (xc (.str "kink")) (xcons (xtup (xcons (xc (.int 2)) (xcons (xc (.int 4)) xnil))) xnil))) (xcons (xtup (xcons (xc (.str "kink")) (xcons (xc (.int 0)) (xcons (xc (.int 0)) xnil)))) (xcons (xtup (xcons (xc (.str "over")) (xcons (xc (.int 0)) (xcons (xc (.int 0)) xnil)))) (xcons (xtup (xcons (xc (.str "over")) (xcons (xc (.int 1)) (xcons (xc (.int 0)) xnil)))) (xcons (xtup (xcons (xc (.str "at")) (xcons (xc .non) xnil))) (xcons (xtup (xcons (xc (.str "at")) (xcons (xc (.str "0")) xnil))) xnil)))))))))
  (xseq (xset 7 (xop opAddB (xv 7) (xlst (xcons (xcallB r_w_anything 2 (xcons (xc (.int 5)) xnil)) (xcons (xtup (xcons (xc (.str "power")) (xcons (xc (.int 0)) (xcons (xc (.int 1)) (xcons (xc (.int 1)) xnil))))) (xcons (xtup (xcons (xlst xnil) (xcons (xc (.int 0)) xnil))) (xcons (xtup (xcons (xtup xnil) (xcons (xc (.int 0)) xnil))) (xcons (xtup (xcons (xc .non) (xcons (xc (.int 0)) xnil))) (xcons (xlst (xcons (xlst (xcons (xlst (xcons (xlst (xcons (xlst (xcons (xlst (xcons (xlst (xcons (xlst (xcons (xc (.int 0)) xnil)) xnil)) xnil)) xnil)) xnil)) xnil)) xnil)) xnil)) xnil)))))))))
  (xseq (xfor (xseqI (xtup (xcons (xc (.str "kink")) (xcons (xc (.str "at")) (xcons (xc (.str "over")) (xcons (xc (.str "power")) (xcons (xc (.str "x")) xnil))))))) (tgn 8) b_law_1)
  (xfor (xseqI (xv 7)) (tgn 9) b_law_2)))))))))
def b_law_4 : MS := (xseq (xset 2 (xcall r_w_seed (xcons (xv 0) (xcons (xv 1) xnil))))
  (xfor (xrange1 (xcons (xc (.int 4)) xnil)) (tgn 3) b_law_3))
def b_law : MS := (xseq (xfor (xrange1 (xcons (xcb cbMax2 (xcons (xc (.int 1)) (xcons (xcb cbMin2 (xcons (xc (.int 3)) (xcons (xcb cbLen (xcons (xv 0) xnil)) xnil))) xnil))) xnil)) (tgn 1) b_law_4)
  (xret (xc (.bl true))))
def r_law : List D → Option R := runF 1 10 b_law
end Bk
namespace Bk
open PySem L2 PyProof.Rows
def top (i : Nat) : Stmt := PySem.Challenge.pw_bendkinds_k27_any_values_as_no.main.body.getD i (.Pass ⟨0, 0, 0, 0⟩)
abbrev s_is_sequence : Stmt := top 12
abbrev s_is_less : Stmt := top 22
abbrev s_is_integer : Stmt := top 11
abbrev s_divisor : Stmt := top 13
abbrev s_is_pair : Stmt := top 15
abbrev s_is_value : Stmt := top 16
abbrev s_value_of : Stmt := top 17
abbrev s_is_between : Stmt := top 31
abbrev s_is_share : Stmt := top 33
abbrev s_is_weight : Stmt := top 32
abbrev s_ascending : Stmt := top 25
abbrev s_lowest : Stmt := top 14
abbrev s_added : Stmt := top 18
abbrev s_summed : Stmt := top 23
abbrev s_least_shares : Stmt := top 35
abbrev s_least_weights : Stmt := top 34
abbrev s_need_stretch : Stmt := top 30
abbrev s_Rule_init : Stmt := inClass (top 36) 0
abbrev s_w_choose : Stmt := top 50
abbrev s_w_one_of : Stmt := top 51
abbrev s_w_anything : Stmt := top 70
abbrev s_w_made : Stmt := top 66
abbrev s_w_is_less : Stmt := top 58
abbrev s_w_divisor : Stmt := top 53
abbrev s_w_number : Stmt := top 71
abbrev s_w_inside : Stmt := top 72
abbrev s_w_low : Stmt := top 54
abbrev s_w_minus : Stmt := top 56
abbrev s_w_power : Stmt := top 52
abbrev s_w_raised : Stmt := top 60
abbrev s_w_behind : Stmt := top 68
abbrev s_w_plus : Stmt := top 55
abbrev s_w_sum : Stmt := top 59
abbrev s_w_times : Stmt := top 57
abbrev s_w_of_kink : Stmt := top 69
abbrev s_w_of_power : Stmt := top 67
abbrev s_w_no_right : Stmt := top 73
abbrev s_w_factor : Stmt := top 62
abbrev s_w_order : Stmt := top 61
abbrev s_w_spot : Stmt := top 64
abbrev s_w_stretch : Stmt := top 63
abbrev s_w_rule : Stmt := top 65
abbrev s_w_seed : Stmt := top 49
abbrev s_is_power : Stmt := top 45
abbrev s_is_within : Stmt := top 43
abbrev s_quotient : Stmt := top 21
abbrev s_area_powers : Stmt := top 39
abbrev s_less_by : Stmt := top 19
abbrev s_multiplied : Stmt := top 20
abbrev s_value_at : Stmt := top 38
abbrev s_told : Stmt := top 40
abbrev s_told_between : Stmt := top 44
abbrev s_powered : Stmt := top 24
abbrev s_told_kink : Stmt := top 41
abbrev s_number_told : Stmt := top 46
abbrev s_refuting_holds : Stmt := top 47
abbrev s_law : Stmt := top 74
abbrev nm_is_sequence : List PySem.Str := ["value"]
abbrev nm_is_less : List PySem.Str := ["one", "other"]
abbrev nm_is_integer : List PySem.Str := ["value"]
abbrev nm_divisor : List PySem.Str := ["one", "other"]
abbrev nm_is_pair : List PySem.Str := ["value", "one"]
abbrev nm_is_value : List PySem.Str := ["value"]
abbrev nm_value_of : List PySem.Str := ["value"]
abbrev nm_is_between : List PySem.Str := ["value", "low", "high"]
abbrev nm_is_share : List PySem.Str := ["value", "low", "high"]
abbrev nm_is_weight : List PySem.Str := ["value", "low", "high"]
abbrev nm_ascending : List PySem.Str := ["values", "common_here", "top", "low", "scaled_ones", "one", "at", "place"]
abbrev nm_lowest : List PySem.Str := ["top", "low", "common"]
abbrev nm_added : List PySem.Str := ["one", "other"]
abbrev nm_summed : List PySem.Str := ["values", "found", "one"]
abbrev nm_least_shares : List PySem.Str := ["shares", "parts", "cuts", "found", "start", "end", "some", "here", "share", "one", "first", "last", "part"]
abbrev nm_least_weights : List PySem.Str := ["weights", "pairs", "found", "point", "weight", "place", "pair"]
abbrev nm_need_stretch : List PySem.Str := ["low", "high"]
abbrev nm_Rule_init : List PySem.Str := ["self", "low", "high", "weights", "shares", "one"]
abbrev nm_w_choose : List PySem.Str := ["_law_box", "_law_many", "_law_digit", "_law_raw"]
abbrev nm_w_one_of : List PySem.Str := ["_law_box", "_law_some"]
abbrev nm_w_anything : List PySem.Str := ["_law_box", "_law_deep", "_law_some", "_law_found", "_law_turn"]
abbrev nm_w_made : List PySem.Str := ["_law_rule_told"]
abbrev nm_w_is_less : List PySem.Str := ["_law_one", "_law_other"]
abbrev nm_w_divisor : List PySem.Str := ["_law_one", "_law_other"]
abbrev nm_w_number : List PySem.Str := ["_law_value", "_law_one"]
abbrev nm_w_inside : List PySem.Str := ["_law_rule_told", "_law_some", "_law_found", "_law_one"]
abbrev nm_w_low : List PySem.Str := ["_law_top", "_law_below", "_law_by"]
abbrev nm_w_minus : List PySem.Str := ["_law_one", "_law_other"]
abbrev nm_w_power : List PySem.Str := ["_law_base", "_law_many", "_law_found", "_law_turn"]
abbrev nm_w_raised : List PySem.Str := ["_law_one", "_law_many"]
abbrev nm_w_behind : List PySem.Str := ["_law_place", "_law_spot_here", "_law_many"]
abbrev nm_w_plus : List PySem.Str := ["_law_one", "_law_other"]
abbrev nm_w_sum : List PySem.Str := ["_law_some", "_law_found", "_law_one"]
abbrev nm_w_times : List PySem.Str := ["_law_one", "_law_other"]
abbrev nm_w_of_kink : List PySem.Str := ["_law_rule_told", "_law_place", "_law_many", "_law_found", "_law_start", "_law_end", "_law_share", "_law_part", "_law_point", "_law_weight"]
abbrev nm_w_of_power : List PySem.Str := ["_law_rule_told", "_law_j", "_law_found", "_law_start", "_law_end", "_law_share", "_law_part", "_law_point", "_law_weight"]
abbrev nm_w_no_right : List PySem.Str := ["_law_rule_told", "_law_n", "_law_value", "_law_some", "_law_inner", "_law_found", "_law_start", "_law_end", "_law_share", "_law_low_here", "_law_high", "_law_one", "_law_point", "_law_weight", "_law_part"]
abbrev nm_w_factor : List PySem.Str := ["_law_box", "_law_high", "_law_top"]
abbrev nm_w_order : List PySem.Str := ["_law_some", "_law_found", "_law_one", "_law_at", "_law_other"]
abbrev nm_w_spot : List PySem.Str := ["_law_box", "_law_low_here", "_law_high", "_law_below", "_law_part"]
abbrev nm_w_stretch : List PySem.Str := ["_law_box", "_law_low_here"]
abbrev nm_w_rule : List PySem.Str := ["_law_box", "_law_many", "_law_parts", "_law_low_here", "_law_high", "_law_points", "_law_found", "_law_turn", "_law_some"]
abbrev nm_w_seed : List PySem.Str := ["_law_script", "_law_k", "_law_cell", "_law_great"]
abbrev nm_is_power : List PySem.Str := ["n", "value"]
abbrev nm_is_within : List PySem.Str := ["rule", "value"]
abbrev nm_quotient : List PySem.Str := ["one", "other"]
abbrev nm_area_powers : List PySem.Str := ["powers", "at", "one"]
abbrev nm_less_by : List PySem.Str := ["one", "other"]
abbrev nm_multiplied : List PySem.Str := ["one", "other"]
abbrev nm_value_at : List PySem.Str := ["powers", "place", "found", "one"]
abbrev nm_told : List PySem.Str := ["rule", "powers", "some", "whole", "parts", "start", "end", "share", "one", "point", "weight"]
abbrev nm_told_between : List PySem.Str := ["rule", "start", "end", "found", "first", "last", "share", "low", "high", "point", "weight"]
abbrev nm_powered : List PySem.Str := ["value", "many", "found", "turn"]
abbrev nm_told_kink : List PySem.Str := ["rule", "place", "power", "spot", "parts", "point", "weight", "start", "end", "share", "far", "near"]
abbrev nm_number_told : List PySem.Str := ["rule", "n", "value", "start", "end", "spot", "point", "weight", "one"]
abbrev nm_refuting_holds : List PySem.Str := ["rule", "n", "value", "found"]
abbrev nm_law : List PySem.Str := ["_law_script", "_law_k", "_law_box", "_law_turn", "_law_drawn", "_law_n", "_law_made_here", "_law_some", "_law_word", "_law_value"]
abbrev pm_is_sequence : List PySem.Str := ["value"]
abbrev pm_is_less : List PySem.Str := ["one", "other"]
abbrev pm_is_integer : List PySem.Str := ["value"]
abbrev pm_divisor : List PySem.Str := ["one", "other"]
abbrev pm_is_pair : List PySem.Str := ["value"]
abbrev pm_is_value : List PySem.Str := ["value"]
abbrev pm_value_of : List PySem.Str := ["value"]
abbrev pm_is_between : List PySem.Str := ["value", "low", "high"]
abbrev pm_is_share : List PySem.Str := ["value", "low", "high"]
abbrev pm_is_weight : List PySem.Str := ["value", "low", "high"]
abbrev pm_ascending : List PySem.Str := ["values"]
abbrev pm_lowest : List PySem.Str := ["top", "low"]
abbrev pm_added : List PySem.Str := ["one", "other"]
abbrev pm_summed : List PySem.Str := ["values"]
abbrev pm_least_shares : List PySem.Str := ["shares"]
abbrev pm_least_weights : List PySem.Str := ["weights"]
abbrev pm_need_stretch : List PySem.Str := ["low", "high"]
abbrev pm_Rule_init : List PySem.Str := ["self", "low", "high", "weights", "shares"]
abbrev pm_w_choose : List PySem.Str := ["_law_box", "_law_many"]
abbrev pm_w_one_of : List PySem.Str := ["_law_box", "_law_some"]
abbrev pm_w_anything : List PySem.Str := ["_law_box", "_law_deep"]
abbrev pm_w_made : List PySem.Str := ["_law_rule_told"]
abbrev pm_w_is_less : List PySem.Str := ["_law_one", "_law_other"]
abbrev pm_w_divisor : List PySem.Str := ["_law_one", "_law_other"]
abbrev pm_w_number : List PySem.Str := ["_law_value"]
abbrev pm_w_inside : List PySem.Str := ["_law_rule_told", "_law_some"]
abbrev pm_w_low : List PySem.Str := ["_law_top", "_law_below"]
abbrev pm_w_minus : List PySem.Str := ["_law_one", "_law_other"]
abbrev pm_w_power : List PySem.Str := ["_law_base", "_law_many"]
abbrev pm_w_raised : List PySem.Str := ["_law_one", "_law_many"]
abbrev pm_w_behind : List PySem.Str := ["_law_place", "_law_spot_here", "_law_many"]
abbrev pm_w_plus : List PySem.Str := ["_law_one", "_law_other"]
abbrev pm_w_sum : List PySem.Str := ["_law_some"]
abbrev pm_w_times : List PySem.Str := ["_law_one", "_law_other"]
abbrev pm_w_of_kink : List PySem.Str := ["_law_rule_told", "_law_place", "_law_many"]
abbrev pm_w_of_power : List PySem.Str := ["_law_rule_told", "_law_j"]
abbrev pm_w_no_right : List PySem.Str := ["_law_rule_told", "_law_n", "_law_value"]
abbrev pm_w_factor : List PySem.Str := ["_law_box", "_law_high"]
abbrev pm_w_order : List PySem.Str := ["_law_some"]
abbrev pm_w_spot : List PySem.Str := ["_law_box", "_law_low_here", "_law_high"]
abbrev pm_w_stretch : List PySem.Str := ["_law_box"]
abbrev pm_w_rule : List PySem.Str := ["_law_box", "_law_many", "_law_parts"]
abbrev pm_w_seed : List PySem.Str := ["_law_script", "_law_k"]
abbrev pm_is_power : List PySem.Str := ["n", "value"]
abbrev pm_is_within : List PySem.Str := ["rule", "value"]
abbrev pm_quotient : List PySem.Str := ["one", "other"]
abbrev pm_area_powers : List PySem.Str := ["powers"]
abbrev pm_less_by : List PySem.Str := ["one", "other"]
abbrev pm_multiplied : List PySem.Str := ["one", "other"]
abbrev pm_value_at : List PySem.Str := ["powers", "place"]
abbrev pm_told : List PySem.Str := ["rule", "powers"]
abbrev pm_told_between : List PySem.Str := ["rule", "start", "end"]
abbrev pm_powered : List PySem.Str := ["value", "many"]
abbrev pm_told_kink : List PySem.Str := ["rule", "place", "power"]
abbrev pm_number_told : List PySem.Str := ["rule", "n", "value"]
abbrev pm_refuting_holds : List PySem.Str := ["rule", "n", "value"]
abbrev pm_law : List PySem.Str := ["_law_script"]
structure Txt (K : PySem.W.Frag) (mg : PySem.Str → Option Value) where
  Rule : ClT K mg 0
  is_sequence : FnT K mg "is_sequence" s_is_sequence
  is_less : FnT K mg "is_less" s_is_less
  is_integer : FnT K mg "is_integer" s_is_integer
  divisor : FnT K mg "divisor" s_divisor
  is_pair : FnT K mg "is_pair" s_is_pair
  is_value : FnT K mg "is_value" s_is_value
  value_of : FnT K mg "value_of" s_value_of
  is_between : FnT K mg "is_between" s_is_between
  is_share : FnT K mg "is_share" s_is_share
  is_weight : FnT K mg "is_weight" s_is_weight
  ascending : FnT K mg "ascending" s_ascending
  lowest : FnT K mg "lowest" s_lowest
  added : FnT K mg "added" s_added
  summed : FnT K mg "summed" s_summed
  least_shares : FnT K mg "least_shares" s_least_shares
  least_weights : FnT K mg "least_weights" s_least_weights
  need_stretch : FnT K mg "need_stretch" s_need_stretch
  Rule_init : FnMD K Rule.C "__init__" "Rule.__init__" s_Rule_init [.tup [], .tup []]
  mk_Rule : Mk K Rule.C Rule_init.f
  w_choose : FnT K mg "_law_choose" s_w_choose
  w_one_of : FnT K mg "_law_one_of" s_w_one_of
  w_anything : FnT K mg "_law_anything" s_w_anything
  w_made : FnT K mg "_law_made" s_w_made
  w_is_less : FnT K mg "_law_is_less" s_w_is_less
  w_divisor : FnT K mg "_law_divisor" s_w_divisor
  w_number : FnT K mg "_law_number" s_w_number
  w_inside : FnT K mg "_law_inside" s_w_inside
  w_low : FnT K mg "_law_low" s_w_low
  w_minus : FnT K mg "_law_minus" s_w_minus
  w_power : FnT K mg "_law_power" s_w_power
  w_raised : FnT K mg "_law_raised" s_w_raised
  w_behind : FnT K mg "_law_behind" s_w_behind
  w_plus : FnT K mg "_law_plus" s_w_plus
  w_sum : FnT K mg "_law_sum" s_w_sum
  w_times : FnT K mg "_law_times" s_w_times
  w_of_kink : FnT K mg "_law_of_kink" s_w_of_kink
  w_of_power : FnT K mg "_law_of_power" s_w_of_power
  w_no_right : FnT K mg "_law_no_right" s_w_no_right
  w_factor : FnT K mg "_law_factor" s_w_factor
  w_order : FnT K mg "_law_order" s_w_order
  w_spot : FnT K mg "_law_spot" s_w_spot
  w_stretch : FnT K mg "_law_stretch" s_w_stretch
  w_rule : FnT K mg "_law_rule" s_w_rule
  w_seed : FnT K mg "_law_seed" s_w_seed
  is_power : FnT K mg "is_power" s_is_power
  is_within : FnT K mg "is_within" s_is_within
  quotient : FnT K mg "quotient" s_quotient
  area_powers : FnT K mg "area_powers" s_area_powers
  less_by : FnT K mg "less_by" s_less_by
  multiplied : FnT K mg "multiplied" s_multiplied
  value_at : FnT K mg "value_at" s_value_at
  told : FnT K mg "told" s_told
  told_between : FnT K mg "told_between" s_told_between
  powered : FnT K mg "powered" s_powered
  told_kink : FnT K mg "told_kink" s_told_kink
  number_told : FnT K mg "number_told" s_number_told
  refuting_holds : FnT K mg "refuting_holds" s_refuting_holds
  law : FnT K mg "law" s_law
  iu_Rule : IsU K Rule.C
  NOUGHT : CoT K mg "NOUGHT" c_NOUGHT
  ONE : CoT K mg "ONE" c_ONE
  abs : mg "abs" = none
  all : mg "all" = none
  bool : mg "bool" = none
  enumerate : mg "enumerate" = none
  int : mg "int" = none
  isinstance : mg "isinstance" = none
  len : mg "len" = none
  list : mg "list" = none
  max : mg "max" = none
  min : mg "min" = none
  range : mg "range" = none
  sorted : mg "sorted" = none
  str : mg "str" = none
  tuple : mg "tuple" = none
  zip : mg "zip" = none
section
variable {P : Program} {w : World} {K : PySem.W.Frag} {mg : PySem.Str → Option Value} {base : Heap}
theorem sc_is_sequence : FnScope nm_is_sequence pm_is_sequence (defScope s_is_sequence) := ⟨rfl, rfl, rfl, by decide +kernel, rfl, by decide +kernel, by decide +kernel⟩
theorem len1 {α : Type} {us : List α} (hl : us.length = 1) : ∃ a0, us = [a0] := match us, hl with | [a0], _ => ⟨a0, rfl⟩
theorem len2 {α : Type} {us : List α} (hl : us.length = 2) : ∃ a0 a1, us = [a0, a1] := match us, hl with | [a0, a1], _ => ⟨a0, a1, rfl⟩
theorem len3 {α : Type} {us : List α} (hl : us.length = 3) : ∃ a0 a1 a2, us = [a0, a1, a2] := match us, hl with | [a0, a1, a2], _ => ⟨a0, a1, a2, rfl⟩
theorem bi_is_sequence (T : Txt K mg) : Binds K T.is_sequence.fd pm_is_sequence [] := T.is_sequence.F.binds fun _ _ _ _ _ _ us hl => by obtain ⟨_, rfl⟩ := len1 hl; rfl
theorem ok_is_sequence (T : Txt K mg) : FnOk P w K mg base CX0 1 T.is_sequence.f T.is_sequence.fd pm_is_sequence (spF K r_is_sequence) := by
  have nd := sc_is_sequence.nd
  refine data_F T.is_sequence.F sc_is_sequence fun cdv A outer s H E hr => ?_
  refine ⟨_, (pss_one (ps_ret (pe_callB (kcr_isiS (K := K) rfl) (by rfl) T.isinstance (by decide +kernel) (pa_cons (pv 0) (pa_cons (pe_tup (pa_cons (pe_bltn (v := .ty "list") (u := .type "list") (by rfl) T.list (by decide +kernel) rfl) (pa_cons (pe_bltn (v := .ty "tuple") (u := .type "tuple") (by rfl) T.tuple (by decide +kernel) rfl) pa_nil))) pa_nil))))), ?_⟩
  exact ((sk_ret (gk_cb cd_isiS (ak_cons gk_var (ak_cons (gk_tup (ak_cons (gk_c fun _ => .ty _) (ak_cons (gk_c fun _ => .ty _) ak_nil))) ak_nil)))) : SOk K _ b_is_sequence)
theorem sc_is_less : FnScope nm_is_less pm_is_less (defScope s_is_less) := ⟨rfl, rfl, rfl, by decide +kernel, rfl, by decide +kernel, by decide +kernel⟩
theorem bi_is_less (T : Txt K mg) : Binds K T.is_less.fd pm_is_less [] := T.is_less.F.binds fun _ _ _ _ _ _ us hl => by obtain ⟨_, _, rfl⟩ := len2 hl; rfl
theorem ok_is_less (T : Txt K mg) : FnOk P w K mg base CX0 1 T.is_less.f T.is_less.fd pm_is_less (spF K r_is_less) := by
  have nd := sc_is_less.nd
  refine data_F T.is_less.F sc_is_less fun cdv A outer s H E hr => ?_
  refine ⟨_, (pss_one (ps_ret (pe_cmpR op_lt (pe_op op_mulA (pe_ix (kix (K := K) rfl) (pv 0) pe_int (fun _ _ => rfl)) (pe_ix (kix (K := K) rfl) (pv 1) pe_int (fun _ _ => rfl))) (pe_op op_mulA (pe_ix (kix (K := K) rfl) (pv 1) pe_int (fun _ _ => rfl)) (pe_ix (kix (K := K) rfl) (pv 0) pe_int (fun _ _ => rfl))) (nomark _)))), ?_⟩
  exact ((sk_ret (gk_op od_lt (gk_op od_mul (gk_op od_ix gk_var gk_int) (gk_op od_ix gk_var gk_int)) (gk_op od_mul (gk_op od_ix gk_var gk_int) (gk_op od_ix gk_var gk_int)))) : SOk K _ b_is_less)
theorem sc_is_integer : FnScope nm_is_integer pm_is_integer (defScope s_is_integer) := ⟨rfl, rfl, rfl, by decide +kernel, rfl, by decide +kernel, by decide +kernel⟩
theorem bi_is_integer (T : Txt K mg) : Binds K T.is_integer.fd pm_is_integer [] := T.is_integer.F.binds fun _ _ _ _ _ _ us hl => by obtain ⟨_, rfl⟩ := len1 hl; rfl
theorem ok_is_integer (T : Txt K mg) : FnOk P w K mg base CX0 1 T.is_integer.f T.is_integer.fd pm_is_integer (spF K r_is_integer) := by
  have nd := sc_is_integer.nd
  refine data_F T.is_integer.F sc_is_integer fun cdv A outer s H E hr => ?_
  refine ⟨_, (pss_one (ps_ret (pe_and (pe_callB (kcr_isi (K := K) rfl) (by rfl) T.isinstance (by decide +kernel) (pa_cons (pv 0) (pa_cons (pe_bltn (v := .ty "int") (u := .type "int") (by rfl) T.int (by decide +kernel) rfl) pa_nil))) (pe_one (pe_not (pe_callB (kcr_isi (K := K) rfl) (by rfl) T.isinstance (by decide +kernel) (pa_cons (pv 0) (pa_cons (pe_bltn (v := .ty "bool") (u := .type "bool") (by rfl) T.bool (by decide +kernel) rfl) pa_nil)))))))), ?_⟩
  exact ((sk_ret (gk_vand (gk_cb (cd_isiU T.Rule.at_ T.iu_Rule) (ak_cons gk_var (ak_cons (gk_c fun _ => .ty _) ak_nil))) (gk_vnot (gk_cb (cd_isiU T.Rule.at_ T.iu_Rule) (ak_cons gk_var (ak_cons (gk_c fun _ => .ty _) ak_nil)))))) : SOk K _ b_is_integer)
theorem sc_divisor : FnScope nm_divisor pm_divisor (defScope s_divisor) := ⟨rfl, rfl, rfl, by decide +kernel, rfl, by decide +kernel, by decide +kernel⟩
theorem bi_divisor (T : Txt K mg) : Binds K T.divisor.fd pm_divisor [] := T.divisor.F.binds fun _ _ _ _ _ _ us hl => by obtain ⟨_, _, rfl⟩ := len2 hl; rfl
theorem ok_divisor (T : Txt K mg) : FnOk P w K mg base CX0 1 T.divisor.f T.divisor.fd pm_divisor (spF K r_divisor) := by
  have nd := sc_divisor.nd
  refine data_F T.divisor.F sc_divisor fun cdv A outer s H E hr => ?_
  refine ⟨_, (pss_cons (ps_par (i := 0) (j := 1) rfl nd rfl rfl (by decide) rfl rfl (pa_cons (pe_callB cr_abs (by rfl) T.abs (by decide +kernel) (pa_cons (pv 0) pa_nil)) (pa_cons (pe_callB cr_abs (by rfl) T.abs (by decide +kernel) (pa_cons (pv 1) pa_nil)) pa_nil)) (by rfl))
    (pss_cons (ps_while PassesOwn.never (pt_cmpR (kop_ne (K := K) rfl hr.units) (pv 1) pe_int (nomark _)) (pss_one (ps_par (i := 0) (j := 1) rfl nd rfl rfl (by decide) rfl rfl (pa_cons (pv 1) (pa_cons (pe_op op_modA (pv 0) (pv 1)) pa_nil)) (by rfl))))
    (pss_one (ps_ret (pv 0))))), ?_⟩
  exact ((sk_seq (sk_ypar (yk_cons (gk_cb cd_abs (ak_cons gk_var ak_nil)) (yk_cons (gk_cb cd_abs (ak_cons gk_var ak_nil)) yk_nil)))
    (sk_seq (sk_while (fuelI 1) (tk_test (gk_op od_ne gk_var gk_int)) ((sk_ypar (yk_cons gk_var (yk_cons (gk_op od_mod gk_var gk_var) yk_nil))) : SOk K _ b_divisor_1))
    (sk_ret gk_mv))) : SOk K _ b_divisor)
theorem sc_is_pair : FnScope nm_is_pair pm_is_pair (defScope s_is_pair) := ⟨rfl, rfl, rfl, by decide +kernel, rfl, by decide +kernel, by decide +kernel⟩
theorem bi_is_pair (T : Txt K mg) : Binds K T.is_pair.fd pm_is_pair [] := T.is_pair.F.binds fun _ _ _ _ _ _ us hl => by obtain ⟨_, rfl⟩ := len1 hl; rfl
theorem ok_is_pair (T : Txt K mg) : FnOk P w K mg base CX0 2 T.is_pair.f T.is_pair.fd pm_is_pair (spF K r_is_pair) := by
  have nd := sc_is_pair.nd
  refine data_F T.is_pair.F sc_is_pair fun cdv A outer s H E hr => ?_
  refine ⟨_, (pss_cons (ps_if (PW.pt (pw_or (pt_not (kpt_tru (K := K) rfl (pe_callB (kcr_isi (K := K) rfl) (by rfl) T.isinstance (by decide +kernel) (pa_cons (pv 0) (pa_cons (pe_bltn (v := .ty "tuple") (u := .type "tuple") (by rfl) T.tuple (by decide +kernel) rfl) pa_nil))) (by intro _; rfl))) (pw_or (pt_cmpR (kop_ne (K := K) rfl hr.units) (pe_callB (kcr_len (K := K) rfl) (by rfl) T.len (by decide +kernel) (pa_cons (pv 0) pa_nil)) pe_int (nomark _)) (pw_or1 (pt_not (kpt_tru (K := K) rfl (pe_callB (kcr_all (K := K) rfl rfl) (by rfl) T.all (by decide +kernel) (pa_cons (pe_lc (own := [("one", 1)]) rfl nd (kpi_seq (K := K) rfl (pv 0)) (blkOk_by (N := nm_is_pair) (sc := defScope s_is_pair) (by decide +kernel)) (fun _ _ _ _ _ => (pg_name (i := 1) nd rfl (Or.inl rfl))) (fun _ _ _ _ _ => pts_nil) (fun _ _ _ _ _ => (pe_call (ok_is_integer T) (hr.mono (by decide)) rfl T.is_integer.m T.is_integer.F.kp (bi_is_integer T) .nil pass0 (pa_cons (pv 1) pa_nil)))) pa_nil)) (by intro _; rfl))))))) (pss_one (ps_ret pe_bl)) pss_nil)
    (pss_one (ps_ret (pe_and (pe_cmpR op_gt (pe_ix (kix (K := K) rfl) (pv 0) pe_int (fun _ _ => rfl)) pe_int (nomark _)) (pe_one (pe_cmpR (kop_eq (K := K) rfl hr.units) (pe_call (ok_divisor T) (hr.mono (by decide)) rfl T.divisor.m T.divisor.F.kp (bi_divisor T) .nil pass0 (pa_cons (pe_ix (kix (K := K) rfl) (pv 0) pe_int (fun _ _ => rfl)) (pa_cons (pe_ix (kix (K := K) rfl) (pv 0) pe_int (fun _ _ => rfl)) pa_nil))) pe_int (nomark _))))))), ?_⟩
  exact ((sk_seq (sk_if (tk_or (tk_not (tk_truK (gk_cb (cd_isiU T.Rule.at_ T.iu_Rule) (ak_cons gk_var (ak_cons (gk_c fun _ => .ty _) ak_nil))))) (tk_or (tk_test (gk_op od_ne (gk_cb cd_len (ak_cons gk_var ak_nil)) gk_int)) (tk_not (tk_truK (gk_cb cd_all (ak_cons (gk_lc (ik_seq gk_var) gt_name tk_yes (gk_call (ak_cons gk_var ak_nil)) (by decide)) ak_nil)))))) (sk_ret gk_bl) sk_next)
    (sk_ret (gk_vand (gk_op od_gt (gk_op od_ix gk_var gk_int) gk_int) (gk_op od_eq (gk_call (ak_cons (gk_op od_ix gk_var gk_int) (ak_cons (gk_op od_ix gk_var gk_int) ak_nil))) gk_int)))) : SOk K _ b_is_pair)
theorem sc_is_value : FnScope nm_is_value pm_is_value (defScope s_is_value) := ⟨rfl, rfl, rfl, by decide +kernel, rfl, by decide +kernel, by decide +kernel⟩
theorem bi_is_value (T : Txt K mg) : Binds K T.is_value.fd pm_is_value [] := T.is_value.F.binds fun _ _ _ _ _ _ us hl => by obtain ⟨_, rfl⟩ := len1 hl; rfl
theorem ok_is_value (T : Txt K mg) : FnOk P w K mg base CX0 3 T.is_value.f T.is_value.fd pm_is_value (spF K r_is_value) := by
  have nd := sc_is_value.nd
  refine data_F T.is_value.F sc_is_value fun cdv A outer s H E hr => ?_
  refine ⟨_, (pss_one (ps_ret (pe_or (pe_call (ok_is_integer T) (hr.mono (by decide)) rfl T.is_integer.m T.is_integer.F.kp (bi_is_integer T) .nil pass0 (pa_cons (pv 0) pa_nil)) (pe_one (pe_call (ok_is_pair T) (hr.mono (by decide)) rfl T.is_pair.m T.is_pair.F.kp (bi_is_pair T) .nil pass0 (pa_cons (pv 0) pa_nil)))))), ?_⟩
  exact ((sk_ret (gk_vor (gk_call (ak_cons gk_var ak_nil)) (gk_call (ak_cons gk_var ak_nil)))) : SOk K _ b_is_value)
theorem sc_value_of : FnScope nm_value_of pm_value_of (defScope s_value_of) := ⟨rfl, rfl, rfl, by decide +kernel, rfl, by decide +kernel, by decide +kernel⟩
theorem bi_value_of (T : Txt K mg) : Binds K T.value_of.fd pm_value_of [] := T.value_of.F.binds fun _ _ _ _ _ _ us hl => by obtain ⟨_, rfl⟩ := len1 hl; rfl
theorem ok_value_of (T : Txt K mg) : FnOk P w K mg base CX0 2 T.value_of.f T.value_of.fd pm_value_of (spF K r_value_of) := by
  have nd := sc_value_of.nd
  refine data_F T.value_of.F sc_value_of fun cdv A outer s H E hr => ?_
  refine ⟨_, (pss_one (ps_ret (pe_ifExp (kpt_tru (K := K) rfl (pe_call (ok_is_integer T) (hr.mono (by decide)) rfl T.is_integer.m T.is_integer.F.kp (bi_is_integer T) .nil pass0 (pa_cons (pv 0) pa_nil)) (by intro _; rfl)) (pe_tup (pa_cons (pv 0) (pa_cons pe_int pa_nil))) (pv 0)))), ?_⟩
  exact ((sk_ret (gk_if (tk_truK (gk_call (ak_cons gk_var ak_nil))) (gk_tup (ak_cons gk_var (ak_cons gk_int ak_nil))) gk_var)) : SOk K _ b_value_of)
theorem sc_is_between : FnScope nm_is_between pm_is_between (defScope s_is_between) := ⟨rfl, rfl, rfl, by decide +kernel, rfl, by decide +kernel, by decide +kernel⟩
theorem bi_is_between (T : Txt K mg) : Binds K T.is_between.fd pm_is_between [] := T.is_between.F.binds fun _ _ _ _ _ _ us hl => by obtain ⟨_, _, _, rfl⟩ := len3 hl; rfl
theorem ok_is_between (T : Txt K mg) : FnOk P w K mg base CX0 4 T.is_between.f T.is_between.fd pm_is_between (spF K r_is_between) := by
  have nd := sc_is_between.nd
  refine data_F T.is_between.F sc_is_between fun cdv A outer s H E hr => ?_
  refine ⟨_, (pss_one (ps_ret (pe_and (pe_call (ok_is_value T) (hr.mono (by decide)) rfl T.is_value.m T.is_value.F.kp (bi_is_value T) .nil pass0 (pa_cons (pv 0) pa_nil)) (pe_and (pe_not (pe_call (ok_is_less T) (hr.mono (by decide)) rfl T.is_less.m T.is_less.F.kp (bi_is_less T) .nil pass0 (pa_cons (pe_call (ok_value_of T) (hr.mono (by decide)) rfl T.value_of.m T.value_of.F.kp (bi_value_of T) .nil pass0 (pa_cons (pv 0) pa_nil)) (pa_cons (pv 1) pa_nil)))) (pe_one (pe_not (pe_call (ok_is_less T) (hr.mono (by decide)) rfl T.is_less.m T.is_less.F.kp (bi_is_less T) .nil pass0 (pa_cons (pv 2) (pa_cons (pe_call (ok_value_of T) (hr.mono (by decide)) rfl T.value_of.m T.value_of.F.kp (bi_value_of T) .nil pass0 (pa_cons (pv 0) pa_nil)) pa_nil))))))))), ?_⟩
  exact ((sk_ret (gk_vand (gk_call (ak_cons gk_var ak_nil)) (gk_vand (gk_vnot (gk_call (ak_cons (gk_call (ak_cons gk_var ak_nil)) (ak_cons gk_var ak_nil)))) (gk_vnot (gk_call (ak_cons gk_var (ak_cons (gk_call (ak_cons gk_var ak_nil)) ak_nil))))))) : SOk K _ b_is_between)
theorem sc_is_share : FnScope nm_is_share pm_is_share (defScope s_is_share) := ⟨rfl, rfl, rfl, by decide +kernel, rfl, by decide +kernel, by decide +kernel⟩
theorem bi_is_share (T : Txt K mg) : Binds K T.is_share.fd pm_is_share [] := T.is_share.F.binds fun _ _ _ _ _ _ us hl => by obtain ⟨_, _, _, rfl⟩ := len3 hl; rfl
theorem ok_is_share (T : Txt K mg) : FnOk P w K mg base CX0 5 T.is_share.f T.is_share.fd pm_is_share (spF K r_is_share) := by
  have nd := sc_is_share.nd
  refine data_F T.is_share.F sc_is_share fun cdv A outer s H E hr => ?_
  refine ⟨_, (pss_cons (ps_if (PW.pt (pw_or (pt_not (kpt_tru (K := K) rfl (pe_callB (kcr_isi (K := K) rfl) (by rfl) T.isinstance (by decide +kernel) (pa_cons (pv 0) (pa_cons (pe_bltn (v := .ty "tuple") (u := .type "tuple") (by rfl) T.tuple (by decide +kernel) rfl) pa_nil))) (by intro _; rfl))) (pw_or (pt_cmpR (kop_ne (K := K) rfl hr.units) (pe_callB (kcr_len (K := K) rfl) (by rfl) T.len (by decide +kernel) (pa_cons (pv 0) pa_nil)) pe_int (nomark _)) (pw_or1 (pt_not (kpt_tru (K := K) rfl (pe_call (ok_is_value T) (hr.mono (by decide)) rfl T.is_value.m T.is_value.F.kp (bi_is_value T) .nil pass0 (pa_cons (pe_ix (kix (K := K) rfl) (pv 0) pe_int (fun _ _ => rfl)) pa_nil)) (by intro _; rfl))))))) (pss_one (ps_ret pe_bl)) pss_nil)
    (pss_cons (ps_if (PW.pt (pw_or (pt_not (kpt_tru (K := K) rfl (pe_call (ok_is_between T) (hr.mono (by decide)) rfl T.is_between.m T.is_between.F.kp (bi_is_between T) .nil pass0 (pa_cons (pe_ix (kix (K := K) rfl) (pv 0) pe_int (fun _ _ => rfl)) (pa_cons (pv 1) (pa_cons (pv 2) pa_nil)))) (by intro _; rfl))) (pw_or1 (pt_not (kpt_tru (K := K) rfl (pe_call (ok_is_between T) (hr.mono (by decide)) rfl T.is_between.m T.is_between.F.kp (bi_is_between T) .nil pass0 (pa_cons (pe_ix (kix (K := K) rfl) (pv 0) pe_int (fun _ _ => rfl)) (pa_cons (pv 1) (pa_cons (pv 2) pa_nil)))) (by intro _; rfl)))))) (pss_one (ps_ret pe_bl)) pss_nil)
    (pss_one (ps_ret (pe_call (ok_is_less T) (hr.mono (by decide)) rfl T.is_less.m T.is_less.F.kp (bi_is_less T) .nil pass0 (pa_cons (pe_call (ok_value_of T) (hr.mono (by decide)) rfl T.value_of.m T.value_of.F.kp (bi_value_of T) .nil pass0 (pa_cons (pe_ix (kix (K := K) rfl) (pv 0) pe_int (fun _ _ => rfl)) pa_nil)) (pa_cons (pe_call (ok_value_of T) (hr.mono (by decide)) rfl T.value_of.m T.value_of.F.kp (bi_value_of T) .nil pass0 (pa_cons (pe_ix (kix (K := K) rfl) (pv 0) pe_int (fun _ _ => rfl)) pa_nil)) pa_nil))))))), ?_⟩
  exact ((sk_seq (sk_if (tk_or (tk_not (tk_truK (gk_cb (cd_isiU T.Rule.at_ T.iu_Rule) (ak_cons gk_var (ak_cons (gk_c fun _ => .ty _) ak_nil))))) (tk_or (tk_test (gk_op od_ne (gk_cb cd_len (ak_cons gk_var ak_nil)) gk_int)) (tk_not (tk_truK (gk_call (ak_cons (gk_op od_ix gk_var gk_int) ak_nil)))))) (sk_ret gk_bl) sk_next)
    (sk_seq (sk_if (tk_or (tk_not (tk_truK (gk_call (ak_cons (gk_op od_ix gk_var gk_int) (ak_cons gk_var (ak_cons gk_var ak_nil)))))) (tk_not (tk_truK (gk_call (ak_cons (gk_op od_ix gk_var gk_int) (ak_cons gk_var (ak_cons gk_var ak_nil))))))) (sk_ret gk_bl) sk_next)
    (sk_ret (gk_call (ak_cons (gk_call (ak_cons (gk_op od_ix gk_var gk_int) ak_nil)) (ak_cons (gk_call (ak_cons (gk_op od_ix gk_var gk_int) ak_nil)) ak_nil)))))) : SOk K _ b_is_share)
theorem sc_is_weight : FnScope nm_is_weight pm_is_weight (defScope s_is_weight) := ⟨rfl, rfl, rfl, by decide +kernel, rfl, by decide +kernel, by decide +kernel⟩
theorem bi_is_weight (T : Txt K mg) : Binds K T.is_weight.fd pm_is_weight [] := T.is_weight.F.binds fun _ _ _ _ _ _ us hl => by obtain ⟨_, _, _, rfl⟩ := len3 hl; rfl
theorem ok_is_weight (T : Txt K mg) : FnOk P w K mg base CX0 5 T.is_weight.f T.is_weight.fd pm_is_weight (spF K r_is_weight) := by
  have nd := sc_is_weight.nd
  refine data_F T.is_weight.F sc_is_weight fun cdv A outer s H E hr => ?_
  refine ⟨_, (pss_cons (ps_if (PW.pt (pw_or (pt_not (kpt_tru (K := K) rfl (pe_callB (kcr_isi (K := K) rfl) (by rfl) T.isinstance (by decide +kernel) (pa_cons (pv 0) (pa_cons (pe_bltn (v := .ty "tuple") (u := .type "tuple") (by rfl) T.tuple (by decide +kernel) rfl) pa_nil))) (by intro _; rfl))) (pw_or1 (pt_cmpR (kop_ne (K := K) rfl hr.units) (pe_callB (kcr_len (K := K) rfl) (by rfl) T.len (by decide +kernel) (pa_cons (pv 0) pa_nil)) pe_int (nomark _))))) (pss_one (ps_ret pe_bl)) pss_nil)
    (pss_one (ps_ret (pe_and (pe_call (ok_is_between T) (hr.mono (by decide)) rfl T.is_between.m T.is_between.F.kp (bi_is_between T) .nil pass0 (pa_cons (pe_ix (kix (K := K) rfl) (pv 0) pe_int (fun _ _ => rfl)) (pa_cons (pv 1) (pa_cons (pv 2) pa_nil)))) (pe_one (pe_call (ok_is_value T) (hr.mono (by decide)) rfl T.is_value.m T.is_value.F.kp (bi_is_value T) .nil pass0 (pa_cons (pe_ix (kix (K := K) rfl) (pv 0) pe_int (fun _ _ => rfl)) pa_nil))))))), ?_⟩
  exact ((sk_seq (sk_if (tk_or (tk_not (tk_truK (gk_cb (cd_isiU T.Rule.at_ T.iu_Rule) (ak_cons gk_var (ak_cons (gk_c fun _ => .ty _) ak_nil))))) (tk_test (gk_op od_ne (gk_cb cd_len (ak_cons gk_var ak_nil)) gk_int))) (sk_ret gk_bl) sk_next)
    (sk_ret (gk_vand (gk_call (ak_cons (gk_op od_ix gk_var gk_int) (ak_cons gk_var (ak_cons gk_var ak_nil)))) (gk_call (ak_cons (gk_op od_ix gk_var gk_int) ak_nil))))) : SOk K _ b_is_weight)
theorem sc_ascending : FnScope nm_ascending pm_ascending (defScope s_ascending) := ⟨rfl, rfl, rfl, by decide +kernel, rfl, by decide +kernel, by decide +kernel⟩
theorem bi_ascending (T : Txt K mg) : Binds K T.ascending.fd pm_ascending [] := T.ascending.F.binds fun _ _ _ _ _ _ us hl => by obtain ⟨_, rfl⟩ := len1 hl; rfl
theorem ok_ascending (T : Txt K mg) : FnOk P w K mg base CX0 2 T.ascending.f T.ascending.fd pm_ascending (spF K r_ascending) := by
  have nd := sc_ascending.nd
  refine data_F T.ascending.F sc_ascending fun cdv A outer s H E hr => ?_
  refine ⟨_, (pss_cons (ps_set (i := 1) nd rfl (Or.inr rfl) pe_int)
    (pss_cons (ps_for PassesOwn.never rfl (kpi_seq (K := K) rfl (pv 0)) (kpg_tup (K := K) (n := 2) rfl rfl (pgs_cons (pg_name (i := 2) nd rfl (Or.inl rfl)) (pgs_cons (pg_name (i := 3) nd rfl (Or.inl rfl)) pgs_nil))) (pss_one (ps_set (i := 1) nd rfl (Or.inr rfl) (pe_op op_fdivA (pe_op op_mulA (pv 1) (pv 3)) (pe_call (ok_divisor T) (hr.mono (by decide)) rfl T.divisor.m T.divisor.F.kp (bi_divisor T) .nil pass0 (pa_cons (pv 1) (pa_cons (pv 3) pa_nil)))))))
    (pss_cons (ps_set (i := 4) nd rfl (Or.inr rfl) (pe_callB (kcr_sorted (K := K) rfl (room_u2 hr)) (by rfl) T.sorted (by decide +kernel) (pa_cons (pe_lc (own := [("one", 5)]) rfl nd (kpi_seq (K := K) rfl (pv 0)) (blkOk_by (N := nm_ascending) (sc := defScope s_ascending) (by decide +kernel)) (fun _ _ _ _ _ => (pg_name (i := 5) nd rfl (Or.inl rfl))) (fun _ _ _ _ _ => pts_nil) (fun _ _ _ _ _ => (pe_tup (pa_cons (pe_op op_mulA (pe_ix (kix (K := K) rfl) (pv 5) pe_int (fun _ _ => rfl)) (pe_op op_fdivA (pv 1) (pe_ix (kix (K := K) rfl) (pv 5) pe_int (fun _ _ => rfl)))) (pa_cons (pv 5) pa_nil))))) pa_nil)))
    (pss_one (ps_ret (pe_lc (own := [("at", 6), ("place", 7), ("one", 5)]) rfl nd (kpi_enumA (K := K) rfl rfl T.enumerate (pa_cons (pv 4) pa_nil)) (blkOk_by (N := nm_ascending) (sc := defScope s_ascending) (by decide +kernel)) (fun _ _ _ _ _ => (kpg_tup (K := K) (n := 2) rfl rfl (pgs_cons (pg_name (i := 6) nd rfl (Or.inl rfl)) (pgs_cons (kpg_tup (K := K) (n := 2) rfl rfl (pgs_cons (pg_name (i := 7) nd rfl (Or.inl rfl)) (pgs_cons (pg_name (i := 5) nd rfl (Or.inl rfl)) pgs_nil))) pgs_nil)))) (fun _ _ _ _ _ => (pts_one (PW.pt (pw_or (pt_cmpR (kop_eq (K := K) rfl hr.units) (pv 6) pe_int (nomark _)) (pw_or1 (pt_cmpR (kop_ne (K := K) rfl hr.units) (pe_ix (kix (K := K) rfl) (pe_ix (kix (K := K) rfl) (pv 4) (pe_op op_subA (pv 6) pe_int) (fun _ _ => rfl)) pe_int (fun _ _ => rfl)) (pv 5) (nomark _))))))) (fun _ _ _ _ _ => (pv 5)))))))), ?_⟩
  exact ((sk_seq (sk_set gk_int)
    (sk_seq (sk_for (ik_seq gk_var) (gt_tup (gts_cons gt_name (gts_cons gt_name gts_nil))) ((sk_set (gk_op od_fdiv (gk_op od_mul gk_var gk_var) (gk_call (ak_cons gk_var (ak_cons gk_var ak_nil))))) : SOk K _ b_ascending_1))
    (sk_seq (sk_set (gk_cb cd_sorted (ak_cons (gk_lc (ik_seq gk_var) gt_name tk_yes (gk_tup (ak_cons (gk_op od_mul (gk_op od_ix gk_var gk_int) (gk_op od_fdiv gk_var (gk_op od_ix gk_var gk_int))) (ak_cons gk_var ak_nil))) (by decide)) ak_nil)))
    (sk_ret (gk_lc (ik_enumA (ak_cons gk_var ak_nil)) (gt_tup (gts_cons gt_name (gts_cons (gt_tup (gts_cons gt_name (gts_cons gt_name gts_nil))) gts_nil))) (tk_or (tk_test (gk_op od_eq gk_var gk_int)) (tk_test (gk_op od_ne (gk_op od_ix (gk_op od_ix gk_var (gk_op od_sub gk_var gk_int)) gk_int) gk_var))) gk_var (by decide)))))) : SOk K _ b_ascending)
theorem sc_lowest : FnScope nm_lowest pm_lowest (defScope s_lowest) := ⟨rfl, rfl, rfl, by decide +kernel, rfl, by decide +kernel, by decide +kernel⟩
theorem bi_lowest (T : Txt K mg) : Binds K T.lowest.fd pm_lowest [] := T.lowest.F.binds fun _ _ _ _ _ _ us hl => by obtain ⟨_, _, rfl⟩ := len2 hl; rfl
theorem ok_lowest (T : Txt K mg) : FnOk P w K mg base CX0 2 T.lowest.f T.lowest.fd pm_lowest (spF K r_lowest) := by
  have nd := sc_lowest.nd
  refine data_F T.lowest.F sc_lowest fun cdv A outer s H E hr => ?_
  refine ⟨_, (pss_cons (ps_set (i := 2) nd rfl (Or.inl rfl) (pe_call (ok_divisor T) (hr.mono (by decide)) rfl T.divisor.m T.divisor.F.kp (bi_divisor T) .nil pass0 (pa_cons (pv 0) (pa_cons (pv 1) pa_nil))))
    (pss_cons (ps_set (i := 2) nd rfl (Or.inl rfl) (pe_ifExp (pt_cmpR op_lt (pv 1) pe_int (nomark _)) (pe_un un_neg (pv 2)) (pv 2)))
    (pss_one (ps_ret (pe_tup (pa_cons (pe_op op_fdivA (pv 0) (pv 2)) (pa_cons (pe_op op_fdivA (pv 1) (pv 2)) pa_nil))))))), ?_⟩
  exact ((sk_seq (sk_set (gk_call (ak_cons gk_var (ak_cons gk_var ak_nil))))
    (sk_seq (sk_set (gk_if (tk_test (gk_op od_lt gk_var gk_int)) (gk_un ud_neg gk_var) gk_var))
    (sk_ret (gk_tup (ak_cons (gk_op od_fdiv gk_var gk_var) (ak_cons (gk_op od_fdiv gk_var gk_var) ak_nil)))))) : SOk K _ b_lowest)
theorem sc_added : FnScope nm_added pm_added (defScope s_added) := ⟨rfl, rfl, rfl, by decide +kernel, rfl, by decide +kernel, by decide +kernel⟩
theorem bi_added (T : Txt K mg) : Binds K T.added.fd pm_added [] := T.added.F.binds fun _ _ _ _ _ _ us hl => by obtain ⟨_, _, rfl⟩ := len2 hl; rfl
theorem ok_added (T : Txt K mg) : FnOk P w K mg base CX0 3 T.added.f T.added.fd pm_added (spF K r_added) := by
  have nd := sc_added.nd
  refine data_F T.added.F sc_added fun cdv A outer s H E hr => ?_
  refine ⟨_, (pss_one (ps_ret (pe_call (ok_lowest T) (hr.mono (by decide)) rfl T.lowest.m T.lowest.F.kp (bi_lowest T) .nil pass0 (pa_cons (pe_op (kop_addB (K := K) rfl) (pe_op op_mulA (pe_ix (kix (K := K) rfl) (pv 0) pe_int (fun _ _ => rfl)) (pe_ix (kix (K := K) rfl) (pv 1) pe_int (fun _ _ => rfl))) (pe_op op_mulA (pe_ix (kix (K := K) rfl) (pv 1) pe_int (fun _ _ => rfl)) (pe_ix (kix (K := K) rfl) (pv 0) pe_int (fun _ _ => rfl)))) (pa_cons (pe_op op_mulA (pe_ix (kix (K := K) rfl) (pv 0) pe_int (fun _ _ => rfl)) (pe_ix (kix (K := K) rfl) (pv 1) pe_int (fun _ _ => rfl))) pa_nil))))), ?_⟩
  exact ((sk_ret (gk_call (ak_cons (gk_op od_addB (gk_op od_mul (gk_op od_ix gk_var gk_int) (gk_op od_ix gk_var gk_int)) (gk_op od_mul (gk_op od_ix gk_var gk_int) (gk_op od_ix gk_var gk_int))) (ak_cons (gk_op od_mul (gk_op od_ix gk_var gk_int) (gk_op od_ix gk_var gk_int)) ak_nil)))) : SOk K _ b_added)
theorem sc_summed : FnScope nm_summed pm_summed (defScope s_summed) := ⟨rfl, rfl, rfl, by decide +kernel, rfl, by decide +kernel, by decide +kernel⟩
theorem bi_summed (T : Txt K mg) : Binds K T.summed.fd pm_summed [] := T.summed.F.binds fun _ _ _ _ _ _ us hl => by obtain ⟨_, rfl⟩ := len1 hl; rfl
theorem ok_summed (T : Txt K mg) : FnOk P w K mg base CX0 4 T.summed.f T.summed.fd pm_summed (spF K r_summed) := by
  have nd := sc_summed.nd
  refine data_F T.summed.F sc_summed fun cdv A outer s H E hr => ?_
  refine ⟨_, (pss_cons (ps_set (i := 1) nd rfl (Or.inl rfl) (pe_glob rfl T.NOUGHT.m T.NOUGHT.r))
    (pss_cons (ps_for PassesOwn.never rfl (kpi_seq (K := K) rfl (pv 0)) (pg_name (i := 2) nd rfl (Or.inl rfl)) (pss_one (ps_set (i := 1) nd rfl (Or.inl rfl) (pe_call (ok_added T) (hr.mono (by decide)) rfl T.added.m T.added.F.kp (bi_added T) .nil pass0 (pa_cons (pv 1) (pa_cons (pv 2) pa_nil))))))
    (pss_one (ps_ret (pv 1))))), ?_⟩
  exact ((sk_seq (sk_set (gk_c T.NOUGHT.d))
    (sk_seq (sk_for (ik_seq gk_var) gt_name ((sk_set (gk_call (ak_cons gk_var (ak_cons gk_var ak_nil)))) : SOk K _ b_summed_1))
    (sk_ret gk_mv))) : SOk K _ b_summed)
theorem sc_least_shares : FnScope nm_least_shares pm_least_shares (defScope s_least_shares) := ⟨rfl, rfl, rfl, by decide +kernel, rfl, by decide +kernel, by decide +kernel⟩
theorem bi_least_shares (T : Txt K mg) : Binds K T.least_shares.fd pm_least_shares [] := T.least_shares.F.binds fun _ _ _ _ _ _ us hl => by obtain ⟨_, rfl⟩ := len1 hl; rfl
theorem ok_least_shares (T : Txt K mg) : FnOk P w K mg base CX0 5 T.least_shares.f T.least_shares.fd pm_least_shares (spF K r_least_shares) := by
  have nd := sc_least_shares.nd
  refine data_F T.least_shares.F sc_least_shares fun cdv A outer s H E hr => ?_
  refine ⟨_, (pss_cons (ps_setLc (i := 1) (own := [("start", 4), ("end", 5), ("share", 8)]) rfl nd rfl rfl (sw_true rfl rfl rfl (by decide +kernel)) (kpi_seq (K := K) rfl (pv 0)) (blkOk_by (N := nm_least_shares) (sc := defScope s_least_shares) (by decide +kernel)) (fun _ _ _ _ _ => (kpg_tup (K := K) (n := 3) rfl rfl (pgs_cons (pg_name (i := 4) nd rfl (Or.inl rfl)) (pgs_cons (pg_name (i := 5) nd rfl (Or.inl rfl)) (pgs_cons (pg_name (i := 8) nd rfl (Or.inl rfl)) pgs_nil))))) (fun _ _ _ _ _ => pts_nil) (fun _ _ _ _ _ => (pe_tup (pa_cons (pe_call (ok_value_of T) (hr.mono (by decide)) rfl T.value_of.m T.value_of.F.kp (bi_value_of T) .nil pass0 (pa_cons (pv 4) pa_nil)) (pa_cons (pe_call (ok_value_of T) (hr.mono (by decide)) rfl T.value_of.m T.value_of.F.kp (bi_value_of T) .nil pass0 (pa_cons (pv 5) pa_nil)) (pa_cons (pe_call (ok_value_of T) (hr.mono (by decide)) rfl T.value_of.m T.value_of.F.kp (bi_value_of T) .nil pass0 (pa_cons (pv 8) pa_nil)) pa_nil))))))
    (pss_cons (ps_set (i := 2) nd rfl (Or.inl rfl) (pe_call (ok_ascending T) (hr.mono (by decide)) rfl T.ascending.m T.ascending.F.kp (bi_ascending T) .nil pass0 (pa_cons (pe_lc2 (own := [("start", 4), ("end", 5), ("share", 8), ("one", 9)]) (vs1 := [9]) rfl nd (kpi_seq (K := K) rfl (pv 1)) (blkOk_by (N := nm_least_shares) (sc := defScope s_least_shares) (by decide +kernel)) (by decide) (fun _ _ _ _ _ => (kpg_tup (K := K) (n := 3) rfl rfl (pgs_cons (pg_name (i := 4) nd rfl (Or.inl rfl)) (pgs_cons (pg_name (i := 5) nd rfl (Or.inl rfl)) (pgs_cons (pg_name (i := 8) nd rfl (Or.inl rfl)) pgs_nil))))) (fun _ _ _ _ _ => pts_nil) (fun _ _ _ _ _ => (kpi_seq (K := K) rfl (pe_tup (pa_cons (pv 4) (pa_cons (pv 5) pa_nil))))) (fun _ _ _ _ _ => (pg_name (i := 9) nd rfl (Or.inl rfl))) (fun _ _ _ _ _ => pts_nil) (fun _ _ _ _ _ => (pv 9))) pa_nil)))
    (pss_cons (ps_set (i := 3) nd rfl (Or.inl rfl) (pe_lst pa_nil))
    (pss_cons (ps_for PassesOwn.never rfl (kpi_zipA (K := K) rfl rfl T.zip (pa_cons (pv 2) (pa_cons (pe_slice (ksl_B (K := K) rfl) (pv 2) (po_some pe_int) po_none) pa_nil))) (kpg_tup (K := K) (n := 2) rfl rfl (pgs_cons (pg_name (i := 4) nd rfl (Or.inr rfl)) (pgs_cons (pg_name (i := 5) nd rfl (Or.inr rfl)) pgs_nil))) (pss_cons (ps_setLc (i := 6) (own := [("first", 10), ("last", 11), ("share", 8)]) rfl nd rfl rfl (sw_true rfl rfl rfl (by decide +kernel)) (kpi_seq (K := K) rfl (pv 1)) (blkOk_by (N := nm_least_shares) (sc := defScope s_least_shares) (by decide +kernel)) (fun _ _ _ _ _ => (kpg_tup (K := K) (n := 3) rfl rfl (pgs_cons (pg_name (i := 10) nd rfl (Or.inl rfl)) (pgs_cons (pg_name (i := 11) nd rfl (Or.inl rfl)) (pgs_cons (pg_name (i := 8) nd rfl (Or.inl rfl)) pgs_nil))))) (fun _ _ _ _ _ => (pts_one (PW.pt (pw_and (pt_not (kpt_tru (K := K) rfl (pe_call (ok_is_less T) (hr.mono (by decide)) rfl T.is_less.m T.is_less.F.kp (bi_is_less T) .nil pass0 (pa_cons (pv 4) (pa_cons (pv 10) pa_nil))) (by intro _; rfl))) (pw_and1 (pt_not (kpt_tru (K := K) rfl (pe_call (ok_is_less T) (hr.mono (by decide)) rfl T.is_less.m T.is_less.F.kp (bi_is_less T) .nil pass0 (pa_cons (pv 11) (pa_cons (pv 5) pa_nil))) (by intro _; rfl)))))))) (fun _ _ _ _ _ => (pv 8)))
    (pss_cons (ps_set (i := 7) nd rfl (Or.inl rfl) (pe_call (ok_summed T) (hr.mono (by decide)) rfl T.summed.m T.summed.F.kp (bi_summed T) .nil pass0 (pa_cons (pv 6) pa_nil)))
    (pss_one (ps_if (PW.pt (pw_and (pt_cmpR op_gt (pe_callB (kcr_len (K := K) rfl) (by rfl) T.len (by decide +kernel) (pa_cons (pv 3) pa_nil)) pe_int (nomark _)) (pw_and1 (pt_cmpR (kop_eq (K := K) rfl hr.units) (pe_ix (kix (K := K) rfl) (pe_ix (kix (K := K) rfl) (pv 3) (pe_un un_neg pe_int) (fun _ _ => rfl)) pe_int (fun _ _ => rfl)) (pv 7) (nomark _))))) (pss_one (ps_set (i := 3) nd rfl (Or.inl rfl) (pe_lst (kpa_star (K := K) rfl (pe_slice (ksl_B (K := K) rfl) (pv 3) po_none (po_some (pe_un un_neg pe_int))) (pa_cons (pe_tup (pa_cons (pe_ix (kix (K := K) rfl) (pe_ix (kix (K := K) rfl) (pv 3) (pe_un un_neg pe_int) (fun _ _ => rfl)) pe_int (fun _ _ => rfl)) (pa_cons (pv 5) (pa_cons (pv 7) pa_nil)))) pa_nil))))) (pss_one (ps_set (i := 3) nd rfl (Or.inl rfl) (pe_lst (kpa_star (K := K) rfl (pv 3) (pa_cons (pe_tup (pa_cons (pv 4) (pa_cons (pv 5) (pa_cons (pv 7) pa_nil)))) pa_nil))))))))))
    (pss_one (ps_ret (pe_callTy (kcr_tuple (K := K) rfl) (by rfl) T.tuple (by decide +kernel) (pa_cons (pe_lc (own := [("part", 12)]) rfl nd (kpi_seq (K := K) rfl (pv 3)) (blkOk_by (N := nm_least_shares) (sc := defScope s_least_shares) (by decide +kernel)) (fun _ _ _ _ _ => (pg_name (i := 12) nd rfl (Or.inl rfl))) (fun _ _ _ _ _ => (pts_one (pt_cmpR (kop_ne (K := K) rfl hr.units) (pe_ix (kix (K := K) rfl) (pv 12) pe_int (fun _ _ => rfl)) (pe_glob rfl T.NOUGHT.m T.NOUGHT.r) (nomark _)))) (fun _ _ _ _ _ => (pv 12))) pa_nil)))))))), ?_⟩
  exact ((sk_seq (sk_set (gk_lc (ik_seq gk_var) (gt_tup (gts_cons gt_name (gts_cons gt_name (gts_cons gt_name gts_nil)))) tk_yes (gk_tup (ak_cons (gk_call (ak_cons gk_var ak_nil)) (ak_cons (gk_call (ak_cons gk_var ak_nil)) (ak_cons (gk_call (ak_cons gk_var ak_nil)) ak_nil)))) (by decide)))
    (sk_seq (sk_set (gk_call (ak_cons (gk_lc2 (ik_seq gk_var) (gt_tup (gts_cons gt_name (gts_cons gt_name (gts_cons gt_name gts_nil)))) tk_yes (ik_seq (gk_tup (ak_cons gk_var (ak_cons gk_var ak_nil)))) gt_name tk_yes gk_var (by decide) (by decide) (by decide)) ak_nil)))
    (sk_seq (sk_set (gk_lst ak_nil))
    (sk_seq (sk_for (ik_zipA (ak_cons gk_var (ak_cons (gk_sl sd_B gk_var (pk_some gk_int) pk_none) ak_nil))) (gt_tup (gts_cons gt_name (gts_cons gt_name gts_nil))) ((sk_seq (sk_set (gk_lc (ik_seq gk_var) (gt_tup (gts_cons gt_name (gts_cons gt_name (gts_cons gt_name gts_nil)))) (tk_and (tk_not (tk_truK (gk_call (ak_cons gk_var (ak_cons gk_var ak_nil))))) (tk_not (tk_truK (gk_call (ak_cons gk_var (ak_cons gk_var ak_nil)))))) gk_var (by decide)))
    (sk_seq (sk_set (gk_call (ak_cons gk_var ak_nil)))
    (sk_if (tk_and (tk_test (gk_op od_gt (gk_cb cd_len (ak_cons gk_var ak_nil)) gk_int)) (tk_test (gk_op od_eq (gk_op od_ix (gk_op od_ix gk_var (gk_un ud_neg gk_int)) gk_int) gk_var))) (sk_set (gk_lst (ak_star (gk_sl sd_B gk_var pk_none (pk_some (gk_un ud_neg gk_int))) (ak_cons (gk_tup (ak_cons (gk_op od_ix (gk_op od_ix gk_var (gk_un ud_neg gk_int)) gk_int) (ak_cons gk_var (ak_cons gk_var ak_nil)))) ak_nil)))) (sk_set (gk_lst (ak_star gk_var (ak_cons (gk_tup (ak_cons gk_var (ak_cons gk_var (ak_cons gk_var ak_nil)))) ak_nil))))))) : SOk K _ b_least_shares_1))
    (sk_ret (gk_cb cd_tuple (ak_cons (gk_lc (ik_seq gk_var) gt_name (tk_test (gk_op od_ne (gk_op od_ix gk_var gk_int) (gk_c T.NOUGHT.d))) gk_var (by decide)) ak_nil))))))) : SOk K _ b_least_shares)
theorem sc_least_weights : FnScope nm_least_weights pm_least_weights (defScope s_least_weights) := ⟨rfl, rfl, rfl, by decide +kernel, rfl, by decide +kernel, by decide +kernel⟩
theorem bi_least_weights (T : Txt K mg) : Binds K T.least_weights.fd pm_least_weights [] := T.least_weights.F.binds fun _ _ _ _ _ _ us hl => by obtain ⟨_, rfl⟩ := len1 hl; rfl
theorem ok_least_weights (T : Txt K mg) : FnOk P w K mg base CX0 5 T.least_weights.f T.least_weights.fd pm_least_weights (spF K r_least_weights) := by
  have nd := sc_least_weights.nd
  refine data_F T.least_weights.F sc_least_weights fun cdv A outer s H E hr => ?_
  refine ⟨_, (pss_cons (ps_setLc (i := 1) (own := [("point", 3), ("weight", 4)]) rfl nd rfl rfl (sw_true rfl rfl rfl (by decide +kernel)) (kpi_seq (K := K) rfl (pv 0)) (blkOk_by (N := nm_least_weights) (sc := defScope s_least_weights) (by decide +kernel)) (fun _ _ _ _ _ => (kpg_tup (K := K) (n := 2) rfl rfl (pgs_cons (pg_name (i := 3) nd rfl (Or.inl rfl)) (pgs_cons (pg_name (i := 4) nd rfl (Or.inl rfl)) pgs_nil)))) (fun _ _ _ _ _ => pts_nil) (fun _ _ _ _ _ => (pe_tup (pa_cons (pe_call (ok_value_of T) (hr.mono (by decide)) rfl T.value_of.m T.value_of.F.kp (bi_value_of T) .nil pass0 (pa_cons (pv 3) pa_nil)) (pa_cons (pe_call (ok_value_of T) (hr.mono (by decide)) rfl T.value_of.m T.value_of.F.kp (bi_value_of T) .nil pass0 (pa_cons (pv 4) pa_nil)) pa_nil)))))
    (pss_cons (ps_set (i := 2) nd rfl (Or.inl rfl) (pe_lst pa_nil))
    (pss_cons (ps_for PassesOwn.never rfl (kpi_seq (K := K) rfl (pe_call (ok_ascending T) (hr.mono (by decide)) rfl T.ascending.m T.ascending.F.kp (bi_ascending T) .nil pass0 (pa_cons (pe_lc (own := [("point", 3), ("weight", 4)]) rfl nd (kpi_seq (K := K) rfl (pv 1)) (blkOk_by (N := nm_least_weights) (sc := defScope s_least_weights) (by decide +kernel)) (fun _ _ _ _ _ => (kpg_tup (K := K) (n := 2) rfl rfl (pgs_cons (pg_name (i := 3) nd rfl (Or.inl rfl)) (pgs_cons (pg_name (i := 4) nd rfl (Or.inl rfl)) pgs_nil)))) (fun _ _ _ _ _ => pts_nil) (fun _ _ _ _ _ => (pv 3))) pa_nil))) (pg_name (i := 3) nd rfl (Or.inr rfl)) (pss_one (ps_expr (kpe_app (K := K) rfl (pv 2) (pe_tup (pa_cons (pv 3) (pa_cons (pe_call (ok_summed T) (hr.mono (by decide)) rfl T.summed.m T.summed.F.kp (bi_summed T) .nil pass0 (pa_cons (pe_lc (own := [("place", 5), ("weight", 4)]) rfl nd (kpi_seq (K := K) rfl (pv 1)) (blkOk_by (N := nm_least_weights) (sc := defScope s_least_weights) (by decide +kernel)) (fun _ _ _ _ _ => (kpg_tup (K := K) (n := 2) rfl rfl (pgs_cons (pg_name (i := 5) nd rfl (Or.inl rfl)) (pgs_cons (pg_name (i := 4) nd rfl (Or.inl rfl)) pgs_nil)))) (fun _ _ _ _ _ => (pts_one (pt_cmpR (kop_eq (K := K) rfl hr.units) (pv 5) (pv 3) (nomark _)))) (fun _ _ _ _ _ => (pv 4))) pa_nil)) pa_nil)))))))
    (pss_one (ps_ret (pe_callTy (kcr_tuple (K := K) rfl) (by rfl) T.tuple (by decide +kernel) (pa_cons (pe_lc (own := [("pair", 6)]) rfl nd (kpi_seq (K := K) rfl (pv 2)) (blkOk_by (N := nm_least_weights) (sc := defScope s_least_weights) (by decide +kernel)) (fun _ _ _ _ _ => (pg_name (i := 6) nd rfl (Or.inl rfl))) (fun _ _ _ _ _ => (pts_one (pt_cmpR (kop_ne (K := K) rfl hr.units) (pe_ix (kix (K := K) rfl) (pv 6) pe_int (fun _ _ => rfl)) (pe_glob rfl T.NOUGHT.m T.NOUGHT.r) (nomark _)))) (fun _ _ _ _ _ => (pv 6))) pa_nil))))))), ?_⟩
  exact ((sk_seq (sk_set (gk_lc (ik_seq gk_var) (gt_tup (gts_cons gt_name (gts_cons gt_name gts_nil))) tk_yes (gk_tup (ak_cons (gk_call (ak_cons gk_var ak_nil)) (ak_cons (gk_call (ak_cons gk_var ak_nil)) ak_nil))) (by decide)))
    (sk_seq (sk_set (gk_lst ak_nil))
    (sk_seq (sk_for (ik_seq (gk_call (ak_cons (gk_lc (ik_seq gk_var) (gt_tup (gts_cons gt_name (gts_cons gt_name gts_nil))) tk_yes gk_var (by decide)) ak_nil))) gt_name ((sk_app (gk_tup (ak_cons gk_var (ak_cons (gk_call (ak_cons (gk_lc (ik_seq gk_var) (gt_tup (gts_cons gt_name (gts_cons gt_name gts_nil))) (tk_test (gk_op od_eq gk_var gk_var)) gk_var (by decide)) ak_nil)) ak_nil)))) : SOk K _ b_least_weights_1))
    (sk_ret (gk_cb cd_tuple (ak_cons (gk_lc (ik_seq gk_var) gt_name (tk_test (gk_op od_ne (gk_op od_ix gk_var gk_int) (gk_c T.NOUGHT.d))) gk_var (by decide)) ak_nil)))))) : SOk K _ b_least_weights)
theorem sc_need_stretch : FnScope nm_need_stretch pm_need_stretch (defScope s_need_stretch) := ⟨rfl, rfl, rfl, by decide +kernel, rfl, by decide +kernel, by decide +kernel⟩
theorem bi_need_stretch (T : Txt K mg) : Binds K T.need_stretch.fd pm_need_stretch [] := T.need_stretch.F.binds fun _ _ _ _ _ _ us hl => by obtain ⟨_, _, rfl⟩ := len2 hl; rfl
theorem ok_need_stretch (T : Txt K mg) : FnOk P w K mg base CX0 4 T.need_stretch.f T.need_stretch.fd pm_need_stretch (spF K r_need_stretch) := by
  have nd := sc_need_stretch.nd
  refine data_F T.need_stretch.F sc_need_stretch fun cdv A outer s H E hr => ?_
  refine ⟨_, (pss_cons (ps_if (pt_not (kpt_tru (K := K) rfl (pe_call (ok_is_value T) (hr.mono (by decide)) rfl T.is_value.m T.is_value.F.kp (bi_is_value T) .nil pass0 (pa_cons (pv 0) pa_nil)) (by intro _; rfl))) (pss_one ps_never) pss_nil)
    (pss_cons (ps_if (PW.pt (pw_or (pt_not (kpt_tru (K := K) rfl (pe_call (ok_is_value T) (hr.mono (by decide)) rfl T.is_value.m T.is_value.F.kp (bi_is_value T) .nil pass0 (pa_cons (pv 1) pa_nil)) (by intro _; rfl))) (pw_or1 (pt_not (kpt_tru (K := K) rfl (pe_call (ok_is_less T) (hr.mono (by decide)) rfl T.is_less.m T.is_less.F.kp (bi_is_less T) .nil pass0 (pa_cons (pe_call (ok_value_of T) (hr.mono (by decide)) rfl T.value_of.m T.value_of.F.kp (bi_value_of T) .nil pass0 (pa_cons (pv 0) pa_nil)) (pa_cons (pe_call (ok_value_of T) (hr.mono (by decide)) rfl T.value_of.m T.value_of.F.kp (bi_value_of T) .nil pass0 (pa_cons (pv 1) pa_nil)) pa_nil))) (by intro _; rfl)))))) (pss_one ps_never) pss_nil)
    (pss_one (ps_ret (pe_tup (pa_cons (pe_call (ok_value_of T) (hr.mono (by decide)) rfl T.value_of.m T.value_of.F.kp (bi_value_of T) .nil pass0 (pa_cons (pv 0) pa_nil)) (pa_cons (pe_call (ok_value_of T) (hr.mono (by decide)) rfl T.value_of.m T.value_of.F.kp (bi_value_of T) .nil pass0 (pa_cons (pv 1) pa_nil)) pa_nil))))))), ?_⟩
  exact ((sk_seq (sk_if (tk_not (tk_truK (gk_call (ak_cons gk_var ak_nil)))) sk_never sk_next)
    (sk_seq (sk_if (tk_or (tk_not (tk_truK (gk_call (ak_cons gk_var ak_nil)))) (tk_not (tk_truK (gk_call (ak_cons (gk_call (ak_cons gk_var ak_nil)) (ak_cons (gk_call (ak_cons gk_var ak_nil)) ak_nil)))))) sk_never sk_next)
    (sk_ret (gk_tup (ak_cons (gk_call (ak_cons gk_var ak_nil)) (ak_cons (gk_call (ak_cons gk_var ak_nil)) ak_nil)))))) : SOk K _ b_need_stretch)
theorem sc_Rule_init : FnScope nm_Rule_init pm_Rule_init (defScope s_Rule_init) := ⟨rfl, rfl, rfl, by decide +kernel, rfl, by decide +kernel, by decide +kernel⟩
theorem bi_Rule_init_3 (T : Txt K mg) : ∃ ds, Vals (T.Rule_init.dvs.drop 0) ds ∧ Binds K T.Rule_init.fd pm_Rule_init ds := by
  have hl : T.Rule_init.dvs.length = 2 := (T.Rule_init.d fun _ => none).len
  refine T.Rule_init.F.binds1 3 0 (fun z => by rw [z] at hl; cases hl) (by rw [hl]; rfl) fun _ _ _ _ _ _ _ us its h1 h2 => ?_
  rw [hl] at h2
  match us, h1, its, h2 with | [_, _, _], _, [_, _], _ => exact ⟨_, rfl, rfl⟩
theorem bi_Rule_init_5 (T : Txt K mg) : ∃ ds, Vals (T.Rule_init.dvs.drop 2) ds ∧ Binds K T.Rule_init.fd pm_Rule_init ds := by
  have hl : T.Rule_init.dvs.length = 2 := (T.Rule_init.d fun _ => none).len
  refine T.Rule_init.F.binds1 5 2 (fun z => by rw [z] at hl; cases hl) (by rw [hl]; rfl) fun _ _ _ _ _ _ _ us its h1 h2 => ?_
  rw [hl] at h2
  match us, h1, its, h2 with | [_, _, _, _, _], _, [_, _], _ => exact ⟨_, rfl, rfl⟩
theorem ok_Rule_init (T : Txt K mg) : FnOk P w K mg base CX0 6 T.Rule_init.f T.Rule_init.fd pm_Rule_init (spB K r_Rule_init) := by
  have nd := sc_Rule_init.nd
  refine data_BD T.Rule_init.F sc_Rule_init fun cdv A outer s H E hr => ?_
  refine ⟨_, (pss_cons (ps_asg (pe_call (ok_need_stretch T) (hr.mono (by decide)) rfl T.need_stretch.m T.need_stretch.F.kp (bi_need_stretch T) .nil pass0 (pa_cons (pv 1) (pa_cons (pv 2) pa_nil))) (kpg_tup (K := K) (n := 2) rfl rfl (pgs_cons (kpg_fld (K := K) rfl (pv 0)) (pgs_cons (kpg_fld (K := K) rfl (pv 0)) pgs_nil))))
    (pss_cons (ps_if (PW.pt (pw_or (pt_not (kpt_tru (K := K) rfl (pe_call (ok_is_sequence T) (hr.mono (by decide)) rfl T.is_sequence.m T.is_sequence.F.kp (bi_is_sequence T) .nil pass0 (pa_cons (pv 3) pa_nil)) (by intro _; rfl))) (pw_or1 (pt_not (kpt_tru (K := K) rfl (pe_callB (kcr_all (K := K) rfl rfl) (by rfl) T.all (by decide +kernel) (pa_cons (pe_lc (own := [("one", 5)]) rfl nd (kpi_seq (K := K) rfl (pv 3)) (blkOk_by (N := nm_Rule_init) (sc := defScope s_Rule_init) (by decide +kernel)) (fun _ _ _ _ _ => (pg_name (i := 5) nd rfl (Or.inl rfl))) (fun _ _ _ _ _ => pts_nil) (fun _ _ _ _ _ => (pe_call (ok_is_weight T) (hr.mono (by decide)) rfl T.is_weight.m T.is_weight.F.kp (bi_is_weight T) .nil pass0 (pa_cons (pv 5) (pa_cons (kpe_fld (K := K) rfl (pv 0) rfl) (pa_cons (kpe_fld (K := K) rfl (pv 0) rfl) pa_nil)))))) pa_nil)) (by intro _; rfl)))))) (pss_one ps_never) pss_nil)
    (pss_cons (ps_if (PW.pt (pw_or (pt_not (kpt_tru (K := K) rfl (pe_call (ok_is_sequence T) (hr.mono (by decide)) rfl T.is_sequence.m T.is_sequence.F.kp (bi_is_sequence T) .nil pass0 (pa_cons (pv 4) pa_nil)) (by intro _; rfl))) (pw_or1 (pt_not (kpt_tru (K := K) rfl (pe_callB (kcr_all (K := K) rfl rfl) (by rfl) T.all (by decide +kernel) (pa_cons (pe_lc (own := [("one", 5)]) rfl nd (kpi_seq (K := K) rfl (pv 4)) (blkOk_by (N := nm_Rule_init) (sc := defScope s_Rule_init) (by decide +kernel)) (fun _ _ _ _ _ => (pg_name (i := 5) nd rfl (Or.inl rfl))) (fun _ _ _ _ _ => pts_nil) (fun _ _ _ _ _ => (pe_call (ok_is_share T) (hr.mono (by decide)) rfl T.is_share.m T.is_share.F.kp (bi_is_share T) .nil pass0 (pa_cons (pv 5) (pa_cons (kpe_fld (K := K) rfl (pv 0) rfl) (pa_cons (kpe_fld (K := K) rfl (pv 0) rfl) pa_nil)))))) pa_nil)) (by intro _; rfl)))))) (pss_one ps_never) pss_nil)
    (pss_cons (kps_fld (K := K) rfl (pv 0) (pe_call (ok_least_weights T) (hr.mono (by decide)) rfl T.least_weights.m T.least_weights.F.kp (bi_least_weights T) .nil pass0 (pa_cons (pv 3) pa_nil)) rfl)
    (pss_one (kps_fld (K := K) rfl (pv 0) (pe_call (ok_least_shares T) (hr.mono (by decide)) rfl T.least_shares.m T.least_shares.F.kp (bi_least_shares T) .nil pass0 (pa_cons (pv 4) pa_nil)) rfl)))))), ?_⟩
  exact ((sk_seq (sk_asgF T.Rule rfl rfl (gk_call (ak_cons gk_var (ak_cons gk_var ak_nil))))
    (sk_seq (sk_if (tk_or (tk_not (tk_truK (gk_call (ak_cons gk_var ak_nil)))) (tk_not (tk_truK (gk_cb cd_all (ak_cons (gk_lc (ik_seq gk_var) gt_name tk_yes (gk_call (ak_cons gk_var (ak_cons (gk_fldv T.Rule rfl) (ak_cons (gk_fldv T.Rule rfl) ak_nil)))) (by decide)) ak_nil))))) sk_never sk_next)
    (sk_seq (sk_if (tk_or (tk_not (tk_truK (gk_call (ak_cons gk_var ak_nil)))) (tk_not (tk_truK (gk_cb cd_all (ak_cons (gk_lc (ik_seq gk_var) gt_name tk_yes (gk_call (ak_cons gk_var (ak_cons (gk_fldv T.Rule rfl) (ak_cons (gk_fldv T.Rule rfl) ak_nil)))) (by decide)) ak_nil))))) sk_never sk_next)
    (sk_seq (sk_setf T.Rule rfl (gk_call (ak_cons gk_var ak_nil)))
    (sk_setf T.Rule rfl (gk_call (ak_cons gk_var ak_nil))))))) : SOk K _ b_Rule_init)
theorem sc_w_choose : FnScope nm_w_choose pm_w_choose (defScope s_w_choose) := ⟨rfl, rfl, rfl, by decide +kernel, rfl, by decide +kernel, by decide +kernel⟩
theorem bi_w_choose (T : Txt K mg) : Binds K T.w_choose.fd pm_w_choose [] := T.w_choose.F.binds fun _ _ _ _ _ _ us hl => by obtain ⟨_, _, rfl⟩ := len2 hl; rfl
theorem ok_w_choose (T : Txt K mg) : FnOk P w K mg base CX0 1 T.w_choose.f T.w_choose.fd pm_w_choose (spB K r_w_choose) := by
  have nd := sc_w_choose.nd
  refine data_B T.w_choose.F sc_w_choose fun cdv A outer s H E hr => ?_
  refine ⟨_, (pss_cons (ps_if (pt_cmpR op_gt (pe_ix (kix (K := K) rfl) (pv 0) pe_int (fun _ _ => rfl)) pe_int (nomark _)) (pss_cons (ps_set (i := 2) nd rfl (Or.inl rfl) (pe_op op_modA (pe_callTy cr_int (by rfl) T.int (by decide +kernel) (pa_cons (pe_ix (kix (K := K) rfl) (pv 0) pe_int (fun _ _ => rfl)) pa_nil)) (pv 1)))
    (pss_cons (ps_asg (pe_op op_fdivA (pe_ix (kix (K := K) rfl) (pv 0) pe_int (fun _ _ => rfl)) (pv 1)) (pg_sub (pv 0) pe_int set_list))
    (pss_one (ps_ret (pv 2))))) pss_nil)
    (pss_cons (ps_set (i := 3) nd rfl (Or.inl rfl) (pe_op op_modA (pe_callTy cr_int (by rfl) T.int (by decide +kernel) (pa_cons (pe_op (kop_addB (K := K) rfl) (pe_op op_mulA (pe_ix (kix (K := K) rfl) (pv 0) pe_int (fun _ _ => rfl)) pe_int) pe_int) pa_nil)) pe_int))
    (pss_cons (ps_asg (pe_op (kop_addB (K := K) rfl) (pe_op op_modA (pe_callTy cr_int (by rfl) T.int (by decide +kernel) (pa_cons (pe_op (kop_addB (K := K) rfl) (pe_op op_mulA (pv 3) pe_int) pe_int) pa_nil)) pe_int) pe_int) (pg_sub (pv 0) pe_int set_list))
    (pss_one (ps_ret (pe_op op_modA (pe_callTy cr_int (by rfl) T.int (by decide +kernel) (pa_cons (pe_op op_fdivA (pe_op (kop_addB (K := K) rfl) (pe_op op_mulA (pv 3) pe_int) (pe_ix (kix (K := K) rfl) (pv 0) pe_int (fun _ _ => rfl))) pe_int) pa_nil)) (pv 1))))))), ?_⟩
  exact ((sk_seq (sk_if (tk_test (gk_op od_gt (gk_by (gk_ixv gk_int) (gk_op od_ix gk_var gk_int)) gk_int)) (sk_seq (sk_set (gk_op od_mod (gk_cb cd_int (ak_cons (gk_by (gk_ixv gk_int) (gk_op od_ix gk_var gk_int)) ak_nil)) gk_var))
    (sk_seq (sk_put (gk_op od_fdiv (gk_by (gk_ixv gk_int) (gk_op od_ix gk_var gk_int)) gk_var) gk_int)
    (sk_ret gk_mv))) sk_next)
    (sk_seq (sk_set (gk_op od_mod (gk_cb cd_int (ak_cons (gk_op od_addB (gk_op od_mul (gk_by (gk_ixv gk_int) (gk_op od_ix gk_var gk_int)) gk_int) gk_int) ak_nil)) gk_int))
    (sk_seq (sk_put (gk_op od_addB (gk_op od_mod (gk_cb cd_int (ak_cons (gk_op od_addB (gk_op od_mul gk_var gk_int) gk_int) ak_nil)) gk_int) gk_int) gk_int)
    (sk_ret (gk_op od_mod (gk_cb cd_int (ak_cons (gk_op od_fdiv (gk_op od_addB (gk_op od_mul gk_var gk_int) (gk_by (gk_ixv gk_int) (gk_op od_ix gk_var gk_int))) gk_int) ak_nil)) gk_var))))) : SOk K _ b_w_choose)
theorem sc_w_one_of : FnScope nm_w_one_of pm_w_one_of (defScope s_w_one_of) := ⟨rfl, rfl, rfl, by decide +kernel, rfl, by decide +kernel, by decide +kernel⟩
theorem bi_w_one_of (T : Txt K mg) : Binds K T.w_one_of.fd pm_w_one_of [] := T.w_one_of.F.binds fun _ _ _ _ _ _ us hl => by obtain ⟨_, _, rfl⟩ := len2 hl; rfl
theorem ok_w_one_of (T : Txt K mg) : FnOk P w K mg base CX0 2 T.w_one_of.f T.w_one_of.fd pm_w_one_of (spB K r_w_one_of) := by
  have nd := sc_w_one_of.nd
  refine data_B T.w_one_of.F sc_w_one_of fun cdv A outer s H E hr => ?_
  refine ⟨_, (pss_one (ps_ret (pe_ix (kix (K := K) rfl) (pv 1) (pe_call (ok_w_choose T) (hr.mono (by decide)) rfl T.w_choose.m T.w_choose.F.kp (bi_w_choose T) .nil pass0 (pa_cons (pv 0) (pa_cons (pe_callB (kcr_len (K := K) rfl) (by rfl) T.len (by decide +kernel) (pa_cons (pv 1) pa_nil)) pa_nil))) (fun _ _ => rfl)))), ?_⟩
  exact ((sk_ret (gk_op od_ix gk_var (gk_callB (ak_cons (gk_cb cd_len (ak_cons gk_var ak_nil)) ak_nil)))) : SOk K _ b_w_one_of)
theorem sc_w_anything : FnScope nm_w_anything pm_w_anything (defScope s_w_anything) := ⟨rfl, rfl, rfl, by decide +kernel, rfl, by decide +kernel, by decide +kernel⟩
theorem bi_w_anything (T : Txt K mg) : Binds K T.w_anything.fd pm_w_anything [] := T.w_anything.F.binds fun _ _ _ _ _ _ us hl => by obtain ⟨_, _, rfl⟩ := len2 hl; rfl
theorem ok_w_anything_z (T : Txt K mg) : FnOk P w K mg base CX0 1 T.w_anything.f T.w_anything.fd pm_w_anything (spB K r_w_anything_z) := ⟨fun vs H Q E q => (by obtain ⟨_, _, _, _, _, _, _, _, _, _, _, _, _, _, e, _⟩ := q; cases e), fun A outer s H args us vs Q E hr e0 hb r q => (by obtain ⟨_, _, _, _, _, _, _, _, _, _, _, _, _, _, e, _⟩ := q; cases e)⟩
theorem ok_w_anything_0 (T : Txt K mg) : FnOk P w K mg base CX0 8 T.w_anything.f T.w_anything.fd pm_w_anything (spB K r_w_anything_0) := by
  have nd := sc_w_anything.nd
  refine data_B T.w_anything.F sc_w_anything fun cdv A outer s H E hr => ?_
  refine ⟨_, (pss_cons (ps_set (i := 2) nd rfl (Or.inl rfl) (pe_lst (pa_cons pe_non (pa_cons pe_bl (pa_cons pe_bl (pa_cons pe_int (pa_cons pe_int (pa_cons (pe_op op_subA pe_int pe_int) (pa_cons pe_int (pa_cons pe_str (pa_cons pe_str (pa_cons pe_str (pa_cons pe_str (pa_cons pe_str (pa_cons pe_str (pa_cons pe_str pa_nil))))))))))))))))
    (pss_cons (ps_set (i := 2) nd rfl (Or.inl rfl) (pe_op (kop_addB (K := K) rfl) (pv 2) (pe_lst (pa_cons (pe_make T.mk_Rule (ok_Rule_init T) (hr.mono (by decide)) rfl T.Rule.mg (bi_Rule_init_3 T).choose_spec.2 (bi_Rule_init_3 T).choose_spec.1 pass0 (pa_cons pe_int (pa_cons pe_int pa_nil))) (pa_cons (pe_lst pa_nil) (pa_cons (pe_tup pa_nil) (pa_cons pe_str (pa_cons (pe_tup (pa_cons pe_int (pa_cons pe_int pa_nil))) (pa_cons (pe_tup (pa_cons pe_int (pa_cons pe_int pa_nil))) (pa_cons (pe_lst (pa_cons pe_int (pa_cons pe_int pa_nil))) (pa_cons (pe_tup (pa_cons pe_int (pa_cons pe_int pa_nil))) (pa_cons (pe_tup (pa_cons pe_str (pa_cons (pe_tup (pa_cons pe_int (pa_cons pe_int pa_nil))) pa_nil))) pa_nil))))))))))))
    (pss_cons (ps_if (PW.pt (pw_or (pt_cmpR (kop_eq (K := K) rfl hr.units) (pv 1) pe_int (nomark _)) (pw_or1 (pt_cmpR op_gt (pe_call (ok_w_choose T) (hr.mono (by decide)) rfl T.w_choose.m T.w_choose.F.kp (bi_w_choose T) .nil pass0 (pa_cons (pv 0) (pa_cons pe_int pa_nil))) pe_int (nomark _))))) (pss_one (ps_ret (pe_call (ok_w_one_of T) (hr.mono (by decide)) rfl T.w_one_of.m T.w_one_of.F.kp (bi_w_one_of T) .nil pass0 (pa_cons (pv 0) (pa_cons (pv 2) pa_nil))))) pss_nil)
    (pss_cons (ps_setLc (i := 3) (own := [("_law_turn", 4)]) rfl nd rfl rfl (sw_true rfl rfl rfl (by decide +kernel)) (pi_range1 rfl T.range (pa_cons (pe_call (ok_w_choose T) (hr.mono (by decide)) rfl T.w_choose.m T.w_choose.F.kp (bi_w_choose T) .nil pass0 (pa_cons (pv 0) (pa_cons pe_int pa_nil))) pa_nil)) (blkOk_by (N := nm_w_anything) (sc := defScope s_w_anything) (by decide +kernel)) (fun _ _ _ _ _ => (pg_name (i := 4) nd rfl (Or.inl rfl))) (fun _ _ _ _ _ => pts_nil) (fun _ _ _ _ _ => (pe_call (ok_w_anything_z T) (hr.mono (by decide)) rfl T.w_anything.m T.w_anything.F.kp (bi_w_anything T) .nil pass0 (pa_cons (pv 0) (pa_cons (pe_op op_subA (pv 1) pe_int) pa_nil)))))
    (pss_one (ps_ret (pe_ifExp (pt_cmpR (kop_eq (K := K) rfl hr.units) (pe_call (ok_w_choose T) (hr.mono (by decide)) rfl T.w_choose.m T.w_choose.F.kp (bi_w_choose T) .nil pass0 (pa_cons (pv 0) (pa_cons pe_int pa_nil))) pe_int (nomark _)) (pe_callTy (kcr_tuple (K := K) rfl) (by rfl) T.tuple (by decide +kernel) (pa_cons (pv 3) pa_nil)) (pv 3)))))))), ?_⟩
  exact ((sk_seq (sk_set (gk_lst (ak_cons gk_non (ak_cons gk_bl (ak_cons gk_bl (ak_cons gk_int (ak_cons gk_int (ak_cons (gk_op od_sub gk_int gk_int) (ak_cons gk_int (ak_cons gk_str (ak_cons gk_str (ak_cons gk_str (ak_cons gk_str (ak_cons gk_str (ak_cons gk_str (ak_cons gk_str ak_nil))))))))))))))))
    (sk_seq (sk_set (gk_op od_addB gk_var (gk_lst (ak_cons (gk_make T.Rule (fun H => (drs_drop (T.Rule_init.d H) 0)) (ak_cons gk_int (ak_cons gk_int ak_nil))) (ak_cons (gk_lst ak_nil) (ak_cons (gk_tup ak_nil) (ak_cons gk_str (ak_cons (gk_tup (ak_cons gk_int (ak_cons gk_int ak_nil))) (ak_cons (gk_tup (ak_cons gk_int (ak_cons gk_int ak_nil))) (ak_cons (gk_lst (ak_cons gk_int (ak_cons gk_int ak_nil))) (ak_cons (gk_tup (ak_cons gk_int (ak_cons gk_int ak_nil))) (ak_cons (gk_tup (ak_cons gk_str (ak_cons (gk_tup (ak_cons gk_int (ak_cons gk_int ak_nil))) ak_nil))) ak_nil))))))))))))
    (sk_seq (sk_if (tk_or (tk_test (gk_op od_eq gk_var gk_int)) (tk_test (gk_op od_gt (gk_callB (ak_cons gk_int ak_nil)) gk_int))) (sk_ret (gk_callB (ak_cons gk_var ak_nil))) sk_next)
    (sk_seq (sk_set (gk_lc (ik_range1 (ak_cons (gk_callB (ak_cons gk_int ak_nil)) ak_nil)) gt_name tk_yes (gk_callB (ak_cons (gk_op od_sub gk_var gk_int) ak_nil)) (by decide)))
    (sk_ret (gk_if (tk_test (gk_op od_eq (gk_callB (ak_cons gk_int ak_nil)) gk_int)) (gk_cb cd_tuple (ak_cons gk_var ak_nil)) gk_var)))))) : SOk K _ b_w_anything_0)
theorem ok_w_anything_1 (T : Txt K mg) : FnOk P w K mg base CX0 9 T.w_anything.f T.w_anything.fd pm_w_anything (spB K r_w_anything_1) := by
  have nd := sc_w_anything.nd
  refine data_B T.w_anything.F sc_w_anything fun cdv A outer s H E hr => ?_
  refine ⟨_, (pss_cons (ps_set (i := 2) nd rfl (Or.inl rfl) (pe_lst (pa_cons pe_non (pa_cons pe_bl (pa_cons pe_bl (pa_cons pe_int (pa_cons pe_int (pa_cons (pe_op op_subA pe_int pe_int) (pa_cons pe_int (pa_cons pe_str (pa_cons pe_str (pa_cons pe_str (pa_cons pe_str (pa_cons pe_str (pa_cons pe_str (pa_cons pe_str pa_nil))))))))))))))))
    (pss_cons (ps_set (i := 2) nd rfl (Or.inl rfl) (pe_op (kop_addB (K := K) rfl) (pv 2) (pe_lst (pa_cons (pe_make T.mk_Rule (ok_Rule_init T) (hr.mono (by decide)) rfl T.Rule.mg (bi_Rule_init_3 T).choose_spec.2 (bi_Rule_init_3 T).choose_spec.1 pass0 (pa_cons pe_int (pa_cons pe_int pa_nil))) (pa_cons (pe_lst pa_nil) (pa_cons (pe_tup pa_nil) (pa_cons pe_str (pa_cons (pe_tup (pa_cons pe_int (pa_cons pe_int pa_nil))) (pa_cons (pe_tup (pa_cons pe_int (pa_cons pe_int pa_nil))) (pa_cons (pe_lst (pa_cons pe_int (pa_cons pe_int pa_nil))) (pa_cons (pe_tup (pa_cons pe_int (pa_cons pe_int pa_nil))) (pa_cons (pe_tup (pa_cons pe_str (pa_cons (pe_tup (pa_cons pe_int (pa_cons pe_int pa_nil))) pa_nil))) pa_nil))))))))))))
    (pss_cons (ps_if (PW.pt (pw_or (pt_cmpR (kop_eq (K := K) rfl hr.units) (pv 1) pe_int (nomark _)) (pw_or1 (pt_cmpR op_gt (pe_call (ok_w_choose T) (hr.mono (by decide)) rfl T.w_choose.m T.w_choose.F.kp (bi_w_choose T) .nil pass0 (pa_cons (pv 0) (pa_cons pe_int pa_nil))) pe_int (nomark _))))) (pss_one (ps_ret (pe_call (ok_w_one_of T) (hr.mono (by decide)) rfl T.w_one_of.m T.w_one_of.F.kp (bi_w_one_of T) .nil pass0 (pa_cons (pv 0) (pa_cons (pv 2) pa_nil))))) pss_nil)
    (pss_cons (ps_setLc (i := 3) (own := [("_law_turn", 4)]) rfl nd rfl rfl (sw_true rfl rfl rfl (by decide +kernel)) (pi_range1 rfl T.range (pa_cons (pe_call (ok_w_choose T) (hr.mono (by decide)) rfl T.w_choose.m T.w_choose.F.kp (bi_w_choose T) .nil pass0 (pa_cons (pv 0) (pa_cons pe_int pa_nil))) pa_nil)) (blkOk_by (N := nm_w_anything) (sc := defScope s_w_anything) (by decide +kernel)) (fun _ _ _ _ _ => (pg_name (i := 4) nd rfl (Or.inl rfl))) (fun _ _ _ _ _ => pts_nil) (fun _ _ _ _ _ => (pe_call (ok_w_anything_0 T) (hr.mono (by decide)) rfl T.w_anything.m T.w_anything.F.kp (bi_w_anything T) .nil pass0 (pa_cons (pv 0) (pa_cons (pe_op op_subA (pv 1) pe_int) pa_nil)))))
    (pss_one (ps_ret (pe_ifExp (pt_cmpR (kop_eq (K := K) rfl hr.units) (pe_call (ok_w_choose T) (hr.mono (by decide)) rfl T.w_choose.m T.w_choose.F.kp (bi_w_choose T) .nil pass0 (pa_cons (pv 0) (pa_cons pe_int pa_nil))) pe_int (nomark _)) (pe_callTy (kcr_tuple (K := K) rfl) (by rfl) T.tuple (by decide +kernel) (pa_cons (pv 3) pa_nil)) (pv 3)))))))), ?_⟩
  exact ((sk_seq (sk_set (gk_lst (ak_cons gk_non (ak_cons gk_bl (ak_cons gk_bl (ak_cons gk_int (ak_cons gk_int (ak_cons (gk_op od_sub gk_int gk_int) (ak_cons gk_int (ak_cons gk_str (ak_cons gk_str (ak_cons gk_str (ak_cons gk_str (ak_cons gk_str (ak_cons gk_str (ak_cons gk_str ak_nil))))))))))))))))
    (sk_seq (sk_set (gk_op od_addB gk_var (gk_lst (ak_cons (gk_make T.Rule (fun H => (drs_drop (T.Rule_init.d H) 0)) (ak_cons gk_int (ak_cons gk_int ak_nil))) (ak_cons (gk_lst ak_nil) (ak_cons (gk_tup ak_nil) (ak_cons gk_str (ak_cons (gk_tup (ak_cons gk_int (ak_cons gk_int ak_nil))) (ak_cons (gk_tup (ak_cons gk_int (ak_cons gk_int ak_nil))) (ak_cons (gk_lst (ak_cons gk_int (ak_cons gk_int ak_nil))) (ak_cons (gk_tup (ak_cons gk_int (ak_cons gk_int ak_nil))) (ak_cons (gk_tup (ak_cons gk_str (ak_cons (gk_tup (ak_cons gk_int (ak_cons gk_int ak_nil))) ak_nil))) ak_nil))))))))))))
    (sk_seq (sk_if (tk_or (tk_test (gk_op od_eq gk_var gk_int)) (tk_test (gk_op od_gt (gk_callB (ak_cons gk_int ak_nil)) gk_int))) (sk_ret (gk_callB (ak_cons gk_var ak_nil))) sk_next)
    (sk_seq (sk_set (gk_lc (ik_range1 (ak_cons (gk_callB (ak_cons gk_int ak_nil)) ak_nil)) gt_name tk_yes (gk_callB (ak_cons (gk_op od_sub gk_var gk_int) ak_nil)) (by decide)))
    (sk_ret (gk_if (tk_test (gk_op od_eq (gk_callB (ak_cons gk_int ak_nil)) gk_int)) (gk_cb cd_tuple (ak_cons gk_var ak_nil)) gk_var)))))) : SOk K _ b_w_anything_1)
theorem ok_w_anything_2 (T : Txt K mg) : FnOk P w K mg base CX0 10 T.w_anything.f T.w_anything.fd pm_w_anything (spB K r_w_anything_2) := by
  have nd := sc_w_anything.nd
  refine data_B T.w_anything.F sc_w_anything fun cdv A outer s H E hr => ?_
  refine ⟨_, (pss_cons (ps_set (i := 2) nd rfl (Or.inl rfl) (pe_lst (pa_cons pe_non (pa_cons pe_bl (pa_cons pe_bl (pa_cons pe_int (pa_cons pe_int (pa_cons (pe_op op_subA pe_int pe_int) (pa_cons pe_int (pa_cons pe_str (pa_cons pe_str (pa_cons pe_str (pa_cons pe_str (pa_cons pe_str (pa_cons pe_str (pa_cons pe_str pa_nil))))))))))))))))
    (pss_cons (ps_set (i := 2) nd rfl (Or.inl rfl) (pe_op (kop_addB (K := K) rfl) (pv 2) (pe_lst (pa_cons (pe_make T.mk_Rule (ok_Rule_init T) (hr.mono (by decide)) rfl T.Rule.mg (bi_Rule_init_3 T).choose_spec.2 (bi_Rule_init_3 T).choose_spec.1 pass0 (pa_cons pe_int (pa_cons pe_int pa_nil))) (pa_cons (pe_lst pa_nil) (pa_cons (pe_tup pa_nil) (pa_cons pe_str (pa_cons (pe_tup (pa_cons pe_int (pa_cons pe_int pa_nil))) (pa_cons (pe_tup (pa_cons pe_int (pa_cons pe_int pa_nil))) (pa_cons (pe_lst (pa_cons pe_int (pa_cons pe_int pa_nil))) (pa_cons (pe_tup (pa_cons pe_int (pa_cons pe_int pa_nil))) (pa_cons (pe_tup (pa_cons pe_str (pa_cons (pe_tup (pa_cons pe_int (pa_cons pe_int pa_nil))) pa_nil))) pa_nil))))))))))))
    (pss_cons (ps_if (PW.pt (pw_or (pt_cmpR (kop_eq (K := K) rfl hr.units) (pv 1) pe_int (nomark _)) (pw_or1 (pt_cmpR op_gt (pe_call (ok_w_choose T) (hr.mono (by decide)) rfl T.w_choose.m T.w_choose.F.kp (bi_w_choose T) .nil pass0 (pa_cons (pv 0) (pa_cons pe_int pa_nil))) pe_int (nomark _))))) (pss_one (ps_ret (pe_call (ok_w_one_of T) (hr.mono (by decide)) rfl T.w_one_of.m T.w_one_of.F.kp (bi_w_one_of T) .nil pass0 (pa_cons (pv 0) (pa_cons (pv 2) pa_nil))))) pss_nil)
    (pss_cons (ps_setLc (i := 3) (own := [("_law_turn", 4)]) rfl nd rfl rfl (sw_true rfl rfl rfl (by decide +kernel)) (pi_range1 rfl T.range (pa_cons (pe_call (ok_w_choose T) (hr.mono (by decide)) rfl T.w_choose.m T.w_choose.F.kp (bi_w_choose T) .nil pass0 (pa_cons (pv 0) (pa_cons pe_int pa_nil))) pa_nil)) (blkOk_by (N := nm_w_anything) (sc := defScope s_w_anything) (by decide +kernel)) (fun _ _ _ _ _ => (pg_name (i := 4) nd rfl (Or.inl rfl))) (fun _ _ _ _ _ => pts_nil) (fun _ _ _ _ _ => (pe_call (ok_w_anything_1 T) (hr.mono (by decide)) rfl T.w_anything.m T.w_anything.F.kp (bi_w_anything T) .nil pass0 (pa_cons (pv 0) (pa_cons (pe_op op_subA (pv 1) pe_int) pa_nil)))))
    (pss_one (ps_ret (pe_ifExp (pt_cmpR (kop_eq (K := K) rfl hr.units) (pe_call (ok_w_choose T) (hr.mono (by decide)) rfl T.w_choose.m T.w_choose.F.kp (bi_w_choose T) .nil pass0 (pa_cons (pv 0) (pa_cons pe_int pa_nil))) pe_int (nomark _)) (pe_callTy (kcr_tuple (K := K) rfl) (by rfl) T.tuple (by decide +kernel) (pa_cons (pv 3) pa_nil)) (pv 3)))))))), ?_⟩
  exact ((sk_seq (sk_set (gk_lst (ak_cons gk_non (ak_cons gk_bl (ak_cons gk_bl (ak_cons gk_int (ak_cons gk_int (ak_cons (gk_op od_sub gk_int gk_int) (ak_cons gk_int (ak_cons gk_str (ak_cons gk_str (ak_cons gk_str (ak_cons gk_str (ak_cons gk_str (ak_cons gk_str (ak_cons gk_str ak_nil))))))))))))))))
    (sk_seq (sk_set (gk_op od_addB gk_var (gk_lst (ak_cons (gk_make T.Rule (fun H => (drs_drop (T.Rule_init.d H) 0)) (ak_cons gk_int (ak_cons gk_int ak_nil))) (ak_cons (gk_lst ak_nil) (ak_cons (gk_tup ak_nil) (ak_cons gk_str (ak_cons (gk_tup (ak_cons gk_int (ak_cons gk_int ak_nil))) (ak_cons (gk_tup (ak_cons gk_int (ak_cons gk_int ak_nil))) (ak_cons (gk_lst (ak_cons gk_int (ak_cons gk_int ak_nil))) (ak_cons (gk_tup (ak_cons gk_int (ak_cons gk_int ak_nil))) (ak_cons (gk_tup (ak_cons gk_str (ak_cons (gk_tup (ak_cons gk_int (ak_cons gk_int ak_nil))) ak_nil))) ak_nil))))))))))))
    (sk_seq (sk_if (tk_or (tk_test (gk_op od_eq gk_var gk_int)) (tk_test (gk_op od_gt (gk_callB (ak_cons gk_int ak_nil)) gk_int))) (sk_ret (gk_callB (ak_cons gk_var ak_nil))) sk_next)
    (sk_seq (sk_set (gk_lc (ik_range1 (ak_cons (gk_callB (ak_cons gk_int ak_nil)) ak_nil)) gt_name tk_yes (gk_callB (ak_cons (gk_op od_sub gk_var gk_int) ak_nil)) (by decide)))
    (sk_ret (gk_if (tk_test (gk_op od_eq (gk_callB (ak_cons gk_int ak_nil)) gk_int)) (gk_cb cd_tuple (ak_cons gk_var ak_nil)) gk_var)))))) : SOk K _ b_w_anything_2)
theorem ok_w_anything_3 (T : Txt K mg) : FnOk P w K mg base CX0 11 T.w_anything.f T.w_anything.fd pm_w_anything (spB K r_w_anything_3) := by
  have nd := sc_w_anything.nd
  refine data_B T.w_anything.F sc_w_anything fun cdv A outer s H E hr => ?_
  refine ⟨_, (pss_cons (ps_set (i := 2) nd rfl (Or.inl rfl) (pe_lst (pa_cons pe_non (pa_cons pe_bl (pa_cons pe_bl (pa_cons pe_int (pa_cons pe_int (pa_cons (pe_op op_subA pe_int pe_int) (pa_cons pe_int (pa_cons pe_str (pa_cons pe_str (pa_cons pe_str (pa_cons pe_str (pa_cons pe_str (pa_cons pe_str (pa_cons pe_str pa_nil))))))))))))))))
    (pss_cons (ps_set (i := 2) nd rfl (Or.inl rfl) (pe_op (kop_addB (K := K) rfl) (pv 2) (pe_lst (pa_cons (pe_make T.mk_Rule (ok_Rule_init T) (hr.mono (by decide)) rfl T.Rule.mg (bi_Rule_init_3 T).choose_spec.2 (bi_Rule_init_3 T).choose_spec.1 pass0 (pa_cons pe_int (pa_cons pe_int pa_nil))) (pa_cons (pe_lst pa_nil) (pa_cons (pe_tup pa_nil) (pa_cons pe_str (pa_cons (pe_tup (pa_cons pe_int (pa_cons pe_int pa_nil))) (pa_cons (pe_tup (pa_cons pe_int (pa_cons pe_int pa_nil))) (pa_cons (pe_lst (pa_cons pe_int (pa_cons pe_int pa_nil))) (pa_cons (pe_tup (pa_cons pe_int (pa_cons pe_int pa_nil))) (pa_cons (pe_tup (pa_cons pe_str (pa_cons (pe_tup (pa_cons pe_int (pa_cons pe_int pa_nil))) pa_nil))) pa_nil))))))))))))
    (pss_cons (ps_if (PW.pt (pw_or (pt_cmpR (kop_eq (K := K) rfl hr.units) (pv 1) pe_int (nomark _)) (pw_or1 (pt_cmpR op_gt (pe_call (ok_w_choose T) (hr.mono (by decide)) rfl T.w_choose.m T.w_choose.F.kp (bi_w_choose T) .nil pass0 (pa_cons (pv 0) (pa_cons pe_int pa_nil))) pe_int (nomark _))))) (pss_one (ps_ret (pe_call (ok_w_one_of T) (hr.mono (by decide)) rfl T.w_one_of.m T.w_one_of.F.kp (bi_w_one_of T) .nil pass0 (pa_cons (pv 0) (pa_cons (pv 2) pa_nil))))) pss_nil)
    (pss_cons (ps_setLc (i := 3) (own := [("_law_turn", 4)]) rfl nd rfl rfl (sw_true rfl rfl rfl (by decide +kernel)) (pi_range1 rfl T.range (pa_cons (pe_call (ok_w_choose T) (hr.mono (by decide)) rfl T.w_choose.m T.w_choose.F.kp (bi_w_choose T) .nil pass0 (pa_cons (pv 0) (pa_cons pe_int pa_nil))) pa_nil)) (blkOk_by (N := nm_w_anything) (sc := defScope s_w_anything) (by decide +kernel)) (fun _ _ _ _ _ => (pg_name (i := 4) nd rfl (Or.inl rfl))) (fun _ _ _ _ _ => pts_nil) (fun _ _ _ _ _ => (pe_call (ok_w_anything_2 T) (hr.mono (by decide)) rfl T.w_anything.m T.w_anything.F.kp (bi_w_anything T) .nil pass0 (pa_cons (pv 0) (pa_cons (pe_op op_subA (pv 1) pe_int) pa_nil)))))
    (pss_one (ps_ret (pe_ifExp (pt_cmpR (kop_eq (K := K) rfl hr.units) (pe_call (ok_w_choose T) (hr.mono (by decide)) rfl T.w_choose.m T.w_choose.F.kp (bi_w_choose T) .nil pass0 (pa_cons (pv 0) (pa_cons pe_int pa_nil))) pe_int (nomark _)) (pe_callTy (kcr_tuple (K := K) rfl) (by rfl) T.tuple (by decide +kernel) (pa_cons (pv 3) pa_nil)) (pv 3)))))))), ?_⟩
  exact ((sk_seq (sk_set (gk_lst (ak_cons gk_non (ak_cons gk_bl (ak_cons gk_bl (ak_cons gk_int (ak_cons gk_int (ak_cons (gk_op od_sub gk_int gk_int) (ak_cons gk_int (ak_cons gk_str (ak_cons gk_str (ak_cons gk_str (ak_cons gk_str (ak_cons gk_str (ak_cons gk_str (ak_cons gk_str ak_nil))))))))))))))))
    (sk_seq (sk_set (gk_op od_addB gk_var (gk_lst (ak_cons (gk_make T.Rule (fun H => (drs_drop (T.Rule_init.d H) 0)) (ak_cons gk_int (ak_cons gk_int ak_nil))) (ak_cons (gk_lst ak_nil) (ak_cons (gk_tup ak_nil) (ak_cons gk_str (ak_cons (gk_tup (ak_cons gk_int (ak_cons gk_int ak_nil))) (ak_cons (gk_tup (ak_cons gk_int (ak_cons gk_int ak_nil))) (ak_cons (gk_lst (ak_cons gk_int (ak_cons gk_int ak_nil))) (ak_cons (gk_tup (ak_cons gk_int (ak_cons gk_int ak_nil))) (ak_cons (gk_tup (ak_cons gk_str (ak_cons (gk_tup (ak_cons gk_int (ak_cons gk_int ak_nil))) ak_nil))) ak_nil))))))))))))
    (sk_seq (sk_if (tk_or (tk_test (gk_op od_eq gk_var gk_int)) (tk_test (gk_op od_gt (gk_callB (ak_cons gk_int ak_nil)) gk_int))) (sk_ret (gk_callB (ak_cons gk_var ak_nil))) sk_next)
    (sk_seq (sk_set (gk_lc (ik_range1 (ak_cons (gk_callB (ak_cons gk_int ak_nil)) ak_nil)) gt_name tk_yes (gk_callB (ak_cons (gk_op od_sub gk_var gk_int) ak_nil)) (by decide)))
    (sk_ret (gk_if (tk_test (gk_op od_eq (gk_callB (ak_cons gk_int ak_nil)) gk_int)) (gk_cb cd_tuple (ak_cons gk_var ak_nil)) gk_var)))))) : SOk K _ b_w_anything_3)
theorem ok_w_anything_4 (T : Txt K mg) : FnOk P w K mg base CX0 12 T.w_anything.f T.w_anything.fd pm_w_anything (spB K r_w_anything_4) := by
  have nd := sc_w_anything.nd
  refine data_B T.w_anything.F sc_w_anything fun cdv A outer s H E hr => ?_
  refine ⟨_, (pss_cons (ps_set (i := 2) nd rfl (Or.inl rfl) (pe_lst (pa_cons pe_non (pa_cons pe_bl (pa_cons pe_bl (pa_cons pe_int (pa_cons pe_int (pa_cons (pe_op op_subA pe_int pe_int) (pa_cons pe_int (pa_cons pe_str (pa_cons pe_str (pa_cons pe_str (pa_cons pe_str (pa_cons pe_str (pa_cons pe_str (pa_cons pe_str pa_nil))))))))))))))))
    (pss_cons (ps_set (i := 2) nd rfl (Or.inl rfl) (pe_op (kop_addB (K := K) rfl) (pv 2) (pe_lst (pa_cons (pe_make T.mk_Rule (ok_Rule_init T) (hr.mono (by decide)) rfl T.Rule.mg (bi_Rule_init_3 T).choose_spec.2 (bi_Rule_init_3 T).choose_spec.1 pass0 (pa_cons pe_int (pa_cons pe_int pa_nil))) (pa_cons (pe_lst pa_nil) (pa_cons (pe_tup pa_nil) (pa_cons pe_str (pa_cons (pe_tup (pa_cons pe_int (pa_cons pe_int pa_nil))) (pa_cons (pe_tup (pa_cons pe_int (pa_cons pe_int pa_nil))) (pa_cons (pe_lst (pa_cons pe_int (pa_cons pe_int pa_nil))) (pa_cons (pe_tup (pa_cons pe_int (pa_cons pe_int pa_nil))) (pa_cons (pe_tup (pa_cons pe_str (pa_cons (pe_tup (pa_cons pe_int (pa_cons pe_int pa_nil))) pa_nil))) pa_nil))))))))))))
    (pss_cons (ps_if (PW.pt (pw_or (pt_cmpR (kop_eq (K := K) rfl hr.units) (pv 1) pe_int (nomark _)) (pw_or1 (pt_cmpR op_gt (pe_call (ok_w_choose T) (hr.mono (by decide)) rfl T.w_choose.m T.w_choose.F.kp (bi_w_choose T) .nil pass0 (pa_cons (pv 0) (pa_cons pe_int pa_nil))) pe_int (nomark _))))) (pss_one (ps_ret (pe_call (ok_w_one_of T) (hr.mono (by decide)) rfl T.w_one_of.m T.w_one_of.F.kp (bi_w_one_of T) .nil pass0 (pa_cons (pv 0) (pa_cons (pv 2) pa_nil))))) pss_nil)
    (pss_cons (ps_setLc (i := 3) (own := [("_law_turn", 4)]) rfl nd rfl rfl (sw_true rfl rfl rfl (by decide +kernel)) (pi_range1 rfl T.range (pa_cons (pe_call (ok_w_choose T) (hr.mono (by decide)) rfl T.w_choose.m T.w_choose.F.kp (bi_w_choose T) .nil pass0 (pa_cons (pv 0) (pa_cons pe_int pa_nil))) pa_nil)) (blkOk_by (N := nm_w_anything) (sc := defScope s_w_anything) (by decide +kernel)) (fun _ _ _ _ _ => (pg_name (i := 4) nd rfl (Or.inl rfl))) (fun _ _ _ _ _ => pts_nil) (fun _ _ _ _ _ => (pe_call (ok_w_anything_3 T) (hr.mono (by decide)) rfl T.w_anything.m T.w_anything.F.kp (bi_w_anything T) .nil pass0 (pa_cons (pv 0) (pa_cons (pe_op op_subA (pv 1) pe_int) pa_nil)))))
    (pss_one (ps_ret (pe_ifExp (pt_cmpR (kop_eq (K := K) rfl hr.units) (pe_call (ok_w_choose T) (hr.mono (by decide)) rfl T.w_choose.m T.w_choose.F.kp (bi_w_choose T) .nil pass0 (pa_cons (pv 0) (pa_cons pe_int pa_nil))) pe_int (nomark _)) (pe_callTy (kcr_tuple (K := K) rfl) (by rfl) T.tuple (by decide +kernel) (pa_cons (pv 3) pa_nil)) (pv 3)))))))), ?_⟩
  exact ((sk_seq (sk_set (gk_lst (ak_cons gk_non (ak_cons gk_bl (ak_cons gk_bl (ak_cons gk_int (ak_cons gk_int (ak_cons (gk_op od_sub gk_int gk_int) (ak_cons gk_int (ak_cons gk_str (ak_cons gk_str (ak_cons gk_str (ak_cons gk_str (ak_cons gk_str (ak_cons gk_str (ak_cons gk_str ak_nil))))))))))))))))
    (sk_seq (sk_set (gk_op od_addB gk_var (gk_lst (ak_cons (gk_make T.Rule (fun H => (drs_drop (T.Rule_init.d H) 0)) (ak_cons gk_int (ak_cons gk_int ak_nil))) (ak_cons (gk_lst ak_nil) (ak_cons (gk_tup ak_nil) (ak_cons gk_str (ak_cons (gk_tup (ak_cons gk_int (ak_cons gk_int ak_nil))) (ak_cons (gk_tup (ak_cons gk_int (ak_cons gk_int ak_nil))) (ak_cons (gk_lst (ak_cons gk_int (ak_cons gk_int ak_nil))) (ak_cons (gk_tup (ak_cons gk_int (ak_cons gk_int ak_nil))) (ak_cons (gk_tup (ak_cons gk_str (ak_cons (gk_tup (ak_cons gk_int (ak_cons gk_int ak_nil))) ak_nil))) ak_nil))))))))))))
    (sk_seq (sk_if (tk_or (tk_test (gk_op od_eq gk_var gk_int)) (tk_test (gk_op od_gt (gk_callB (ak_cons gk_int ak_nil)) gk_int))) (sk_ret (gk_callB (ak_cons gk_var ak_nil))) sk_next)
    (sk_seq (sk_set (gk_lc (ik_range1 (ak_cons (gk_callB (ak_cons gk_int ak_nil)) ak_nil)) gt_name tk_yes (gk_callB (ak_cons (gk_op od_sub gk_var gk_int) ak_nil)) (by decide)))
    (sk_ret (gk_if (tk_test (gk_op od_eq (gk_callB (ak_cons gk_int ak_nil)) gk_int)) (gk_cb cd_tuple (ak_cons gk_var ak_nil)) gk_var)))))) : SOk K _ b_w_anything_4)
theorem ok_w_anything (T : Txt K mg) : FnOk P w K mg base CX0 13 T.w_anything.f T.w_anything.fd pm_w_anything (spB K r_w_anything) := by
  have nd := sc_w_anything.nd
  refine data_B T.w_anything.F sc_w_anything fun cdv A outer s H E hr => ?_
  refine ⟨_, (pss_cons (ps_set (i := 2) nd rfl (Or.inl rfl) (pe_lst (pa_cons pe_non (pa_cons pe_bl (pa_cons pe_bl (pa_cons pe_int (pa_cons pe_int (pa_cons (pe_op op_subA pe_int pe_int) (pa_cons pe_int (pa_cons pe_str (pa_cons pe_str (pa_cons pe_str (pa_cons pe_str (pa_cons pe_str (pa_cons pe_str (pa_cons pe_str pa_nil))))))))))))))))
    (pss_cons (ps_set (i := 2) nd rfl (Or.inl rfl) (pe_op (kop_addB (K := K) rfl) (pv 2) (pe_lst (pa_cons (pe_make T.mk_Rule (ok_Rule_init T) (hr.mono (by decide)) rfl T.Rule.mg (bi_Rule_init_3 T).choose_spec.2 (bi_Rule_init_3 T).choose_spec.1 pass0 (pa_cons pe_int (pa_cons pe_int pa_nil))) (pa_cons (pe_lst pa_nil) (pa_cons (pe_tup pa_nil) (pa_cons pe_str (pa_cons (pe_tup (pa_cons pe_int (pa_cons pe_int pa_nil))) (pa_cons (pe_tup (pa_cons pe_int (pa_cons pe_int pa_nil))) (pa_cons (pe_lst (pa_cons pe_int (pa_cons pe_int pa_nil))) (pa_cons (pe_tup (pa_cons pe_int (pa_cons pe_int pa_nil))) (pa_cons (pe_tup (pa_cons pe_str (pa_cons (pe_tup (pa_cons pe_int (pa_cons pe_int pa_nil))) pa_nil))) pa_nil))))))))))))
    (pss_cons (ps_if (PW.pt (pw_or (pt_cmpR (kop_eq (K := K) rfl hr.units) (pv 1) pe_int (nomark _)) (pw_or1 (pt_cmpR op_gt (pe_call (ok_w_choose T) (hr.mono (by decide)) rfl T.w_choose.m T.w_choose.F.kp (bi_w_choose T) .nil pass0 (pa_cons (pv 0) (pa_cons pe_int pa_nil))) pe_int (nomark _))))) (pss_one (ps_ret (pe_call (ok_w_one_of T) (hr.mono (by decide)) rfl T.w_one_of.m T.w_one_of.F.kp (bi_w_one_of T) .nil pass0 (pa_cons (pv 0) (pa_cons (pv 2) pa_nil))))) pss_nil)
    (pss_cons (ps_setLc (i := 3) (own := [("_law_turn", 4)]) rfl nd rfl rfl (sw_true rfl rfl rfl (by decide +kernel)) (pi_range1 rfl T.range (pa_cons (pe_call (ok_w_choose T) (hr.mono (by decide)) rfl T.w_choose.m T.w_choose.F.kp (bi_w_choose T) .nil pass0 (pa_cons (pv 0) (pa_cons pe_int pa_nil))) pa_nil)) (blkOk_by (N := nm_w_anything) (sc := defScope s_w_anything) (by decide +kernel)) (fun _ _ _ _ _ => (pg_name (i := 4) nd rfl (Or.inl rfl))) (fun _ _ _ _ _ => pts_nil) (fun _ _ _ _ _ => (pe_call (ok_w_anything_4 T) (hr.mono (by decide)) rfl T.w_anything.m T.w_anything.F.kp (bi_w_anything T) .nil pass0 (pa_cons (pv 0) (pa_cons (pe_op op_subA (pv 1) pe_int) pa_nil)))))
    (pss_one (ps_ret (pe_ifExp (pt_cmpR (kop_eq (K := K) rfl hr.units) (pe_call (ok_w_choose T) (hr.mono (by decide)) rfl T.w_choose.m T.w_choose.F.kp (bi_w_choose T) .nil pass0 (pa_cons (pv 0) (pa_cons pe_int pa_nil))) pe_int (nomark _)) (pe_callTy (kcr_tuple (K := K) rfl) (by rfl) T.tuple (by decide +kernel) (pa_cons (pv 3) pa_nil)) (pv 3)))))))), ?_⟩
  exact ((sk_seq (sk_set (gk_lst (ak_cons gk_non (ak_cons gk_bl (ak_cons gk_bl (ak_cons gk_int (ak_cons gk_int (ak_cons (gk_op od_sub gk_int gk_int) (ak_cons gk_int (ak_cons gk_str (ak_cons gk_str (ak_cons gk_str (ak_cons gk_str (ak_cons gk_str (ak_cons gk_str (ak_cons gk_str ak_nil))))))))))))))))
    (sk_seq (sk_set (gk_op od_addB gk_var (gk_lst (ak_cons (gk_make T.Rule (fun H => (drs_drop (T.Rule_init.d H) 0)) (ak_cons gk_int (ak_cons gk_int ak_nil))) (ak_cons (gk_lst ak_nil) (ak_cons (gk_tup ak_nil) (ak_cons gk_str (ak_cons (gk_tup (ak_cons gk_int (ak_cons gk_int ak_nil))) (ak_cons (gk_tup (ak_cons gk_int (ak_cons gk_int ak_nil))) (ak_cons (gk_lst (ak_cons gk_int (ak_cons gk_int ak_nil))) (ak_cons (gk_tup (ak_cons gk_int (ak_cons gk_int ak_nil))) (ak_cons (gk_tup (ak_cons gk_str (ak_cons (gk_tup (ak_cons gk_int (ak_cons gk_int ak_nil))) ak_nil))) ak_nil))))))))))))
    (sk_seq (sk_if (tk_or (tk_test (gk_op od_eq gk_var gk_int)) (tk_test (gk_op od_gt (gk_callB (ak_cons gk_int ak_nil)) gk_int))) (sk_ret (gk_callB (ak_cons gk_var ak_nil))) sk_next)
    (sk_seq (sk_set (gk_lc (ik_range1 (ak_cons (gk_callB (ak_cons gk_int ak_nil)) ak_nil)) gt_name tk_yes (gk_callB (ak_cons (gk_op od_sub gk_var gk_int) ak_nil)) (by decide)))
    (sk_ret (gk_if (tk_test (gk_op od_eq (gk_callB (ak_cons gk_int ak_nil)) gk_int)) (gk_cb cd_tuple (ak_cons gk_var ak_nil)) gk_var)))))) : SOk K _ b_w_anything)
theorem sc_w_made : FnScope nm_w_made pm_w_made (defScope s_w_made) := ⟨rfl, rfl, rfl, by decide +kernel, rfl, by decide +kernel, by decide +kernel⟩
theorem bi_w_made (T : Txt K mg) : Binds K T.w_made.fd pm_w_made [] := T.w_made.F.binds fun _ _ _ _ _ _ us hl => by obtain ⟨_, rfl⟩ := len1 hl; rfl
theorem ok_w_made (T : Txt K mg) : FnOk P w K mg base CX0 8 T.w_made.f T.w_made.fd pm_w_made (spF K r_w_made) := by
  have nd := sc_w_made.nd
  refine data_F T.w_made.F sc_w_made fun cdv A outer s H E hr => ?_
  refine ⟨_, (pss_one (ps_ret (pe_make T.mk_Rule (ok_Rule_init T) (hr.mono (by decide)) rfl T.Rule.mg (bi_Rule_init_5 T).choose_spec.2 (bi_Rule_init_5 T).choose_spec.1 pass0 (pa_cons (pe_ix (kix (K := K) rfl) (pv 0) pe_int (fun _ _ => rfl)) (pa_cons (pe_ix (kix (K := K) rfl) (pv 0) pe_int (fun _ _ => rfl)) (pa_cons (pe_ix (kix (K := K) rfl) (pv 0) pe_int (fun _ _ => rfl)) (pa_cons (pe_ix (kix (K := K) rfl) (pv 0) pe_int (fun _ _ => rfl)) pa_nil))))))), ?_⟩
  exact ((sk_ret (gk_make T.Rule (fun H => (drs_drop (T.Rule_init.d H) 2)) (ak_cons (gk_op od_ix gk_var gk_int) (ak_cons (gk_op od_ix gk_var gk_int) (ak_cons (gk_op od_ix gk_var gk_int) (ak_cons (gk_op od_ix gk_var gk_int) ak_nil)))))) : SOk K _ b_w_made)
theorem sc_w_is_less : FnScope nm_w_is_less pm_w_is_less (defScope s_w_is_less) := ⟨rfl, rfl, rfl, by decide +kernel, rfl, by decide +kernel, by decide +kernel⟩
theorem bi_w_is_less (T : Txt K mg) : Binds K T.w_is_less.fd pm_w_is_less [] := T.w_is_less.F.binds fun _ _ _ _ _ _ us hl => by obtain ⟨_, _, rfl⟩ := len2 hl; rfl
theorem ok_w_is_less (T : Txt K mg) : FnOk P w K mg base CX0 1 T.w_is_less.f T.w_is_less.fd pm_w_is_less (spF K r_w_is_less) := by
  have nd := sc_w_is_less.nd
  refine data_F T.w_is_less.F sc_w_is_less fun cdv A outer s H E hr => ?_
  refine ⟨_, (pss_one (ps_ret (pe_cmpR op_lt (pe_op op_mulA (pe_ix (kix (K := K) rfl) (pv 0) pe_int (fun _ _ => rfl)) (pe_ix (kix (K := K) rfl) (pv 1) pe_int (fun _ _ => rfl))) (pe_op op_mulA (pe_ix (kix (K := K) rfl) (pv 1) pe_int (fun _ _ => rfl)) (pe_ix (kix (K := K) rfl) (pv 0) pe_int (fun _ _ => rfl))) (nomark _)))), ?_⟩
  exact ((sk_ret (gk_op od_lt (gk_op od_mul (gk_op od_ix gk_var gk_int) (gk_op od_ix gk_var gk_int)) (gk_op od_mul (gk_op od_ix gk_var gk_int) (gk_op od_ix gk_var gk_int)))) : SOk K _ b_w_is_less)
theorem sc_w_divisor : FnScope nm_w_divisor pm_w_divisor (defScope s_w_divisor) := ⟨rfl, rfl, rfl, by decide +kernel, rfl, by decide +kernel, by decide +kernel⟩
theorem bi_w_divisor (T : Txt K mg) : Binds K T.w_divisor.fd pm_w_divisor [] := T.w_divisor.F.binds fun _ _ _ _ _ _ us hl => by obtain ⟨_, _, rfl⟩ := len2 hl; rfl
theorem ok_w_divisor (T : Txt K mg) : FnOk P w K mg base CX0 1 T.w_divisor.f T.w_divisor.fd pm_w_divisor (spF K r_w_divisor) := by
  have nd := sc_w_divisor.nd
  refine data_F T.w_divisor.F sc_w_divisor fun cdv A outer s H E hr => ?_
  refine ⟨_, (pss_cons (ps_par (i := 0) (j := 1) rfl nd rfl rfl (by decide) rfl rfl (pa_cons (pe_callB cr_abs (by rfl) T.abs (by decide +kernel) (pa_cons (pv 0) pa_nil)) (pa_cons (pe_callB cr_abs (by rfl) T.abs (by decide +kernel) (pa_cons (pv 1) pa_nil)) pa_nil)) (by rfl))
    (pss_cons (ps_while PassesOwn.never (pt_cmpR (kop_ne (K := K) rfl hr.units) (pv 1) pe_int (nomark _)) (pss_one (ps_par (i := 0) (j := 1) rfl nd rfl rfl (by decide) rfl rfl (pa_cons (pv 1) (pa_cons (pe_op op_modA (pe_callTy cr_int (by rfl) T.int (by decide +kernel) (pa_cons (pv 0) pa_nil)) (pv 1)) pa_nil)) (by rfl))))
    (pss_one (ps_ret (pv 0))))), ?_⟩
  exact ((sk_seq (sk_ypar (yk_cons (gk_cb cd_abs (ak_cons gk_var ak_nil)) (yk_cons (gk_cb cd_abs (ak_cons gk_var ak_nil)) yk_nil)))
    (sk_seq (sk_while (fuelI 1) (tk_test (gk_op od_ne gk_var gk_int)) ((sk_ypar (yk_cons gk_var (yk_cons (gk_op od_mod (gk_cb cd_int (ak_cons gk_var ak_nil)) gk_var) yk_nil))) : SOk K _ b_w_divisor_1))
    (sk_ret gk_mv))) : SOk K _ b_w_divisor)
theorem sc_w_number : FnScope nm_w_number pm_w_number (defScope s_w_number) := ⟨rfl, rfl, rfl, by decide +kernel, rfl, by decide +kernel, by decide +kernel⟩
theorem bi_w_number (T : Txt K mg) : Binds K T.w_number.fd pm_w_number [] := T.w_number.F.binds fun _ _ _ _ _ _ us hl => by obtain ⟨_, rfl⟩ := len1 hl; rfl
theorem ok_w_number (T : Txt K mg) : FnOk P w K mg base CX0 2 T.w_number.f T.w_number.fd pm_w_number (spF K r_w_number) := by
  have nd := sc_w_number.nd
  refine data_F T.w_number.F sc_w_number fun cdv A outer s H E hr => ?_
  refine ⟨_, (pss_cons (ps_if (PW.pt (pw_and (kpt_tru (K := K) rfl (pe_callB (kcr_isi (K := K) rfl) (by rfl) T.isinstance (by decide +kernel) (pa_cons (pv 0) (pa_cons (pe_bltn (v := .ty "int") (u := .type "int") (by rfl) T.int (by decide +kernel) rfl) pa_nil))) (by intro _; rfl)) (pw_and1 (pt_not (kpt_tru (K := K) rfl (pe_callB (kcr_isi (K := K) rfl) (by rfl) T.isinstance (by decide +kernel) (pa_cons (pv 0) (pa_cons (pe_bltn (v := .ty "bool") (u := .type "bool") (by rfl) T.bool (by decide +kernel) rfl) pa_nil))) (by intro _; rfl)))))) (pss_one (ps_ret (pe_tup (pa_cons (pv 0) (pa_cons pe_int pa_nil))))) pss_nil)
    (pss_cons (ps_if (PW.pt (pw_or (pt_not (kpt_tru (K := K) rfl (pe_callB (kcr_isi (K := K) rfl) (by rfl) T.isinstance (by decide +kernel) (pa_cons (pv 0) (pa_cons (pe_bltn (v := .ty "tuple") (u := .type "tuple") (by rfl) T.tuple (by decide +kernel) rfl) pa_nil))) (by intro _; rfl))) (pw_or1 (pt_cmpR (kop_ne (K := K) rfl hr.units) (pe_callB (kcr_len (K := K) rfl) (by rfl) T.len (by decide +kernel) (pa_cons (pv 0) pa_nil)) pe_int (nomark _))))) (pss_one (ps_ret pe_non)) pss_nil)
    (pss_cons (ps_if (pt_cmpR (kop_ne (K := K) rfl hr.units) (pe_lc (own := [("_law_one", 1)]) rfl nd (kpi_seq (K := K) rfl (pv 0)) (blkOk_by (N := nm_w_number) (sc := defScope s_w_number) (by decide +kernel)) (fun _ _ _ _ _ => (pg_name (i := 1) nd rfl (Or.inl rfl))) (fun _ _ _ _ _ => (pts_one (PW.pt (pw_or (kpt_tru (K := K) rfl (pe_callB (kcr_isi (K := K) rfl) (by rfl) T.isinstance (by decide +kernel) (pa_cons (pv 1) (pa_cons (pe_bltn (v := .ty "bool") (u := .type "bool") (by rfl) T.bool (by decide +kernel) rfl) pa_nil))) (by intro _; rfl)) (pw_or1 (pt_not (kpt_tru (K := K) rfl (pe_callB (kcr_isi (K := K) rfl) (by rfl) T.isinstance (by decide +kernel) (pa_cons (pv 1) (pa_cons (pe_bltn (v := .ty "int") (u := .type "int") (by rfl) T.int (by decide +kernel) rfl) pa_nil))) (by intro _; rfl)))))))) (fun _ _ _ _ _ => pe_int)) (pe_lst pa_nil) (nomark _)) (pss_one (ps_ret pe_non)) pss_nil)
    (pss_one (ps_ret (pe_ifExp (PW.pt (pw_and (pt_cmpR op_gt (pe_ix (kix (K := K) rfl) (pv 0) pe_int (fun _ _ => rfl)) pe_int (nomark _)) (pw_and1 (pt_cmpR (kop_eq (K := K) rfl hr.units) (pe_call (ok_w_divisor T) (hr.mono (by decide)) rfl T.w_divisor.m T.w_divisor.F.kp (bi_w_divisor T) .nil pass0 (pa_cons (pe_ix (kix (K := K) rfl) (pv 0) pe_int (fun _ _ => rfl)) (pa_cons (pe_ix (kix (K := K) rfl) (pv 0) pe_int (fun _ _ => rfl)) pa_nil))) pe_int (nomark _))))) (pv 0) pe_non)))))), ?_⟩
  exact ((sk_seq (sk_if (tk_and (tk_truK (gk_cb (cd_isiU T.Rule.at_ T.iu_Rule) (ak_cons gk_var (ak_cons (gk_c fun _ => .ty _) ak_nil)))) (tk_not (tk_truK (gk_cb (cd_isiU T.Rule.at_ T.iu_Rule) (ak_cons gk_var (ak_cons (gk_c fun _ => .ty _) ak_nil)))))) (sk_ret (gk_tup (ak_cons gk_var (ak_cons gk_int ak_nil)))) sk_next)
    (sk_seq (sk_if (tk_or (tk_not (tk_truK (gk_cb (cd_isiU T.Rule.at_ T.iu_Rule) (ak_cons gk_var (ak_cons (gk_c fun _ => .ty _) ak_nil))))) (tk_test (gk_op od_ne (gk_cb cd_len (ak_cons gk_var ak_nil)) gk_int))) (sk_ret gk_non) sk_next)
    (sk_seq (sk_if (tk_test (gk_op od_ne (gk_lc (ik_seq gk_var) gt_name (tk_or (tk_truK (gk_cb (cd_isiU T.Rule.at_ T.iu_Rule) (ak_cons gk_var (ak_cons (gk_c fun _ => .ty _) ak_nil)))) (tk_not (tk_truK (gk_cb (cd_isiU T.Rule.at_ T.iu_Rule) (ak_cons gk_var (ak_cons (gk_c fun _ => .ty _) ak_nil)))))) gk_int (by decide)) (gk_lst ak_nil))) (sk_ret gk_non) sk_next)
    (sk_ret (gk_if (tk_and (tk_test (gk_op od_gt (gk_op od_ix gk_var gk_int) gk_int)) (tk_test (gk_op od_eq (gk_call (ak_cons (gk_op od_ix gk_var gk_int) (ak_cons (gk_op od_ix gk_var gk_int) ak_nil))) gk_int))) gk_var gk_non))))) : SOk K _ b_w_number)
theorem sc_w_inside : FnScope nm_w_inside pm_w_inside (defScope s_w_inside) := ⟨rfl, rfl, rfl, by decide +kernel, rfl, by decide +kernel, by decide +kernel⟩
theorem bi_w_inside (T : Txt K mg) : Binds K T.w_inside.fd pm_w_inside [] := T.w_inside.F.binds fun _ _ _ _ _ _ us hl => by obtain ⟨_, _, rfl⟩ := len2 hl; rfl
theorem ok_w_inside (T : Txt K mg) : FnOk P w K mg base CX0 3 T.w_inside.f T.w_inside.fd pm_w_inside (spF K r_w_inside) := by
  have nd := sc_w_inside.nd
  refine data_F T.w_inside.F sc_w_inside fun cdv A outer s H E hr => ?_
  refine ⟨_, (pss_cons (ps_setLc (i := 2) (own := [("_law_one", 3)]) rfl nd rfl rfl (sw_true rfl rfl rfl (by decide +kernel)) (kpi_seq (K := K) rfl (pv 1)) (blkOk_by (N := nm_w_inside) (sc := defScope s_w_inside) (by decide +kernel)) (fun _ _ _ _ _ => (pg_name (i := 3) nd rfl (Or.inl rfl))) (fun _ _ _ _ _ => pts_nil) (fun _ _ _ _ _ => (pe_call (ok_w_number T) (hr.mono (by decide)) rfl T.w_number.m T.w_number.F.kp (bi_w_number T) .nil pass0 (pa_cons (pv 3) pa_nil))))
    (pss_cons (ps_for PassesOwn.never rfl (kpi_seq (K := K) rfl (pv 2)) (pg_name (i := 3) nd rfl (Or.inl rfl)) (pss_one (ps_if (PW.pt (pw_or (pt_cmpR op_isA (pv 3) pe_non (nomark _)) (pw_or (kpt_tru (K := K) rfl (pe_call (ok_w_is_less T) (hr.mono (by decide)) rfl T.w_is_less.m T.w_is_less.F.kp (bi_w_is_less T) .nil pass0 (pa_cons (pv 3) (pa_cons (pe_ix (kix (K := K) rfl) (pv 0) pe_int (fun _ _ => rfl)) pa_nil))) (by intro _; rfl)) (pw_or1 (kpt_tru (K := K) rfl (pe_call (ok_w_is_less T) (hr.mono (by decide)) rfl T.w_is_less.m T.w_is_less.F.kp (bi_w_is_less T) .nil pass0 (pa_cons (pe_ix (kix (K := K) rfl) (pv 0) pe_int (fun _ _ => rfl)) (pa_cons (pv 3) pa_nil))) (by intro _; rfl)))))) (pss_one (ps_ret pe_non)) pss_nil)))
    (pss_one (ps_ret (pv 2))))), ?_⟩
  exact ((sk_seq (sk_set (gk_lc (ik_seq gk_var) gt_name tk_yes (gk_call (ak_cons gk_var ak_nil)) (by decide)))
    (sk_seq (sk_for (ik_seq gk_var) gt_name ((sk_if (tk_or (tk_test (gk_op od_is gk_var gk_non)) (tk_or (tk_truK (gk_call (ak_cons gk_var (ak_cons (gk_op od_ix gk_var gk_int) ak_nil)))) (tk_truK (gk_call (ak_cons (gk_op od_ix gk_var gk_int) (ak_cons gk_var ak_nil)))))) (sk_ret gk_non) sk_next) : SOk K _ b_w_inside_1))
    (sk_ret gk_mv))) : SOk K _ b_w_inside)
theorem sc_w_low : FnScope nm_w_low pm_w_low (defScope s_w_low) := ⟨rfl, rfl, rfl, by decide +kernel, rfl, by decide +kernel, by decide +kernel⟩
theorem bi_w_low (T : Txt K mg) : Binds K T.w_low.fd pm_w_low [] := T.w_low.F.binds fun _ _ _ _ _ _ us hl => by obtain ⟨_, _, rfl⟩ := len2 hl; rfl
theorem ok_w_low (T : Txt K mg) : FnOk P w K mg base CX0 2 T.w_low.f T.w_low.fd pm_w_low (spF K r_w_low) := by
  have nd := sc_w_low.nd
  refine data_F T.w_low.F sc_w_low fun cdv A outer s H E hr => ?_
  refine ⟨_, (pss_cons (ps_set (i := 2) nd rfl (Or.inl rfl) (pe_op op_mulA (pe_call (ok_w_divisor T) (hr.mono (by decide)) rfl T.w_divisor.m T.w_divisor.F.kp (bi_w_divisor T) .nil pass0 (pa_cons (pv 0) (pa_cons (pv 1) pa_nil))) (pe_ifExp (pt_cmpR op_gt (pv 1) pe_int (nomark _)) pe_int (pe_op op_subA pe_int pe_int))))
    (pss_one (ps_ret (pe_tup (pa_cons (pe_op op_fdivA (pv 0) (pv 2)) (pa_cons (pe_op op_fdivA (pv 1) (pv 2)) pa_nil)))))), ?_⟩
  exact ((sk_seq (sk_set (gk_op od_mul (gk_call (ak_cons gk_var (ak_cons gk_var ak_nil))) (gk_if (tk_test (gk_op od_gt gk_var gk_int)) gk_int (gk_op od_sub gk_int gk_int))))
    (sk_ret (gk_tup (ak_cons (gk_op od_fdiv gk_var gk_var) (ak_cons (gk_op od_fdiv gk_var gk_var) ak_nil))))) : SOk K _ b_w_low)
theorem sc_w_minus : FnScope nm_w_minus pm_w_minus (defScope s_w_minus) := ⟨rfl, rfl, rfl, by decide +kernel, rfl, by decide +kernel, by decide +kernel⟩
theorem bi_w_minus (T : Txt K mg) : Binds K T.w_minus.fd pm_w_minus [] := T.w_minus.F.binds fun _ _ _ _ _ _ us hl => by obtain ⟨_, _, rfl⟩ := len2 hl; rfl
theorem ok_w_minus (T : Txt K mg) : FnOk P w K mg base CX0 3 T.w_minus.f T.w_minus.fd pm_w_minus (spF K r_w_minus) := by
  have nd := sc_w_minus.nd
  refine data_F T.w_minus.F sc_w_minus fun cdv A outer s H E hr => ?_
  refine ⟨_, (pss_one (ps_ret (pe_call (ok_w_low T) (hr.mono (by decide)) rfl T.w_low.m T.w_low.F.kp (bi_w_low T) .nil pass0 (pa_cons (pe_op op_subA (pe_op op_mulA (pe_ix (kix (K := K) rfl) (pv 0) pe_int (fun _ _ => rfl)) (pe_ix (kix (K := K) rfl) (pv 1) pe_int (fun _ _ => rfl))) (pe_op op_mulA (pe_ix (kix (K := K) rfl) (pv 1) pe_int (fun _ _ => rfl)) (pe_ix (kix (K := K) rfl) (pv 0) pe_int (fun _ _ => rfl)))) (pa_cons (pe_op op_mulA (pe_ix (kix (K := K) rfl) (pv 0) pe_int (fun _ _ => rfl)) (pe_ix (kix (K := K) rfl) (pv 1) pe_int (fun _ _ => rfl))) pa_nil))))), ?_⟩
  exact ((sk_ret (gk_call (ak_cons (gk_op od_sub (gk_op od_mul (gk_op od_ix gk_var gk_int) (gk_op od_ix gk_var gk_int)) (gk_op od_mul (gk_op od_ix gk_var gk_int) (gk_op od_ix gk_var gk_int))) (ak_cons (gk_op od_mul (gk_op od_ix gk_var gk_int) (gk_op od_ix gk_var gk_int)) ak_nil)))) : SOk K _ b_w_minus)
theorem sc_w_power : FnScope nm_w_power pm_w_power (defScope s_w_power) := ⟨rfl, rfl, rfl, by decide +kernel, rfl, by decide +kernel, by decide +kernel⟩
theorem bi_w_power (T : Txt K mg) : Binds K T.w_power.fd pm_w_power [] := T.w_power.F.binds fun _ _ _ _ _ _ us hl => by obtain ⟨_, _, rfl⟩ := len2 hl; rfl
theorem ok_w_power (T : Txt K mg) : FnOk P w K mg base CX0 1 T.w_power.f T.w_power.fd pm_w_power (spF K r_w_power) := by
  have nd := sc_w_power.nd
  refine data_F T.w_power.F sc_w_power fun cdv A outer s H E hr => ?_
  refine ⟨_, (pss_cons (ps_set (i := 2) nd rfl (Or.inl rfl) pe_int)
    (pss_cons (ps_for PassesOwn.never rfl (pi_range1 rfl T.range (pa_cons (pv 1) pa_nil)) (pg_name (i := 3) nd rfl (Or.inl rfl)) (pss_one (ps_set (i := 2) nd rfl (Or.inl rfl) (pe_op op_mulA (pv 2) (pv 0)))))
    (pss_one (ps_ret (pv 2))))), ?_⟩
  exact ((sk_seq (sk_set gk_int)
    (sk_seq (sk_for (ik_range1 (ak_cons gk_var ak_nil)) gt_name ((sk_set (gk_op od_mul gk_var gk_var)) : SOk K _ b_w_power_1))
    (sk_ret gk_mv))) : SOk K _ b_w_power)
theorem sc_w_raised : FnScope nm_w_raised pm_w_raised (defScope s_w_raised) := ⟨rfl, rfl, rfl, by decide +kernel, rfl, by decide +kernel, by decide +kernel⟩
theorem bi_w_raised (T : Txt K mg) : Binds K T.w_raised.fd pm_w_raised [] := T.w_raised.F.binds fun _ _ _ _ _ _ us hl => by obtain ⟨_, _, rfl⟩ := len2 hl; rfl
theorem ok_w_raised (T : Txt K mg) : FnOk P w K mg base CX0 3 T.w_raised.f T.w_raised.fd pm_w_raised (spF K r_w_raised) := by
  have nd := sc_w_raised.nd
  refine data_F T.w_raised.F sc_w_raised fun cdv A outer s H E hr => ?_
  refine ⟨_, (pss_one (ps_ret (pe_call (ok_w_low T) (hr.mono (by decide)) rfl T.w_low.m T.w_low.F.kp (bi_w_low T) .nil pass0 (pa_cons (pe_call (ok_w_power T) (hr.mono (by decide)) rfl T.w_power.m T.w_power.F.kp (bi_w_power T) .nil pass0 (pa_cons (pe_ix (kix (K := K) rfl) (pv 0) pe_int (fun _ _ => rfl)) (pa_cons (pv 1) pa_nil))) (pa_cons (pe_call (ok_w_power T) (hr.mono (by decide)) rfl T.w_power.m T.w_power.F.kp (bi_w_power T) .nil pass0 (pa_cons (pe_ix (kix (K := K) rfl) (pv 0) pe_int (fun _ _ => rfl)) (pa_cons (pv 1) pa_nil))) pa_nil))))), ?_⟩
  exact ((sk_ret (gk_call (ak_cons (gk_call (ak_cons (gk_op od_ix gk_var gk_int) (ak_cons gk_var ak_nil))) (ak_cons (gk_call (ak_cons (gk_op od_ix gk_var gk_int) (ak_cons gk_var ak_nil))) ak_nil)))) : SOk K _ b_w_raised)
theorem sc_w_behind : FnScope nm_w_behind pm_w_behind (defScope s_w_behind) := ⟨rfl, rfl, rfl, by decide +kernel, rfl, by decide +kernel, by decide +kernel⟩
theorem bi_w_behind (T : Txt K mg) : Binds K T.w_behind.fd pm_w_behind [] := T.w_behind.F.binds fun _ _ _ _ _ _ us hl => by obtain ⟨_, _, _, rfl⟩ := len3 hl; rfl
theorem ok_w_behind (T : Txt K mg) : FnOk P w K mg base CX0 4 T.w_behind.f T.w_behind.fd pm_w_behind (spF K r_w_behind) := by
  have nd := sc_w_behind.nd
  refine data_F T.w_behind.F sc_w_behind fun cdv A outer s H E hr => ?_
  refine ⟨_, (pss_cons (ps_if (pt_not (kpt_tru (K := K) rfl (pe_call (ok_w_is_less T) (hr.mono (by decide)) rfl T.w_is_less.m T.w_is_less.F.kp (bi_w_is_less T) .nil pass0 (pa_cons (pv 0) (pa_cons (pv 1) pa_nil))) (by intro _; rfl))) (pss_one (ps_ret (pe_tup (pa_cons pe_int (pa_cons pe_int pa_nil))))) pss_nil)
    (pss_one (ps_ret (pe_call (ok_w_raised T) (hr.mono (by decide)) rfl T.w_raised.m T.w_raised.F.kp (bi_w_raised T) .nil pass0 (pa_cons (pe_call (ok_w_minus T) (hr.mono (by decide)) rfl T.w_minus.m T.w_minus.F.kp (bi_w_minus T) .nil pass0 (pa_cons (pv 1) (pa_cons (pv 0) pa_nil))) (pa_cons (pv 2) pa_nil)))))), ?_⟩
  exact ((sk_seq (sk_if (tk_not (tk_truK (gk_call (ak_cons gk_var (ak_cons gk_var ak_nil))))) (sk_ret (gk_tup (ak_cons gk_int (ak_cons gk_int ak_nil)))) sk_next)
    (sk_ret (gk_call (ak_cons (gk_call (ak_cons gk_var (ak_cons gk_var ak_nil))) (ak_cons gk_var ak_nil))))) : SOk K _ b_w_behind)
theorem sc_w_plus : FnScope nm_w_plus pm_w_plus (defScope s_w_plus) := ⟨rfl, rfl, rfl, by decide +kernel, rfl, by decide +kernel, by decide +kernel⟩
theorem bi_w_plus (T : Txt K mg) : Binds K T.w_plus.fd pm_w_plus [] := T.w_plus.F.binds fun _ _ _ _ _ _ us hl => by obtain ⟨_, _, rfl⟩ := len2 hl; rfl
theorem ok_w_plus (T : Txt K mg) : FnOk P w K mg base CX0 3 T.w_plus.f T.w_plus.fd pm_w_plus (spF K r_w_plus) := by
  have nd := sc_w_plus.nd
  refine data_F T.w_plus.F sc_w_plus fun cdv A outer s H E hr => ?_
  refine ⟨_, (pss_one (ps_ret (pe_call (ok_w_low T) (hr.mono (by decide)) rfl T.w_low.m T.w_low.F.kp (bi_w_low T) .nil pass0 (pa_cons (pe_op (kop_addB (K := K) rfl) (pe_op op_mulA (pe_ix (kix (K := K) rfl) (pv 0) pe_int (fun _ _ => rfl)) (pe_ix (kix (K := K) rfl) (pv 1) pe_int (fun _ _ => rfl))) (pe_op op_mulA (pe_ix (kix (K := K) rfl) (pv 1) pe_int (fun _ _ => rfl)) (pe_ix (kix (K := K) rfl) (pv 0) pe_int (fun _ _ => rfl)))) (pa_cons (pe_op op_mulA (pe_ix (kix (K := K) rfl) (pv 0) pe_int (fun _ _ => rfl)) (pe_ix (kix (K := K) rfl) (pv 1) pe_int (fun _ _ => rfl))) pa_nil))))), ?_⟩
  exact ((sk_ret (gk_call (ak_cons (gk_op od_addB (gk_op od_mul (gk_op od_ix gk_var gk_int) (gk_op od_ix gk_var gk_int)) (gk_op od_mul (gk_op od_ix gk_var gk_int) (gk_op od_ix gk_var gk_int))) (ak_cons (gk_op od_mul (gk_op od_ix gk_var gk_int) (gk_op od_ix gk_var gk_int)) ak_nil)))) : SOk K _ b_w_plus)
theorem sc_w_sum : FnScope nm_w_sum pm_w_sum (defScope s_w_sum) := ⟨rfl, rfl, rfl, by decide +kernel, rfl, by decide +kernel, by decide +kernel⟩
theorem bi_w_sum (T : Txt K mg) : Binds K T.w_sum.fd pm_w_sum [] := T.w_sum.F.binds fun _ _ _ _ _ _ us hl => by obtain ⟨_, rfl⟩ := len1 hl; rfl
theorem ok_w_sum (T : Txt K mg) : FnOk P w K mg base CX0 4 T.w_sum.f T.w_sum.fd pm_w_sum (spF K r_w_sum) := by
  have nd := sc_w_sum.nd
  refine data_F T.w_sum.F sc_w_sum fun cdv A outer s H E hr => ?_
  refine ⟨_, (pss_cons (ps_set (i := 1) nd rfl (Or.inl rfl) (pe_tup (pa_cons pe_int (pa_cons pe_int pa_nil))))
    (pss_cons (ps_for PassesOwn.never rfl (kpi_seq (K := K) rfl (pv 0)) (pg_name (i := 2) nd rfl (Or.inl rfl)) (pss_one (ps_set (i := 1) nd rfl (Or.inl rfl) (pe_call (ok_w_plus T) (hr.mono (by decide)) rfl T.w_plus.m T.w_plus.F.kp (bi_w_plus T) .nil pass0 (pa_cons (pv 1) (pa_cons (pv 2) pa_nil))))))
    (pss_one (ps_ret (pv 1))))), ?_⟩
  exact ((sk_seq (sk_set (gk_tup (ak_cons gk_int (ak_cons gk_int ak_nil))))
    (sk_seq (sk_for (ik_seq gk_var) gt_name ((sk_set (gk_call (ak_cons gk_var (ak_cons gk_var ak_nil)))) : SOk K _ b_w_sum_1))
    (sk_ret gk_mv))) : SOk K _ b_w_sum)
theorem sc_w_times : FnScope nm_w_times pm_w_times (defScope s_w_times) := ⟨rfl, rfl, rfl, by decide +kernel, rfl, by decide +kernel, by decide +kernel⟩
theorem bi_w_times (T : Txt K mg) : Binds K T.w_times.fd pm_w_times [] := T.w_times.F.binds fun _ _ _ _ _ _ us hl => by obtain ⟨_, _, rfl⟩ := len2 hl; rfl
theorem ok_w_times (T : Txt K mg) : FnOk P w K mg base CX0 3 T.w_times.f T.w_times.fd pm_w_times (spF K r_w_times) := by
  have nd := sc_w_times.nd
  refine data_F T.w_times.F sc_w_times fun cdv A outer s H E hr => ?_
  refine ⟨_, (pss_one (ps_ret (pe_call (ok_w_low T) (hr.mono (by decide)) rfl T.w_low.m T.w_low.F.kp (bi_w_low T) .nil pass0 (pa_cons (pe_op op_mulA (pe_ix (kix (K := K) rfl) (pv 0) pe_int (fun _ _ => rfl)) (pe_ix (kix (K := K) rfl) (pv 1) pe_int (fun _ _ => rfl))) (pa_cons (pe_op op_mulA (pe_ix (kix (K := K) rfl) (pv 0) pe_int (fun _ _ => rfl)) (pe_ix (kix (K := K) rfl) (pv 1) pe_int (fun _ _ => rfl))) pa_nil))))), ?_⟩
  exact ((sk_ret (gk_call (ak_cons (gk_op od_mul (gk_op od_ix gk_var gk_int) (gk_op od_ix gk_var gk_int)) (ak_cons (gk_op od_mul (gk_op od_ix gk_var gk_int) (gk_op od_ix gk_var gk_int)) ak_nil)))) : SOk K _ b_w_times)
theorem sc_w_of_kink : FnScope nm_w_of_kink pm_w_of_kink (defScope s_w_of_kink) := ⟨rfl, rfl, rfl, by decide +kernel, rfl, by decide +kernel, by decide +kernel⟩
theorem bi_w_of_kink (T : Txt K mg) : Binds K T.w_of_kink.fd pm_w_of_kink [] := T.w_of_kink.F.binds fun _ _ _ _ _ _ us hl => by obtain ⟨_, _, _, rfl⟩ := len3 hl; rfl
theorem ok_w_of_kink (T : Txt K mg) : FnOk P w K mg base CX0 5 T.w_of_kink.f T.w_of_kink.fd pm_w_of_kink (spF K r_w_of_kink) := by
  have nd := sc_w_of_kink.nd
  refine data_F T.w_of_kink.F sc_w_of_kink fun cdv A outer s H E hr => ?_
  refine ⟨_, (pss_cons (ps_setLc (i := 3) (own := [("_law_point", 8), ("_law_weight", 9)]) rfl nd rfl rfl (sw_true rfl rfl rfl (by decide +kernel)) (kpi_seq (K := K) rfl (pe_ix (kix (K := K) rfl) (pv 0) pe_int (fun _ _ => rfl))) (blkOk_by (N := nm_w_of_kink) (sc := defScope s_w_of_kink) (by decide +kernel)) (fun _ _ _ _ _ => (kpg_tup (K := K) (n := 2) rfl rfl (pgs_cons (pg_name (i := 8) nd rfl (Or.inl rfl)) (pgs_cons (pg_name (i := 9) nd rfl (Or.inl rfl)) pgs_nil)))) (fun _ _ _ _ _ => pts_nil) (fun _ _ _ _ _ => (pe_call (ok_w_times T) (hr.mono (by decide)) rfl T.w_times.m T.w_times.F.kp (bi_w_times T) .nil pass0 (pa_cons (pv 9) (pa_cons (pe_call (ok_w_behind T) (hr.mono (by decide)) rfl T.w_behind.m T.w_behind.F.kp (bi_w_behind T) .nil pass0 (pa_cons (pv 1) (pa_cons (pv 8) (pa_cons (pv 2) pa_nil)))) pa_nil)))))
    (pss_cons (ps_for PassesOwn.never rfl (kpi_seq (K := K) rfl (pe_ix (kix (K := K) rfl) (pv 0) pe_int (fun _ _ => rfl))) (kpg_tup (K := K) (n := 3) rfl rfl (pgs_cons (pg_name (i := 4) nd rfl (Or.inl rfl)) (pgs_cons (pg_name (i := 5) nd rfl (Or.inl rfl)) (pgs_cons (pg_name (i := 6) nd rfl (Or.inl rfl)) pgs_nil)))) (pss_cons (ps_set (i := 7) nd rfl (Or.inl rfl) (pe_call (ok_w_minus T) (hr.mono (by decide)) rfl T.w_minus.m T.w_minus.F.kp (bi_w_minus T) .nil pass0 (pa_cons (pe_call (ok_w_behind T) (hr.mono (by decide)) rfl T.w_behind.m T.w_behind.F.kp (bi_w_behind T) .nil pass0 (pa_cons (pv 1) (pa_cons (pv 5) (pa_cons (pe_op (kop_addB (K := K) rfl) (pv 2) pe_int) pa_nil)))) (pa_cons (pe_call (ok_w_behind T) (hr.mono (by decide)) rfl T.w_behind.m T.w_behind.F.kp (bi_w_behind T) .nil pass0 (pa_cons (pv 1) (pa_cons (pv 4) (pa_cons (pe_op (kop_addB (K := K) rfl) (pv 2) pe_int) pa_nil)))) pa_nil))))
    (pss_one (ps_expr (kpe_app (K := K) rfl (pv 3) (pe_call (ok_w_times T) (hr.mono (by decide)) rfl T.w_times.m T.w_times.F.kp (bi_w_times T) .nil pass0 (pa_cons (pv 6) (pa_cons (pe_call (ok_w_times T) (hr.mono (by decide)) rfl T.w_times.m T.w_times.F.kp (bi_w_times T) .nil pass0 (pa_cons (pv 7) (pa_cons (pe_tup (pa_cons pe_int (pa_cons (pe_op (kop_addB (K := K) rfl) (pv 2) pe_int) pa_nil))) pa_nil))) pa_nil))))))))
    (pss_one (ps_ret (pe_call (ok_w_sum T) (hr.mono (by decide)) rfl T.w_sum.m T.w_sum.F.kp (bi_w_sum T) .nil pass0 (pa_cons (pv 3) pa_nil)))))), ?_⟩
  exact ((sk_seq (sk_set (gk_lc (ik_seq (gk_op od_ix gk_var gk_int)) (gt_tup (gts_cons gt_name (gts_cons gt_name gts_nil))) tk_yes (gk_call (ak_cons gk_var (ak_cons (gk_call (ak_cons gk_var (ak_cons gk_var (ak_cons gk_var ak_nil)))) ak_nil))) (by decide)))
    (sk_seq (sk_for (ik_seq (gk_op od_ix gk_var gk_int)) (gt_tup (gts_cons gt_name (gts_cons gt_name (gts_cons gt_name gts_nil)))) ((sk_seq (sk_set (gk_call (ak_cons (gk_call (ak_cons gk_var (ak_cons gk_var (ak_cons (gk_op od_addB gk_var gk_int) ak_nil)))) (ak_cons (gk_call (ak_cons gk_var (ak_cons gk_var (ak_cons (gk_op od_addB gk_var gk_int) ak_nil)))) ak_nil))))
    (sk_app (gk_call (ak_cons gk_var (ak_cons (gk_call (ak_cons gk_var (ak_cons (gk_tup (ak_cons gk_int (ak_cons (gk_op od_addB gk_var gk_int) ak_nil))) ak_nil))) ak_nil))))) : SOk K _ b_w_of_kink_1))
    (sk_ret (gk_call (ak_cons gk_var ak_nil))))) : SOk K _ b_w_of_kink)
theorem sc_w_of_power : FnScope nm_w_of_power pm_w_of_power (defScope s_w_of_power) := ⟨rfl, rfl, rfl, by decide +kernel, rfl, by decide +kernel, by decide +kernel⟩
theorem bi_w_of_power (T : Txt K mg) : Binds K T.w_of_power.fd pm_w_of_power [] := T.w_of_power.F.binds fun _ _ _ _ _ _ us hl => by obtain ⟨_, _, rfl⟩ := len2 hl; rfl
theorem ok_w_of_power (T : Txt K mg) : FnOk P w K mg base CX0 5 T.w_of_power.f T.w_of_power.fd pm_w_of_power (spF K r_w_of_power) := by
  have nd := sc_w_of_power.nd
  refine data_F T.w_of_power.F sc_w_of_power fun cdv A outer s H E hr => ?_
  refine ⟨_, (pss_cons (ps_setLc (i := 2) (own := [("_law_point", 7), ("_law_weight", 8)]) rfl nd rfl rfl (sw_true rfl rfl rfl (by decide +kernel)) (kpi_seq (K := K) rfl (pe_ix (kix (K := K) rfl) (pv 0) pe_int (fun _ _ => rfl))) (blkOk_by (N := nm_w_of_power) (sc := defScope s_w_of_power) (by decide +kernel)) (fun _ _ _ _ _ => (kpg_tup (K := K) (n := 2) rfl rfl (pgs_cons (pg_name (i := 7) nd rfl (Or.inl rfl)) (pgs_cons (pg_name (i := 8) nd rfl (Or.inl rfl)) pgs_nil)))) (fun _ _ _ _ _ => pts_nil) (fun _ _ _ _ _ => (pe_call (ok_w_times T) (hr.mono (by decide)) rfl T.w_times.m T.w_times.F.kp (bi_w_times T) .nil pass0 (pa_cons (pv 8) (pa_cons (pe_call (ok_w_raised T) (hr.mono (by decide)) rfl T.w_raised.m T.w_raised.F.kp (bi_w_raised T) .nil pass0 (pa_cons (pv 7) (pa_cons (pv 1) pa_nil))) pa_nil)))))
    (pss_cons (ps_for PassesOwn.never rfl (kpi_seq (K := K) rfl (pe_ix (kix (K := K) rfl) (pv 0) pe_int (fun _ _ => rfl))) (kpg_tup (K := K) (n := 3) rfl rfl (pgs_cons (pg_name (i := 3) nd rfl (Or.inl rfl)) (pgs_cons (pg_name (i := 4) nd rfl (Or.inl rfl)) (pgs_cons (pg_name (i := 5) nd rfl (Or.inl rfl)) pgs_nil)))) (pss_cons (ps_set (i := 6) nd rfl (Or.inl rfl) (pe_call (ok_w_minus T) (hr.mono (by decide)) rfl T.w_minus.m T.w_minus.F.kp (bi_w_minus T) .nil pass0 (pa_cons (pe_call (ok_w_raised T) (hr.mono (by decide)) rfl T.w_raised.m T.w_raised.F.kp (bi_w_raised T) .nil pass0 (pa_cons (pv 4) (pa_cons (pe_op (kop_addB (K := K) rfl) (pv 1) pe_int) pa_nil))) (pa_cons (pe_call (ok_w_raised T) (hr.mono (by decide)) rfl T.w_raised.m T.w_raised.F.kp (bi_w_raised T) .nil pass0 (pa_cons (pv 3) (pa_cons (pe_op (kop_addB (K := K) rfl) (pv 1) pe_int) pa_nil))) pa_nil))))
    (pss_one (ps_expr (kpe_app (K := K) rfl (pv 2) (pe_call (ok_w_times T) (hr.mono (by decide)) rfl T.w_times.m T.w_times.F.kp (bi_w_times T) .nil pass0 (pa_cons (pv 5) (pa_cons (pe_call (ok_w_times T) (hr.mono (by decide)) rfl T.w_times.m T.w_times.F.kp (bi_w_times T) .nil pass0 (pa_cons (pv 6) (pa_cons (pe_tup (pa_cons pe_int (pa_cons (pe_op (kop_addB (K := K) rfl) (pv 1) pe_int) pa_nil))) pa_nil))) pa_nil))))))))
    (pss_one (ps_ret (pe_call (ok_w_sum T) (hr.mono (by decide)) rfl T.w_sum.m T.w_sum.F.kp (bi_w_sum T) .nil pass0 (pa_cons (pv 2) pa_nil)))))), ?_⟩
  exact ((sk_seq (sk_set (gk_lc (ik_seq (gk_op od_ix gk_var gk_int)) (gt_tup (gts_cons gt_name (gts_cons gt_name gts_nil))) tk_yes (gk_call (ak_cons gk_var (ak_cons (gk_call (ak_cons gk_var (ak_cons gk_var ak_nil))) ak_nil))) (by decide)))
    (sk_seq (sk_for (ik_seq (gk_op od_ix gk_var gk_int)) (gt_tup (gts_cons gt_name (gts_cons gt_name (gts_cons gt_name gts_nil)))) ((sk_seq (sk_set (gk_call (ak_cons (gk_call (ak_cons gk_var (ak_cons (gk_op od_addB gk_var gk_int) ak_nil))) (ak_cons (gk_call (ak_cons gk_var (ak_cons (gk_op od_addB gk_var gk_int) ak_nil))) ak_nil))))
    (sk_app (gk_call (ak_cons gk_var (ak_cons (gk_call (ak_cons gk_var (ak_cons (gk_tup (ak_cons gk_int (ak_cons (gk_op od_addB gk_var gk_int) ak_nil))) ak_nil))) ak_nil))))) : SOk K _ b_w_of_power_1))
    (sk_ret (gk_call (ak_cons gk_var ak_nil))))) : SOk K _ b_w_of_power)
theorem sc_w_no_right : FnScope nm_w_no_right pm_w_no_right (defScope s_w_no_right) := ⟨rfl, rfl, rfl, by decide +kernel, rfl, by decide +kernel, by decide +kernel⟩
theorem bi_w_no_right (T : Txt K mg) : Binds K T.w_no_right.fd pm_w_no_right [] := T.w_no_right.F.binds fun _ _ _ _ _ _ us hl => by obtain ⟨_, _, _, rfl⟩ := len3 hl; rfl
theorem ok_w_no_right (T : Txt K mg) : FnOk P w K mg base CX0 6 T.w_no_right.f T.w_no_right.fd pm_w_no_right (spF K r_w_no_right) := by
  have nd := sc_w_no_right.nd
  refine data_F T.w_no_right.F sc_w_no_right fun cdv A outer s H E hr => ?_
  refine ⟨_, (pss_cons (ps_if (PW.pt (pw_or (pt_not (kpt_tru (K := K) rfl (pe_callB (kcr_isi (K := K) rfl) (by rfl) T.isinstance (by decide +kernel) (pa_cons (pv 2) (pa_cons (pe_bltn (v := .ty "tuple") (u := .type "tuple") (by rfl) T.tuple (by decide +kernel) rfl) pa_nil))) (by intro _; rfl))) (pw_or (pt_cmpR op_lt (pe_callB (kcr_len (K := K) rfl) (by rfl) T.len (by decide +kernel) (pa_cons (pv 2) pa_nil)) pe_int (nomark _)) (pw_or1 (pt_not (kpt_tru (K := K) rfl (pe_callB (kcr_isi (K := K) rfl) (by rfl) T.isinstance (by decide +kernel) (pa_cons (pe_ix (kix (K := K) rfl) (pv 2) pe_int (fun _ _ => rfl)) (pa_cons (pe_bltn (v := .ty "str") (u := .type "str") (by rfl) T.str (by decide +kernel) rfl) pa_nil))) (by intro _; rfl))))))) (pss_one (ps_ret pe_bl)) pss_nil)
    (pss_cons (ps_if (PW.pt (pw_and (pt_cmpR (kop_eq (K := K) rfl hr.units) (pe_ix (kix (K := K) rfl) (pv 2) pe_int (fun _ _ => rfl)) pe_str (nomark _)) (pw_and1 (pt_cmpR (kop_eq (K := K) rfl hr.units) (pe_callB (kcr_len (K := K) rfl) (by rfl) T.len (by decide +kernel) (pa_cons (pv 2) pa_nil)) pe_int (nomark _))))) (pss_cons (ps_if (pt_cmpR (kop_ne (K := K) rfl hr.units) (pe_lc (own := [("_law_one", 11)]) rfl nd (kpi_seq (K := K) rfl (pe_slice (ksl_B (K := K) rfl) (pv 2) (po_some pe_int) po_none)) (blkOk_by (N := nm_w_no_right) (sc := defScope s_w_no_right) (by decide +kernel)) (fun _ _ _ _ _ => (pg_name (i := 11) nd rfl (Or.inl rfl))) (fun _ _ _ _ _ => (pts_one (PW.pt (pw_or (kpt_tru (K := K) rfl (pe_callB (kcr_isi (K := K) rfl) (by rfl) T.isinstance (by decide +kernel) (pa_cons (pv 11) (pa_cons (pe_bltn (v := .ty "bool") (u := .type "bool") (by rfl) T.bool (by decide +kernel) rfl) pa_nil))) (by intro _; rfl)) (pw_or1 (pt_not (kpt_tru (K := K) rfl (pe_callB (kcr_isi (K := K) rfl) (by rfl) T.isinstance (by decide +kernel) (pa_cons (pv 11) (pa_cons (pe_bltn (v := .ty "int") (u := .type "int") (by rfl) T.int (by decide +kernel) rfl) pa_nil))) (by intro _; rfl)))))))) (fun _ _ _ _ _ => pe_int)) (pe_lst pa_nil) (nomark _)) (pss_one (ps_ret pe_bl)) pss_nil)
    (pss_cons (ps_if (PW.pt (pw_or (pt_not (pt_chain op_le op_lt pe_int (pe_ix (kix (K := K) rfl) (pv 2) pe_int (fun _ _ => rfl)) (pv 1))) (pw_or1 (pt_cmpR (kop_notInB (K := K) rfl (r70 hr)) (pe_ix (kix (K := K) rfl) (pv 2) pe_int (fun _ _ => rfl)) (pe_tup (pa_cons pe_int (pa_cons (pe_op op_subA pe_int pe_int) pa_nil))) (by rfl))))) (pss_one (ps_ret pe_bl)) pss_nil)
    (pss_one (ps_ret (pe_cmpR op_lt (pe_op op_mulA (pe_ix (kix (K := K) rfl) (pv 2) pe_int (fun _ _ => rfl)) (pe_ix (kix (K := K) rfl) (pe_call (ok_w_of_power T) (hr.mono (by decide)) rfl T.w_of_power.m T.w_of_power.F.kp (bi_w_of_power T) .nil pass0 (pa_cons (pv 0) (pa_cons (pe_ix (kix (K := K) rfl) (pv 2) pe_int (fun _ _ => rfl)) pa_nil))) pe_int (fun _ _ => rfl))) pe_int (nomark _)))))) pss_nil)
    (pss_cons (ps_set (i := 3) nd rfl (Or.inr rfl) (pe_call (ok_w_inside T) (hr.mono (by decide)) rfl T.w_inside.m T.w_inside.F.kp (bi_w_inside T) .nil pass0 (pa_cons (pv 0) (pa_cons (pe_slice (ksl_B (K := K) rfl) (pv 2) (po_some pe_int) po_none) pa_nil))))
    (pss_cons (ps_if (pt_cmpR op_isA (pv 3) pe_non (nomark _)) (pss_one (ps_ret pe_bl)) pss_nil)
    (pss_cons (ps_if (PW.pt (pw_and (pt_cmpR (kop_eq (K := K) rfl hr.units) (pe_ix (kix (K := K) rfl) (pv 2) pe_int (fun _ _ => rfl)) pe_str (nomark _)) (pw_and (pt_cmpR (kop_eq (K := K) rfl hr.units) (pe_callB (kcr_len (K := K) rfl) (by rfl) T.len (by decide +kernel) (pa_cons (pv 2) pa_nil)) pe_int (nomark _)) (pw_and1 (pt_cmpR op_gt (pv 1) pe_int (nomark _)))))) (pss_one (ps_ret (pe_cmpR op_lt (pe_ix (kix (K := K) rfl) (pe_call (ok_w_of_kink T) (hr.mono (by decide)) rfl T.w_of_kink.m T.w_of_kink.F.kp (bi_w_of_kink T) .nil pass0 (pa_cons (pv 0) (pa_cons (pe_ix (kix (K := K) rfl) (pv 3) pe_int (fun _ _ => rfl)) (pa_cons (pe_op op_subA (pv 1) pe_int) pa_nil)))) pe_int (fun _ _ => rfl)) pe_int (nomark _)))) pss_nil)
    (pss_cons (ps_if (PW.pt (pw_and (pt_cmpR (kop_eq (K := K) rfl hr.units) (pe_ix (kix (K := K) rfl) (pv 2) pe_int (fun _ _ => rfl)) pe_str (nomark _)) (pw_and (pt_cmpR (kop_eq (K := K) rfl hr.units) (pe_callB (kcr_len (K := K) rfl) (by rfl) T.len (by decide +kernel) (pa_cons (pv 2) pa_nil)) pe_int (nomark _)) (pw_and1 (pt_cmpR (kop_eq (K := K) rfl hr.units) (pv 1) pe_int (nomark _)))))) (pss_one (ps_ret (pe_cmpR op_lt (pe_ix (kix (K := K) rfl) (pe_call (ok_w_sum T) (hr.mono (by decide)) rfl T.w_sum.m T.w_sum.F.kp (bi_w_sum T) .nil pass0 (pa_cons (pe_lc (own := [("_law_point", 12), ("_law_weight", 13)]) rfl nd (kpi_seq (K := K) rfl (pe_ix (kix (K := K) rfl) (pv 0) pe_int (fun _ _ => rfl))) (blkOk_by (N := nm_w_no_right) (sc := defScope s_w_no_right) (by decide +kernel)) (fun _ _ _ _ _ => (kpg_tup (K := K) (n := 2) rfl rfl (pgs_cons (pg_name (i := 12) nd rfl (Or.inl rfl)) (pgs_cons (pg_name (i := 13) nd rfl (Or.inl rfl)) pgs_nil)))) (fun _ _ _ _ _ => (pts_one (pt_cmpR (kop_eq (K := K) rfl hr.units) (pv 12) (pe_ix (kix (K := K) rfl) (pv 3) pe_int (fun _ _ => rfl)) (nomark _)))) (fun _ _ _ _ _ => (pv 13))) pa_nil)) pe_int (fun _ _ => rfl)) pe_int (nomark _)))) pss_nil)
    (pss_cons (ps_if (PW.pt (pw_or (pt_cmpR (kop_ne (K := K) rfl hr.units) (pe_ix (kix (K := K) rfl) (pv 2) pe_int (fun _ _ => rfl)) pe_str (nomark _)) (pw_or (pt_cmpR (kop_ne (K := K) rfl hr.units) (pe_callB (kcr_len (K := K) rfl) (by rfl) T.len (by decide +kernel) (pa_cons (pv 2) pa_nil)) pe_int (nomark _)) (pw_or (pt_cmpR op_gt (pv 1) pe_int (nomark _)) (pw_or1 (pt_not (kpt_tru (K := K) rfl (pe_call (ok_w_is_less T) (hr.mono (by decide)) rfl T.w_is_less.m T.w_is_less.F.kp (bi_w_is_less T) .nil pass0 (pa_cons (pe_ix (kix (K := K) rfl) (pv 3) pe_int (fun _ _ => rfl)) (pa_cons (pe_ix (kix (K := K) rfl) (pv 3) pe_int (fun _ _ => rfl)) pa_nil))) (by intro _; rfl)))))))) (pss_one (ps_ret pe_bl)) pss_nil)
    (pss_cons (ps_setLc (i := 4) (own := [("_law_part", 14)]) rfl nd rfl rfl (sw_true rfl rfl rfl (by decide +kernel)) (kpi_seq (K := K) rfl (pe_ix (kix (K := K) rfl) (pv 0) pe_int (fun _ _ => rfl))) (blkOk_by (N := nm_w_no_right) (sc := defScope s_w_no_right) (by decide +kernel)) (fun _ _ _ _ _ => (pg_name (i := 14) nd rfl (Or.inl rfl))) (fun _ _ _ _ _ => (pts_one (PW.pt (pw_and (kpt_tru (K := K) rfl (pe_call (ok_w_is_less T) (hr.mono (by decide)) rfl T.w_is_less.m T.w_is_less.F.kp (bi_w_is_less T) .nil pass0 (pa_cons (pe_ix (kix (K := K) rfl) (pv 3) pe_int (fun _ _ => rfl)) (pa_cons (pe_ix (kix (K := K) rfl) (pv 14) pe_int (fun _ _ => rfl)) pa_nil))) (by intro _; rfl)) (pw_and1 (kpt_tru (K := K) rfl (pe_call (ok_w_is_less T) (hr.mono (by decide)) rfl T.w_is_less.m T.w_is_less.F.kp (bi_w_is_less T) .nil pass0 (pa_cons (pe_ix (kix (K := K) rfl) (pv 14) pe_int (fun _ _ => rfl)) (pa_cons (pe_ix (kix (K := K) rfl) (pv 3) pe_int (fun _ _ => rfl)) pa_nil))) (by intro _; rfl))))))) (fun _ _ _ _ _ => (pv 14)))
    (pss_cons (ps_setLc (i := 5) (own := [("_law_point", 12), ("_law_weight", 13)]) rfl nd rfl rfl (sw_true rfl rfl rfl (by decide +kernel)) (kpi_seq (K := K) rfl (pv 4)) (blkOk_by (N := nm_w_no_right) (sc := defScope s_w_no_right) (by decide +kernel)) (fun _ _ _ _ _ => (kpg_tup (K := K) (n := 2) rfl rfl (pgs_cons (pg_name (i := 12) nd rfl (Or.inl rfl)) (pgs_cons (pg_name (i := 13) nd rfl (Or.inl rfl)) pgs_nil)))) (fun _ _ _ _ _ => pts_nil) (fun _ _ _ _ _ => (pv 13)))
    (pss_cons (ps_for PassesOwn.never rfl (kpi_seq (K := K) rfl (pe_ix (kix (K := K) rfl) (pv 0) pe_int (fun _ _ => rfl))) (kpg_tup (K := K) (n := 3) rfl rfl (pgs_cons (pg_name (i := 6) nd rfl (Or.inl rfl)) (pgs_cons (pg_name (i := 7) nd rfl (Or.inl rfl)) (pgs_cons (pg_name (i := 8) nd rfl (Or.inl rfl)) pgs_nil)))) (pss_cons (ps_set (i := 9) nd rfl (Or.inl rfl) (pe_ifExp (kpt_tru (K := K) rfl (pe_call (ok_w_is_less T) (hr.mono (by decide)) rfl T.w_is_less.m T.w_is_less.F.kp (bi_w_is_less T) .nil pass0 (pa_cons (pv 6) (pa_cons (pe_ix (kix (K := K) rfl) (pv 3) pe_int (fun _ _ => rfl)) pa_nil))) (by intro _; rfl)) (pe_ix (kix (K := K) rfl) (pv 3) pe_int (fun _ _ => rfl)) (pv 6)))
    (pss_cons (ps_set (i := 10) nd rfl (Or.inl rfl) (pe_ifExp (kpt_tru (K := K) rfl (pe_call (ok_w_is_less T) (hr.mono (by decide)) rfl T.w_is_less.m T.w_is_less.F.kp (bi_w_is_less T) .nil pass0 (pa_cons (pv 7) (pa_cons (pe_ix (kix (K := K) rfl) (pv 3) pe_int (fun _ _ => rfl)) pa_nil))) (by intro _; rfl)) (pv 7) (pe_ix (kix (K := K) rfl) (pv 3) pe_int (fun _ _ => rfl))))
    (pss_one (ps_if (kpt_tru (K := K) rfl (pe_call (ok_w_is_less T) (hr.mono (by decide)) rfl T.w_is_less.m T.w_is_less.F.kp (bi_w_is_less T) .nil pass0 (pa_cons (pv 9) (pa_cons (pv 10) pa_nil))) (by intro _; rfl)) (pss_one (ps_expr (kpe_app (K := K) rfl (pv 5) (pe_call (ok_w_times T) (hr.mono (by decide)) rfl T.w_times.m T.w_times.F.kp (bi_w_times T) .nil pass0 (pa_cons (pv 8) (pa_cons (pe_call (ok_w_minus T) (hr.mono (by decide)) rfl T.w_minus.m T.w_minus.F.kp (bi_w_minus T) .nil pass0 (pa_cons (pv 10) (pa_cons (pv 9) pa_nil))) pa_nil)))))) pss_nil)))))
    (pss_one (ps_ret (pe_cmpR op_lt (pe_ix (kix (K := K) rfl) (pe_call (ok_w_sum T) (hr.mono (by decide)) rfl T.w_sum.m T.w_sum.F.kp (bi_w_sum T) .nil pass0 (pa_cons (pv 5) pa_nil)) pe_int (fun _ _ => rfl)) pe_int (nomark _)))))))))))))), ?_⟩
  exact ((sk_seq (sk_if (tk_or (tk_not (tk_truK (gk_cb (cd_isiU T.Rule.at_ T.iu_Rule) (ak_cons gk_var (ak_cons (gk_c fun _ => .ty _) ak_nil))))) (tk_or (tk_test (gk_op od_lt (gk_cb cd_len (ak_cons gk_var ak_nil)) gk_int)) (tk_not (tk_truK (gk_cb (cd_isiU T.Rule.at_ T.iu_Rule) (ak_cons (gk_op od_ix gk_var gk_int) (ak_cons (gk_c fun _ => .ty _) ak_nil))))))) (sk_ret gk_bl) sk_next)
    (sk_seq (sk_if (tk_and (tk_test (gk_op od_eq (gk_op od_ix gk_var gk_int) gk_str)) (tk_test (gk_op od_eq (gk_cb cd_len (ak_cons gk_var ak_nil)) gk_int))) (sk_seq (sk_if (tk_test (gk_op od_ne (gk_lc (ik_seq (gk_sl sd_B gk_var (pk_some gk_int) pk_none)) gt_name (tk_or (tk_truK (gk_cb (cd_isiU T.Rule.at_ T.iu_Rule) (ak_cons gk_var (ak_cons (gk_c fun _ => .ty _) ak_nil)))) (tk_not (tk_truK (gk_cb (cd_isiU T.Rule.at_ T.iu_Rule) (ak_cons gk_var (ak_cons (gk_c fun _ => .ty _) ak_nil)))))) gk_int (by decide)) (gk_lst ak_nil))) (sk_ret gk_bl) sk_next)
    (sk_seq (sk_if (tk_or (tk_not (tk_test (gk_chain od_le od_lt gk_int (gk_op od_ix gk_var gk_int) gk_var))) (tk_test (gk_op od_inB (gk_op od_ix gk_var gk_int) (gk_tup (ak_cons gk_int (ak_cons (gk_op od_sub gk_int gk_int) ak_nil)))))) (sk_ret gk_bl) sk_next)
    (sk_ret (gk_op od_lt (gk_op od_mul (gk_op od_ix gk_var gk_int) (gk_op od_ix (gk_call (ak_cons gk_var (ak_cons (gk_op od_ix gk_var gk_int) ak_nil))) gk_int)) gk_int)))) sk_next)
    (sk_seq (sk_set (gk_call (ak_cons gk_var (ak_cons (gk_sl sd_B gk_var (pk_some gk_int) pk_none) ak_nil))))
    (sk_seq (sk_if (tk_test (gk_op od_is gk_var gk_non)) (sk_ret gk_bl) sk_next)
    (sk_seq (sk_if (tk_and (tk_test (gk_op od_eq (gk_op od_ix gk_var gk_int) gk_str)) (tk_and (tk_test (gk_op od_eq (gk_cb cd_len (ak_cons gk_var ak_nil)) gk_int)) (tk_test (gk_op od_gt gk_var gk_int)))) (sk_ret (gk_op od_lt (gk_op od_ix (gk_call (ak_cons gk_var (ak_cons (gk_op od_ix gk_var gk_int) (ak_cons (gk_op od_sub gk_var gk_int) ak_nil)))) gk_int) gk_int)) sk_next)
    (sk_seq (sk_if (tk_and (tk_test (gk_op od_eq (gk_op od_ix gk_var gk_int) gk_str)) (tk_and (tk_test (gk_op od_eq (gk_cb cd_len (ak_cons gk_var ak_nil)) gk_int)) (tk_test (gk_op od_eq gk_var gk_int)))) (sk_ret (gk_op od_lt (gk_op od_ix (gk_call (ak_cons (gk_lc (ik_seq (gk_op od_ix gk_var gk_int)) (gt_tup (gts_cons gt_name (gts_cons gt_name gts_nil))) (tk_test (gk_op od_eq gk_var (gk_op od_ix gk_var gk_int))) gk_var (by decide)) ak_nil)) gk_int) gk_int)) sk_next)
    (sk_seq (sk_if (tk_or (tk_test (gk_op od_ne (gk_op od_ix gk_var gk_int) gk_str)) (tk_or (tk_test (gk_op od_ne (gk_cb cd_len (ak_cons gk_var ak_nil)) gk_int)) (tk_or (tk_test (gk_op od_gt gk_var gk_int)) (tk_not (tk_truK (gk_call (ak_cons (gk_op od_ix gk_var gk_int) (ak_cons (gk_op od_ix gk_var gk_int) ak_nil)))))))) (sk_ret gk_bl) sk_next)
    (sk_seq (sk_set (gk_lc (ik_seq (gk_op od_ix gk_var gk_int)) gt_name (tk_and (tk_truK (gk_call (ak_cons (gk_op od_ix gk_var gk_int) (ak_cons (gk_op od_ix gk_var gk_int) ak_nil)))) (tk_truK (gk_call (ak_cons (gk_op od_ix gk_var gk_int) (ak_cons (gk_op od_ix gk_var gk_int) ak_nil))))) gk_var (by decide)))
    (sk_seq (sk_set (gk_lc (ik_seq gk_var) (gt_tup (gts_cons gt_name (gts_cons gt_name gts_nil))) tk_yes gk_var (by decide)))
    (sk_seq (sk_for (ik_seq (gk_op od_ix gk_var gk_int)) (gt_tup (gts_cons gt_name (gts_cons gt_name (gts_cons gt_name gts_nil)))) ((sk_seq (sk_set (gk_if (tk_truK (gk_call (ak_cons gk_var (ak_cons (gk_op od_ix gk_var gk_int) ak_nil)))) (gk_op od_ix gk_var gk_int) gk_var))
    (sk_seq (sk_set (gk_if (tk_truK (gk_call (ak_cons gk_var (ak_cons (gk_op od_ix gk_var gk_int) ak_nil)))) gk_var (gk_op od_ix gk_var gk_int)))
    (sk_if (tk_truK (gk_call (ak_cons gk_var (ak_cons gk_var ak_nil)))) (sk_app (gk_call (ak_cons gk_var (ak_cons (gk_call (ak_cons gk_var (ak_cons gk_var ak_nil))) ak_nil)))) sk_next))) : SOk K _ b_w_no_right_1))
    (sk_ret (gk_op od_lt (gk_op od_ix (gk_call (ak_cons gk_var ak_nil)) gk_int) gk_int)))))))))))) : SOk K _ b_w_no_right)
theorem sc_w_factor : FnScope nm_w_factor pm_w_factor (defScope s_w_factor) := ⟨rfl, rfl, rfl, by decide +kernel, rfl, by decide +kernel, by decide +kernel⟩
theorem bi_w_factor (T : Txt K mg) : Binds K T.w_factor.fd pm_w_factor [] := T.w_factor.F.binds fun _ _ _ _ _ _ us hl => by obtain ⟨_, _, rfl⟩ := len2 hl; rfl
theorem ok_w_factor (T : Txt K mg) : FnOk P w K mg base CX0 3 T.w_factor.f T.w_factor.fd pm_w_factor (spB K r_w_factor) := by
  have nd := sc_w_factor.nd
  refine data_B T.w_factor.F sc_w_factor fun cdv A outer s H E hr => ?_
  refine ⟨_, (pss_cons (ps_set (i := 2) nd rfl (Or.inl rfl) (pe_op (kop_addB (K := K) rfl) pe_int (pe_call (ok_w_choose T) (hr.mono (by decide)) rfl T.w_choose.m T.w_choose.F.kp (bi_w_choose T) .nil pass0 (pa_cons (pv 0) (pa_cons (pv 1) pa_nil)))))
    (pss_one (ps_ret (pe_call (ok_w_low T) (hr.mono (by decide)) rfl T.w_low.m T.w_low.F.kp (bi_w_low T) .nil pass0 (pa_cons (pe_ifExp (pt_cmpR (kop_eq (K := K) rfl hr.units) (pe_call (ok_w_choose T) (hr.mono (by decide)) rfl T.w_choose.m T.w_choose.F.kp (bi_w_choose T) .nil pass0 (pa_cons (pv 0) (pa_cons pe_int pa_nil))) pe_int (nomark _)) (pv 2) (pe_op op_subA pe_int (pv 2))) (pa_cons (pe_call (ok_w_one_of T) (hr.mono (by decide)) rfl T.w_one_of.m T.w_one_of.F.kp (bi_w_one_of T) .nil pass0 (pa_cons (pv 0) (pa_cons (pe_lst (pa_cons pe_int (pa_cons pe_int (pa_cons pe_int (pa_cons pe_int pa_nil))))) pa_nil))) pa_nil)))))), ?_⟩
  exact ((sk_seq (sk_set (gk_op od_addB gk_int (gk_callB (ak_cons gk_var ak_nil))))
    (sk_ret (gk_call (ak_cons (gk_if (tk_test (gk_op od_eq (gk_callB (ak_cons gk_int ak_nil)) gk_int)) gk_var (gk_op od_sub gk_int gk_var)) (ak_cons (gk_callB (ak_cons (gk_lst (ak_cons gk_int (ak_cons gk_int (ak_cons gk_int (ak_cons gk_int ak_nil))))) ak_nil)) ak_nil))))) : SOk K _ b_w_factor)
theorem sc_w_order : FnScope nm_w_order pm_w_order (defScope s_w_order) := ⟨rfl, rfl, rfl, by decide +kernel, rfl, by decide +kernel, by decide +kernel⟩
theorem bi_w_order (T : Txt K mg) : Binds K T.w_order.fd pm_w_order [] := T.w_order.F.binds fun _ _ _ _ _ _ us hl => by obtain ⟨_, rfl⟩ := len1 hl; rfl
theorem ok_w_order (T : Txt K mg) : FnOk P w K mg base CX0 2 T.w_order.f T.w_order.fd pm_w_order (spF K r_w_order) := by
  have nd := sc_w_order.nd
  refine data_F T.w_order.F sc_w_order fun cdv A outer s H E hr => ?_
  refine ⟨_, (pss_cons (ps_set (i := 1) nd rfl (Or.inl rfl) (pe_lst pa_nil))
    (pss_cons (ps_for PassesOwn.never rfl (kpi_seq (K := K) rfl (pv 0)) (pg_name (i := 2) nd rfl (Or.inr rfl)) (pss_cons (ps_set (i := 3) nd rfl (Or.inl rfl) (pe_callB (kcr_len (K := K) rfl) (by rfl) T.len (by decide +kernel) (pa_cons (pe_lc (own := [("_law_other", 4)]) rfl nd (kpi_seq (K := K) rfl (pv 1)) (blkOk_by (N := nm_w_order) (sc := defScope s_w_order) (by decide +kernel)) (fun _ _ _ _ _ => (pg_name (i := 4) nd rfl (Or.inl rfl))) (fun _ _ _ _ _ => (pts_one (kpt_tru (K := K) rfl (pe_call (ok_w_is_less T) (hr.mono (by decide)) rfl T.w_is_less.m T.w_is_less.F.kp (bi_w_is_less T) .nil pass0 (pa_cons (pv 4) (pa_cons (pv 2) pa_nil))) (by intro _; rfl)))) (fun _ _ _ _ _ => pe_int)) pa_nil)))
    (pss_one (ps_if (pt_cmpR (kop_ne (K := K) rfl hr.units) (pe_slice (ksl_B (K := K) rfl) (pv 1) (po_some (pv 3)) (po_some (pe_op (kop_addB (K := K) rfl) (pv 3) pe_int))) (pe_lst (pa_cons (pv 2) pa_nil)) (nomark _)) (pss_one (ps_expr (kpe_bm (K := K) (r := rInsert) rfl PySem.F.plainAttrs_list PySem.F.slot_list_insert PySem.F.type_list_insert mt_insert (pv 1) (pa_cons (pv 3) (pa_cons (pv 2) pa_nil))))) pss_nil))))
    (pss_one (ps_ret (pv 1))))), ?_⟩
  exact ((sk_seq (sk_set (gk_lst ak_nil))
    (sk_seq (sk_for (ik_seq gk_var) gt_name ((sk_seq (sk_set (gk_cb cd_len (ak_cons (gk_by (gk_lcv gt_name (tk_truK (gk_call (ak_cons gk_var (ak_cons gk_var ak_nil)))) gk_int (by decide)) (gk_lc (ik_seq gk_var) gt_name (tk_truK (gk_call (ak_cons gk_var (ak_cons gk_var ak_nil)))) gk_int (by decide))) ak_nil)))
    (sk_if (tk_test (gk_op od_ne (gk_by (gk_slv (pk_some gk_var) (pk_some (gk_op od_addB gk_var gk_int))) (gk_sl sd_B gk_var (pk_some gk_var) (pk_some (gk_op od_addB gk_var gk_int)))) (gk_lst (ak_cons gk_var ak_nil)))) (sk_drop (gk_mut md_ins (ak_cons gk_var (ak_cons gk_var ak_nil)))) sk_next)) : SOk K _ b_w_order_1))
    (sk_ret gk_mv))) : SOk K _ b_w_order)
theorem sc_w_spot : FnScope nm_w_spot pm_w_spot (defScope s_w_spot) := ⟨rfl, rfl, rfl, by decide +kernel, rfl, by decide +kernel, by decide +kernel⟩
theorem bi_w_spot (T : Txt K mg) : Binds K T.w_spot.fd pm_w_spot [] := T.w_spot.F.binds fun _ _ _ _ _ _ us hl => by obtain ⟨_, _, _, rfl⟩ := len3 hl; rfl
theorem ok_w_spot (T : Txt K mg) : FnOk P w K mg base CX0 4 T.w_spot.f T.w_spot.fd pm_w_spot (spB K r_w_spot) := by
  have nd := sc_w_spot.nd
  refine data_B T.w_spot.F sc_w_spot fun cdv A outer s H E hr => ?_
  refine ⟨_, (pss_cons (ps_set (i := 3) nd rfl (Or.inl rfl) (pe_call (ok_w_one_of T) (hr.mono (by decide)) rfl T.w_one_of.m T.w_one_of.F.kp (bi_w_one_of T) .nil pass0 (pa_cons (pv 0) (pa_cons (pe_lst (pa_cons pe_int (pa_cons pe_int (pa_cons pe_int (pa_cons pe_int (pa_cons pe_int pa_nil)))))) pa_nil))))
    (pss_cons (ps_set (i := 4) nd rfl (Or.inl rfl) (pe_call (ok_w_low T) (hr.mono (by decide)) rfl T.w_low.m T.w_low.F.kp (bi_w_low T) .nil pass0 (pa_cons (pe_call (ok_w_choose T) (hr.mono (by decide)) rfl T.w_choose.m T.w_choose.F.kp (bi_w_choose T) .nil pass0 (pa_cons (pv 0) (pa_cons (pe_op (kop_addB (K := K) rfl) (pv 3) pe_int) pa_nil))) (pa_cons (pv 3) pa_nil))))
    (pss_one (ps_ret (pe_call (ok_w_plus T) (hr.mono (by decide)) rfl T.w_plus.m T.w_plus.F.kp (bi_w_plus T) .nil pass0 (pa_cons (pv 1) (pa_cons (pe_call (ok_w_times T) (hr.mono (by decide)) rfl T.w_times.m T.w_times.F.kp (bi_w_times T) .nil pass0 (pa_cons (pv 4) (pa_cons (pe_call (ok_w_minus T) (hr.mono (by decide)) rfl T.w_minus.m T.w_minus.F.kp (bi_w_minus T) .nil pass0 (pa_cons (pv 2) (pa_cons (pv 1) pa_nil))) pa_nil))) pa_nil))))))), ?_⟩
  exact ((sk_seq (sk_set (gk_callB (ak_cons (gk_lst (ak_cons gk_int (ak_cons gk_int (ak_cons gk_int (ak_cons gk_int (ak_cons gk_int ak_nil)))))) ak_nil)))
    (sk_seq (sk_set (gk_call (ak_cons (gk_callB (ak_cons (gk_op od_addB gk_var gk_int) ak_nil)) (ak_cons gk_var ak_nil))))
    (sk_ret (gk_call (ak_cons gk_var (ak_cons (gk_call (ak_cons gk_var (ak_cons (gk_call (ak_cons gk_var (ak_cons gk_var ak_nil))) ak_nil))) ak_nil)))))) : SOk K _ b_w_spot)
theorem sc_w_stretch : FnScope nm_w_stretch pm_w_stretch (defScope s_w_stretch) := ⟨rfl, rfl, rfl, by decide +kernel, rfl, by decide +kernel, by decide +kernel⟩
theorem bi_w_stretch (T : Txt K mg) : Binds K T.w_stretch.fd pm_w_stretch [] := T.w_stretch.F.binds fun _ _ _ _ _ _ us hl => by obtain ⟨_, rfl⟩ := len1 hl; rfl
theorem ok_w_stretch (T : Txt K mg) : FnOk P w K mg base CX0 4 T.w_stretch.f T.w_stretch.fd pm_w_stretch (spB K r_w_stretch) := by
  have nd := sc_w_stretch.nd
  refine data_B T.w_stretch.F sc_w_stretch fun cdv A outer s H E hr => ?_
  refine ⟨_, (pss_cons (ps_set (i := 1) nd rfl (Or.inl rfl) (pe_call (ok_w_one_of T) (hr.mono (by decide)) rfl T.w_one_of.m T.w_one_of.F.kp (bi_w_one_of T) .nil pass0 (pa_cons (pv 0) (pa_cons (pe_lst (pa_cons (pe_tup (pa_cons pe_int (pa_cons pe_int pa_nil))) (pa_cons (pe_tup (pa_cons pe_int (pa_cons pe_int pa_nil))) (pa_cons (pe_tup (pa_cons (pe_op op_subA pe_int pe_int) (pa_cons pe_int pa_nil))) (pa_cons (pe_tup (pa_cons pe_int (pa_cons pe_int pa_nil))) (pa_cons (pe_tup (pa_cons pe_int (pa_cons pe_int pa_nil))) pa_nil)))))) pa_nil))))
    (pss_one (ps_ret (pe_tup (pa_cons (pv 1) (pa_cons (pe_call (ok_w_plus T) (hr.mono (by decide)) rfl T.w_plus.m T.w_plus.F.kp (bi_w_plus T) .nil pass0 (pa_cons (pv 1) (pa_cons (pe_call (ok_w_one_of T) (hr.mono (by decide)) rfl T.w_one_of.m T.w_one_of.F.kp (bi_w_one_of T) .nil pass0 (pa_cons (pv 0) (pa_cons (pe_lst (pa_cons (pe_tup (pa_cons pe_int (pa_cons pe_int pa_nil))) (pa_cons (pe_tup (pa_cons pe_int (pa_cons pe_int pa_nil))) (pa_cons (pe_tup (pa_cons pe_int (pa_cons pe_int pa_nil))) (pa_cons (pe_tup (pa_cons pe_int (pa_cons pe_int pa_nil))) pa_nil))))) pa_nil))) pa_nil))) pa_nil)))))), ?_⟩
  exact ((sk_seq (sk_set (gk_callB (ak_cons (gk_lst (ak_cons (gk_tup (ak_cons gk_int (ak_cons gk_int ak_nil))) (ak_cons (gk_tup (ak_cons gk_int (ak_cons gk_int ak_nil))) (ak_cons (gk_tup (ak_cons (gk_op od_sub gk_int gk_int) (ak_cons gk_int ak_nil))) (ak_cons (gk_tup (ak_cons gk_int (ak_cons gk_int ak_nil))) (ak_cons (gk_tup (ak_cons gk_int (ak_cons gk_int ak_nil))) ak_nil)))))) ak_nil)))
    (sk_ret (gk_tup (ak_cons gk_var (ak_cons (gk_call (ak_cons gk_var (ak_cons (gk_callB (ak_cons (gk_lst (ak_cons (gk_tup (ak_cons gk_int (ak_cons gk_int ak_nil))) (ak_cons (gk_tup (ak_cons gk_int (ak_cons gk_int ak_nil))) (ak_cons (gk_tup (ak_cons gk_int (ak_cons gk_int ak_nil))) (ak_cons (gk_tup (ak_cons gk_int (ak_cons gk_int ak_nil))) ak_nil))))) ak_nil)) ak_nil))) ak_nil))))) : SOk K _ b_w_stretch)
theorem sc_w_rule : FnScope nm_w_rule pm_w_rule (defScope s_w_rule) := ⟨rfl, rfl, rfl, by decide +kernel, rfl, by decide +kernel, by decide +kernel⟩
theorem bi_w_rule (T : Txt K mg) : Binds K T.w_rule.fd pm_w_rule [] := T.w_rule.F.binds fun _ _ _ _ _ _ us hl => by obtain ⟨_, _, _, rfl⟩ := len3 hl; rfl
theorem ok_w_rule (T : Txt K mg) : FnOk P w K mg base CX0 5 T.w_rule.f T.w_rule.fd pm_w_rule (spB K r_w_rule) := by
  have nd := sc_w_rule.nd
  refine data_B T.w_rule.F sc_w_rule fun cdv A outer s H E hr => ?_
  refine ⟨_, (pss_cons (ps_asg (pe_call (ok_w_stretch T) (hr.mono (by decide)) rfl T.w_stretch.m T.w_stretch.F.kp (bi_w_stretch T) .nil pass0 (pa_cons (pv 0) pa_nil)) (kpg_tup (K := K) (n := 2) rfl rfl (pgs_cons (pg_name (i := 3) nd rfl (Or.inr rfl)) (pgs_cons (pg_name (i := 4) nd rfl (Or.inr rfl)) pgs_nil))))
    (pss_cons (ps_setLc (i := 5) (own := [("_law_turn", 7)]) rfl nd rfl rfl (sw_true rfl rfl rfl (by decide +kernel)) (pi_range1 rfl T.range (pa_cons (pe_call (ok_w_choose T) (hr.mono (by decide)) rfl T.w_choose.m T.w_choose.F.kp (bi_w_choose T) .nil pass0 (pa_cons (pv 0) (pa_cons (pe_op (kop_addB (K := K) rfl) (pv 1) pe_int) pa_nil))) pa_nil)) (blkOk_by (N := nm_w_rule) (sc := defScope s_w_rule) (by decide +kernel)) (fun _ _ _ _ _ => (pg_name (i := 7) nd rfl (Or.inl rfl))) (fun _ _ _ _ _ => pts_nil) (fun _ _ _ _ _ => (pe_tup (pa_cons (pe_call (ok_w_spot T) (hr.mono (by decide)) rfl T.w_spot.m T.w_spot.F.kp (bi_w_spot T) .nil pass0 (pa_cons (pv 0) (pa_cons (pv 3) (pa_cons (pv 4) pa_nil)))) (pa_cons (pe_call (ok_w_factor T) (hr.mono (by decide)) rfl T.w_factor.m T.w_factor.F.kp (bi_w_factor T) .nil pass0 (pa_cons (pv 0) (pa_cons pe_int pa_nil))) pa_nil)))))
    (pss_cons (ps_set (i := 6) nd rfl (Or.inl rfl) (pe_lst pa_nil))
    (pss_cons (ps_for PassesOwn.never rfl (pi_range1 rfl T.range (pa_cons (pe_call (ok_w_choose T) (hr.mono (by decide)) rfl T.w_choose.m T.w_choose.F.kp (bi_w_choose T) .nil pass0 (pa_cons (pv 0) (pa_cons (pe_op (kop_addB (K := K) rfl) (pv 2) pe_int) pa_nil))) pa_nil)) (pg_name (i := 7) nd rfl (Or.inl rfl)) (pss_cons (ps_set (i := 8) nd rfl (Or.inl rfl) (pe_call (ok_w_order T) (hr.mono (by decide)) rfl T.w_order.m T.w_order.F.kp (bi_w_order T) .nil pass0 (pa_cons (pe_lst (pa_cons (pe_call (ok_w_spot T) (hr.mono (by decide)) rfl T.w_spot.m T.w_spot.F.kp (bi_w_spot T) .nil pass0 (pa_cons (pv 0) (pa_cons (pv 3) (pa_cons (pv 4) pa_nil)))) (pa_cons (pe_call (ok_w_spot T) (hr.mono (by decide)) rfl T.w_spot.m T.w_spot.F.kp (bi_w_spot T) .nil pass0 (pa_cons (pv 0) (pa_cons (pv 3) (pa_cons (pv 4) pa_nil)))) pa_nil))) pa_nil)))
    (pss_one (ps_if (pt_cmpR (kop_eq (K := K) rfl hr.units) (pe_callB (kcr_len (K := K) rfl) (by rfl) T.len (by decide +kernel) (pa_cons (pv 8) pa_nil)) pe_int (nomark _)) (pss_one (ps_expr (kpe_app (K := K) rfl (pv 6) (pe_tup (pa_cons (pe_ix (kix (K := K) rfl) (pv 8) pe_int (fun _ _ => rfl)) (pa_cons (pe_ix (kix (K := K) rfl) (pv 8) pe_int (fun _ _ => rfl)) (pa_cons (pe_call (ok_w_factor T) (hr.mono (by decide)) rfl T.w_factor.m T.w_factor.F.kp (bi_w_factor T) .nil pass0 (pa_cons (pv 0) (pa_cons pe_int pa_nil))) pa_nil))))))) pss_nil))))
    (pss_one (ps_ret (pe_tup (pa_cons (pv 3) (pa_cons (pv 4) (pa_cons (pv 5) (pa_cons (pv 6) pa_nil))))))))))), ?_⟩
  exact ((sk_seq (sk_asg (gk_callB ak_nil) (gt_tup (gts_cons gt_name (gts_cons gt_name gts_nil))))
    (sk_seq (sk_set (gk_lc (ik_range1 (ak_cons (gk_callB (ak_cons (gk_op od_addB gk_var gk_int) ak_nil)) ak_nil)) gt_name tk_yes (gk_tup (ak_cons (gk_callB (ak_cons gk_var (ak_cons gk_var ak_nil))) (ak_cons (gk_callB (ak_cons gk_int ak_nil)) ak_nil))) (by decide)))
    (sk_seq (sk_set (gk_lst ak_nil))
    (sk_seq (sk_for (ik_range1 (ak_cons (gk_callB (ak_cons (gk_op od_addB gk_var gk_int) ak_nil)) ak_nil)) gt_name ((sk_seq (sk_set (gk_call (ak_cons (gk_lst (ak_cons (gk_callB (ak_cons gk_var (ak_cons gk_var ak_nil))) (ak_cons (gk_callB (ak_cons gk_var (ak_cons gk_var ak_nil))) ak_nil))) ak_nil)))
    (sk_if (tk_test (gk_op od_eq (gk_cb cd_len (ak_cons gk_var ak_nil)) gk_int)) (sk_app (gk_tup (ak_cons (gk_op od_ix gk_var gk_int) (ak_cons (gk_op od_ix gk_var gk_int) (ak_cons (gk_callB (ak_cons gk_int ak_nil)) ak_nil))))) sk_next)) : SOk K _ b_w_rule_1))
    (sk_ret (gk_tup (ak_cons gk_var (ak_cons gk_var (ak_cons gk_var (ak_cons gk_var ak_nil)))))))))) : SOk K _ b_w_rule)
theorem sc_w_seed : FnScope nm_w_seed pm_w_seed (defScope s_w_seed) := ⟨rfl, rfl, rfl, by decide +kernel, rfl, by decide +kernel, by decide +kernel⟩
theorem bi_w_seed (T : Txt K mg) : Binds K T.w_seed.fd pm_w_seed [] := T.w_seed.F.binds fun _ _ _ _ _ _ us hl => by obtain ⟨_, _, rfl⟩ := len2 hl; rfl
theorem ok_w_seed (T : Txt K mg) : FnOk P w K mg base CX0 1 T.w_seed.f T.w_seed.fd pm_w_seed (spF K r_w_seed) := by
  have nd := sc_w_seed.nd
  refine data_F T.w_seed.F sc_w_seed fun cdv A outer s H E hr => ?_
  refine ⟨_, (pss_cons (ps_set (i := 2) nd rfl (Or.inl rfl) (pe_op (kop_addB (K := K) rfl) (pe_op op_mulA pe_int (pv 1)) pe_int))
    (pss_cons (ps_if (pt_cmpR op_lt (pv 1) (pe_callB (kcr_len (K := K) rfl) (by rfl) T.len (by decide +kernel) (pa_cons (pv 0) pa_nil)) (nomark _)) (pss_one (ps_set (i := 2) nd rfl (Or.inl rfl) (pe_callB cr_abs (by rfl) T.abs (by decide +kernel) (pa_cons (pe_ix (kix (K := K) rfl) (pv 0) (pv 1) (fun _ _ => rfl)) pa_nil)))) (pss_one (ps_if (pt_cmpR op_gt (pe_callB (kcr_len (K := K) rfl) (by rfl) T.len (by decide +kernel) (pa_cons (pv 0) pa_nil)) pe_int (nomark _)) (pss_one (ps_set (i := 2) nd rfl (Or.inl rfl) (pe_op (kop_addB (K := K) rfl) (pv 2) (pe_op op_mulA (pe_op op_modA (pe_callTy cr_int (by rfl) T.int (by decide +kernel) (pa_cons (pe_callB cr_abs (by rfl) T.abs (by decide +kernel) (pa_cons (pe_ix (kix (K := K) rfl) (pv 0) (pe_op op_modA (pe_callTy cr_int (by rfl) T.int (by decide +kernel) (pa_cons (pv 1) pa_nil)) (pe_callB (kcr_len (K := K) rfl) (by rfl) T.len (by decide +kernel) (pa_cons (pv 0) pa_nil))) (fun _ _ => rfl)) pa_nil)) pa_nil)) pe_int) pe_int)))) pss_nil)))
    (pss_cons (ps_set (i := 3) nd rfl (Or.inl rfl) (pe_ifExp (pt_cmpR op_ge (pv 2) (pe_op op_powA pe_int pe_int) (nomark _)) (pv 2) pe_int))
    (pss_one (ps_ret (pe_lst (pa_cons (pv 3) (pa_cons (pe_op (kop_addB (K := K) rfl) (pe_op op_modA (pe_callTy cr_int (by rfl) T.int (by decide +kernel) (pa_cons (pe_op (kop_addB (K := K) rfl) (pe_op op_mulA (pe_op op_modA (pe_callTy cr_int (by rfl) T.int (by decide +kernel) (pa_cons (pv 2) pa_nil)) pe_int) pe_int) (pe_op op_mulA pe_int (pv 1))) pa_nil)) pe_int) pe_int) pa_nil)))))))), ?_⟩
  exact ((sk_seq (sk_set (gk_op od_addB (gk_op od_mul gk_int gk_var) gk_int))
    (sk_seq (sk_if (tk_test (gk_op od_lt gk_var (gk_cb cd_len (ak_cons gk_var ak_nil)))) (sk_set (gk_cb cd_abs (ak_cons (gk_op od_ix gk_var gk_var) ak_nil))) (sk_if (tk_test (gk_op od_gt (gk_cb cd_len (ak_cons gk_var ak_nil)) gk_int)) (sk_set (gk_op od_addB gk_var (gk_op od_mul (gk_op od_mod (gk_cb cd_int (ak_cons (gk_cb cd_abs (ak_cons (gk_op od_ix gk_var (gk_op od_mod (gk_cb cd_int (ak_cons gk_var ak_nil)) (gk_cb cd_len (ak_cons gk_var ak_nil)))) ak_nil)) ak_nil)) gk_int) gk_int))) sk_next))
    (sk_seq (sk_set (gk_if (tk_test (gk_op od_ge gk_var (gk_op od_pow gk_int gk_int))) gk_var gk_int))
    (sk_ret (gk_lst (ak_cons gk_var (ak_cons (gk_op od_addB (gk_op od_mod (gk_cb cd_int (ak_cons (gk_op od_addB (gk_op od_mul (gk_op od_mod (gk_cb cd_int (ak_cons gk_var ak_nil)) gk_int) gk_int) (gk_op od_mul gk_int gk_var)) ak_nil)) gk_int) gk_int) ak_nil))))))) : SOk K _ b_w_seed)
theorem sc_is_power : FnScope nm_is_power pm_is_power (defScope s_is_power) := ⟨rfl, rfl, rfl, by decide +kernel, rfl, by decide +kernel, by decide +kernel⟩
theorem bi_is_power (T : Txt K mg) : Binds K T.is_power.fd pm_is_power [] := T.is_power.F.binds fun _ _ _ _ _ _ us hl => by obtain ⟨_, _, rfl⟩ := len2 hl; rfl
theorem ok_is_power (T : Txt K mg) : FnOk P w K mg base CX0 2 T.is_power.f T.is_power.fd pm_is_power (spF K r_is_power) := by
  have nd := sc_is_power.nd
  refine data_F T.is_power.F sc_is_power fun cdv A outer s H E hr => ?_
  refine ⟨_, (pss_cons (ps_if (PW.pt (pw_or (pt_cmpR (kop_ne (K := K) rfl hr.units) (pe_callB (kcr_len (K := K) rfl) (by rfl) T.len (by decide +kernel) (pa_cons (pv 1) pa_nil)) pe_int (nomark _)) (pw_or (pt_not (kpt_tru (K := K) rfl (pe_call (ok_is_integer T) (hr.mono (by decide)) rfl T.is_integer.m T.is_integer.F.kp (bi_is_integer T) .nil pass0 (pa_cons (pe_ix (kix (K := K) rfl) (pv 1) pe_int (fun _ _ => rfl)) pa_nil)) (by intro _; rfl))) (pw_or1 (pt_not (kpt_tru (K := K) rfl (pe_call (ok_is_integer T) (hr.mono (by decide)) rfl T.is_integer.m T.is_integer.F.kp (bi_is_integer T) .nil pass0 (pa_cons (pe_ix (kix (K := K) rfl) (pv 1) pe_int (fun _ _ => rfl)) pa_nil)) (by intro _; rfl))))))) (pss_one (ps_ret pe_bl)) pss_nil)
    (pss_one (ps_ret (pe_and (pe_chain op_le op_lt pe_int (pe_ix (kix (K := K) rfl) (pv 1) pe_int (fun _ _ => rfl)) (pv 0)) (pe_one (pe_cmpR (kop_inB (K := K) rfl (r70 hr)) (pe_ix (kix (K := K) rfl) (pv 1) pe_int (fun _ _ => rfl)) (pe_tup (pa_cons pe_int (pa_cons (pe_un un_neg pe_int) pa_nil))) (by rfl))))))), ?_⟩
  exact ((sk_seq (sk_if (tk_or (tk_test (gk_op od_ne (gk_cb cd_len (ak_cons gk_var ak_nil)) gk_int)) (tk_or (tk_not (tk_truK (gk_call (ak_cons (gk_op od_ix gk_var gk_int) ak_nil)))) (tk_not (tk_truK (gk_call (ak_cons (gk_op od_ix gk_var gk_int) ak_nil)))))) (sk_ret gk_bl) sk_next)
    (sk_ret (gk_vand (gk_chain od_le od_lt gk_int (gk_op od_ix gk_var gk_int) gk_var) (gk_op od_inB (gk_op od_ix gk_var gk_int) (gk_tup (ak_cons gk_int (ak_cons (gk_un ud_neg gk_int) ak_nil))))))) : SOk K _ b_is_power)
theorem sc_is_within : FnScope nm_is_within pm_is_within (defScope s_is_within) := ⟨rfl, rfl, rfl, by decide +kernel, rfl, by decide +kernel, by decide +kernel⟩
theorem bi_is_within (T : Txt K mg) : Binds K T.is_within.fd pm_is_within [] := T.is_within.F.binds fun _ _ _ _ _ _ us hl => by obtain ⟨_, _, rfl⟩ := len2 hl; rfl
theorem ok_is_within (T : Txt K mg) : FnOk P w K mg base CX0 4 T.is_within.f T.is_within.fd pm_is_within (spF K r_is_within) := by
  have nd := sc_is_within.nd
  refine data_F T.is_within.F sc_is_within fun cdv A outer s H E hr => ?_
  refine ⟨_, (pss_cons (ps_if (pt_not (kpt_tru (K := K) rfl (pe_call (ok_is_value T) (hr.mono (by decide)) rfl T.is_value.m T.is_value.F.kp (bi_is_value T) .nil pass0 (pa_cons (pv 1) pa_nil)) (by intro _; rfl))) (pss_one (ps_ret pe_bl)) pss_nil)
    (pss_one (ps_ret (pe_and (pe_not (pe_call (ok_is_less T) (hr.mono (by decide)) rfl T.is_less.m T.is_less.F.kp (bi_is_less T) .nil pass0 (pa_cons (pe_call (ok_value_of T) (hr.mono (by decide)) rfl T.value_of.m T.value_of.F.kp (bi_value_of T) .nil pass0 (pa_cons (pv 1) pa_nil)) (pa_cons (kpe_fld (K := K) rfl (pv 0) rfl) pa_nil)))) (pe_one (pe_not (pe_call (ok_is_less T) (hr.mono (by decide)) rfl T.is_less.m T.is_less.F.kp (bi_is_less T) .nil pass0 (pa_cons (kpe_fld (K := K) rfl (pv 0) rfl) (pa_cons (pe_call (ok_value_of T) (hr.mono (by decide)) rfl T.value_of.m T.value_of.F.kp (bi_value_of T) .nil pass0 (pa_cons (pv 1) pa_nil)) pa_nil))))))))), ?_⟩
  exact ((sk_seq (sk_if (tk_not (tk_truK (gk_call (ak_cons gk_var ak_nil)))) (sk_ret gk_bl) sk_next)
    (sk_ret (gk_vand (gk_vnot (gk_call (ak_cons (gk_call (ak_cons gk_var ak_nil)) (ak_cons (gk_fld T.Rule rfl gk_var) ak_nil)))) (gk_vnot (gk_call (ak_cons (gk_fld T.Rule rfl gk_var) (ak_cons (gk_call (ak_cons gk_var ak_nil)) ak_nil))))))) : SOk K _ b_is_within)
theorem sc_quotient : FnScope nm_quotient pm_quotient (defScope s_quotient) := ⟨rfl, rfl, rfl, by decide +kernel, rfl, by decide +kernel, by decide +kernel⟩
theorem bi_quotient (T : Txt K mg) : Binds K T.quotient.fd pm_quotient [] := T.quotient.F.binds fun _ _ _ _ _ _ us hl => by obtain ⟨_, _, rfl⟩ := len2 hl; rfl
theorem ok_quotient (T : Txt K mg) : FnOk P w K mg base CX0 3 T.quotient.f T.quotient.fd pm_quotient (spF K r_quotient) := by
  have nd := sc_quotient.nd
  refine data_F T.quotient.F sc_quotient fun cdv A outer s H E hr => ?_
  refine ⟨_, (pss_one (ps_ret (pe_call (ok_lowest T) (hr.mono (by decide)) rfl T.lowest.m T.lowest.F.kp (bi_lowest T) .nil pass0 (pa_cons (pe_op op_mulA (pe_ix (kix (K := K) rfl) (pv 0) pe_int (fun _ _ => rfl)) (pe_ix (kix (K := K) rfl) (pv 1) pe_int (fun _ _ => rfl))) (pa_cons (pe_op op_mulA (pe_ix (kix (K := K) rfl) (pv 0) pe_int (fun _ _ => rfl)) (pe_ix (kix (K := K) rfl) (pv 1) pe_int (fun _ _ => rfl))) pa_nil))))), ?_⟩
  exact ((sk_ret (gk_call (ak_cons (gk_op od_mul (gk_op od_ix gk_var gk_int) (gk_op od_ix gk_var gk_int)) (ak_cons (gk_op od_mul (gk_op od_ix gk_var gk_int) (gk_op od_ix gk_var gk_int)) ak_nil)))) : SOk K _ b_quotient)
theorem sc_area_powers : FnScope nm_area_powers pm_area_powers (defScope s_area_powers) := ⟨rfl, rfl, rfl, by decide +kernel, rfl, by decide +kernel, by decide +kernel⟩
theorem bi_area_powers (T : Txt K mg) : Binds K T.area_powers.fd pm_area_powers [] := T.area_powers.F.binds fun _ _ _ _ _ _ us hl => by obtain ⟨_, rfl⟩ := len1 hl; rfl
theorem ok_area_powers (T : Txt K mg) : FnOk P w K mg base CX0 4 T.area_powers.f T.area_powers.fd pm_area_powers (spF K r_area_powers) := by
  have nd := sc_area_powers.nd
  refine data_F T.area_powers.F sc_area_powers fun cdv A outer s H E hr => ?_
  refine ⟨_, (pss_one (ps_ret (pe_lst (pa_cons (pe_glob rfl T.NOUGHT.m T.NOUGHT.r) (kpa_star (K := K) rfl (pe_lc (own := [("at", 1), ("one", 2)]) rfl nd (kpi_enumA (K := K) rfl rfl T.enumerate (pa_cons (pv 0) pa_nil)) (blkOk_by (N := nm_area_powers) (sc := defScope s_area_powers) (by decide +kernel)) (fun _ _ _ _ _ => (kpg_tup (K := K) (n := 2) rfl rfl (pgs_cons (pg_name (i := 1) nd rfl (Or.inl rfl)) (pgs_cons (pg_name (i := 2) nd rfl (Or.inl rfl)) pgs_nil)))) (fun _ _ _ _ _ => pts_nil) (fun _ _ _ _ _ => (pe_call (ok_quotient T) (hr.mono (by decide)) rfl T.quotient.m T.quotient.F.kp (bi_quotient T) .nil pass0 (pa_cons (pv 2) (pa_cons (pe_tup (pa_cons (pe_op (kop_addB (K := K) rfl) (pv 1) pe_int) (pa_cons pe_int pa_nil))) pa_nil))))) pa_nil))))), ?_⟩
  exact ((sk_ret (gk_lst (ak_cons (gk_c T.NOUGHT.d) (ak_star (gk_lc (ik_enumA (ak_cons gk_var ak_nil)) (gt_tup (gts_cons gt_name (gts_cons gt_name gts_nil))) tk_yes (gk_call (ak_cons gk_var (ak_cons (gk_tup (ak_cons (gk_op od_addB gk_var gk_int) (ak_cons gk_int ak_nil))) ak_nil))) (by decide)) ak_nil)))) : SOk K _ b_area_powers)
theorem sc_less_by : FnScope nm_less_by pm_less_by (defScope s_less_by) := ⟨rfl, rfl, rfl, by decide +kernel, rfl, by decide +kernel, by decide +kernel⟩
theorem bi_less_by (T : Txt K mg) : Binds K T.less_by.fd pm_less_by [] := T.less_by.F.binds fun _ _ _ _ _ _ us hl => by obtain ⟨_, _, rfl⟩ := len2 hl; rfl
theorem ok_less_by (T : Txt K mg) : FnOk P w K mg base CX0 3 T.less_by.f T.less_by.fd pm_less_by (spF K r_less_by) := by
  have nd := sc_less_by.nd
  refine data_F T.less_by.F sc_less_by fun cdv A outer s H E hr => ?_
  refine ⟨_, (pss_one (ps_ret (pe_call (ok_lowest T) (hr.mono (by decide)) rfl T.lowest.m T.lowest.F.kp (bi_lowest T) .nil pass0 (pa_cons (pe_op op_subA (pe_op op_mulA (pe_ix (kix (K := K) rfl) (pv 0) pe_int (fun _ _ => rfl)) (pe_ix (kix (K := K) rfl) (pv 1) pe_int (fun _ _ => rfl))) (pe_op op_mulA (pe_ix (kix (K := K) rfl) (pv 1) pe_int (fun _ _ => rfl)) (pe_ix (kix (K := K) rfl) (pv 0) pe_int (fun _ _ => rfl)))) (pa_cons (pe_op op_mulA (pe_ix (kix (K := K) rfl) (pv 0) pe_int (fun _ _ => rfl)) (pe_ix (kix (K := K) rfl) (pv 1) pe_int (fun _ _ => rfl))) pa_nil))))), ?_⟩
  exact ((sk_ret (gk_call (ak_cons (gk_op od_sub (gk_op od_mul (gk_op od_ix gk_var gk_int) (gk_op od_ix gk_var gk_int)) (gk_op od_mul (gk_op od_ix gk_var gk_int) (gk_op od_ix gk_var gk_int))) (ak_cons (gk_op od_mul (gk_op od_ix gk_var gk_int) (gk_op od_ix gk_var gk_int)) ak_nil)))) : SOk K _ b_less_by)
theorem sc_multiplied : FnScope nm_multiplied pm_multiplied (defScope s_multiplied) := ⟨rfl, rfl, rfl, by decide +kernel, rfl, by decide +kernel, by decide +kernel⟩
theorem bi_multiplied (T : Txt K mg) : Binds K T.multiplied.fd pm_multiplied [] := T.multiplied.F.binds fun _ _ _ _ _ _ us hl => by obtain ⟨_, _, rfl⟩ := len2 hl; rfl
theorem ok_multiplied (T : Txt K mg) : FnOk P w K mg base CX0 3 T.multiplied.f T.multiplied.fd pm_multiplied (spF K r_multiplied) := by
  have nd := sc_multiplied.nd
  refine data_F T.multiplied.F sc_multiplied fun cdv A outer s H E hr => ?_
  refine ⟨_, (pss_one (ps_ret (pe_call (ok_lowest T) (hr.mono (by decide)) rfl T.lowest.m T.lowest.F.kp (bi_lowest T) .nil pass0 (pa_cons (pe_op op_mulA (pe_ix (kix (K := K) rfl) (pv 0) pe_int (fun _ _ => rfl)) (pe_ix (kix (K := K) rfl) (pv 1) pe_int (fun _ _ => rfl))) (pa_cons (pe_op op_mulA (pe_ix (kix (K := K) rfl) (pv 0) pe_int (fun _ _ => rfl)) (pe_ix (kix (K := K) rfl) (pv 1) pe_int (fun _ _ => rfl))) pa_nil))))), ?_⟩
  exact ((sk_ret (gk_call (ak_cons (gk_op od_mul (gk_op od_ix gk_var gk_int) (gk_op od_ix gk_var gk_int)) (ak_cons (gk_op od_mul (gk_op od_ix gk_var gk_int) (gk_op od_ix gk_var gk_int)) ak_nil)))) : SOk K _ b_multiplied)
theorem sc_value_at : FnScope nm_value_at pm_value_at (defScope s_value_at) := ⟨rfl, rfl, rfl, by decide +kernel, rfl, by decide +kernel, by decide +kernel⟩
theorem bi_value_at (T : Txt K mg) : Binds K T.value_at.fd pm_value_at [] := T.value_at.F.binds fun _ _ _ _ _ _ us hl => by obtain ⟨_, _, rfl⟩ := len2 hl; rfl
theorem ok_value_at (T : Txt K mg) : FnOk P w K mg base CX0 4 T.value_at.f T.value_at.fd pm_value_at (spF K r_value_at) := by
  have nd := sc_value_at.nd
  refine data_F T.value_at.F sc_value_at fun cdv A outer s H E hr => ?_
  refine ⟨_, (pss_cons (ps_set (i := 2) nd rfl (Or.inl rfl) (pe_glob rfl T.NOUGHT.m T.NOUGHT.r))
    (pss_cons (ps_for PassesOwn.never rfl (kpi_seq (K := K) rfl (kpe_rev (K := K) rfl (pv 0) (pe_un un_neg pe_int))) (pg_name (i := 3) nd rfl (Or.inl rfl)) (pss_one (ps_set (i := 2) nd rfl (Or.inl rfl) (pe_call (ok_added T) (hr.mono (by decide)) rfl T.added.m T.added.F.kp (bi_added T) .nil pass0 (pa_cons (pe_call (ok_multiplied T) (hr.mono (by decide)) rfl T.multiplied.m T.multiplied.F.kp (bi_multiplied T) .nil pass0 (pa_cons (pv 2) (pa_cons (pv 1) pa_nil))) (pa_cons (pv 3) pa_nil))))))
    (pss_one (ps_ret (pv 2))))), ?_⟩
  exact ((sk_seq (sk_set (gk_c T.NOUGHT.d))
    (sk_seq (sk_for (ik_seq (gk_rev gk_var (gk_un ud_neg gk_int))) gt_name ((sk_set (gk_call (ak_cons (gk_call (ak_cons gk_var (ak_cons gk_var ak_nil))) (ak_cons gk_var ak_nil)))) : SOk K _ b_value_at_1))
    (sk_ret gk_mv))) : SOk K _ b_value_at)
theorem sc_told : FnScope nm_told pm_told (defScope s_told) := ⟨rfl, rfl, rfl, by decide +kernel, rfl, by decide +kernel, by decide +kernel⟩
theorem bi_told (T : Txt K mg) : Binds K T.told.fd pm_told [] := T.told.F.binds fun _ _ _ _ _ _ us hl => by obtain ⟨_, _, rfl⟩ := len2 hl; rfl
theorem ok_told (T : Txt K mg) : FnOk P w K mg base CX0 5 T.told.f T.told.fd pm_told (spF K r_told) := by
  have nd := sc_told.nd
  refine data_F T.told.F sc_told fun cdv A outer s H E hr => ?_
  refine ⟨_, (pss_cons (ps_set (i := 2) nd rfl (Or.inr rfl) (pe_lc (own := [("one", 8)]) rfl nd (kpi_seq (K := K) rfl (pv 1)) (blkOk_by (N := nm_told) (sc := defScope s_told) (by decide +kernel)) (fun _ _ _ _ _ => (pg_name (i := 8) nd rfl (Or.inl rfl))) (fun _ _ _ _ _ => pts_nil) (fun _ _ _ _ _ => (pe_call (ok_value_of T) (hr.mono (by decide)) rfl T.value_of.m T.value_of.F.kp (bi_value_of T) .nil pass0 (pa_cons (pv 8) pa_nil)))))
    (pss_cons (ps_set (i := 3) nd rfl (Or.inl rfl) (pe_call (ok_area_powers T) (hr.mono (by decide)) rfl T.area_powers.m T.area_powers.F.kp (bi_area_powers T) .nil pass0 (pa_cons (pv 2) pa_nil)))
    (pss_cons (ps_setLc (i := 4) (own := [("point", 9), ("weight", 10)]) rfl nd rfl rfl (sw_true rfl rfl rfl (by decide +kernel)) (kpi_seq (K := K) rfl (kpe_fld (K := K) rfl (pv 0) rfl)) (blkOk_by (N := nm_told) (sc := defScope s_told) (by decide +kernel)) (fun _ _ _ _ _ => (kpg_tup (K := K) (n := 2) rfl rfl (pgs_cons (pg_name (i := 9) nd rfl (Or.inl rfl)) (pgs_cons (pg_name (i := 10) nd rfl (Or.inl rfl)) pgs_nil)))) (fun _ _ _ _ _ => pts_nil) (fun _ _ _ _ _ => (pe_call (ok_multiplied T) (hr.mono (by decide)) rfl T.multiplied.m T.multiplied.F.kp (bi_multiplied T) .nil pass0 (pa_cons (pv 10) (pa_cons (pe_call (ok_value_at T) (hr.mono (by decide)) rfl T.value_at.m T.value_at.F.kp (bi_value_at T) .nil pass0 (pa_cons (pv 2) (pa_cons (pv 9) pa_nil))) pa_nil)))))
    (pss_cons (ps_for PassesOwn.never rfl (kpi_seq (K := K) rfl (kpe_fld (K := K) rfl (pv 0) rfl)) (kpg_tup (K := K) (n := 3) rfl rfl (pgs_cons (pg_name (i := 5) nd rfl (Or.inl rfl)) (pgs_cons (pg_name (i := 6) nd rfl (Or.inl rfl)) (pgs_cons (pg_name (i := 7) nd rfl (Or.inl rfl)) pgs_nil)))) (pss_one (ps_expr (kpe_app (K := K) rfl (pv 4) (pe_call (ok_multiplied T) (hr.mono (by decide)) rfl T.multiplied.m T.multiplied.F.kp (bi_multiplied T) .nil pass0 (pa_cons (pv 7) (pa_cons (pe_call (ok_less_by T) (hr.mono (by decide)) rfl T.less_by.m T.less_by.F.kp (bi_less_by T) .nil pass0 (pa_cons (pe_call (ok_value_at T) (hr.mono (by decide)) rfl T.value_at.m T.value_at.F.kp (bi_value_at T) .nil pass0 (pa_cons (pv 3) (pa_cons (pv 6) pa_nil))) (pa_cons (pe_call (ok_value_at T) (hr.mono (by decide)) rfl T.value_at.m T.value_at.F.kp (bi_value_at T) .nil pass0 (pa_cons (pv 3) (pa_cons (pv 5) pa_nil))) pa_nil))) pa_nil)))))))
    (pss_one (ps_ret (pe_call (ok_summed T) (hr.mono (by decide)) rfl T.summed.m T.summed.F.kp (bi_summed T) .nil pass0 (pa_cons (pv 4) pa_nil)))))))), ?_⟩
  exact ((sk_seq (sk_set (gk_lc (ik_seq gk_var) gt_name tk_yes (gk_call (ak_cons gk_var ak_nil)) (by decide)))
    (sk_seq (sk_set (gk_call (ak_cons gk_var ak_nil)))
    (sk_seq (sk_set (gk_lc (ik_seq (gk_fld T.Rule rfl gk_var)) (gt_tup (gts_cons gt_name (gts_cons gt_name gts_nil))) tk_yes (gk_call (ak_cons gk_var (ak_cons (gk_call (ak_cons gk_var (ak_cons gk_var ak_nil))) ak_nil))) (by decide)))
    (sk_seq (sk_for (ik_seq (gk_fld T.Rule rfl gk_var)) (gt_tup (gts_cons gt_name (gts_cons gt_name (gts_cons gt_name gts_nil)))) ((sk_app (gk_call (ak_cons gk_var (ak_cons (gk_call (ak_cons (gk_call (ak_cons gk_var (ak_cons gk_var ak_nil))) (ak_cons (gk_call (ak_cons gk_var (ak_cons gk_var ak_nil))) ak_nil))) ak_nil)))) : SOk K _ b_told_1))
    (sk_ret (gk_call (ak_cons gk_var ak_nil))))))) : SOk K _ b_told)
theorem sc_told_between : FnScope nm_told_between pm_told_between (defScope s_told_between) := ⟨rfl, rfl, rfl, by decide +kernel, rfl, by decide +kernel, by decide +kernel⟩
theorem bi_told_between (T : Txt K mg) : Binds K T.told_between.fd pm_told_between [] := T.told_between.F.binds fun _ _ _ _ _ _ us hl => by obtain ⟨_, _, _, rfl⟩ := len3 hl; rfl
theorem ok_told_between (T : Txt K mg) : FnOk P w K mg base CX0 5 T.told_between.f T.told_between.fd pm_told_between (spF K r_told_between) := by
  have nd := sc_told_between.nd
  refine data_F T.told_between.F sc_told_between fun cdv A outer s H E hr => ?_
  refine ⟨_, (pss_cons (ps_setLc (i := 3) (own := [("point", 9), ("weight", 10)]) rfl nd rfl rfl (sw_true rfl rfl rfl (by decide +kernel)) (kpi_seq (K := K) rfl (kpe_fld (K := K) rfl (pv 0) rfl)) (blkOk_by (N := nm_told_between) (sc := defScope s_told_between) (by decide +kernel)) (fun _ _ _ _ _ => (kpg_tup (K := K) (n := 2) rfl rfl (pgs_cons (pg_name (i := 9) nd rfl (Or.inl rfl)) (pgs_cons (pg_name (i := 10) nd rfl (Or.inl rfl)) pgs_nil)))) (fun _ _ _ _ _ => (pts_one (PW.pt (pw_and (kpt_tru (K := K) rfl (pe_call (ok_is_less T) (hr.mono (by decide)) rfl T.is_less.m T.is_less.F.kp (bi_is_less T) .nil pass0 (pa_cons (pv 1) (pa_cons (pv 9) pa_nil))) (by intro _; rfl)) (pw_and1 (kpt_tru (K := K) rfl (pe_call (ok_is_less T) (hr.mono (by decide)) rfl T.is_less.m T.is_less.F.kp (bi_is_less T) .nil pass0 (pa_cons (pv 9) (pa_cons (pv 2) pa_nil))) (by intro _; rfl))))))) (fun _ _ _ _ _ => (pv 10)))
    (pss_cons (ps_for PassesOwn.never rfl (kpi_seq (K := K) rfl (kpe_fld (K := K) rfl (pv 0) rfl)) (kpg_tup (K := K) (n := 3) rfl rfl (pgs_cons (pg_name (i := 4) nd rfl (Or.inl rfl)) (pgs_cons (pg_name (i := 5) nd rfl (Or.inl rfl)) (pgs_cons (pg_name (i := 6) nd rfl (Or.inl rfl)) pgs_nil)))) (pss_cons (ps_set (i := 7) nd rfl (Or.inl rfl) (pe_ifExp (kpt_tru (K := K) rfl (pe_call (ok_is_less T) (hr.mono (by decide)) rfl T.is_less.m T.is_less.F.kp (bi_is_less T) .nil pass0 (pa_cons (pv 4) (pa_cons (pv 1) pa_nil))) (by intro _; rfl)) (pv 1) (pv 4)))
    (pss_cons (ps_set (i := 8) nd rfl (Or.inl rfl) (pe_ifExp (kpt_tru (K := K) rfl (pe_call (ok_is_less T) (hr.mono (by decide)) rfl T.is_less.m T.is_less.F.kp (bi_is_less T) .nil pass0 (pa_cons (pv 5) (pa_cons (pv 2) pa_nil))) (by intro _; rfl)) (pv 5) (pv 2)))
    (pss_one (ps_if (kpt_tru (K := K) rfl (pe_call (ok_is_less T) (hr.mono (by decide)) rfl T.is_less.m T.is_less.F.kp (bi_is_less T) .nil pass0 (pa_cons (pv 7) (pa_cons (pv 8) pa_nil))) (by intro _; rfl)) (pss_one (ps_expr (kpe_app (K := K) rfl (pv 3) (pe_call (ok_multiplied T) (hr.mono (by decide)) rfl T.multiplied.m T.multiplied.F.kp (bi_multiplied T) .nil pass0 (pa_cons (pv 6) (pa_cons (pe_call (ok_less_by T) (hr.mono (by decide)) rfl T.less_by.m T.less_by.F.kp (bi_less_by T) .nil pass0 (pa_cons (pv 8) (pa_cons (pv 7) pa_nil))) pa_nil)))))) pss_nil)))))
    (pss_one (ps_ret (pe_call (ok_summed T) (hr.mono (by decide)) rfl T.summed.m T.summed.F.kp (bi_summed T) .nil pass0 (pa_cons (pv 3) pa_nil)))))), ?_⟩
  exact ((sk_seq (sk_set (gk_lc (ik_seq (gk_fld T.Rule rfl gk_var)) (gt_tup (gts_cons gt_name (gts_cons gt_name gts_nil))) (tk_and (tk_truK (gk_call (ak_cons gk_var (ak_cons gk_var ak_nil)))) (tk_truK (gk_call (ak_cons gk_var (ak_cons gk_var ak_nil))))) gk_var (by decide)))
    (sk_seq (sk_for (ik_seq (gk_fld T.Rule rfl gk_var)) (gt_tup (gts_cons gt_name (gts_cons gt_name (gts_cons gt_name gts_nil)))) ((sk_seq (sk_set (gk_if (tk_truK (gk_call (ak_cons gk_var (ak_cons gk_var ak_nil)))) gk_var gk_var))
    (sk_seq (sk_set (gk_if (tk_truK (gk_call (ak_cons gk_var (ak_cons gk_var ak_nil)))) gk_var gk_var))
    (sk_if (tk_truK (gk_call (ak_cons gk_var (ak_cons gk_var ak_nil)))) (sk_app (gk_call (ak_cons gk_var (ak_cons (gk_call (ak_cons gk_var (ak_cons gk_var ak_nil))) ak_nil)))) sk_next))) : SOk K _ b_told_between_1))
    (sk_ret (gk_call (ak_cons gk_var ak_nil))))) : SOk K _ b_told_between)
theorem sc_powered : FnScope nm_powered pm_powered (defScope s_powered) := ⟨rfl, rfl, rfl, by decide +kernel, rfl, by decide +kernel, by decide +kernel⟩
theorem bi_powered (T : Txt K mg) : Binds K T.powered.fd pm_powered [] := T.powered.F.binds fun _ _ _ _ _ _ us hl => by obtain ⟨_, _, rfl⟩ := len2 hl; rfl
theorem ok_powered (T : Txt K mg) : FnOk P w K mg base CX0 4 T.powered.f T.powered.fd pm_powered (spF K r_powered) := by
  have nd := sc_powered.nd
  refine data_F T.powered.F sc_powered fun cdv A outer s H E hr => ?_
  refine ⟨_, (pss_cons (ps_set (i := 2) nd rfl (Or.inl rfl) (pe_glob rfl T.ONE.m T.ONE.r))
    (pss_cons (ps_for PassesOwn.never rfl (pi_range1 rfl T.range (pa_cons (pv 1) pa_nil)) (pg_name (i := 3) nd rfl (Or.inl rfl)) (pss_one (ps_set (i := 2) nd rfl (Or.inl rfl) (pe_call (ok_multiplied T) (hr.mono (by decide)) rfl T.multiplied.m T.multiplied.F.kp (bi_multiplied T) .nil pass0 (pa_cons (pv 2) (pa_cons (pv 0) pa_nil))))))
    (pss_one (ps_ret (pv 2))))), ?_⟩
  exact ((sk_seq (sk_set (gk_c T.ONE.d))
    (sk_seq (sk_for (ik_range1 (ak_cons gk_var ak_nil)) gt_name ((sk_set (gk_call (ak_cons gk_var (ak_cons gk_var ak_nil)))) : SOk K _ b_powered_1))
    (sk_ret gk_mv))) : SOk K _ b_powered)
theorem sc_told_kink : FnScope nm_told_kink pm_told_kink (defScope s_told_kink) := ⟨rfl, rfl, rfl, by decide +kernel, rfl, by decide +kernel, by decide +kernel⟩
theorem bi_told_kink (T : Txt K mg) : Binds K T.told_kink.fd pm_told_kink [] := T.told_kink.F.binds fun _ _ _ _ _ _ us hl => by obtain ⟨_, _, _, rfl⟩ := len3 hl; rfl
theorem ok_told_kink (T : Txt K mg) : FnOk P w K mg base CX0 5 T.told_kink.f T.told_kink.fd pm_told_kink (spF K r_told_kink) := by
  have nd := sc_told_kink.nd
  refine data_F T.told_kink.F sc_told_kink fun cdv A outer s H E hr => ?_
  refine ⟨_, (pss_cons (ps_par (i := 3) (j := 4) rfl nd rfl rfl (by decide) rfl rfl (pa_cons (pe_call (ok_value_of T) (hr.mono (by decide)) rfl T.value_of.m T.value_of.F.kp (bi_value_of T) .nil pass0 (pa_cons (pv 1) pa_nil)) (pa_cons (pe_lst pa_nil) pa_nil)) (by rfl))
    (pss_cons (ps_for PassesOwn.never rfl (kpi_seq (K := K) rfl (kpe_fld (K := K) rfl (pv 0) rfl)) (kpg_tup (K := K) (n := 2) rfl rfl (pgs_cons (pg_name (i := 5) nd rfl (Or.inl rfl)) (pgs_cons (pg_name (i := 6) nd rfl (Or.inl rfl)) pgs_nil))) (pss_one (ps_if (kpt_tru (K := K) rfl (pe_call (ok_is_less T) (hr.mono (by decide)) rfl T.is_less.m T.is_less.F.kp (bi_is_less T) .nil pass0 (pa_cons (pv 3) (pa_cons (pv 5) pa_nil))) (by intro _; rfl)) (pss_one (ps_expr (kpe_app (K := K) rfl (pv 4) (pe_call (ok_multiplied T) (hr.mono (by decide)) rfl T.multiplied.m T.multiplied.F.kp (bi_multiplied T) .nil pass0 (pa_cons (pv 6) (pa_cons (pe_call (ok_powered T) (hr.mono (by decide)) rfl T.powered.m T.powered.F.kp (bi_powered T) .nil pass0 (pa_cons (pe_call (ok_less_by T) (hr.mono (by decide)) rfl T.less_by.m T.less_by.F.kp (bi_less_by T) .nil pass0 (pa_cons (pv 5) (pa_cons (pv 3) pa_nil))) (pa_cons (pv 2) pa_nil))) pa_nil)))))) pss_nil)))
    (pss_cons (ps_for PassesOwn.never rfl (kpi_seq (K := K) rfl (kpe_fld (K := K) rfl (pv 0) rfl)) (kpg_tup (K := K) (n := 3) rfl rfl (pgs_cons (pg_name (i := 7) nd rfl (Or.inl rfl)) (pgs_cons (pg_name (i := 8) nd rfl (Or.inl rfl)) (pgs_cons (pg_name (i := 9) nd rfl (Or.inl rfl)) pgs_nil)))) (pss_one (ps_if (kpt_tru (K := K) rfl (pe_call (ok_is_less T) (hr.mono (by decide)) rfl T.is_less.m T.is_less.F.kp (bi_is_less T) .nil pass0 (pa_cons (pv 3) (pa_cons (pv 8) pa_nil))) (by intro _; rfl)) (pss_cons (ps_set (i := 10) nd rfl (Or.inl rfl) (pe_call (ok_powered T) (hr.mono (by decide)) rfl T.powered.m T.powered.F.kp (bi_powered T) .nil pass0 (pa_cons (pe_call (ok_less_by T) (hr.mono (by decide)) rfl T.less_by.m T.less_by.F.kp (bi_less_by T) .nil pass0 (pa_cons (pv 8) (pa_cons (pv 3) pa_nil))) (pa_cons (pe_op (kop_addB (K := K) rfl) (pv 2) pe_int) pa_nil))))
    (pss_cons (ps_set (i := 11) nd rfl (Or.inl rfl) (pe_ifExp (kpt_tru (K := K) rfl (pe_call (ok_is_less T) (hr.mono (by decide)) rfl T.is_less.m T.is_less.F.kp (bi_is_less T) .nil pass0 (pa_cons (pv 3) (pa_cons (pv 7) pa_nil))) (by intro _; rfl)) (pe_call (ok_powered T) (hr.mono (by decide)) rfl T.powered.m T.powered.F.kp (bi_powered T) .nil pass0 (pa_cons (pe_call (ok_less_by T) (hr.mono (by decide)) rfl T.less_by.m T.less_by.F.kp (bi_less_by T) .nil pass0 (pa_cons (pv 7) (pa_cons (pv 3) pa_nil))) (pa_cons (pe_op (kop_addB (K := K) rfl) (pv 2) pe_int) pa_nil))) (pe_glob rfl T.NOUGHT.m T.NOUGHT.r)))
    (pss_one (ps_expr (kpe_app (K := K) rfl (pv 4) (pe_call (ok_multiplied T) (hr.mono (by decide)) rfl T.multiplied.m T.multiplied.F.kp (bi_multiplied T) .nil pass0 (pa_cons (pe_call (ok_multiplied T) (hr.mono (by decide)) rfl T.multiplied.m T.multiplied.F.kp (bi_multiplied T) .nil pass0 (pa_cons (pv 9) (pa_cons (pe_call (ok_lowest T) (hr.mono (by decide)) rfl T.lowest.m T.lowest.F.kp (bi_lowest T) .nil pass0 (pa_cons pe_int (pa_cons (pe_op (kop_addB (K := K) rfl) (pv 2) pe_int) pa_nil))) pa_nil))) (pa_cons (pe_call (ok_less_by T) (hr.mono (by decide)) rfl T.less_by.m T.less_by.F.kp (bi_less_by T) .nil pass0 (pa_cons (pv 10) (pa_cons (pv 11) pa_nil))) pa_nil)))))))) pss_nil)))
    (pss_one (ps_ret (pe_call (ok_summed T) (hr.mono (by decide)) rfl T.summed.m T.summed.F.kp (bi_summed T) .nil pass0 (pa_cons (pv 4) pa_nil))))))), ?_⟩
  exact ((sk_seq (sk_ypar (yk_cons (gk_call (ak_cons gk_var ak_nil)) (yk_cons (gk_lst ak_nil) yk_nil)))
    (sk_seq (sk_for (ik_seq (gk_fld T.Rule rfl gk_var)) (gt_tup (gts_cons gt_name (gts_cons gt_name gts_nil))) ((sk_if (tk_truK (gk_call (ak_cons gk_var (ak_cons gk_var ak_nil)))) (sk_app (gk_call (ak_cons gk_var (ak_cons (gk_call (ak_cons (gk_call (ak_cons gk_var (ak_cons gk_var ak_nil))) (ak_cons gk_var ak_nil))) ak_nil)))) sk_next) : SOk K _ b_told_kink_1))
    (sk_seq (sk_for (ik_seq (gk_fld T.Rule rfl gk_var)) (gt_tup (gts_cons gt_name (gts_cons gt_name (gts_cons gt_name gts_nil)))) ((sk_if (tk_truK (gk_call (ak_cons gk_var (ak_cons gk_var ak_nil)))) (sk_seq (sk_set (gk_call (ak_cons (gk_call (ak_cons gk_var (ak_cons gk_var ak_nil))) (ak_cons (gk_op od_addB gk_var gk_int) ak_nil))))
    (sk_seq (sk_set (gk_if (tk_truK (gk_call (ak_cons gk_var (ak_cons gk_var ak_nil)))) (gk_call (ak_cons (gk_call (ak_cons gk_var (ak_cons gk_var ak_nil))) (ak_cons (gk_op od_addB gk_var gk_int) ak_nil))) (gk_c T.NOUGHT.d)))
    (sk_app (gk_call (ak_cons (gk_call (ak_cons gk_var (ak_cons (gk_call (ak_cons gk_int (ak_cons (gk_op od_addB gk_var gk_int) ak_nil))) ak_nil))) (ak_cons (gk_call (ak_cons gk_var (ak_cons gk_var ak_nil))) ak_nil)))))) sk_next) : SOk K _ b_told_kink_2))
    (sk_ret (gk_call (ak_cons gk_var ak_nil)))))) : SOk K _ b_told_kink)
theorem sc_number_told : FnScope nm_number_told pm_number_told (defScope s_number_told) := ⟨rfl, rfl, rfl, by decide +kernel, rfl, by decide +kernel, by decide +kernel⟩
theorem bi_number_told (T : Txt K mg) : Binds K T.number_told.fd pm_number_told [] := T.number_told.F.binds fun _ _ _ _ _ _ us hl => by obtain ⟨_, _, _, rfl⟩ := len3 hl; rfl
theorem ok_number_told (T : Txt K mg) : FnOk P w K mg base CX0 6 T.number_told.f T.number_told.fd pm_number_told (spF K r_number_told) := by
  have nd := sc_number_told.nd
  refine data_F T.number_told.F sc_number_told fun cdv A outer s H E hr => ?_
  refine ⟨_, (pss_cons (ps_if (PW.pt (pw_and (pt_cmpR (kop_eq (K := K) rfl hr.units) (pe_ix (kix (K := K) rfl) (pv 2) pe_int (fun _ _ => rfl)) pe_str (nomark _)) (pw_and1 (kpt_tru (K := K) rfl (pe_call (ok_is_power T) (hr.mono (by decide)) rfl T.is_power.m T.is_power.F.kp (bi_is_power T) .nil pass0 (pa_cons (pv 1) (pa_cons (pv 2) pa_nil))) (by intro _; rfl))))) (pss_one (ps_ret (pe_call (ok_told T) (hr.mono (by decide)) rfl T.told.m T.told.F.kp (bi_told T) .nil pass0 (pa_cons (pv 0) (pa_cons (pe_lst (kpa_star (K := K) rfl (pe_lc (own := [("spot", 5)]) rfl nd (pi_range1 rfl T.range (pa_cons (pe_ix (kix (K := K) rfl) (pv 2) pe_int (fun _ _ => rfl)) pa_nil)) (blkOk_by (N := nm_number_told) (sc := defScope s_number_told) (by decide +kernel)) (fun _ _ _ _ _ => (pg_name (i := 5) nd rfl (Or.inl rfl))) (fun _ _ _ _ _ => pts_nil) (fun _ _ _ _ _ => (pe_glob rfl T.NOUGHT.m T.NOUGHT.r))) (pa_cons (pe_ix (kix (K := K) rfl) (pv 2) pe_int (fun _ _ => rfl)) pa_nil))) pa_nil))))) pss_nil)
    (pss_cons (ps_if (PW.pt (pw_and (pt_cmpR (kop_eq (K := K) rfl hr.units) (pe_ix (kix (K := K) rfl) (pv 2) pe_int (fun _ _ => rfl)) pe_str (nomark _)) (pw_and (pt_cmpR op_gt (pv 1) pe_int (nomark _)) (pw_and (pt_cmpR (kop_eq (K := K) rfl hr.units) (pe_callB (kcr_len (K := K) rfl) (by rfl) T.len (by decide +kernel) (pa_cons (pv 2) pa_nil)) pe_int (nomark _)) (pw_and1 (kpt_tru (K := K) rfl (pe_call (ok_is_within T) (hr.mono (by decide)) rfl T.is_within.m T.is_within.F.kp (bi_is_within T) .nil pass0 (pa_cons (pv 0) (pa_cons (pe_ix (kix (K := K) rfl) (pv 2) pe_int (fun _ _ => rfl)) pa_nil))) (by intro _; rfl))))))) (pss_one (ps_ret (pe_call (ok_told_kink T) (hr.mono (by decide)) rfl T.told_kink.m T.told_kink.F.kp (bi_told_kink T) .nil pass0 (pa_cons (pv 0) (pa_cons (pe_ix (kix (K := K) rfl) (pv 2) pe_int (fun _ _ => rfl)) (pa_cons (pe_op op_subA (pv 1) pe_int) pa_nil)))))) pss_nil)
    (pss_cons (ps_if (PW.pt (pw_and (pt_cmpR (kop_eq (K := K) rfl hr.units) (pe_ix (kix (K := K) rfl) (pv 2) pe_int (fun _ _ => rfl)) pe_str (nomark _)) (pw_and (pt_cmpR (kop_eq (K := K) rfl hr.units) (pv 1) pe_int (nomark _)) (pw_and (pt_cmpR (kop_eq (K := K) rfl hr.units) (pe_callB (kcr_len (K := K) rfl) (by rfl) T.len (by decide +kernel) (pa_cons (pv 2) pa_nil)) pe_int (nomark _)) (pw_and1 (kpt_tru (K := K) rfl (pe_call (ok_is_within T) (hr.mono (by decide)) rfl T.is_within.m T.is_within.F.kp (bi_is_within T) .nil pass0 (pa_cons (pv 0) (pa_cons (pe_ix (kix (K := K) rfl) (pv 2) pe_int (fun _ _ => rfl)) pa_nil))) (by intro _; rfl))))))) (pss_one (ps_ret (pe_call (ok_summed T) (hr.mono (by decide)) rfl T.summed.m T.summed.F.kp (bi_summed T) .nil pass0 (pa_cons (pe_lc (own := [("point", 6), ("weight", 7)]) rfl nd (kpi_seq (K := K) rfl (kpe_fld (K := K) rfl (pv 0) rfl)) (blkOk_by (N := nm_number_told) (sc := defScope s_number_told) (by decide +kernel)) (fun _ _ _ _ _ => (kpg_tup (K := K) (n := 2) rfl rfl (pgs_cons (pg_name (i := 6) nd rfl (Or.inl rfl)) (pgs_cons (pg_name (i := 7) nd rfl (Or.inl rfl)) pgs_nil)))) (fun _ _ _ _ _ => (pts_one (pt_cmpR (kop_eq (K := K) rfl hr.units) (pv 6) (pe_call (ok_value_of T) (hr.mono (by decide)) rfl T.value_of.m T.value_of.F.kp (bi_value_of T) .nil pass0 (pa_cons (pe_ix (kix (K := K) rfl) (pv 2) pe_int (fun _ _ => rfl)) pa_nil)) (nomark _)))) (fun _ _ _ _ _ => (pv 7))) pa_nil)))) pss_nil)
    (pss_cons (ps_if (PW.pt (pw_or (pt_cmpR (kop_ne (K := K) rfl hr.units) (pe_ix (kix (K := K) rfl) (pv 2) pe_int (fun _ _ => rfl)) pe_str (nomark _)) (pw_or (pt_cmpR op_gt (pv 1) pe_int (nomark _)) (pw_or (pt_cmpR (kop_ne (K := K) rfl hr.units) (pe_callB (kcr_len (K := K) rfl) (by rfl) T.len (by decide +kernel) (pa_cons (pv 2) pa_nil)) pe_int (nomark _)) (pw_or1 (pt_not (kpt_tru (K := K) rfl (pe_callB (kcr_all (K := K) rfl rfl) (by rfl) T.all (by decide +kernel) (pa_cons (pe_lc (own := [("one", 8)]) rfl nd (kpi_seq (K := K) rfl (pe_slice (ksl_B (K := K) rfl) (pv 2) (po_some pe_int) po_none)) (blkOk_by (N := nm_number_told) (sc := defScope s_number_told) (by decide +kernel)) (fun _ _ _ _ _ => (pg_name (i := 8) nd rfl (Or.inl rfl))) (fun _ _ _ _ _ => pts_nil) (fun _ _ _ _ _ => (pe_call (ok_is_within T) (hr.mono (by decide)) rfl T.is_within.m T.is_within.F.kp (bi_is_within T) .nil pass0 (pa_cons (pv 0) (pa_cons (pv 8) pa_nil))))) pa_nil)) (by intro _; rfl)))))))) (pss_one (ps_ret pe_non)) pss_nil)
    (pss_cons (ps_par (i := 3) (j := 4) rfl nd rfl rfl (by decide) rfl rfl (pa_cons (pe_call (ok_value_of T) (hr.mono (by decide)) rfl T.value_of.m T.value_of.F.kp (bi_value_of T) .nil pass0 (pa_cons (pe_ix (kix (K := K) rfl) (pv 2) pe_int (fun _ _ => rfl)) pa_nil)) (pa_cons (pe_call (ok_value_of T) (hr.mono (by decide)) rfl T.value_of.m T.value_of.F.kp (bi_value_of T) .nil pass0 (pa_cons (pe_ix (kix (K := K) rfl) (pv 2) pe_int (fun _ _ => rfl)) pa_nil)) pa_nil)) (by rfl))
    (pss_one (ps_ret (pe_ifExp (kpt_tru (K := K) rfl (pe_call (ok_is_less T) (hr.mono (by decide)) rfl T.is_less.m T.is_less.F.kp (bi_is_less T) .nil pass0 (pa_cons (pv 3) (pa_cons (pv 4) pa_nil))) (by intro _; rfl)) (pe_call (ok_told_between T) (hr.mono (by decide)) rfl T.told_between.m T.told_between.F.kp (bi_told_between T) .nil pass0 (pa_cons (pv 0) (pa_cons (pv 3) (pa_cons (pv 4) pa_nil)))) pe_non)))))))), ?_⟩
  exact ((sk_seq (sk_if (tk_and (tk_test (gk_op od_eq (gk_op od_ix gk_var gk_int) gk_str)) (tk_truK (gk_call (ak_cons gk_var (ak_cons gk_var ak_nil))))) (sk_ret (gk_call (ak_cons gk_var (ak_cons (gk_lst (ak_star (gk_lc (ik_range1 (ak_cons (gk_op od_ix gk_var gk_int) ak_nil)) gt_name tk_yes (gk_c T.NOUGHT.d) (by decide)) (ak_cons (gk_op od_ix gk_var gk_int) ak_nil))) ak_nil)))) sk_next)
    (sk_seq (sk_if (tk_and (tk_test (gk_op od_eq (gk_op od_ix gk_var gk_int) gk_str)) (tk_and (tk_test (gk_op od_gt gk_var gk_int)) (tk_and (tk_test (gk_op od_eq (gk_cb cd_len (ak_cons gk_var ak_nil)) gk_int)) (tk_truK (gk_call (ak_cons gk_var (ak_cons (gk_op od_ix gk_var gk_int) ak_nil))))))) (sk_ret (gk_call (ak_cons gk_var (ak_cons (gk_op od_ix gk_var gk_int) (ak_cons (gk_op od_sub gk_var gk_int) ak_nil))))) sk_next)
    (sk_seq (sk_if (tk_and (tk_test (gk_op od_eq (gk_op od_ix gk_var gk_int) gk_str)) (tk_and (tk_test (gk_op od_eq gk_var gk_int)) (tk_and (tk_test (gk_op od_eq (gk_cb cd_len (ak_cons gk_var ak_nil)) gk_int)) (tk_truK (gk_call (ak_cons gk_var (ak_cons (gk_op od_ix gk_var gk_int) ak_nil))))))) (sk_ret (gk_call (ak_cons (gk_lc (ik_seq (gk_fld T.Rule rfl gk_var)) (gt_tup (gts_cons gt_name (gts_cons gt_name gts_nil))) (tk_test (gk_op od_eq gk_var (gk_call (ak_cons (gk_op od_ix gk_var gk_int) ak_nil)))) gk_var (by decide)) ak_nil))) sk_next)
    (sk_seq (sk_if (tk_or (tk_test (gk_op od_ne (gk_op od_ix gk_var gk_int) gk_str)) (tk_or (tk_test (gk_op od_gt gk_var gk_int)) (tk_or (tk_test (gk_op od_ne (gk_cb cd_len (ak_cons gk_var ak_nil)) gk_int)) (tk_not (tk_truK (gk_cb cd_all (ak_cons (gk_lc (ik_seq (gk_sl sd_B gk_var (pk_some gk_int) pk_none)) gt_name tk_yes (gk_call (ak_cons gk_var (ak_cons gk_var ak_nil))) (by decide)) ak_nil))))))) (sk_ret gk_non) sk_next)
    (sk_seq (sk_ypar (yk_cons (gk_call (ak_cons (gk_op od_ix gk_var gk_int) ak_nil)) (yk_cons (gk_call (ak_cons (gk_op od_ix gk_var gk_int) ak_nil)) yk_nil)))
    (sk_ret (gk_if (tk_truK (gk_call (ak_cons gk_var (ak_cons gk_var ak_nil)))) (gk_call (ak_cons gk_var (ak_cons gk_var (ak_cons gk_var ak_nil)))) gk_non))))))) : SOk K _ b_number_told)
theorem sc_refuting_holds : FnScope nm_refuting_holds pm_refuting_holds (defScope s_refuting_holds) := ⟨rfl, rfl, rfl, by decide +kernel, rfl, by decide +kernel, by decide +kernel⟩
theorem bi_refuting_holds (T : Txt K mg) : Binds K T.refuting_holds.fd pm_refuting_holds [] := T.refuting_holds.F.binds fun _ _ _ _ _ _ us hl => by obtain ⟨_, _, _, rfl⟩ := len3 hl; rfl
theorem ok_refuting_holds (T : Txt K mg) : FnOk P w K mg base CX0 7 T.refuting_holds.f T.refuting_holds.fd pm_refuting_holds (spF K r_refuting_holds) := by
  have nd := sc_refuting_holds.nd
  refine data_F T.refuting_holds.F sc_refuting_holds fun cdv A outer s H E hr => ?_
  refine ⟨_, (pss_cons (ps_if (PW.pt (pw_or (pt_not (kpt_tru (K := K) rfl (pe_callB (kcr_isi (K := K) rfl) (by rfl) T.isinstance (by decide +kernel) (pa_cons (pv 2) (pa_cons (pe_bltn (v := .ty "tuple") (u := .type "tuple") (by rfl) T.tuple (by decide +kernel) rfl) pa_nil))) (by intro _; rfl))) (pw_or (pt_cmpR (kop_eq (K := K) rfl hr.units) (pe_callB (kcr_len (K := K) rfl) (by rfl) T.len (by decide +kernel) (pa_cons (pv 2) pa_nil)) pe_int (nomark _)) (pw_or1 (pt_not (kpt_tru (K := K) rfl (pe_callB (kcr_isi (K := K) rfl) (by rfl) T.isinstance (by decide +kernel) (pa_cons (pe_ix (kix (K := K) rfl) (pv 2) pe_int (fun _ _ => rfl)) (pa_cons (pe_bltn (v := .ty "str") (u := .type "str") (by rfl) T.str (by decide +kernel) rfl) pa_nil))) (by intro _; rfl))))))) (pss_one (ps_ret pe_bl)) pss_nil)
    (pss_cons (ps_set (i := 3) nd rfl (Or.inl rfl) (pe_call (ok_number_told T) (hr.mono (by decide)) rfl T.number_told.m T.number_told.F.kp (bi_number_told T) .nil pass0 (pa_cons (pv 0) (pa_cons (pv 1) (pa_cons (pv 2) pa_nil)))))
    (pss_one (ps_ret (pe_and (pe_cmpR op_isNotA (pv 3) pe_non (nomark _)) (pe_one (pe_cmpR op_lt (pe_ix (kix (K := K) rfl) (pv 3) pe_int (fun _ _ => rfl)) pe_int (nomark _)))))))), ?_⟩
  exact ((sk_seq (sk_if (tk_or (tk_not (tk_truK (gk_cb (cd_isiU T.Rule.at_ T.iu_Rule) (ak_cons gk_var (ak_cons (gk_c fun _ => .ty _) ak_nil))))) (tk_or (tk_test (gk_op od_eq (gk_cb cd_len (ak_cons gk_var ak_nil)) gk_int)) (tk_not (tk_truK (gk_cb (cd_isiU T.Rule.at_ T.iu_Rule) (ak_cons (gk_op od_ix gk_var gk_int) (ak_cons (gk_c fun _ => .ty _) ak_nil))))))) (sk_ret gk_bl) sk_next)
    (sk_seq (sk_set (gk_call (ak_cons gk_var (ak_cons gk_var (ak_cons gk_var ak_nil)))))
    (sk_ret (gk_vand (gk_op od_isNot gk_var gk_non) (gk_op od_lt (gk_op od_ix gk_var gk_int) gk_int))))) : SOk K _ b_refuting_holds)
theorem sc_law : FnScope nm_law pm_law (defScope s_law) := ⟨rfl, rfl, rfl, by decide +kernel, rfl, by decide +kernel, by decide +kernel⟩
theorem ok_law (T : Txt K mg) {s : Shared} {H : Hp} {a : Addr} {Q : VK} (e0 : Env0 P w K mg base callerA [] s H) (bd0 : BindsTo s T.law.fd ⟨[.ref a], []⟩ [("_law_script", .ref a)]) (q : spF K r_law [.ref a] H Q E0) :
    codeAny (model P w) callerA (.call (.ref T.law.f) ⟨[.ref a], []⟩) (CR CX0 [] P w H s Q E0) s := by
  have nd := sc_law.nd
  refine call_law (k := 13) T.law.F sc_law ⟨rfl, by decide, by decide⟩ (fun cdv s H E hg hr => ?_) e0 bd0 q
  refine ⟨_, (pss_cons (ps_for PassesOwn.never rfl (pi_range1 rfl T.range (pa_cons (pe_callB (cr_max2 rfl) (by rfl) T.max (by decide +kernel) (pa_cons pe_int (pa_cons (pe_callB (cr_min2 rfl) (by rfl) T.min (by decide +kernel) (pa_cons pe_int (pa_cons (pe_callB (kcr_len (K := K) rfl) (by rfl) T.len (by decide +kernel) (pa_cons (pv 0) pa_nil)) pa_nil))) pa_nil))) pa_nil)) (pg_name (i := 1) nd rfl (Or.inl rfl)) (pss_cons (ps_set (i := 2) nd rfl (Or.inl rfl) (pe_call (ok_w_seed T) (hr.mono (by decide)) rfl T.w_seed.m T.w_seed.F.kp (bi_w_seed T) .nil pass0 (pa_cons (pv 0) (pa_cons (pv 1) pa_nil))))
    (pss_one (ps_for PassesOwn.never rfl (pi_range1 rfl T.range (pa_cons pe_int pa_nil)) (pg_name (i := 3) nd rfl (Or.inl rfl)) (pss_cons (ps_par (i := 4) (j := 5) rfl nd rfl rfl (by decide) rfl rfl (pa_cons (pe_call (ok_w_rule T) (hr.mono (by decide)) rfl T.w_rule.m T.w_rule.F.kp (bi_w_rule T) .nil pass0 (pa_cons (pv 2) (pa_cons pe_int (pa_cons pe_int pa_nil)))) (pa_cons (pe_call (ok_w_choose T) (hr.mono (by decide)) rfl T.w_choose.m T.w_choose.F.kp (bi_w_choose T) .nil pass0 (pa_cons (pv 2) (pa_cons pe_int pa_nil))) pa_nil)) (by rfl))
    (pss_cons (ps_set (i := 6) nd rfl (Or.inl rfl) (pe_call (ok_w_made T) (hr.mono (by decide)) rfl T.w_made.m T.w_made.F.kp (bi_w_made T) .nil pass0 (pa_cons (pv 4) pa_nil)))
    (pss_cons (ps_set (i := 7) nd rfl (Or.inl rfl) (pe_lst (pa_cons pe_non (pa_cons pe_bl (pa_cons (pe_tup pa_nil) (pa_cons (pe_lst pa_nil) (pa_cons pe_str (pa_cons (pe_tup (pa_cons pe_str pa_nil)) (pa_cons (pe_tup (pa_cons pe_str (pa_cons pe_int pa_nil))) (pa_cons (pe_tup (pa_cons pe_str (pa_cons pe_int (pa_cons pe_bl pa_nil)))) (pa_cons (pe_tup (pa_cons pe_str (pa_cons pe_bl (pa_cons pe_int pa_nil)))) pa_nil)))))))))))
    (pss_cons (ps_set (i := 7) nd rfl (Or.inl rfl) (pe_op (kop_addB (K := K) rfl) (pv 7) (pe_lst (pa_cons (pe_tup (pa_cons pe_str (pa_cons pe_int (pa_cons (pe_tup (pa_cons pe_int (pa_cons pe_int pa_nil))) pa_nil)))) (pa_cons (pe_tup (pa_cons pe_str (pa_cons pe_int (pa_cons pe_int pa_nil)))) (pa_cons (pe_tup (pa_cons pe_str (pa_cons (pe_op op_subA pe_int pe_int) (pa_cons pe_int pa_nil)))) pa_nil))))))
    (pss_cons (ps_set (i := 7) nd rfl (Or.inl rfl) (pe_op (kop_addB (K := K) rfl) (pv 7) (pe_lst (pa_cons (pe_lst (pa_cons pe_str (pa_cons pe_int pa_nil))) (pa_cons (pe_tup (pa_cons pe_str (pa_cons pe_bl pa_nil))) pa_nil)))))
    (pss_cons (ps_set (i := 7) nd rfl (Or.inl rfl) (pe_op (kop_addB (K := K) rfl) (pv 7) (pe_lst (pa_cons (pe_tup (pa_cons pe_str (pa_cons (pe_tup (pa_cons pe_int (pa_cons pe_int pa_nil))) pa_nil))) (pa_cons (pe_tup (pa_cons pe_str (pa_cons pe_int (pa_cons pe_int pa_nil)))) (pa_cons (pe_tup (pa_cons pe_str (pa_cons pe_int (pa_cons pe_int pa_nil)))) (pa_cons (pe_tup (pa_cons pe_str (pa_cons pe_int (pa_cons pe_int pa_nil)))) (pa_cons (pe_tup (pa_cons pe_str (pa_cons pe_non pa_nil))) (pa_cons (pe_tup (pa_cons pe_str (pa_cons pe_str pa_nil))) pa_nil)))))))))
    (pss_cons (ps_set (i := 7) nd rfl (Or.inl rfl) (pe_op (kop_addB (K := K) rfl) (pv 7) (pe_lst (pa_cons (pe_call (ok_w_anything T) (hr.mono (by decide)) rfl T.w_anything.m T.w_anything.F.kp (bi_w_anything T) .nil pass0 (pa_cons (pv 2) (pa_cons pe_int pa_nil))) (pa_cons (pe_tup (pa_cons pe_str (pa_cons pe_int (pa_cons pe_int (pa_cons pe_int pa_nil))))) (pa_cons (pe_tup (pa_cons (pe_lst pa_nil) (pa_cons pe_int pa_nil))) (pa_cons (pe_tup (pa_cons (pe_tup pa_nil) (pa_cons pe_int pa_nil))) (pa_cons (pe_tup (pa_cons pe_non (pa_cons pe_int pa_nil))) (pa_cons (pe_lst (pa_cons (pe_lst (pa_cons (pe_lst (pa_cons (pe_lst (pa_cons (pe_lst (pa_cons (pe_lst (pa_cons (pe_lst (pa_cons (pe_lst (pa_cons pe_int pa_nil)) pa_nil)) pa_nil)) pa_nil)) pa_nil)) pa_nil)) pa_nil)) pa_nil)) pa_nil)))))))))
    (pss_cons (ps_for PassesOwn.never rfl (kpi_seq (K := K) rfl (pe_tup (pa_cons pe_str (pa_cons pe_str (pa_cons pe_str (pa_cons pe_str (pa_cons pe_str pa_nil))))))) (pg_name (i := 8) nd rfl (Or.inl rfl)) (pss_one (ps_set (i := 7) nd rfl (Or.inl rfl) (pe_op (kop_addB (K := K) rfl) (pv 7) (pe_lst (pa_cons (pe_tup (pa_cons (pv 8) (pa_cons (pe_call (ok_w_anything T) (hr.mono (by decide)) rfl T.w_anything.m T.w_anything.F.kp (bi_w_anything T) .nil pass0 (pa_cons (pv 2) (pa_cons pe_int pa_nil))) pa_nil))) (pa_cons (pe_tup (pa_cons (pv 8) (pa_cons (pe_call (ok_w_anything T) (hr.mono (by decide)) rfl T.w_anything.m T.w_anything.F.kp (bi_w_anything T) .nil pass0 (pa_cons (pv 2) (pa_cons pe_int pa_nil))) (pa_cons (pe_call (ok_w_anything T) (hr.mono (by decide)) rfl T.w_anything.m T.w_anything.F.kp (bi_w_anything T) .nil pass0 (pa_cons (pv 2) (pa_cons pe_int pa_nil))) pa_nil)))) pa_nil)))))))
    (pss_one (ps_for PassesOwn.never rfl (kpi_seq (K := K) rfl (pv 7)) (pg_name (i := 9) nd rfl (Or.inl rfl)) (pss_one (ps_if (pt_cmpR (kop_ne (K := K) rfl hr.units) (pe_call (ok_refuting_holds T) (hr.mono (by decide)) rfl T.refuting_holds.m T.refuting_holds.F.kp (bi_refuting_holds T) .nil pass0 (pa_cons (pv 6) (pa_cons (pv 5) (pa_cons (pv 9) pa_nil)))) (pe_call (ok_w_no_right T) (hr.mono (by decide)) rfl T.w_no_right.m T.w_no_right.F.kp (bi_w_no_right T) .nil pass0 (pa_cons (pv 4) (pa_cons (pv 5) (pa_cons (pv 9) pa_nil)))) (nomark _)) (pss_one (ps_ret pe_bl)) pss_nil))))))))))))))))
    (pss_one (ps_ret pe_bl))), ?_⟩
  exact ((sk_seq (sk_for (ik_range1 (ak_cons (gk_cb cd_max2 (ak_cons gk_int (ak_cons (gk_cb cd_min2 (ak_cons gk_int (ak_cons (gk_cb cd_len (ak_cons gk_var ak_nil)) ak_nil))) ak_nil))) ak_nil)) gt_name ((sk_seq (sk_set (gk_call (ak_cons gk_var (ak_cons gk_var ak_nil))))
    (sk_for (ik_range1 (ak_cons gk_int ak_nil)) gt_name ((sk_seq (sk_ypar (yk_cons (gk_callB (ak_cons gk_int (ak_cons gk_int ak_nil))) (yk_cons (gk_callB (ak_cons gk_int ak_nil)) yk_nil)))
    (sk_seq (sk_set (gk_call (ak_cons gk_var ak_nil)))
    (sk_seq (sk_set (gk_lst (ak_cons gk_non (ak_cons gk_bl (ak_cons (gk_tup ak_nil) (ak_cons (gk_lst ak_nil) (ak_cons gk_str (ak_cons (gk_tup (ak_cons gk_str ak_nil)) (ak_cons (gk_tup (ak_cons gk_str (ak_cons gk_int ak_nil))) (ak_cons (gk_tup (ak_cons gk_str (ak_cons gk_int (ak_cons gk_bl ak_nil)))) (ak_cons (gk_tup (ak_cons gk_str (ak_cons gk_bl (ak_cons gk_int ak_nil)))) ak_nil)))))))))))
    (sk_seq (sk_set (gk_op od_addB gk_var (gk_lst (ak_cons (gk_tup (ak_cons gk_str (ak_cons gk_int (ak_cons (gk_tup (ak_cons gk_int (ak_cons gk_int ak_nil))) ak_nil)))) (ak_cons (gk_tup (ak_cons gk_str (ak_cons gk_int (ak_cons gk_int ak_nil)))) (ak_cons (gk_tup (ak_cons gk_str (ak_cons (gk_op od_sub gk_int gk_int) (ak_cons gk_int ak_nil)))) ak_nil))))))
    (sk_seq (sk_set (gk_op od_addB gk_var (gk_lst (ak_cons (gk_lst (ak_cons gk_str (ak_cons gk_int ak_nil))) (ak_cons (gk_tup (ak_cons gk_str (ak_cons gk_bl ak_nil))) ak_nil)))))
    (sk_seq (sk_set (gk_op od_addB gk_var (gk_lst (ak_cons (gk_tup (ak_cons gk_str (ak_cons (gk_tup (ak_cons gk_int (ak_cons gk_int ak_nil))) ak_nil))) (ak_cons (gk_tup (ak_cons gk_str (ak_cons gk_int (ak_cons gk_int ak_nil)))) (ak_cons (gk_tup (ak_cons gk_str (ak_cons gk_int (ak_cons gk_int ak_nil)))) (ak_cons (gk_tup (ak_cons gk_str (ak_cons gk_int (ak_cons gk_int ak_nil)))) (ak_cons (gk_tup (ak_cons gk_str (ak_cons gk_non ak_nil))) (ak_cons (gk_tup (ak_cons gk_str (ak_cons gk_str ak_nil))) ak_nil)))))))))
    (sk_seq (sk_set (gk_op od_addB gk_var (gk_lst (ak_cons (gk_callB (ak_cons gk_int ak_nil)) (ak_cons (gk_tup (ak_cons gk_str (ak_cons gk_int (ak_cons gk_int (ak_cons gk_int ak_nil))))) (ak_cons (gk_tup (ak_cons (gk_lst ak_nil) (ak_cons gk_int ak_nil))) (ak_cons (gk_tup (ak_cons (gk_tup ak_nil) (ak_cons gk_int ak_nil))) (ak_cons (gk_tup (ak_cons gk_non (ak_cons gk_int ak_nil))) (ak_cons (gk_lst (ak_cons (gk_lst (ak_cons (gk_lst (ak_cons (gk_lst (ak_cons (gk_lst (ak_cons (gk_lst (ak_cons (gk_lst (ak_cons (gk_lst (ak_cons gk_int ak_nil)) ak_nil)) ak_nil)) ak_nil)) ak_nil)) ak_nil)) ak_nil)) ak_nil)) ak_nil)))))))))
    (sk_seq (sk_for (ik_seq (gk_tup (ak_cons gk_str (ak_cons gk_str (ak_cons gk_str (ak_cons gk_str (ak_cons gk_str ak_nil))))))) gt_name ((sk_set (gk_op od_addB gk_var (gk_lst (ak_cons (gk_tup (ak_cons gk_var (ak_cons (gk_callB (ak_cons gk_int ak_nil)) ak_nil))) (ak_cons (gk_tup (ak_cons gk_var (ak_cons (gk_callB (ak_cons gk_int ak_nil)) (ak_cons (gk_callB (ak_cons gk_int ak_nil)) ak_nil)))) ak_nil))))) : SOk K _ b_law_1))
    (sk_for (ik_seq gk_var) gt_name ((sk_if (tk_test (gk_op od_ne (gk_call (ak_cons gk_var (ak_cons gk_var (ak_cons gk_var ak_nil)))) (gk_call (ak_cons gk_var (ak_cons gk_var (ak_cons gk_var ak_nil)))))) (sk_ret gk_bl) sk_next) : SOk K _ b_law_2)))))))))) : SOk K _ b_law_3))) : SOk K _ b_law_4))
    (sk_ret gk_bl)) : SOk K _ b_law)
end
end Bk
namespace Bk
open PySem L2
theorem runF_eq {k n : Nat} {b : MS} {ds : List D} (h : ds.length = k) : runF k n b ds = outF (b (pad n ds)) := if_pos h
theorem xseq_nx {s t : MS} {G G1 : Gam} (h : s G = some (.nx, G1)) : xseq s t G = t G1 := by
  unfold xseq
  rw [h]
theorem xseq_rt {s t : MS} {G G1 : Gam} {r : R} (h : s G = some (.rt r, G1)) : xseq s t G = some (.rt r, G1) := by
  unfold xseq
  rw [h]
theorem xset_ok {i : Nat} {a : M R} {G G1 : Gam} {r : R} (h : a G = some (r, G1)) : xset i a G = some (.nx, G1.set i r.ent) := by
  unfold xset
  rw [h]
  rfl
theorem xset_e {i : Nat} {a : M R} {G G1 G2 : Gam} {r : R} (h : a G = some (r, G1)) (e : G1.set i r.ent = G2) : xset i a G = some (.nx, G2) := e ▸ xset_ok h
theorem xret_ok {a : M R} {G G1 : Gam} {r : R} (h : a G = some (r, G1)) : xret a G = some (.rt r, G1) := by
  unfold xret
  rw [h]
  rfl
theorem xcall_ok {m : List D → Option R} {a : M (List D)} {G G1 : Gam} {xs : List D} {r : R} (h : a G = some (xs, G1)) (hm : m xs = some r) : xcall m a G = some (r, G1) := by
  unfold xcall
  rw [h]
  simp only [bd_some, hm]
theorem xcons_ok {a : M R} {b : M (List D)} {G G1 G2 : Gam} {r : R} {xs : List D} (h : a G = some (r, G1)) (hb : b G1 = some (xs, G2)) : xcons a b G = some (r.d :: xs, G2) := by
  unfold xcons
  rw [h]
  simp only [bd_some, hb]
theorem xnil_ok {G : Gam} : xnil G = some ([], G) := rfl
theorem runF_st {k n : Nat} {b : MS} {ds : List D} {o : Option R} (hl : ds.length = k) (h : outF (b (pad n ds)) = o) : runF k n b ds = o := (runF_eq hl).trans h
theorem st_nx {s t : MS} {G G1 : Gam} {o : Option R} (h : s G = some (.nx, G1)) (k : outF (t G1) = o) : outF (xseq s t G) = o := (congrArg outF (xseq_nx h)).trans k
theorem st_ret {a : M R} {G G1 : Gam} {r : R} (h : a G = some (r, G1)) : outF (xret a G) = some r := congrArg outF (xret_ok h)
theorem runB_st {k n : Nat} {b : MS} {bs : Mob} {ds : List D} {o : Option (R × Mob)} (hl : ds.length + 1 = k) (h : outB (b (.bx bs :: pad (n - 1) ds)) = o) : runB k n b bs ds = o := (if_pos hl).trans h
theorem sb_nx {s t : MS} {G G1 : Gam} {o : Option (R × Mob)} (h : s G = some (.nx, G1)) (k : outB (t G1) = o) : outB (xseq s t G) = o := (congrArg outB (xseq_nx h)).trans k
theorem sb_rt {s t : MS} {G G1 : Gam} {r : R} {o : Option (R × Mob)} (h : s G = some (.rt r, G1)) (k : outB (some (.rt r, G1)) = o) : outB (xseq s t G) = o := (congrArg outB (xseq_rt h)).trans k
theorem st_rt {s t : MS} {G G1 : Gam} {r : R} (h : s G = some (.rt r, G1)) : outF (xseq s t G) = some r := congrArg outF (xseq_rt h)
theorem sb_ret {a : M R} {G G1 : Gam} {r : R} {bs' : Mob} (h : a G = some (r, .bx bs' :: G1)) : outB (xret a G) = some (r, bs') := congrArg outB (xret_ok h)
theorem xop_ok {o : D → D → Option R} {a b : M R} {G G1 G2 : Gam} {x y r : R} (ha : a G = some (x, G1)) (hb : b G1 = some (y, G2)) (h : o x.d y.d = some r) : xop o a b G = some (r, G2) := by
  unfold xop
  rw [ha]
  simp only [bd_some, hb, h]
theorem xc1 {a : M R} {b : M (List D)} {G G1 G2 : Gam} {d : D} {xs : List D} (h : a G = some (.im d, G1)) (hb : b G1 = some (xs, G2)) : xcons a b G = some (d :: xs, G2) := xcons_ok h hb
theorem xcw {a : M R} {b : M (List D)} {G G1 G2 : Gam} {ds : List D} {xs : List D} (h : a G = some (.ol ds, G1)) (hb : b G1 = some (xs, G2)) : xcons a b G = some (.lst ds :: xs, G2) := xcons_ok h hb
theorem xo2 {o : D → D → Option R} {a b : M R} {G G1 G2 : Gam} {x y : D} {r : R} (ha : a G = some (.im x, G1)) (hb : b G1 = some (.im y, G2)) (h : o x y = some r) : xop o a b G = some (r, G2) := xop_ok ha hb h
theorem xlst_ok {a : M (List D)} {G G1 : Gam} {xs : List D} (h : a G = some (xs, G1)) (hf : few xs.length = true) : xlst a G = some (.ol xs, G1) := by
  unfold xlst
  rw [h]
  simp only [bd_some, hf]
  rfl
theorem xcallB_ok {m : Mob → List D → Option (R × Mob)} {i : Nat} {a : M (List D)} {G G1 G2 : Gam} {xs : List D} {bs bs' : Mob} {e : Ent} {r : R} (h0 : isMu G i = true) (h : a G = some (xs, G1)) (hi : G1[i]? = some e) (he : e.mu = some bs) (hm : m bs xs = some (r, bs')) (e2 : G1.set i (e.with bs') = G2) : xcallB m i a G = some (r, G2) := by
  unfold xcallB
  rw [if_pos h0, h]
  simp only [bd_some]
  unfold callB
  simp only [hi, he, hm, e2]
theorem xapp_ok {i : Nat} {a : M R} {G G1 G2 : Gam} {r : R} {bs : List D} {e : Ent} (h0 : isLst G i = true) (h : a G = some (r, G1)) (hi : G1[i]? = some e) (he : e.mu = some (.l bs)) (hf : bs.length ≤ 100000) (e2 : G1.set i (e.with (.l (bs ++ [r.d]))) = G2) : xapp i a G = some (.nx, G2) := by
  unfold xapp
  rw [if_pos h0, h]
  simp only [bd_some]
  unfold app
  simp only [hi, he]
  rw [if_pos (show few bs.length = true from decide_eq_true (Nat.le_trans hf (by decide))), e2]
theorem xif_ok {t : M Bool} {a b : M R} {G G1 : Gam} {k : Bool} (h : t G = some (k, G1)) : xif t a b G = if k then a G1 else b G1 := by
  unfold xif
  rw [h]
  rfl
theorem xvand_t {a b : M R} {G G1 : Gam} {o : Option (R × Gam)} (h : a G = some (.im (.bl true), G1)) (h2 : b G1 = o) : xvand a b G = o := by
  unfold xvand
  rw [h]
  exact h2
theorem xvand_f {a b : M R} {G G1 : Gam} (h : a G = some (.im (.bl false), G1)) : xvand a b G = some (.im (.bl false), G1) := by
  unfold xvand
  rw [h]
  rfl
theorem xtest_ok {a : M R} {G G1 : Gam} {k : Bool} (h : a G = some (.im (.bl k), G1)) : xtest a G = some (k, G1) := by
  unfold xtest
  rw [h]
  rfl
theorem atI_ok {α : Type} {xs : List α} {i : Int} (h : 0 ≤ i) (h1 : i < xs.length) : ∃ x, atI xs i = some x ∧ x ∈ xs := by
  have h2 : i.toNat < xs.length := by omega
  refine ⟨xs[i.toNat], ?_, List.getElem_mem h2⟩
  unfold atI ixN
  rw [if_pos h, if_pos h1]
  exact List.getElem?_eq_getElem h2
theorem xcb_ok {o : List D → Option R} {a : M (List D)} {G G1 : Gam} {xs : List D} {r : R} (h : a G = some (xs, G1)) (ho : o xs = some r) : xcb o a G = some (r, G1) := by
  unfold xcb
  rw [h]
  simp only [bd_some, ho]
theorem xtup_ok {a : M (List D)} {G G1 : Gam} {xs : List D} (h : a G = some (xs, G1)) (hf : few xs.length = true) : xtup a G = some (.im (.tup xs), G1) := by
  unfold xtup
  rw [h]
  simp only [bd_some, hf]
  rfl
theorem xifs_ok {t : M Bool} {a b : MS} {G G1 : Gam} {k : Bool} (h : t G = some (k, G1)) : xifs t a b G = if k then a G1 else b G1 := by
  unfold xifs
  rw [h]
  rfl
theorem xforL_nx {tg : D → Gam → Option Gam} {b : MS} {d : D} {ds : List D} {G G1 G2 : Gam} (h1 : tg d G = some G1) (h2 : b G1 = some (.nx, G2)) : xforL tg b (d :: ds) G = xforL tg b ds G2 := by
  conv => lhs; unfold xforL
  rw [h1]
  simp only [h2]
/-- a loop whose turns keep a word -/
theorem xforL_inv {tg : D → Gam → Option Gam} {b : MS} (Inv : Gam → Prop) : ∀ {ds : List D} {G : Gam}, Inv G → (∀ d ∈ ds, ∀ G, Inv G → ∃ G1 G2, tg d G = some G1 ∧ (b G1 = some (.nx, G2) ∨ b G1 = some (.ct, G2)) ∧ Inv G2) →
    ∃ G', xforL tg b ds G = some (.nx, G') ∧ Inv G'
  | [], G, h, _ => ⟨G, rfl, h⟩
  | d :: ds, G, h, step => by
    obtain ⟨G1, G2, h1, h2, h3⟩ := step d List.mem_cons_self G h
    obtain ⟨G', h4, h5⟩ := xforL_inv Inv h3 fun e he => step e (List.mem_cons_of_mem _ he)
    refine ⟨G', ?_, h5⟩
    unfold xforL
    rw [h1]
    rcases h2 with h2 | h2
    · simp only [h2]; exact h4
    · simp only [h2]; exact h4
/-- a loop with a count -/
theorem xforL_cnt {tg : D → Gam → Option Gam} {b : MS} (St : Nat → Gam → Prop) (N : Nat) : ∀ {ds : List D} {n : Nat} {G : Gam}, St n G → (∀ d ∈ ds, ∀ n G, n < N → St n G → ∃ G1 G2, tg d G = some G1 ∧ b G1 = some (.nx, G2) ∧ St (n + 1) G2) → n + ds.length ≤ N →
    ∃ G', xforL tg b ds G = some (.nx, G') ∧ St (n + ds.length) G'
  | [], n, G, h, _, _ => ⟨G, rfl, h⟩
  | d :: ds, n, G, h, step, hn => by
    rw [List.length_cons] at hn
    obtain ⟨G1, G2, h1, h2, h3⟩ := step d List.mem_cons_self n G (by omega) h
    obtain ⟨G', h4, h5⟩ := xforL_cnt St N h3 (fun e he => step e (List.mem_cons_of_mem _ he)) (by omega)
    refine ⟨G', (xforL_nx h1 h2).trans h4, ?_⟩
    rw [List.length_cons]
    have : n + (ds.length + 1) = n + 1 + ds.length := by omega
    rw [this]
    exact h5
/-- a comprehension without a test, whose turns change nothing else -/
theorem xlcL_map {tg : D → Gam → Option Gam} {e : M R} {vs : List Nat} {G : Gam} (f : D → D) : ∀ {ds : List D}, (∀ d ∈ ds, ∃ G1 r G2, tg d G = some G1 ∧ e G1 = some (r, G2) ∧ r.d = f d ∧ wipeG G2 vs = G) → xlcL tg xtyes e vs ds G = some (ds.map f, G)
  | [], _ => rfl
  | d :: ds, h => by
    obtain ⟨G1, r, G2, h1, h2, h3, h4⟩ := h d List.mem_cons_self
    unfold xlcL
    rw [h1]
    simp only [xtyes, bd_some, h2, h4]
    rw [if_pos True.intro, xlcL_map f fun e he => h e (List.mem_cons_of_mem _ he)]
    simp only [bd_some, h3, List.map_cons]
theorem rng_mem {lo : Int} {n : Nat} {d : D} (h : d ∈ rng lo n) : ∃ i : Nat, i < n ∧ d = .int (lo + (i : Int)) := by
  obtain ⟨i, hi, rfl⟩ := List.mem_map.mp h
  exact ⟨i, List.mem_range.mp hi, rfl⟩
theorem rng_ln {lo : Int} {n : Nat} : (rng lo n).length = n := by simp [rng]
theorem okR_of {m : Int} (h : -1000000 < m) (h1 : m < 1000000) : okR m = true := by
  unfold okR
  rw [Bool.and_eq_true]
  exact ⟨decide_eq_true (by omega), decide_eq_true (by omega)⟩
theorem xlc_ok {it : M (List D)} {tg : D → Gam → Option Gam} {t : M Bool} {e : M R} {vs : List Nat} {G G1 G2 : Gam} {ds out : List D} (h1 : it G = some (ds, G1)) (h2 : noMu G1 vs = true) (h3 : xlcL tg t e vs ds (wipeG G1 vs) = some (out, G2)) (h4 : few out.length = true) :
    xlc it tg t e vs G = some (.ol out, unw G1 G2 vs) := by
  unfold xlc
  rw [h1]
  simp only [bd_some]
  rw [if_pos h2, h3]
  simp only [bd_some, h4]
  rfl
theorem o_mul {i j : Int} (h : okMul i j = true) : opMul (.int i) (.int j) = some (.im (.int (i * j))) := if_pos h
theorem o_div {i j : Int} (h : okDiv j = true) : opFdiv (.int i) (.int j) = some (.im (.int (i.fdiv j))) := if_pos h
theorem o_mod {i j : Int} (h : j ≠ 0) : opMod (.int i) (.int j) = some (.im (.int (i.fmod j))) := if_pos (decide_eq_true h)
theorem o_pow {i j : Int} (h : okPow i j = true) : opPow (.int i) (.int j) = some (.im (.int (i ^ j.toNat))) := if_pos h
def Sm (i : Int) (k : Nat) : Prop := i.natAbs < 2 ^ k
theorem Sm.up {i : Int} {k l : Nat} (h : Sm i k) (hk : k ≤ l) : Sm i l := Nat.lt_of_lt_of_le h (Nat.pow_le_pow_right (by decide) hk)
theorem Sm.mul {i j : Int} {k l : Nat} (h : Sm i k) (h' : Sm j l) : Sm (i * j) (k + l) := by
  unfold Sm
  rw [Int.natAbs_mul, Nat.pow_add]
  exact Nat.mul_lt_mul'' h h'
theorem Sm.add {i j : Int} {k : Nat} (h : Sm i k) (h' : Sm j k) : Sm (i + j) (k + 1) := by
  unfold Sm at *
  rw [Nat.pow_succ]
  have := Int.natAbs_add_le i j
  omega
theorem Sm.sub {i j : Int} {k : Nat} (h : Sm i k) (h' : Sm j k) : Sm (i - j) (k + 1) := by
  unfold Sm at *
  rw [Nat.pow_succ]
  have := Int.natAbs_sub_le i j
  omega
theorem Sm.log {i : Int} {k : Nat} (h : Sm i k) (hk : 0 < k) : i.natAbs.log2 < k := by
  by_cases z : i.natAbs = 0
  · rw [z]; exact hk
  · exact (Nat.log2_lt z).mpr h
theorem Sm.okMul {i j : Int} {k l : Nat} (h : Sm i k) (h' : Sm j l) (hk : k + l ≤ 900000) : okMul i j = true := by
  have h1 := (h.up (Nat.le_succ k)).log (Nat.succ_pos k)
  have h2 := (h'.up (Nat.le_succ l)).log (Nat.succ_pos l)
  unfold Bk.okMul
  exact decide_eq_true (by omega)
theorem Sm.okDiv {i : Int} {k : Nat} (h : Sm i k) (h0 : i ≠ 0) (hk : k < 9000) : okDiv i = true := by
  have h1 := (h.up (Nat.le_succ k)).log (Nat.succ_pos k)
  unfold Bk.okDiv
  rw [Bool.and_eq_true]
  exact ⟨decide_eq_true h0, decide_eq_true (by omega)⟩
theorem div_loop (c : M Bool) (b : MS) (hc : ∀ x y : Nat, c [.im (.int x), .im (.int y)] = some (!decide ((y : Int) = 0), [.im (.int x), .im (.int y)]))
    (hb : ∀ x y : Nat, 0 < y → b [.im (.int x), .im (.int y)] = some (.nx, [.im (.int y), .im (.int ((x % y : Nat) : Int))])) :
    ∀ (n x y : Nat), y < n → xwhileN c b n [.im (.int x), .im (.int y)] = some (.nx, [.im (.int (Nat.gcd x y : Nat)), .im (.int 0)])
  | 0, _, _, h => absurd h (Nat.not_lt_zero _)
  | n + 1, x, y, h => by
    unfold xwhileN
    rw [hc]
    simp only [bd_some]
    by_cases z : y = 0
    · subst z
      simp
    · have z' : ¬ (y : Int) = 0 := by omega
      rw [decide_eq_false z']
      rw [hb x y (by omega)]
      simp only [Bool.not_false, if_true]
      have hl : x % y < y := Nat.mod_lt _ (by omega)
      rw [div_loop c b hc hb n y (x % y) (by omega), Nat.gcd_comm x y, Nat.gcd_rec y x, Nat.gcd_comm]
theorem abs_nat (i : Int) : (if i < 0 then -i else i) = (i.natAbs : Int) := by
  split <;> omega
theorem fmod_nat (x y : Nat) : (x : Int).fmod (y : Int) = ((x % y : Nat) : Int) := by
  rw [Int.fmod_eq_emod_of_nonneg _ (Int.natCast_nonneg y)]
  rfl
def vq (q : Rat) : D := .tup [.int q.num, .int (q.den : Int)]
/-- numerator and denominator -/
def Ht (q : Rat) (k : Nat) : Prop := Sm q.num k ∧ Sm (q.den : Int) k
theorem Ht.up {q : Rat} {k l : Nat} (h : Ht q k) (hk : k ≤ l) : Ht q l := ⟨h.1.up hk, h.2.up hk⟩
theorem natAbs_ediv_le {n g : Int} (hd : g ∣ n) : (n / g).natAbs ≤ n.natAbs := by
  obtain ⟨c, rfl⟩ := hd
  by_cases z : g = 0
  · subst z; simp
  · rw [Int.mul_ediv_cancel_left c z, Int.natAbs_mul]
    exact Nat.le_mul_of_pos_left _ (by omega)
theorem ht_divInt {n d : Int} {k : Nat} (hd : d ≠ 0) (hn : Sm n k) (hk : Sm d k) : Ht (Rat.divInt n d) k := by
  constructor
  · rw [Rat.num_divInt]
    refine Nat.lt_of_le_of_lt (natAbs_ediv_le ?_) ?_
    · exact Int.dvd_trans (Int.gcd_dvd_right d n) (Int.dvd_mul_left _ _)
    · rw [Int.natAbs_mul]
      have : d.sign.natAbs = 1 := by
        rcases Int.lt_or_gt_of_ne hd with h | h
        · rw [Int.sign_eq_neg_one_of_neg h]; rfl
        · rw [Int.sign_eq_one_of_pos h]; rfl
      rw [this, Nat.one_mul]
      exact hn
  · rw [Rat.den_divInt, if_neg hd]
    unfold Sm at *
    rw [Int.natAbs_natCast]
    exact Nat.lt_of_le_of_lt (Nat.div_le_self _ _) hk
/-- what lowest reckons -/
theorem low_num {n d : Int} (hd : d ≠ 0) : n.fdiv (if d < 0 then -((Nat.gcd n.natAbs d.natAbs : Nat) : Int) else ((Nat.gcd n.natAbs d.natAbs : Nat) : Int)) = (Rat.divInt n d).num := by
  have e : (Nat.gcd n.natAbs d.natAbs) = d.gcd n := by rw [Nat.gcd_comm]; rfl
  have hdv : ((d.gcd n : Nat) : Int) ∣ n := Int.gcd_dvd_right d n
  rw [Rat.num_divInt, e]
  split
  · rename_i h
    rw [Int.fdiv_eq_ediv_of_dvd (Int.neg_dvd.mpr hdv), Int.sign_eq_neg_one_of_neg h, Int.ediv_neg, Int.neg_mul, Int.one_mul, Int.neg_ediv_of_dvd hdv]
  · rename_i h
    have h : 0 < d := by omega
    rw [Int.fdiv_eq_ediv_of_dvd hdv, Int.sign_eq_one_of_pos h, Int.one_mul]
theorem low_den {n d : Int} (hd : d ≠ 0) : d.fdiv (if d < 0 then -((Nat.gcd n.natAbs d.natAbs : Nat) : Int) else ((Nat.gcd n.natAbs d.natAbs : Nat) : Int)) = ((Rat.divInt n d).den : Int) := by
  have e : (Nat.gcd n.natAbs d.natAbs) = d.gcd n := by rw [Nat.gcd_comm]; rfl
  have hdv : ((d.gcd n : Nat) : Int) ∣ d := Int.gcd_dvd_left d n
  rw [Rat.den_divInt, if_neg hd, e, Int.natCast_ediv]
  split
  · rename_i h
    rw [Int.fdiv_eq_ediv_of_dvd (Int.neg_dvd.mpr hdv), Int.ediv_neg, ← Int.neg_ediv_of_dvd hdv]
    congr 1
    omega
  · rename_i h
    rw [Int.fdiv_eq_ediv_of_dvd hdv]
    congr 1
    omega
theorem divInt_self (q : Rat) : Rat.divInt q.num (q.den : Int) = q := by
  rw [Rat.divInt_ofNat]
  exact Rat.mkRat_self q
theorem den_ne (q : Rat) : (q.den : Int) ≠ 0 := by
  have := q.den_nz
  omega
theorem add_divInt (a b : Rat) : Rat.divInt (a.num * b.den + b.num * a.den) (a.den * b.den) = a + b := by
  rw [← Rat.divInt_add_divInt _ _ (den_ne a) (den_ne b), divInt_self, divInt_self]
theorem mul_divInt (a b : Rat) : Rat.divInt (a.num * b.num) (a.den * b.den) = a * b := by
  rw [← Rat.divInt_mul_divInt, divInt_self, divInt_self]
theorem sub_divInt (a b : Rat) : Rat.divInt (a.num * b.den - b.num * a.den) (a.den * b.den) = a - b := by
  rw [← Rat.divInt_sub_divInt _ _ (den_ne a) (den_ne b), divInt_self, divInt_self]
theorem Ht.mul {a b : Rat} {k l : Nat} (h : Ht a k) (h' : Ht b l) : Ht (a * b) (k + l) := by
  rw [← mul_divInt]
  exact ht_divInt (Int.mul_ne_zero (den_ne a) (den_ne b)) (h.1.mul h'.1) (h.2.mul h'.2)
theorem Ht.add {a b : Rat} {k l : Nat} (h : Ht a k) (h' : Ht b l) : Ht (a + b) (k + l + 1) := by
  rw [← add_divInt]
  have h1 := h.1.mul h'.2
  have h2 := h'.1.mul h.2
  rw [Nat.add_comm l k] at h2
  exact ht_divInt (Int.mul_ne_zero (den_ne a) (den_ne b)) (h1.add h2) ((h.2.mul h'.2).up (Nat.le_succ _))
theorem Ht.sub {a b : Rat} {k l : Nat} (h : Ht a k) (h' : Ht b l) : Ht (a - b) (k + l + 1) := by
  rw [← sub_divInt]
  have h1 := h.1.mul h'.2
  have h2 := h'.1.mul h.2
  rw [Nat.add_comm l k] at h2
  exact ht_divInt (Int.mul_ne_zero (den_ne a) (den_ne b)) (h1.sub h2) ((h.2.mul h'.2).up (Nat.le_succ _))
theorem Ht.int {i : Int} {k : Nat} (h : Sm i k) (hk : 0 < k) : Ht (i : Rat) k := ⟨h, by
  show (1 : Int).natAbs < 2 ^ k
  exact Nat.one_lt_two_pow (by omega)⟩
/-- a number or a pair -/
def IsV (d : D) (q : Rat) : Prop := (∃ i : Int, d = .int i ∧ q = (i : Rat)) ∨ d = vq q
end Bk
namespace Bk
open PySem L2
theorem xfor_ok {it : M (List D)} {tg : D → Gam → Option Gam} {b : MS} {G G1 : Gam} {ds : List D} {o : Option (Fl × Gam)} (h : it G = some (ds, G1)) (h2 : xforL tg b ds G1 = o) : xfor it tg b G = o := by
  unfold xfor
  rw [h]
  exact h2
theorem xseqI_ok {a : M R} {G G1 : Gam} {d : D} {ds : List D} (h : a G = some (.im d, G1)) (hd : seqD d = some ds) : xseqI a G = some (ds, G1) := by
  unfold xseqI
  rw [h]
  simp only [bd_some, R.d, hd]
theorem xzip_ok {a : M (List D)} {G G1 : Gam} {x y : D} {ds es : List D} (h : a G = some ([x, y], G1)) (h1 : seqD x = some ds) (h2 : seqD y = some es) : xzipA a G = some ((ds.zip es).map fun p => .tup [p.1, p.2], G1) := by
  unfold xzipA
  rw [h]
  simp only [bd_some, h1, h2]
theorem xrange1_ok {a : M (List D)} {G G1 : Gam} {n : Int} (h : a G = some ([.int n], G1)) (h1 : okR n = true) : xrange1 a G = some (rng 0 n.toNat, G1) := by
  unfold xrange1
  rw [h]
  simp only [bd_some]
  rw [if_pos h1]
def valQ : D → Rat
  | .int i => (i : Rat)
  | .tup [.int n, .int d] => Rat.divInt n d
  | _ => 0
def IsV1 (d : D) : Prop := (∃ i, d = .int i) ∨ ∃ q, d = vq q
def sumQ (qs : List Rat) : Rat := qs.foldl (· + ·) 0
theorem ht0 : Ht 0 1 := by
  constructor
  · show (0 : Int).natAbs < 2 ^ 1; decide
  · show (1 : Int).natAbs < 2 ^ 1; decide
theorem foldl_ht {k : Nat} : ∀ (qs : List Rat) (a : Rat) (l : Nat), Ht a l → (∀ q ∈ qs, Ht q k) → Ht (qs.foldl (· + ·) a) (l + qs.length * (k + 1))
  | [], a, l, h, _ => by simpa using h
  | q :: qs, a, l, h, hq => by
    have h1 := foldl_ht qs (a + q) (l + k + 1) (h.add (hq q List.mem_cons_self)) fun r hr => hq r (List.mem_cons_of_mem _ hr)
    rw [List.foldl_cons]
    refine h1.up ?_
    rw [List.length_cons, Nat.add_mul]
    omega
theorem sumQ_ht {k : Nat} {qs : List Rat} (hq : ∀ q ∈ qs, Ht q k) : Ht (sumQ qs) (1 + qs.length * (k + 1)) := foldl_ht qs 0 1 ht0 hq
abbrev AddOk (m : List D → Option R) : Prop := ∀ (a b : Rat) (k l : Nat), Ht a k → Ht b l → k + l < 8990 → m [vq a, vq b] = some (.im (vq (a + b)))
theorem sum_loop {m : List D → Option R} (hm : AddOk m) {x0 : Ent} {k : Nat} : ∀ (qs : List Rat) (a : Rat) (l : Nat) (e : Ent), Ht a l → (∀ q ∈ qs, Ht q k) → l + qs.length * (k + 1) + k < 8990 →
    ∃ e', xforL (tgn 2) (xset 1 (xcall m (xcons (xv 1) (xcons (xv 2) xnil)))) (qs.map vq) [x0, .im (vq a), e] = some (.nx, [x0, .im (vq (qs.foldl (· + ·) a)), e'])
  | [], a, l, e, _, _, _ => ⟨e, rfl⟩
  | q :: qs, a, l, e, h, hq, h9 => by
    have hq0 := hq q List.mem_cons_self
    rw [List.length_cons, Nat.add_mul] at h9
    obtain ⟨e', h1⟩ := sum_loop hm qs (a + q) (l + k + 1) (.im (vq q)) (h.add hq0) (fun r hr => hq r (List.mem_cons_of_mem _ hr)) (by omega)
    refine ⟨e', ?_⟩
    rw [List.map_cons, List.foldl_cons, ← h1]
    exact xforL_nx rfl (xset_e (xcall_ok (xc1 rfl (xc1 rfl xnil_ok)) (hm a q l k h hq0 (by omega))) rfl)
/-- two rows, item by item, a value made of each two -/
def f2 (g : Rat → Rat → Rat) : D → D
  | .tup [x, y] => vq (g (valQ x) (valQ y))
  | d => d
def pyq (q : Rat) : PyData := .tuple [.int q.num, .int (q.den : Int)]
def Bx (bs : Mob) : Prop := ∃ g r : Int, bs = .l [.int g, .int r] ∧ 0 ≤ r ∧ r < 4294967296
theorem fmod_lt (a : Int) {b : Int} (h : 0 < b) : 0 ≤ a.fmod b ∧ a.fmod b < b := ⟨Int.fmod_nonneg_of_pos a h, Int.fmod_lt_of_pos a h⟩
def Ln (k : Nat) (out : List D) : Prop := ∀ x ∈ out, IsV1 x ∧ Ht (valQ x) k
theorem Ln.nil {k : Nat} : Ln k [] := fun _ h => nomatch h
theorem Ln.push {k : Nat} {out : List D} {d : D} (h : Ln k out) (hd : IsV1 d ∧ Ht (valQ d) k) : Ln k (out ++ [d]) := fun x hx => by
  rcases List.mem_append.mp hx with h1 | h1
  · exact h x h1
  · rw [List.mem_singleton.mp h1]; exact hd
theorem Ln.len {k : Nat} {ds : List D} (h : Ln k ds) : ∀ x ∈ ds, IsV1 x := fun x hx => (h x hx).1
end Bk
namespace Bk
open PySem L2
theorem ycons_ok {a : M R} {b : M (List R)} {G G1 G2 : Gam} {r : R} {xs : List R} (h : a G = some (r, G1)) (hb : b G1 = some (xs, G2)) : ycons a b G = some (r :: xs, G2) := by
  unfold ycons
  rw [h]
  simp only [bd_some, hb]
theorem ynil_ok {G : Gam} : ynil G = some ([], G) := rfl
theorem ypar_ok {i j : Nat} {a : M (List R)} {G G1 : Gam} {x y : R} (h : a G = some ([x, y], G1)) : ypar i j a G = some (.nx, (G1.set i x.ent).set j y.ent) := by
  unfold ypar
  rw [h]
  rfl
theorem xvor_f {a b : M R} {G G1 : Gam} (h : a G = some (.im (.bl false), G1)) : xvor a b G = b G1 := by
  unfold xvor
  rw [h]
  rfl
theorem xvnot_ok {a : M R} {G G1 : Gam} {k : Bool} (h : a G = some (.im (.bl k), G1)) : xvnot a G = some (.im (.bl (!k)), G1) := by
  unfold xvnot
  rw [h]
  rfl
theorem xtru_ok {a : M R} {G G1 : Gam} {k : Bool} {x : R} (h : a G = some (x, G1)) (ht : truth x.d = some k) : xtru a G = some (k, G1) := by
  unfold xtru
  rw [h]
  simp only [bd_some, ht]
theorem xtrub {a : M R} {G G1 : Gam} {k : Bool} (h : a G = some (.im (.bl k), G1)) : xtru a G = some (k, G1) := xtru_ok h rfl
theorem xtnot_ok {a : M Bool} {G G1 : Gam} {k : Bool} (h : a G = some (k, G1)) : xtnot a G = some (!k, G1) := by
  unfold xtnot
  rw [h]
  rfl
theorem xtand_t {a b : M Bool} {G G1 : Gam} (h : a G = some (true, G1)) : xtand a b G = b G1 := by
  unfold xtand
  rw [h]
  rfl
theorem xtand_f {a b : M Bool} {G G1 : Gam} (h : a G = some (false, G1)) : xtand a b G = some (false, G1) := by
  unfold xtand
  rw [h]
  rfl
theorem xtor_t {a b : M Bool} {G G1 : Gam} (h : a G = some (true, G1)) : xtor a b G = some (true, G1) := by
  unfold xtor
  rw [h]
  rfl
theorem xtor_f {a b : M Bool} {G G1 : Gam} (h : a G = some (false, G1)) : xtor a b G = b G1 := by
  unfold xtor
  rw [h]
  rfl
/-- two tests that change nothing -/
theorem xtand_b {a b : M Bool} {G : Gam} {k l : Bool} (h : a G = some (k, G)) (h' : b G = some (l, G)) : xtand a b G = some (k && l, G) := by
  cases k
  · exact xtand_f h
  · rw [xtand_t h, h']; rfl
theorem xtor_b {a b : M Bool} {G : Gam} {k l : Bool} (h : a G = some (k, G)) (h' : b G = some (l, G)) : xtor a b G = some (k || l, G) := by
  cases k
  · rw [xtor_f h, h']; rfl
  · exact xtor_t h
theorem xvand_b {a b : M R} {G : Gam} {k l : Bool} (h : a G = some (.im (.bl k), G)) (h' : b G = some (.im (.bl l), G)) : xvand a b G = some (.im (.bl (k && l)), G) := by
  cases k
  · exact xvand_f h
  · rw [xvand_t h h']; rfl
theorem xstar_ok {a : M R} {b : M (List D)} {G G1 G2 : Gam} {r : R} {ds xs : List D} (h : a G = some (r, G1)) (hd : seqD r.d = some ds) (hb : b G1 = some (xs, G2)) : xstar a b G = some (ds ++ xs, G2) := by
  unfold xstar
  rw [h]
  simp only [bd_some, hd, hb]
theorem xasg_ok {a : M R} {tg : D → Gam → Option Gam} {G G1 G2 : Gam} {r : R} (h : a G = some (r, G1)) (ht : tg r.d G1 = some G2) : xasg a tg G = some (.nx, G2) := by
  unfold xasg
  rw [h]
  simp only [bd_some, ht]
theorem xseqR_ok {a : M R} {G G1 : Gam} {r : R} {ds : List D} (h : a G = some (r, G1)) (hd : seqD r.d = some ds) : xseqI a G = some (ds, G1) := by
  unfold xseqI
  rw [h]
  simp only [bd_some, hd]
/-- a comprehension with a test: what is kept -/
theorem xlcL_fm {β : Type} {tg : D → Gam → Option Gam} {t : M Bool} {e : M R} {vs : List Nat} {G : Gam} {en : β → D} (p : β → Bool) (f : β → D) : ∀ {xs : List β}, (∀ x ∈ xs, ∃ G1 G2, tg (en x) G = some G1 ∧ t G1 = some (p x, G2) ∧
      (p x = false → wipeG G2 vs = G) ∧ (p x = true → ∃ r G3, e G2 = some (r, G3) ∧ r.d = f x ∧ wipeG G3 vs = G)) →
    xlcL tg t e vs (xs.map en) G = some ((xs.filter p).map f, G)
  | [], _ => rfl
  | x :: xs, h => by
    obtain ⟨G1, G2, h1, h2, h3, h4⟩ := h x List.mem_cons_self
    have ih := xlcL_fm p f (xs := xs) (fun y hy => h y (List.mem_cons_of_mem _ hy))
    show xlcL tg t e vs (en x :: xs.map en) G = _
    unfold xlcL
    rw [h1]
    simp only [bd_some, h2]
    cases hp : p x
    · rw [h3 hp]
      simp only [ih, List.filter_cons, hp]
      rfl
    · obtain ⟨r, G3, h5, h6, h7⟩ := h4 hp
      simp only [if_true, h5, bd_some, h7, ih, List.filter_cons, hp, List.map_cons, h6]
theorem xlcL_en {β : Type} {tg : D → Gam → Option Gam} {e : M R} {vs : List Nat} {G : Gam} {en : β → D} (f : β → D) : ∀ {xs : List β}, (∀ x ∈ xs, ∃ G1 r G2, tg (en x) G = some G1 ∧ e G1 = some (r, G2) ∧ r.d = f x ∧ wipeG G2 vs = G) →
    xlcL tg xtyes e vs (xs.map en) G = some (xs.map f, G)
  | [], _ => rfl
  | x :: xs, h => by
    obtain ⟨G1, r, G2, h1, h2, h3, h4⟩ := h x List.mem_cons_self
    have ih := xlcL_en f (xs := xs) (fun y hy => h y (List.mem_cons_of_mem _ hy))
    show xlcL tg xtyes e vs (en x :: xs.map en) G = _
    unfold xlcL
    rw [h1]
    simp only [bd_some, xtyes, if_true, h2, h4]
    rw [ih]
    simp only [bd_some, h3, List.map_cons]
/-- a comprehension over names that are not set yet -/
theorem xlc_un {it : M (List D)} {tg : D → Gam → Option Gam} {t : M Bool} {e : M R} {vs : List Nat} {G0 G : Gam} {ds out : List D} (h1 : it G0 = some (ds, G)) (h2 : noMu G vs = true) (hw : wipeG G vs = G) (hu : unw G G vs = G)
    (h3 : xlcL tg t e vs ds G = some (out, G)) (hf : out.length ≤ 100000) : xlc it tg t e vs G0 = some (.ol out, G) := by
  have h3' : xlcL tg t e vs ds (wipeG G vs) = some (out, G) := by rw [hw]; exact h3
  have := xlc_ok h1 h2 h3' (decide_eq_true (Nat.le_trans hf (by decide)))
  rw [hu] at this
  exact this
theorem atI_nat {α : Type} (xs : List α) (i : Nat) (h : i < xs.length) : atI xs (i : Int) = xs[i]? := by
  unfold atI ixN
  rw [if_pos (by omega), if_pos (by omega), Int.toNat_natCast]
  rfl
theorem fewl {n : Nat} (h : n ≤ 100000) : few n = true := decide_eq_true (Nat.le_trans h (by decide))
/-- tests asked of values alone -/
theorem div_divInt (a b : Rat) : Rat.divInt (a.num * b.den) (a.den * b.num) = a / b := by
  rw [← Rat.divInt_mul_divInt, divInt_self, Rat.div_def, Rat.inv_def]
theorem Ht.div {a b : Rat} {k l : Nat} (h : Ht a k) (h' : Ht b l) (h0 : b ≠ 0) : Ht (a / b) (k + l) := by
  rw [← div_divInt]
  exact ht_divInt (Int.mul_ne_zero (den_ne a) (fun h => h0 (Rat.num_eq_zero.mp h))) (h.1.mul h'.2) (h.2.mul h'.1)
end Bk
namespace Bk
open PySem L2
def insU (x : Rat) : List Rat → List Rat
  | [] => [x]
  | y :: r => if x < y then x :: y :: r else if x = y then y :: r else y :: insU x r
def asc (l : List Rat) : List Rat := l.foldr insU []
theorem mem_insU {x q : Rat} : ∀ {l : List Rat}, q ∈ insU x l ↔ q = x ∨ q ∈ l
  | [] => by simp [insU]
  | y :: r => by
    unfold insU
    split
    · simp
    · split
      · rename_i h1 h2
        subst h2
        simp
      · simp only [List.mem_cons, mem_insU]
        constructor
        · rintro (h | h | h) <;> simp [h]
        · rintro (h | h | h) <;> simp [h]
theorem mem_asc {q : Rat} : ∀ {l : List Rat}, q ∈ asc l ↔ q ∈ l
  | [] => by simp [asc]
  | x :: l => by
    show q ∈ insU x (asc l) ↔ _
    rw [mem_insU, mem_asc, List.mem_cons]
theorem insU_sorted {x : Rat} : ∀ {l : List Rat}, l.Pairwise (· < ·) → (insU x l).Pairwise (· < ·)
  | [], _ => by simp [insU]
  | y :: r, h => by
    have h1 := List.pairwise_cons.mp h
    unfold insU
    split
    · rename_i hx
      refine List.pairwise_cons.mpr ⟨fun z hz => ?_, h⟩
      rcases List.mem_cons.mp hz with rfl | hz
      · exact hx
      · have := h1.1 z hz
        grind
    · split
      · exact h
      · refine List.pairwise_cons.mpr ⟨fun z hz => ?_, insU_sorted h1.2⟩
        rcases mem_insU.mp hz with rfl | hz
        · grind
        · exact h1.1 z hz
theorem asc_sorted : ∀ l : List Rat, (asc l).Pairwise (· < ·)
  | [] => by simp [asc]
  | x :: l => insU_sorted (asc_sorted l)
theorem sorted_uniq : ∀ {a b : List Rat}, a.Pairwise (· < ·) → b.Pairwise (· < ·) → (∀ q, q ∈ a ↔ q ∈ b) → a = b
  | [], [], _, _, _ => rfl
  | [], y :: b, _, _, h => absurd ((h y).mpr List.mem_cons_self) (by simp)
  | x :: a, [], _, _, h => absurd ((h x).mp List.mem_cons_self) (by simp)
  | x :: a, y :: b, ha, hb, h => by
    have ha1 := List.pairwise_cons.mp ha
    have hb1 := List.pairwise_cons.mp hb
    have e : x = y := by
      have h1 := (h x).mp List.mem_cons_self
      have h2 := (h y).mpr List.mem_cons_self
      rcases List.mem_cons.mp h1 with e | h1
      · exact e
      · rcases List.mem_cons.mp h2 with e | h2
        · exact e.symm
        · have := hb1.1 x h1
          have := ha1.1 y h2
          grind
    subst e
    refine congrArg (x :: ·) (sorted_uniq ha1.2 hb1.2 fun q => ?_)
    constructor
    · intro hq
      rcases List.mem_cons.mp ((h q).mp (List.mem_cons_of_mem _ hq)) with rfl | h3
      · have := ha1.1 q hq
        grind
      · exact h3
    · intro hq
      rcases List.mem_cons.mp ((h q).mpr (List.mem_cons_of_mem _ hq)) with rfl | h3
      · have := hb1.1 q hq
        grind
      · exact h3
def dd : Option Rat → List Rat → List Rat
  | _, [] => []
  | p, x :: xs => if p = some x then dd (some x) xs else x :: dd (some x) xs
theorem dd_some : ∀ {xs : List Rat} {p : Rat}, xs.Pairwise (· ≤ ·) → (∀ x ∈ xs, p ≤ x) → (dd (some p) xs).Pairwise (· < ·) ∧ (∀ q, q ∈ dd (some p) xs ↔ q ∈ xs ∧ p < q)
  | [], p, _, _ => by simp [dd]
  | x :: xs, p, h, hp => by
    have h1 := List.pairwise_cons.mp h
    obtain ⟨i1, i2⟩ := dd_some (xs := xs) (p := x) h1.2 h1.1
    have hpx := hp x List.mem_cons_self
    unfold dd
    split
    · rename_i e
      have e := Option.some.inj e
      subst e
      refine ⟨i1, fun q => ?_⟩
      rw [i2, List.mem_cons]
      constructor
      · rintro ⟨a, b⟩
        exact ⟨.inr a, b⟩
      · rintro ⟨a | a, b⟩
        · subst a; exact absurd b (by grind)
        · exact ⟨a, b⟩
    · rename_i e
      have e : p ≠ x := fun z => e (congrArg some z)
      have hlt : p < x := by grind
      refine ⟨List.pairwise_cons.mpr ⟨fun q hq => ((i2 q).mp hq).2, i1⟩, fun q => ?_⟩
      rw [List.mem_cons, i2, List.mem_cons]
      constructor
      · rintro (a | ⟨a, b⟩)
        · subst a; exact ⟨.inl rfl, hlt⟩
        · exact ⟨.inr a, by grind⟩
      · rintro ⟨a | a, b⟩
        · exact .inl a
        · by_cases z : q = x
          · exact .inl z
          · have := h1.1 q a
            exact .inr ⟨a, by grind⟩
theorem dd_none {xs : List Rat} (h : xs.Pairwise (· ≤ ·)) : (dd none xs).Pairwise (· < ·) ∧ (∀ q, q ∈ dd none xs ↔ q ∈ xs) := by
  cases xs with
  | nil => simp [dd]
  | cons x xs =>
    have h1 := List.pairwise_cons.mp h
    obtain ⟨i1, i2⟩ := dd_some h1.2 h1.1
    show (x :: dd (some x) xs).Pairwise (· < ·) ∧ (∀ q, q ∈ x :: dd (some x) xs ↔ q ∈ x :: xs)
    refine ⟨List.pairwise_cons.mpr ⟨fun q hq => ((i2 q).mp hq).2, i1⟩, fun q => ?_⟩
    rw [List.mem_cons, i2, List.mem_cons]
    constructor
    · rintro (a | ⟨a, b⟩)
      · exact .inl a
      · exact .inr a
    · rintro (a | a)
      · exact .inl a
      · by_cases z : q = x
        · exact .inl z
        · have := h1.1 q a
          exact .inr ⟨a, by grind⟩
theorem dd_asc {xs l : List Rat} (h : xs.Pairwise (· ≤ ·)) (hm : ∀ q, q ∈ xs ↔ q ∈ l) : dd none xs = asc l :=
  sorted_uniq (dd_none h).1 (asc_sorted l) fun q => by rw [(dd_none h).2, hm, mem_asc]
theorem eqv_vq (a b : Rat) : eqD (vq a) (vq b) = some (decide (a = b)) := by
  have e : eqD (vq a) (vq b) = some (PyData.eqv (pyq a) (pyq b)) := rfl
  rw [e]
  have : PyData.eqv (pyq a) (pyq b) = (decide (a.num = b.num) && decide ((a.den : Int) = b.den)) := by
    simp [pyq, PyData.eqv, PyData.eqvAll]
    rfl
  rw [this]
  congr 1
  by_cases h : a = b
  · subst h; simp
  · rw [decide_eq_false h]
    by_cases h1 : a.num = b.num
    · have h2 : ¬ (a.den : Int) = b.den := fun z => h (Rat.ext h1 (by omega))
      rw [decide_eq_false h2, Bool.and_false]
    · rw [decide_eq_false h1, Bool.false_and]
theorem ne_vq (a b : Rat) : opNe (vq a) (vq b) = some (.im (.bl (!decide (a = b)))) := by
  unfold opNe
  rw [eqv_vq]
theorem eq_vq (a b : Rat) : opEq (vq a) (vq b) = some (.im (.bl (decide (a = b)))) := by
  unfold opEq
  rw [eqv_vq]
def lcs (l : List Rat) (c : Nat) : Nat := l.foldl (fun c q => Nat.lcm c q.den) c
theorem lcs_dvd : ∀ {l : List Rat} {c : Nat}, c ∣ lcs l c ∧ ∀ q ∈ l, q.den ∣ lcs l c
  | [], c => ⟨Nat.dvd_refl c, by simp⟩
  | x :: l, c => by
    obtain ⟨h1, h2⟩ := lcs_dvd (l := l) (c := Nat.lcm c x.den)
    refine ⟨Nat.dvd_trans (Nat.dvd_lcm_left c x.den) h1, fun q hq => ?_⟩
    rcases List.mem_cons.mp hq with rfl | hq
    · exact Nat.dvd_trans (Nat.dvd_lcm_right c q.den) h1
    · exact h2 q hq
theorem lcs_pos : ∀ {l : List Rat} {c : Nat}, 0 < c → 0 < lcs l c
  | [], c, h => h
  | x :: l, c, h => lcs_pos (l := l) (c := Nat.lcm c x.den) (Nat.lcm_pos h x.den_pos)
theorem lcs_sm {k : Nat} : ∀ {l : List Rat} {c m : Nat}, Sm (c : Int) m → (∀ q ∈ l, Ht q k) → Sm (lcs l c : Int) (m + l.length * k)
  | [], c, m, h, _ => by simpa [lcs] using h
  | x :: l, c, m, h, hl => by
    have hx := (hl x List.mem_cons_self).2
    have h1 : Sm ((Nat.lcm c x.den : Nat) : Int) (m + k) := by
      have hm := h.mul hx
      unfold Sm at *
      refine Nat.lt_of_le_of_lt ?_ hm
      rw [Int.natAbs_mul, Int.natAbs_natCast, Int.natAbs_natCast, Int.natAbs_natCast]
      unfold Nat.lcm
      exact Nat.div_le_self _ _
    have := lcs_sm (l := l) h1 fun q hq => hl q (List.mem_cons_of_mem _ hq)
    have e : m + k + l.length * k = m + (x :: l).length * k := by
      rw [List.length_cons, Nat.add_mul]; omega
    rw [e] at this
    exact this
theorem qnum (q : Rat) : ((q.num : Int) : Rat) = q * ((q.den : Int) : Rat) := by
  have h := divInt_self q
  rw [Rat.divInt_eq_div] at h
  have hd : ((q.den : Int) : Rat) ≠ 0 := fun z => den_ne q (Rat.intCast_eq_zero_iff.mp z)
  generalize hx : ((q.num : Int) : Rat) = x at h
  generalize hy : ((q.den : Int) : Rat) = y at h hd
  rw [← h, Rat.div_mul_cancel hd]
/-- the key of a value, for a common multiple -/
def kyq (c : Nat) (q : Rat) : Int := q.num * ((c : Int).fdiv (q.den : Int))
theorem kyq_eq {c : Nat} {q : Rat} (h : q.den ∣ c) : ((kyq c q : Int) : Rat) = q * (c : Int) := by
  obtain ⟨e, rfl⟩ := h
  have hd := den_ne q
  have : ((q.den * e : Nat) : Int).fdiv (q.den : Int) = (e : Int) := by
    rw [Int.natCast_mul, Int.fdiv_eq_ediv_of_nonneg _ (by omega), Int.mul_ediv_cancel_left _ hd]
  unfold kyq
  rw [this, Int.natCast_mul]
  have h2 := qnum q
  rw [Rat.intCast_mul, Rat.intCast_mul, h2]
  grind
theorem kyq_le {c : Nat} {a b : Rat} (hc : 0 < c) (h : a.den ∣ c) (h' : b.den ∣ c) (hl : kyq c a ≤ kyq c b) : a ≤ b := by
  have h1 : ((kyq c a : Int) : Rat) ≤ ((kyq c b : Int) : Rat) := Rat.intCast_le_intCast.mpr hl
  rw [kyq_eq h, kyq_eq h'] at h1
  have h2 : (0 : Rat) < ((c : Int) : Rat) := by
    have : (0 : Int) < (c : Int) := by omega
    exact Rat.intCast_lt_intCast.mpr this
  exact Rat.le_of_mul_le_mul_right h1 h2
theorem kyq_inj {c : Nat} {a b : Rat} (hc : 0 < c) (h : a.den ∣ c) (h' : b.den ∣ c) (hl : kyq c a = kyq c b) : a = b :=
  Rat.le_antisymm (kyq_le hc h h' (by omega)) (kyq_le hc h' h (by omega))
def kit (c : Nat) (q : Rat) : D := .tup [.int (kyq c q), vq q]
theorem kp_kit (c : Nat) : ∀ l : List Rat, kpDs (l.map (kit c)) = some (l.map fun q => (kyq c q, q.num, (q.den : Int)))
  | [] => rfl
  | q :: l => by
    show (match kpD (kit c q), kpDs (l.map (kit c)) with | some a, some as => some (a :: as) | _, _ => none) = _
    rw [kp_kit c l]
    rfl
theorem okKP_kit {c : Nat} (hc : 0 < c) : ∀ {l : List Rat}, (∀ q ∈ l, q.den ∣ c) → okKP (l.map fun q => (kyq c q, q.num, (q.den : Int))) = true
  | [], _ => rfl
  | q :: l, h => by
    show ((l.map fun q => (kyq c q, q.num, (q.den : Int))).all (fun b => !(kyq c q == b.1) || (q.num == b.2.1 && (q.den : Int) == b.2.2)) && okKP (l.map fun q => (kyq c q, q.num, (q.den : Int)))) = true
    rw [okKP_kit hc fun r hr => h r (List.mem_cons_of_mem _ hr), Bool.and_true, List.all_eq_true]
    intro x hx
    obtain ⟨r, hr, rfl⟩ := List.mem_map.mp hx
    by_cases e : kyq c q = kyq c r
    · have := kyq_inj hc (h q List.mem_cons_self) (h r (List.mem_cons_of_mem _ hr)) e
      subst this
      simp
    · simp [e]
theorem sorted_kit {c : Nat} {d : D} {l : List Rat} (hc : 0 < c) (h : ∀ q ∈ l, q.den ∣ c) (hd : d = .lst (l.map (kit c))) : cbSorted [d] = some (.ol ((sortK (kyq c) l).map (kit c))) := by
  subst hd
  show (match kpDs (l.map (kit c)) with | some z => if okKP z then some (R.ol (sortK keyD (l.map (kit c)))) else none | none => none) = _
  rw [kp_kit]
  simp only [okKP_kit hc h, if_true]
  rw [← sortK_map keyD (kit c)]
  rfl
theorem sortK_asc {c : Nat} {l : List Rat} (hc : 0 < c) (h : ∀ q ∈ l, q.den ∣ c) : dd none (sortK (kyq c) l) = asc l := by
  have hp := sortK_perm (kyq c) l
  refine dd_asc ?_ fun q => hp.mem_iff
  have hs := sortK_sorted (kyq c) l
  have hm : ∀ q ∈ sortK (kyq c) l, q.den ∣ c := fun q hq => h q (hp.mem_iff.mp hq)
  revert hs hm
  generalize sortK (kyq c) l = s
  intro hs hm
  induction s with
  | nil => exact .nil
  | cons x s ih =>
    have h1 := List.pairwise_cons.mp hs
    refine List.pairwise_cons.mpr ⟨fun y hy => kyq_le hc (hm x List.mem_cons_self) (hm y (List.mem_cons_of_mem _ hy)) (h1.1 y hy), ih h1.2 fun q hq => hm q (List.mem_cons_of_mem _ hq)⟩
end Bk
namespace Bk
theorem insU_len (x : Rat) : ∀ l : List Rat, (insU x l).length ≤ l.length + 1
  | [] => Nat.le_refl _
  | y :: r => by
    have := insU_len x r
    unfold insU
    split
    · simp
    · split
      · simp
      · simp only [List.length_cons]; omega
theorem asc_len : ∀ l : List Rat, (asc l).length ≤ l.length
  | [] => Nat.le_refl _
  | x :: l => by
    have := insU_len x (asc l)
    have := asc_len l
    show (insU x (asc l)).length ≤ _
    rw [List.length_cons]
    omega
end Bk
namespace Bk
open PySem L2
abbrev Wt := Rat × Rat
abbrev Sh := Rat × Rat × Rat
theorem foldl_add (l : List Rat) : ∀ a : Rat, l.foldl (· + ·) a = a + sumQ l := by
  induction l with
  | nil => intro a; show a = a + 0; grind
  | cons x l ih =>
    intro a
    show l.foldl (· + ·) (a + x) = a + l.foldl (· + ·) (0 + x)
    rw [ih, ih (0 + x)]
    grind
theorem sumQ_nil : sumQ [] = 0 := rfl
theorem sumQ_cons (x : Rat) (l : List Rat) : sumQ (x :: l) = x + sumQ l := by
  show l.foldl (· + ·) (0 + x) = _
  rw [foldl_add]
  grind
theorem sumQ_app (a b : List Rat) : sumQ (a ++ b) = sumQ a + sumQ b := by
  induction a with
  | nil => rw [List.nil_append, sumQ_nil]; grind
  | cons x a ih => rw [List.cons_append, sumQ_cons, ih, sumQ_cons]; grind
def sumM {α : Type} (l : List α) (f : α → Rat) : Rat := sumQ (l.map f)
theorem sumM_nil {α : Type} (f : α → Rat) : sumM [] f = 0 := rfl
theorem sumM_cons {α : Type} (x : α) (l : List α) (f : α → Rat) : sumM (x :: l) f = f x + sumM l f := sumQ_cons _ _
theorem sumM_app {α : Type} (a b : List α) (f : α → Rat) : sumM (a ++ b) f = sumM a f + sumM b f := by
  unfold sumM
  rw [List.map_append, sumQ_app]
theorem sumM_add {α : Type} (l : List α) (f g : α → Rat) : sumM l (fun x => f x + g x) = sumM l f + sumM l g := by
  induction l with
  | nil => show (0 : Rat) = 0 + 0; grind
  | cons x l ih => rw [sumM_cons, sumM_cons, sumM_cons, ih]; grind
theorem sumM_zero {α : Type} (l : List α) : sumM l (fun _ => 0) = 0 := by
  induction l with
  | nil => rfl
  | cons x l ih => rw [sumM_cons, ih]; grind
theorem sumM_mul {α : Type} (l : List α) (f : α → Rat) (c : Rat) : sumM l (fun x => c * f x) = c * sumM l f := by
  induction l with
  | nil => show (0 : Rat) = c * 0; grind
  | cons x l ih => rw [sumM_cons, sumM_cons, ih]; grind
theorem sumM_congr {α : Type} {l : List α} {f g : α → Rat} (h : ∀ x ∈ l, f x = g x) : sumM l f = sumM l g := by
  unfold sumM
  rw [List.map_congr_left h]
theorem sumM_filter {α : Type} (l : List α) (f : α → Rat) (p : α → Bool) (h : ∀ x ∈ l, p x = false → f x = 0) : sumM (l.filter p) f = sumM l f := by
  induction l with
  | nil => rfl
  | cons x l ih =>
    have ih := ih fun y hy => h y (List.mem_cons_of_mem _ hy)
    rw [List.filter_cons]
    cases hp : p x
    · have := h x List.mem_cons_self hp
      rw [sumM_cons, this]
      simp only [Bool.false_eq_true, if_false, ih]
      grind
    · simp only [if_true]
      rw [sumM_cons, sumM_cons, ih]
theorem sumM_map {α β : Type} (l : List α) (g : α → β) (f : β → Rat) : sumM (l.map g) f = sumM l fun x => f (g x) := by
  unfold sumM
  rw [List.map_map]
  rfl
theorem sumM_one (P : List Rat) (hp : P.Pairwise (· < ·)) (a : Rat) (x : Rat) (f : Rat → Rat) : sumM P (fun p => (if a = p then x else 0) * f p) = if a ∈ P then x * f a else 0 := by
  induction P with
  | nil => rfl
  | cons p P ih =>
    have h1 := List.pairwise_cons.mp hp
    rw [sumM_cons, ih h1.2]
    by_cases e : a = p
    · subst e
      have hn : a ∉ P := fun hm => by have := h1.1 a hm; grind
      rw [if_pos rfl, if_neg hn, if_pos List.mem_cons_self]
      grind
    · rw [if_neg e]
      by_cases hm : a ∈ P
      · rw [if_pos hm, if_pos (List.mem_cons_of_mem _ hm)]; grind
      · rw [if_neg hm, if_neg (by simp [e, hm])]; grind
/-- the weights at a point -/
def wAt (ws : List Wt) (p : Rat) : Rat := sumQ ((ws.filter fun w => decide (w.1 = p)).map (·.2))
theorem wAt_cons (w : Wt) (ws : List Wt) (p : Rat) : wAt (w :: ws) p = (if w.1 = p then w.2 else 0) + wAt ws p := by
  unfold wAt
  rw [List.filter_cons]
  by_cases h : w.1 = p
  · rw [if_pos (decide_eq_true h), if_pos h, List.map_cons, sumQ_cons]
  · rw [if_neg (by simp [h]), if_neg h]; grind
theorem wAt_sum (P : List Rat) (hp : P.Pairwise (· < ·)) (f : Rat → Rat) : ∀ ws : List Wt, (∀ w ∈ ws, w.1 ∈ P) → sumM P (fun p => wAt ws p * f p) = sumM ws fun w => w.2 * f w.1
  | [], _ => by
    rw [sumM_congr (g := fun _ => 0) (fun x _ => by show (0 : Rat) * f x = 0; grind), sumM_zero]
    rfl
  | w :: ws, h => by
    have ih := wAt_sum P hp f ws fun x hx => h x (List.mem_cons_of_mem _ hx)
    rw [sumM_congr (g := fun p => (if w.1 = p then w.2 else 0) * f p + wAt ws p * f p) (fun p _ => by rw [wAt_cons]; grind), sumM_add, ih, sumM_one P hp, if_pos (h w List.mem_cons_self), sumM_cons]
def lwOf (ws : List Wt) : List Wt := ((asc (ws.map (·.1))).map fun p => (p, wAt ws p)).filter fun w => !decide (w.2 = 0)
def wval (f : Rat → Rat) (ws : List Wt) : Rat := sumM ws fun w => w.2 * f w.1
theorem wval_lw (f : Rat → Rat) (ws : List Wt) : wval f (lwOf ws) = wval f ws := by
  unfold wval lwOf
  rw [sumM_filter _ _ _ fun w _ h => by
    have h : w.2 = 0 := by simpa using h
    rw [h]; grind]
  rw [sumM_map]
  exact wAt_sum _ (asc_sorted _) f ws fun w hw => mem_asc.mpr (List.mem_map.mpr ⟨w, hw, rfl⟩)
def sIn (lo hi : Rat) (s : Sh) : Bool := !decide (lo < s.1) && !decide (s.2.1 < hi)
def sAt (ss : List Sh) (lo hi : Rat) : Rat := sumQ ((ss.filter (sIn lo hi)).map (·.2.2))
def lsStep (ss : List Sh) (acc : List Sh) (lo hi : Rat) : List Sh := match acc.getLast? with
  | some x => if x.2.2 = sAt ss lo hi then acc.dropLast ++ [(x.1, hi, sAt ss lo hi)] else acc ++ [(lo, hi, sAt ss lo hi)]
  | none => acc ++ [(lo, hi, sAt ss lo hi)]
def lsGo (ss : List Sh) : List Sh → List Rat → List Sh
  | acc, lo :: hi :: r => lsGo ss (lsStep ss acc lo hi) (hi :: r)
  | acc, _ => acc
def ends (ss : List Sh) : List Rat := ss.flatMap fun s => [s.1, s.2.1]
def lsOf (ss : List Sh) : List Sh := (lsGo ss [] (asc (ends ss))).filter fun s => !decide (s.2.2 = 0)
def sval (F : Rat → Rat) (ss : List Sh) : Rat := sumM ss fun s => s.2.2 * (F s.2.1 - F s.1)
/-- a sum over what follows on another -/
def steps (g : Rat → Rat → Rat) : List Rat → Rat
  | lo :: hi :: r => g lo hi + steps g (hi :: r)
  | _ => 0
theorem steps_add (g h : Rat → Rat → Rat) : ∀ l : List Rat, steps (fun a b => g a b + h a b) l = steps g l + steps h l
  | [] => by show (0 : Rat) = 0 + 0; grind
  | [_] => by show (0 : Rat) = 0 + 0; grind
  | lo :: hi :: r => by
    show g lo hi + h lo hi + steps (fun a b => g a b + h a b) (hi :: r) = (g lo hi + steps g (hi :: r)) + (h lo hi + steps h (hi :: r))
    rw [steps_add g h (hi :: r)]
    grind
theorem steps_zero : ∀ l : List Rat, steps (fun _ _ => 0) l = 0
  | [] => rfl
  | [_] => rfl
  | lo :: hi :: r => by
    show 0 + steps (fun _ _ => 0) (hi :: r) = 0
    rw [steps_zero (hi :: r)]
    grind
theorem steps_mul (c : Rat) (g : Rat → Rat → Rat) : ∀ l : List Rat, steps (fun a b => c * g a b) l = c * steps g l
  | [] => by show (0 : Rat) = c * 0; grind
  | [_] => by show (0 : Rat) = c * 0; grind
  | lo :: hi :: r => by
    show c * g lo hi + steps (fun a b => c * g a b) (hi :: r) = c * (g lo hi + steps g (hi :: r))
    rw [steps_mul c g (hi :: r)]
    grind
theorem getLast_split {α : Type} : ∀ {l : List α} {x : α}, l.getLast? = some x → l = l.dropLast ++ [x]
  | [], _, h => by simp at h
  | [y], x, h => by simp at h; simp [h]
  | y :: z :: l, x, h => by
    have := getLast_split (l := z :: l) (x := x) (by rw [List.getLast?_cons_cons] at h; exact h)
    rw [List.dropLast_cons_cons, List.cons_append, ← this]
theorem lsGo_val (F : Rat → Rat) (ss : List Sh) : ∀ (pts : List Rat) (acc : List Sh), (∀ x, acc.getLast? = some x → ∀ lo r, pts = lo :: r → x.2.1 = lo) →
    sval F (lsGo ss acc pts) = sval F acc + steps (fun lo hi => sAt ss lo hi * (F hi - F lo)) pts
  | [], acc, _ => by show _ = sval F acc + 0; unfold lsGo; grind
  | [_], acc, _ => by show _ = sval F acc + 0; unfold lsGo; grind
  | lo :: hi :: r, acc, h => by
    have hv : sval F (lsStep ss acc lo hi) = sval F acc + sAt ss lo hi * (F hi - F lo) := by
      unfold lsStep
      split
      · rename_i x hx
        split
        · rename_i e
          have h1 := h x hx lo (hi :: r) rfl
          conv => rhs; rw [getLast_split hx]
          unfold sval
          rw [sumM_app, sumM_app, sumM_cons, sumM_cons, sumM_nil, ← e, ← h1]
          grind
        · unfold sval
          rw [sumM_app, sumM_cons, sumM_nil]
          grind
      · unfold sval
        rw [sumM_app, sumM_cons, sumM_nil]
        grind
    have hl : ∀ x, (lsStep ss acc lo hi).getLast? = some x → ∀ lo' r', hi :: r = lo' :: r' → x.2.1 = lo' := fun x hx lo' r' e => by
      cases e
      unfold lsStep at hx
      split at hx
      · split at hx <;> simp at hx <;> rw [← hx]
      · simp at hx; rw [← hx]
    show sval F (lsGo ss (lsStep ss acc lo hi) (hi :: r)) = sval F acc + (sAt ss lo hi * (F hi - F lo) + steps (fun lo hi => sAt ss lo hi * (F hi - F lo)) (hi :: r))
    rw [lsGo_val F ss (hi :: r) _ hl, hv]
    grind
/-- one part, over what follows on another -/
def tele (F : Rat → Rat) (a b : Rat) (lo hi : Rat) : Rat := if (!decide (lo < a) && !decide (b < hi)) = true then F hi - F lo else 0
theorem tele_past (F : Rat → Rat) (a b : Rat) : ∀ (r : List Rat) (x : Rat), (x :: r).Pairwise (· < ·) → b ≤ x → steps (tele F a b) (x :: r) = 0
  | [], _, _, _ => rfl
  | y :: r, x, h, hb => by
    have h1 := List.pairwise_cons.mp h
    have hxy := h1.1 y List.mem_cons_self
    show tele F a b x y + steps (tele F a b) (y :: r) = 0
    rw [tele_past F a b r y h1.2 (by grind)]
    have : tele F a b x y = 0 := by
      unfold tele
      rw [if_neg]
      simp
      intro _
      grind
    rw [this]
    grind
theorem tele_from (F : Rat → Rat) (a b : Rat) : ∀ (r : List Rat) (x : Rat), (x :: r).Pairwise (· < ·) → a ≤ x → b ∈ x :: r → steps (tele F a b) (x :: r) = F b - F x
  | [], x, _, _, hb => by
    rw [List.mem_singleton.mp hb]
    show (0 : Rat) = _
    grind
  | y :: r, x, h, ha, hb => by
    have h1 := List.pairwise_cons.mp h
    have hxy := h1.1 y List.mem_cons_self
    show tele F a b x y + steps (tele F a b) (y :: r) = _
    by_cases e : b = x
    · subst e
      rw [tele_past F a b r y h1.2 (by grind)]
      have : tele F a b b y = 0 := by
        unfold tele
        rw [if_neg]
        simp
        intro _
        grind
      rw [this]
      grind
    · have hb' : b ∈ y :: r := by
        rcases List.mem_cons.mp hb with z | z
        · exact absurd z e
        · exact z
      have hyb : y ≤ b := by
        rcases List.mem_cons.mp hb' with z | z
        · rw [z]; exact Rat.le_refl
        · have := (List.pairwise_cons.mp h1.2).1 b z
          grind
      rw [tele_from F a b r y h1.2 (by grind) hb']
      have : tele F a b x y = F y - F x := by
        unfold tele
        rw [if_pos]
        simp
        grind
      rw [this]
      grind
theorem tele_all (F : Rat → Rat) (a b : Rat) (hab : a ≤ b) : ∀ (r : List Rat), r.Pairwise (· < ·) → a ∈ r → b ∈ r → steps (tele F a b) r = F b - F a
  | [], _, h, _ => by simp at h
  | x :: r, h, ha, hb => by
    by_cases e : a = x
    · subst e
      exact tele_from F a b r a h Rat.le_refl hb
    · have h1 := List.pairwise_cons.mp h
      have ha' : a ∈ r := by
        rcases List.mem_cons.mp ha with z | z
        · exact absurd z e
        · exact z
      have hxa := h1.1 a ha'
      have hb' : b ∈ r := by
        rcases List.mem_cons.mp hb with z | z
        · exfalso; grind
        · exact z
      cases r with
      | nil => simp at ha'
      | cons y r =>
        show tele F a b x y + steps (tele F a b) (y :: r) = _
        rw [tele_all F a b hab (y :: r) h1.2 ha' hb']
        have : tele F a b x y = 0 := by
          unfold tele
          rw [if_neg]
          simp
          intro z
          grind
        rw [this]
        grind
theorem sAt_cons (s : Sh) (ss : List Sh) (lo hi : Rat) : sAt (s :: ss) lo hi = (if sIn lo hi s = true then s.2.2 else 0) + sAt ss lo hi := by
  unfold sAt
  rw [List.filter_cons]
  split
  · rw [List.map_cons, sumQ_cons]
  · grind
theorem sAt_sum (F : Rat → Rat) (P : List Rat) (hp : P.Pairwise (· < ·)) : ∀ ss : List Sh, (∀ s ∈ ss, s.1 ≤ s.2.1 ∧ s.1 ∈ P ∧ s.2.1 ∈ P) → steps (fun lo hi => sAt ss lo hi * (F hi - F lo)) P = sval F ss
  | [], _ => by
    have : (fun lo hi => sAt [] lo hi * (F hi - F lo)) = fun _ _ => (0 : Rat) := by
      funext lo hi
      show (0 : Rat) * _ = 0
      grind
    rw [this, steps_zero]
    rfl
  | s :: ss, h => by
    have ih := sAt_sum F P hp ss fun x hx => h x (List.mem_cons_of_mem _ hx)
    obtain ⟨h1, h2, h3⟩ := h s List.mem_cons_self
    have : (fun lo hi => sAt (s :: ss) lo hi * (F hi - F lo)) = fun lo hi => s.2.2 * tele F s.1 s.2.1 lo hi + sAt ss lo hi * (F hi - F lo) := by
      funext lo hi
      rw [sAt_cons]
      unfold tele sIn
      split <;> grind
    rw [this, steps_add, steps_mul, ih, tele_all F _ _ h1 P hp h2 h3]
    unfold sval
    rw [sumM_cons]
theorem sval_ls (F : Rat → Rat) (ss : List Sh) (h : ∀ s ∈ ss, s.1 ≤ s.2.1) : sval F (lsOf ss) = sval F ss := by
  unfold lsOf
  rw [show sval F ((lsGo ss [] (asc (ends ss))).filter fun s => !decide (s.2.2 = 0)) = sval F (lsGo ss [] (asc (ends ss))) from sumM_filter _ _ _ fun s _ hs => by
    have hs : s.2.2 = 0 := by simpa using hs
    rw [hs]; grind]
  rw [lsGo_val F ss _ [] (by simp), sAt_sum F _ (asc_sorted _) ss fun s hs => ⟨h s hs, ?_, ?_⟩]
  · show (0 : Rat) + _ = _
    grind
  · exact mem_asc.mpr (List.mem_flatMap.mpr ⟨s, hs, by simp⟩)
  · exact mem_asc.mpr (List.mem_flatMap.mpr ⟨s, hs, by simp⟩)
end Bk
namespace Bk
def wD (p : Wt) : D := .tup [vq p.1, vq p.2]
def sD (t : Sh) : D := .tup [vq t.1, vq t.2.1, vq t.2.2]
def WR (d : D) (w : Wt) : Prop := ∃ a b, d = .tup [a, b] ∧ IsV a w.1 ∧ IsV b w.2
def SR (d : D) (s : Sh) : Prop := ∃ a b c, d = .tup [a, b, c] ∧ IsV a s.1 ∧ IsV b s.2.1 ∧ IsV c s.2.2
theorem isV_vq (q : Rat) : IsV (vq q) q := .inr rfl
theorem wr_wD (w : Wt) : WR (wD w) w := ⟨_, _, rfl, isV_vq _, isV_vq _⟩
theorem sr_sD (s : Sh) : SR (sD s) s := ⟨_, _, _, rfl, isV_vq _, isV_vq _, isV_vq _⟩
theorem wAt_ht {ws : List Wt} {k : Nat} (h : ∀ w ∈ ws, Ht w.2 k) (p : Rat) : Ht (wAt ws p) (1 + ws.length * (k + 1)) := by
  unfold wAt
  have h1 := sumQ_ht (k := k) (qs := (ws.filter fun w => decide (w.1 = p)).map (·.2)) fun q hq => by
    obtain ⟨w, hw, rfl⟩ := List.mem_map.mp hq
    exact h w (List.mem_filter.mp hw).1
  refine h1.up ?_
  rw [List.length_map]
  have := Nat.mul_le_mul (List.length_filter_le (fun w => decide (w.1 = p)) ws) (Nat.le_refl (k + 1))
  omega
end Bk
namespace Bk
open PySem L2
theorem xlc2L_fl {β : Type} {tg tg1 : D → Gam → Option Gam} {c c1 : M Bool} {it1 : M (List D)} {e : M R} {vs vs1 : List Nat} {G : Gam} {en : β → D} (f : β → List D) : ∀ {xs : List β},
    (∀ x ∈ xs, ∃ G1 G2 G3 ds1, tg (en x) G = some G1 ∧ c G1 = some (true, G1) ∧ it1 G1 = some (ds1, G2) ∧ xlcL tg1 c1 e vs1 ds1 (wipeG G2 vs1) = some (f x, G3) ∧ wipeG G3 vs = G) →
    xlc2L tg c it1 tg1 c1 e vs vs1 (xs.map en) G = some (xs.flatMap f, G)
  | [], _ => rfl
  | x :: xs, h => by
    obtain ⟨G1, G2, G3, ds1, h1, h2, h3, h4, h5⟩ := h x List.mem_cons_self
    have ih := xlc2L_fl (c := c) (it1 := it1) f (xs := xs) fun y hy => h y (List.mem_cons_of_mem _ hy)
    show xlc2L tg c it1 tg1 c1 e vs vs1 (en x :: xs.map en) G = _
    unfold xlc2L
    rw [h1]
    simp only [bd_some, h2, if_true, h3, h4, h5, ih, List.flatMap_cons]
theorem xlc2_un {it it1 : M (List D)} {tg tg1 : D → Gam → Option Gam} {c c1 : M Bool} {e : M R} {vs vs1 : List Nat} {G0 G : Gam} {ds out : List D} (h1 : it G0 = some (ds, G)) (h2 : noMu G vs = true) (hw : wipeG G vs = G) (hu : unw G G vs = G)
    (h3 : xlc2L tg c it1 tg1 c1 e vs vs1 ds G = some (out, G)) (hf : out.length ≤ 100000) : xlc2 it tg c it1 tg1 c1 e vs vs1 G0 = some (.ol out, G) := by
  unfold xlc2
  rw [h1]
  simp only [bd_some, h2, if_true, hw, h3, fewl hf, hu]
theorem xsl_ok {o : D → Option Int → Option Int → Option R} {a : M R} {l h : MO} {G G1 G2 G3 : Gam} {x r : R} {i j : Option Int} (ha : a G = some (x, G1)) (hl : l G1 = some (i, G2)) (hh : h G2 = some (j, G3)) (ho : o x.d i j = some r) : xsl o a l h G = some (r, G3) := by
  unfold xsl
  rw [ha]
  simp only [bd_some, hl, hh, ho]
theorem cut_tail (xs : List D) : cutD xs (some 1) none = xs.tail := by
  unfold cutD
  rw [HT.sIx_none]
  have e : HT.sIx xs.length 0 (some 1) = min 1 xs.length := HT.sIx_nat _ _ 1
  rw [e]
  cases xs with
  | nil => rfl
  | cons x xs =>
    have : min 1 (x :: xs).length = 1 := by rw [List.length_cons]; omega
    rw [this, List.drop_one, List.tail_cons, List.length_cons, Nat.add_sub_cancel, List.take_length]
theorem cut_init (xs : List D) : cutD xs none (some (-1)) = xs.dropLast := by
  unfold cutD
  rw [HT.sIx_none]
  have e : HT.sIx xs.length xs.length (some (-1)) = xs.length - 1 := by
    show (if (-1 : Int) < 0 then ((-1 : Int) + (xs.length : Int)).toNat else min (-1 : Int).toNat xs.length) = _
    rw [if_pos (by decide)]
    omega
  rw [e, List.dropLast_eq_take]
  rfl
theorem atI_last {α : Type} {xs : List α} {x : α} (h : xs.getLast? = some x) : atI xs (-1) = some x := by
  have e := getLast_split h
  have hl : 0 < xs.length := by rw [e]; simp
  unfold atI ixN
  rw [if_neg (by decide), if_pos (by omega)]
  have e2 : (-1 + (xs.length : Int)).toNat = xs.length - 1 := by omega
  rw [e2]
  show xs[xs.length - 1]? = _
  rw [← List.getLast?_eq_getElem?, h]
def pD (p : Rat × Rat) : D := .tup [vq p.1, vq p.2]
theorem lsStep_len (ss acc : List Sh) (lo hi : Rat) : (lsStep ss acc lo hi).length ≤ acc.length + 1 := by
  unfold lsStep
  split
  · split
    · rw [List.length_append, List.length_dropLast, List.length_singleton]; omega
    · rw [List.length_append, List.length_singleton]; omega
  · rw [List.length_append, List.length_singleton]; omega
theorem lsGo_len (ss : List Sh) : ∀ (pts : List Rat) (acc : List Sh), (lsGo ss acc pts).length ≤ acc.length + pts.length
  | [], acc => by unfold lsGo; omega
  | [_], acc => by unfold lsGo; omega
  | lo :: hi :: r, acc => by
    show (lsGo ss (lsStep ss acc lo hi) (hi :: r)).length ≤ _
    have := lsGo_len ss (hi :: r) (lsStep ss acc lo hi)
    have := lsStep_len ss acc lo hi
    simp only [List.length_cons] at *
    omega
theorem sAt_ht {ss : List Sh} {k : Nat} (h : ∀ s ∈ ss, Ht s.2.2 k) (lo hi : Rat) : Ht (sAt ss lo hi) (1 + ss.length * (k + 1)) := by
  unfold sAt
  have h1 := sumQ_ht (k := k) (qs := (ss.filter (sIn lo hi)).map (·.2.2)) fun q hq => by
    obtain ⟨w, hw, rfl⟩ := List.mem_map.mp hq
    exact h w (List.mem_filter.mp hw).1
  refine h1.up ?_
  rw [List.length_map]
  have := Nat.mul_le_mul (List.length_filter_le (sIn lo hi) ss) (Nat.le_refl (k + 1))
  omega
theorem ends_len (ss : List Sh) : (ends ss).length = ss.length * 2 := by
  unfold ends
  induction ss with
  | nil => rfl
  | cons s ss ih => rw [List.flatMap_cons, List.length_append, ih]; simp only [List.length_cons, List.length_nil]; omega
end Bk
namespace Bk
open PySem L2
theorem xasgF_ok {j c i k : Nat} {a : M R} {G G1 G2 G3 : Gam} {d d' : D} (h : a G = some (.im (.tup [d, d']), G1)) (h2 : putA j c i d G1 = some G2) (h3 : putA j c k d' G2 = some G3) : xasgF j c i k a G = some (.nx, G3) := by
  unfold xasgF
  rw [h]
  simp only [bd_some, R.d, h2, h3]
theorem xsetf_ok {j c i : Nat} {a : M R} {G G1 G2 : Gam} {r : R} (h : a G = some (r, G1)) (h2 : putA j c i r.d G1 = some G2) : xsetf j c i a G = some (.nx, G2) := by
  unfold xsetf
  rw [h]
  simp only [bd_some, h2]
theorem xmake_ok {c : Nat} {m : Mob → List D → Option (R × Mob)} {dds : List D} {a : M (List D)} {G G1 : Gam} {xs : List D} {m' : Mob} (h : a G = some (xs, G1)) (hm : m (.o c []) (xs ++ dds) = some (.im .non, m')) : xmake c m dds a G = some (.ow m', G1) := by
  unfold xmake
  rw [h]
  simp only [bd_some, hm]
theorem xrev_ok {a b : M R} {G G1 G2 : Gam} {x y : R} {ds : List D} (h : a G = some (x, G1)) (h2 : b G1 = some (y, G2)) (hx : asL x.d = some ds) (hy : y.d = .int (-1)) : xrev a b G = some (.ol ds.reverse, G2) := by
  unfold xrev
  rw [h]
  simp only [bd_some, h2, hx, hy, if_true]
theorem bools_true {α : Type} : ∀ l : List α, bools (l.map fun _ => D.bl true) = some (l.map fun _ => true)
  | [] => rfl
  | x :: l => by
    show bools (D.bl true :: l.map fun _ => D.bl true) = _
    unfold bools
    rw [bools_true l]
    rfl
theorem all_true {α : Type} (l : List α) : cbAll [.lst (l.map fun _ => D.bl true)] = some (.im (.bl true)) := by
  show (bools (l.map fun _ => D.bl true)).map (fun bs => R.im (.bl (bs.all id))) = _
  rw [bools_true]
  have : (l.map fun _ => true).all id = true := by simp
  show some (R.im (.bl ((l.map fun _ => true).all id))) = _
  rw [this]
/-- d holds a list or a tuple of ds -/
def isSq (d : D) (ds : List D) : Prop := d = .lst ds ∨ d = .tup ds ∨ d = .frz ds
theorem isSq.seq {d : D} {ds : List D} (h : isSq d ds) : seqD d = some ds := by
  rcases h with rfl | rfl | rfl <;> rfl
def rlL (lo hi : Rat) (ws : List Wt) (ss : List Sh) : List D := [vq lo, vq hi, .tup (ws.map wD), .tup (ss.map sD)]
def hor (cs : List Rat) (x : Rat) : Rat := cs.foldr (fun c a => a * x + c) 0
def apow : Nat → List Rat → List Rat
  | _, [] => []
  | i, c :: cs => c / (((i : Int) + 1 : Int) : Rat) :: apow (i + 1) cs
def areaP (cs : List Rat) : List Rat := 0 :: apow 0 cs
def tol (ws : List Wt) (ss : List Sh) (cs : List Rat) : Rat := wval (hor cs) ws + sval (hor (areaP cs)) ss
theorem hor_ht {cs : List Rat} {x : Rat} {kc kx : Nat} (hc : ∀ c ∈ cs, Ht c kc) (hx : Ht x kx) : Ht (hor cs x) (1 + cs.length * (kx + kc + 1)) := by
  induction cs with
  | nil => exact ht0.up (by simp)
  | cons c cs ih =>
    have h1 := ih fun y hy => hc y (List.mem_cons_of_mem _ hy)
    show Ht (hor cs x * x + c) _
    have := (h1.mul hx).add (hc c List.mem_cons_self)
    refine this.up ?_
    rw [List.length_cons, Nat.add_mul]
    omega
theorem hor_rev (cs : List Rat) (x : Rat) : cs.reverse.foldl (fun a c => a * x + c) 0 = hor cs x := by
  unfold hor
  rw [List.foldl_reverse]
theorem apow_len : ∀ (i : Nat) (cs : List Rat), (apow i cs).length = cs.length
  | _, [] => rfl
  | i, c :: cs => by show (apow (i + 1) cs).length + 1 = _; rw [apow_len (i + 1) cs]; rfl
theorem idx_ht {i ki : Nat} (h : i + 1 < 2 ^ ki) : Ht ((((i : Int) + 1 : Int)) : Rat) ki := Ht.int (by unfold Sm; omega) (by
  rcases Nat.eq_zero_or_pos ki with rfl | z
  · simp at h
  · exact z)
theorem idx_ne (i : Nat) : ((((i : Int) + 1 : Int)) : Rat) ≠ 0 := fun h => by
  have := Rat.intCast_eq_zero_iff.mp h
  omega
theorem apow_ht {kc ki : Nat} : ∀ {i : Nat} {cs : List Rat}, (∀ c ∈ cs, Ht c kc) → i + cs.length < 2 ^ ki → ∀ c ∈ apow i cs, Ht c (kc + ki)
  | _, [], _, _, c, h => by simp [apow] at h
  | i, x :: cs, hc, hi, c, h => by
    rcases List.mem_cons.mp h with rfl | h
    · exact (hc x List.mem_cons_self).div (idx_ht (by rw [List.length_cons] at hi; omega)) (idx_ne i)
    · exact apow_ht (i := i + 1) (fun y hy => hc y (List.mem_cons_of_mem _ hy)) (by rw [List.length_cons] at hi; omega) c h
theorem areaP_ht {kc ki : Nat} {cs : List Rat} (hc : ∀ c ∈ cs, Ht c kc) (hi : cs.length < 2 ^ ki) : ∀ c ∈ areaP cs, Ht c (kc + ki + 1) := fun c h => by
  rcases List.mem_cons.mp h with rfl | h
  · exact ht0.up (by omega)
  · exact (apow_ht (ki := ki) hc (by omega) c h).up (by omega)
end Bk
namespace Bk
/-- sizes that let the sum of a rule be told -/
structure TolOk (ws : List Wt) (ss : List Sh) (cs : List Rat) (kp kw kc ki : Nat) : Prop where
  w : ∀ w ∈ ws, Ht w.1 kp ∧ Ht w.2 kw
  s : ∀ s ∈ ss, Ht s.1 kp ∧ Ht s.2.1 kp ∧ Ht s.2.2 kw
  c : ∀ c ∈ cs, Ht c kc
  i : cs.length < 2 ^ ki
  t : 1 + (ws.length + ss.length) * ((kw + 2 * (1 + (cs.length + 1) * (kp + kc + ki + 2)) + 1) + 1) + (kw + 2 * (1 + (cs.length + 1) * (kp + kc + ki + 2)) + 1) + (kp + kc + ki) < 8990
def tolL (ws : List Wt) (ss : List Sh) (cs : List Rat) : List Rat := (ws.map fun w => w.2 * hor cs w.1) ++ ss.map fun s => s.2.2 * (hor (areaP cs) s.2.1 - hor (areaP cs) s.1)
theorem tolL_sum (ws : List Wt) (ss : List Sh) (cs : List Rat) : sumQ (tolL ws ss cs) = tol ws ss cs := by
  unfold tolL tol wval sval sumM
  rw [sumQ_app]
theorem TolOk.hor {ws : List Wt} {ss : List Sh} {cs : List Rat} {kp kw kc ki : Nat} (t : TolOk ws ss cs kp kw kc ki) {x : Rat} (hx : Ht x kp) : Ht (hor cs x) (1 + (cs.length + 1) * (kp + kc + ki + 2)) := by
  refine (hor_ht t.c hx).up ?_
  have : cs.length * (kp + kc + 1) ≤ (cs.length + 1) * (kp + kc + ki + 2) := Nat.mul_le_mul (by omega) (by omega)
  omega
theorem areaP_len (cs : List Rat) : (areaP cs).length = cs.length + 1 := by
  show (apow 0 cs).length + 1 = _
  rw [apow_len]
theorem TolOk.horA {ws : List Wt} {ss : List Sh} {cs : List Rat} {kp kw kc ki : Nat} (t : TolOk ws ss cs kp kw kc ki) {x : Rat} (hx : Ht x kp) : Ht (Bk.hor (areaP cs) x) (1 + (cs.length + 1) * (kp + kc + ki + 2)) := by
  refine (hor_ht (areaP_ht t.c t.i) hx).up ?_
  rw [areaP_len]
  have : (cs.length + 1) * (kp + (kc + ki + 1) + 1) ≤ (cs.length + 1) * (kp + kc + ki + 2) := Nat.mul_le_mul (Nat.le_refl _) (by omega)
  omega
theorem tolL_ht {ws : List Wt} {ss : List Sh} {cs : List Rat} {kp kw kc ki : Nat} (t : TolOk ws ss cs kp kw kc ki) : ∀ q ∈ tolL ws ss cs, Ht q (kw + 2 * (1 + (cs.length + 1) * (kp + kc + ki + 2)) + 1) := fun q hq => by
  rcases List.mem_append.mp hq with h | h
  · obtain ⟨w, hw, rfl⟩ := List.mem_map.mp h
    exact ((t.w w hw).2.mul (t.hor (t.w w hw).1)).up (by omega)
  · obtain ⟨s, hs, rfl⟩ := List.mem_map.mp h
    exact ((t.s s hs).2.2.mul ((t.horA (t.s s hs).2.1).sub (t.horA (t.s s hs).1))).up (by omega)
theorem tolL_len (ws : List Wt) (ss : List Sh) (cs : List Rat) : (tolL ws ss cs).length = ws.length + ss.length := by
  unfold tolL
  rw [List.length_append, List.length_map, List.length_map]
theorem TolOk.ht {ws : List Wt} {ss : List Sh} {cs : List Rat} {kp kw kc ki : Nat} (t : TolOk ws ss cs kp kw kc ki) : Ht (tol ws ss cs) 8990 := by
  rw [← tolL_sum]
  refine (sumQ_ht (tolL_ht t)).up ?_
  rw [tolL_len]
  have := t.t
  omega
end Bk
namespace Bk
open PySem L2
def rpow (q : Rat) : Nat → Rat
  | 0 => 1
  | n + 1 => rpow q n * q
theorem rpow_divInt (q : Rat) : ∀ n : Nat, Rat.divInt (q.num ^ n) ((q.den : Int) ^ n) = rpow q n
  | 0 => by simp [rpow]; rfl
  | n + 1 => by
    rw [Int.pow_succ, Int.pow_succ, ← Rat.divInt_mul_divInt, rpow_divInt q n, divInt_self]
    rfl
theorem sm_pow {a : Int} {k : Nat} (h : Sm a k) : ∀ n : Nat, Sm (a ^ n) (n * k + 1)
  | 0 => by unfold Sm; simp
  | n + 1 => by
    rw [Int.pow_succ]
    have := (sm_pow h n).mul h
    exact this.up (by rw [Nat.add_mul]; omega)
theorem rpow_ht {q : Rat} {k : Nat} (h : Ht q k) (n : Nat) : Ht (rpow q n) (n * k + 1) := by
  rw [← rpow_divInt]
  exact ht_divInt (Int.pow_ne_zero (den_ne q)) (sm_pow h.1 n) (sm_pow h.2 n)
theorem hor_zeros (c x : Rat) : ∀ n : Nat, hor (List.replicate n 0 ++ [c]) x = c * rpow x n
  | 0 => by show 0 * x + c = c * 1; grind
  | n + 1 => by
    show hor (List.replicate n 0 ++ [c]) x * x + 0 = c * (rpow x n * x)
    rw [hor_zeros c x n]
    grind
def mono (n : Nat) : List Rat := List.replicate n 0 ++ [1]
theorem hor_mono (n : Nat) (x : Rat) : hor (mono n) x = rpow x n := by
  unfold mono
  rw [hor_zeros]
  grind
theorem apow_mono : ∀ (n i : Nat), apow i (mono n) = List.replicate n (0 : Rat) ++ [(1 : Rat) / (((((i + n : Nat) : Int) + 1 : Int)) : Rat)]
  | 0, i => rfl
  | n + 1, i => by
    show (0 : Rat) / _ :: apow (i + 1) (mono n) = _
    rw [apow_mono n (i + 1), Rat.div_def, Rat.zero_mul, List.replicate_succ]
    have : i + 1 + n = i + (n + 1) := by omega
    rw [this]
    rfl
theorem hor_areaP (n : Nat) (x : Rat) : hor (areaP (mono n)) x = (1 / (((n : Int) + 1 : Int) : Rat)) * rpow x (n + 1) := by
  unfold areaP
  rw [apow_mono, Nat.zero_add, ← List.cons_append, ← List.replicate_succ, hor_zeros]
def cntL (x : Rat) (l : List Rat) : Nat := (l.filter fun y => decide (y < x)).length
theorem cntL_zero {x : Rat} : ∀ {l : List Rat}, (∀ y ∈ l, ¬ y < x) → cntL x l = 0
  | [], _ => rfl
  | y :: l, h => by
    unfold cntL
    rw [List.filter_cons, if_neg (by simpa using h y List.mem_cons_self)]
    exact cntL_zero fun z hz => h z (List.mem_cons_of_mem _ hz)
theorem insU_cnt (x : Rat) : ∀ {l : List Rat}, l.Pairwise (· < ·) → insU x l = if (l.drop (cntL x l)).take 1 = [x] then l else l.take (cntL x l) ++ [x] ++ l.drop (cntL x l)
  | [], _ => rfl
  | y :: r, h => by
    have h1 := List.pairwise_cons.mp h
    have ih := insU_cnt x h1.2
    unfold insU
    split
    · rename_i hx
      have e : cntL x (y :: r) = 0 := cntL_zero fun z hz => by
        rcases List.mem_cons.mp hz with rfl | hz
        · grind
        · have := h1.1 z hz; grind
      rw [e]
      have : ¬ y = x := by grind
      simp [this]
    · split
      · rename_i hx hy
        subst hy
        have e : cntL x (x :: r) = 0 := cntL_zero fun z hz => by
          rcases List.mem_cons.mp hz with rfl | hz
          · grind
          · have := h1.1 z hz; grind
        rw [e]
        simp
      · rename_i hx hy
        have hlt : y < x := by grind
        have e : cntL x (y :: r) = cntL x r + 1 := by
          unfold cntL
          rw [List.filter_cons, if_pos (by simpa using hlt), List.length_cons]
        rw [e, List.drop_succ_cons, List.take_succ_cons, ih]
        split
        · rfl
        · rfl
def insAll (l acc : List Rat) : List Rat := l.foldl (fun a x => insU x a) acc
theorem insAll_ok : ∀ (l acc : List Rat), acc.Pairwise (· < ·) → (insAll l acc).Pairwise (· < ·) ∧ ∀ q, q ∈ insAll l acc ↔ q ∈ l ∨ q ∈ acc
  | [], acc, h => ⟨h, fun q => by simp [insAll]⟩
  | x :: l, acc, h => by
    obtain ⟨a, b⟩ := insAll_ok l (insU x acc) (insU_sorted h)
    refine ⟨a, fun q => ?_⟩
    show q ∈ insAll l (insU x acc) ↔ _
    rw [b, mem_insU, List.mem_cons]
    constructor
    · rintro (z | z | z)
      · exact .inl (.inr z)
      · exact .inl (.inl z)
      · exact .inr z
    · rintro ((z | z) | z)
      · exact .inr (.inl z)
      · exact .inl z
      · exact .inr (.inr z)
theorem insAll_asc (l : List Rat) : insAll l [] = asc l := by
  obtain ⟨a, b⟩ := insAll_ok l [] .nil
  exact sorted_uniq a (asc_sorted l) fun q => by rw [b, mem_asc]; simp
theorem ne_lst1 (l : List Rat) (x : Rat) (h : l.length ≤ 1) : opNe (.lst (l.map vq)) (.lst [vq x]) = some (.im (.bl (!decide (l = [x])))) := by
  match l with
  | [] => rfl
  | [y] =>
    have e : eqD (.lst [vq y]) (.lst [vq x]) = some (PyData.eqv (.list [pyq y]) (.list [pyq x])) := rfl
    have e2 : PyData.eqv (.list [pyq y]) (.list [pyq x]) = PyData.eqv (pyq y) (pyq x) := by simp [PyData.eqv, PyData.eqvAll]
    have e3 := eqv_vq y x
    rw [show eqD (vq y) (vq x) = some (PyData.eqv (pyq y) (pyq x)) from rfl] at e3
    have e4 := Option.some.inj e3
    show (match eqD (.lst [vq y]) (.lst [vq x]) with | some k => some (R.im (.bl (!k))) | none => none) = _
    rw [e, e2, e4]
    simp
  | _ :: _ :: _ => simp at h
theorem cut_nat {xs : List D} {i j : Nat} (h : i ≤ j) : cutD xs (some (i : Int)) (some (j : Int)) = (xs.drop i).take (j - i) := by
  unfold cutD
  rw [HT.sIx_nat, HT.sIx_nat]
  by_cases z : xs.length ≤ i
  · rw [List.drop_eq_nil_of_le (by omega), List.drop_eq_nil_of_le z]
    simp
  · rw [Nat.min_eq_left (by omega : i ≤ xs.length)]
    by_cases y : j ≤ xs.length
    · rw [Nat.min_eq_left y]
    · rw [Nat.min_eq_right (by omega), List.take_of_length_le (by rw [List.length_drop]; omega), List.take_of_length_le (by rw [List.length_drop]; omega)]
theorem xby_mu {i : Nat} {a b : M R} {G : Gam} {o : Option (R × Gam)} (h : isMu G i = true) (h2 : a G = o) : xby i a b G = o := by
  unfold xby
  rw [if_pos h, h2]
theorem xlcv_ok {i : Nat} {tg : D → Gam → Option Gam} {t : M Bool} {e : M R} {vs : List Nat} {G G1 G2 : Gam} {ds out : List D} {en : Ent} (h : G[i]? = some en) (h0 : en.mu = some (.l ds)) (h1 : G.set i .un = G1) (h2 : noMu G1 vs = true) (hw : wipeG G1 vs = G1)
    (h3 : xlcL tg t e vs ds G1 = some (out, G1)) (hf : out.length ≤ 100000) (hu : isUn (unw G1 G1 vs) i = true) (hg : (unw G1 G1 vs).set i en = G2) : xlcv i tg t e vs G = some (.ol out, G2) := by
  unfold xlcv
  simp only [h, h0, h1, h2, if_true, hw, h3, bd_some, fewl hf, hu, Bool.and_self, hg]
theorem xslv_ok {i : Nat} {l h : MO} {G G1 G2 : Gam} {a b : Option Int} {en : Ent} {ds : List D} (h0 : isMu G i = true) (hl : l G = some (a, G1)) (hh : h G1 = some (b, G2)) (hi : G2[i]? = some en) (hm : en.mu = some (.l ds)) : xslv i l h G = some (.ol (cutD ds a b), G2) := by
  unfold xslv slv
  rw [if_pos h0]
  simp only [hl, bd_some, hh, hi, hm]
theorem xmut_ok {j : Nat} {f : List D → List D → Option (D × List D)} {as : M (List D)} {G G1 G2 : Gam} {xs ds ds' : List D} {d : D} {en : Ent} (h0 : isLst G j = true) (h : as G = some (xs, G1)) (hi : G1[j]? = some en) (hm : en.mu = some (.l ds)) (hf : f ds xs = some (d, ds')) (e : G1.set j (en.with (.l ds')) = G2) : xmut j f as G = some (.im d, G2) := by
  unfold xmut
  rw [if_pos h0]
  simp only [h, bd_some, hi, hm, hf, e]
theorem xdrop_ok {a : M R} {G G1 : Gam} {r : R} (h : a G = some (r, G1)) : xdrop a G = some (.nx, G1) := by
  unfold xdrop
  rw [h]
  rfl
/-- turns that draw: each leaves a word to stand, and gives a thing that is as asked -/
theorem xlcL_ex {tg : D → Gam → Option Gam} {e : M R} {vs : List Nat} (Inv : Gam → Prop) (Qd : D → Prop) : ∀ {ds : List D} {G : Gam}, Inv G → (∀ d ∈ ds, ∀ G, Inv G → ∃ G1 r G2, tg d G = some G1 ∧ e G1 = some (r, G2) ∧ Qd r.d ∧ Inv (wipeG G2 vs)) →
    ∃ out G', xlcL tg xtyes e vs ds G = some (out, G') ∧ Inv G' ∧ (∀ d ∈ out, Qd d) ∧ out.length = ds.length
  | [], G, h, _ => ⟨[], G, rfl, h, (by simp), rfl⟩
  | d :: ds, G, h, hs => by
    obtain ⟨G1, r, G2, h1, h2, h3, h4⟩ := hs d List.mem_cons_self G h
    obtain ⟨out, G', i1, i2, i3, i4⟩ := xlcL_ex (tg := tg) (e := e) (vs := vs) Inv Qd h4 fun z hz => hs z (List.mem_cons_of_mem _ hz)
    refine ⟨r.d :: out, G', ?_, i2, fun z hz => ?_, by rw [List.length_cons, i4, List.length_cons]⟩
    · unfold xlcL
      rw [h1]
      simp only [bd_some, xtyes, if_true, h2]
      have i1' := i1
      unfold xtyes at i1'
      first
        | rw [i1']; rfl
        | rw [i1]; rfl
    · rcases List.mem_cons.mp hz with rfl | hz
      · exact h3
      · exact i3 z hz
theorem enc_of {α : Type} {en : α → D} {P : α → Prop} : ∀ {out : List D}, (∀ d ∈ out, ∃ x, d = en x ∧ P x) → ∃ xs : List α, out = xs.map en ∧ ∀ x ∈ xs, P x
  | [], _ => ⟨[], rfl, by simp⟩
  | d :: out, h => by
    obtain ⟨x, hx, px⟩ := h d List.mem_cons_self
    obtain ⟨xs, e, p⟩ := enc_of (out := out) fun z hz => h z (List.mem_cons_of_mem _ hz)
    refine ⟨x :: xs, by rw [hx, e]; rfl, fun y hy => ?_⟩
    rcases List.mem_cons.mp hy with rfl | hy
    · exact px
    · exact p y hy
end Bk
namespace Bk
structure Drn (lo hi : Rat) (ws : List Wt) (ss : List Sh) (m p : Nat) : Prop where
  lo2 : Ht lo 2
  hi5 : Ht hi 5
  lt : lo < hi
  w : ∀ w ∈ ws, Ht w.1 14 ∧ Ht w.2 4 ∧ lo ≤ w.1 ∧ w.1 ≤ hi
  s : ∀ s ∈ ss, Ht s.1 14 ∧ Ht s.2.1 14 ∧ Ht s.2.2 4 ∧ lo ≤ s.1 ∧ s.1 < s.2.1 ∧ s.2.1 ≤ hi
  wl : ws.length ≤ m
  sl : ss.length ≤ p
theorem ht_of {n : Int} {d : Nat} {k : Nat} (q : Rat) (h : q.num = n) (h' : q.den = d) (hn : n.natAbs < 2 ^ k) (hd : d < 2 ^ k) : Ht q k := ⟨by unfold Sm; rw [h]; exact hn, by unfold Sm; rw [h', Int.natAbs_natCast]; exact hd⟩
def ofpL (ws : List Wt) (ss : List Sh) (j : Nat) : List Rat := (ws.map fun w => w.2 * rpow w.1 j) ++ ss.map fun s => s.2.2 * ((rpow s.2.1 (j + 1) - rpow s.1 (j + 1)) * (1 / (((j : Int) + 1 : Int) : Rat)))
theorem inv_vq {j : Nat} (h : j < 8) : D.tup [.int 1, .int ((j : Int) + 1)] = vq (1 / (((j : Int) + 1 : Int) : Rat)) ∧ Ht (1 / (((j : Int) + 1 : Int) : Rat)) 4 := by
  have key : ∀ n : Int, ∀ d : Nat, n.natAbs < 16 → d < 16 → ∀ q : Rat, q.num = n → q.den = d → D.tup [.int n, .int (d : Int)] = vq q ∧ Ht q 4 := fun n d hn hd q h1 h2 => ⟨by unfold vq; rw [h1, h2], ht_of q h1 h2 hn hd⟩
  rcases j with _ | _ | _ | _ | _ | _ | _ | _ | j
  · exact key 1 1 (by decide) (by decide) _ (by decide +kernel) (by decide +kernel)
  · exact key 1 2 (by decide) (by decide) _ (by decide +kernel) (by decide +kernel)
  · exact key 1 3 (by decide) (by decide) _ (by decide +kernel) (by decide +kernel)
  · exact key 1 4 (by decide) (by decide) _ (by decide +kernel) (by decide +kernel)
  · exact key 1 5 (by decide) (by decide) _ (by decide +kernel) (by decide +kernel)
  · exact key 1 6 (by decide) (by decide) _ (by decide +kernel) (by decide +kernel)
  · exact key 1 7 (by decide) (by decide) _ (by decide +kernel) (by decide +kernel)
  · exact key 1 8 (by decide) (by decide) _ (by decide +kernel) (by decide +kernel)
  · omega
end Bk
namespace Bk
open PySem L2
theorem tol_ofp (ws : List Wt) (ss : List Sh) (n : Nat) : tol ws ss (mono n) = sumQ (ofpL ws ss n) := by
  unfold tol wval sval ofpL
  rw [sumQ_app]
  congr 1
  · exact sumM_congr fun w _ => by rw [hor_mono]
  · exact sumM_congr fun s _ => by rw [hor_areaP, hor_areaP]; grind
theorem lwOf_mem {ws : List Wt} {w : Wt} (h : w ∈ lwOf ws) : w.1 ∈ ws.map (·.1) ∧ w.2 = wAt ws w.1 ∧ w.2 ≠ 0 := by
  unfold lwOf at h
  obtain ⟨h1, h2⟩ := List.mem_filter.mp h
  obtain ⟨p, hp, rfl⟩ := List.mem_map.mp h1
  exact ⟨mem_asc.mp hp, rfl, by simpa using h2⟩
theorem lsGo_all {ss : List Sh} (P W : Rat → Prop) (hw : ∀ lo hi, W (sAt ss lo hi)) : ∀ (pts : List Rat) (acc : List Sh), (∀ p ∈ pts, P p) → (∀ s ∈ acc, P s.1 ∧ P s.2.1 ∧ W s.2.2) → ∀ s ∈ lsGo ss acc pts, P s.1 ∧ P s.2.1 ∧ W s.2.2
  | [], acc, _, ha => by unfold lsGo; exact ha
  | [_], acc, _, ha => by unfold lsGo; exact ha
  | lo :: hi :: r, acc, hp, ha => by
    refine lsGo_all P W hw (hi :: r) (lsStep ss acc lo hi) (fun p h => hp p (List.mem_cons_of_mem _ h)) fun s hs => ?_
    have h1 := hp lo List.mem_cons_self
    have h2 := hp hi (List.mem_cons_of_mem _ List.mem_cons_self)
    unfold lsStep at hs
    split at hs
    · rename_i x hx
      have hxm : x ∈ acc := by
        rw [getLast_split hx]
        simp
      split at hs
      · rcases List.mem_append.mp hs with h | h
        · exact ha s (List.dropLast_subset _ h)
        · rw [List.mem_singleton.mp h]
          exact ⟨(ha x hxm).1, h2, hw lo hi⟩
      · rcases List.mem_append.mp hs with h | h
        · exact ha s h
        · rw [List.mem_singleton.mp h]
          exact ⟨h1, h2, hw lo hi⟩
    · rcases List.mem_append.mp hs with h | h
      · exact ha s h
      · rw [List.mem_singleton.mp h]
        exact ⟨h1, h2, hw lo hi⟩
theorem lsOf_all {ss : List Sh} (P W : Rat → Prop) (hw : ∀ lo hi, W (sAt ss lo hi)) (hp : ∀ s ∈ ss, P s.1 ∧ P s.2.1) : ∀ s ∈ lsOf ss, P s.1 ∧ P s.2.1 ∧ W s.2.2 := fun s hs => by
  unfold lsOf at hs
  obtain ⟨h1, _⟩ := List.mem_filter.mp hs
  refine lsGo_all P W hw _ [] (fun p h => ?_) (by simp) s h1
  obtain ⟨t, ht, h⟩ := List.mem_flatMap.mp (mem_asc.mp h)
  simp only [List.mem_cons, List.not_mem_nil, or_false] at h
  rcases h with rfl | rfl
  · exact (hp t ht).1
  · exact (hp t ht).2
theorem lsOf_len (ss : List Sh) : (lsOf ss).length ≤ ss.length * 2 := by
  unfold lsOf
  refine Nat.le_trans (List.length_filter_le _ _) ?_
  have h1 := lsGo_len ss (asc (ends ss)) []
  have h2 := asc_len (ends ss)
  rw [ends_len] at h2
  rw [List.length_nil] at h1
  omega
theorem lwOf_len (ws : List Wt) : (lwOf ws).length ≤ ws.length := by
  unfold lwOf
  refine Nat.le_trans (List.length_filter_le _ _) ?_
  rw [List.length_map]
  have := asc_len (ws.map (·.1))
  rw [List.length_map] at this
  exact this
theorem lwOf_ht {ws : List Wt} {kp kw : Nat} (h : ∀ w ∈ ws, Ht w.1 kp ∧ Ht w.2 kw) : ∀ w ∈ lwOf ws, Ht w.1 kp ∧ Ht w.2 (1 + ws.length * (kw + 1)) := fun w hw => by
  obtain ⟨a, b, _⟩ := lwOf_mem hw
  obtain ⟨x, hx, e⟩ := List.mem_map.mp a
  have ha := (h x hx).1
  rw [e] at ha
  refine ⟨ha, ?_⟩
  rw [b]
  exact wAt_ht (fun w hw => (h w hw).2) _
theorem lsOf_ht {ss : List Sh} {kp kw : Nat} (h : ∀ s ∈ ss, Ht s.1 kp ∧ Ht s.2.1 kp ∧ Ht s.2.2 kw) : ∀ s ∈ lsOf ss, Ht s.1 kp ∧ Ht s.2.1 kp ∧ Ht s.2.2 (1 + ss.length * (kw + 1)) :=
  lsOf_all (fun q => Ht q kp) (fun q => Ht q (1 + ss.length * (kw + 1))) (fun lo hi => sAt_ht (fun s hs => (h s hs).2.2) lo hi) fun s hs => ⟨(h s hs).1, (h s hs).2.1⟩
end Bk
namespace Bk
open PySem L2
theorem pow_loop {m : List D → Option R} (hm : ∀ (a b : Rat) (k l : Nat), Ht a k → Ht b l → k + l < 8990 → m [vq a, vq b] = some (.im (vq (a * b)))) {x1 : Ent} {q : Rat} {k : Nat} (hq : Ht q k) : ∀ (ds : List D) (i : Nat) (e : Ent), (i + ds.length) * k + 1 + k < 8990 →
    ∃ e', xforL (tgn 3) (xset 2 (xcall m (xcons (xv 2) (xcons (xv 0) xnil)))) ds [.im (vq q), x1, .im (vq (rpow q i)), e] = some (.nx, [.im (vq q), x1, .im (vq (rpow q (i + ds.length))), e'])
  | [], i, e, _ => ⟨e, rfl⟩
  | d :: ds, i, e, h9 => by
    rw [List.length_cons] at h9
    have e1 : i + (ds.length + 1) = i + 1 + ds.length := by omega
    rw [e1] at h9
    obtain ⟨e', ih⟩ := pow_loop hm (x1 := x1) hq ds (i + 1) (.im d) h9
    rw [List.length_cons, e1]
    refine ⟨e', (xforL_nx (G1 := [.im (vq q), x1, .im (vq (rpow q i)), .im d]) rfl ?_).trans ih⟩
    have : i * k ≤ (i + 1 + ds.length) * k := Nat.mul_le_mul (by omega) (Nat.le_refl _)
    exact xset_e (xcall_ok (xc1 rfl (xc1 rfl xnil_ok)) (hm _ _ _ _ (rpow_ht hq i) hq (by omega))) rfl
def kk (n : Nat) (t x : Rat) : Rat := if t < x then rpow (x - t) n else 0
theorem kk_ht {t x : Rat} {kt kx : Nat} (ht : Ht t kt) (hx : Ht x kx) (n : Nat) : Ht (kk n t x) (n * (kx + kt + 1) + 1) := by
  unfold kk
  split
  · exact rpow_ht (hx.sub ht) n
  · exact ht0.up (by omega)
def inv1 (n : Nat) : Rat := 1 / (((n : Int) + 1 : Int) : Rat)
def tolk (ws : List Wt) (ss : List Sh) (t : Rat) (n : Nat) : Rat := wval (kk n t) ws + sval (fun x => inv1 n * kk (n + 1) t x) ss
theorem tolk_same (ws : List Wt) (ss : List Sh) (t : Rat) (n : Nat) (h : ∀ s ∈ ss, s.1 ≤ s.2.1) : tolk (lwOf ws) (lsOf ss) t n = tolk ws ss t n := by
  unfold tolk
  rw [wval_lw, sval_ls _ _ h]
/-- the terms that the sum goes over -/
def tkW (t : Rat) (n : Nat) (ws : List Wt) : List Rat := (ws.filter fun w => decide (t < w.1)).map fun w => w.2 * rpow (w.1 - t) n
def tkS (t : Rat) (n : Nat) (ss : List Sh) : List Rat := (ss.filter fun s => decide (t < s.2.1)).map fun s => (s.2.2 * inv1 n) * (rpow (s.2.1 - t) (n + 1) - kk (n + 1) t s.1)
theorem tkW_sum (t : Rat) (n : Nat) (ws : List Wt) : sumQ (tkW t n ws) = wval (kk n t) ws := by
  unfold tkW wval
  show sumM (ws.filter fun w => decide (t < w.1)) (fun w => w.2 * rpow (w.1 - t) n) = _
  rw [sumM_congr (g := fun w => w.2 * kk n t w.1) (fun w hw => by
    have h : t < w.1 := by simpa using (List.mem_filter.mp hw).2
    unfold kk
    rw [if_pos h])]
  refine sumM_filter _ _ _ fun w _ h => ?_
  have h : ¬ t < w.1 := by simpa using h
  show w.2 * kk n t w.1 = 0
  unfold kk
  rw [if_neg h]
  grind
theorem tkS_sum {t : Rat} {n : Nat} {ss : List Sh} (h : ∀ s ∈ ss, s.1 ≤ s.2.1) : sumQ (tkS t n ss) = sval (fun x => inv1 n * kk (n + 1) t x) ss := by
  unfold tkS sval
  show sumM (ss.filter fun s => decide (t < s.2.1)) (fun s => (s.2.2 * inv1 n) * (rpow (s.2.1 - t) (n + 1) - kk (n + 1) t s.1)) = _
  rw [sumM_congr (g := fun s => s.2.2 * (inv1 n * kk (n + 1) t s.2.1 - inv1 n * kk (n + 1) t s.1)) (fun s hs => by
    have h : t < s.2.1 := by simpa using (List.mem_filter.mp hs).2
    have e : kk (n + 1) t s.2.1 = rpow (s.2.1 - t) (n + 1) := by unfold kk; rw [if_pos h]
    rw [e]
    grind)]
  refine sumM_filter _ _ _ fun s hs h2 => ?_
  have h2 : ¬ t < s.2.1 := by simpa using h2
  have h3 := h s hs
  have e1 : kk (n + 1) t s.2.1 = 0 := by unfold kk; rw [if_neg h2]
  have e2 : kk (n + 1) t s.1 = 0 := by unfold kk; rw [if_neg (by grind)]
  show s.2.2 * (inv1 n * kk (n + 1) t s.2.1 - inv1 n * kk (n + 1) t s.1) = 0
  rw [e1, e2]
  grind
structure TkOk (ws : List Wt) (ss : List Sh) (n kp kw kt : Nat) : Prop where
  w : ∀ w ∈ ws, Ht w.1 kp ∧ Ht w.2 kw
  s : ∀ s ∈ ss, Ht s.1 kp ∧ Ht s.2.1 kp ∧ Ht s.2.2 kw ∧ s.1 ≤ s.2.1
  nl : n < 7
  t : 1 + (ws.length + ss.length) * (kw + 3 + 2 * ((n + 1) * (kp + kt + 1) + 1) + 1 + 1) + (kw + 3 + 2 * ((n + 1) * (kp + kt + 1) + 1) + 1) + kp + kt < 8990
theorem inv1_vq {n : Nat} (h : n < 7) : Rat.divInt 1 ((n : Int) + 1) = inv1 n ∧ Ht (inv1 n) 3 := by
  have e : Rat.divInt 1 ((n : Int) + 1) = inv1 n := by
    unfold inv1
    rw [Rat.divInt_eq_div]
    rfl
  refine ⟨e, ?_⟩
  rw [← e]
  exact ht_divInt (by omega) (by unfold Sm; decide) (by unfold Sm; omega)
theorem xlcL_step {tg : D → Gam → Option Gam} {e : M R} {vs : List Nat} {d : D} {ds out : List D} {G G1 G2 G3 G4 : Gam} {r : R} (h1 : tg d G = some G1) (h2 : e G1 = some (r, G2)) (h3 : wipeG G2 vs = G3) (h4 : xlcL tg xtyes e vs ds G3 = some (out, G4)) : xlcL tg xtyes e vs (d :: ds) G = some (r.d :: out, G4) := by
  have h5 : xtyes G1 = some (true, G1) := rfl
  show (match tg d G with
    | none => none
    | some G1 => bd (xtyes G1) fun k G2 => if k then bd (e G2) fun x G3 => bd (xlcL tg xtyes e vs ds (wipeG G3 vs)) fun out G4 => some (x.d :: out, G4)
        else xlcL tg xtyes e vs ds (wipeG G2 vs)) = _
  rw [h1]
  simp only [h5, bd_some, if_true, h2, h3, h4]
def Dv (D B : Nat) (q : Rat) : Prop := D ≠ 0 ∧ ∃ z : Int, q * ((D : Int) : Rat) = (z : Rat) ∧ z.natAbs ≤ B
theorem natR_ne {D : Nat} (h : D ≠ 0) : ((D : Int) : Rat) ≠ 0 := fun z => h (by have := Rat.intCast_eq_zero_iff.mp z; omega)
theorem natR_mul (D E : Nat) : (((D * E : Nat) : Int) : Rat) = ((D : Int) : Rat) * ((E : Int) : Rat) := by rw [Int.natCast_mul, Rat.intCast_mul]
theorem Dv.ht {D B k : Nat} {q : Rat} (h : Dv D B q) (h1 : D < 2 ^ k) (h2 : B < 2 ^ k) : Ht q k := by
  obtain ⟨hd, z, e, hz⟩ := h
  have hn := natR_ne hd
  have eq : q = Rat.divInt z (D : Int) := by
    rw [Rat.divInt_eq_div, ← e]
    generalize ((D : Int) : Rat) = y at hn
    exact (Rat.mul_div_cancel hn).symm
  rw [eq]
  exact ht_divInt (by omega) (by unfold Sm; omega) (by unfold Sm; omega)
theorem Dv.up {D B B' : Nat} {q : Rat} (h : Dv D B q) (hb : B ≤ B') : Dv D B' q := by
  obtain ⟨hd, z, e, hz⟩ := h
  exact ⟨hd, z, e, by omega⟩
theorem Dv.add {D B C : Nat} {a b : Rat} (h : Dv D B a) (h' : Dv D C b) : Dv D (B + C) (a + b) := by
  obtain ⟨hd, z, e, hz⟩ := h
  obtain ⟨_, w, f, hw⟩ := h'
  refine ⟨hd, z + w, ?_, by omega⟩
  rw [Rat.intCast_add, ← e, ← f]
  grind
theorem Dv.neg {D B : Nat} {a : Rat} (h : Dv D B a) : Dv D B (-a) := by
  obtain ⟨hd, z, e, hz⟩ := h
  refine ⟨hd, -z, ?_, by omega⟩
  rw [Rat.intCast_neg, ← e]
  grind
theorem Dv.sub {D B C : Nat} {a b : Rat} (h : Dv D B a) (h' : Dv D C b) : Dv D (B + C) (a - b) := by
  rw [show a - b = a + -b by grind]
  exact h.add h'.neg
theorem Dv.mul {D E B C : Nat} {a b : Rat} (h : Dv D B a) (h' : Dv E C b) : Dv (D * E) (B * C) (a * b) := by
  obtain ⟨hd, z, e, hz⟩ := h
  obtain ⟨he, w, f, hw⟩ := h'
  refine ⟨Nat.mul_ne_zero hd he, z * w, ?_, by rw [Int.natAbs_mul]; exact Nat.mul_le_mul hz hw⟩
  rw [natR_mul, Rat.intCast_mul, ← e, ← f]
  grind
theorem Dv.one : Dv 1 1 1 := ⟨by decide, 1, by decide +kernel, by decide⟩
theorem Dv.zero {D : Nat} (h : D ≠ 0) : Dv D 0 0 := ⟨h, 0, by rw [Rat.zero_mul]; rfl, by decide⟩
theorem Dv.scale {D B : Nat} {q : Rat} (h : Dv D B q) {m : Nat} (hm : m ≠ 0) : Dv (D * m) (B * m) q := by
  obtain ⟨hd, z, e, hz⟩ := h
  refine ⟨Nat.mul_ne_zero hd hm, z * (m : Int), ?_, by rw [Int.natAbs_mul, Int.natAbs_natCast]; exact Nat.mul_le_mul hz (Nat.le_refl m)⟩
  rw [natR_mul, Rat.intCast_mul, ← e]
  grind
theorem Dv.sum {D B : Nat} (hD : D ≠ 0) : ∀ {l : List Rat}, (∀ q ∈ l, Dv D B q) → Dv D (l.length * B) (sumQ l)
  | [], _ => (Dv.zero hD).up (by omega)
  | x :: l, h => by
    rw [sumQ_cons]
    exact ((h x List.mem_cons_self).add (Dv.sum hD fun q hq => h q (List.mem_cons_of_mem _ hq))).up (by rw [List.length_cons, Nat.add_mul]; omega)
theorem Dv.part {D B : Nat} {q : Rat} (h : Dv D B q) {M : Nat} (hM : M ≠ 0) {m : Int} (hm : m ≠ 0) (hd : m ∣ (M : Int)) : Dv (D * M) (B * M) (q / (m : Rat)) := by
  obtain ⟨hD, z, e, hz⟩ := h
  obtain ⟨k, hk⟩ := hd
  have hmr : (m : Rat) ≠ 0 := fun z => hm (Rat.intCast_eq_zero_iff.mp z)
  refine ⟨Nat.mul_ne_zero hD hM, z * k, ?_, ?_⟩
  · have e2 : ((M : Int) : Rat) = (m : Rat) * (k : Rat) := by rw [hk, Rat.intCast_mul]
    rw [natR_mul, e2, Rat.intCast_mul, ← e]
    generalize (m : Rat) = y at hmr
    have : q / y * y = q := Rat.div_mul_cancel hmr
    rw [show q / y * (((D : Int) : Rat) * (y * (k : Rat))) = (q / y * y) * ((D : Int) : Rat) * (k : Rat) by grind, this]
  · rw [Int.natAbs_mul]
    refine Nat.mul_le_mul hz ?_
    have h1 : (M : Int).natAbs = m.natAbs * k.natAbs := by rw [hk, Int.natAbs_mul]
    rw [Int.natAbs_natCast] at h1
    rw [h1]
    exact Nat.le_mul_of_pos_left _ (by omega)
structure Drw (lo hi : Rat) (ws : List Wt) (ss : List Sh) (m p : Nat) : Prop where
  lo4 : Ht lo 4
  hi8 : Ht hi 8
  lt : lo < hi
  w : ∀ w ∈ ws, Ht w.1 21 ∧ Ht w.2 4 ∧ lo ≤ w.1 ∧ w.1 ≤ hi ∧ Dv 72 1300 w.1 ∧ Dv 12 180 w.2
  s : ∀ s ∈ ss, Ht s.1 21 ∧ Ht s.2.1 21 ∧ Ht s.2.2 4 ∧ lo ≤ s.1 ∧ s.1 < s.2.1 ∧ s.2.1 ≤ hi ∧ Dv 72 1300 s.1 ∧ Dv 72 1300 s.2.1 ∧ Dv 12 180 s.2.2
  dlo : Dv 12 180 lo
  dw : Dv 6 12 (hi - lo)
  wl : ws.length ≤ m
  sl : ss.length ≤ p
theorem Drw.lw {lo hi : Rat} {ws : List Wt} {ss : List Sh} {m p : Nat} (h : Drw lo hi ws ss m p) : ∀ w ∈ lwOf ws, Ht w.1 21 ∧ Ht w.2 (1 + m * 5) := fun w hw => by
  obtain ⟨a, b⟩ := lwOf_ht (kp := 21) (kw := 4) (fun w hw => ⟨(h.w w hw).1, (h.w w hw).2.1⟩) w hw
  have := h.wl
  exact ⟨a, b.up (by have := Nat.mul_le_mul this (Nat.le_refl 5); omega)⟩
theorem Drw.ls {lo hi : Rat} {ws : List Wt} {ss : List Sh} {m p : Nat} (h : Drw lo hi ws ss m p) : ∀ s ∈ lsOf ss, Ht s.1 21 ∧ Ht s.2.1 21 ∧ Ht s.2.2 (1 + p * 5) := fun w hw => by
  obtain ⟨a, b, c⟩ := lsOf_ht (kp := 21) (kw := 4) (fun w hw => ⟨(h.s w hw).1, (h.s w hw).2.1, (h.s w hw).2.2.1⟩) w hw
  have := h.sl
  exact ⟨a, b, c.up (by have := Nat.mul_le_mul this (Nat.le_refl 5); omega)⟩
end Bk
namespace Bk
open PySem L2
def SE (a b : List Sh) : Prop := ∀ F : Rat → Rat, sval F a = sval F b
def WE (a b : List Wt) : Prop := ∀ f : Rat → Rat, wval f a = wval f b
theorem SE.refl (a : List Sh) : SE a a := fun _ => rfl
theorem SE.symm {a b : List Sh} (h : SE a b) : SE b a := fun F => (h F).symm
theorem SE.trans {a b c : List Sh} (h : SE a b) (h' : SE b c) : SE a c := fun F => (h F).trans (h' F)
theorem WE.refl (a : List Wt) : WE a a := fun _ => rfl
theorem WE.symm {a b : List Wt} (h : WE a b) : WE b a := fun F => (h F).symm
theorem WE.trans {a b c : List Wt} (h : WE a b) (h' : WE b c) : WE a c := fun F => (h F).trans (h' F)
theorem we_lw (ws : List Wt) : WE (lwOf ws) ws := fun f => wval_lw f ws
theorem se_ls {ss : List Sh} (h : ∀ s ∈ ss, s.1 ≤ s.2.1) : SE (lsOf ss) ss := fun F => sval_ls F ss h
theorem wval_app (f : Rat → Rat) (a b : List Wt) : wval f (a ++ b) = wval f a + wval f b := sumM_app _ _ _
theorem sval_app (F : Rat → Rat) (a b : List Sh) : sval F (a ++ b) = sval F a + sval F b := sumM_app _ _ _
theorem WE.app {a b c d : List Wt} (h : WE a b) (h' : WE c d) : WE (a ++ c) (b ++ d) := fun f => by rw [wval_app, wval_app, h f, h' f]
theorem SE.app {a b c d : List Sh} (h : SE a b) (h' : SE c d) : SE (a ++ c) (b ++ d) := fun f => by rw [sval_app, sval_app, h f, h' f]
/-- points and weights led by functions -/
theorem WE.map {a b : List Wt} (h : WE a b) (g : Rat → Rat) (k : Rat) : WE (a.map fun w => (g w.1, k * w.2)) (b.map fun w => (g w.1, k * w.2)) := fun f => by
  have e : ∀ l : List Wt, wval f (l.map fun w => (g w.1, k * w.2)) = wval (fun x => k * f (g x)) l := fun l => by
    unfold wval
    rw [sumM_map]
    exact sumM_congr fun w _ => by show k * w.2 * f (g w.1) = w.2 * (k * f (g w.1)); grind
  rw [e, e, h]
theorem SE.map {a b : List Sh} (h : SE a b) (g : Rat → Rat) (k : Rat) : SE (a.map fun s => (g s.1, g s.2.1, k * s.2.2)) (b.map fun s => (g s.1, g s.2.1, k * s.2.2)) := fun f => by
  have e : ∀ l : List Sh, sval f (l.map fun s => (g s.1, g s.2.1, k * s.2.2)) = sval (fun x => k * f (g x)) l := fun l => by
    unfold sval
    rw [sumM_map]
    exact sumM_congr fun s _ => by show k * s.2.2 * (f (g s.2.1) - f (g s.1)) = s.2.2 * (k * f (g s.2.1) - k * f (g s.1)); grind
  rw [e, e, h]
theorem wAt_val (ws : List Wt) (p : Rat) : wAt ws p = wval (fun x => if x = p then 1 else 0) ws := by
  induction ws with
  | nil => rfl
  | cons w ws ih =>
    rw [wAt_cons, ih]
    unfold wval
    rw [sumM_cons]
    congr 1
    split <;> grind
def Cont : List Sh → Prop
  | [] => True
  | [s] => s.1 < s.2.1
  | s :: t :: r => s.1 < s.2.1 ∧ s.2.1 = t.1 ∧ s.2.2 ≠ t.2.2 ∧ Cont (t :: r)
theorem cont_snoc : ∀ {l : List Sh} {x : Sh}, Cont (l ++ [x]) ↔ Cont l ∧ x.1 < x.2.1 ∧ ∀ y, l.getLast? = some y → y.2.1 = x.1 ∧ y.2.2 ≠ x.2.2
  | [], x => by simp [Cont]
  | [s], x => by
    show (s.1 < s.2.1 ∧ s.2.1 = x.1 ∧ s.2.2 ≠ x.2.2 ∧ x.1 < x.2.1) ↔ _
    simp [Cont]
    grind
  | s :: t :: r, x => by
    have ih := cont_snoc (l := t :: r) (x := x)
    show (s.1 < s.2.1 ∧ s.2.1 = t.1 ∧ s.2.2 ≠ t.2.2 ∧ Cont ((t :: r) ++ [x])) ↔ _
    rw [ih, List.getLast?_cons_cons]
    show _ ↔ (s.1 < s.2.1 ∧ s.2.1 = t.1 ∧ s.2.2 ≠ t.2.2 ∧ Cont (t :: r)) ∧ _
    constructor
    · rintro ⟨a, b, c, d, e, f⟩
      exact ⟨⟨a, b, c, d⟩, e, f⟩
    · rintro ⟨⟨a, b, c, d⟩, e, f⟩
      exact ⟨a, b, c, d, e, f⟩
theorem lsGo_cont (ss : List Sh) : ∀ (pts : List Rat) (acc : List Sh), pts.Pairwise (· < ·) → Cont acc → (∀ x, acc.getLast? = some x → ∀ lo r, pts = lo :: r → x.2.1 = lo) → Cont (lsGo ss acc pts)
  | [], acc, _, ha, _ => by unfold lsGo; exact ha
  | [_], acc, _, ha, _ => by unfold lsGo; exact ha
  | lo :: hi :: r, acc, hp, ha, hl => by
    have h1 := List.pairwise_cons.mp hp
    have hlt := h1.1 hi List.mem_cons_self
    refine lsGo_cont ss (hi :: r) (lsStep ss acc lo hi) h1.2 ?_ (fun x hx lo' r' e => ?_)
    · unfold lsStep
      split
      · rename_i x hx
        have el := hl x hx lo (hi :: r) rfl
        split
        · rename_i es
          have ea := getLast_split hx
          rw [ea, cont_snoc] at ha
          refine cont_snoc.mpr ⟨ha.1, ?_, fun y hy => ?_⟩
          · have := ha.2.1
            show x.1 < hi
            grind
          · obtain ⟨a, b⟩ := ha.2.2 y hy
            exact ⟨a, by rw [← es]; exact b⟩
        · rename_i es
          refine cont_snoc.mpr ⟨ha, hlt, fun y hy => ?_⟩
          rw [hx] at hy
          cases hy
          exact ⟨el, es⟩
      · rename_i hx
        refine cont_snoc.mpr ⟨ha, hlt, fun y hy => ?_⟩
        rw [hx] at hy
        cases hy
    · cases e
      unfold lsStep at hx
      split at hx
      · split at hx <;> simp at hx <;> rw [← hx]
      · simp at hx; rw [← hx]
inductive Can : List Sh → Prop
  | nil : Can []
  | cons {s : Sh} {r : List Sh} : s.1 < s.2.1 → s.2.2 ≠ 0 → (∀ t ∈ r, s.2.1 ≤ t.1) → (∀ t ∈ r, s.2.1 = t.1 → s.2.2 ≠ t.2.2) → Can r → Can (s :: r)
theorem cont_ge : ∀ {s : Sh} {r : List Sh}, Cont (s :: r) → ∀ t ∈ r, s.2.1 ≤ t.1
  | _, [], _ => by simp
  | s, u :: r, h => fun t ht => by
    obtain ⟨a, b, c, d⟩ := h
    rcases List.mem_cons.mp ht with rfl | ht
    · rw [b]; exact Rat.le_refl
    · have := cont_ge d t ht
      have hu : u.1 < u.2.1 := by
        cases r with
        | nil => exact d
        | cons v r => exact d.1
      grind
theorem cont_can : ∀ {l : List Sh}, Cont l → Can (l.filter fun s => !decide (s.2.2 = 0))
  | [], _ => .nil
  | s :: r, h => by
    have hs : s.1 < s.2.1 := by
      cases r with
      | nil => exact h
      | cons t r => exact h.1
    have hr : Cont r := by
      cases r with
      | nil => trivial
      | cons t r => exact h.2.2.2
    have ih := cont_can hr
    have hg := cont_ge h
    rw [List.filter_cons]
    split
    · rename_i h0
      have h0 : s.2.2 ≠ 0 := by simpa using h0
      refine .cons hs h0 (fun t ht => hg t (List.mem_filter.mp ht).1) (fun t ht e => ?_) ih
      have htr := (List.mem_filter.mp ht).1
      cases r with
      | nil => simp at htr
      | cons u r =>
        rcases List.mem_cons.mp htr with rfl | h2
        · exact h.2.2.1
        · exfalso
          have a := cont_ge h.2.2.2 t h2
          have hu : u.1 < u.2.1 := by
            cases r with
            | nil => exact hr
            | cons v r => exact hr.1
          have := h.2.1
          grind
    · exact ih
theorem lsOf_can (ss : List Sh) : Can (lsOf ss) := cont_can (lsGo_cont ss _ [] (asc_sorted _) trivial (by simp))
theorem Can.le {l : List Sh} (h : Can l) : ∀ s ∈ l, s.1 ≤ s.2.1 := by
  induction h with
  | nil => simp
  | cons a b c d e ih =>
    intro s hs
    rcases List.mem_cons.mp hs with rfl | hs
    · exact Rat.le_of_lt a
    · exact ih s hs
/-- a rule's parts, and their sizes -/
structure Rl (lo hi : Rat) (ws : List Wt) (ss : List Sh) (k n : Nat) : Prop where
  l : Ht lo k
  h : Ht hi k
  lt : lo < hi
  w : ∀ w ∈ ws, Ht w.1 k ∧ Ht w.2 k ∧ lo ≤ w.1 ∧ w.1 ≤ hi
  s : ∀ s ∈ ss, Ht s.1 k ∧ Ht s.2.1 k ∧ Ht s.2.2 k ∧ lo ≤ s.1 ∧ s.1 < s.2.1 ∧ s.2.1 ≤ hi
  wl : ws.length ≤ n
  sl : ss.length ≤ n
theorem Rl.le {lo hi : Rat} {ws : List Wt} {ss : List Sh} {k n : Nat} (r : Rl lo hi ws ss k n) : ∀ s ∈ ss, s.1 ≤ s.2.1 := fun s hs => Rat.le_of_lt (r.s s hs).2.2.2.2.1
theorem Rl.up {lo hi : Rat} {ws : List Wt} {ss : List Sh} {k n k' n' : Nat} (r : Rl lo hi ws ss k n) (hk : k ≤ k') (hn : n ≤ n') : Rl lo hi ws ss k' n' :=
  ⟨r.l.up hk, r.h.up hk, r.lt, fun w hw => ⟨(r.w w hw).1.up hk, (r.w w hw).2.1.up hk, (r.w w hw).2.2⟩, fun s hs => ⟨(r.s s hs).1.up hk, (r.s s hs).2.1.up hk, (r.s s hs).2.2.1.up hk, (r.s s hs).2.2.2⟩, Nat.le_trans r.wl hn, Nat.le_trans r.sl hn⟩
end Bk
namespace Bk
open PySem L2
/-- turns that draw, counted -/
theorem xlcL_exm {tg : D → Gam → Option Gam} {e : M R} {vs : List Nat} (Inv : Nat → Gam → Prop) (Qd : D → Prop) (N : Nat) : ∀ {ds : List D} {n : Nat} {G : Gam}, Inv n G → (∀ d ∈ ds, ∀ n, n < N → ∀ G, Inv n G → ∃ G1 r G2, tg d G = some G1 ∧ e G1 = some (r, G2) ∧ Qd r.d ∧ Inv (n + 1) (wipeG G2 vs)) → n + ds.length ≤ N →
    ∃ out G', xlcL tg xtyes e vs ds G = some (out, G') ∧ Inv (n + ds.length) G' ∧ (∀ d ∈ out, Qd d) ∧ out.length = ds.length
  | [], n, G, h, _, _ => ⟨[], G, rfl, h, (by simp), rfl⟩
  | d :: ds, n, G, h, hs, hn => by
    rw [List.length_cons] at hn
    obtain ⟨G1, r, G2, h1, h2, h3, h4⟩ := hs d List.mem_cons_self n (by omega) G h
    obtain ⟨out, G', i1, i2, i3, i4⟩ := xlcL_exm (tg := tg) (e := e) (vs := vs) Inv Qd N h4 (fun z hz => hs z (List.mem_cons_of_mem _ hz)) (by omega)
    refine ⟨r.d :: out, G', ?_, by rw [List.length_cons, show n + (ds.length + 1) = n + 1 + ds.length by omega]; exact i2, fun z hz => ?_, by rw [List.length_cons, i4, List.length_cons]⟩
    · unfold xlcL
      rw [h1]
      simp only [bd_some, xtyes, if_true, h2]
      have i1' := i1
      unfold xtyes at i1'
      first
        | rw [i1']; rfl
        | rw [i1]; rfl
    · rcases List.mem_cons.mp hz with rfl | hz
      · exact h3
      · exact i3 z hz
end Bk
namespace Bk
open PySem L2
theorem Can.lt {l : List Sh} (h : Can l) : ∀ s ∈ l, s.1 < s.2.1 := by
  induction h with
  | nil => simp
  | cons a b c d e ih => intro s hs; rcases List.mem_cons.mp hs with rfl | hs; exact a; exact ih s hs
theorem Dv.le {D B : Nat} {q : Rat} (h : Dv D B q) : D ≠ 0 := h.1
theorem Dv.sumF {D B : Nat} (hD : D ≠ 0) {l : List Rat} {n : Nat} (h : ∀ q ∈ l, Dv D B q) (hn : l.length ≤ n) : Dv D (n * B) (sumQ l) := (Dv.sum hD h).up (Nat.mul_le_mul hn (Nat.le_refl _))
structure Rw (lo hi : Rat) (ws : List Wt) (ss : List Sh) (DP BP DW BW n m : Nat) : Prop where
  lt : lo < hi
  l : Dv DP BP lo
  h : Dv DP BP hi
  w : ∀ w ∈ ws, Dv DP BP w.1 ∧ Dv DW BW w.2 ∧ lo ≤ w.1 ∧ w.1 ≤ hi
  s : ∀ s ∈ ss, Dv DP BP s.1 ∧ Dv DP BP s.2.1 ∧ Dv DW BW s.2.2 ∧ lo ≤ s.1 ∧ s.1 < s.2.1 ∧ s.2.1 ≤ hi
  wl : ws.length ≤ n
  sl : ss.length ≤ m
  dw : DW ≠ 0
section
variable {lo hi : Rat} {ws ws' : List Wt} {ss ss' : List Sh} {DP BP DW BW n m n' m' : Nat}
theorem Rw.le (r : Rw lo hi ws ss DP BP DW BW n m) : ∀ s ∈ ss, s.1 ≤ s.2.1 := fun s hs => Rat.le_of_lt (r.s s hs).2.2.2.2.1
theorem Rw.wAt (r : Rw lo hi ws ss DP BP DW BW n m) (p : Rat) : Dv DW (n * BW) (wAt ws p) := by
  unfold Bk.wAt
  refine Dv.sumF r.dw (fun q hq => ?_) ?_
  · obtain ⟨w, hw, rfl⟩ := List.mem_map.mp hq
    exact (r.w w (List.mem_filter.mp hw).1).2.1
  · rw [List.length_map]
    exact Nat.le_trans (List.length_filter_le _ _) r.wl
theorem Rw.sAt (r : Rw lo hi ws ss DP BP DW BW n m) (a b : Rat) : Dv DW (m * BW) (sAt ss a b) := by
  unfold Bk.sAt
  refine Dv.sumF r.dw (fun q hq => ?_) ?_
  · obtain ⟨w, hw, rfl⟩ := List.mem_map.mp hq
    exact (r.s w (List.mem_filter.mp hw).1).2.2.1
  · rw [List.length_map]
    exact Nat.le_trans (List.length_filter_le _ _) r.sl
theorem Rw.up (r : Rw lo hi ws ss DP BP DW BW n m) {BP' BW' N M : Nat} (h1 : BP ≤ BP') (h2 : BW ≤ BW') (h3 : n ≤ N) (h4 : m ≤ M) : Rw lo hi ws ss DP BP' DW BW' N M :=
  ⟨r.lt, r.l.up h1, r.h.up h1, fun w hw => ⟨(r.w w hw).1.up h1, (r.w w hw).2.1.up h2, (r.w w hw).2.2⟩, fun s hs => by
    obtain ⟨a, b, c, d⟩ := r.s s hs
    exact ⟨a.up h1, b.up h1, c.up h2, d⟩, Nat.le_trans r.wl h3, Nat.le_trans r.sl h4, r.dw⟩
theorem Rw.nil (h : lo < hi) (h1 : Dv DP BP lo) (h2 : Dv DP BP hi) (h3 : DW ≠ 0) : Rw lo hi [] [] DP BP DW BW 0 0 := ⟨h, h1, h2, by simp, by simp, Nat.le_refl _, Nat.le_refl _, h3⟩
theorem Rw.app (r : Rw lo hi ws ss DP BP DW BW n m) (r' : Rw lo hi ws' ss' DP BP DW BW n' m') : Rw lo hi (ws ++ ws') (ss ++ ss') DP BP DW BW (n + n') (m + m') :=
  ⟨r.lt, r.l, r.h, fun w hw => (List.mem_append.mp hw).elim (r.w w) (r'.w w), fun s hs => (List.mem_append.mp hs).elim (r.s s) (r'.s s), by rw [List.length_append]; exact Nat.add_le_add r.wl r'.wl, by rw [List.length_append]; exact Nat.add_le_add r.sl r'.sl, r.dw⟩
def scW (f : Rat) (ws : List Wt) : List Wt := ws.map fun w => (w.1, w.2 * f)
def scS (f : Rat) (ss : List Sh) : List Sh := ss.map fun s => (s.1, s.2.1, s.2.2 * f)
theorem Rw.sc (r : Rw lo hi ws ss DP BP DW BW n m) {F G : Nat} {f : Rat} (hf : Dv F G f) : Rw lo hi (scW f ws) (scS f ss) DP BP (DW * F) (BW * G) n m := by
  refine ⟨r.lt, r.l, r.h, fun w hw => ?_, fun s hs => ?_, by unfold scW; rw [List.length_map]; exact r.wl, by unfold scS; rw [List.length_map]; exact r.sl, Nat.mul_ne_zero r.dw hf.1⟩
  · obtain ⟨v, hv, rfl⟩ := List.mem_map.mp hw
    exact ⟨(r.w v hv).1, (r.w v hv).2.1.mul hf, (r.w v hv).2.2⟩
  · obtain ⟨v, hv, rfl⟩ := List.mem_map.mp hs
    obtain ⟨a, b, c, d⟩ := r.s v hv
    exact ⟨a, b, c.mul hf, d⟩
theorem WE.sc {a b : List Wt} (h : WE a b) (f : Rat) : WE (scW f a) (scW f b) := by
  have := h.map (fun x => x) f
  have e : ∀ l : List Wt, (l.map fun w => (w.1, f * w.2)) = scW f l := fun l => by
    unfold scW
    refine List.map_congr_left fun w _ => ?_
    rw [Rat.mul_comm]
  rw [e, e] at this
  exact this
theorem SE.sc {a b : List Sh} (h : SE a b) (f : Rat) : SE (scS f a) (scS f b) := by
  have := h.map (fun x => x) f
  have e : ∀ l : List Sh, (l.map fun s => (s.1, s.2.1, f * s.2.2)) = scS f l := fun l => by
    unfold scS
    refine List.map_congr_left fun w _ => ?_
    rw [Rat.mul_comm]
  rw [e, e] at this
  exact this
def lpt (lo fi q p : Rat) : Rat := fi + (p - lo) * q
def ldW (lo fi q : Rat) (ws : List Wt) : List Wt := ws.map fun w => (lpt lo fi q w.1, w.2)
def ldS (lo fi q : Rat) (ss : List Sh) : List Sh := ss.map fun s => (lpt lo fi q s.1, lpt lo fi q s.2.1, s.2.2 / q)
theorem WE.ld {a b : List Wt} (h : WE a b) (lo fi q : Rat) : WE (ldW lo fi q a) (ldW lo fi q b) := by
  have := h.map (lpt lo fi q) 1
  have e : ∀ l : List Wt, (l.map fun w => (lpt lo fi q w.1, 1 * w.2)) = ldW lo fi q l := fun l => by
    unfold ldW
    refine List.map_congr_left fun w _ => ?_
    rw [Rat.one_mul]
  rw [e, e] at this
  exact this
theorem SE.ld {a b : List Sh} (h : SE a b) (lo fi q : Rat) : SE (ldS lo fi q a) (ldS lo fi q b) := by
  have := h.map (lpt lo fi q) q⁻¹
  have e : ∀ l : List Sh, (l.map fun s => (lpt lo fi q s.1, lpt lo fi q s.2.1, q⁻¹ * s.2.2)) = ldS lo fi q l := fun l => by
    unfold ldS
    refine List.map_congr_left fun w _ => ?_
    rw [Rat.div_def, Rat.mul_comm]
  rw [e, e] at this
  exact this
theorem lpt_lt {lo fi q a b : Rat} (hq : 0 < q) (h : a < b) : lpt lo fi q a < lpt lo fi q b := by
  unfold lpt
  have : 0 < (b - a) * q := Rat.mul_pos (by grind) hq
  grind
theorem lpt_le {lo fi q a b : Rat} (hq : 0 < q) (h : a ≤ b) : lpt lo fi q a ≤ lpt lo fi q b := by
  unfold lpt
  have : 0 ≤ (b - a) * q := Rat.mul_nonneg (by grind) (Rat.le_of_lt hq)
  grind
/-- one of so many -/
def qM (M : Nat) : Rat := 1 / ((M : Int) : Rat)
theorem mne {M : Nat} (h : 0 < M) : ((M : Int) : Rat) ≠ 0 := natR_ne (by omega)
theorem qM_pos {M : Nat} (h : 0 < M) : 0 < qM M := by
  unfold qM
  rw [Rat.div_def, Rat.one_mul]
  exact Rat.inv_pos.mpr (Rat.intCast_lt_intCast.mpr (by omega : (0 : Int) < (M : Int)))
theorem qM_mul {M : Nat} (h : 0 < M) : qM M * ((M : Int) : Rat) = 1 := by
  unfold qM
  exact Rat.div_mul_cancel (mne h)
theorem div_qM {M : Nat} (h : 0 < M) (x : Rat) : x / qM M = x * ((M : Int) : Rat) := by
  have h1 := qM_mul h
  have h2 : qM M ≠ 0 := by have := qM_pos h; grind
  have h3 := Rat.div_mul_cancel (a := x) h2
  have : x / qM M * (qM M * ((M : Int) : Rat)) = x * ((M : Int) : Rat) := by rw [← Rat.mul_assoc, h3]
  rw [h1, Rat.mul_one] at this
  exact this
theorem div_M {M : Nat} (x : Rat) : x / ((M : Int) : Rat) = x * qM M := by
  unfold qM
  rw [Rat.div_def, Rat.div_def, Rat.one_mul]
def wide (lo hi : Rat) (M : Nat) : Rat := (hi - lo) / ((M : Int) : Rat)
def stt (lo hi : Rat) (M i : Nat) : Rat := lo + wide lo hi M * ((i : Int) : Rat)
theorem wide_eq (lo hi : Rat) (M : Nat) : wide lo hi M = (hi - lo) * qM M := div_M _
theorem wide_all {M : Nat} (h : 0 < M) (lo hi : Rat) : wide lo hi M * ((M : Int) : Rat) = hi - lo := by
  rw [wide_eq, Rat.mul_assoc, qM_mul h, Rat.mul_one]
theorem wide_pos {M : Nat} (h : lo < hi) (hM : 0 < M) : 0 < wide lo hi M := by
  rw [wide_eq]
  exact Rat.mul_pos (by grind) (qM_pos hM)
theorem stt_in {M i : Nat} (h : lo < hi) (hM : 0 < M) (hi' : i < M) : lo ≤ stt lo hi M i ∧ stt lo hi M i + wide lo hi M ≤ hi := by
  have w0 := wide_pos h hM
  have wa := wide_all hM lo hi
  unfold stt
  have i0 : 0 ≤ wide lo hi M * ((i : Int) : Rat) := Rat.mul_nonneg (Rat.le_of_lt w0) (Rat.intCast_le_intCast.mpr (by omega : (0 : Int) ≤ (i : Int)))
  have i1 : 0 ≤ wide lo hi M * (((M : Int) : Rat) - (((i : Int) : Rat) + 1)) := by
    refine Rat.mul_nonneg (Rat.le_of_lt w0) ?_
    have : (((i : Int) + 1 : Int) : Rat) ≤ ((M : Int) : Rat) := Rat.intCast_le_intCast.mpr (by omega)
    rw [Rat.intCast_add] at this
    have e : ((1 : Int) : Rat) = 1 := rfl
    rw [e] at this
    grind
  constructor
  · grind
  · grind
def pW (lo hi : Rat) (M : Nat) (ws : List Wt) (i : Nat) : List Wt := ldW lo (stt lo hi M i) (qM M) ws
def pS (lo hi : Rat) (M : Nat) (ss : List Sh) (i : Nat) : List Sh := ldS lo (stt lo hi M i) (qM M) ss
def gW (lo hi : Rat) (M : Nat) (ws : List Wt) : Nat → List Wt
  | 0 => []
  | j + 1 => gW lo hi M ws j ++ pW lo hi M ws j
def gS (lo hi : Rat) (M : Nat) (ss : List Sh) : Nat → List Sh
  | 0 => []
  | j + 1 => gS lo hi M ss j ++ pS lo hi M ss j
def fW (lo hi : Rat) (M : Nat) (ws : List Wt) : List Wt := scW (qM M) (gW lo hi M ws M)
def fS (lo hi : Rat) (M : Nat) (ss : List Sh) : List Sh := scS (qM M) (gS lo hi M ss M)
theorem WE.g {a b : List Wt} (h : WE a b) (lo hi : Rat) (M : Nat) : ∀ j : Nat, WE (gW lo hi M a j) (gW lo hi M b j)
  | 0 => WE.refl _
  | j + 1 => (WE.g h lo hi M j).app (h.ld _ _ _)
theorem SE.g {a b : List Sh} (h : SE a b) (lo hi : Rat) (M : Nat) : ∀ j : Nat, SE (gS lo hi M a j) (gS lo hi M b j)
  | 0 => SE.refl _
  | j + 1 => (SE.g h lo hi M j).app (h.ld _ _ _)
theorem WE.f {a b : List Wt} (h : WE a b) (lo hi : Rat) (M : Nat) : WE (fW lo hi M a) (fW lo hi M b) := (h.g lo hi M M).sc _
theorem SE.f {a b : List Sh} (h : SE a b) (lo hi : Rat) (M : Nat) : SE (fS lo hi M a) (fS lo hi M b) := (h.g lo hi M M).sc _
theorem dvd60 {M : Nat} (h : 0 < M) (h6 : M ≤ 6) : (M : Int) ∣ ((60 : Nat) : Int) := by
  have : M = 1 ∨ M = 2 ∨ M = 3 ∨ M = 4 ∨ M = 5 ∨ M = 6 := by omega
  rcases this with rfl | rfl | rfl | rfl | rfl | rfl <;> decide
theorem Dv.intm {D B : Nat} {q : Rat} (h : Dv D B q) (i : Nat) {I : Nat} (hi : i ≤ I) : Dv D (B * I) (q * ((i : Int) : Rat)) := by
  have : Dv 1 I ((i : Int) : Rat) := ⟨by decide, i, by rw [show (((1 : Nat) : Int) : Rat) = 1 from rfl, Rat.mul_one], by omega⟩
  have := h.mul this
  rwa [Nat.mul_one] at this
theorem Rw.pt (r : Rw lo hi ws ss DP BP DW BW n m) {M i : Nat} (hM : 0 < M) (h6 : M ≤ 6) (hi' : i < M) {p : Rat} (hp : Dv DP BP p) : Dv (DP * 60) (BP * 900) (lpt lo (stt lo hi M i) (qM M) p) := by
  have e : lpt lo (stt lo hi M i) (qM M) p = lo + ((hi - lo) * ((i : Int) : Rat) + (p - lo)) / ((M : Int) : Rat) := by
    unfold lpt stt
    rw [wide_eq, div_M]
    grind
  have a := ((((r.h.sub r.l).intm i (I := 6) (by omega)).add (hp.sub r.l)).part (M := 60) (by decide) (m := (M : Int)) (by omega) (dvd60 hM h6))
  have b := r.l.scale (m := 60) (by decide)
  rw [e]
  refine (b.add a).up ?_
  omega
theorem Rw.p (r : Rw lo hi ws ss DP BP DW BW n m) {M i : Nat} (hM : 0 < M) (h6 : M ≤ 6) (hi' : i < M) : Rw lo hi (pW lo hi M ws i) (pS lo hi M ss i) (DP * 60) (BP * 900) DW (BW * 6) n m := by
  have q0 := qM_pos hM
  obtain ⟨s1, s2⟩ := stt_in r.lt hM hi'
  have elo : lpt lo (stt lo hi M i) (qM M) lo = stt lo hi M i := by unfold lpt; grind
  have ehi : lpt lo (stt lo hi M i) (qM M) hi = stt lo hi M i + wide lo hi M := by unfold lpt; rw [wide_eq]
  have inn : ∀ p, lo ≤ p → p ≤ hi → lo ≤ lpt lo (stt lo hi M i) (qM M) p ∧ lpt lo (stt lo hi M i) (qM M) p ≤ hi := fun p h1 h2 => by
    have a := lpt_le (lo := lo) (fi := stt lo hi M i) q0 h1
    have b := lpt_le (lo := lo) (fi := stt lo hi M i) q0 h2
    rw [elo] at a
    rw [ehi] at b
    constructor <;> grind
  refine ⟨r.lt, (r.l.scale (m := 60) (by decide)).up (by omega), (r.h.scale (m := 60) (by decide)).up (by omega), fun w hw => ?_, fun s hs => ?_, by unfold pW ldW; rw [List.length_map]; exact r.wl, by unfold pS ldS; rw [List.length_map]; exact r.sl, r.dw⟩
  · obtain ⟨v, hv, rfl⟩ := List.mem_map.mp hw
    obtain ⟨a, b, c, d⟩ := r.w v hv
    exact ⟨r.pt hM h6 hi' a, b.up (by omega), inn _ c d⟩
  · obtain ⟨v, hv, rfl⟩ := List.mem_map.mp hs
    obtain ⟨a, b, c, d, e, f⟩ := r.s v hv
    refine ⟨r.pt hM h6 hi' a, r.pt hM h6 hi' b, ?_, (inn _ d (by grind)).1, lpt_lt q0 e, (inn _ (by grind) f).2⟩
    show Dv DW (BW * 6) (v.2.2 / qM M)
    rw [div_qM hM]
    exact c.intm M h6
theorem Rw.g (r : Rw lo hi ws ss DP BP DW BW n m) {M : Nat} (hM : 0 < M) (h6 : M ≤ 6) : ∀ j : Nat, j ≤ M → Rw lo hi (gW lo hi M ws j) (gS lo hi M ss j) (DP * 60) (BP * 900) DW (BW * 6) (n * j) (m * j)
  | 0, _ => Rw.nil r.lt ((r.l.scale (m := 60) (by decide)).up (by omega)) ((r.h.scale (m := 60) (by decide)).up (by omega)) r.dw
  | j + 1, h => (r.g hM h6 j (by omega)).app (r.p hM h6 (by omega))
theorem Dv.q {M : Nat} (hM : 0 < M) (h6 : M ≤ 6) : Dv 60 60 (qM M) := by
  have := Dv.one.part (M := 60) (by decide) (m := (M : Int)) (by omega) (dvd60 hM h6)
  exact this
theorem Rw.f (r : Rw lo hi ws ss DP BP DW BW n m) {M : Nat} (hM : 0 < M) (h6 : M ≤ 6) : Rw lo hi (fW lo hi M ws) (fS lo hi M ss) (DP * 60) (BP * 900) (DW * 60) (BW * 6 * 60) (n * M) (m * M) := (r.g hM h6 M (Nat.le_refl _)).sc (Dv.q hM h6)
end
end Bk
namespace Bk
def pD0 (i : Nat) : List Rat → List Rat
  | [] => []
  | c :: l => c * ((i : Int) : Rat) :: pD0 (i + 1) l
def pDv : List Rat → List Rat
  | [] => []
  | _ :: l => pD0 1 l
def pAdd : List Rat → List Rat → List Rat
  | a :: A, b :: B => (a + b) :: pAdd A B
  | [], B => B
  | A, [] => A
theorem horC (c : Rat) (l : List Rat) (x : Rat) : hor (c :: l) x = hor l x * x + c := rfl
theorem pAdd_nilR (A : List Rat) : pAdd A [] = A := by cases A <;> rfl
theorem hor_pAdd (x : Rat) : ∀ A B : List Rat, hor (pAdd A B) x = hor A x + hor B x
  | a :: A, b :: B => by
    show hor (pAdd A B) x * x + (a + b) = (hor A x * x + a) + (hor B x * x + b)
    rw [hor_pAdd x A B]
    grind
  | [], B => by show hor B x = 0 + hor B x; grind
  | a :: A, [] => by show hor (a :: A) x = hor (a :: A) x + 0; grind
theorem pD0_add : ∀ (A B : List Rat) (i : Nat), pD0 i (pAdd A B) = pAdd (pD0 i A) (pD0 i B)
  | a :: A, b :: B, i => by
    show (a + b) * _ :: pD0 (i + 1) (pAdd A B) = (a * _ + b * _) :: pAdd (pD0 (i + 1) A) (pD0 (i + 1) B)
    rw [pD0_add A B (i + 1)]
    congr 1
    grind
  | [], B, i => rfl
  | a :: A, [], i => by
    show pD0 i (a :: A) = pAdd (pD0 i (a :: A)) []
    rw [pAdd_nilR]
theorem hor_pD0 (x : Rat) : ∀ (l : List Rat) (i : Nat), hor (pD0 (i + 1) l) x = hor (pD0 i l) x + hor l x
  | [], i => by show (0 : Rat) = 0 + 0; grind
  | c :: l, i => by
    show hor (pD0 (i + 1 + 1) l) x * x + c * (((i + 1 : Nat) : Int) : Rat) = (hor (pD0 (i + 1) l) x * x + c * ((i : Int) : Rat)) + (hor l x * x + c)
    rw [hor_pD0 x l (i + 1), Int.natCast_add, Rat.intCast_add]
    show _ + c * (((i : Int) : Rat) + 1) = _
    grind
theorem hor_pD0_0 (x : Rat) : ∀ l : List Rat, hor (pD0 0 l) x = hor (pDv l) x * x
  | [] => by show (0 : Rat) = 0 * x; grind
  | c :: l => by
    show hor (pD0 1 l) x * x + c * (((0 : Nat) : Int) : Rat) = hor (pD0 1 l) x * x
    rw [show (((0 : Nat) : Int) : Rat) = 0 from rfl]
    grind
theorem hor_pD1 (x : Rat) (l : List Rat) : hor (pD0 1 l) x = hor l x + hor (pDv l) x * x := by
  rw [hor_pD0 x l 0, hor_pD0_0]
  grind
theorem hor_map (z x : Rat) : ∀ l : List Rat, hor (l.map fun a => z * a) x = z * hor l x
  | [] => by show (0 : Rat) = z * 0; grind
  | c :: l => by
    show hor (l.map fun a => z * a) x * x + z * c = z * (hor l x * x + c)
    rw [hor_map z x l]
    grind
theorem pD0_map (z : Rat) : ∀ (l : List Rat) (i : Nat), pD0 i (l.map fun a => z * a) = (pD0 i l).map fun a => z * a
  | [], i => rfl
  | c :: l, i => by
    show z * c * _ :: pD0 (i + 1) (l.map fun a => z * a) = z * (c * _) :: (pD0 (i + 1) l).map fun a => z * a
    rw [pD0_map z l (i + 1)]
    congr 1
    grind
theorem pD0_len : ∀ (l : List Rat) (i : Nat), (pD0 i l).length = l.length
  | [], _ => rfl
  | c :: l, i => by show (pD0 (i + 1) l).length + 1 = _; rw [pD0_len l (i + 1)]; rfl
theorem pDv_len (l : List Rat) : (pDv l).length = l.length - 1 := by
  cases l with
  | nil => rfl
  | cons c l => show (pD0 1 l).length = _; rw [pD0_len]; simp
theorem area_pDv (x : Rat) : ∀ F : List Rat, hor (areaP (pDv F)) x = hor F x - hor F 0
  | [] => by show (0 : Rat) * x + 0 = 0 - 0; grind
  | c :: l => by
    have key : ∀ (l : List Rat) (i : Nat), apow i (pD0 (i + 1) l) = l := fun l => by
      induction l with
      | nil => intro i; rfl
      | cons a l ih =>
        intro i
        show a * (((i + 1 : Nat) : Int) : Rat) / (((i : Int) + 1 : Int) : Rat) :: apow (i + 1) (pD0 (i + 1 + 1) l) = a :: l
        rw [ih (i + 1)]
        congr 1
        exact Rat.mul_div_cancel (natR_ne (by omega))
    show hor (apow 0 (pD0 1 l)) x * x + 0 = (hor l x * x + c) - (hor l 0 * 0 + c)
    rw [key l 0]
    grind
def mom (W : List Wt) (S : List Sh) (d : Nat) : Rat := tol W S (List.replicate d 0 ++ [1])
theorem tol_zeros (W : List Wt) (S : List Sh) : ∀ d : Nat, tol W S (List.replicate d 0) = 0 := fun d => by
  have h0 : ∀ (d : Nat) (x : Rat), hor (List.replicate d 0) x = 0 := fun d x => by
    induction d with
    | zero => rfl
    | succ d ih => show hor (List.replicate d 0) x * x + 0 = 0; rw [ih]; grind
  have h1 : ∀ (d i : Nat), apow i (List.replicate d 0) = List.replicate d 0 := fun d => by
    induction d with
    | zero => intro i; rfl
    | succ d ih =>
      intro i
      show (0 : Rat) / _ :: apow (i + 1) (List.replicate d 0) = 0 :: List.replicate d 0
      rw [ih, Rat.div_def, Rat.zero_mul]
  have h2 : ∀ x : Rat, hor (areaP (List.replicate d 0)) x = 0 := fun x => by
    show hor (apow 0 (List.replicate d 0)) x * x + 0 = 0
    rw [h1, h0]
    grind
  unfold tol wval sval
  rw [show (sumM W fun w => w.2 * hor (List.replicate d 0) w.1) = sumM W fun _ => 0 from sumM_congr fun w _ => by rw [h0]; grind, show (sumM S fun s => s.2.2 * (hor (areaP (List.replicate d 0)) s.2.1 - hor (areaP (List.replicate d 0)) s.1)) = sumM S fun _ => 0 from sumM_congr fun s _ => by rw [h2, h2]; grind, sumM_zero, sumM_zero]
  grind
theorem apow_add : ∀ (A B : List Rat) (i : Nat), apow i (pAdd A B) = pAdd (apow i A) (apow i B)
  | a :: A, b :: B, i => by
    show (a + b) / _ :: apow (i + 1) (pAdd A B) = (a / _ + b / _) :: pAdd (apow (i + 1) A) (apow (i + 1) B)
    rw [apow_add A B (i + 1)]
    congr 1
    rw [Rat.div_def, Rat.div_def, Rat.div_def]
    grind
  | [], B, i => rfl
  | a :: A, [], i => by
    show apow i (a :: A) = pAdd (apow i (a :: A)) []
    rw [pAdd_nilR]
theorem tol_add (W : List Wt) (S : List Sh) (A B : List Rat) : tol W S (pAdd A B) = tol W S A + tol W S B := by
  have h : ∀ x : Rat, hor (areaP (pAdd A B)) x = hor (areaP A) x + hor (areaP B) x := fun x => by
    show hor (apow 0 (pAdd A B)) x * x + 0 = (hor (apow 0 A) x * x + 0) + (hor (apow 0 B) x * x + 0)
    rw [apow_add, hor_pAdd]
    grind
  unfold tol wval sval
  rw [show (sumM W fun w => w.2 * hor (pAdd A B) w.1) = sumM W fun w => w.2 * hor A w.1 + w.2 * hor B w.1 from sumM_congr fun w _ => by rw [hor_pAdd]; grind, show (sumM S fun s => s.2.2 * (hor (areaP (pAdd A B)) s.2.1 - hor (areaP (pAdd A B)) s.1)) = sumM S fun s => s.2.2 * (hor (areaP A) s.2.1 - hor (areaP A) s.1) + s.2.2 * (hor (areaP B) s.2.1 - hor (areaP B) s.1) from sumM_congr fun s _ => by rw [h, h]; grind, sumM_add, sumM_add]
  grind
theorem apow_map (z : Rat) : ∀ (l : List Rat) (i : Nat), apow i (l.map fun a => z * a) = (apow i l).map fun a => z * a
  | [], i => rfl
  | c :: l, i => by
    show z * c / _ :: apow (i + 1) (l.map fun a => z * a) = z * (c / _) :: (apow (i + 1) l).map fun a => z * a
    rw [apow_map z l (i + 1)]
    congr 1
    rw [Rat.div_def, Rat.div_def]
    grind
theorem tol_map (W : List Wt) (S : List Sh) (z : Rat) (A : List Rat) : tol W S (A.map fun a => z * a) = z * tol W S A := by
  have h : ∀ x : Rat, hor (areaP (A.map fun a => z * a)) x = z * hor (areaP A) x := fun x => by
    show hor (apow 0 (A.map fun a => z * a)) x * x + 0 = z * (hor (apow 0 A) x * x + 0)
    rw [apow_map, hor_map]
    grind
  unfold tol wval sval
  rw [show (sumM W fun w => w.2 * hor (A.map fun a => z * a) w.1) = sumM W fun w => z * (w.2 * hor A w.1) from sumM_congr fun w _ => by rw [hor_map]; grind, show (sumM S fun s => s.2.2 * (hor (areaP (A.map fun a => z * a)) s.2.1 - hor (areaP (A.map fun a => z * a)) s.1)) = sumM S fun s => z * (s.2.2 * (hor (areaP A) s.2.1 - hor (areaP A) s.1)) from sumM_congr fun s _ => by rw [h, h]; grind, sumM_mul, sumM_mul]
  grind
/-- a polynomial is told by its powers -/
theorem tol_pow (W : List Wt) (S : List Sh) {D : Nat} (h : ∀ d, d < D → mom W S d = 0) : ∀ (l : List Rat) (i : Nat), i + l.length ≤ D → tol W S (List.replicate i 0 ++ l) = 0
  | [], i, _ => by rw [List.append_nil]; exact tol_zeros W S i
  | c :: l, i, hl => by
    rw [List.length_cons] at hl
    have ih := tol_pow W S h l (i + 1) (by omega)
    have e : List.replicate i 0 ++ c :: l = pAdd ((List.replicate i (0 : Rat) ++ [1]).map fun a => c * a) (List.replicate (i + 1) 0 ++ l) := by
      have key : ∀ i : Nat, pAdd ((List.replicate i (0 : Rat) ++ [1]).map fun a => c * a) (List.replicate (i + 1) 0 ++ l) = List.replicate i 0 ++ c :: l := fun i => by
        induction i with
        | zero =>
          show (c * 1 + 0) :: l = c :: l
          congr 1
          grind
        | succ i ih =>
          show (c * 0 + 0) :: pAdd ((List.replicate i (0 : Rat) ++ [1]).map fun a => c * a) (List.replicate (i + 1) 0 ++ l) = 0 :: (List.replicate i 0 ++ c :: l)
          rw [ih]
          congr 1
          grind
      exact (key i).symm
    rw [e, tol_add, tol_map, ih]
    have := h i (by omega)
    unfold mom at this
    rw [this]
    grind
end Bk
namespace Bk
open PySem L2
theorem pAdd_le : ∀ {A B : List Rat} {n : Nat}, A.length ≤ n → B.length ≤ n → (pAdd A B).length ≤ n
  | a :: A, b :: B, n, h, h' => by
    rw [List.length_cons] at h h'
    obtain ⟨m, rfl⟩ : ∃ m, n = m + 1 := ⟨n - 1, by omega⟩
    have := pAdd_le (A := A) (B := B) (n := m) (by omega) (by omega)
    show (pAdd A B).length + 1 ≤ m + 1
    omega
  | [], B, n, _, h' => h'
  | a :: A, [], n, h, _ => by rw [pAdd_nilR]; exact h
theorem hor_dAdd (x : Rat) (A B : List Rat) : hor (pDv (pAdd A B)) x = hor (pDv A) x + hor (pDv B) x := by
  cases A with
  | nil => show hor (pDv B) x = 0 + _; grind
  | cons a A =>
    cases B with
    | nil => rw [pAdd_nilR]; show _ = _ + 0; grind
    | cons b B =>
      show hor (pD0 1 (pAdd A B)) x = hor (pD0 1 A) x + hor (pD0 1 B) x
      rw [pD0_add, hor_pAdd]
theorem hor_dMap (z x : Rat) (L : List Rat) : hor (pDv (L.map fun a => z * a)) x = z * hor (pDv L) x := by
  cases L with
  | nil => show (0 : Rat) = z * 0; grind
  | cons a l =>
    show hor (pD0 1 (l.map fun a => z * a)) x = z * hor (pD0 1 l) x
    rw [pD0_map, hor_map]
def pCo (f b : Rat) : List Rat → List Rat
  | [] => []
  | c :: l => pAdd [c] (pAdd ((0 :: pCo f b l).map fun a => f * a) ((pCo f b l).map fun a => b * a))
theorem pCo_len (f b : Rat) : ∀ l : List Rat, (pCo f b l).length ≤ l.length
  | [] => Nat.le_refl _
  | c :: l => by
    have := pCo_len f b l
    exact pAdd_le (by simp) (pAdd_le (by simp; omega) (by simp; omega))
theorem hor_pCo (f b x : Rat) : ∀ l : List Rat, hor (pCo f b l) x = hor l (f * x + b)
  | [] => rfl
  | c :: l => by
    show hor (pAdd [c] (pAdd ((0 :: pCo f b l).map fun a => f * a) ((pCo f b l).map fun a => b * a))) x = hor l (f * x + b) * (f * x + b) + c
    have e0 : hor (0 :: pCo f b l) x = hor l (f * x + b) * x + 0 := by rw [horC, hor_pCo f b x l]
    rw [hor_pAdd, hor_pAdd, hor_map, hor_map, e0, hor_pCo f b x l]
    show (0 * x + c) + _ = _
    grind
theorem hor_dCo (f b x : Rat) : ∀ l : List Rat, hor (pDv (pCo f b l)) x = f * hor (pDv l) (f * x + b)
  | [] => by show (0 : Rat) = f * 0; grind
  | c :: l => by
    show hor (pDv (pAdd [c] (pAdd ((0 :: pCo f b l).map fun a => f * a) ((pCo f b l).map fun a => b * a)))) x = f * hor (pD0 1 l) (f * x + b)
    rw [hor_dAdd, hor_dAdd, hor_dMap, hor_dMap, hor_dCo f b x l, hor_pD1]
    show (0 : Rat) + (f * hor (pD0 1 (pCo f b l)) x + _) = _
    rw [hor_pD1, hor_dCo f b x l, hor_pCo]
    grind
theorem pD0_apow : ∀ (l : List Rat) (i : Nat), pD0 (i + 1) (apow i l) = l
  | [], _ => rfl
  | c :: l, i => by
    show c / (((i : Int) + 1 : Int) : Rat) * (((i + 1 : Nat) : Int) : Rat) :: pD0 (i + 1 + 1) (apow (i + 1) l) = c :: l
    rw [pD0_apow l (i + 1)]
    congr 1
    exact Rat.div_mul_cancel (natR_ne (D := i + 1) (by omega))
theorem hor_areaMap (z x : Rat) (A : List Rat) : hor (areaP (A.map fun a => z * a)) x = z * hor (areaP A) x := by
  show hor (apow 0 (A.map fun a => z * a)) x * x + 0 = z * (hor (apow 0 A) x * x + 0)
  rw [apow_map, hor_map]
  grind
/-- a polynomial of f x + b -/
theorem tol_aff {f b : Rat} (hf : f ≠ 0) (ws : List Wt) (ss : List Sh) (cs : List Rat) : ∃ cs' : List Rat, cs'.length ≤ cs.length ∧
    tol ws ss cs' = wval (fun x => hor cs (f * x + b)) ws + sumM ss fun s => s.2.2 / f * (hor (areaP cs) (f * s.2.1 + b) - hor (areaP cs) (f * s.1 + b)) := by
  refine ⟨(pDv (pCo f b (areaP cs))).map fun a => f⁻¹ * a, ?_, ?_⟩
  · rw [List.length_map, pDv_len]
    have h1 := pCo_len f b (areaP cs)
    have h2 : (areaP cs).length = cs.length + 1 := by show (apow 0 cs).length + 1 = _; rw [apow_len]
    omega
  · have hi : f⁻¹ * f = 1 := Rat.inv_mul_cancel f hf
    have e1 : ∀ x, hor ((pDv (pCo f b (areaP cs))).map fun a => f⁻¹ * a) x = hor cs (f * x + b) := fun x => by
      rw [hor_map, hor_dCo, ← Rat.mul_assoc, hi, Rat.one_mul]
      show hor (pD0 1 (apow 0 cs)) _ = _
      rw [pD0_apow]
    have e2 : ∀ x, hor (areaP ((pDv (pCo f b (areaP cs))).map fun a => f⁻¹ * a)) x = f⁻¹ * (hor (areaP cs) (f * x + b) - hor (pCo f b (areaP cs)) 0) := fun x => by
      rw [hor_areaMap, area_pDv, hor_pCo]
    unfold tol
    congr 1
    · exact sumM_congr fun w _ => by rw [e1]
    · refine sumM_congr fun s _ => ?_
      rw [e2, e2, Rat.div_def]
      grind
def Zt (n : Nat) (ws : List Wt) (ss : List Sh) : Prop := ∀ e, e < n → mom ws ss e = 0
theorem Zt.t0 {n : Nat} {ws : List Wt} {ss : List Sh} (h : Zt n ws ss) {cs : List Rat} (hl : cs.length ≤ n) : tol ws ss cs = 0 := tol_pow ws ss h cs 0 (by omega)
theorem Zt.of {n : Nat} {ws : List Wt} {ss : List Sh} (h : ∀ cs : List Rat, cs.length ≤ n → tol ws ss cs = 0) : Zt n ws ss := fun e he => h _ (by
  rw [List.length_append, List.length_replicate]
  show e + 1 ≤ n
  omega)
theorem Zt.le {n m : Nat} {ws : List Wt} {ss : List Sh} (h : Zt n ws ss) (hm : m ≤ n) : Zt m ws ss := fun e he => h e (by omega)
theorem tol_least (ws : List Wt) {ss : List Sh} (h : ∀ s ∈ ss, s.1 ≤ s.2.1) (cs : List Rat) : tol (lwOf ws) (lsOf ss) cs = tol ws ss cs := by
  unfold tol
  rw [we_lw ws, se_ls h]
theorem tol_app (ws ws' : List Wt) (ss ss' : List Sh) (cs : List Rat) : tol (ws ++ ws') (ss ++ ss') cs = tol ws ss cs + tol ws' ss' cs := by
  unfold tol
  rw [wval_app, sval_app]
  grind
theorem wval_sc (F : Rat → Rat) (f : Rat) (a : List Wt) : wval F (scW f a) = f * wval F a := by
  unfold wval scW
  rw [sumM_map, ← sumM_mul]
  exact sumM_congr fun s _ => by grind
theorem sval_sc (F : Rat → Rat) (f : Rat) (c : List Sh) : sval F (scS f c) = f * sval F c := by
  unfold sval scS
  rw [sumM_map, ← sumM_mul]
  exact sumM_congr fun s _ => by grind
theorem tol_sc (f : Rat) (ws : List Wt) (ss : List Sh) (cs : List Rat) : tol (scW f ws) (scS f ss) cs = f * tol ws ss cs := by
  unfold tol
  rw [wval_sc, sval_sc]
  grind
theorem wval_ld (F : Rat → Rat) (lo st q : Rat) (ws : List Wt) : wval F (ldW lo st q ws) = sumM ws fun w => w.2 * F (lpt lo st q w.1) := by
  unfold wval ldW
  rw [sumM_map]
theorem sval_ld (F : Rat → Rat) (lo st q : Rat) (ss : List Sh) : sval F (ldS lo st q ss) = sumM ss fun s => s.2.2 / q * (F (lpt lo st q s.2.1) - F (lpt lo st q s.1)) := by
  unfold sval ldS
  rw [sumM_map]
section
variable {n : Nat} {ws ws' : List Wt} {ss ss' : List Sh}
theorem Zt.ld (h : Zt n ws ss) {lo fi q : Rat} (hq : q ≠ 0) : Zt n (ldW lo fi q ws) (ldS lo fi q ss) := Zt.of fun cs hl => by
  obtain ⟨cs', h1, h2⟩ := tol_aff (b := fi - lo * q) hq ws ss cs
  have e : ∀ x, lpt lo fi q x = q * x + (fi - lo * q) := fun x => by unfold lpt; grind
  have : tol (ldW lo fi q ws) (ldS lo fi q ss) cs = tol ws ss cs' := by
    rw [h2]
    unfold tol
    rw [wval_ld, sval_ld]
    congr 1
    · exact sumM_congr fun w _ => by rw [e]
    · exact sumM_congr fun w _ => by rw [e, e]
  rw [this]
  exact h.t0 (by omega)
theorem Zt.sc (h : Zt n ws ss) (f : Rat) : Zt n (scW f ws) (scS f ss) := Zt.of fun cs hl => by
  rw [tol_sc, h.t0 hl, Rat.mul_zero]
theorem Zt.app (h : Zt n ws ss) (h' : Zt n ws' ss') : Zt n (ws ++ ws') (ss ++ ss') := Zt.of fun cs hl => by
  rw [tol_app, h.t0 hl, h'.t0 hl, Rat.add_zero]
end
end Bk
namespace Bk
open PySem L2
theorem xchain_ok {o o' : D → D → Option R} {a b c : M R} {G G1 G2 G3 : Gam} {x y z r : R} (ha : a G = some (x, G1)) (hb : b G1 = some (y, G2)) (h : o x.d y.d = some (.im (.bl true))) (hc : c G2 = some (z, G3)) (h' : o' y.d z.d = some r) : xchain o o' a b c G = some (r, G3) := by
  unfold xchain
  rw [ha]
  show bd (b G1) _ = _
  rw [hb]
  show (match o x.d y.d with
    | some (.im (.bl k)) => if k then bd (c G2) fun z G3 => (match o' y.d z.d with | some r => some (r, G3) | none => none) else some (.im (.bl false), G2)
    | _ => none) = _
  rw [h]
  show bd (c G2) _ = _
  rw [hc]
  show (match o' y.d z.d with | some r => some (r, G3) | none => none) = _
  rw [h']
theorem le0 (j : Nat) : opLe (.int 0) (.int (j : Int)) = some (.im (.bl true)) := by
  show some (R.im (D.bl (decide ((0 : Int) ≤ (j : Int))))) = _
  rw [decide_eq_true (by omega)]
theorem ltN (j n : Nat) : opLt (.int (j : Int)) (.int (n : Int)) = some (.im (.bl (decide (j < n)))) := by
  show some (R.im (D.bl (decide ((j : Int) < (n : Int))))) = _
  rw [decide_eq_decide.mpr (show ((j : Int) < (n : Int)) ↔ j < n by omega)]
def Sg (s : Int) : Prop := s = 1 ∨ s = -1 ∨ s = 2 ∨ s = 0
theorem Sg.inP {s : Int} (h : Sg s) : opInB false (.int s) (.tup [.int 1, .int (-1)]) = some (.im (.bl (decide (s = 1 ∨ s = -1)))) := by
  rcases h with rfl | rfl | rfl | rfl <;> rfl
theorem Sg.inW {s : Int} (h : Sg s) : opInB true (.int s) (.tup [.int 1, .int (-1)]) = some (.im (.bl (!decide (s = 1 ∨ s = -1)))) := by
  rcases h with rfl | rfl | rfl | rfl <;> rfl
theorem xforL_rt9 {tg : D → Gam → Option Gam} {b : MS} {d : D} {ds : List D} {G G1 G2 : Gam} {r : R} (e1 : tg d G = some G1) (e2 : b G1 = some (.rt r, G2)) : xforL tg b (d :: ds) G = some (.rt r, G2) := by
  show (match tg d G with
    | none => none
    | some G1 => match b G1 with
      | some (.nx, G2) => xforL tg b ds G2
      | some (.ct, G2) => xforL tg b ds G2
      | some (.bk, G2) => some (.nx, G2)
      | some (.rt r, G2) => some (.rt r, G2)
      | none => none) = _
  rw [e1]
  show (match b G1 with
      | some (.nx, G2) => xforL tg b ds G2
      | some (.ct, G2) => xforL tg b ds G2
      | some (.bk, G2) => some (.nx, G2)
      | some (.rt r, G2) => some (.rt r, G2)
      | none => none) = _
  rw [e2]
def bLo (s : Rat) (x : Sh) : Rat := if x.1 < s then s else x.1
def bHi (t : Rat) (x : Sh) : Rat := if x.2.1 < t then x.2.1 else t
def bW (s t : Rat) (ws : List Wt) : List Rat := (ws.filter fun w => decide (s < w.1) && decide (w.1 < t)).map (·.2)
def bS (s t : Rat) : List Sh → List Rat
  | [] => []
  | x :: l => if bLo s x < bHi t x then x.2.2 * (bHi t x - bLo s x) :: bS s t l else bS s t l
def btw (ws : List Wt) (ss : List Sh) (s t : Rat) : Rat := sumQ (bW s t ws ++ bS s t ss)
theorem bLo_ht {s : Rat} {x : Sh} {k : Nat} (hs : Ht s k) (h : Ht x.1 k) : Ht (bLo s x) k := by
  unfold bLo; split; exact hs; exact h
theorem bHi_ht {t : Rat} {x : Sh} {k : Nat} (hs : Ht t k) (h : Ht x.2.1 k) : Ht (bHi t x) k := by
  unfold bHi; split; exact h; exact hs
theorem bS_ht {s t : Rat} {k kw : Nat} (hs : Ht s k) (ht : Ht t k) : ∀ {l : List Sh}, (∀ x ∈ l, Ht x.1 k ∧ Ht x.2.1 k ∧ Ht x.2.2 kw) → ∀ q ∈ bS s t l, Ht q (kw + (k + k + 1))
  | [], _, q, h => absurd h List.not_mem_nil
  | x :: l, hl, q, h => by
    obtain ⟨a, b, c⟩ := hl x List.mem_cons_self
    unfold bS at h
    by_cases z : bLo s x < bHi t x
    · rw [if_pos z] at h
      rcases List.mem_cons.mp h with rfl | h
      · exact c.mul ((bHi_ht ht b).sub (bLo_ht hs a))
      · exact bS_ht hs ht (fun y hy => hl y (List.mem_cons_of_mem _ hy)) q h
    · rw [if_neg z] at h
      exact bS_ht hs ht (fun y hy => hl y (List.mem_cons_of_mem _ hy)) q h
theorem bS_len (s t : Rat) : ∀ l : List Sh, (bS s t l).length ≤ l.length
  | [] => Nat.le_refl _
  | x :: l => by
    have := bS_len s t l
    unfold bS
    split
    · exact Nat.succ_le_succ this
    · exact Nat.le_trans this (Nat.le_succ _)
theorem bW_ht {s t : Rat} {kw : Nat} {ws : List Wt} (hw : ∀ w ∈ ws, Ht w.2 kw) : ∀ q ∈ bW s t ws, Ht q kw := fun q hq => by
  obtain ⟨w, h, rfl⟩ := List.mem_map.mp hq
  exact hw w (List.mem_filter.mp h).1
theorem bW_len (s t : Rat) (ws : List Wt) : (bW s t ws).length ≤ ws.length := by
  unfold bW
  rw [List.length_map]
  exact List.length_filter_le _ _
theorem bLo_if (s : Rat) (x : Sh) (G : Gam) : (if decide (x.1 < s) = true then some (R.im (vq s), G) else some (R.im (vq x.1), G)) = some (R.im (vq (bLo s x)), G) := by
  unfold bLo
  by_cases h : x.1 < s
  · rw [if_pos (decide_eq_true h), if_pos h]
  · rw [if_neg (by simpa using h), if_neg h]
theorem bHi_if (t : Rat) (x : Sh) (G : Gam) : (if decide (x.2.1 < t) = true then some (R.im (vq x.2.1), G) else some (R.im (vq t), G)) = some (R.im (vq (bHi t x)), G) := by
  unfold bHi
  by_cases h : x.2.1 < t
  · rw [if_pos (decide_eq_true h), if_pos h]
  · rw [if_neg (by simpa using h), if_neg h]
def inB (s t x : Rat) : Rat := if s < x then (if x < t then 1 else 0) else 0
def clB (s t x : Rat) : Rat := if x < s then s else if t < x then t else x
theorem bW_sum (s t : Rat) : ∀ ws : List Wt, sumQ (bW s t ws) = wval (inB s t) ws
  | [] => rfl
  | w :: ws => by
    have ih := bW_sum s t ws
    unfold wval at ih ⊢
    rw [sumM_cons, ← ih]
    unfold bW inB
    rw [List.filter_cons]
    by_cases h : s < w.1
    · by_cases h2 : w.1 < t
      · rw [if_pos (by simp [h, h2]), if_pos h, if_pos h2, List.map_cons, sumQ_cons, Rat.mul_one]
      · rw [if_neg (by simp [h2]), if_pos h, if_neg h2]; grind
    · rw [if_neg (by simp [h]), if_neg h]; grind
theorem bS_sum {s t : Rat} (st : s < t) : ∀ ss : List Sh, (∀ x ∈ ss, x.1 ≤ x.2.1) → sumQ (bS s t ss) = sval (clB s t) ss
  | [], _ => rfl
  | x :: l, h => by
    have ih := bS_sum st l (fun y hy => h y (List.mem_cons_of_mem _ hy))
    have h0 := h x List.mem_cons_self
    unfold sval at ih ⊢
    rw [sumM_cons, ← ih]
    have e : clB s t x.2.1 - clB s t x.1 = if bLo s x < bHi t x then bHi t x - bLo s x else 0 := by
      unfold clB bLo bHi
      repeat' split
      all_goals grind
    show sumQ (if bLo s x < bHi t x then _ else _) = _
    rw [e]
    by_cases z : bLo s x < bHi t x
    · rw [if_pos z, if_pos z, sumQ_cons]
    · rw [if_neg z, if_neg z]; grind
theorem btw_least (ws : List Wt) {ss : List Sh} (h : ∀ x ∈ ss, x.1 ≤ x.2.1) {s t : Rat} (st : s < t) : btw (lwOf ws) (lsOf ss) s t = btw ws ss s t := by
  unfold btw
  rw [sumQ_app, sumQ_app, bW_sum, bW_sum, bS_sum st _ (lsOf_can ss).le, bS_sum st _ h, wval_lw, sval_ls _ _ h]
def moS (j : Nat) (s : Int) : List (D × Rat) := List.replicate j (vq 0, 0) ++ [(.int s, (s : Rat))]
theorem moS_tol (ws : List Wt) (ss : List Sh) (j : Nat) (s : Int) : tol ws ss ((moS j s).map (·.2)) = (s : Rat) * mom ws ss j := by
  unfold mom
  rw [← tol_map]
  unfold moS
  rw [List.map_append, List.map_append, List.map_replicate, List.map_replicate, Rat.mul_zero]
  show tol ws ss (List.replicate j 0 ++ [(s : Rat)]) = tol ws ss (List.replicate j 0 ++ [(s : Rat) * 1])
  rw [Rat.mul_one]
end Bk
namespace Bk
open PySem L2
theorem v_is_sequence {d : D} {ds : List D} (h : isSq d ds) : r_is_sequence [d] = some (.im (.bl true)) := by
  rcases h with rfl | rfl | rfl <;> rfl
theorem v_is_less {a b : Rat} {k l : Nat} (ha : Ht a k) (hb : Ht b l) (h9 : k + l < 8990) : r_is_less [vq a, vq b] = some (.im (.bl (decide (a < b)))) := by
  have e : decide (a < b) = decide (a.num * b.den < b.num * a.den) := decide_eq_decide.mpr (Rat.lt_iff a b)
  rw [e]
  exact runF_st rfl (st_ret (xo2 (xo2 rfl rfl (if_pos (ha.1.okMul hb.2 (by omega)))) (xo2 rfl rfl (if_pos (hb.1.okMul ha.2 (by omega)))) rfl))
theorem v_is_integer_q (q : Rat) : r_is_integer [vq q] = some (.im (.bl false)) := by rfl
theorem v_divisor (a b : Int) : r_divisor [.int a, .int b] = some (.im (.int (Nat.gcd a.natAbs b.natAbs : Nat))) := by
  have key := div_loop (xtest (xop opNe (xv 1) (xc (.int 0)))) b_divisor_1 (fun x y => rfl) (fun x y hy => by
    have h0 : decide ((y : Int) ≠ 0) = true := decide_eq_true (by omega)
    have e : xop opMod (xv 0) (xv 1) [.im (.int x), .im (.int y)] = some (.im (.int ((x : Int).fmod y)), [.im (.int x), .im (.int y)]) := xo2 rfl rfl (if_pos h0)
    rw [fmod_nat] at e
    have e2 : ycons (xv 1) (ycons (xop opMod (xv 0) (xv 1)) ynil) [.im (.int x), .im (.int y)] = some ([.im (.int y), .im (.int ((x % y : Nat) : Int))], [.im (.int x), .im (.int y)]) := ycons_ok rfl (ycons_ok e rfl)
    exact ypar_ok e2) (b.natAbs + 1) a.natAbs b.natAbs (Nat.lt_succ_self _)
  have e1 : ypar 0 1 (ycons (xcb cbAbs (xcons (xv 0) xnil)) (ycons (xcb cbAbs (xcons (xv 1) xnil)) ynil)) [.im (.int a), .im (.int b)] = some (.nx, [.im (.int a.natAbs), .im (.int b.natAbs)]) := by
    rw [← abs_nat a, ← abs_nat b]
    rfl
  refine runF_st rfl ?_
  unfold b_divisor
  refine st_nx (by exact e1) ?_
  refine st_nx (by exact key) ?_
  exact st_ret rfl
theorem v_is_pair (q : Rat) : r_is_pair [vq q] = some (.im (.bl true)) := by
  have h1 : decide ((0 : Int) < (q.den : Int)) = true := decide_eq_true (by have := q.den_pos; omega)
  have h2 : Nat.gcd q.num.natAbs ((q.den : Int)).natAbs = 1 := by
    rw [Int.natAbs_natCast]; exact q.reduced
  refine runF_st rfl ?_
  unfold b_is_pair
  refine st_nx (G1 := [.im (vq q), .un]) (by rfl) ?_
  refine st_ret (by exact xvand_t (G1 := [.im (vq q), .un]) (by rw [← h1]; rfl) (xo2 (xcall_ok (xc1 (xo2 (x := vq q) (y := .int 0) rfl rfl rfl) (xc1 (xo2 (x := vq q) (y := .int 1) rfl rfl rfl) xnil_ok)) (v_divisor _ _)) rfl (by rw [h2]; rfl)))
theorem v_is_value {d : D} {q : Rat} (h : IsV d q) : r_is_value [d] = some (.im (.bl true)) := by
  rcases h with ⟨i, rfl, rfl⟩ | rfl
  · rfl
  · refine runF_st rfl (st_ret (G1 := [.im (vq q)]) ?_)
    exact (xvor_f (by exact xcall_ok (xc1 rfl xnil_ok) (v_is_integer_q q))).trans (xcall_ok (xc1 rfl xnil_ok) (v_is_pair q))
theorem v_value_of {d : D} {q : Rat} (h : IsV d q) : r_value_of [d] = some (.im (vq q)) := by
  rcases h with ⟨i, rfl, rfl⟩ | rfl
  · rfl
  · rfl
theorem v_is_between {d : D} {q lo hi : Rat} {k l m : Nat} (h : IsV d q) (hq : Ht q k) (h1 : Ht lo l) (h2 : Ht hi m) (h9 : k + l < 8990) (h8 : k + m < 8990) : r_is_between [d, vq lo, vq hi] = some (.im (.bl (!decide (q < lo) && !decide (hi < q)))) := by
  refine runF_st rfl (st_ret (G1 := [.im d, .im (vq lo), .im (vq hi)]) ?_)
  refine xvand_t (G1 := [.im d, .im (vq lo), .im (vq hi)]) (by exact xcall_ok (xc1 rfl xnil_ok) (v_is_value h)) ?_
  exact xvand_b (by exact xvnot_ok (xcall_ok (xc1 (xcall_ok (xc1 rfl xnil_ok) (v_value_of h)) (xc1 rfl xnil_ok)) (v_is_less hq h1 (by omega)))) (by exact xvnot_ok (xcall_ok (xc1 rfl (xc1 (xcall_ok (xc1 rfl xnil_ok) (v_value_of h)) xnil_ok)) (v_is_less h2 hq (by omega))))
theorem v_is_share {d e f : D} {a b s lo hi : Rat} {k l : Nat} (h : IsV d a) (h' : IsV e b) (h'' : IsV f s) (ha : Ht a k) (hb : Ht b k) (h1 : Ht lo l) (h2 : Ht hi l) (h9 : k + l < 8990) (h8 : k + k < 8990)
    (g1 : lo ≤ a) (g2 : a < b) (g3 : b ≤ hi) : r_is_share [.tup [d, e, f], vq lo, vq hi] = some (.im (.bl true)) := by
  have t1 : decide (a < lo) = false := decide_eq_false (Rat.not_lt.mpr g1)
  have t2 : decide (hi < a) = false := decide_eq_false (Rat.not_lt.mpr (by grind))
  have t3 : decide (b < lo) = false := decide_eq_false (Rat.not_lt.mpr (Rat.le_trans g1 (Rat.le_of_lt g2)))
  have t4 : decide (hi < b) = false := decide_eq_false (Rat.not_lt.mpr g3)
  have p1 : r_is_between [d, vq lo, vq hi] = some (.im (.bl true)) := by rw [v_is_between h ha h1 h2 h9 h9, t1, t2]; rfl
  have p2 : r_is_between [e, vq lo, vq hi] = some (.im (.bl true)) := by rw [v_is_between h' hb h1 h2 h9 h9, t3, t4]; rfl
  refine runF_st rfl ?_
  refine st_nx (G1 := [.im (.tup [d, e, f]), .im (vq lo), .im (vq hi)]) ?_ (st_nx (G1 := [.im (.tup [d, e, f]), .im (vq lo), .im (vq hi)]) ?_ (st_ret (by exact (xcall_ok (xc1 (xcall_ok (xc1 (d := d) (by rfl) xnil_ok) (v_value_of h)) (xc1 (xcall_ok (xc1 (d := e) (by rfl) xnil_ok) (v_value_of h')) xnil_ok)) ((v_is_less ha hb h8).trans (by rw [decide_eq_true g2]))))))
  · refine (xifs_ok (k := false) ?_).trans rfl
    exact xtor_b (k := false) (l := false) (by rfl) (xtor_b (k := false) (l := false) (by rfl) (by exact xtnot_ok (k := true) (xtrub (xcall_ok (xc1 (d := f) (by rfl) xnil_ok) (v_is_value h'')))))
  · refine (xifs_ok (k := false) ?_).trans rfl
    exact xtor_b (k := false) (l := false) (by exact xtnot_ok (k := true) (xtrub (xcall_ok (xc1 (d := d) (by rfl) (xc1 rfl (xc1 rfl xnil_ok))) p1))) (by exact xtnot_ok (k := true) (xtrub (xcall_ok (xc1 (d := e) (by rfl) (xc1 rfl (xc1 rfl xnil_ok))) p2)))
theorem v_is_weight {d e : D} {a w lo hi : Rat} {k l : Nat} (h : IsV d a) (h' : IsV e w) (ha : Ht a k) (h1 : Ht lo l) (h2 : Ht hi l) (h9 : k + l < 8990)
    (g1 : lo ≤ a) (g3 : a ≤ hi) : r_is_weight [.tup [d, e], vq lo, vq hi] = some (.im (.bl true)) := by
  have t1 : decide (a < lo) = false := decide_eq_false (Rat.not_lt.mpr g1)
  have t2 : decide (hi < a) = false := decide_eq_false (Rat.not_lt.mpr g3)
  have p1 : r_is_between [d, vq lo, vq hi] = some (.im (.bl true)) := by rw [v_is_between h ha h1 h2 h9 h9, t1, t2]; rfl
  refine runF_st rfl ?_
  refine st_nx (G1 := [.im (.tup [d, e]), .im (vq lo), .im (vq hi)]) ?_ (st_ret (G1 := [.im (.tup [d, e]), .im (vq lo), .im (vq hi)]) (by exact xvand_b (k := true) (l := true) (by exact xcall_ok (xc1 (d := d) (by rfl) (xc1 rfl (xc1 rfl xnil_ok))) p1) (by exact xcall_ok (xc1 (d := e) (by rfl) xnil_ok) (v_is_value h'))))
  refine (xifs_ok (k := false) ?_).trans rfl
  exact xtor_b (k := false) (l := false) (by rfl) (by rfl)
theorem asc_loop {x0 : Ent} {k : Nat} : ∀ (l : List Rat) (c m : Nat) (e2 e3 : Ent), 0 < c → Sm (c : Int) m → (∀ q ∈ l, Ht q k) → m + l.length * k + k < 8990 →
    ∃ e2' e3', xforL (tgt [tgn 2, tgn 3]) b_ascending_1 (l.map vq) [x0, .im (.int c), e2, e3, .un, .un, .un, .un] = some (.nx, [x0, .im (.int (lcs l c : Nat)), e2', e3', .un, .un, .un, .un])
  | [], c, m, e2, e3, _, _, _, _ => ⟨e2, e3, rfl⟩
  | q :: l, c, m, e2, e3, h0, hc, hl, h9 => by
    have hq := (hl q List.mem_cons_self).2
    have el : (q :: l).length * k = l.length * k + k := by rw [List.length_cons, Nat.add_mul]; omega
    rw [el] at h9
    have h1 : Sm ((Nat.lcm c q.den : Nat) : Int) (m + k) := lcs_sm (l := [q]) (k := k) hc (fun r hr => hl r (by rw [List.mem_singleton.mp hr]; exact List.mem_cons_self)) |> fun z => by simpa [lcs] using z
    obtain ⟨e2', e3', ih⟩ := asc_loop (x0 := x0) l (Nat.lcm c q.den) (m + k) (.im (.int q.num)) (.im (.int q.den)) (Nat.lcm_pos h0 q.den_pos) h1 (fun r hr => hl r (List.mem_cons_of_mem _ hr)) (by omega)
    refine ⟨e2', e3', ?_⟩
    have g0 : 0 < Nat.gcd c q.den := Nat.gcd_pos_of_pos_left _ h0
    have gs : Sm ((Nat.gcd c q.den : Nat) : Int) k := by
      have : Nat.gcd c q.den ≤ q.den := Nat.gcd_le_right _ q.den_pos
      unfold Sm at *
      omega
    have e : ((c : Int) * (q.den : Int)).fdiv ((Nat.gcd (c : Int).natAbs (q.den : Int).natAbs : Nat) : Int) = ((Nat.lcm c q.den : Nat) : Int) := by
      rw [Int.natAbs_natCast, Int.natAbs_natCast, Int.fdiv_eq_ediv_of_nonneg _ (by omega)]
      rfl
    refine (xforL_nx (G1 := [x0, .im (.int c), .im (.int q.num), .im (.int q.den), .un, .un, .un, .un]) rfl ?_).trans ih
    unfold b_ascending_1
    refine xset_e (xo2 (xo2 rfl rfl (o_mul (hc.okMul hq (by omega)))) (by exact xcall_ok (xc1 rfl (xc1 rfl xnil_ok)) (v_divisor _ _)) (o_div ?_)) ?_
    · rw [Int.natAbs_natCast, Int.natAbs_natCast]
      exact gs.okDiv (by omega) (by omega)
    · rw [e]; rfl
theorem asc_dd {x0 x1 x2 x3 : Ent} {c : Nat} {s : List Rat} : ∀ (suf pre : List Rat), s = pre ++ suf →
    xlcL (tgt [(tgn 6), (tgt [(tgn 7), (tgn 5)])]) (xtor (xtest (xop opEq (xv 6) (xc (.int 0)))) (xtest (xop opNe (xop opIx (xop opIx (xv 4) (xop opSub (xv 6) (xc (.int 1)))) (xc (.int 1))) (xv 5)))) (xv 5) [6, 7, 5]
      (enumD pre.length (suf.map (kit c))) [x0, x1, x2, x3, .im (.lst (s.map (kit c))), .un, .un, .un] = some ((dd pre.getLast? suf).map vq, [x0, x1, x2, x3, .im (.lst (s.map (kit c))), .un, .un, .un])
  | [], pre, _ => by rfl
  | q :: suf, pre, h => by
    have ih := asc_dd (s := s) (x0 := x0) (x1 := x1) (x2 := x2) (x3 := x3) (c := c) suf (pre ++ [q]) (by rw [h, List.append_assoc]; rfl)
    rw [List.length_append, List.length_singleton, List.getLast?_append] at ih
    show xlcL _ _ _ _ (.tup [.int (pre.length : Int), kit c q] :: enumD (pre.length + 1) (suf.map (kit c))) _ = _
    unfold xlcL
    rw [show tgt [(tgn 6), (tgt [(tgn 7), (tgn 5)])] (.tup [.int (pre.length : Int), kit c q]) [x0, x1, x2, x3, .im (.lst (s.map (kit c))), .un, .un, .un] = some [x0, x1, x2, x3, .im (.lst (s.map (kit c))), .im (vq q), .im (.int pre.length), .im (.int (kyq c q))] from rfl]
    have t1 : xtest (xop opEq (xv 6) (xc (.int 0))) [x0, x1, x2, x3, .im (.lst (s.map (kit c))), .im (vq q), .im (.int pre.length), .im (.int (kyq c q))] = some (decide ((pre.length : Int) = 0), [x0, x1, x2, x3, .im (.lst (s.map (kit c))), .im (vq q), .im (.int pre.length), .im (.int (kyq c q))]) := rfl
    have e2 : xv 5 [x0, x1, x2, x3, .im (.lst (s.map (kit c))), .im (vq q), .im (.int pre.length), .im (.int (kyq c q))] = some (.im (vq q), [x0, x1, x2, x3, .im (.lst (s.map (kit c))), .im (vq q), .im (.int pre.length), .im (.int (kyq c q))]) := rfl
    have w1 : wipeG [x0, x1, x2, x3, .im (.lst (s.map (kit c))), .im (vq q), .im (.int pre.length), .im (.int (kyq c q))] [6, 7, 5] = [x0, x1, x2, x3, .im (.lst (s.map (kit c))), .un, .un, .un] := rfl
    have key : xtor (xtest (xop opEq (xv 6) (xc (.int 0)))) (xtest (xop opNe (xop opIx (xop opIx (xv 4) (xop opSub (xv 6) (xc (.int 1)))) (xc (.int 1))) (xv 5))) [x0, x1, x2, x3, .im (.lst (s.map (kit c))), .im (vq q), .im (.int pre.length), .im (.int (kyq c q))] =
        some (!decide (pre.getLast? = some q), [x0, x1, x2, x3, .im (.lst (s.map (kit c))), .im (vq q), .im (.int pre.length), .im (.int (kyq c q))]) := by
      rcases List.eq_nil_or_concat pre with rfl | ⟨p', y, rfl⟩
      · rfl
      · rw [List.concat_eq_append] at *
        have hl : ((p' ++ [y]).length : Int) ≠ 0 := by rw [List.length_append, List.length_singleton]; omega
        rw [decide_eq_false hl] at t1
        refine (xtor_f t1).trans ?_
        have ea : atI (s.map (kit c)) (((p' ++ [y]).length : Int) - 1) = some (kit c y) := by
          have e0 : ((p' ++ [y]).length : Int) - 1 = (p'.length : Int) := by rw [List.length_append, List.length_singleton]; omega
          rw [e0, h]
          rw [atI_nat _ _ (by simp)]
          simp
        have e3 : xop opIx (xop opIx (xv 4) (xop opSub (xv 6) (xc (.int 1)))) (xc (.int 1)) [x0, x1, x2, x3, .im (.lst (s.map (kit c))), .im (vq q), .im (.int (p' ++ [y]).length), .im (.int (kyq c q))] = some (.im (vq y), [x0, x1, x2, x3, .im (.lst (s.map (kit c))), .im (vq q), .im (.int (p' ++ [y]).length), .im (.int (kyq c q))]) := by
          refine xo2 (x := kit c y) (y := .int 1) ?_ rfl rfl
          refine xop_ok (x := .im (.lst (s.map (kit c)))) (y := .im (.int (((p' ++ [y]).length : Int) - 1))) (G1 := [x0, x1, x2, x3, .im (.lst (s.map (kit c))), .im (vq q), .im (.int (p' ++ [y]).length), .im (.int (kyq c q))]) rfl (by rfl) ?_
          show (atI (s.map (kit c)) (((p' ++ [y]).length : Int) - 1)).map R.im = _
          rw [ea]
          rfl
        refine xtest_ok (xo2 e3 rfl ?_)
        rw [ne_vq]
        simp
    simp only [key, bd_some]
    by_cases hq : pre.getLast? = some q
    · rw [decide_eq_true hq]
      simp only [Bool.not_true, Bool.false_eq_true, if_false, w1]
      unfold dd
      rw [if_pos hq]
      exact ih
    · rw [decide_eq_false hq]
      simp only [Bool.not_false, if_true, e2, bd_some, w1]
      unfold dd
      rw [if_neg hq]
      rw [show (List.getLast? [q]).or pre.getLast? = some q from rfl] at ih
      rw [ih]
      rfl
theorem v_ascending {d : D} {qs : List Rat} {k : Nat} (hd : seqD d = some (qs.map vq)) (hq : ∀ q ∈ qs, Ht q k) (h9 : 2 + qs.length * k + k + k < 8990) (hf : qs.length ≤ 100000) : r_ascending [d] = some (.ol ((asc qs).map vq)) := by
  obtain ⟨e2, e3, h1⟩ := asc_loop (x0 := .im d) qs 1 1 .un .un (by decide) (by unfold Sm; decide) hq (by omega)
  have hcp : 0 < lcs qs 1 := lcs_pos (by decide)
  have hcd := (lcs_dvd (l := qs) (c := 1)).2
  have hcs : Sm (lcs qs 1 : Int) (1 + qs.length * k) := lcs_sm (by unfold Sm; decide) hq
  generalize lcs qs 1 = c at h1 hcp hcd hcs
  have h2 : xlc (xseqI (xv 0)) (tgn 5) xtyes (xtup (xcons (xop opMul (xop opIx (xv 5) (xc (.int 0))) (xop opFdiv (xv 1) (xop opIx (xv 5) (xc (.int 1))))) (xcons (xv 5) xnil))) [5]
      [.im d, .im (.int c), e2, e3, .un, .un, .un, .un] = some (.ol (qs.map (kit c)), [.im d, .im (.int c), e2, e3, .un, .un, .un, .un]) := by
    refine xlc_un (xseqI_ok rfl hd) rfl rfl rfl (xlcL_en (kit c) fun q hm => ?_) (by rw [List.length_map]; exact hf)
    have hk := hq q hm
    have sd : Sm ((c : Int).fdiv (q.den : Int)) (1 + qs.length * k) := by
      rw [Int.fdiv_eq_ediv_of_nonneg _ (by omega), ← Int.natCast_ediv]
      have : c / q.den ≤ c := Nat.div_le_self _ _
      unfold Sm at *
      rw [Int.natAbs_natCast] at *
      omega
    refine ⟨_, _, _, rfl, by exact xtup_ok (xc1 (xo2 (xo2 (x := vq q) (y := .int 0) rfl rfl rfl) (xo2 rfl (xo2 (x := vq q) (y := .int 1) rfl rfl rfl) (o_div (hk.2.okDiv (den_ne q) (by omega)))) (o_mul (hk.1.okMul sd (by omega)))) (xc1 rfl xnil_ok)) rfl, rfl, rfl⟩
  have h3 := asc_dd (x0 := .im d) (x1 := .im (.int c)) (x2 := e2) (x3 := e3) (c := c) (s := sortK (kyq c) qs) (sortK (kyq c) qs) [] rfl
  rw [show dd (List.getLast? []) (sortK (kyq c) qs) = asc qs from sortK_asc hcp hcd] at h3
  refine runF_st rfl ?_
  refine st_nx (G1 := [.im d, .im (.int 1), .un, .un, .un, .un, .un, .un]) (by rfl) ?_
  refine st_nx (by exact xfor_ok (xseqI_ok rfl hd) h1) ?_
  refine st_nx (G1 := [.im d, .im (.int c), e2, e3, .ol ((sortK (kyq c) qs).map (kit c)), .un, .un, .un]) (by exact xset_e (xcb_ok (xcons_ok h2 xnil_ok) (sorted_kit hcp hcd rfl)) rfl) ?_
  have hle := asc_len qs
  exact st_ret (by exact xlc_un (ds := enumD 0 ((sortK (kyq c) qs).map (kit c))) (by rfl) rfl rfl rfl h3 (by rw [List.length_map]; omega))
theorem v_lowest {a b : Int} {k : Nat} (hb : b ≠ 0) (hk : Sm b k) (h9 : k < 9000) : r_lowest [.int a, .int b] = some (.im (vq (Rat.divInt a b))) := by
  have e3 : xif (xtest (xop opLt (xv 1) (xc (.int 0)))) (xun unNeg (xv 2)) (xv 2) [.im (.int a), .im (.int b), .im (.int (Nat.gcd a.natAbs b.natAbs : Nat))] =
      some (.im (.int (if b < 0 then -((Nat.gcd a.natAbs b.natAbs : Nat) : Int) else ((Nat.gcd a.natAbs b.natAbs : Nat) : Int))), [.im (.int a), .im (.int b), .im (.int (Nat.gcd a.natAbs b.natAbs : Nat))]) := by
    unfold xif
    rw [show xtest (xop opLt (xv 1) (xc (.int 0))) [.im (.int a), .im (.int b), .im (.int (Nat.gcd a.natAbs b.natAbs : Nat))] = some (decide (b < 0), [.im (.int a), .im (.int b), .im (.int (Nat.gcd a.natAbs b.natAbs : Nat))]) from rfl]
    simp only [bd_some]
    by_cases h : b < 0
    · rw [if_pos h, decide_eq_true h]; rfl
    · rw [if_neg h, decide_eq_false h]; rfl
  generalize hg : (if b < 0 then -((Nat.gcd a.natAbs b.natAbs : Nat) : Int) else ((Nat.gcd a.natAbs b.natAbs : Nat) : Int)) = g at e3
  have g0 : Nat.gcd a.natAbs b.natAbs ≠ 0 := by
    intro z
    have := Nat.eq_zero_of_gcd_eq_zero_right z
    omega
  have gle : Nat.gcd a.natAbs b.natAbs ≤ b.natAbs := Nat.gcd_le_right _ (by omega)
  have gs : Sm g k := by
    unfold Sm at *
    rw [← hg]
    split <;> omega
  have gn : g ≠ 0 := by rw [← hg]; split <;> omega
  have ok := gs.okDiv gn h9
  have n1 := low_num (n := a) hb
  have n2 := low_den (n := a) hb
  rw [hg] at n1 n2
  rw [vq, ← n1, ← n2]
  refine runF_st rfl ?_
  unfold b_lowest
  refine st_nx (by exact xset_ok (xcall_ok (xc1 rfl (xc1 rfl xnil_ok)) (v_divisor a b))) ?_
  refine st_nx (by exact xset_ok e3) ?_
  exact st_ret (xtup_ok (xc1 (xo2 rfl rfl (if_pos ok)) (xc1 (xo2 rfl rfl (if_pos ok)) xnil_ok)) rfl)
theorem v_added {a b : Rat} {k l : Nat} (ha : Ht a k) (hb : Ht b l) (h9 : k + l < 8990) : r_added [vq a, vq b] = some (.im (vq (a + b))) := by
  rw [← add_divInt]
  exact runF_st rfl (st_ret (xcall_ok (xc1 (xo2 (xo2 rfl rfl (if_pos (ha.1.okMul hb.2 (by omega)))) (xo2 rfl rfl (if_pos (hb.1.okMul ha.2 (by omega)))) rfl) (xc1 (xo2 rfl rfl (if_pos (ha.2.okMul hb.2 (by omega)))) xnil_ok)) (v_lowest (Int.mul_ne_zero (den_ne a) (den_ne b)) (ha.2.mul hb.2) (by omega))))
theorem v_summed {d : D} {qs : List Rat} {k : Nat} (hd : seqD d = some (qs.map vq)) (hq : ∀ q ∈ qs, Ht q k) (h9 : 1 + qs.length * (k + 1) + k < 8990) : r_summed [d] = some (.im (vq (sumQ qs))) := by
  obtain ⟨e', h1⟩ := sum_loop (m := r_added) (fun a b k l ha hb h => v_added ha hb h) (x0 := .im d) qs 0 1 .un ht0 hq h9
  refine runF_st rfl ?_
  refine st_nx (G1 := [.im d, .im (vq 0), .un]) (by rfl) ?_
  refine st_nx (by exact xfor_ok (xseqI_ok rfl hd) h1) ?_
  exact st_ret rfl
theorem ls_loop {x0 x2 : Ent} {ss : List Sh} {k : Nat} (hs : ∀ s ∈ ss, Ht s.1 k ∧ Ht s.2.1 k ∧ Ht s.2.2 k) (h9 : 1 + ss.length * (k + 1) + k + k < 8990) (hf : ss.length ≤ 100000) : ∀ (pts : List Rat) (acc : List Sh) (e4 e5 e6 e7 : Ent), (∀ p ∈ pts, Ht p k) → acc.length + pts.length ≤ 100000 →
    ∃ e4' e5' e6' e7', xforL (tgt [(tgn 4), (tgn 5)]) b_least_shares_1 ((pts.zip pts.tail).map pD) [x0, .im (.lst (ss.map sD)), x2, .ol (acc.map sD), e4, e5, e6, e7, .un, .un, .un, .un, .un] =
      some (.nx, [x0, .im (.lst (ss.map sD)), x2, .ol ((lsGo ss acc pts).map sD), e4', e5', e6', e7', .un, .un, .un, .un, .un])
  | [], acc, e4, e5, e6, e7, _, _ => ⟨e4, e5, e6, e7, rfl⟩
  | [_], acc, e4, e5, e6, e7, _, _ => ⟨e4, e5, e6, e7, rfl⟩
  | lo :: hi :: r, acc, e4, e5, e6, e7, hp, hl => by
    have hlo := hp lo List.mem_cons_self
    have hhi := hp hi (List.mem_cons_of_mem _ List.mem_cons_self)
    have hsl := lsStep_len ss acc lo hi
    obtain ⟨t, ht⟩ : ∃ t, t = sAt ss lo hi := ⟨_, rfl⟩
    obtain ⟨f4, f5, f6, f7, ih⟩ := ls_loop (x0 := x0) (x2 := x2) hs h9 hf (hi :: r) (lsStep ss acc lo hi) (.im (vq lo)) (.im (vq hi)) (.im (.lst ((ss.filter (sIn lo hi)).map fun s => vq s.2.2))) (.im (vq t)) (fun p hm => hp p (List.mem_cons_of_mem _ hm)) (by simp only [List.length_cons] at *; omega)
    refine ⟨f4, f5, f6, f7, ?_⟩
    refine (xforL_nx (G1 := [x0, .im (.lst (ss.map sD)), x2, .ol (acc.map sD), .im (vq lo), .im (vq hi), e6, e7, .un, .un, .un, .un, .un]) rfl ?_).trans ih
    have c1 : xlc (xseqI (xv 1)) (tgt [(tgn 10), (tgn 11), (tgn 8)]) (xtand (xtnot (xtru (xcall r_is_less (xcons (xv 4) (xcons (xv 10) xnil))))) (xtnot (xtru (xcall r_is_less (xcons (xv 11) (xcons (xv 5) xnil)))))) (xv 8) [10, 11, 8]
        [x0, .im (.lst (ss.map sD)), x2, .ol (acc.map sD), .im (vq lo), .im (vq hi), e6, e7, .un, .un, .un, .un, .un] =
        some (.ol ((ss.filter (sIn lo hi)).map fun s => vq s.2.2), [x0, .im (.lst (ss.map sD)), x2, .ol (acc.map sD), .im (vq lo), .im (vq hi), e6, e7, .un, .un, .un, .un, .un]) := by
      refine xlc_un (by rfl) rfl rfl rfl (xlcL_fm (sIn lo hi) (fun s => vq s.2.2) fun s hm => ?_) (by rw [List.length_map]; have := List.length_filter_le (sIn lo hi) ss; omega)
      obtain ⟨h1, h2, h3⟩ := hs s hm
      exact ⟨[x0, .im (.lst (ss.map sD)), x2, .ol (acc.map sD), .im (vq lo), .im (vq hi), e6, e7, .im (vq s.2.2), .un, .im (vq s.1), .im (vq s.2.1), .un], _, rfl,
        xtand_b (xtnot_ok (xtrub (by exact xcall_ok (xc1 rfl (xc1 rfl xnil_ok)) (v_is_less hlo h1 (by omega))))) (xtnot_ok (xtrub (by exact xcall_ok (xc1 rfl (xc1 rfl xnil_ok)) (v_is_less h2 hhi (by omega))))),
        fun _ => rfl, fun _ => ⟨_, _, rfl, rfl, rfl⟩⟩
    have c2 : seqD (.lst ((ss.filter (sIn lo hi)).map fun s => vq s.2.2)) = some (((ss.filter (sIn lo hi)).map (·.2.2)).map vq) := by
      rw [List.map_map]; rfl
    have c3 := v_summed (d := .lst ((ss.filter (sIn lo hi)).map fun s => vq s.2.2)) (k := k) c2 (fun q hq => by
      obtain ⟨w, hm, rfl⟩ := List.mem_map.mp hq
      exact (hs w (List.mem_filter.mp hm).1).2.2) (by
      rw [List.length_map]
      have := Nat.mul_le_mul (List.length_filter_le (sIn lo hi) ss) (Nat.le_refl (k + 1))
      omega)
    rw [show sumQ ((ss.filter (sIn lo hi)).map (·.2.2)) = t from ht.symm] at c3
    have hal : acc.length ≤ 100000 := by simp only [List.length_cons] at hl; omega
    unfold b_least_shares_1
    rw [xseq_nx (show _ = some (Fl.nx, [x0, .im (.lst (ss.map sD)), x2, .ol (acc.map sD), .im (vq lo), .im (vq hi), .ol ((ss.filter (sIn lo hi)).map fun s => vq s.2.2), e7, .un, .un, .un, .un, .un]) from xset_e c1 rfl)]
    rw [xseq_nx (show _ = some (Fl.nx, [x0, .im (.lst (ss.map sD)), x2, .ol (acc.map sD), .im (vq lo), .im (vq hi), .im (.lst ((ss.filter (sIn lo hi)).map fun s => vq s.2.2)), .im (vq t), .un, .un, .un, .un, .un]) from xset_e (xcall_ok (xc1 rfl xnil_ok) c3) rfl)]
    generalize (Ent.im (.lst ((ss.filter (sIn lo hi)).map fun s => vq s.2.2))) = w6
    clear ih c1 c2 c3
    unfold lsStep
    rw [← ht]
    have t0 : xtest (xop opGt (xcb cbLen (xcons (xv 3) xnil)) (xc (.int 0))) [x0, .im (.lst (ss.map sD)), x2, .ol (acc.map sD), .im (vq lo), .im (vq hi), w6, .im (vq t), .un, .un, .un, .un, .un] =
        some (decide ((0 : Int) < ((acc.map sD).length : Int)), [x0, .im (.lst (ss.map sD)), x2, .im (.lst (acc.map sD)), .im (vq lo), .im (vq hi), w6, .im (vq t), .un, .un, .un, .un, .un]) := rfl
    have fin : (if few ((acc.map sD) ++ [sD (lo, hi, t)]).length then some (R.ol ((acc.map sD) ++ [sD (lo, hi, t)]), [x0, .im (.lst (ss.map sD)), x2, .im (.lst (acc.map sD)), .im (vq lo), .im (vq hi), w6, .im (vq t), .un, .un, .un, .un, .un]) else none) = some (R.ol ((acc ++ [(lo, hi, t)]).map sD), [x0, .im (.lst (ss.map sD)), x2, .im (.lst (acc.map sD)), .im (vq lo), .im (vq hi), w6, .im (vq t), .un, .un, .un, .un, .un]) := by
      rw [if_pos (fewl (by simp only [List.length_append, List.length_map, List.length_cons, List.length_nil] at *; omega)), List.map_append]
      rfl
    have add : xset 3 (xlst (xstar (xv 3) (xcons (xtup (xcons (xv 4) (xcons (xv 5) (xcons (xv 7) xnil)))) xnil))) [x0, .im (.lst (ss.map sD)), x2, .im (.lst (acc.map sD)), .im (vq lo), .im (vq hi), w6, .im (vq t), .un, .un, .un, .un, .un] =
        some (.nx, [x0, .im (.lst (ss.map sD)), x2, .ol ((acc ++ [(lo, hi, t)]).map sD), .im (vq lo), .im (vq hi), w6, .im (vq t), .un, .un, .un, .un, .un]) := xset_e fin rfl
    cases hg : acc.getLast? with
    | none =>
      have : acc = [] := List.getLast?_eq_none_iff.mp hg
      subst this
      refine (xifs_ok (k := false) (by exact xtand_f t0)).trans ?_
      exact add
    | some x =>
      have hga : (acc.map sD).getLast? = some (sD x) := by rw [List.getLast?_map, hg]; rfl
      have hpos : (0 : Int) < ((acc.map sD).length : Int) := by
        have : 0 < acc.length := by rw [getLast_split hg]; simp
        rw [List.length_map]; omega
      rw [decide_eq_true hpos] at t0
      have ix : xop opIx (xv 3) (xun unNeg (xc (.int 1))) [x0, .im (.lst (ss.map sD)), x2, .im (.lst (acc.map sD)), .im (vq lo), .im (vq hi), w6, .im (vq t), .un, .un, .un, .un, .un] = some (.im (sD x), [x0, .im (.lst (ss.map sD)), x2, .im (.lst (acc.map sD)), .im (vq lo), .im (vq hi), w6, .im (vq t), .un, .un, .un, .un, .un]) := by
        refine xo2 (x := .lst (acc.map sD)) (y := .int (-1)) rfl rfl ?_
        show (atI (acc.map sD) (-1)).map R.im = _
        rw [atI_last hga]
        rfl
      have t1 : xtest (xop opEq (xop opIx (xop opIx (xv 3) (xun unNeg (xc (.int 1)))) (xc (.int 2))) (xv 7)) [x0, .im (.lst (ss.map sD)), x2, .im (.lst (acc.map sD)), .im (vq lo), .im (vq hi), w6, .im (vq t), .un, .un, .un, .un, .un] =
          some (decide (x.2.2 = t), [x0, .im (.lst (ss.map sD)), x2, .im (.lst (acc.map sD)), .im (vq lo), .im (vq hi), w6, .im (vq t), .un, .un, .un, .un, .un]) := xtest_ok (xo2 (xo2 ix rfl (by rfl)) rfl (eq_vq _ _))
      by_cases e : x.2.2 = t
      · rw [decide_eq_true e] at t1
        simp only [if_pos e]
        refine (xifs_ok (k := true) (by exact (xtand_t t0).trans t1)).trans ?_
        refine xset_e (r := .ol ((acc.dropLast ++ [(x.1, hi, t)]).map sD)) (by
          refine xlst_ok (G1 := [x0, .im (.lst (ss.map sD)), x2, .im (.lst (acc.map sD)), .im (vq lo), .im (vq hi), w6, .im (vq t), .un, .un, .un, .un, .un]) ?_ ?_
          · rw [List.map_append]
            refine xstar_ok (r := .ol (cutD (acc.map sD) none (some (-1)))) (xsl_ok (i := none) (j := some (-1)) (x := .im (.lst (acc.map sD))) rfl rfl (by rfl) (by rfl)) ?_ (xc1 (d := sD (x.1, hi, t)) (by exact xtup_ok (xc1 (xo2 ix rfl (by rfl)) (xc1 rfl (xc1 rfl xnil_ok))) rfl) xnil_ok)
            rw [cut_init, ← List.map_dropLast]
            rfl
          · rw [List.length_map, List.length_append, List.length_dropLast, List.length_singleton]
            exact fewl (by simp only [List.length_cons] at *; omega)) rfl
      · rw [decide_eq_false e] at t1
        simp only [if_neg e]
        refine (xifs_ok (k := false) (by exact (xtand_t t0).trans t1)).trans ?_
        exact add
theorem v_least_shares {d : D} {ps : List (D × Sh)} {k : Nat} (hd : seqD d = some (ps.map (·.1))) (hp : ∀ p ∈ ps, SR p.1 p.2) (hq : ∀ p ∈ ps, Ht p.2.1 k ∧ Ht p.2.2.1 k ∧ Ht p.2.2.2 k)
    (h9 : 2 + ps.length * 2 * (k + 1) + k + k < 8990) : r_least_shares [d] = some (.im (.tup ((lsOf (ps.map (·.2))).map sD))) := by
  have hf : ps.length * 2 ≤ 8990 := by
    have : ps.length * 2 ≤ ps.length * 2 * (k + 1) := Nat.le_mul_of_pos_right _ (by omega)
    omega
  have c1 : xlc (xseqI (xv 0)) (tgt [(tgn 4), (tgn 5), (tgn 8)]) xtyes (xtup (xcons (xcall r_value_of (xcons (xv 4) xnil)) (xcons (xcall r_value_of (xcons (xv 5) xnil)) (xcons (xcall r_value_of (xcons (xv 8) xnil)) xnil)))) [4, 5, 8] [.im d, .un, .un, .un, .un, .un, .un, .un, .un, .un, .un, .un, .un] =
      some (.ol (ps.map fun p => sD p.2), [.im d, .un, .un, .un, .un, .un, .un, .un, .un, .un, .un, .un, .un]) := by
    refine xlc_un (xseqI_ok rfl hd) rfl rfl rfl (xlcL_en (fun p : D × Sh => sD p.2) fun p hm => ?_) (by rw [List.length_map]; omega)
    obtain ⟨⟨w, p⟩, z⟩ : ∃ y : D × Sh, y = p := ⟨p, rfl⟩
    subst z
    obtain ⟨a, b, c, e, ha, hb, hc⟩ := hp _ hm
    have e : w = .tup [a, b, c] := e
    subst e
    exact ⟨[.im d, .un, .un, .un, .im a, .im b, .un, .un, .im c, .un, .un, .un, .un], _, _, rfl, by exact xtup_ok (xc1 (xcall_ok (xc1 rfl xnil_ok) (v_value_of ha)) (xc1 (xcall_ok (xc1 rfl xnil_ok) (v_value_of hb)) (xc1 (xcall_ok (xc1 rfl xnil_ok) (v_value_of hc)) xnil_ok))) rfl, rfl, rfl⟩
  have hw1 : ∀ s ∈ ps.map (·.2), Ht s.1 k ∧ Ht s.2.1 k ∧ Ht s.2.2 k := fun w hw => by
    obtain ⟨p, hm, rfl⟩ := List.mem_map.mp hw
    exact hq p hm
  have hlen : (ps.map (·.2)).length = ps.length := List.length_map _
  rw [show (ps.map fun p => sD p.2) = (ps.map (·.2)).map sD by rw [List.map_map]; rfl] at c1
  rw [← hlen] at h9 hf
  clear hd hp hq hlen
  generalize ps.map (·.2) = ss at c1 hw1 h9 hf
  have hk : ss.length * (k + 1) ≤ ss.length * 2 * (k + 1) := Nat.mul_le_mul (by omega) (Nat.le_refl _)
  have hk2 : ss.length * 2 * k ≤ ss.length * 2 * (k + 1) := Nat.mul_le_mul (Nat.le_refl _) (by omega)
  have c2 : xlc2 (xseqI (xv 1)) (tgt [(tgn 4), (tgn 5), (tgn 8)]) xtyes (xseqI (xtup (xcons (xv 4) (xcons (xv 5) xnil)))) (tgn 9) xtyes (xv 9) [4, 5, 8, 9] [9] [.im d, .ol (ss.map sD), .un, .un, .un, .un, .un, .un, .un, .un, .un, .un, .un] =
      some (.ol ((ends ss).map vq), [.im d, .im (.lst (ss.map sD)), .un, .un, .un, .un, .un, .un, .un, .un, .un, .un, .un]) := by
    refine xlc2_un (by rfl) rfl rfl rfl ((xlc2L_fl (fun s : Sh => [vq s.1, vq s.2.1]) fun s hm => ?_).trans ?_) (by rw [List.length_map, ends_len]; omega)
    · exact ⟨[.im d, .im (.lst (ss.map sD)), .un, .un, .im (vq s.1), .im (vq s.2.1), .un, .un, .im (vq s.2.2), .un, .un, .un, .un], _, _, _, rfl, rfl, by exact xseqI_ok (d := .tup [vq s.1, vq s.2.1]) rfl rfl, rfl, rfl⟩
    · unfold ends
      rw [List.map_flatMap]
      rfl
  have he : ∀ q ∈ ends ss, Ht q k := fun q hq => by
    obtain ⟨s, hm, hq⟩ := List.mem_flatMap.mp hq
    simp at hq
    rcases hq with rfl | rfl
    · exact (hw1 s hm).1
    · exact (hw1 s hm).2.1
  have c3 := v_ascending (d := .lst ((ends ss).map vq)) (qs := ends ss) (k := k) rfl he (by rw [ends_len]; omega) (by rw [ends_len]; omega)
  have hal : (asc (ends ss)).length ≤ 8990 := by
    have := asc_len (ends ss)
    rw [ends_len] at this
    omega
  obtain ⟨e4, e5, e6, e7, c4⟩ := ls_loop (x0 := .im d) (x2 := .im (.lst ((asc (ends ss)).map vq))) hw1 (by omega) (by omega) (asc (ends ss)) [] .un .un .un .un (fun p hm => he p (mem_asc.mp hm)) (by rw [List.length_nil]; omega)
  have c4' : xzipA (xcons (xv 2) (xcons (xsl slB (xv 2) (xpart (xc (.int 1))) xnop) xnil)) [.im d, .im (.lst (ss.map sD)), .ol ((asc (ends ss)).map vq), .ol [], .un, .un, .un, .un, .un, .un, .un, .un, .un] =
      some (((asc (ends ss)).zip (asc (ends ss)).tail).map pD, [.im d, .im (.lst (ss.map sD)), .im (.lst ((asc (ends ss)).map vq)), .ol [], .un, .un, .un, .un, .un, .un, .un, .un, .un]) := by
    refine (xzip_ok (x := .lst ((asc (ends ss)).map vq)) (y := .lst (((asc (ends ss)).map vq).tail)) (by refine xc1 rfl (xcw (xsl_ok (i := some 1) (j := none) (x := .im (.lst ((asc (ends ss)).map vq))) (by rfl) (by rfl) (by rfl) ?_) xnil_ok); rw [← cut_tail]; rfl) rfl rfl).trans ?_
    rw [← List.map_tail, List.zip_map, List.map_map]
    rfl
  have c5 : xlc (xseqI (xv 3)) (tgn 12) (xtest (xop opNe (xop opIx (xv 12) (xc (.int 2))) (xc c_NOUGHT))) (xv 12) [12] [.im d, .im (.lst (ss.map sD)), .im (.lst ((asc (ends ss)).map vq)), .ol ((lsGo ss [] (asc (ends ss))).map sD), e4, e5, e6, e7, .un, .un, .un, .un, .un] =
      some (.ol ((lsOf ss).map sD), [.im d, .im (.lst (ss.map sD)), .im (.lst ((asc (ends ss)).map vq)), .im (.lst ((lsGo ss [] (asc (ends ss))).map sD)), e4, e5, e6, e7, .un, .un, .un, .un, .un]) := by
    refine xlc_un (by rfl) rfl rfl rfl (xlcL_fm (fun s : Sh => !decide (s.2.2 = 0)) sD fun s hm => ?_) ?_
    · exact ⟨_, _, rfl, xtest_ok (xo2 (x := vq s.2.2) (y := vq 0) (xo2 (x := sD s) (y := .int 2) rfl rfl rfl) rfl (ne_vq s.2.2 0)), fun _ => rfl, fun _ => ⟨_, _, rfl, rfl, rfl⟩⟩
    · rw [List.length_map]
      refine Nat.le_trans (List.length_filter_le _ _) ?_
      have := lsGo_len ss (asc (ends ss)) []
      rw [List.length_nil] at this
      omega
  refine runF_st rfl ?_
  refine st_nx (by exact xset_e c1 rfl) ?_
  refine st_nx (by exact xset_e (xcall_ok (xcw c2 xnil_ok) c3) rfl) ?_
  refine st_nx (G1 := [.im d, .im (.lst (ss.map sD)), .ol ((asc (ends ss)).map vq), .ol [], .un, .un, .un, .un, .un, .un, .un, .un, .un]) (by rfl) ?_
  refine st_nx (by exact xfor_ok c4' c4) ?_
  exact st_ret (by exact xcb_ok (xcw c5 xnil_ok) rfl)
theorem lw_loop {x0 : Ent} {ws : List Wt} {k : Nat} (hw : ∀ w ∈ ws, Ht w.2 k) (h9 : 1 + ws.length * (k + 1) + k < 8990) (hf : ws.length ≤ 100000) : ∀ (l : List Rat) (acc : List Wt) (e3 : Ent), acc.length + l.length ≤ 100000 →
    ∃ e3', xforL (tgn 3) b_least_weights_1 (l.map vq) [x0, .im (.lst (ws.map wD)), .ol (acc.map wD), e3, .un, .un, .un] =
      some (.nx, [x0, .im (.lst (ws.map wD)), .ol ((acc ++ l.map fun p => (p, wAt ws p)).map wD), e3', .un, .un, .un])
  | [], acc, e3, _ => ⟨e3, by rw [List.map_nil, List.map_nil, List.append_nil]; rfl⟩
  | p :: l, acc, e3, hl => by
    obtain ⟨e3', ih⟩ := lw_loop (x0 := x0) hw h9 hf l (acc ++ [(p, wAt ws p)]) (.im (vq p)) (by simp at hl ⊢; omega)
    rw [List.append_assoc] at ih
    refine ⟨e3', ?_⟩
    refine (xforL_nx (G1 := [x0, .im (.lst (ws.map wD)), .ol (acc.map wD), .im (vq p), .un, .un, .un]) rfl ?_).trans ih
    have c1 : xlc (xseqI (xv 1)) (tgt [(tgn 5), (tgn 4)]) (xtest (xop opEq (xv 5) (xv 3))) (xv 4) [5, 4] [x0, .im (.lst (ws.map wD)), .ol (acc.map wD), .im (vq p), .un, .un, .un] =
        some (.ol (((ws.filter fun w => decide (w.1 = p))).map (fun w => vq w.2)), [x0, .im (.lst (ws.map wD)), .ol (acc.map wD), .im (vq p), .un, .un, .un]) := by
      refine xlc_un (by rfl) rfl rfl rfl (xlcL_fm (fun w : Wt => decide (w.1 = p)) (fun w => vq w.2) fun w hm => ?_) (by rw [List.length_map]; have := List.length_filter_le (fun w => decide (w.1 = p)) ws; omega)
      exact ⟨[x0, .im (.lst (ws.map wD)), .ol (acc.map wD), .im (vq p), .im (vq w.2), .im (vq w.1), .un], _, rfl, xtest_ok (xo2 rfl rfl (eq_vq w.1 p)), fun _ => rfl, fun _ => ⟨_, _, rfl, rfl, rfl⟩⟩
    have c2 : seqD (.lst ((ws.filter fun w => decide (w.1 = p)).map (fun w => vq w.2))) = some (((ws.filter fun w => decide (w.1 = p)).map (·.2)).map vq) := by
      rw [List.map_map]; rfl
    have c3 := v_summed (d := .lst ((ws.filter fun w => decide (w.1 = p)).map (fun w => vq w.2))) (k := k) c2 (fun q hq => by
      obtain ⟨w, hm, rfl⟩ := List.mem_map.mp hq
      exact hw w (List.mem_filter.mp hm).1) (by
      rw [List.length_map]
      have := Nat.mul_le_mul (List.length_filter_le (fun w => decide (w.1 = p)) ws) (Nat.le_refl (k + 1))
      omega)
    unfold b_least_weights_1
    refine xapp_ok (bs := acc.map wD) (by rfl) (by exact xtup_ok (xc1 rfl (xc1 (xcall_ok (xcw c1 xnil_ok) c3) xnil_ok)) rfl) rfl rfl (by rw [List.length_map]; omega) ?_
    rw [List.map_append]
    rfl
theorem v_least_weights {d : D} {ps : List (D × Wt)} {k : Nat} (hd : seqD d = some (ps.map (·.1))) (hp : ∀ p ∈ ps, WR p.1 p.2) (hq : ∀ p ∈ ps, Ht p.2.1 k ∧ Ht p.2.2 k)
    (h9 : 2 + ps.length * (k + 1) + k + k < 8990) (hf : ps.length ≤ 100000) : r_least_weights [d] = some (.im (.tup ((lwOf (ps.map (·.2))).map wD))) := by
  have c1 : xlc (xseqI (xv 0)) (tgt [(tgn 3), (tgn 4)]) xtyes (xtup (xcons (xcall r_value_of (xcons (xv 3) xnil)) (xcons (xcall r_value_of (xcons (xv 4) xnil)) xnil))) [3, 4] [.im d, .un, .un, .un, .un, .un, .un] =
      some (.ol (ps.map fun p => wD p.2), [.im d, .un, .un, .un, .un, .un, .un]) := by
    refine xlc_un (xseqI_ok rfl hd) rfl rfl rfl (xlcL_en (fun p : D × Wt => wD p.2) fun p hm => ?_) (by rw [List.length_map]; exact hf)
    obtain ⟨⟨w, p⟩, z⟩ : ∃ y : D × Wt, y = p := ⟨p, rfl⟩
    subst z
    obtain ⟨a, b, e, ha, hb⟩ := hp _ hm
    have e : w = .tup [a, b] := e
    subst e
    exact ⟨[.im d, .un, .un, .im a, .im b, .un, .un], _, _, rfl, by exact xtup_ok (xc1 (xcall_ok (xc1 rfl xnil_ok) (v_value_of ha)) (xc1 (xcall_ok (xc1 rfl xnil_ok) (v_value_of hb)) xnil_ok)) rfl, rfl, rfl⟩
  have hw1 : ∀ w ∈ ps.map (·.2), Ht w.1 k ∧ Ht w.2 k := fun w hw => by
    obtain ⟨p, hm, rfl⟩ := List.mem_map.mp hw
    exact hq p hm
  have hlen : (ps.map (·.2)).length = ps.length := List.length_map _
  rw [show (ps.map fun p => wD p.2) = (ps.map (·.2)).map wD by rw [List.map_map]; rfl] at c1
  rw [← hlen] at h9 hf
  clear hd hp hq hlen
  generalize ps.map (·.2) = ws at c1 hw1 h9 hf
  have hk : ws.length * k ≤ ws.length * (k + 1) := Nat.mul_le_mul (Nat.le_refl _) (by omega)
  have c2 : xlc (xseqI (xv 1)) (tgt [(tgn 3), (tgn 4)]) xtyes (xv 3) [3, 4] [.im d, .ol (ws.map wD), .ol [], .un, .un, .un, .un] = some (.ol (ws.map fun w => vq w.1), [.im d, .im (.lst (ws.map wD)), .ol [], .un, .un, .un, .un]) := by
    refine xlc_un (by rfl) rfl rfl rfl (xlcL_en (fun w : Wt => vq w.1) fun w hm => ?_) (by rw [List.length_map]; exact hf)
    exact ⟨[.im d, .im (.lst (ws.map wD)), .ol [], .im (vq w.1), .im (vq w.2), .un, .un], _, _, rfl, rfl, rfl, rfl⟩
  have c3 := v_ascending (d := .lst (ws.map fun w => vq w.1)) (qs := ws.map (·.1)) (k := k) (by rw [List.map_map]; rfl) (fun q hq => by
    obtain ⟨w, hm, rfl⟩ := List.mem_map.mp hq
    exact (hw1 w hm).1) (by rw [List.length_map]; omega) (by rw [List.length_map]; exact hf)
  have hal : (asc (ws.map (·.1))).length ≤ 100000 := by
    have := asc_len (ws.map (·.1))
    rw [List.length_map] at this
    omega
  obtain ⟨e3', c4⟩ := lw_loop (x0 := .im d) (fun w hm => (hw1 w hm).2) (by omega) hf (asc (ws.map (·.1))) [] .un (by rw [List.length_nil]; omega)
  have c5 : xlc (xseqI (xv 2)) (tgn 6) (xtest (xop opNe (xop opIx (xv 6) (xc (.int 1))) (xc c_NOUGHT))) (xv 6) [6] [.im d, .im (.lst (ws.map wD)), .ol (((asc (ws.map (·.1))).map fun p => (p, wAt ws p)).map wD), e3', .un, .un, .un] =
      some (.ol ((lwOf ws).map wD), [.im d, .im (.lst (ws.map wD)), .im (.lst (((asc (ws.map (·.1))).map fun p => (p, wAt ws p)).map wD)), e3', .un, .un, .un]) := by
    refine xlc_un (by rfl) rfl rfl rfl (xlcL_fm (fun w : Wt => !decide (w.2 = 0)) wD fun w hm => ?_) ?_
    · exact ⟨_, _, rfl, xtest_ok (xo2 (x := vq w.2) (y := vq 0) (xo2 (x := wD w) (y := .int 1) rfl rfl rfl) rfl (ne_vq w.2 0)), fun _ => rfl, fun _ => ⟨_, _, rfl, rfl, rfl⟩⟩
    · rw [List.length_map]
      unfold lwOf
      refine Nat.le_trans (List.length_filter_le _ _) ?_
      rw [List.length_map]
      exact hal
  refine runF_st rfl ?_
  refine st_nx (by exact xset_e c1 rfl) ?_
  refine st_nx (G1 := [.im d, .ol (ws.map wD), .ol [], .un, .un, .un, .un]) (by rfl) ?_
  refine st_nx (by exact xfor_ok (xseqR_ok (xcall_ok (xcw c2 xnil_ok) c3) (by rfl)) c4) ?_
  exact st_ret (by exact xcb_ok (xcw c5 xnil_ok) rfl)
theorem v_need_stretch {d e : D} {lo hi : Rat} {k : Nat} (h : IsV d lo) (h' : IsV e hi) (h1 : Ht lo k) (h2 : Ht hi k) (h9 : k + k < 8990) (hl : lo < hi) : r_need_stretch [d, e] = some (.im (.tup [vq lo, vq hi])) := by
  refine runF_st rfl ?_
  have a1 : xcall r_is_value (xcons (xv 0) xnil) [.im d, .im e] = some (.im (.bl true), [.im d, .im e]) := xcall_ok (xc1 rfl xnil_ok) (v_is_value h)
  have a2 : xcall r_is_value (xcons (xv 1) xnil) [.im d, .im e] = some (.im (.bl true), [.im d, .im e]) := xcall_ok (xc1 rfl xnil_ok) (v_is_value h')
  have b1 : xcall r_value_of (xcons (xv 0) xnil) [.im d, .im e] = some (.im (vq lo), [.im d, .im e]) := xcall_ok (xc1 rfl xnil_ok) (v_value_of h)
  have b2 : xcall r_value_of (xcons (xv 1) xnil) [.im d, .im e] = some (.im (vq hi), [.im d, .im e]) := xcall_ok (xc1 rfl xnil_ok) (v_value_of h')
  have c1 : xcall r_is_less (xcons (xcall r_value_of (xcons (xv 0) xnil)) (xcons (xcall r_value_of (xcons (xv 1) xnil)) xnil)) [.im d, .im e] = some (.im (.bl true), [.im d, .im e]) := xcall_ok (xc1 b1 (xc1 b2 xnil_ok)) ((v_is_less h1 h2 h9).trans (by rw [decide_eq_true hl]))
  refine st_nx (G1 := [.im d, .im e]) ((xifs_ok (k := false) (xtnot_ok (k := true) (xtrub a1))).trans rfl) ?_
  refine st_nx (G1 := [.im d, .im e]) ((xifs_ok (k := false) (xtor_b (k := false) (l := false) (xtnot_ok (k := true) (xtrub a2)) (xtnot_ok (k := true) (xtrub c1)))).trans rfl) ?_
  exact st_ret (xtup_ok (xc1 b1 (xc1 b2 xnil_ok)) rfl)
theorem v_Rule_init {d1 d2 d3 d4 : D} {lo hi : Rat} {ps : List (D × Wt)} {qs : List (D × Sh)} {k : Nat} (h1 : IsV d1 lo) (h2 : IsV d2 hi) (g1 : Ht lo k) (g2 : Ht hi k) (hl : lo < hi)
    (h3 : isSq d3 (ps.map (·.1))) (h4 : isSq d4 (qs.map (·.1))) (hp : ∀ p ∈ ps, WR p.1 p.2) (hq : ∀ p ∈ qs, SR p.1 p.2) (hp1 : ∀ p ∈ ps, Ht p.2.1 k ∧ Ht p.2.2 k) (hq1 : ∀ p ∈ qs, Ht p.2.1 k ∧ Ht p.2.2.1 k ∧ Ht p.2.2.2 k)
    (hp2 : ∀ p ∈ ps, lo ≤ p.2.1 ∧ p.2.1 ≤ hi) (hq2 : ∀ p ∈ qs, lo ≤ p.2.1 ∧ p.2.1 < p.2.2.1 ∧ p.2.2.1 ≤ hi) (h9 : 2 + ps.length * (k + 1) + k + k < 8990) (h8 : 2 + qs.length * 2 * (k + 1) + k + k < 8990) :
    r_Rule_init (.o 0 []) [d1, d2, d3, d4] = some (.im .non, .o 0 (rlL lo hi (lwOf (ps.map (·.2))) (lsOf (qs.map (·.2))))) := by
  have hf : ps.length ≤ 8990 := by
    have : ps.length ≤ ps.length * (k + 1) := Nat.le_mul_of_pos_right _ (by omega)
    omega
  have hf2 : qs.length * 2 ≤ 8990 := by
    have : qs.length * 2 ≤ qs.length * 2 * (k + 1) := Nat.le_mul_of_pos_right _ (by omega)
    omega
  refine runB_st rfl ?_
  refine sb_nx (G1 := [.bx (.o 0 [vq lo, vq hi]), .im d1, .im d2, .im d3, .im d4, .un]) (by exact xasgF_ok (xcall_ok (xc1 rfl (xc1 rfl xnil_ok)) (v_need_stretch h1 h2 g1 g2 (by omega) hl)) rfl rfl) ?_
  have c1 : xlc (xseqI (xv 3)) (tgn 5) xtyes (xcall r_is_weight (xcons (xv 5) (xcons (xfldv 0 0 0) (xcons (xfldv 0 0 1) xnil)))) [5] [.bx (.o 0 [vq lo, vq hi]), .im d1, .im d2, .im d3, .im d4, .un] =
      some (.ol (ps.map fun _ => .bl true), [.bx (.o 0 [vq lo, vq hi]), .im d1, .im d2, .im d3, .im d4, .un]) := by
    refine xlc_un (xseqI_ok rfl h3.seq) rfl rfl rfl (xlcL_en (fun _ : D × Wt => .bl true) fun p hm => ?_) (by rw [List.length_map]; omega)
    obtain ⟨⟨w, p⟩, z⟩ : ∃ y : D × Wt, y = p := ⟨p, rfl⟩
    subst z
    obtain ⟨a, b, e, ha, hb⟩ := hp _ hm
    have e : w = .tup [a, b] := e
    subst e
    exact ⟨_, _, _, rfl, by exact xcall_ok (xc1 rfl (xc1 rfl (xc1 rfl xnil_ok))) (v_is_weight ha hb (hp1 _ hm).1 g1 g2 (by omega) (hp2 _ hm).1 (hp2 _ hm).2), rfl, rfl⟩
  have c2 : xlc (xseqI (xv 4)) (tgn 5) xtyes (xcall r_is_share (xcons (xv 5) (xcons (xfldv 0 0 0) (xcons (xfldv 0 0 1) xnil)))) [5] [.bx (.o 0 [vq lo, vq hi]), .im d1, .im d2, .im d3, .im d4, .un] =
      some (.ol (qs.map fun _ => .bl true), [.bx (.o 0 [vq lo, vq hi]), .im d1, .im d2, .im d3, .im d4, .un]) := by
    refine xlc_un (xseqI_ok rfl h4.seq) rfl rfl rfl (xlcL_en (fun _ : D × Sh => .bl true) fun p hm => ?_) (by rw [List.length_map]; omega)
    obtain ⟨⟨w, p⟩, z⟩ : ∃ y : D × Sh, y = p := ⟨p, rfl⟩
    subst z
    obtain ⟨a, b, c, e, ha, hb, hc⟩ := hq _ hm
    have e : w = .tup [a, b, c] := e
    subst e
    exact ⟨_, _, _, rfl, by exact xcall_ok (xc1 rfl (xc1 rfl (xc1 rfl xnil_ok))) (v_is_share ha hb hc (hq1 _ hm).1 (hq1 _ hm).2.1 g1 g2 (by omega) (by omega) (hq2 _ hm).1 (hq2 _ hm).2.1 (hq2 _ hm).2.2), rfl, rfl⟩
  have s3 : xcall r_is_sequence (xcons (xv 3) xnil) [.bx (.o 0 [vq lo, vq hi]), .im d1, .im d2, .im d3, .im d4, .un] = some (.im (.bl true), [.bx (.o 0 [vq lo, vq hi]), .im d1, .im d2, .im d3, .im d4, .un]) := xcall_ok (xc1 rfl xnil_ok) (v_is_sequence h3)
  have s4 : xcall r_is_sequence (xcons (xv 4) xnil) [.bx (.o 0 [vq lo, vq hi]), .im d1, .im d2, .im d3, .im d4, .un] = some (.im (.bl true), [.bx (.o 0 [vq lo, vq hi]), .im d1, .im d2, .im d3, .im d4, .un]) := xcall_ok (xc1 rfl xnil_ok) (v_is_sequence h4)
  refine sb_nx (G1 := [.bx (.o 0 [vq lo, vq hi]), .im d1, .im d2, .im d3, .im d4, .un]) ((xifs_ok (k := false) (xtor_b (k := false) (l := false) (xtnot_ok (k := true) (xtrub s3)) (xtnot_ok (k := true) (xtrub (xcb_ok (xcw c1 xnil_ok) (all_true ps)))))).trans rfl) ?_
  refine sb_nx (G1 := [.bx (.o 0 [vq lo, vq hi]), .im d1, .im d2, .im d3, .im d4, .un]) ((xifs_ok (k := false) (xtor_b (k := false) (l := false) (xtnot_ok (k := true) (xtrub s4)) (xtnot_ok (k := true) (xtrub (xcb_ok (xcw c2 xnil_ok) (all_true qs)))))).trans rfl) ?_
  have l1 := v_least_weights (d := d3) h3.seq hp hp1 h9 (by omega)
  have l2 := v_least_shares (d := d4) h4.seq hq hq1 h8
  refine sb_nx (G1 := [.bx (.o 0 [vq lo, vq hi, .tup ((lwOf (ps.map (·.2))).map wD)]), .im d1, .im d2, .im d3, .im d4, .un]) (by exact xsetf_ok (xcall_ok (xc1 rfl xnil_ok) l1) rfl) ?_
  have l3 : xsetf 0 0 3 (xcall r_least_shares (xcons (xv 4) xnil)) [.bx (.o 0 [vq lo, vq hi, .tup ((lwOf (ps.map (·.2))).map wD)]), .im d1, .im d2, .im d3, .im d4, .un] =
      some (.nx, [.bx (.o 0 (rlL lo hi (lwOf (ps.map (·.2))) (lsOf (qs.map (·.2))))), .im d1, .im d2, .im d3, .im d4, .un]) := xsetf_ok (xcall_ok (xc1 rfl xnil_ok) l2) rfl
  rw [l3]
  rfl
theorem v_w_choose {bs : Mob} {m : Int} (hb : Bx bs) (hm : 0 < m) (hm9 : m < 1000000) : ∃ d bs', r_w_choose bs [.int m] = some (.im (.int d), bs') ∧ 0 ≤ d ∧ d < m ∧ Bx bs' := by
  obtain ⟨g, r, rfl, hr, hr9⟩ := hb
  have om : okDiv m = true := Sm.okDiv (k := 20) (by unfold Sm; omega) (by omega) (by decide)
  have nm : decide (m ≠ 0) = true := decide_eq_true (by omega)
  by_cases hg : 0 < g
  · refine ⟨g.fmod m, .l [.int (g.fdiv m), .int r], ?_, (fmod_lt g hm).1, (fmod_lt g hm).2, ⟨_, _, rfl, hr, hr9⟩⟩
    have e1 : xtest (xop opGt (xby 0 (xixv 0 (xc (.int 0))) (xop opIx (xv 0) (xc (.int 0)))) (xc (.int 0))) [.bl [.int g, .int r], .im (.int m), .un, .un] = some (true, [.bl [.int g, .int r], .im (.int m), .un, .un]) := by
      rw [← decide_eq_true hg]
      rfl
    have e2 : xput 0 (xop opFdiv (xby 0 (xixv 0 (xc (.int 0))) (xop opIx (xv 0) (xc (.int 0)))) (xv 1)) (xc (.int 0)) [.bl [.int g, .int r], .im (.int m), .im (.int (g.fmod m)), .un] = some (.nx, [.bl [.int (g.fdiv m), .int r], .im (.int m), .im (.int (g.fmod m)), .un]) := by
      unfold xput
      rw [xo2 rfl rfl (if_pos om)]
      rfl
    refine runB_st rfl ?_
    refine sb_rt (by exact (xifs_ok e1).trans (by exact (xseq_nx (xset_e (xo2 rfl rfl (if_pos nm)) rfl)).trans ((xseq_nx e2).trans rfl))) rfl
  · have e1 : xtest (xop opGt (xby 0 (xixv 0 (xc (.int 0))) (xop opIx (xv 0) (xc (.int 0)))) (xc (.int 0))) [.bl [.int g, .int r], .im (.int m), .un, .un] = some (false, [.bl [.int g, .int r], .im (.int m), .un, .un]) := by
      rw [← decide_eq_false hg]
      rfl
    have o1 : okMul r 40014 = true := Sm.okMul (k := 33) (l := 17) (by unfold Sm; omega) (by unfold Sm; decide) (by decide)
    have b1 := fmod_lt (r * 40014 + 67) (b := 2147483563) (by decide)
    generalize h1 : (r * 40014 + 67).fmod 2147483563 = w at b1
    have o2 : okMul w 40692 = true := Sm.okMul (k := 33) (l := 17) (by unfold Sm; omega) (by unfold Sm; decide) (by decide)
    have b2 := fmod_lt (w * 40692 + 5099) (b := 2147483629) (by decide)
    generalize h2 : (w * 40692 + 5099).fmod 2147483629 = u at b2
    have o3 : okMul w 2147483647 = true := Sm.okMul (k := 33) (l := 33) (by unfold Sm; omega) (by unfold Sm; decide) (by decide)
    have o4 : okDiv 8191 = true := Sm.okDiv (k := 20) (by unfold Sm; decide) (by decide) (by decide)
    refine ⟨((w * 2147483647 + (u + 1)).fdiv 8191).fmod m, .l [.int g, .int (u + 1)], ?_, (fmod_lt _ hm).1, (fmod_lt _ hm).2, ⟨_, _, rfl, by omega, by omega⟩⟩
    refine runB_st rfl ?_
    refine sb_nx (by exact (xifs_ok e1).trans rfl) ?_
    refine sb_nx (G1 := [.bl [.int g, .int r], .im (.int m), .un, .im (.int w)]) (by
      rw [← h1]
      exact xset_e (xo2 (xcb_ok (xc1 (xo2 (xo2 rfl rfl (if_pos o1)) rfl rfl) xnil_ok) rfl) rfl rfl) rfl) ?_
    refine sb_nx (G1 := [.bl [.int g, .int (u + 1)], .im (.int m), .un, .im (.int w)]) ?_ ?_
    · unfold xput
      have e4 : xop opAddB (xop opMod (xcb cbInt (xcons (xop opAddB (xop opMul (xv 3) (xc (.int 40692))) (xc (.int 5099))) xnil)) (xc (.int 2147483629))) (xc (.int 1)) [.bl [.int g, .int r], .im (.int m), .un, .im (.int w)] = some (.im (.int (u + 1)), [.bl [.int g, .int r], .im (.int m), .un, .im (.int w)]) := by
        rw [← h2]
        exact xo2 (xo2 (xcb_ok (xc1 (xo2 (xo2 rfl rfl (if_pos o2)) rfl rfl) xnil_ok) rfl) rfl rfl) rfl rfl
      rw [e4]
      rfl
    · exact sb_ret (G1 := [.im (.int m), .un, .im (.int w)]) (by exact xo2 (xcb_ok (xc1 (xo2 (xo2 (xo2 rfl rfl (if_pos o3)) rfl rfl) rfl (o_div o4)) xnil_ok) rfl) rfl (if_pos nm))
theorem v_w_one_of {bs : Mob} {xs : List D} (hb : Bx bs) (h : 0 < xs.length) (h9 : xs.length < 1000000) : ∃ d bs', r_w_one_of bs [.lst xs] = some (.im d, bs') ∧ d ∈ xs ∧ Bx bs' := by
  obtain ⟨i, bs', h1, h2, h3, h4⟩ := v_w_choose (m := (xs.length : Int)) hb (by omega) (by omega)
  obtain ⟨d, hd, hm⟩ := atI_ok h2 h3
  refine ⟨d, bs', ?_, hm, h4⟩
  have ho : opIx (.lst xs) (.int i) = some (.im d) := by
    show (atI xs i).map R.im = _
    rw [hd]
    rfl
  exact runB_st rfl (sb_ret (G1 := [.im (.lst xs)]) (by exact xo2 rfl (xcallB_ok rfl (xc1 rfl xnil_ok) rfl rfl h1 rfl) ho))
theorem v_w_madeR {lo hi : Rat} {ws : List Wt} {ss : List Sh} {DP BP DW BW m p k : Nat} (h : Rw lo hi ws ss DP BP DW BW m p) (g1 : DP < 2 ^ k) (g2 : BP < 2 ^ k) (g3 : DW < 2 ^ k) (g4 : BW < 2 ^ k) (h9 : 2 + m * (k + 1) + k + k < 8990) (h8 : 2 + p * 2 * (k + 1) + k + k < 8990) :
    r_w_made [.tup [vq lo, vq hi, .lst (ws.map wD), .lst (ss.map sD)]] = some (.ow (.o 0 (rlL lo hi (lwOf ws) (lsOf ss)))) := by
  have e1 : (ws.map fun w => (wD w, w)).map (·.1) = ws.map wD := by rw [List.map_map]; rfl
  have e2 : (ws.map fun w => (wD w, w)).map (·.2) = ws := by rw [List.map_map]; exact List.map_id _
  have e3 : (ss.map fun w => (sD w, w)).map (·.1) = ss.map sD := by rw [List.map_map]; rfl
  have e4 : (ss.map fun w => (sD w, w)).map (·.2) = ss := by rw [List.map_map]; exact List.map_id _
  have lw : ws.length * (k + 1) ≤ m * (k + 1) := Nat.mul_le_mul h.wl (Nat.le_refl _)
  have ls : ss.length * 2 * (k + 1) ≤ p * 2 * (k + 1) := Nat.mul_le_mul (Nat.mul_le_mul h.sl (Nat.le_refl _)) (Nat.le_refl _)
  have key := v_Rule_init (d1 := vq lo) (d2 := vq hi) (d3 := .lst (ws.map wD)) (d4 := .lst (ss.map sD)) (ps := ws.map fun w => (wD w, w)) (qs := ss.map fun w => (sD w, w)) (k := k) (isV_vq lo) (isV_vq hi) (h.l.ht g1 g2) (h.h.ht g1 g2) h.lt (.inl (by rw [e1])) (.inl (by rw [e3]))
    (fun p hp => by obtain ⟨w, _, rfl⟩ := List.mem_map.mp hp; exact wr_wD w) (fun p hp => by obtain ⟨w, _, rfl⟩ := List.mem_map.mp hp; exact sr_sD w)
    (fun p hp => by obtain ⟨w, hw, rfl⟩ := List.mem_map.mp hp; exact ⟨(h.w w hw).1.ht g1 g2, (h.w w hw).2.1.ht g3 g4⟩)
    (fun p hp => by obtain ⟨w, hw, rfl⟩ := List.mem_map.mp hp; exact ⟨(h.s w hw).1.ht g1 g2, (h.s w hw).2.1.ht g1 g2, (h.s w hw).2.2.1.ht g3 g4⟩)
    (fun p hp => by obtain ⟨w, hw, rfl⟩ := List.mem_map.mp hp; exact ⟨(h.w w hw).2.2.1, (h.w w hw).2.2.2⟩)
    (fun p hp => by obtain ⟨w, hw, rfl⟩ := List.mem_map.mp hp; exact ⟨(h.s w hw).2.2.2.1, (h.s w hw).2.2.2.2.1, (h.s w hw).2.2.2.2.2⟩)
    (by rw [List.length_map]; omega) (by rw [List.length_map]; omega)
  rw [e2, e4] at key
  exact runF_st rfl (st_ret (G1 := [.im (.tup [vq lo, vq hi, .lst (ws.map wD), .lst (ss.map sD)])]) (by exact xmake_ok (xs := [vq lo, vq hi, .lst (ws.map wD), .lst (ss.map sD)]) (by rfl) key))
theorem v_w_is_less {a b : Rat} {k l : Nat} (ha : Ht a k) (hb : Ht b l) (h9 : k + l < 8990) : r_w_is_less [vq a, vq b] = some (.im (.bl (decide (a < b)))) := by
  have e : decide (a < b) = decide (a.num * b.den < b.num * a.den) := decide_eq_decide.mpr (Rat.lt_iff a b)
  rw [e]
  exact runF_st rfl (st_ret (xo2 (xo2 rfl rfl (if_pos (ha.1.okMul hb.2 (by omega)))) (xo2 rfl rfl (if_pos (hb.1.okMul ha.2 (by omega)))) rfl))
theorem v_w_divisor (a b : Int) : r_w_divisor [.int a, .int b] = some (.im (.int (Nat.gcd a.natAbs b.natAbs : Nat))) := by
  have key := div_loop (xtest (xop opNe (xv 1) (xc (.int 0)))) b_w_divisor_1 (fun x y => rfl) (fun x y hy => by
    have h0 : decide ((y : Int) ≠ 0) = true := decide_eq_true (by omega)
    have e : xop opMod (xcb cbInt (xcons (xv 0) xnil)) (xv 1) [.im (.int x), .im (.int y)] = some (.im (.int ((x : Int).fmod y)), [.im (.int x), .im (.int y)]) := xop_ok rfl rfl (if_pos h0)
    rw [fmod_nat] at e
    have e2 : ycons (xv 1) (ycons (xop opMod (xcb cbInt (xcons (xv 0) xnil)) (xv 1)) ynil) [.im (.int x), .im (.int y)] = some ([.im (.int y), .im (.int ((x % y : Nat) : Int))], [.im (.int x), .im (.int y)]) := ycons_ok rfl (ycons_ok e rfl)
    exact ypar_ok e2) (b.natAbs + 1) a.natAbs b.natAbs (Nat.lt_succ_self _)
  have e1 : ypar 0 1 (ycons (xcb cbAbs (xcons (xv 0) xnil)) (ycons (xcb cbAbs (xcons (xv 1) xnil)) ynil)) [.im (.int a), .im (.int b)] = some (.nx, [.im (.int a.natAbs), .im (.int b.natAbs)]) := by
    rw [← abs_nat a, ← abs_nat b]
    rfl
  refine runF_st rfl ?_
  unfold b_w_divisor
  refine st_nx (by exact e1) ?_
  refine st_nx (by exact key) ?_
  exact st_ret rfl
theorem v_w_number {d : D} {q : Rat} (h : IsV d q) : r_w_number [d] = some (.im (vq q)) := by
  rcases h with ⟨i, rfl, rfl⟩ | rfl
  · rfl
  · have h1 : decide ((0 : Int) < (q.den : Int)) = true := decide_eq_true (by have := q.den_pos; omega)
    have h2 : Nat.gcd q.num.natAbs ((q.den : Int)).natAbs = 1 := by
      rw [Int.natAbs_natCast]; exact q.reduced
    refine runF_st rfl ?_
    refine st_nx (G1 := [.im (vq q), .un]) (by rfl) ?_
    refine st_nx (G1 := [.im (vq q), .un]) (by rfl) ?_
    refine st_nx (G1 := [.im (vq q), .un]) (by rfl) ?_
    refine st_ret (G1 := [.im (vq q), .un]) ?_
    have t1 : xtest (xop opGt (xop opIx (xv 0) (xc (.int 1))) (xc (.int 0))) [.im (vq q), .un] = some (true, [.im (vq q), .un]) := by
      rw [← h1]
      rfl
    have t2 : xtest (xop opEq (xcall r_w_divisor (xcons (xop opIx (xv 0) (xc (.int 0))) (xcons (xop opIx (xv 0) (xc (.int 1))) xnil))) (xc (.int 1))) [.im (vq q), .un] = some (true, [.im (vq q), .un]) :=
      xtest_ok (xo2 (xcall_ok (xc1 (xo2 (x := vq q) (y := .int 0) rfl rfl rfl) (xc1 (xo2 (x := vq q) (y := .int 1) rfl rfl rfl) xnil_ok)) (v_w_divisor _ _)) rfl (by rw [h2]; rfl))
    exact (xif_ok (xtand_b t1 t2)).trans rfl
def inQ (lo hi q : Rat) : Bool := !decide (q < lo) && !decide (hi < q)
theorem v_w_low {a b : Int} {k : Nat} (hb : b ≠ 0) (hk : Sm b k) (h9 : k < 9000) : r_w_low [.int a, .int b] = some (.im (vq (Rat.divInt a b))) := by
  have e3 : xif (xtest (xop opGt (xv 1) (xc (.int 0)))) (xc (.int 1)) (xop opSub (xc (.int 0)) (xc (.int 1))) [.im (.int a), .im (.int b), .un] =
      some (.im (.int (if b < 0 then -1 else 1)), [.im (.int a), .im (.int b), .un]) := by
    unfold xif
    rw [show xtest (xop opGt (xv 1) (xc (.int 0))) [.im (.int a), .im (.int b), .un] = some (decide (0 < b), [.im (.int a), .im (.int b), .un]) from rfl]
    simp only [bd_some]
    by_cases h : b < 0
    · rw [if_pos h, decide_eq_false (by omega)]; rfl
    · rw [if_neg h, decide_eq_true (by omega)]; rfl
  have eg : ((Nat.gcd a.natAbs b.natAbs : Nat) : Int) * (if b < 0 then -1 else 1) = (if b < 0 then -((Nat.gcd a.natAbs b.natAbs : Nat) : Int) else ((Nat.gcd a.natAbs b.natAbs : Nat) : Int)) := by
    split <;> omega
  have g0 : Nat.gcd a.natAbs b.natAbs ≠ 0 := by
    intro z
    have := Nat.eq_zero_of_gcd_eq_zero_right z
    omega
  have gle : Nat.gcd a.natAbs b.natAbs ≤ b.natAbs := Nat.gcd_le_right _ (by omega)
  have gs1 : Sm ((Nat.gcd a.natAbs b.natAbs : Nat) : Int) k := by
    unfold Sm at *
    omega
  have om : okMul ((Nat.gcd a.natAbs b.natAbs : Nat) : Int) (if b < 0 then -1 else 1) = true := gs1.okMul (l := 2) (by unfold Sm; split <;> decide) (by omega)
  have n1 := low_num (n := a) hb
  have n2 := low_den (n := a) hb
  have gs : Sm (if b < 0 then -((Nat.gcd a.natAbs b.natAbs : Nat) : Int) else ((Nat.gcd a.natAbs b.natAbs : Nat) : Int)) k := by
    unfold Sm at *
    split <;> omega
  have gn : (if b < 0 then -((Nat.gcd a.natAbs b.natAbs : Nat) : Int) else ((Nat.gcd a.natAbs b.natAbs : Nat) : Int)) ≠ 0 := by split <;> omega
  have ok := gs.okDiv gn h9
  rw [vq, ← n1, ← n2]
  rw [← eg] at ok ⊢
  refine runF_st rfl ?_
  refine st_nx (by exact xset_e (xop_ok (xcall_ok (xc1 rfl (xc1 rfl xnil_ok)) (v_w_divisor a b)) e3 (if_pos om)) rfl) ?_
  exact st_ret (by exact xtup_ok (xc1 (xo2 rfl rfl (if_pos ok)) (xc1 (xo2 rfl rfl (if_pos ok)) xnil_ok)) rfl)
theorem v_w_minus {a b : Rat} {k l : Nat} (ha : Ht a k) (hb : Ht b l) (h9 : k + l < 8990) : r_w_minus [vq a, vq b] = some (.im (vq (a - b))) := by
  rw [← sub_divInt]
  exact runF_st rfl (st_ret (xcall_ok (xc1 (xo2 (xo2 rfl rfl (if_pos (ha.1.okMul hb.2 (by omega)))) (xo2 rfl rfl (if_pos (hb.1.okMul ha.2 (by omega)))) rfl) (xc1 (xo2 rfl rfl (if_pos (ha.2.okMul hb.2 (by omega)))) xnil_ok)) (v_w_low (Int.mul_ne_zero (den_ne a) (den_ne b)) (ha.2.mul hb.2) (by omega))))
theorem wp_loop {a : Int} {k : Nat} {x1 : Ent} (ha : Sm a k) : ∀ (ds : List D) (acc : Int) (m : Nat) (e : Ent), Sm acc m → m + ds.length * k + k ≤ 900000 →
    ∃ e', xforL (tgn 3) b_w_power_1 ds [.im (.int a), x1, .im (.int acc), e] = some (.nx, [.im (.int a), x1, .im (.int (acc * a ^ ds.length)), e'])
  | [], acc, m, e, _, _ => ⟨e, by rw [List.length_nil, Int.pow_zero, Int.mul_one]; rfl⟩
  | d :: ds, acc, m, e, hm, h9 => by
    have el : (d :: ds).length * k = ds.length * k + k := by rw [List.length_cons, Nat.add_mul]; omega
    rw [el] at h9
    obtain ⟨e', ih⟩ := wp_loop (x1 := x1) ha ds (acc * a) (m + k) (.im d) (hm.mul ha) (by omega)
    have ep : acc * a * a ^ ds.length = acc * a ^ (d :: ds).length := by
      rw [List.length_cons, Int.pow_succ, Int.mul_assoc, Int.mul_comm (a ^ ds.length) a]
    rw [ep] at ih
    refine ⟨e', (xforL_nx (G1 := [.im (.int a), x1, .im (.int acc), .im d]) rfl ?_).trans ih⟩
    unfold b_w_power_1
    exact xset_e (xo2 rfl rfl (o_mul (hm.okMul ha (by omega)))) rfl
theorem v_w_power {a : Int} {k n : Nat} (ha : Sm a k) (hn : n < 1000) (h9 : n * k + k + 1 ≤ 900000) : r_w_power [.int a, .int n] = some (.im (.int (a ^ n))) := by
  obtain ⟨e', h1⟩ := wp_loop (x1 := .im (.int n)) ha (rng 0 (n : Int).toNat) 1 1 .un (by unfold Sm; decide) (by rw [rng_ln, Int.toNat_natCast]; omega)
  rw [rng_ln, Int.toNat_natCast, Int.one_mul] at h1
  refine runF_st rfl ?_
  refine st_nx (G1 := [.im (.int a), .im (.int n), .im (.int 1), .un]) (by rfl) ?_
  refine st_nx (by exact xfor_ok (xrange1_ok (xc1 rfl xnil_ok) (okR_of (by omega) (by omega))) h1) ?_
  exact st_ret rfl
theorem v_w_raised {q : Rat} {k n : Nat} (hq : Ht q k) (hn : n < 1000) (h9 : n * k + k + 1 < 8990) : r_w_raised [vq q, .int n] = some (.im (vq (rpow q n))) := by
  rw [← rpow_divInt]
  exact runF_st rfl (st_ret (G1 := [.im (vq q), .im (.int n)]) (by exact xcall_ok (xc1 (xcall_ok (xc1 (d := .int q.num) (by rfl) (xc1 rfl xnil_ok)) (v_w_power hq.1 hn (by omega))) (xc1 (xcall_ok (xc1 (d := .int q.den) (by rfl) (xc1 rfl xnil_ok)) (v_w_power hq.2 hn (by omega))) xnil_ok)) (v_w_low (Int.pow_ne_zero (den_ne q)) (sm_pow hq.2 n) (by omega))))
theorem v_w_behind {t x : Rat} {n kt kx : Nat} (ht : Ht t kt) (hx : Ht x kx) (hn : n < 100) (h9 : (n + 1) * (kx + kt + 1) + 1 < 8990) : r_w_behind [vq t, vq x, .int (n : Int)] = some (.im (vq (kk n t x))) := by
  have b1 : kx + kt + 1 ≤ (n + 1) * (kx + kt + 1) := Nat.le_mul_of_pos_left _ (by omega)
  have l := v_w_is_less ht hx (by omega)
  have tt : xtnot (xtru (xcall r_w_is_less (xcons (xv 0) (xcons (xv 1) xnil)))) [.im (vq t), .im (vq x), .im (.int (n : Int))] = some (!decide (t < x), [.im (vq t), .im (vq x), .im (.int (n : Int))]) := xtnot_ok (xtrub (xcall_ok (xc1 rfl (xc1 rfl xnil_ok)) l))
  refine runF_st rfl ?_
  unfold kk
  by_cases h : t < x
  · rw [decide_eq_true h] at tt
    rw [if_pos h]
    refine st_nx (by exact (xifs_ok tt).trans rfl) ?_
    exact st_ret (xcall_ok (xc1 (xcall_ok (xc1 rfl (xc1 rfl xnil_ok)) (v_w_minus hx ht (by omega))) (xc1 rfl xnil_ok)) (v_w_raised (hx.sub ht) (by omega) (by rw [Nat.add_mul, Nat.one_mul] at h9; omega)))
  · rw [decide_eq_false h] at tt
    rw [if_neg h]
    exact st_rt (by exact (xifs_ok tt).trans rfl)
theorem v_w_plus {a b : Rat} {k l : Nat} (ha : Ht a k) (hb : Ht b l) (h9 : k + l < 8990) : r_w_plus [vq a, vq b] = some (.im (vq (a + b))) := by
  rw [← add_divInt]
  exact runF_st rfl (st_ret (xcall_ok (xc1 (xo2 (xo2 rfl rfl (if_pos (ha.1.okMul hb.2 (by omega)))) (xo2 rfl rfl (if_pos (hb.1.okMul ha.2 (by omega)))) rfl) (xc1 (xo2 rfl rfl (if_pos (ha.2.okMul hb.2 (by omega)))) xnil_ok)) (v_w_low (Int.mul_ne_zero (den_ne a) (den_ne b)) (ha.2.mul hb.2) (by omega))))
theorem v_w_sum {d : D} {qs : List Rat} {k : Nat} (hd : seqD d = some (qs.map vq)) (hq : ∀ q ∈ qs, Ht q k) (h9 : 1 + qs.length * (k + 1) + k < 8990) : r_w_sum [d] = some (.im (vq (sumQ qs))) := by
  obtain ⟨e', h1⟩ := sum_loop (m := r_w_plus) (fun a b k l ha hb h => v_w_plus ha hb h) (x0 := .im d) qs 0 1 .un ht0 hq h9
  refine runF_st rfl ?_
  refine st_nx (by exact xset_e (xtup_ok (xc1 rfl (xc1 rfl xnil_ok)) rfl) rfl) ?_
  refine st_nx (by exact xfor_ok (xseqI_ok rfl hd) h1) ?_
  exact st_ret rfl
theorem v_w_times {a b : Rat} {k l : Nat} (ha : Ht a k) (hb : Ht b l) (h9 : k + l < 8990) : r_w_times [vq a, vq b] = some (.im (vq (a * b))) := by
  rw [← mul_divInt]
  exact runF_st rfl (st_ret (xcall_ok (xc1 (xo2 rfl rfl (if_pos (ha.1.okMul hb.1 (by omega)))) (xc1 (xo2 rfl rfl (if_pos (ha.2.okMul hb.2 (by omega)))) xnil_ok)) (v_w_low (Int.mul_ne_zero (den_ne a) (den_ne b)) (ha.2.mul hb.2) (by omega))))
def okL (ws : List Wt) (ss : List Sh) (t : Rat) (n : Nat) : List Rat := (ws.map fun w => w.2 * kk n t w.1) ++ ss.map fun s => s.2.2 * ((kk (n + 1) t s.2.1 - kk (n + 1) t s.1) * inv1 n)
theorem okL_sum (ws : List Wt) (ss : List Sh) (t : Rat) (n : Nat) : sumQ (okL ws ss t n) = tolk ws ss t n := by
  unfold okL tolk
  rw [sumQ_app]
  congr 1
  show sumM ss _ = sumM ss _
  refine sumM_congr fun s _ => ?_
  grind
theorem v_w_of_kink {lo hi : D} {ws : List Wt} {ss : List Sh} {t : Rat} {n kp kw kt : Nat} (hn : n < 7) (hw : ∀ w ∈ ws, Ht w.1 kp ∧ Ht w.2 kw) (hs : ∀ s ∈ ss, Ht s.1 kp ∧ Ht s.2.1 kp ∧ Ht s.2.2 kw) (ht : Ht t kt)
    (h9 : 1 + (ws.length + ss.length) * (kw + 3 + 2 * ((n + 2) * (kp + kt + 1) + 1) + 1 + 1) + (kw + 3 + 2 * ((n + 2) * (kp + kt + 1) + 1) + 1) < 8990) :
    r_w_of_kink [.tup [lo, hi, .lst (ws.map wD), .lst (ss.map sD)], vq t, .int (n : Int)] = some (.im (vq (tolk ws ss t n))) := by
  obtain ⟨T, hT⟩ : ∃ T, T = D.tup [lo, hi, .lst (ws.map wD), .lst (ss.map sD)] := ⟨_, rfl⟩
  have hT2 : opIx T (.int 2) = some (.im (.lst (ws.map wD))) := by rw [hT]; rfl
  have hT3 : opIx T (.int 3) = some (.im (.lst (ss.map sD))) := by rw [hT]; rfl
  have big : (ws.length + ss.length) * 1 ≤ (ws.length + ss.length) * (kw + 3 + 2 * ((n + 2) * (kp + kt + 1) + 1) + 1 + 1) := Nat.mul_le_mul (Nat.le_refl _) (by omega)
  have m0 : (n + 1) * (kp + kt + 1) ≤ (n + 2) * (kp + kt + 1) := Nat.mul_le_mul (by omega) (Nat.le_refl _)
  have m1 : n * (kp + kt + 1) ≤ (n + 2) * (kp + kt + 1) := Nat.mul_le_mul (by omega) (Nat.le_refl _)
  obtain ⟨iv, ih⟩ := inv1_vq (n := n) (by omega)
  have ivq : D.tup [.int 1, .int ((n : Int) + 1)] = vq (inv1 n) := by
    have := (inv_vq (j := n) (by omega)).1
    exact this
  have be : ∀ (m : Nat) (x : Rat), m ≤ n + 1 → Ht x kp → r_w_behind [vq t, vq x, .int (m : Int)] = some (.im (vq (kk m t x))) := fun m x hm hx => v_w_behind ht hx (by omega) (by
    have : (m + 1) * (kp + kt + 1) ≤ (n + 2) * (kp + kt + 1) := Nat.mul_le_mul (by omega) (Nat.le_refl _)
    omega)
  have hk : ∀ (m : Nat) (x : Rat), m ≤ n + 1 → Ht x kp → Ht (kk m t x) ((n + 2) * (kp + kt + 1) + 1) := fun m x hm hx => (kk_ht ht hx m).up (by
    have : m * (kp + kt + 1) ≤ (n + 2) * (kp + kt + 1) := Nat.mul_le_mul (by omega) (Nat.le_refl _)
    omega)
  have c1 : xlc (xseqI (xop opIx (xv 0) (xc (.int 2)))) (tgt [(tgn 8), (tgn 9)]) xtyes (xcall r_w_times (xcons (xv 9) (xcons (xcall r_w_behind (xcons (xv 1) (xcons (xv 8) (xcons (xv 2) xnil)))) xnil))) [8, 9] [.im T, .im (vq t), .im (.int (n : Int)), .un, .un, .un, .un, .un, .un, .un] =
      some (.ol (ws.map fun w => vq (w.2 * kk n t w.1)), [.im T, .im (vq t), .im (.int (n : Int)), .un, .un, .un, .un, .un, .un, .un]) := by
    refine xlc_un (ds := ws.map wD) (xseqR_ok (xo2 rfl rfl hT2) rfl) rfl rfl rfl (xlcL_en (fun w : Wt => vq (w.2 * kk n t w.1)) fun w hm => ?_) (by rw [List.length_map]; omega)
    obtain ⟨w1, w2⟩ := hw w hm
    exact ⟨[.im T, .im (vq t), .im (.int (n : Int)), .un, .un, .un, .un, .un, .im (vq w.1), .im (vq w.2)], _, _, rfl, xcall_ok (xc1 rfl (xc1 (xcall_ok (xc1 rfl (xc1 rfl (xc1 rfl xnil_ok))) (be n w.1 (by omega) w1)) xnil_ok)) (v_w_times w2 (hk n w.1 (by omega) w1) (by omega)), rfl, rfl⟩
  have c4 : ∀ (l : List Sh) (acc : List Rat) (e4 e5 e6 e7 : Ent), (∀ s ∈ l, Ht s.1 kp ∧ Ht s.2.1 kp ∧ Ht s.2.2 kw) → acc.length + l.length ≤ 90000 →
      ∃ f4 f5 f6 f7, xforL (tgt [(tgn 4), (tgn 5), (tgn 6)]) b_w_of_kink_1 (l.map sD) [.im T, .im (vq t), .im (.int (n : Int)), .ol (acc.map vq), e4, e5, e6, e7, .un, .un] =
        some (.nx, [.im T, .im (vq t), .im (.int (n : Int)), .ol ((acc ++ l.map fun s => s.2.2 * ((kk (n + 1) t s.2.1 - kk (n + 1) t s.1) * inv1 n)).map vq), f4, f5, f6, f7, .un, .un]) := by
    intro l
    induction l with
    | nil => intro acc e4 e5 e6 e7 _ _; exact ⟨e4, e5, e6, e7, by rw [List.map_nil, List.map_nil, List.append_nil]; rfl⟩
    | cons s l ih' =>
      intro acc e4 e5 e6 e7 hl hn'
      rw [List.length_cons] at hn'
      obtain ⟨s1, s2, s3⟩ := hl s List.mem_cons_self
      obtain ⟨f4, f5, f6, f7, ih'⟩ := ih' (acc ++ [s.2.2 * ((kk (n + 1) t s.2.1 - kk (n + 1) t s.1) * inv1 n)]) (.im (vq s.1)) (.im (vq s.2.1)) (.im (vq s.2.2)) (.im (vq (kk (n + 1) t s.2.1 - kk (n + 1) t s.1))) (fun z hz => hl z (List.mem_cons_of_mem _ hz)) (by rw [List.length_append, List.length_singleton]; omega)
      refine ⟨f4, f5, f6, f7, (xforL_nx (G1 := [.im T, .im (vq t), .im (.int (n : Int)), .ol (acc.map vq), .im (vq s.1), .im (vq s.2.1), .im (vq s.2.2), e7, .un, .un]) rfl ?_).trans (ih'.trans (by rw [List.append_assoc]; rfl))⟩
      have b1 := be (n + 1) s.2.1 (Nat.le_refl _) s2
      have b2 := be (n + 1) s.1 (Nat.le_refl _) s1
      have k1 := hk (n + 1) s.2.1 (Nat.le_refl _) s2
      have k2 := hk (n + 1) s.1 (Nat.le_refl _) s1
      have mi := v_w_minus k1 k2 (by omega)
      have t1 := v_w_times (k1.sub k2) ih (by omega)
      have t2 := v_w_times s3 ((k1.sub k2).mul ih) (by omega)
      have s7 : xset 7 (xcall r_w_minus (xcons (xcall r_w_behind (xcons (xv 1) (xcons (xv 5) (xcons (xop opAddB (xv 2) (xc (.int 1))) xnil)))) (xcons (xcall r_w_behind (xcons (xv 1) (xcons (xv 4) (xcons (xop opAddB (xv 2) (xc (.int 1))) xnil)))) xnil))) [.im T, .im (vq t), .im (.int (n : Int)), .ol (acc.map vq), .im (vq s.1), .im (vq s.2.1), .im (vq s.2.2), e7, .un, .un] =
          some (.nx, [.im T, .im (vq t), .im (.int (n : Int)), .ol (acc.map vq), .im (vq s.1), .im (vq s.2.1), .im (vq s.2.2), .im (vq (kk (n + 1) t s.2.1 - kk (n + 1) t s.1)), .un, .un]) :=
        xset_e (xcall_ok (xc1 (xcall_ok (xc1 rfl (xc1 rfl (xc1 (d := .int ((n + 1 : Nat) : Int)) (by rfl) xnil_ok))) b1) (xc1 (xcall_ok (xc1 rfl (xc1 rfl (xc1 (d := .int ((n + 1 : Nat) : Int)) (by rfl) xnil_ok))) b2) xnil_ok)) mi) rfl
      unfold b_w_of_kink_1
      rw [xseq_nx s7]
      refine xapp_ok (bs := acc.map vq) (r := .im (vq (s.2.2 * ((kk (n + 1) t s.2.1 - kk (n + 1) t s.1) * inv1 n)))) rfl (xcall_ok (xc1 rfl (xc1 (xcall_ok (xc1 rfl (xc1 (d := vq (inv1 n)) (by rw [← ivq]; exact xtup_ok (xc1 rfl (xc1 (by rfl) xnil_ok)) rfl) xnil_ok)) t1) xnil_ok)) t2) rfl rfl (by rw [List.length_map]; omega) ?_
      rw [List.map_append]
      rfl
  obtain ⟨f4, f5, f6, f7, c4⟩ := c4 ss (ws.map fun w => w.2 * kk n t w.1) .un .un .un .un hs (by rw [List.length_map]; omega)
  have em : (ws.map fun w => vq (w.2 * kk n t w.1)) = (ws.map fun w => w.2 * kk n t w.1).map vq := by rw [List.map_map]; rfl
  rw [em] at c1
  have sm := v_w_sum (d := .lst ((okL ws ss t n).map vq)) (qs := okL ws ss t n) (k := kw + 3 + 2 * ((n + 2) * (kp + kt + 1) + 1) + 1) rfl (fun q hq => by
    rcases List.mem_append.mp hq with hq | hq
    · obtain ⟨w, hm, rfl⟩ := List.mem_map.mp hq
      obtain ⟨w1, w2⟩ := hw w hm
      exact (w2.mul (hk n w.1 (by omega) w1)).up (by omega)
    · obtain ⟨s, hm, rfl⟩ := List.mem_map.mp hq
      obtain ⟨s1, s2, s3⟩ := hs s hm
      exact (s3.mul (((hk (n + 1) s.2.1 (Nat.le_refl _) s2).sub (hk (n + 1) s.1 (Nat.le_refl _) s1)).mul ih)).up (by omega)) (by
    unfold okL
    rw [List.length_append, List.length_map, List.length_map]
    exact h9)
  rw [okL_sum] at sm
  rw [← hT]
  refine runF_st rfl ?_
  refine st_nx (by exact xset_e c1 rfl) ?_
  refine st_nx (by exact xfor_ok (ds := ss.map sD) (xseqR_ok (xo2 rfl rfl hT3) rfl) c4) ?_
  exact st_ret (G1 := [.im T, .im (vq t), .im (.int (n : Int)), .im (.lst ((okL ws ss t n).map vq)), f4, f5, f6, f7, .un, .un]) (xcall_ok (xc1 rfl xnil_ok) sm)
theorem inv_vq24 {j : Nat} (h : j < 24) : D.tup [.int 1, .int ((j : Int) + 1)] = vq (1 / (((j : Int) + 1 : Int) : Rat)) ∧ Ht (1 / (((j : Int) + 1 : Int) : Rat)) 5 := by
  have key : ∀ n : Nat, n < 24 → (1 / (((n : Int) + 1 : Int) : Rat)).num = 1 ∧ (1 / (((n : Int) + 1 : Int) : Rat)).den = n + 1 := by decide +kernel
  obtain ⟨a, b⟩ := key j h
  refine ⟨by unfold vq; rw [a, b]; rfl, ht_of _ a b (by decide) ?_⟩
  show j + 1 < 32
  omega
theorem op_loop {x0 : Ent} {n kp kw : Nat} (hn : n < 24) (h9 : kw + 2 * ((n + 1) * kp + 1) + 1 + 5 + kp + kp < 8990) : ∀ (l : List Sh) (acc : List Rat) (e3 e4 e5 e6 : Ent), (∀ s ∈ l, Ht s.1 kp ∧ Ht s.2.1 kp ∧ Ht s.2.2 kw) → acc.length + l.length ≤ 100000 →
    ∃ e3' e4' e5' e6', xforL (tgt [(tgn 3), (tgn 4), (tgn 5)]) b_w_of_power_1 (l.map sD) [x0, .im (.int n), .ol (acc.map vq), e3, e4, e5, e6, .un, .un] =
      some (.nx, [x0, .im (.int n), .ol ((acc ++ l.map fun s => s.2.2 * ((rpow s.2.1 (n + 1) - rpow s.1 (n + 1)) * (1 / (((n : Int) + 1 : Int) : Rat)))).map vq), e3', e4', e5', e6', .un, .un])
  | [], acc, e3, e4, e5, e6, _, _ => ⟨e3, e4, e5, e6, by rw [List.map_nil, List.map_nil, List.append_nil]; rfl⟩
  | s :: l, acc, e3, e4, e5, e6, hl, ha => by
    obtain ⟨s1, s2, s3⟩ := hl s List.mem_cons_self
    obtain ⟨i1, i2⟩ := inv_vq24 hn
    obtain ⟨f3, f4, f5, f6, ih⟩ := op_loop (x0 := x0) hn h9 l (acc ++ [s.2.2 * ((rpow s.2.1 (n + 1) - rpow s.1 (n + 1)) * (1 / (((n : Int) + 1 : Int) : Rat)))]) (.im (vq s.1)) (.im (vq s.2.1)) (.im (vq s.2.2)) (.im (vq (rpow s.2.1 (n + 1) - rpow s.1 (n + 1)))) (fun y hy => hl y (List.mem_cons_of_mem _ hy)) (by simp at ha ⊢; omega)
    rw [List.append_assoc] at ih
    refine ⟨f3, f4, f5, f6, ?_⟩
    refine (xforL_nx (G1 := [x0, .im (.int n), .ol (acc.map vq), .im (vq s.1), .im (vq s.2.1), .im (vq s.2.2), e6, .un, .un]) rfl ?_).trans ih
    have r1 := v_w_raised (n := n + 1) s1 (by omega) (by omega)
    have r2 := v_w_raised (n := n + 1) s2 (by omega) (by omega)
    have m1 := v_w_minus (rpow_ht s2 (n + 1)) (rpow_ht s1 (n + 1)) (by omega)
    have hd := (rpow_ht s2 (n + 1)).sub (rpow_ht s1 (n + 1))
    have t1 := v_w_times hd i2 (by omega)
    have t2 := v_w_times s3 (hd.mul i2) (by omega)
    unfold b_w_of_power_1
    rw [xseq_nx (show _ = some (Fl.nx, [x0, .im (.int n), .ol (acc.map vq), .im (vq s.1), .im (vq s.2.1), .im (vq s.2.2), .im (vq (rpow s.2.1 (n + 1) - rpow s.1 (n + 1))), .un, .un]) from xset_e (xcall_ok (xc1 (xcall_ok (xc1 rfl (xc1 (by rfl) xnil_ok)) r2) (xc1 (xcall_ok (xc1 rfl (xc1 (by rfl) xnil_ok)) r1) xnil_ok)) m1) rfl)]
    refine xapp_ok (bs := acc.map vq) (by rfl) (by exact xcall_ok (xc1 rfl (xc1 (xcall_ok (xc1 rfl (xc1 (d := vq (1 / (((n : Int) + 1 : Int) : Rat))) (by rw [← i1]; rfl) xnil_ok)) t1) xnil_ok)) t2) rfl rfl (by rw [List.length_map]; simp only [List.length_cons] at ha; omega) ?_
    rw [List.map_append]
    rfl
theorem v_w_of_power {lo hi : D} {ws : List Wt} {ss : List Sh} {n kp kw : Nat} (hn : n < 24) (hw : ∀ w ∈ ws, Ht w.1 kp ∧ Ht w.2 kw) (hs : ∀ s ∈ ss, Ht s.1 kp ∧ Ht s.2.1 kp ∧ Ht s.2.2 kw)
    (h9 : 1 + (ws.length + ss.length) * (kw + 2 * ((n + 1) * kp + 1) + 1 + 5 + 1) + (kw + 2 * ((n + 1) * kp + 1) + 1 + 5) + kp + kp < 8990) :
    r_w_of_power [.tup [lo, hi, .lst (ws.map wD), .lst (ss.map sD)], .int n] = some (.im (vq (sumQ (ofpL ws ss n)))) ∧ Ht (sumQ (ofpL ws ss n)) (1 + (ws.length + ss.length) * (kw + 2 * ((n + 1) * kp + 1) + 1 + 5 + 1)) := by
  have np : n * kp ≤ (n + 1) * kp := Nat.mul_le_mul (by omega) (Nat.le_refl _)
  have nm : ws.length + ss.length ≤ (ws.length + ss.length) * (kw + 2 * ((n + 1) * kp + 1) + 1 + 5 + 1) := Nat.le_mul_of_pos_right _ (by omega)
  obtain ⟨i1, i2⟩ := inv_vq24 hn
  have hl : ∀ q ∈ ofpL ws ss n, Ht q (kw + 2 * ((n + 1) * kp + 1) + 1 + 5) := fun q hq => by
    rcases List.mem_append.mp hq with h | h
    · obtain ⟨w, hm, rfl⟩ := List.mem_map.mp h
      exact ((hw w hm).2.mul (rpow_ht (hw w hm).1 n)).up (by omega)
    · obtain ⟨s, hm, rfl⟩ := List.mem_map.mp h
      obtain ⟨s1, s2, s3⟩ := hs s hm
      exact (s3.mul (((rpow_ht s2 (n + 1)).sub (rpow_ht s1 (n + 1))).mul i2)).up (by omega)
  have hlen : (ofpL ws ss n).length = ws.length + ss.length := by unfold ofpL; rw [List.length_append, List.length_map, List.length_map]
  have c1 : xlc (xseqI (xop opIx (xv 0) (xc (.int 2)))) (tgt [(tgn 7), (tgn 8)]) xtyes (xcall r_w_times (xcons (xv 8) (xcons (xcall r_w_raised (xcons (xv 7) (xcons (xv 1) xnil))) xnil))) [7, 8] [.im (.tup [lo, hi, .lst (ws.map wD), .lst (ss.map sD)]), .im (.int n), .un, .un, .un, .un, .un, .un, .un] =
      some (.ol (ws.map fun w => vq (w.2 * rpow w.1 n)), [.im (.tup [lo, hi, .lst (ws.map wD), .lst (ss.map sD)]), .im (.int n), .un, .un, .un, .un, .un, .un, .un]) := by
    refine xlc_un (by rfl) rfl rfl rfl (xlcL_en (fun w : Wt => vq (w.2 * rpow w.1 n)) fun w hm => ?_) (by rw [List.length_map]; omega)
    obtain ⟨w1, w2⟩ := hw w hm
    exact ⟨[.im (.tup [lo, hi, .lst (ws.map wD), .lst (ss.map sD)]), .im (.int n), .un, .un, .un, .un, .un, .im (vq w.1), .im (vq w.2)], _, _, rfl, by exact xcall_ok (xc1 rfl (xc1 (xcall_ok (xc1 rfl (xc1 rfl xnil_ok)) (v_w_raised w1 (by omega) (by omega))) xnil_ok)) (v_w_times w2 (rpow_ht w1 n) (by omega)), rfl, rfl⟩
  obtain ⟨f3, f4, f5, f6, c2⟩ := op_loop (x0 := .im (.tup [lo, hi, .lst (ws.map wD), .lst (ss.map sD)])) (kp := kp) (kw := kw) hn (by omega) ss (ws.map fun w => w.2 * rpow w.1 n) .un .un .un .un hs (by rw [List.length_map]; omega)
  rw [show (ws.map fun w => vq (w.2 * rpow w.1 n)) = (ws.map fun w => w.2 * rpow w.1 n).map vq by rw [List.map_map]; rfl] at c1
  have c3 := v_w_sum (d := .lst ((ofpL ws ss n).map vq)) rfl hl (by rw [hlen]; omega)
  refine ⟨?_, (sumQ_ht hl).up (by rw [hlen]; omega)⟩
  refine runF_st rfl ?_
  refine st_nx (by exact xset_e c1 rfl) ?_
  refine st_nx (by exact xfor_ok (ds := ss.map sD) (by rfl) c2) ?_
  exact st_ret (by exact xcall_ok (xc1 rfl xnil_ok) c3)
section
variable {lo hi : Rat} {ws : List Wt} {ss : List Sh} {n : Nat}
theorem nr_power {T : D} {j : Nat} {s : Int} (h : Sg s) {q : Rat} (hq : Ht q 8000) (ht : r_w_of_power [T, .int (j : Int)] = some (.im (vq q))) :
    r_w_no_right [T, .int (n : Int), .tup [.str "power", .int (j : Int), .int s]] = some (.im (.bl (decide (j < n) && decide (s = 1 ∨ s = -1) && decide (s * q.num < 0)))) := by
  refine runF_st rfl ?_
  unfold b_w_no_right
  refine st_nx (G1 := [.im T, .im (.int (n : Int)), .im (.tup [.str "power", .int (j : Int), .int s]), .un, .un, .un, .un, .un, .un, .un, .un, .un, .un, .un, .un]) (by rfl) ?_
  have t0 : xtand (xtest (xop opEq (xop opIx (xv 2) (xc (.int 0))) (xc (.str "power")))) (xtest (xop opEq (xcb cbLen (xcons (xv 2) xnil)) (xc (.int 3)))) [.im T, .im (.int (n : Int)), .im (.tup [.str "power", .int (j : Int), .int s]), .un, .un, .un, .un, .un, .un, .un, .un, .un, .un, .un, .un] = some (true, [.im T, .im (.int (n : Int)), .im (.tup [.str "power", .int (j : Int), .int s]), .un, .un, .un, .un, .un, .un, .un, .un, .un, .un, .un, .un]) := by rfl
  have t1 : xtor (xtnot (xtest (xchain opLe opLt (xc (.int 0)) (xop opIx (xv 2) (xc (.int 1))) (xv 1)))) (xtest (xop (opInB true) (xop opIx (xv 2) (xc (.int 2))) (xtup (xcons (xc (.int 1)) (xcons (xop opSub (xc (.int 0)) (xc (.int 1))) xnil))))) [.im T, .im (.int (n : Int)), .im (.tup [.str "power", .int (j : Int), .int s]), .un, .un, .un, .un, .un, .un, .un, .un, .un, .un, .un, .un] =
      some (!decide (j < n) || !decide (s = 1 ∨ s = -1), [.im T, .im (.int (n : Int)), .im (.tup [.str "power", .int (j : Int), .int s]), .un, .un, .un, .un, .un, .un, .un, .un, .un, .un, .un, .un]) :=
    xtor_b (xtnot_ok (xtest_ok (xchain_ok (x := .im (.int 0)) (y := .im (.int (j : Int))) (z := .im (.int (n : Int))) rfl (by rfl) (le0 j) rfl (ltN j n)))) (xtest_ok (xop_ok (x := .im (.int s)) (y := .im (.tup [.int 1, .int (-1)])) (by rfl) (by rfl) h.inW))
  refine st_rt (G1 := [.im T, .im (.int (n : Int)), .im (.tup [.str "power", .int (j : Int), .int s]), .un, .un, .un, .un, .un, .un, .un, .un, .un, .un, .un, .un]) ?_
  refine Eq.trans (xifs_ok t0) ?_
  rw [if_pos rfl]
  refine (xseq_nx (G1 := [.im T, .im (.int (n : Int)), .im (.tup [.str "power", .int (j : Int), .int s]), .un, .un, .un, .un, .un, .un, .un, .un, .un, .un, .un, .un]) (by rfl)).trans ?_
  by_cases z : (decide (j < n) && decide (s = 1 ∨ s = -1)) = true
  · rw [← Bool.not_and, z] at t1
    rw [z, Bool.true_and]
    refine (xseq_nx (G1 := [.im T, .im (.int (n : Int)), .im (.tup [.str "power", .int (j : Int), .int s]), .un, .un, .un, .un, .un, .un, .un, .un, .un, .un, .un, .un]) (by exact (xifs_ok t1).trans rfl)).trans ?_
    refine xret_ok ?_
    have s4 : Sm s 4 := by rcases h with rfl | rfl | rfl | rfl <;> (unfold Sm; decide)
    have om : opMul (.int s) (.int q.num) = some (.im (.int (s * q.num))) := if_pos (s4.okMul hq.1 (by decide))
    exact xo2 (x := .int (s * q.num)) (y := .int 0) (xo2 (x := .int s) (y := .int q.num) (by rfl) (xo2 (x := vq q) (y := .int 0) (xcall_ok (xc1 rfl (xc1 (by rfl) xnil_ok)) ht) rfl rfl) om) rfl rfl
  · rw [Bool.not_eq_true] at z
    rw [← Bool.not_and, z] at t1
    rw [z, Bool.false_and]
    exact xseq_rt (by exact (xifs_ok t1).trans rfl)
theorem nr_at {T d : D} {t : Rat} {b : Bool} {kw : Nat} (hT : opIx T (.int 2) = some (.im (.lst (ws.map wD)))) (hi : r_w_inside [T, .tup [d]] = some (.im (if b then .lst [vq t] else .non))) (hk : ∀ w ∈ ws, Ht w.2 kw) (hn9 : ws.length ≤ 100) (h9 : 1 + ws.length * (kw + 1) + kw < 8990) :
    r_w_no_right [T, .int (n : Int), .tup [.str "at", d]] = some (.im (.bl (decide (n = 0) && b && decide ((wAt ws t).num < 0)))) := by
  refine runF_st rfl ?_
  unfold b_w_no_right
  refine st_nx (G1 := [.im T, .im (.int (n : Int)), .im (.tup [.str "at", d]), .un, .un, .un, .un, .un, .un, .un, .un, .un, .un, .un, .un]) (by rfl) ?_
  refine st_nx (G1 := [.im T, .im (.int (n : Int)), .im (.tup [.str "at", d]), .un, .un, .un, .un, .un, .un, .un, .un, .un, .un, .un, .un]) (by rfl) ?_
  refine st_nx (by exact xset_e (xcall_ok (xc1 rfl (xc1 (d := .tup [d]) (by rfl) xnil_ok)) hi) rfl) ?_
  cases b
  · rw [Bool.and_false]
    exact st_rt (G1 := [.im T, .im (.int (n : Int)), .im (.tup [.str "at", d]), .im .non, .un, .un, .un, .un, .un, .un, .un, .un, .un, .un, .un]) (by rfl)
  · refine st_nx (G1 := [.im T, .im (.int (n : Int)), .im (.tup [.str "at", d]), .im (.lst [vq t]), .un, .un, .un, .un, .un, .un, .un, .un, .un, .un, .un]) (by rfl) ?_
    refine st_nx (G1 := [.im T, .im (.int (n : Int)), .im (.tup [.str "at", d]), .im (.lst [vq t]), .un, .un, .un, .un, .un, .un, .un, .un, .un, .un, .un]) (by rfl) ?_
    rw [Bool.and_true]
    have t1 : xtest (xop opEq (xv 1) (xc (.int 0))) [.im T, .im (.int (n : Int)), .im (.tup [.str "at", d]), .im (.lst [vq t]), .un, .un, .un, .un, .un, .un, .un, .un, .un, .un, .un] = some (decide (n = 0), [.im T, .im (.int (n : Int)), .im (.tup [.str "at", d]), .im (.lst [vq t]), .un, .un, .un, .un, .un, .un, .un, .un, .un, .un, .un]) := by
      show some (decide ((n : Int) = (0 : Int)), _) = _
      rw [decide_eq_decide.mpr (show ((n : Int) = (0 : Int)) ↔ n = 0 by omega)]
    by_cases hn : n = 0
    · rw [decide_eq_true hn] at t1 ⊢
      refine st_rt (G1 := [.im T, .im (.int (n : Int)), .im (.tup [.str "at", d]), .im (.lst [vq t]), .un, .un, .un, .un, .un, .un, .un, .un, .un, .un, .un]) ?_
      refine Eq.trans (xifs_ok (k := true) (xtand_b (k := true) (by rfl) (xtand_b (k := true) (by rfl) t1))) ?_
      rw [if_pos rfl]
      refine xret_ok ?_
      rw [Bool.true_and]
      have c : xlc (xseqI (xop opIx (xv 0) (xc (.int 2)))) (tgt [(tgn 12), (tgn 13)]) (xtest (xop opEq (xv 12) (xop opIx (xv 3) (xc (.int 0))))) (xv 13) [12, 13] [.im T, .im (.int (n : Int)), .im (.tup [.str "at", d]), .im (.lst [vq t]), .un, .un, .un, .un, .un, .un, .un, .un, .un, .un, .un] =
          some (.ol ((ws.filter fun w => decide (w.1 = t)).map fun w => vq w.2), [.im T, .im (.int (n : Int)), .im (.tup [.str "at", d]), .im (.lst [vq t]), .un, .un, .un, .un, .un, .un, .un, .un, .un, .un, .un]) := by
        refine xlc_un (ds := ws.map wD) (xseqI_ok (xo2 (x := T) (y := .int 2) rfl rfl hT) rfl) rfl rfl rfl (xlcL_fm (fun w : Wt => decide (w.1 = t)) (fun w => vq w.2) fun w hm => ?_) (by rw [List.length_map]; have := List.length_filter_le (fun w : Wt => decide (w.1 = t)) ws; omega)
        exact ⟨[.im T, .im (.int (n : Int)), .im (.tup [.str "at", d]), .im (.lst [vq t]), .un, .un, .un, .un, .un, .un, .un, .un, .im (vq w.1), .im (vq w.2), .un], _, rfl, xtest_ok (xo2 (y := vq t) rfl (by rfl) (eq_vq w.1 t)), fun _ => rfl, fun _ => ⟨_, _, rfl, rfl, rfl⟩⟩
      have e : (ws.filter fun w => decide (w.1 = t)).map (fun w => vq w.2) = ((ws.filter fun w => decide (w.1 = t)).map (·.2)).map vq := by
        rw [List.map_map]
        rfl
      rw [e] at c
      have sm := v_w_sum (d := .lst (((ws.filter fun w => decide (w.1 = t)).map (·.2)).map vq)) (k := kw) rfl (fun q hq => by
        obtain ⟨w, hw, rfl⟩ := List.mem_map.mp hq
        exact hk w (List.mem_filter.mp hw).1) (by
        have := Nat.mul_le_mul (List.length_filter_le (fun w : Wt => decide (w.1 = t)) ws) (Nat.le_refl (kw + 1))
        rw [List.length_map]
        omega)
      exact xo2 (x := .int (wAt ws t).num) (y := .int 0) (xo2 (x := vq (wAt ws t)) (y := .int 0) (xcall_ok (xcw c xnil_ok) sm) rfl rfl) rfl rfl
    · rw [decide_eq_false hn] at t1 ⊢
      refine st_nx (G1 := [.im T, .im (.int (n : Int)), .im (.tup [.str "at", d]), .im (.lst [vq t]), .un, .un, .un, .un, .un, .un, .un, .un, .un, .un, .un]) (by exact (xifs_ok (k := false) (xtand_b (k := true) (by rfl) (xtand_b (k := true) (by rfl) t1))).trans rfl) ?_
      exact st_rt (G1 := [.im T, .im (.int (n : Int)), .im (.tup [.str "at", d]), .im (.lst [vq t]), .un, .un, .un, .un, .un, .un, .un, .un, .un, .un, .un]) (by rfl)
theorem nr_loop {T : D} {s t : Rat} {x1 x2 x4 : Ent} {k kw : Nat} (hs : Ht s k) (ht : Ht t k) (h9 : kw + k + k + 1 < 8990) : ∀ (l : List Sh) (acc : List Rat) (e6 e7 e8 e9 e10 : Ent), (∀ x ∈ l, Ht x.1 k ∧ Ht x.2.1 k ∧ Ht x.2.2 kw) → acc.length + l.length ≤ 1000 →
    ∃ f6 f7 f8 f9 f10, xforL (tgt [(tgn 6), (tgn 7), (tgn 8)]) b_w_no_right_1 (l.map sD) [.im T, x1, x2, .im (.lst [vq s, vq t]), x4, .ol (acc.map vq), e6, e7, e8, e9, e10, .un, .un, .un, .un] = some (.nx, [.im T, x1, x2, .im (.lst [vq s, vq t]), x4, .ol ((acc ++ bS s t l).map vq), f6, f7, f8, f9, f10, .un, .un, .un, .un])
  | [], acc, e6, e7, e8, e9, e10, _, _ => ⟨e6, e7, e8, e9, e10, by rw [show bS s t [] = [] from rfl, List.append_nil]; rfl⟩
  | x :: l, acc, e6, e7, e8, e9, e10, hl, ha => by
    rw [List.length_cons] at ha
    obtain ⟨a, b, c⟩ := hl x List.mem_cons_self
    have hl' : ∀ y ∈ l, Ht y.1 k ∧ Ht y.2.1 k ∧ Ht y.2.2 kw := fun y hy => hl y (List.mem_cons_of_mem _ hy)
    have hL := bLo_ht hs a
    have hH := bHi_ht ht b
    have s9 : xset 9 (xif (xtru (xcall r_w_is_less (xcons (xv 6) (xcons (xop opIx (xv 3) (xc (.int 0))) xnil)))) (xop opIx (xv 3) (xc (.int 0))) (xv 6)) [.im T, x1, x2, .im (.lst [vq s, vq t]), x4, .ol (acc.map vq), .im (vq x.1), .im (vq x.2.1), .im (vq x.2.2), e9, e10, .un, .un, .un, .un] = some (.nx, [.im T, x1, x2, .im (.lst [vq s, vq t]), x4, .ol (acc.map vq), .im (vq x.1), .im (vq x.2.1), .im (vq x.2.2), .im (vq (bLo s x)), e10, .un, .un, .un, .un]) :=
      xset_e ((xif_ok (xtrub (xcall_ok (xc1 rfl (xc1 (d := vq s) (by rfl) xnil_ok)) (v_w_is_less a hs (by omega))))).trans (by exact bLo_if s x _)) rfl
    have s10 : xset 10 (xif (xtru (xcall r_w_is_less (xcons (xv 7) (xcons (xop opIx (xv 3) (xc (.int 1))) xnil)))) (xv 7) (xop opIx (xv 3) (xc (.int 1)))) [.im T, x1, x2, .im (.lst [vq s, vq t]), x4, .ol (acc.map vq), .im (vq x.1), .im (vq x.2.1), .im (vq x.2.2), .im (vq (bLo s x)), e10, .un, .un, .un, .un] = some (.nx, [.im T, x1, x2, .im (.lst [vq s, vq t]), x4, .ol (acc.map vq), .im (vq x.1), .im (vq x.2.1), .im (vq x.2.2), .im (vq (bLo s x)), .im (vq (bHi t x)), .un, .un, .un, .un]) :=
      xset_e ((xif_ok (xtrub (xcall_ok (xc1 rfl (xc1 (d := vq t) (by rfl) xnil_ok)) (v_w_is_less b ht (by omega))))).trans (by exact bHi_if t x _)) rfl
    have tt : xtru (xcall r_w_is_less (xcons (xv 9) (xcons (xv 10) xnil))) [.im T, x1, x2, .im (.lst [vq s, vq t]), x4, .ol (acc.map vq), .im (vq x.1), .im (vq x.2.1), .im (vq x.2.2), .im (vq (bLo s x)), .im (vq (bHi t x)), .un, .un, .un, .un] = some (decide (bLo s x < bHi t x), [.im T, x1, x2, .im (.lst [vq s, vq t]), x4, .ol (acc.map vq), .im (vq x.1), .im (vq x.2.1), .im (vq x.2.2), .im (vq (bLo s x)), .im (vq (bHi t x)), .un, .un, .un, .un]) :=
      xtrub (xcall_ok (xc1 rfl (xc1 rfl xnil_ok)) (v_w_is_less hL hH (by omega)))
    by_cases z : bLo s x < bHi t x
    · obtain ⟨f6, f7, f8, f9, f10, ih⟩ := nr_loop (T := T) (x1 := x1) (x2 := x2) (x4 := x4) hs ht h9 l (acc ++ [x.2.2 * (bHi t x - bLo s x)]) (.im (vq x.1)) (.im (vq x.2.1)) (.im (vq x.2.2)) (.im (vq (bLo s x))) (.im (vq (bHi t x))) hl' (by rw [List.length_append, List.length_singleton]; omega)
      rw [List.append_assoc] at ih
      have e : bS s t (x :: l) = x.2.2 * (bHi t x - bLo s x) :: bS s t l := by
        show (if bLo s x < bHi t x then _ else _) = _
        rw [if_pos z]
      rw [e]
      refine ⟨f6, f7, f8, f9, f10, (xforL_nx (G1 := [.im T, x1, x2, .im (.lst [vq s, vq t]), x4, .ol (acc.map vq), .im (vq x.1), .im (vq x.2.1), .im (vq x.2.2), e9, e10, .un, .un, .un, .un]) rfl ?_).trans ih⟩
      unfold b_w_no_right_1
      rw [xseq_nx s9, xseq_nx s10, xifs_ok tt, decide_eq_true z, if_pos rfl]
      refine xapp_ok (bs := acc.map vq) (by rfl) (by exact xcall_ok (xc1 rfl (xc1 (xcall_ok (xc1 rfl (xc1 rfl xnil_ok)) (v_w_minus hH hL (by omega))) xnil_ok)) (v_w_times c (hH.sub hL) (by omega))) rfl rfl (by rw [List.length_map]; omega) ?_
      rw [List.map_append]
      rfl
    · obtain ⟨f6, f7, f8, f9, f10, ih⟩ := nr_loop (T := T) (x1 := x1) (x2 := x2) (x4 := x4) hs ht h9 l acc (.im (vq x.1)) (.im (vq x.2.1)) (.im (vq x.2.2)) (.im (vq (bLo s x))) (.im (vq (bHi t x))) hl' (by omega)
      have e : bS s t (x :: l) = bS s t l := by
        show (if bLo s x < bHi t x then _ else _) = _
        rw [if_neg z]
      rw [e]
      refine ⟨f6, f7, f8, f9, f10, (xforL_nx (G1 := [.im T, x1, x2, .im (.lst [vq s, vq t]), x4, .ol (acc.map vq), .im (vq x.1), .im (vq x.2.1), .im (vq x.2.2), e9, e10, .un, .un, .un, .un]) rfl ?_).trans ih⟩
      unfold b_w_no_right_1
      rw [xseq_nx s9, xseq_nx s10, xifs_ok tt, decide_eq_false z]
      rfl
end
theorem v_w_factor {bs : Mob} {m : Int} (hb : Bx bs) (hm : 0 < m) (hm9 : m ≤ 15) : ∃ q bs', r_w_factor bs [.int m] = some (.im (vq q), bs') ∧ Ht q 4 ∧ Bx bs' ∧ Dv 6 90 q := by
  obtain ⟨i, b1, c1, c2, c3, c4⟩ := v_w_choose (m := m) hb hm (by omega)
  obtain ⟨j, b2, d1, d2, d3, d4⟩ := v_w_choose (m := 2) c4 (by decide) (by decide)
  obtain ⟨w, b3, f1, f2, f3⟩ := v_w_one_of (xs := [.int 1, .int 1, .int 2, .int 3]) d4 (by decide) (by decide)
  have hw : ∃ z : Int, w = .int z ∧ z ≠ 0 ∧ Sm z 4 ∧ (z = 1 ∨ z = 2 ∨ z = 3) := by
    simp only [List.mem_cons, List.not_mem_nil, or_false] at f2
    rcases f2 with rfl | rfl | rfl | rfl
    · exact ⟨1, rfl, by decide, by unfold Sm; decide, by decide⟩
    · exact ⟨1, rfl, by decide, by unfold Sm; decide, by decide⟩
    · exact ⟨2, rfl, by decide, by unfold Sm; decide, by decide⟩
    · exact ⟨3, rfl, by decide, by unfold Sm; decide, by decide⟩
  obtain ⟨z, rfl, hz, hz4, hz3⟩ := hw
  have e2 : ∃ t : Int, Sm t 4 ∧ t.natAbs ≤ 15 ∧ xif (xtest (xop opEq (xcallB r_w_choose 0 (xcons (xc (.int 2)) xnil)) (xc (.int 0)))) (xv 2) (xop opSub (xc (.int 0)) (xv 2)) [.bx b1, .im (.int m), .im (.int (1 + i))] = some (.im (.int t), [.bx b2, .im (.int m), .im (.int (1 + i))]) := by
    have t6 : xtest (xop opEq (xcallB r_w_choose 0 (xcons (xc (.int 2)) xnil)) (xc (.int 0))) [.bx b1, .im (.int m), .im (.int (1 + i))] = some (decide (j = 0), [.bx b2, .im (.int m), .im (.int (1 + i))]) :=
      xtest_ok (xo2 (xcallB_ok rfl (xc1 rfl xnil_ok) rfl rfl d1 rfl) rfl rfl)
    by_cases h : j = 0
    · rw [decide_eq_true h] at t6
      exact ⟨1 + i, by unfold Sm; omega, by omega, (xif_ok t6).trans rfl⟩
    · rw [decide_eq_false h] at t6
      exact ⟨0 - (1 + i), by unfold Sm; omega, by omega, (xif_ok t6).trans rfl⟩
  obtain ⟨t, ht, ht15, e2⟩ := e2
  refine ⟨Rat.divInt t z, b3, ?_, ht_divInt hz ht hz4, f3, ?_⟩
  rotate_left
  · refine ⟨by decide, t * (6 / z), ?_, ?_⟩
    · rw [Rat.divInt_eq_div, Rat.intCast_mul]
      rcases hz3 with rfl | rfl | rfl
      · rw [show ((6 / 1 : Int) : Rat) = 6 by decide +kernel, show ((1 : Int) : Rat) = 1 from rfl, show (((6 : Nat) : Int) : Rat) = 6 from rfl]
        grind
      · rw [show ((6 / 2 : Int) : Rat) = 3 by decide +kernel, show ((2 : Int) : Rat) = 2 from rfl, show (((6 : Nat) : Int) : Rat) = 6 from rfl]
        grind
      · rw [show ((6 / 3 : Int) : Rat) = 2 by decide +kernel, show ((3 : Int) : Rat) = 3 from rfl, show (((6 : Nat) : Int) : Rat) = 6 from rfl]
        grind
    · rw [Int.natAbs_mul]
      rcases hz3 with rfl | rfl | rfl
      · exact Nat.le_trans (Nat.mul_le_mul ht15 (Nat.le_refl _)) (by decide)
      · exact Nat.le_trans (Nat.mul_le_mul ht15 (Nat.le_refl _)) (by decide)
      · exact Nat.le_trans (Nat.mul_le_mul ht15 (Nat.le_refl _)) (by decide)
  refine runB_st rfl ?_
  refine sb_nx (G1 := [.bx b1, .im (.int m), .im (.int (1 + i))]) (by exact xset_e (xo2 rfl (xcallB_ok rfl (xc1 rfl xnil_ok) rfl rfl c1 rfl) rfl) rfl) ?_
  exact sb_ret (G1 := [.im (.int m), .im (.int (1 + i))]) (by exact xcall_ok (xc1 e2 (xc1 (xcallB_ok rfl (xcw (xlst_ok (xc1 rfl (xc1 rfl (xc1 rfl (xc1 rfl xnil_ok)))) rfl) xnil_ok) rfl rfl f1 rfl) xnil_ok)) (v_w_low hz hz4 (by decide)))
theorem wo_loop {x0 : Ent} {k : Nat} (h9 : k + k < 8990) : ∀ (l acc : List Rat) (e2 e3 : Ent), acc.Pairwise (· < ·) → (∀ q ∈ l, Ht q k) → (∀ q ∈ acc, Ht q k) → acc.length + l.length ≤ 100000 →
    ∃ e2' e3', xforL (tgn 2) b_w_order_1 (l.map vq) [x0, .ol (acc.map vq), e2, e3, .un] = some (.nx, [x0, .ol ((insAll l acc).map vq), e2', e3', .un])
  | [], acc, e2, e3, _, _, _, _ => ⟨e2, e3, rfl⟩
  | x :: l, acc, e2, e3, hs, hl, ha, hn => by
    have hx := hl x List.mem_cons_self
    rw [List.length_cons] at hn
    have hal : (insU x acc).length ≤ acc.length + 1 := insU_len x acc
    obtain ⟨n, en⟩ : ∃ n, n = cntL x acc := ⟨_, rfl⟩
    have hnl : n ≤ acc.length := by rw [en]; exact List.length_filter_le _ _
    obtain ⟨f2, f3, ih⟩ := wo_loop (x0 := x0) h9 l (insU x acc) (.im (vq x)) (.im (.int n)) (insU_sorted hs) (fun q hq => hl q (List.mem_cons_of_mem _ hq)) (fun q hq => by
      rcases mem_insU.mp hq with rfl | h
      · exact hx
      · exact ha q h) (by omega)
    refine ⟨f2, f3, ?_⟩
    refine (xforL_nx (G1 := [x0, .ol (acc.map vq), .im (vq x), e3, .un]) rfl ?_).trans ih
    have c1 : xlcv 1 (tgn 4) (xtru (xcall r_w_is_less (xcons (xv 4) (xcons (xv 2) xnil)))) (xc (.int 1)) [4] [x0, .ol (acc.map vq), .im (vq x), e3, .un] = some (.ol ((acc.filter fun y => decide (y < x)).map fun _ => .int 1), [x0, .ol (acc.map vq), .im (vq x), e3, .un]) := by
      refine xlcv_ok (G1 := [x0, .un, .im (vq x), e3, .un]) rfl rfl rfl rfl rfl (xlcL_fm (fun y : Rat => decide (y < x)) (fun _ => .int 1) fun y hy => ?_) (by rw [List.length_map]; have := List.length_filter_le (fun y : Rat => decide (y < x)) acc; omega) rfl rfl
      exact ⟨[x0, .un, .im (vq x), e3, .im (vq y)], _, rfl, xtrub (by exact xcall_ok (xc1 rfl (xc1 rfl xnil_ok)) (v_w_is_less (ha y hy) hx h9)), fun _ => rfl, fun _ => ⟨_, _, rfl, rfl, rfl⟩⟩
    have c2 : cbLen [.lst ((acc.filter fun y => decide (y < x)).map fun _ => .int 1)] = some (.im (.int n)) := by
      show some (R.im (.int (((acc.filter fun y => decide (y < x)).map fun _ => D.int 1).length : Nat))) = _
      rw [List.length_map, en]
      rfl
    have s1 : xset 3 (xcb cbLen (xcons (xby 1 (xlcv 1 (tgn 4) (xtru (xcall r_w_is_less (xcons (xv 4) (xcons (xv 2) xnil)))) (xc (.int 1)) [4]) (xlc (xseqI (xv 1)) (tgn 4) (xtru (xcall r_w_is_less (xcons (xv 4) (xcons (xv 2) xnil)))) (xc (.int 1)) [4])) xnil)) [x0, .ol (acc.map vq), .im (vq x), e3, .un] =
        some (.nx, [x0, .ol (acc.map vq), .im (vq x), .im (.int n), .un]) := xset_e (xcb_ok (xcw (xby_mu rfl c1) xnil_ok) c2) rfl
    have c3 : cutD (acc.map vq) (some (n : Int)) (some ((n : Int) + 1)) = ((acc.drop n).take 1).map vq := by
      rw [show ((n : Int) + 1) = ((n + 1 : Nat) : Int) from rfl, cut_nat (by omega), ← List.map_drop, ← List.map_take]
      have : n + 1 - n = 1 := by omega
      rw [this]
    have c4 : xby 1 (xslv 1 (xpart (xv 3)) (xpart (xop opAddB (xv 3) (xc (.int 1))))) (xsl slB (xv 1) (xpart (xv 3)) (xpart (xop opAddB (xv 3) (xc (.int 1))))) [x0, .ol (acc.map vq), .im (vq x), .im (.int n), .un] = some (.ol (((acc.drop n).take 1).map vq), [x0, .ol (acc.map vq), .im (vq x), .im (.int n), .un]) := by
      rw [← c3]
      exact xby_mu rfl (xslv_ok rfl rfl rfl rfl rfl)
    have t1 : xtest (xop opNe (xby 1 (xslv 1 (xpart (xv 3)) (xpart (xop opAddB (xv 3) (xc (.int 1))))) (xsl slB (xv 1) (xpart (xv 3)) (xpart (xop opAddB (xv 3) (xc (.int 1)))))) (xlst (xcons (xv 2) xnil))) [x0, .ol (acc.map vq), .im (vq x), .im (.int n), .un] = some (!decide ((acc.drop n).take 1 = [x]), [x0, .ol (acc.map vq), .im (vq x), .im (.int n), .un]) :=
      xtest_ok (xop_ok c4 (y := .ol [vq x]) rfl (ne_lst1 _ x (by rw [List.length_take]; omega)))
    have ei := insU_cnt x hs
    rw [← en] at ei
    unfold b_w_order_1
    rw [xseq_nx s1, xifs_ok t1]
    by_cases h : (acc.drop n).take 1 = [x]
    · rw [if_pos h] at ei
      rw [decide_eq_true h, ei]
      rfl
    · rw [if_neg h] at ei
      rw [decide_eq_false h, ei]
      have om : muIns (acc.map vq) [.int n, vq x] = some (.non, (acc.take n ++ [x] ++ acc.drop n).map vq) := by
        show (if few (acc.map vq).length && (decide ((0 : Int) ≤ (n : Int)) && okR (n : Int)) then some (D.non, (acc.map vq).take (n : Int).toNat ++ [vq x] ++ (acc.map vq).drop (n : Int).toNat) else none) = _
        rw [fewl (by rw [List.length_map]; omega), decide_eq_true (by omega : (0 : Int) ≤ (n : Int)), okR_of (by omega) (by omega), Int.toNat_natCast, List.map_append, List.map_append, List.map_take, List.map_drop]
        rfl
      exact xdrop_ok (xmut_ok rfl (xc1 rfl (xc1 rfl xnil_ok)) rfl rfl om rfl)
theorem v_w_order {d : D} {l : List Rat} {k : Nat} (hd : seqD d = some (l.map vq)) (hl : ∀ q ∈ l, Ht q k) (h9 : k + k < 8990) (hf : l.length ≤ 100000) : r_w_order [d] = some (.ol ((asc l).map vq)) := by
  obtain ⟨e2, e3, h1⟩ := wo_loop (x0 := .im d) h9 l [] .un .un .nil hl (by simp) (by simpa using hf)
  rw [insAll_asc] at h1
  refine runF_st rfl ?_
  refine st_nx (G1 := [.im d, .ol [], .un, .un, .un]) (by rfl) ?_
  refine st_nx (by exact xfor_ok (xseqI_ok rfl hd) h1) ?_
  exact st_ret rfl
/-- a value of the stretch by twelfths -/
def Uz (lo hi q : Rat) : Prop := ∃ u : Rat, q = lo + (hi - lo) * u ∧ Dv 12 12 u
theorem v_w_spotU {bs : Mob} {lo hi : Rat} (hb : Bx bs) (h1 : Ht lo 2) (h2 : Ht hi 5) (hl : lo < hi) (dl : Dv 2 4 lo) (dw : Dv 2 4 (hi - lo)) : ∃ q bs', r_w_spot bs [vq lo, vq hi] = some (.im (vq q), bs') ∧ Ht q 14 ∧ lo ≤ q ∧ q ≤ hi ∧ Bx bs' ∧ Dv 24 96 q ∧ Uz lo hi q := by
  obtain ⟨d, b1, c1, c2, c3⟩ := v_w_one_of (xs := [.int 1, .int 2, .int 2, .int 3, .int 4]) hb (by decide) (by decide)
  have hz : ∃ z : Int, d = .int z ∧ 0 < z ∧ z ≤ 4 := by
    simp only [List.mem_cons, List.not_mem_nil, or_false] at c2
    rcases c2 with rfl | rfl | rfl | rfl | rfl
    · exact ⟨1, rfl, by decide, by decide⟩
    · exact ⟨2, rfl, by decide, by decide⟩
    · exact ⟨2, rfl, by decide, by decide⟩
    · exact ⟨3, rfl, by decide, by decide⟩
    · exact ⟨4, rfl, by decide, by decide⟩
  obtain ⟨z, rfl, z0, z4⟩ := hz
  obtain ⟨i, b2, d1, d2, d3, d4⟩ := v_w_choose (m := z + 1) c3 (by omega) (by omega)
  have hp : Ht (Rat.divInt i z) 3 := ht_divInt (by omega) (by unfold Sm; omega) (by unfold Sm; omega)
  have hzr : (0 : Rat) < (z : Rat) := Rat.intCast_lt_intCast.mpr z0
  have hir : (0 : Rat) ≤ (i : Rat) := Rat.intCast_le_intCast.mpr d2
  have hiz : (i : Rat) ≤ (z : Rat) := Rat.intCast_le_intCast.mpr (by omega)
  have p0 : 0 ≤ Rat.divInt i z ∧ Rat.divInt i z ≤ 1 := by
    rw [Rat.divInt_eq_div]
    have e : (i : Rat) / (z : Rat) * (z : Rat) = (i : Rat) := Rat.div_mul_cancel (by grind)
    generalize (i : Rat) / (z : Rat) = p at e
    constructor
    · refine Rat.le_of_mul_le_mul_right (c := (z : Rat)) ?_ hzr
      grind
    · refine Rat.le_of_mul_le_mul_right (c := (z : Rat)) ?_ hzr
      grind
  have hd := h2.sub h1
  have dp : Dv 12 12 (Rat.divInt i z) := by
    have zc : z = 1 ∨ z = 2 ∨ z = 3 ∨ z = 4 := by omega
    have key : ∀ a b : Nat, b ≤ 4 → 0 < b → a ≤ b → Dv 12 12 (Rat.divInt (a : Int) (b : Int)) := fun a b hb4 hb0 hab => by
      have bc : b = 1 ∨ b = 2 ∨ b = 3 ∨ b = 4 := by omega
      have ac : a = 0 ∨ a = 1 ∨ a = 2 ∨ a = 3 ∨ a = 4 := by omega
      refine ⟨by decide, (a : Int) * (12 / (b : Int)), ?_, ?_⟩
      · rcases bc with rfl | rfl | rfl | rfl <;> rcases ac with rfl | rfl | rfl | rfl | rfl <;> decide +kernel
      · rcases bc with rfl | rfl | rfl | rfl <;> omega
    have e1 : ((i.toNat : Nat) : Int) = i := by omega
    have e2 : ((z.toNat : Nat) : Int) = z := by omega
    rw [← e1, ← e2]
    exact key i.toNat z.toNat (by omega) (by omega) (by omega)
  refine ⟨lo + Rat.divInt i z * (hi - lo), b2, ?_, (h1.add (hp.mul hd)).up (by decide), ?_, ?_, d4, (dl.scale (m := 12) (by decide)).add (dp.mul dw), Rat.divInt i z, by grind, dp⟩
  · refine runB_st rfl ?_
    refine sb_nx (G1 := [.bx b1, .im (vq lo), .im (vq hi), .im (.int z), .un]) (by exact xset_e (xcallB_ok rfl (by rfl) rfl rfl c1 rfl) rfl) ?_
    refine sb_nx (G1 := [.bx b2, .im (vq lo), .im (vq hi), .im (.int z), .im (vq (Rat.divInt i z))]) (by exact xset_e (xcall_ok (xc1 (xcallB_ok rfl (xc1 (xo2 rfl rfl rfl) xnil_ok) rfl rfl d1 rfl) (xc1 rfl xnil_ok)) (v_w_low (k := 3) (by omega) (by unfold Sm; omega) (by decide))) rfl) ?_
    exact sb_ret (G1 := [.im (vq lo), .im (vq hi), .im (.int z), .im (vq (Rat.divInt i z))]) (by exact xcall_ok (xc1 rfl (xc1 (xcall_ok (xc1 rfl (xc1 (xcall_ok (xc1 rfl (xc1 rfl xnil_ok)) (v_w_minus h2 h1 (by decide))) xnil_ok)) (v_w_times hp hd (by decide))) xnil_ok)) (v_w_plus h1 (hp.mul hd) (by decide)))
  · have h3 : (0 : Rat) ≤ hi - lo := by grind
    have := Rat.mul_nonneg p0.1 h3
    grind
  · have h3 : (0 : Rat) ≤ hi - lo := by grind
    have := Rat.mul_nonneg (show (0 : Rat) ≤ 1 - Rat.divInt i z by grind) h3
    grind
theorem v_w_stretch {bs : Mob} (hb : Bx bs) : ∃ lo w bs', r_w_stretch bs [] = some (.im (.tup [vq lo, vq (lo + w)]), bs') ∧ Bx bs' ∧ (lo = 0 ∨ lo = -1 ∨ lo = 1 / 2 ∨ lo = 2) ∧ (w = 1 ∨ w = 2 ∨ w = 3 / 2) ∧ Ht lo 2 ∧ Ht (lo + w) 5 ∧ lo < lo + w := by
  obtain ⟨d, b1, c1, c2, c3⟩ := v_w_one_of (xs := [.tup [.int 0, .int 1], .tup [.int 0, .int 1], .tup [.int (-1), .int 1], .tup [.int 1, .int 2], .tup [.int 2, .int 1]]) hb (by decide) (by decide)
  obtain ⟨e, b2, d1, d2, d3⟩ := v_w_one_of (xs := [.tup [.int 1, .int 1], .tup [.int 1, .int 1], .tup [.int 2, .int 1], .tup [.int 3, .int 2]]) c3 (by decide) (by decide)
  have h1 : ∃ lo : Rat, d = vq lo ∧ (lo = 0 ∨ lo = -1 ∨ lo = 1 / 2 ∨ lo = 2) ∧ Ht lo 2 := by
    simp only [List.mem_cons, List.not_mem_nil, or_false] at c2
    rcases c2 with rfl | rfl | rfl | rfl | rfl
    · exact ⟨0, rfl, by simp, ht_of _ (n := 0) (d := 1) (by decide +kernel) (by decide +kernel) (by decide) (by decide)⟩
    · exact ⟨0, rfl, by simp, ht_of _ (n := 0) (d := 1) (by decide +kernel) (by decide +kernel) (by decide) (by decide)⟩
    · exact ⟨-1, rfl, by simp, ht_of _ (n := -1) (d := 1) (by decide +kernel) (by decide +kernel) (by decide) (by decide)⟩
    · refine ⟨1 / 2, ?_, by simp, ht_of _ (n := 1) (d := 2) (by decide +kernel) (by decide +kernel) (by decide) (by decide)⟩
      unfold vq
      rw [show (1 / 2 : Rat).num = 1 by decide +kernel, show (1 / 2 : Rat).den = 2 by decide +kernel]
      rfl
    · exact ⟨2, rfl, by simp, ht_of _ (n := 2) (d := 1) (by decide +kernel) (by decide +kernel) (by decide) (by decide)⟩
  have h2 : ∃ w : Rat, e = vq w ∧ (w = 1 ∨ w = 2 ∨ w = 3 / 2) ∧ Ht w 2 ∧ 0 < w := by
    simp only [List.mem_cons, List.not_mem_nil, or_false] at d2
    rcases d2 with rfl | rfl | rfl | rfl
    · exact ⟨1, rfl, by simp, ht_of _ (n := 1) (d := 1) (by decide +kernel) (by decide +kernel) (by decide) (by decide), by decide +kernel⟩
    · exact ⟨1, rfl, by simp, ht_of _ (n := 1) (d := 1) (by decide +kernel) (by decide +kernel) (by decide) (by decide), by decide +kernel⟩
    · exact ⟨2, rfl, by simp, ht_of _ (n := 2) (d := 1) (by decide +kernel) (by decide +kernel) (by decide) (by decide), by decide +kernel⟩
    · refine ⟨3 / 2, ?_, by simp, ht_of _ (n := 3) (d := 2) (by decide +kernel) (by decide +kernel) (by decide) (by decide), by decide +kernel⟩
      unfold vq
      rw [show (3 / 2 : Rat).num = 3 by decide +kernel, show (3 / 2 : Rat).den = 2 by decide +kernel]
      rfl
  obtain ⟨lo, rfl, l1, l2⟩ := h1
  obtain ⟨w, rfl, w1, w2, w3⟩ := h2
  refine ⟨lo, w, b2, ?_, d3, l1, w1, l2, l2.add w2, by grind⟩
  refine runB_st rfl ?_
  refine sb_nx (G1 := [.bx b1, .im (vq lo)]) (by exact xset_e (xcallB_ok rfl (by rfl) rfl rfl c1 rfl) rfl) ?_
  exact sb_ret (G1 := [.im (vq lo)]) (by exact xtup_ok (xc1 rfl (xc1 (xcall_ok (xc1 rfl (xc1 (xcallB_ok rfl (by rfl) rfl rfl d1 rfl) xnil_ok)) (v_w_plus l2 w2 (by decide))) xnil_ok)) rfl)
theorem v_w_ruleU {bs : Mob} {m p : Nat} (hb : Bx bs) (hm : m ≤ 20) (hp : p ≤ 20) : ∃ lo hi ws ss bs', r_w_rule bs [.int m, .int p] = some (.im (.tup [vq lo, vq hi, .lst (ws.map wD), .lst (ss.map sD)]), bs') ∧ Bx bs' ∧ Drn lo hi ws ss m p ∧ Rw lo hi ws ss 24 96 6 90 m p ∧ Dv 2 4 (hi - lo) ∧ (hi - lo = 1 ∨ hi - lo = 2 ∨ hi - lo = 3 / 2) ∧ Dv 2 4 lo ∧ (∀ w ∈ ws, Uz lo hi w.1) ∧ ∀ s ∈ ss, Uz lo hi s.1 ∧ Uz lo hi s.2.1 := by
  obtain ⟨lo, w, b1, c1, hb1, hlv, hwv, hlo, hhi, hlt⟩ := v_w_stretch hb
  have dlo : Dv 2 4 lo := by
    rcases hlv with rfl | rfl | rfl | rfl
    · exact ⟨by decide, 0, by decide +kernel, by decide⟩
    · exact ⟨by decide, -2, by decide +kernel, by decide⟩
    · exact ⟨by decide, 1, by decide +kernel, by decide⟩
    · exact ⟨by decide, 4, by decide +kernel, by decide⟩
  have dwd : Dv 2 4 (lo + w - lo) := by
    rw [show lo + w - lo = w by grind]
    rcases hwv with rfl | rfl | rfl
    · exact ⟨by decide, 2, by decide +kernel, by decide⟩
    · exact ⟨by decide, 4, by decide +kernel, by decide⟩
    · exact ⟨by decide, 3, by decide +kernel, by decide⟩
  have hw3 : lo + w - lo = 1 ∨ lo + w - lo = 2 ∨ lo + w - lo = 3 / 2 := by
    rw [show lo + w - lo = w by grind]
    exact hwv
  generalize lo + w = hi at c1 hhi hlt dwd hw3
  obtain ⟨i, b2, d1, d2, d3, hb2⟩ := v_w_choose (m := (m : Int) + 1) hb1 (by omega) (by omega)
  obtain ⟨out, G', g1, g2, g3, g4⟩ := xlcL_ex (tg := tgn 7) (e := xtup (xcons (xcallB r_w_spot 0 (xcons (xv 3) (xcons (xv 4) xnil))) (xcons (xcallB r_w_factor 0 (xcons (xc (.int 4)) xnil)) xnil))) (vs := [7])
    (fun G => ∃ bs, Bx bs ∧ G = [Ent.bx bs, .im (.int m), .im (.int p), .im (vq lo), .im (vq hi), .un, .un, .un, .un]) (fun d => ∃ w : Wt, d = wD w ∧ (Ht w.1 14 ∧ Ht w.2 4 ∧ lo ≤ w.1 ∧ w.1 ≤ hi ∧ (Dv 24 96 w.1 ∧ Uz lo hi w.1) ∧ Dv 6 90 w.2))
    (ds := rng 0 i.toNat) (G := [.bx b2, .im (.int m), .im (.int p), .im (vq lo), .im (vq hi), .un, .un, .un, .un]) ⟨b2, hb2, rfl⟩ (by
      rintro d - G ⟨b, hb, rfl⟩
      obtain ⟨q, b3, q1, q2, q3, q4, hb3, q5⟩ := v_w_spotU hb hlo hhi hlt dlo dwd
      obtain ⟨f, b4, f1, f2, hb4, f3⟩ := v_w_factor (m := 4) hb3 (by decide) (by decide)
      refine ⟨_, _, _, rfl, by exact xtup_ok (xc1 (xcallB_ok rfl (xc1 rfl (xc1 rfl xnil_ok)) rfl rfl q1 rfl) (xc1 (xcallB_ok rfl (xc1 rfl xnil_ok) rfl rfl f1 rfl) xnil_ok)) rfl, ⟨(q, f), rfl, q2, f2, q3, q4, q5, f3⟩, ⟨b4, hb4, rfl⟩⟩)
  obtain ⟨b3, hb3, rfl⟩ := g2
  obtain ⟨ws, rfl, hws⟩ := enc_of g3
  rw [List.length_map, rng_ln] at g4
  obtain ⟨j, b4, e1, e2, e3, hb4⟩ := v_w_choose (m := (p : Int) + 1) hb3 (by omega) (by omega)
  have turn : ∀ d ∈ rng 0 j.toNat, ∀ (n : Nat) (G : Gam), n < 1000 → (∃ bs, ∃ ss : List Sh, ∃ e7 e8, Bx bs ∧ G = [Ent.bx bs, .im (.int m), .im (.int p), .im (vq lo), .im (vq hi), .ol (ws.map wD), .ol (ss.map sD), e7, e8] ∧ ss.length ≤ n ∧ ∀ s ∈ ss, (Ht s.1 14 ∧ Ht s.2.1 14 ∧ Ht s.2.2 4 ∧ lo ≤ s.1 ∧ s.1 < s.2.1 ∧ s.2.1 ≤ hi) ∧ (Dv 24 96 s.1 ∧ Uz lo hi s.1) ∧ (Dv 24 96 s.2.1 ∧ Uz lo hi s.2.1) ∧ Dv 6 90 s.2.2) →
      ∃ G1 G2, tgn 7 d G = some G1 ∧ b_w_rule_1 G1 = some (.nx, G2) ∧ (∃ bs, ∃ ss : List Sh, ∃ e7 e8, Bx bs ∧ G2 = [Ent.bx bs, .im (.int m), .im (.int p), .im (vq lo), .im (vq hi), .ol (ws.map wD), .ol (ss.map sD), e7, e8] ∧ ss.length ≤ n + 1 ∧ ∀ s ∈ ss, (Ht s.1 14 ∧ Ht s.2.1 14 ∧ Ht s.2.2 4 ∧ lo ≤ s.1 ∧ s.1 < s.2.1 ∧ s.2.1 ≤ hi) ∧ (Dv 24 96 s.1 ∧ Uz lo hi s.1) ∧ (Dv 24 96 s.2.1 ∧ Uz lo hi s.2.1) ∧ Dv 6 90 s.2.2) := by
    rintro d - n G hn ⟨b, ss, e7, e8, hb, rfl, hl, hs⟩
    obtain ⟨x, b5, x1, x2, x3, x4, hb5, x5⟩ := v_w_spotU hb hlo hhi hlt dlo dwd
    obtain ⟨y, b6, y1, y2, y3, y4, hb6, y5⟩ := v_w_spotU hb5 hlo hhi hlt dlo dwd
    have o1 := v_w_order (d := .lst [vq x, vq y]) (l := [x, y]) (k := 14) rfl (fun q hq => by
      simp only [List.mem_cons, List.not_mem_nil, or_false] at hq
      rcases hq with rfl | rfl
      · exact x2
      · exact y2) (by decide) (by simp)
    have hs0 := asc_sorted [x, y]
    have hm0 : ∀ q, q ∈ asc [x, y] → Ht q 14 ∧ lo ≤ q ∧ q ≤ hi ∧ (Dv 24 96 q ∧ Uz lo hi q) := fun q hq => by
      have hq := mem_asc.mp hq
      simp only [List.mem_cons, List.not_mem_nil, or_false] at hq
      rcases hq with rfl | rfl
      · exact ⟨x2, x3, x4, x5⟩
      · exact ⟨y2, y3, y4, y5⟩
    have hl0 := asc_len [x, y]
    generalize asc [x, y] = l at o1 hs0 hm0 hl0
    have s8 : xset 8 (xcall r_w_order (xcons (xlst (xcons (xcallB r_w_spot 0 (xcons (xv 3) (xcons (xv 4) xnil))) (xcons (xcallB r_w_spot 0 (xcons (xv 3) (xcons (xv 4) xnil))) xnil))) xnil)) [.bx b, .im (.int m), .im (.int p), .im (vq lo), .im (vq hi), .ol (ws.map wD), .ol (ss.map sD), .im d, e8] =
        some (.nx, [.bx b6, .im (.int m), .im (.int p), .im (vq lo), .im (vq hi), .ol (ws.map wD), .ol (ss.map sD), .im d, .ol (l.map vq)]) :=
      xset_e (xcall_ok (xcw (xlst_ok (xc1 (xcallB_ok rfl (xc1 rfl (xc1 rfl xnil_ok)) rfl rfl x1 rfl) (xc1 (xcallB_ok rfl (xc1 rfl (xc1 rfl xnil_ok)) rfl rfl y1 rfl) xnil_ok)) rfl) xnil_ok) o1) rfl
    match l, hl0 with
    | [], _ => exact ⟨_, _, rfl, (xseq_nx s8).trans rfl, b6, ss, .im d, .im (.lst []), hb6, rfl, by omega, hs⟩
    | [z], _ => exact ⟨_, _, rfl, (xseq_nx s8).trans rfl, b6, ss, .im d, .im (.lst [vq z]), hb6, rfl, by omega, hs⟩
    | [z, t], _ =>
      obtain ⟨f, b7, f1, f2, hb7, f5⟩ := v_w_factor (m := 3) hb6 (by decide) (by decide)
      obtain ⟨z1, z2, z3, z5⟩ := hm0 z (by simp)
      obtain ⟨t1, t2, t3, t5⟩ := hm0 t (by simp)
      have hzt : z < t := (List.pairwise_cons.mp hs0).1 t (by simp)
      have tt : xtest (xop opEq (xcb cbLen (xcons (xv 8) xnil)) (xc (.int 2))) [.bx b6, .im (.int m), .im (.int p), .im (vq lo), .im (vq hi), .ol (ws.map wD), .ol (ss.map sD), .im d, .ol ([z, t].map vq)] =
          some (true, [.bx b6, .im (.int m), .im (.int p), .im (vq lo), .im (vq hi), .ol (ws.map wD), .ol (ss.map sD), .im d, .im (.lst [vq z, vq t])]) := rfl
      have ap : xapp 6 (xtup (xcons (xop opIx (xv 8) (xc (.int 0))) (xcons (xop opIx (xv 8) (xc (.int 1))) (xcons (xcallB r_w_factor 0 (xcons (xc (.int 3)) xnil)) xnil)))) [.bx b6, .im (.int m), .im (.int p), .im (vq lo), .im (vq hi), .ol (ws.map wD), .ol (ss.map sD), .im d, .im (.lst [vq z, vq t])] =
          some (.nx, [.bx b7, .im (.int m), .im (.int p), .im (vq lo), .im (vq hi), .ol (ws.map wD), .ol ((ss ++ [(z, t, f)]).map sD), .im d, .im (.lst [vq z, vq t])]) := by
        refine xapp_ok (bs := ss.map sD) rfl (by exact xtup_ok (xc1 (d := vq z) (by rfl) (xc1 (d := vq t) (by rfl) (xc1 (xcallB_ok rfl (xc1 rfl xnil_ok) rfl rfl f1 rfl) xnil_ok))) rfl) rfl rfl (by rw [List.length_map]; omega) ?_
        rw [List.map_append]
        rfl
      refine ⟨_, _, rfl, (xseq_nx s8).trans ((xifs_ok tt).trans ap), b7, ss ++ [(z, t, f)], .im d, .im (.lst [vq z, vq t]), hb7, rfl, by rw [List.length_append, List.length_singleton]; omega, fun s hsm => ?_⟩
      rcases List.mem_append.mp hsm with h | h
      · exact hs s h
      · rw [List.mem_singleton.mp h]
        exact ⟨⟨z1, t1, f2, z2, hzt, t3⟩, z5, t5, f5⟩
    | _ :: _ :: _ :: _, h => simp at h
  obtain ⟨G', k1, b5, ss, e7, e8, hb5, rfl, k2, k3⟩ := xforL_cnt (tg := tgn 7) (fun (n : Nat) G => ∃ bs, ∃ ss : List Sh, ∃ e7 e8, Bx bs ∧ G = [Ent.bx bs, .im (.int m), .im (.int p), .im (vq lo), .im (vq hi), .ol (ws.map wD), .ol (ss.map sD), e7, e8] ∧ ss.length ≤ n ∧ ∀ s ∈ ss, (Ht s.1 14 ∧ Ht s.2.1 14 ∧ Ht s.2.2 4 ∧ lo ≤ s.1 ∧ s.1 < s.2.1 ∧ s.2.1 ≤ hi) ∧ (Dv 24 96 s.1 ∧ Uz lo hi s.1) ∧ (Dv 24 96 s.2.1 ∧ Uz lo hi s.2.1) ∧ Dv 6 90 s.2.2) 1000 (ds := rng 0 j.toNat) (n := 0)
    (G := [.bx b4, .im (.int m), .im (.int p), .im (vq lo), .im (vq hi), .ol (ws.map wD), .ol [], .un, .un]) ⟨b4, [], .un, .un, hb4, rfl, Nat.le_refl _, by simp⟩ turn (by rw [rng_ln]; omega)
  rw [rng_ln] at k2
  have dhi : Dv 24 96 hi := by
    have h1 := (dlo.scale (m := 12) (by decide)).add (dwd.scale (m := 12) (by decide))
    rw [show lo + (hi - lo) = hi by grind] at h1
    exact h1
  refine ⟨lo, hi, ws, ss, b5, ?_, hb5, ⟨hlo, hhi, hlt, fun w hw => ?_, fun s hs => (k3 s hs).1, by omega, by omega⟩, ⟨hlt, (dlo.scale (m := 12) (by decide)).up (by decide), dhi, fun w hw => ?_, fun s hs => ?_, by omega, by omega, by decide⟩, dwd, hw3, dlo, fun w hw => (hws w hw).2.2.2.2.1.2, fun s hs => ⟨(k3 s hs).2.1.2, (k3 s hs).2.2.1.2⟩⟩
  rotate_left
  · obtain ⟨a, b, c, d, _⟩ := hws w hw
    exact ⟨a, b, c, d⟩
  · obtain ⟨a, b, c, d, e, f⟩ := hws w hw
    exact ⟨e.1, f, c, d⟩
  · obtain ⟨⟨_, _, _, a, b, c⟩, d, e, f⟩ := k3 s hs
    exact ⟨d.1, e.1, f, a, b, c⟩
  refine runB_st rfl ?_
  refine sb_nx (G1 := [.bx b1, .im (.int m), .im (.int p), .im (vq lo), .im (vq hi), .un, .un, .un, .un]) (by exact xasg_ok (xcallB_ok rfl xnil_ok rfl rfl c1 rfl) rfl) ?_
  have s5r : xrange1 (xcons (xcallB r_w_choose 0 (xcons (xop opAddB (xv 1) (xc (.int 1))) xnil)) xnil) [.bx b1, .im (.int m), .im (.int p), .im (vq lo), .im (vq hi), .un, .un, .un, .un] = some (rng 0 i.toNat, [.bx b2, .im (.int m), .im (.int p), .im (vq lo), .im (vq hi), .un, .un, .un, .un]) :=
    xrange1_ok (xc1 (xcallB_ok rfl (xc1 (by rfl) xnil_ok) rfl rfl d1 rfl) xnil_ok) (okR_of (by omega) (by omega))
  have s5a : xlc (xrange1 (xcons (xcallB r_w_choose 0 (xcons (xop opAddB (xv 1) (xc (.int 1))) xnil)) xnil)) (tgn 7) xtyes (xtup (xcons (xcallB r_w_spot 0 (xcons (xv 3) (xcons (xv 4) xnil))) (xcons (xcallB r_w_factor 0 (xcons (xc (.int 4)) xnil)) xnil))) [7]
      [.bx b1, .im (.int m), .im (.int p), .im (vq lo), .im (vq hi), .un, .un, .un, .un] = some (.ol (ws.map wD), [.bx b3, .im (.int m), .im (.int p), .im (vq lo), .im (vq hi), .un, .un, .un, .un]) :=
    xlc_ok (vs := [7]) s5r rfl g1 (fewl (by rw [List.length_map]; omega))
  have s5 : xset 5 (xlc (xrange1 (xcons (xcallB r_w_choose 0 (xcons (xop opAddB (xv 1) (xc (.int 1))) xnil)) xnil)) (tgn 7) xtyes (xtup (xcons (xcallB r_w_spot 0 (xcons (xv 3) (xcons (xv 4) xnil))) (xcons (xcallB r_w_factor 0 (xcons (xc (.int 4)) xnil)) xnil))) [7])
      [.bx b1, .im (.int m), .im (.int p), .im (vq lo), .im (vq hi), .un, .un, .un, .un] = some (.nx, [.bx b3, .im (.int m), .im (.int p), .im (vq lo), .im (vq hi), .ol (ws.map wD), .un, .un, .un]) :=
    xset_e s5a rfl
  refine sb_nx (by exact s5) ?_
  refine sb_nx (G1 := [.bx b3, .im (.int m), .im (.int p), .im (vq lo), .im (vq hi), .ol (ws.map wD), .ol [], .un, .un]) (by rfl) ?_
  have s6r : xrange1 (xcons (xcallB r_w_choose 0 (xcons (xop opAddB (xv 2) (xc (.int 1))) xnil)) xnil) [.bx b3, .im (.int m), .im (.int p), .im (vq lo), .im (vq hi), .ol (ws.map wD), .ol [], .un, .un] = some (rng 0 j.toNat, [.bx b4, .im (.int m), .im (.int p), .im (vq lo), .im (vq hi), .ol (ws.map wD), .ol [], .un, .un]) :=
    xrange1_ok (xc1 (xcallB_ok rfl (xc1 (by rfl) xnil_ok) rfl rfl e1 rfl) xnil_ok) (okR_of (by omega) (by omega))
  refine sb_nx (by exact xfor_ok s6r k1) ?_
  exact sb_ret (bs' := b5) (G1 := [.im (.int m), .im (.int p), .im (vq lo), .im (vq hi), .im (.lst (ws.map wD)), .im (.lst (ss.map sD)), e7, e8]) (by rfl)
theorem v_w_ruleW {bs : Mob} {m p : Nat} (hb : Bx bs) (hm : m ≤ 20) (hp : p ≤ 20) : ∃ lo hi ws ss bs', r_w_rule bs [.int m, .int p] = some (.im (.tup [vq lo, vq hi, .lst (ws.map wD), .lst (ss.map sD)]), bs') ∧ Bx bs' ∧ Drn lo hi ws ss m p ∧ Rw lo hi ws ss 24 96 6 90 m p ∧ Dv 2 4 (hi - lo) ∧ (hi - lo = 1 ∨ hi - lo = 2 ∨ hi - lo = 3 / 2) ∧ Dv 2 4 lo := by
  obtain ⟨lo, hi, ws, ss, bs', a, b, c, d, e, f, g, _⟩ := v_w_ruleU hb hm hp
  exact ⟨lo, hi, ws, ss, bs', a, b, c, d, e, f, g⟩
theorem v_w_seed {ns : List Int} {k : Int} (hk : 0 ≤ k) (h9 : k < 64) : ∃ bs, r_w_seed [.frz (ns.map .int), .int k] = some (.ow bs) ∧ Bx bs := by
  have tail : ∀ c : Int, ∃ bs : Mob, Bx bs ∧ outF ((xseq (xset 3 (xif (xtest (xop opGe (xv 2) (xop opPow (xc (.int 10)) (xc (.int 18))))) (xv 2) (xc (.int 0))))
  (xret (xlst (xcons (xv 3) (xcons (xop opAddB (xop opMod (xcb cbInt (xcons (xop opAddB (xop opMul (xop opMod (xcb cbInt (xcons (xv 2) xnil)) (xc (.int 2147483629))) (xc (.int 48271))) (xop opMul (xc (.int 44017)) (xv 1))) xnil)) (xc (.int 2147483629))) (xc (.int 1))) xnil))))) [.im (.frz (ns.map .int)), .im (.int k), .im (.int c), .un]) = some (.ow bs) := fun c => by
    have b1 := fmod_lt c (b := 2147483629) (by decide)
    generalize h1 : c.fmod 2147483629 = w at b1
    have o1 : okMul w 48271 = true := Sm.okMul (k := 33) (l := 17) (by unfold Sm; omega) (by unfold Sm; decide) (by decide)
    have o2 : okMul 44017 k = true := Sm.okMul (k := 17) (l := 7) (by unfold Sm; decide) (by unfold Sm; omega) (by decide)
    have b2 := fmod_lt (w * 48271 + 44017 * k) (b := 2147483629) (by decide)
    generalize h2 : (w * 48271 + 44017 * k).fmod 2147483629 = u at b2
    have e3 : xset 3 (xif (xtest (xop opGe (xv 2) (xop opPow (xc (.int 10)) (xc (.int 18))))) (xv 2) (xc (.int 0))) [.im (.frz (ns.map .int)), .im (.int k), .im (.int c), .un] = some (.nx, [.im (.frz (ns.map .int)), .im (.int k), .im (.int c), .im (.int (if 10 ^ 18 ≤ c then c else 0))]) := by
      have t : xtest (xop opGe (xv 2) (xop opPow (xc (.int 10)) (xc (.int 18)))) [.im (.frz (ns.map .int)), .im (.int k), .im (.int c), .un] = some (decide ((10 : Int) ^ 18 ≤ c), [.im (.frz (ns.map .int)), .im (.int k), .im (.int c), .un]) := xtest_ok (xo2 rfl (xo2 rfl rfl (o_pow (by decide))) rfl)
      by_cases h : (10 : Int) ^ 18 ≤ c
      · rw [decide_eq_true h] at t
        rw [if_pos h]
        exact xset_e ((xif_ok t).trans rfl) rfl
      · rw [decide_eq_false h] at t
        rw [if_neg h]
        exact xset_e ((xif_ok t).trans rfl) rfl
    refine ⟨.l [.int (if 10 ^ 18 ≤ c then c else 0), .int (u + 1)], ⟨_, _, rfl, by omega, by omega⟩, ?_⟩
    refine st_nx e3 ?_
    have e4 : xop opAddB (xop opMod (xcb cbInt (xcons (xop opAddB (xop opMul (xop opMod (xcb cbInt (xcons (xv 2) xnil)) (xc (.int 2147483629))) (xc (.int 48271))) (xop opMul (xc (.int 44017)) (xv 1))) xnil)) (xc (.int 2147483629))) (xc (.int 1)) [.im (.frz (ns.map .int)), .im (.int k), .im (.int c), .im (.int (if 10 ^ 18 ≤ c then c else 0))] = some (.im (.int (u + 1)), [.im (.frz (ns.map .int)), .im (.int k), .im (.int c), .im (.int (if 10 ^ 18 ≤ c then c else 0))]) := by
      rw [← h2]
      have e5 : xop opMod (xcb cbInt (xcons (xv 2) xnil)) (xc (.int 2147483629)) [.im (.frz (ns.map .int)), .im (.int k), .im (.int c), .im (.int (if 10 ^ 18 ≤ c then c else 0))] = some (.im (.int w), [.im (.frz (ns.map .int)), .im (.int k), .im (.int c), .im (.int (if 10 ^ 18 ≤ c then c else 0))]) := by
        rw [← h1]
        exact xo2 (xcb_ok (xc1 rfl xnil_ok) rfl) rfl (o_mod (by decide))
      exact xo2 (xo2 (xcb_ok (xc1 (xo2 (xo2 e5 rfl (o_mul o1)) (xo2 rfl rfl (o_mul o2)) rfl) xnil_ok) rfl) rfl (o_mod (by decide))) rfl rfl
    exact st_ret (xlst_ok (xc1 rfl (xc1 e4 xnil_ok)) rfl)
  have cell : ∀ i : Int, 0 ≤ i → i < (ns.length : Int) → ∃ c : Int, opIx (.frz (ns.map .int)) (.int i) = some (.im (.int c)) := fun i h0 h1 => by
    obtain ⟨x, hx, hm⟩ := atI_ok (xs := ns.map D.int) (i := i) h0 (by rw [List.length_map]; exact h1)
    obtain ⟨c, _, rfl⟩ := List.mem_map.mp hm
    refine ⟨c, ?_⟩
    show (atI (ns.map D.int) i).map R.im = _
    rw [hx]
    rfl
  have hlen : cbLen [.frz (ns.map .int)] = some (.im (.int ns.length)) := by
    show some (R.im (.int (((ns.map D.int).length : Nat) : Int))) = _
    rw [List.length_map]
  have om : okMul 8837 k = true := Sm.okMul (k := 15) (l := 7) (by unfold Sm; decide) (by unfold Sm; omega) (by decide)
  have e1 : xset 2 (xop opAddB (xop opMul (xc (.int 8837)) (xv 1)) (xc (.int 71))) [.im (.frz (ns.map .int)), .im (.int k), .un, .un] = some (.nx, [.im (.frz (ns.map .int)), .im (.int k), .im (.int (8837 * k + 71)), .un]) := xset_e (xo2 (xo2 rfl rfl (o_mul om)) rfl rfl) rfl
  have t1 : xtest (xop opLt (xv 1) (xcb cbLen (xcons (xv 0) xnil))) [.im (.frz (ns.map .int)), .im (.int k), .im (.int (8837 * k + 71)), .un] = some (decide (k < (ns.length : Int)), [.im (.frz (ns.map .int)), .im (.int k), .im (.int (8837 * k + 71)), .un]) := xtest_ok (xo2 rfl (xcb_ok (xc1 rfl xnil_ok) hlen) rfl)
  have t2 : xtest (xop opGt (xcb cbLen (xcons (xv 0) xnil)) (xc (.int 0))) [.im (.frz (ns.map .int)), .im (.int k), .im (.int (8837 * k + 71)), .un] = some (decide (0 < (ns.length : Int)), [.im (.frz (ns.map .int)), .im (.int k), .im (.int (8837 * k + 71)), .un]) := xtest_ok (xo2 (xcb_ok (xc1 rfl xnil_ok) hlen) rfl rfl)
  by_cases h : k < (ns.length : Int)
  · rw [decide_eq_true h] at t1
    obtain ⟨c, hc⟩ := cell k hk h
    obtain ⟨bs, hb, ht⟩ := tail (if c < 0 then -c else c)
    exact ⟨bs, runF_st rfl (st_nx (by exact e1) (st_nx (by exact (xifs_ok t1).trans (xset_e (xcb_ok (xc1 (xo2 rfl rfl hc) xnil_ok) rfl) rfl)) ht)), hb⟩
  · rw [decide_eq_false h] at t1
    by_cases h2 : 0 < (ns.length : Int)
    · rw [decide_eq_true h2] at t2
      obtain ⟨f1, f2⟩ := fmod_lt k h2
      obtain ⟨c, hc⟩ := cell (k.fmod ns.length) f1 f2
      have b1 := fmod_lt (if c < 0 then -c else c) (b := 2147483629) (by decide)
      have o1 : okMul ((if c < 0 then -c else c).fmod 2147483629) 46021 = true := Sm.okMul (k := 33) (l := 17) (by unfold Sm; omega) (by unfold Sm; decide) (by decide)
      obtain ⟨bs, hb, ht⟩ := tail (8837 * k + 71 + (if c < 0 then -c else c).fmod 2147483629 * 46021)
      refine ⟨bs, runF_st rfl (st_nx (by exact e1) (st_nx (by exact (xifs_ok t1).trans ((xifs_ok t2).trans (xset_e (xo2 rfl (xo2 (xo2 (xcb_ok (xc1 (xcb_ok (xc1 (xo2 rfl (xo2 (xcb_ok (xc1 rfl xnil_ok) rfl) (xcb_ok (xc1 rfl xnil_ok) hlen) (o_mod (by omega))) hc) xnil_ok) rfl) xnil_ok) rfl) rfl (o_mod (by decide))) rfl (o_mul o1)) rfl) rfl))) ht)), hb⟩
    · rw [decide_eq_false h2] at t2
      obtain ⟨bs, hb, ht⟩ := tail (8837 * k + 71)
      exact ⟨bs, runF_st rfl (st_nx (by exact e1) (st_nx (by exact (xifs_ok t1).trans ((xifs_ok t2).trans rfl)) ht)), hb⟩
theorem v_is_power {n j : Nat} {s : Int} {k : PySem.Str} (h : Sg s) : r_is_power [.int (n : Int), .tup [.str k, .int (j : Int), .int s]] = some (.im (.bl (decide (j < n) && decide (s = 1 ∨ s = -1)))) := by
  refine runF_st rfl ?_
  refine st_nx (G1 := [.im (.int (n : Int)), .im (.tup [.str k, .int (j : Int), .int s])]) (by rfl) ?_
  refine st_ret (G1 := [.im (.int (n : Int)), .im (.tup [.str k, .int (j : Int), .int s])]) ?_
  exact xvand_b (xchain_ok (x := .im (.int 0)) (y := .im (.int (j : Int))) (z := .im (.int (n : Int))) rfl rfl (le0 j) rfl (ltN j n)) (xop_ok (x := .im (.int s)) (y := .im (.tup [.int 1, .int (-1)])) rfl rfl h.inP)
theorem v_is_within {lo hi q : Rat} {ws : List Wt} {ss : List Sh} {d : D} {k l m : Nat} (h : IsV d q) (hq : Ht q k) (h1 : Ht lo l) (h2 : Ht hi m) (h9 : k + l < 8990) (h8 : k + m < 8990) : r_is_within [.obj 0 (rlL lo hi ws ss), d] = some (.im (.bl (!decide (q < lo) && !decide (hi < q)))) := by
  refine runF_st rfl ?_
  refine st_nx (G1 := [.im (.obj 0 (rlL lo hi ws ss)), .im d]) (by exact (xifs_ok (xtnot_ok (xtrub (xcall_ok (xc1 rfl xnil_ok) (v_is_value h))))).trans rfl) ?_
  refine st_ret (G1 := [.im (.obj 0 (rlL lo hi ws ss)), .im d]) ?_
  exact xvand_b (by exact xvnot_ok (xcall_ok (xc1 (xcall_ok (xc1 rfl xnil_ok) (v_value_of h)) (xc1 rfl xnil_ok)) (v_is_less hq h1 (by omega)))) (by exact xvnot_ok (xcall_ok (xc1 rfl (xc1 (xcall_ok (xc1 rfl xnil_ok) (v_value_of h)) xnil_ok)) (v_is_less h2 hq (by omega))))
theorem v_quotient {a b : Rat} {k l : Nat} (ha : Ht a k) (hb : Ht b l) (h0 : b ≠ 0) (h9 : k + l < 8990) : r_quotient [vq a, vq b] = some (.im (vq (a / b))) := by
  rw [← div_divInt]
  exact runF_st rfl (st_ret (xcall_ok (xc1 (xo2 rfl rfl (if_pos (ha.1.okMul hb.2 (by omega)))) (xc1 (xo2 rfl rfl (if_pos (ha.2.okMul hb.1 (by omega)))) xnil_ok)) (v_lowest (Int.mul_ne_zero (den_ne a) (fun h => h0 (Rat.num_eq_zero.mp h))) (ha.2.mul hb.1) (by omega))))
theorem ap_loop {x0 : Ent} {kc ki : Nat} (h9 : kc + ki < 8990) : ∀ (cs : List Rat) (i : Nat), (∀ c ∈ cs, Ht c kc) → i + cs.length < 2 ^ ki →
    xlcL (tgt [(tgn 1), (tgn 2)]) xtyes (xcall r_quotient (xcons (xv 2) (xcons (xtup (xcons (xop opAddB (xv 1) (xc (.int 1))) (xcons (xc (.int 1)) xnil))) xnil))) [1, 2] (enumD i (cs.map vq)) [x0, .un, .un] = some ((apow i cs).map vq, [x0, .un, .un])
  | [], i, _, _ => rfl
  | c :: cs, i, hc, hi => by
    have ih := ap_loop (x0 := x0) h9 cs (i + 1) (fun y hy => hc y (List.mem_cons_of_mem _ hy)) (by rw [List.length_cons] at hi; omega)
    have hq := v_quotient (hc c List.mem_cons_self) (idx_ht (i := i) (ki := ki) (by rw [List.length_cons] at hi; omega)) (idx_ne i) h9
    show xlcL _ _ _ _ (.tup [.int (i : Int), vq c] :: enumD (i + 1) (cs.map vq)) _ = _
    unfold xlcL
    rw [show tgt [(tgn 1), (tgn 2)] (.tup [.int (i : Int), vq c]) [x0, .un, .un] = some [x0, .im (.int i), .im (vq c)] from rfl]
    have e : xcall r_quotient (xcons (xv 2) (xcons (xtup (xcons (xop opAddB (xv 1) (xc (.int 1))) (xcons (xc (.int 1)) xnil))) xnil)) [x0, .im (.int i), .im (vq c)] = some (.im (vq (c / (((i : Int) + 1 : Int) : Rat))), [x0, .im (.int i), .im (vq c)]) :=
      xcall_ok (xc1 rfl (xc1 (d := vq (((i : Int) + 1 : Int) : Rat)) (by rfl) xnil_ok)) hq
    simp only [xtyes, bd_some, if_true, e]
    rw [show wipeG [x0, .im (.int i), .im (vq c)] [1, 2] = [x0, .un, .un] from rfl]
    rw [ih]
    rfl
theorem v_area_powers {d : D} {cs : List Rat} {kc ki : Nat} (hd : seqD d = some (cs.map vq)) (hc : ∀ c ∈ cs, Ht c kc) (hi : cs.length < 2 ^ ki) (h9 : kc + ki < 8990) (hf : cs.length < 100000) : r_area_powers [d] = some (.ol ((areaP cs).map vq)) := by
  have h1 := ap_loop (x0 := .im d) h9 cs 0 hc (by omega)
  have h2 : xenumA (xcons (xv 0) xnil) [.im d, .un, .un] = some (enumD 0 (cs.map vq), [.im d, .un, .un]) := by
    unfold xenumA
    rw [xc1 (d := d) rfl xnil_ok]
    simp only [bd_some, hd]
  refine runF_st rfl (st_ret (G1 := [.im d, .un, .un]) ?_)
  refine xlst_ok (xs := (areaP cs).map vq) (xc1 rfl ?_) (fewl ?_)
  · have := xstar_ok (ds := (apow 0 cs).map vq) (xlc_un h2 rfl rfl rfl h1 (by rw [List.length_map, apow_len]; omega)) rfl xnil_ok
    rw [List.append_nil] at this
    exact this
  · rw [List.length_map]
    show (apow 0 cs).length + 1 ≤ _
    rw [apow_len]
    omega
theorem v_less_by {a b : Rat} {k l : Nat} (ha : Ht a k) (hb : Ht b l) (h9 : k + l < 8990) : r_less_by [vq a, vq b] = some (.im (vq (a - b))) := by
  rw [← sub_divInt]
  exact runF_st rfl (st_ret (xcall_ok (xc1 (xo2 (xo2 rfl rfl (if_pos (ha.1.okMul hb.2 (by omega)))) (xo2 rfl rfl (if_pos (hb.1.okMul ha.2 (by omega)))) rfl) (xc1 (xo2 rfl rfl (if_pos (ha.2.okMul hb.2 (by omega)))) xnil_ok)) (v_lowest (Int.mul_ne_zero (den_ne a) (den_ne b)) (ha.2.mul hb.2) (by omega))))
theorem v_multiplied {a b : Rat} {k l : Nat} (ha : Ht a k) (hb : Ht b l) (h9 : k + l < 8990) : r_multiplied [vq a, vq b] = some (.im (vq (a * b))) := by
  rw [← mul_divInt]
  exact runF_st rfl (st_ret (xcall_ok (xc1 (xo2 rfl rfl (if_pos (ha.1.okMul hb.1 (by omega)))) (xc1 (xo2 rfl rfl (if_pos (ha.2.okMul hb.2 (by omega)))) xnil_ok)) (v_lowest (Int.mul_ne_zero (den_ne a) (den_ne b)) (ha.2.mul hb.2) (by omega))))
theorem va_loop {x0 : Ent} {x : Rat} {kc kx : Nat} (hx : Ht x kx) : ∀ (l : List Rat) (a : Rat) (m : Nat) (e : Ent), Ht a m → (∀ c ∈ l, Ht c kc) → m + l.length * (kx + kc + 1) + kx + kc < 8990 →
    ∃ e', xforL (tgn 3) b_value_at_1 (l.map vq) [x0, .im (vq x), .im (vq a), e] = some (.nx, [x0, .im (vq x), .im (vq (l.foldl (fun a c => a * x + c) a)), e'])
  | [], a, m, e, _, _, _ => ⟨e, rfl⟩
  | c :: l, a, m, e, ha, hc, h9 => by
    have el : (c :: l).length * (kx + kc + 1) = l.length * (kx + kc + 1) + (kx + kc + 1) := by rw [List.length_cons, Nat.add_mul]; omega
    rw [el] at h9
    obtain ⟨e', ih⟩ := va_loop (x0 := x0) hx l (a * x + c) (m + kx + kc + 1) (.im (vq c)) ((ha.mul hx).add (hc c List.mem_cons_self)) (fun y hy => hc y (List.mem_cons_of_mem _ hy)) (by omega)
    refine ⟨e', (xforL_nx (G1 := [x0, .im (vq x), .im (vq a), .im (vq c)]) rfl ?_).trans ih⟩
    unfold b_value_at_1
    exact xset_e (xcall_ok (xc1 (xcall_ok (xc1 rfl (xc1 rfl xnil_ok)) (v_multiplied ha hx (by omega))) (xc1 rfl xnil_ok)) (v_added (ha.mul hx) (hc c List.mem_cons_self) (by omega))) rfl
theorem v_value_at {d : D} {cs : List Rat} {x : Rat} {kc kx : Nat} (hd : asL d = some (cs.map vq)) (hc : ∀ c ∈ cs, Ht c kc) (hx : Ht x kx) (h9 : 1 + cs.length * (kx + kc + 1) + kx + kc < 8990) : r_value_at [d, vq x] = some (.im (vq (hor cs x))) := by
  obtain ⟨e', h1⟩ := va_loop (x0 := .im d) hx cs.reverse 0 1 .un ht0 (fun c h => hc c (List.mem_reverse.mp h)) (by rw [List.length_reverse]; exact h9)
  rw [hor_rev] at h1
  refine runF_st rfl ?_
  refine st_nx (G1 := [.im d, .im (vq x), .im (vq 0), .un]) (by rfl) ?_
  refine st_nx (by exact xfor_ok (ds := cs.reverse.map vq) (xseqR_ok (xrev_ok (ds := cs.map vq) rfl rfl hd rfl) (by rw [List.map_reverse]; rfl)) h1) ?_
  exact st_ret rfl
theorem v_told {lo hi : Rat} {ws : List Wt} {ss : List Sh} {e : D} {cp : List (D × Rat)} {kp kw kc ki : Nat} (he : seqD e = some (cp.map (·.1))) (hc : ∀ p ∈ cp, IsV p.1 p.2) (t : TolOk ws ss (cp.map (·.2)) kp kw kc ki) :
    r_told [.obj 0 (rlL lo hi ws ss), e] = some (.im (vq (tol ws ss (cp.map (·.2))))) := by
  have t9 := t.t
  have big : ∀ a b : Nat, a ≤ a * (b + 1) := fun a b => Nat.le_mul_of_pos_right _ (by omega)
  have hlen : (cp.map (·.2)).length = cp.length := List.length_map _
  have n1 : (cp.length + 1) * 2 ≤ (cp.length + 1) * (kp + kc + ki + 2) := Nat.mul_le_mul (Nat.le_refl _) (by omega)
  have hcl : cp.length ≤ 100000 := by
    have t8 := t.t
    rw [hlen] at t8
    omega
  have c1 : xlc (xseqI (xv 1)) (tgn 8) xtyes (xcall r_value_of (xcons (xv 8) xnil)) [8] [.im (.obj 0 (rlL lo hi ws ss)), .im e, .un, .un, .un, .un, .un, .un, .un, .un, .un] =
      some (.ol (cp.map fun p => vq p.2), [.im (.obj 0 (rlL lo hi ws ss)), .im e, .un, .un, .un, .un, .un, .un, .un, .un, .un]) := by
    refine xlc_un (xseqI_ok rfl he) rfl rfl rfl (xlcL_en (fun p : D × Rat => vq p.2) fun p hm => ?_) (by rw [List.length_map]; exact hcl)
    exact ⟨_, _, _, rfl, by exact xcall_ok (xc1 rfl xnil_ok) (v_value_of (hc p hm)), rfl, rfl⟩
  rw [show (cp.map fun p => vq p.2) = (cp.map (·.2)).map vq by rw [List.map_map]; rfl] at c1
  rw [← hlen] at n1
  clear he hc hlen
  generalize cp.map (·.2) = cs at c1 t n1 t9 ⊢
  have mw : ∀ m : Nat, m * 1 ≤ m * ((kw + 2 * (1 + (cs.length + 1) * (kp + kc + ki + 2)) + 1) + 1) := fun m => Nat.mul_le_mul (Nat.le_refl _) (by omega)
  have mw1 := mw (ws.length + ss.length)
  have nh : 1 + cs.length * (kp + kc + 1) ≤ 1 + (cs.length + 1) * (kp + kc + ki + 2) := by
    have : cs.length * (kp + kc + 1) ≤ (cs.length + 1) * (kp + kc + ki + 2) := Nat.mul_le_mul (by omega) (by omega)
    omega
  have nA : 1 + (areaP cs).length * (kp + (kc + ki + 1) + 1) ≤ 1 + (cs.length + 1) * (kp + kc + ki + 2) := by
    rw [areaP_len]
    have : (cs.length + 1) * (kp + (kc + ki + 1) + 1) ≤ (cs.length + 1) * (kp + kc + ki + 2) := Nat.mul_le_mul (Nat.le_refl _) (by omega)
    omega
  have kpb : kp + kc + ki + 2 ≤ (cs.length + 1) * (kp + kc + ki + 2) := Nat.le_mul_of_pos_left _ (by omega)
  have hcv : ∀ x : Rat, Ht x kp → r_value_at [.lst (cs.map vq), vq x] = some (.im (vq (hor cs x))) := fun x hx => v_value_at rfl t.c hx (by omega)
  have hav : ∀ x : Rat, Ht x kp → r_value_at [.lst ((areaP cs).map vq), vq x] = some (.im (vq (hor (areaP cs) x))) := fun x hx => v_value_at rfl (areaP_ht t.c t.i) hx (by omega)
  have c2 := v_area_powers (d := .lst (cs.map vq)) rfl t.c t.i (by omega) (by omega)
  have c3 : xlc (xseqI (xfld 0 2 (xv 0))) (tgt [(tgn 9), (tgn 10)]) xtyes (xcall r_multiplied (xcons (xv 10) (xcons (xcall r_value_at (xcons (xv 2) (xcons (xv 9) xnil))) xnil))) [9, 10]
      [.im (.obj 0 (rlL lo hi ws ss)), .im e, .im (.lst (cs.map vq)), .ol ((areaP cs).map vq), .un, .un, .un, .un, .un, .un, .un] = some (.ol (ws.map fun w => vq (w.2 * hor cs w.1)), [.im (.obj 0 (rlL lo hi ws ss)), .im e, .im (.lst (cs.map vq)), .ol ((areaP cs).map vq), .un, .un, .un, .un, .un, .un, .un]) := by
    refine xlc_un (by rfl) rfl rfl rfl (xlcL_en (fun w : Wt => vq (w.2 * hor cs w.1)) fun w hm => ?_) (by rw [List.length_map]; omega)
    obtain ⟨w1, w2⟩ := t.w w hm
    exact ⟨[.im (.obj 0 (rlL lo hi ws ss)), .im e, .im (.lst (cs.map vq)), .ol ((areaP cs).map vq), .un, .un, .un, .un, .un, .im (vq w.1), .im (vq w.2)], _, _, rfl, by exact xcall_ok (xc1 rfl (xc1 (xcall_ok (xc1 rfl (xc1 rfl xnil_ok)) (hcv _ w1)) xnil_ok)) (v_multiplied w2 (t.hor w1) (by omega)), rfl, rfl⟩
  have c4 : ∀ (l : List Sh) (acc : List Rat) (x3 e5 e6 e7 : Ent), (x3 = .ol ((areaP cs).map vq) ∨ x3 = .im (.lst ((areaP cs).map vq))) → (∀ s ∈ l, Ht s.1 kp ∧ Ht s.2.1 kp ∧ Ht s.2.2 kw) → acc.length + l.length ≤ 100000 →
      ∃ x3' e5' e6' e7', xforL (tgt [(tgn 5), (tgn 6), (tgn 7)]) b_told_1 (l.map sD) [.im (.obj 0 (rlL lo hi ws ss)), .im e, .im (.lst (cs.map vq)), x3, .ol (acc.map vq), e5, e6, e7, .un, .un, .un] =
        some (.nx, [.im (.obj 0 (rlL lo hi ws ss)), .im e, .im (.lst (cs.map vq)), x3', .ol ((acc ++ l.map fun s => s.2.2 * (hor (areaP cs) s.2.1 - hor (areaP cs) s.1)).map vq), e5', e6', e7', .un, .un, .un]) := by
    intro l
    induction l with
    | nil =>
      intro acc x3 e5 e6 e7 _ _ _
      exact ⟨x3, e5, e6, e7, by rw [List.map_nil, List.map_nil, List.append_nil]; rfl⟩
    | cons s l ih =>
      intro acc x3 e5 e6 e7 h3 hl hn
      obtain ⟨s1, s2, s3⟩ := hl s List.mem_cons_self
      obtain ⟨f3, f5, f6, f7, ih⟩ := ih (acc ++ [s.2.2 * (hor (areaP cs) s.2.1 - hor (areaP cs) s.1)]) (.im (.lst ((areaP cs).map vq))) (.im (vq s.1)) (.im (vq s.2.1)) (.im (vq s.2.2)) (.inr rfl) (fun y hy => hl y (List.mem_cons_of_mem _ hy)) (by simp at hn ⊢; omega)
      rw [List.append_assoc] at ih
      refine ⟨f3, f5, f6, f7, ?_⟩
      refine (xforL_nx (G1 := [.im (.obj 0 (rlL lo hi ws ss)), .im e, .im (.lst (cs.map vq)), x3, .ol (acc.map vq), .im (vq s.1), .im (vq s.2.1), .im (vq s.2.2), .un, .un, .un]) rfl ?_).trans ih
      have hx3 : xv 3 [.im (.obj 0 (rlL lo hi ws ss)), .im e, .im (.lst (cs.map vq)), x3, .ol (acc.map vq), .im (vq s.1), .im (vq s.2.1), .im (vq s.2.2), .un, .un, .un] = some (.im (.lst ((areaP cs).map vq)), [.im (.obj 0 (rlL lo hi ws ss)), .im e, .im (.lst (cs.map vq)), .im (.lst ((areaP cs).map vq)), .ol (acc.map vq), .im (vq s.1), .im (vq s.2.1), .im (vq s.2.2), .un, .un, .un]) := by
        rcases h3 with rfl | rfl <;> rfl
      unfold b_told_1
      refine xapp_ok (bs := acc.map vq) (by rfl) (by exact xcall_ok (xc1 rfl (xc1 (xcall_ok (xc1 (xcall_ok (xc1 hx3 (xc1 rfl xnil_ok)) (hav _ s2)) (xc1 (xcall_ok (xc1 rfl (xc1 rfl xnil_ok)) (hav _ s1)) xnil_ok)) (v_less_by (t.horA s2) (t.horA s1) (by omega))) xnil_ok)) (v_multiplied s3 ((t.horA s2).sub (t.horA s1)) (by omega))) rfl rfl (by rw [List.length_map]; simp only [List.length_cons] at hn; omega) ?_
      rw [List.map_append]
      rfl
  obtain ⟨f3, f5, f6, f7, c5⟩ := c4 ss (ws.map fun w => w.2 * hor cs w.1) _ .un .un .un (.inl rfl) t.s (by rw [List.length_map]; omega)
  rw [show (ws.map fun w => vq (w.2 * hor cs w.1)) = (ws.map fun w => w.2 * hor cs w.1).map vq by rw [List.map_map]; rfl] at c3
  have c6 := v_summed (d := .lst ((tolL ws ss cs).map vq)) (qs := tolL ws ss cs) rfl (tolL_ht t) (by rw [tolL_len]; omega)
  rw [tolL_sum] at c6
  refine runF_st rfl ?_
  refine st_nx (by exact xset_e c1 rfl) ?_
  refine st_nx (by exact xset_e (xcall_ok (xc1 rfl xnil_ok) c2) rfl) ?_
  refine st_nx (by exact xset_e c3 rfl) ?_
  refine st_nx (by exact xfor_ok (ds := ss.map sD) (by rfl) c5) ?_
  exact st_ret (by exact xcall_ok (xc1 rfl xnil_ok) c6)
theorem bt_loop {x0 : Ent} {s t : Rat} {k kw : Nat} (hs : Ht s k) (ht : Ht t k) (h9 : kw + k + k + 1 < 8990) : ∀ (l : List Sh) (acc : List Rat) (e4 e5 e6 e7 e8 : Ent), (∀ x ∈ l, Ht x.1 k ∧ Ht x.2.1 k ∧ Ht x.2.2 kw) → acc.length + l.length ≤ 1000 →
    ∃ f4 f5 f6 f7 f8, xforL (tgt [(tgn 4), (tgn 5), (tgn 6)]) b_told_between_1 (l.map sD) [x0, .im (vq s), .im (vq t), .ol (acc.map vq), e4, e5, e6, e7, e8, .un, .un] =
      some (.nx, [x0, .im (vq s), .im (vq t), .ol ((acc ++ bS s t l).map vq), f4, f5, f6, f7, f8, .un, .un])
  | [], acc, e4, e5, e6, e7, e8, _, _ => ⟨e4, e5, e6, e7, e8, by rw [show bS s t [] = [] from rfl, List.append_nil]; rfl⟩
  | x :: l, acc, e4, e5, e6, e7, e8, hl, ha => by
    rw [List.length_cons] at ha
    obtain ⟨a, b, c⟩ := hl x List.mem_cons_self
    have hl' : ∀ y ∈ l, Ht y.1 k ∧ Ht y.2.1 k ∧ Ht y.2.2 kw := fun y hy => hl y (List.mem_cons_of_mem _ hy)
    have hL := bLo_ht hs a
    have hH := bHi_ht ht b
    have s7 : xset 7 (xif (xtru (xcall r_is_less (xcons (xv 4) (xcons (xv 1) xnil)))) (xv 1) (xv 4)) [x0, .im (vq s), .im (vq t), .ol (acc.map vq), .im (vq x.1), .im (vq x.2.1), .im (vq x.2.2), e7, e8, .un, .un] =
        some (.nx, [x0, .im (vq s), .im (vq t), .ol (acc.map vq), .im (vq x.1), .im (vq x.2.1), .im (vq x.2.2), .im (vq (bLo s x)), e8, .un, .un]) :=
      xset_e ((xif_ok (xtrub (xcall_ok (xc1 rfl (xc1 rfl xnil_ok)) (v_is_less a hs (by omega))))).trans (by exact bLo_if s x _)) rfl
    have s8 : xset 8 (xif (xtru (xcall r_is_less (xcons (xv 5) (xcons (xv 2) xnil)))) (xv 5) (xv 2)) [x0, .im (vq s), .im (vq t), .ol (acc.map vq), .im (vq x.1), .im (vq x.2.1), .im (vq x.2.2), .im (vq (bLo s x)), e8, .un, .un] =
        some (.nx, [x0, .im (vq s), .im (vq t), .ol (acc.map vq), .im (vq x.1), .im (vq x.2.1), .im (vq x.2.2), .im (vq (bLo s x)), .im (vq (bHi t x)), .un, .un]) :=
      xset_e ((xif_ok (xtrub (xcall_ok (xc1 rfl (xc1 rfl xnil_ok)) (v_is_less b ht (by omega))))).trans (by exact bHi_if t x _)) rfl
    have tt : xtru (xcall r_is_less (xcons (xv 7) (xcons (xv 8) xnil))) [x0, .im (vq s), .im (vq t), .ol (acc.map vq), .im (vq x.1), .im (vq x.2.1), .im (vq x.2.2), .im (vq (bLo s x)), .im (vq (bHi t x)), .un, .un] =
        some (decide (bLo s x < bHi t x), [x0, .im (vq s), .im (vq t), .ol (acc.map vq), .im (vq x.1), .im (vq x.2.1), .im (vq x.2.2), .im (vq (bLo s x)), .im (vq (bHi t x)), .un, .un]) :=
      xtrub (xcall_ok (xc1 rfl (xc1 rfl xnil_ok)) (v_is_less hL hH (by omega)))
    by_cases z : bLo s x < bHi t x
    · obtain ⟨f4, f5, f6, f7, f8, ih⟩ := bt_loop (x0 := x0) hs ht h9 l (acc ++ [x.2.2 * (bHi t x - bLo s x)]) (.im (vq x.1)) (.im (vq x.2.1)) (.im (vq x.2.2)) (.im (vq (bLo s x))) (.im (vq (bHi t x))) hl' (by rw [List.length_append, List.length_singleton]; omega)
      rw [List.append_assoc] at ih
      have e : bS s t (x :: l) = x.2.2 * (bHi t x - bLo s x) :: bS s t l := by
        show (if bLo s x < bHi t x then _ else _) = _
        rw [if_pos z]
      rw [e]
      refine ⟨f4, f5, f6, f7, f8, (xforL_nx (G1 := [x0, .im (vq s), .im (vq t), .ol (acc.map vq), .im (vq x.1), .im (vq x.2.1), .im (vq x.2.2), e7, e8, .un, .un]) rfl ?_).trans ih⟩
      unfold b_told_between_1
      rw [xseq_nx s7, xseq_nx s8, xifs_ok tt, decide_eq_true z, if_pos rfl]
      refine xapp_ok (bs := acc.map vq) (by rfl) (by exact xcall_ok (xc1 rfl (xc1 (xcall_ok (xc1 rfl (xc1 rfl xnil_ok)) (v_less_by hH hL (by omega))) xnil_ok)) (v_multiplied c (hH.sub hL) (by omega))) rfl rfl (by rw [List.length_map]; omega) ?_
      rw [List.map_append]
      rfl
    · obtain ⟨f4, f5, f6, f7, f8, ih⟩ := bt_loop (x0 := x0) hs ht h9 l acc (.im (vq x.1)) (.im (vq x.2.1)) (.im (vq x.2.2)) (.im (vq (bLo s x))) (.im (vq (bHi t x))) hl' (by omega)
      have e : bS s t (x :: l) = bS s t l := by
        show (if bLo s x < bHi t x then _ else _) = _
        rw [if_neg z]
      rw [e]
      refine ⟨f4, f5, f6, f7, f8, (xforL_nx (G1 := [x0, .im (vq s), .im (vq t), .ol (acc.map vq), .im (vq x.1), .im (vq x.2.1), .im (vq x.2.2), e7, e8, .un, .un]) rfl ?_).trans ih⟩
      unfold b_told_between_1
      rw [xseq_nx s7, xseq_nx s8, xifs_ok tt, decide_eq_false z]
      rfl
theorem v_told_between {lo hi s t : Rat} {ws : List Wt} {ss : List Sh} {k kw : Nat} (hs : Ht s k) (ht : Ht t k) (hw : ∀ w ∈ ws, Ht w.1 k ∧ Ht w.2 kw) (hS : ∀ x ∈ ss, Ht x.1 k ∧ Ht x.2.1 k ∧ Ht x.2.2 kw) (hn : ws.length + ss.length ≤ 100) (h9 : 1 + (ws.length + ss.length) * (kw + (k + k + 1) + 1) + (kw + (k + k + 1)) < 8990) :
    r_told_between [.obj 0 (rlL lo hi ws ss), vq s, vq t] = some (.im (vq (btw ws ss s t))) := by
  obtain ⟨O, hO⟩ : ∃ O, O = D.obj 0 (rlL lo hi ws ss) := ⟨_, rfl⟩
  have bl := bW_len s t ws
  have sl := bS_len s t ss
  obtain ⟨f4, f5, f6, f7, f8, lp⟩ := bt_loop (x0 := .im (.obj 0 (rlL lo hi ws ss))) hs ht (kw := kw) (by omega) ss (bW s t ws) .un .un .un .un .un hS (by omega)
  have s3 : xset 3 (xlc (xseqI (xfld 0 2 (xv 0))) (tgt [(tgn 9), (tgn 10)]) (xtand (xtru (xcall r_is_less (xcons (xv 1) (xcons (xv 9) xnil)))) (xtru (xcall r_is_less (xcons (xv 9) (xcons (xv 2) xnil))))) (xv 10) [9, 10]) [.im (.obj 0 (rlL lo hi ws ss)), .im (vq s), .im (vq t), .un, .un, .un, .un, .un, .un, .un, .un] =
      some (.nx, [.im (.obj 0 (rlL lo hi ws ss)), .im (vq s), .im (vq t), .ol ((bW s t ws).map vq), .un, .un, .un, .un, .un, .un, .un]) := by
    refine xset_e (r := .ol ((bW s t ws).map vq)) (G1 := [.im (.obj 0 (rlL lo hi ws ss)), .im (vq s), .im (vq t), .un, .un, .un, .un, .un, .un, .un, .un]) ?_ rfl
    rw [show (bW s t ws).map vq = (ws.filter fun w => decide (s < w.1) && decide (w.1 < t)).map (fun w => vq w.2) by unfold bW; rw [List.map_map]; rfl]
    refine xlc_un (ds := ws.map wD) (by rfl) rfl rfl rfl (xlcL_fm (fun w : Wt => decide (s < w.1) && decide (w.1 < t)) (fun w => vq w.2) fun w hm => ?_) (by rw [List.length_map]; have := List.length_filter_le (fun w : Wt => decide (s < w.1) && decide (w.1 < t)) ws; omega)
    exact ⟨[.im (.obj 0 (rlL lo hi ws ss)), .im (vq s), .im (vq t), .un, .un, .un, .un, .un, .un, .im (vq w.1), .im (vq w.2)], _, rfl, xtand_b (xtrub (xcall_ok (xc1 rfl (xc1 rfl xnil_ok)) (v_is_less hs (hw w hm).1 (by omega)))) (xtrub (xcall_ok (xc1 rfl (xc1 rfl xnil_ok)) (v_is_less (hw w hm).1 ht (by omega)))), fun _ => rfl, fun _ => ⟨_, _, rfl, rfl, rfl⟩⟩
  have sm := v_summed (d := .lst ((bW s t ws ++ bS s t ss).map vq)) (qs := bW s t ws ++ bS s t ss) (k := kw + (k + k + 1)) rfl (fun q hq => by
    rcases List.mem_append.mp hq with h | h
    · exact (bW_ht (fun w hw' => (hw w hw').2) q h).up (by omega)
    · exact bS_ht hs ht hS q h) (by
    have : (bW s t ws ++ bS s t ss).length * (kw + (k + k + 1) + 1) ≤ (ws.length + ss.length) * (kw + (k + k + 1) + 1) := Nat.mul_le_mul (by rw [List.length_append]; omega) (Nat.le_refl _)
    omega)
  refine runF_st rfl ?_
  refine st_nx s3 ?_
  refine st_nx (by exact xfor_ok (ds := ss.map sD) (by rfl) lp) ?_
  exact st_ret (xcall_ok (xc1 (d := .lst ((bW s t ws ++ bS s t ss).map vq)) (by rfl) xnil_ok) sm)
theorem v_powered {q : Rat} {k n : Nat} (hq : Ht q k) (hn : n < 1000) (h9 : n * k + 1 + k < 8990) : r_powered [vq q, .int n] = some (.im (vq (rpow q n))) := by
  obtain ⟨e', h1⟩ := pow_loop (m := r_multiplied) (fun a b k l ha hb h => v_multiplied ha hb h) (x1 := .im (.int n)) hq (rng 0 (n : Int).toNat) 0 .un (by rw [rng_ln, Int.toNat_natCast, Nat.zero_add]; exact h9)
  rw [rng_ln, Int.toNat_natCast, Nat.zero_add] at h1
  refine runF_st rfl ?_
  refine st_nx (G1 := [.im (vq q), .im (.int n), .im (vq 1), .un]) (by rfl) ?_
  refine st_nx (by exact xfor_ok (xrange1_ok (xc1 rfl xnil_ok) (okR_of (by omega) (by omega))) h1) ?_
  exact st_ret rfl
theorem v_told_kink {lo hi t : Rat} {ws : List Wt} {ss : List Sh} {d : D} {n kp kw kt : Nat} (hd : IsV d t) (ht : Ht t kt) (k : TkOk ws ss n kp kw kt) : r_told_kink [.obj 0 (rlL lo hi ws ss), d, .int n] = some (.im (vq (tolk ws ss t n))) := by
  have k9 := k.t
  have kn := k.nl
  obtain ⟨i1, i2⟩ := inv1_vq kn
  have big : (ws.length + ss.length) * 1 ≤ (ws.length + ss.length) * (kw + 3 + 2 * ((n + 1) * (kp + kt + 1) + 1) + 1 + 1) := Nat.mul_le_mul (Nat.le_refl _) (by omega)
  have mn : n * (kp + kt + 1) ≤ (n + 1) * (kp + kt + 1) := Nat.mul_le_mul (by omega) (Nat.le_refl _)
  have m1 : 1 * (kp + kt + 1) ≤ (n + 1) * (kp + kt + 1) := Nat.mul_le_mul (by omega) (Nat.le_refl _)
  have cl1 : ∀ (l : List Wt) (acc : List Rat) (e5 e6 : Ent), (∀ w ∈ l, Ht w.1 kp ∧ Ht w.2 kw) → acc.length + l.length ≤ 100000 →
      ∃ e5' e6', xforL (tgt [(tgn 5), (tgn 6)]) b_told_kink_1 (l.map wD) [.im (.obj 0 (rlL lo hi ws ss)), .im d, .im (.int n), .im (vq t), .ol (acc.map vq), e5, e6, .un, .un, .un, .un, .un] =
        some (.nx, [.im (.obj 0 (rlL lo hi ws ss)), .im d, .im (.int n), .im (vq t), .ol ((acc ++ tkW t n l).map vq), e5', e6', .un, .un, .un, .un, .un]) := by
    intro l
    induction l with
    | nil => intro acc e5 e6 _ _; exact ⟨e5, e6, by show _ = some (Fl.nx, [_, _, _, _, Ent.ol ((acc ++ []).map vq), _, _, _, _, _, _, _]); rw [List.append_nil]; rfl⟩
    | cons w l ih =>
      intro acc e5 e6 hl hn
      obtain ⟨w1, w2⟩ := hl w List.mem_cons_self
      rw [List.length_cons] at hn
      have tt : xtru (xcall r_is_less (xcons (xv 3) (xcons (xv 5) xnil))) [.im (.obj 0 (rlL lo hi ws ss)), .im d, .im (.int n), .im (vq t), .ol (acc.map vq), .im (vq w.1), .im (vq w.2), .un, .un, .un, .un, .un] = some (decide (t < w.1), [.im (.obj 0 (rlL lo hi ws ss)), .im d, .im (.int n), .im (vq t), .ol (acc.map vq), .im (vq w.1), .im (vq w.2), .un, .un, .un, .un, .un]) :=
        xtrub (xcall_ok (xc1 rfl (xc1 rfl xnil_ok)) (v_is_less ht w1 (by omega)))
      by_cases h : t < w.1
      · have e : tkW t n (w :: l) = w.2 * rpow (w.1 - t) n :: tkW t n l := by
          unfold tkW
          rw [List.filter_cons, if_pos (by simpa using h), List.map_cons]
        obtain ⟨f5, f6, ih⟩ := ih (acc ++ [w.2 * rpow (w.1 - t) n]) (.im (vq w.1)) (.im (vq w.2)) (fun y hy => hl y (List.mem_cons_of_mem _ hy)) (by rw [List.length_append, List.length_singleton]; omega)
        rw [List.append_assoc] at ih
        rw [e]
        refine ⟨f5, f6, (xforL_nx (G1 := [.im (.obj 0 (rlL lo hi ws ss)), .im d, .im (.int n), .im (vq t), .ol (acc.map vq), .im (vq w.1), .im (vq w.2), .un, .un, .un, .un, .un]) rfl ?_).trans ih⟩
        unfold b_told_kink_1
        rw [decide_eq_true h] at tt
        rw [xifs_ok tt, if_pos rfl]
        refine (xapp_ok (bs := acc.map vq) (by rfl) (by exact xcall_ok (xc1 rfl (xc1 (xcall_ok (xc1 (xcall_ok (xc1 rfl (xc1 rfl xnil_ok)) (v_less_by w1 ht (by omega))) (xc1 rfl xnil_ok)) (v_powered (w1.sub ht) (by omega) (by omega))) xnil_ok)) (v_multiplied w2 (rpow_ht (w1.sub ht) n) (by omega))) rfl rfl (by rw [List.length_map]; omega) ?_)
        rw [List.map_append]
        rfl
      · have e : tkW t n (w :: l) = tkW t n l := by
          unfold tkW
          rw [List.filter_cons, if_neg (by simpa using h)]
        obtain ⟨f5, f6, ih⟩ := ih acc (.im (vq w.1)) (.im (vq w.2)) (fun y hy => hl y (List.mem_cons_of_mem _ hy)) (by omega)
        rw [e]
        refine ⟨f5, f6, (xforL_nx (G1 := [.im (.obj 0 (rlL lo hi ws ss)), .im d, .im (.int n), .im (vq t), .ol (acc.map vq), .im (vq w.1), .im (vq w.2), .un, .un, .un, .un, .un]) rfl ?_).trans ih⟩
        unfold b_told_kink_1
        rw [decide_eq_false h] at tt
        exact (xifs_ok tt).trans rfl
  have cl2 : ∀ (l : List Sh) (acc : List Rat) (e5 e6 e7 e8 e9 e10 e11 : Ent), (∀ s ∈ l, Ht s.1 kp ∧ Ht s.2.1 kp ∧ Ht s.2.2 kw ∧ s.1 ≤ s.2.1) → acc.length + l.length ≤ 100000 →
      ∃ e7' e8' e9' e10' e11', xforL (tgt [(tgn 7), (tgn 8), (tgn 9)]) b_told_kink_2 (l.map sD) [.im (.obj 0 (rlL lo hi ws ss)), .im d, .im (.int n), .im (vq t), .ol (acc.map vq), e5, e6, e7, e8, e9, e10, e11] =
        some (.nx, [.im (.obj 0 (rlL lo hi ws ss)), .im d, .im (.int n), .im (vq t), .ol ((acc ++ tkS t n l).map vq), e5, e6, e7', e8', e9', e10', e11']) := by
    intro l
    induction l with
    | nil => intro acc e5 e6 e7 e8 e9 e10 e11 _ _; exact ⟨e7, e8, e9, e10, e11, by show _ = some (Fl.nx, [_, _, _, _, Ent.ol ((acc ++ []).map vq), _, _, _, _, _, _, _]); rw [List.append_nil]; rfl⟩
    | cons s l ih =>
      intro acc e5 e6 e7 e8 e9 e10 e11 hl hn
      obtain ⟨s1, s2, s3, s4⟩ := hl s List.mem_cons_self
      rw [List.length_cons] at hn
      have tt : xtru (xcall r_is_less (xcons (xv 3) (xcons (xv 8) xnil))) [.im (.obj 0 (rlL lo hi ws ss)), .im d, .im (.int n), .im (vq t), .ol (acc.map vq), e5, e6, .im (vq s.1), .im (vq s.2.1), .im (vq s.2.2), e10, e11] = some (decide (t < s.2.1), [.im (.obj 0 (rlL lo hi ws ss)), .im d, .im (.int n), .im (vq t), .ol (acc.map vq), e5, e6, .im (vq s.1), .im (vq s.2.1), .im (vq s.2.2), e10, e11]) :=
        xtrub (xcall_ok (xc1 rfl (xc1 rfl xnil_ok)) (v_is_less ht s2 (by omega)))
      by_cases h : t < s.2.1
      · have e : tkS t n (s :: l) = (s.2.2 * inv1 n) * (rpow (s.2.1 - t) (n + 1) - kk (n + 1) t s.1) :: tkS t n l := by
          unfold tkS
          rw [List.filter_cons, if_pos (by simpa using h), List.map_cons]
        have hk := kk_ht ht s1 (n + 1)
        have hr := rpow_ht (s2.sub ht) (n + 1)
        obtain ⟨f7, f8, f9, f10, f11, ih⟩ := ih (acc ++ [(s.2.2 * inv1 n) * (rpow (s.2.1 - t) (n + 1) - kk (n + 1) t s.1)]) e5 e6 (.im (vq s.1)) (.im (vq s.2.1)) (.im (vq s.2.2)) (.im (vq (rpow (s.2.1 - t) (n + 1)))) (.im (vq (kk (n + 1) t s.1))) (fun y hy => hl y (List.mem_cons_of_mem _ hy)) (by rw [List.length_append, List.length_singleton]; omega)
        rw [List.append_assoc] at ih
        rw [e]
        refine ⟨f7, f8, f9, f10, f11, (xforL_nx (G1 := [.im (.obj 0 (rlL lo hi ws ss)), .im d, .im (.int n), .im (vq t), .ol (acc.map vq), e5, e6, .im (vq s.1), .im (vq s.2.1), .im (vq s.2.2), e10, e11]) rfl ?_).trans ih⟩
        unfold b_told_kink_2
        rw [decide_eq_true h] at tt
        have a10 : xset 10 (xcall r_powered (xcons (xcall r_less_by (xcons (xv 8) (xcons (xv 3) xnil))) (xcons (xop opAddB (xv 2) (xc (.int 1))) xnil))) [.im (.obj 0 (rlL lo hi ws ss)), .im d, .im (.int n), .im (vq t), .ol (acc.map vq), e5, e6, .im (vq s.1), .im (vq s.2.1), .im (vq s.2.2), e10, e11] =
            some (.nx, [.im (.obj 0 (rlL lo hi ws ss)), .im d, .im (.int n), .im (vq t), .ol (acc.map vq), e5, e6, .im (vq s.1), .im (vq s.2.1), .im (vq s.2.2), .im (vq (rpow (s.2.1 - t) (n + 1))), e11]) :=
          xset_e (xcall_ok (xc1 (xcall_ok (xc1 rfl (xc1 rfl xnil_ok)) (v_less_by s2 ht (by omega))) (xc1 (d := .int ((n + 1 : Nat) : Int)) (by rfl) xnil_ok)) (v_powered (s2.sub ht) (by omega) (by omega))) rfl
        have t2 : xtru (xcall r_is_less (xcons (xv 3) (xcons (xv 7) xnil))) [.im (.obj 0 (rlL lo hi ws ss)), .im d, .im (.int n), .im (vq t), .ol (acc.map vq), e5, e6, .im (vq s.1), .im (vq s.2.1), .im (vq s.2.2), .im (vq (rpow (s.2.1 - t) (n + 1))), e11] = some (decide (t < s.1), [.im (.obj 0 (rlL lo hi ws ss)), .im d, .im (.int n), .im (vq t), .ol (acc.map vq), e5, e6, .im (vq s.1), .im (vq s.2.1), .im (vq s.2.2), .im (vq (rpow (s.2.1 - t) (n + 1))), e11]) :=
          xtrub (xcall_ok (xc1 rfl (xc1 rfl xnil_ok)) (v_is_less ht s1 (by omega)))
        have a11 : xset 11 (xif (xtru (xcall r_is_less (xcons (xv 3) (xcons (xv 7) xnil)))) (xcall r_powered (xcons (xcall r_less_by (xcons (xv 7) (xcons (xv 3) xnil))) (xcons (xop opAddB (xv 2) (xc (.int 1))) xnil))) (xc c_NOUGHT)) [.im (.obj 0 (rlL lo hi ws ss)), .im d, .im (.int n), .im (vq t), .ol (acc.map vq), e5, e6, .im (vq s.1), .im (vq s.2.1), .im (vq s.2.2), .im (vq (rpow (s.2.1 - t) (n + 1))), e11] =
            some (.nx, [.im (.obj 0 (rlL lo hi ws ss)), .im d, .im (.int n), .im (vq t), .ol (acc.map vq), e5, e6, .im (vq s.1), .im (vq s.2.1), .im (vq s.2.2), .im (vq (rpow (s.2.1 - t) (n + 1))), .im (vq (kk (n + 1) t s.1))]) := by
          by_cases h2 : t < s.1
          · rw [decide_eq_true h2] at t2
            have ek : kk (n + 1) t s.1 = rpow (s.1 - t) (n + 1) := by unfold kk; rw [if_pos h2]
            rw [ek]
            exact xset_e ((xif_ok t2).trans (xcall_ok (xc1 (xcall_ok (xc1 rfl (xc1 rfl xnil_ok)) (v_less_by s1 ht (by omega))) (xc1 (d := .int ((n + 1 : Nat) : Int)) (by rfl) xnil_ok)) (v_powered (s1.sub ht) (by omega) (by omega)))) rfl
          · rw [decide_eq_false h2] at t2
            have ek : kk (n + 1) t s.1 = 0 := by unfold kk; rw [if_neg h2]
            rw [ek]
            exact xset_e ((xif_ok t2).trans rfl) rfl
        rw [xifs_ok tt, if_pos rfl, xseq_nx a10, xseq_nx a11]
        refine (xapp_ok (bs := acc.map vq) (by rfl) (by exact xcall_ok (xc1 (xcall_ok (xc1 rfl (xc1 (xcall_ok (xc1 rfl (xc1 (d := .int ((n : Int) + 1)) (by rfl) xnil_ok)) ((v_lowest (k := 3) (by omega) (by unfold Sm; omega) (by decide)).trans (by rw [i1]))) xnil_ok)) (v_multiplied s3 i2 (by omega))) (xc1 (xcall_ok (xc1 rfl (xc1 rfl xnil_ok)) (v_less_by hr hk (by omega))) xnil_ok)) (v_multiplied (s3.mul i2) (hr.sub hk) (by omega))) rfl rfl (by rw [List.length_map]; omega) ?_)
        rw [List.map_append]
        rfl
      · have e : tkS t n (s :: l) = tkS t n l := by
          unfold tkS
          rw [List.filter_cons, if_neg (by simpa using h)]
        obtain ⟨f7, f8, f9, f10, f11, ih⟩ := ih acc e5 e6 (.im (vq s.1)) (.im (vq s.2.1)) (.im (vq s.2.2)) e10 e11 (fun y hy => hl y (List.mem_cons_of_mem _ hy)) (by omega)
        rw [e]
        refine ⟨f7, f8, f9, f10, f11, (xforL_nx (G1 := [.im (.obj 0 (rlL lo hi ws ss)), .im d, .im (.int n), .im (vq t), .ol (acc.map vq), e5, e6, .im (vq s.1), .im (vq s.2.1), .im (vq s.2.2), e10, e11]) rfl ?_).trans ih⟩
        unfold b_told_kink_2
        rw [decide_eq_false h] at tt
        exact (xifs_ok tt).trans rfl
  obtain ⟨e5, e6, c1⟩ := cl1 ws [] .un .un k.w (by rw [List.length_nil]; omega)
  have tl : (tkW t n ws).length ≤ ws.length := by unfold tkW; rw [List.length_map]; exact List.length_filter_le _ _
  have tl2 : (tkS t n ss).length ≤ ss.length := by unfold tkS; rw [List.length_map]; exact List.length_filter_le _ _
  obtain ⟨e7, e8, e9, e10, e11, c2⟩ := cl2 ss (tkW t n ws) e5 e6 .un .un .un .un .un k.s (by omega)
  have hq : ∀ q ∈ tkW t n ws ++ tkS t n ss, Ht q (kw + 3 + 2 * ((n + 1) * (kp + kt + 1) + 1) + 1) := fun q hq => by
    rcases List.mem_append.mp hq with h | h
    · obtain ⟨w, hw, rfl⟩ := List.mem_map.mp h
      obtain ⟨w1, w2⟩ := k.w w (List.mem_filter.mp hw).1
      exact (w2.mul (rpow_ht (w1.sub ht) n)).up (by omega)
    · obtain ⟨s, hs, rfl⟩ := List.mem_map.mp h
      obtain ⟨s1, s2, s3, s4⟩ := k.s s (List.mem_filter.mp hs).1
      exact ((s3.mul i2).mul ((rpow_ht (s2.sub ht) (n + 1)).sub (kk_ht ht s1 (n + 1)))).up (by omega)
  have c3 := v_summed (d := .lst ((tkW t n ws ++ tkS t n ss).map vq)) rfl hq (by
    rw [List.length_append]
    have : ((tkW t n ws).length + (tkS t n ss).length) * (kw + 3 + 2 * ((n + 1) * (kp + kt + 1) + 1) + 1 + 1) ≤ (ws.length + ss.length) * (kw + 3 + 2 * ((n + 1) * (kp + kt + 1) + 1) + 1 + 1) := Nat.mul_le_mul (by omega) (Nat.le_refl _)
    omega)
  rw [sumQ_app, tkW_sum, tkS_sum fun s hs => (k.s s hs).2.2.2] at c3
  refine runF_st rfl ?_
  have a1 : ypar 3 4 (ycons (xcall r_value_of (xcons (xv 1) xnil)) (ycons (xlst xnil) ynil)) [.im (.obj 0 (rlL lo hi ws ss)), .im d, .im (.int n), .un, .un, .un, .un, .un, .un, .un, .un, .un] = some (.nx, [.im (.obj 0 (rlL lo hi ws ss)), .im d, .im (.int n), .im (vq t), .ol [], .un, .un, .un, .un, .un, .un, .un]) :=
    ypar_ok (G1 := [.im (.obj 0 (rlL lo hi ws ss)), .im d, .im (.int n), .un, .un, .un, .un, .un, .un, .un, .un, .un]) (x := .im (vq t)) (y := .ol []) (ycons_ok (xcall_ok (xc1 rfl xnil_ok) (v_value_of hd)) (ycons_ok (by rfl) ynil_ok))
  refine st_nx a1 ?_
  refine st_nx (by exact xfor_ok (ds := ws.map wD) (by rfl) c1) ?_
  refine st_nx (by exact xfor_ok (ds := ss.map sD) (by rfl) c2) ?_
  exact st_ret (by exact xcall_ok (xc1 rfl xnil_ok) c3)
theorem nt_power {lo hi : Rat} {ws : List Wt} {ss : List Sh} {n j : Nat} {s : Int} (h : Sg s) (hj : j < 1000) {q : Rat} (ht : (decide (j < n) && decide (s = 1 ∨ s = -1)) = true → r_told [.obj 0 (rlL lo hi ws ss), .lst ((moS j s).map (·.1))] = some (.im (vq q))) :
    r_number_told [.obj 0 (rlL lo hi ws ss), .int (n : Int), .tup [.str "power", .int (j : Int), .int s]] = some (.im (if decide (j < n) && decide (s = 1 ∨ s = -1) then vq q else .non)) := by
  obtain ⟨O, hO⟩ : ∃ O, O = D.obj 0 (rlL lo hi ws ss) := ⟨_, rfl⟩
  rw [← hO] at ht ⊢
  have t0 : xtest (xop opEq (xop opIx (xv 2) (xc (.int 0))) (xc (.str "power"))) [.im O, .im (.int (n : Int)), .im (.tup [.str "power", .int (j : Int), .int s]), .un, .un, .un, .un, .un, .un] = some (true, [.im O, .im (.int (n : Int)), .im (.tup [.str "power", .int (j : Int), .int s]), .un, .un, .un, .un, .un, .un]) := by rfl
  have t1 : xtru (xcall r_is_power (xcons (xv 1) (xcons (xv 2) xnil))) [.im O, .im (.int (n : Int)), .im (.tup [.str "power", .int (j : Int), .int s]), .un, .un, .un, .un, .un, .un] = some (decide (j < n) && decide (s = 1 ∨ s = -1), [.im O, .im (.int (n : Int)), .im (.tup [.str "power", .int (j : Int), .int s]), .un, .un, .un, .un, .un, .un]) :=
    xtrub (xcall_ok (xc1 rfl (xc1 rfl xnil_ok)) (v_is_power h))
  refine runF_st rfl ?_
  unfold b_number_told
  by_cases z : (decide (j < n) && decide (s = 1 ∨ s = -1)) = true
  · have ht := ht z
    rw [z] at t1 ⊢
    have c5 : xlc (xrange1 (xcons (xop opIx (xv 2) (xc (.int 1))) xnil)) (tgn 5) xtyes (xc c_NOUGHT) [5] [.im O, .im (.int (n : Int)), .im (.tup [.str "power", .int (j : Int), .int s]), .un, .un, .un, .un, .un, .un] =
        some (.ol (List.replicate j (vq 0)), [.im O, .im (.int (n : Int)), .im (.tup [.str "power", .int (j : Int), .int s]), .un, .un, .un, .un, .un, .un]) := by
      rw [show List.replicate j (vq 0) = (List.range j).map fun _ => vq 0 by rw [List.map_const', List.length_range]]
      refine xlc_un (ds := (List.range j).map fun (i : Nat) => D.int (0 + (i : Int))) (xrange1_ok (n := (j : Int)) (xc1 (by rfl) xnil_ok) (okR_of (by omega) (by omega))) rfl rfl rfl (xlcL_en (fun _ : Nat => vq 0) fun i hi => ?_) (by rw [List.length_map, List.length_range]; omega)
      exact ⟨_, _, _, rfl, rfl, rfl, rfl⟩
    refine st_rt (G1 := [.im O, .im (.int (n : Int)), .im (.tup [.str "power", .int (j : Int), .int s]), .un, .un, .un, .un, .un, .un]) ?_
    refine Eq.trans (xifs_ok (k := true) (xtand_b t0 t1)) ?_
    rw [if_pos rfl]
    refine xret_ok ?_
    have em : (moS j s).map (·.1) = List.replicate j (vq 0) ++ [.int s] := by
      unfold moS
      rw [List.map_append, List.map_replicate]
      rfl
    rw [em] at ht
    exact xcall_ok (xc1 rfl (xcw (xlst_ok (xstar_ok c5 rfl (xc1 (d := .int s) (by rfl) xnil_ok)) (fewl (by rw [List.length_append, List.length_replicate, List.length_singleton]; omega))) xnil_ok)) ht
  · rw [Bool.not_eq_true] at z
    rw [z] at t1 ⊢
    refine st_nx (G1 := [.im O, .im (.int (n : Int)), .im (.tup [.str "power", .int (j : Int), .int s]), .un, .un, .un, .un, .un, .un]) (by exact (xifs_ok (k := false) (xtand_b t0 t1)).trans rfl) ?_
    refine st_nx (G1 := [.im O, .im (.int (n : Int)), .im (.tup [.str "power", .int (j : Int), .int s]), .un, .un, .un, .un, .un, .un]) (by rfl) ?_
    refine st_nx (G1 := [.im O, .im (.int (n : Int)), .im (.tup [.str "power", .int (j : Int), .int s]), .un, .un, .un, .un, .un, .un]) (by rfl) ?_
    exact st_rt (G1 := [.im O, .im (.int (n : Int)), .im (.tup [.str "power", .int (j : Int), .int s]), .un, .un, .un, .un, .un, .un]) (by rfl)
theorem nt_at {lo hi : Rat} {ws : List Wt} {ss : List Sh} {n : Nat} {t : Rat} {d : D} {b : Bool} {k kw : Nat} (hd : IsV d t) (hw : r_is_within [.obj 0 (rlL lo hi ws ss), d] = some (.im (.bl b))) (hk : ∀ w ∈ ws, Ht w.2 kw) (hn9 : ws.length ≤ 100) (h9 : 1 + ws.length * (kw + 1) + kw < 8990) :
    r_number_told [.obj 0 (rlL lo hi ws ss), .int (n : Int), .tup [.str "at", d]] = some (.im (if decide (n = 0) && b then vq (wAt ws t) else .non)) := by
  obtain ⟨O, hO⟩ : ∃ O, O = D.obj 0 (rlL lo hi ws ss) := ⟨_, rfl⟩
  have f2 : ∀ y : List Ent, xfld 0 2 (xv 0) (.im O :: y) = some (.im (.tup (ws.map wD)), .im O :: y) := fun y => by rw [hO]; rfl
  rw [← hO] at hw ⊢
  have t0 : xtest (xop opEq (xop opIx (xv 2) (xc (.int 0))) (xc (.str "at"))) [.im O, .im (.int (n : Int)), .im (.tup [.str "at", d]), .un, .un, .un, .un, .un, .un] = some (true, [.im O, .im (.int (n : Int)), .im (.tup [.str "at", d]), .un, .un, .un, .un, .un, .un]) := by rfl
  have t1 : xtest (xop opEq (xv 1) (xc (.int 0))) [.im O, .im (.int (n : Int)), .im (.tup [.str "at", d]), .un, .un, .un, .un, .un, .un] = some (decide (n = 0), [.im O, .im (.int (n : Int)), .im (.tup [.str "at", d]), .un, .un, .un, .un, .un, .un]) := by
    show some (decide ((n : Int) = (0 : Int)), _) = _
    rw [decide_eq_decide.mpr (show ((n : Int) = (0 : Int)) ↔ n = 0 by omega)]
  have t2 : xtest (xop opEq (xcb cbLen (xcons (xv 2) xnil)) (xc (.int 2))) [.im O, .im (.int (n : Int)), .im (.tup [.str "at", d]), .un, .un, .un, .un, .un, .un] = some (true, [.im O, .im (.int (n : Int)), .im (.tup [.str "at", d]), .un, .un, .un, .un, .un, .un]) := by rfl
  have t3 : xtru (xcall r_is_within (xcons (xv 0) (xcons (xop opIx (xv 2) (xc (.int 1))) xnil))) [.im O, .im (.int (n : Int)), .im (.tup [.str "at", d]), .un, .un, .un, .un, .un, .un] = some (b, [.im O, .im (.int (n : Int)), .im (.tup [.str "at", d]), .un, .un, .un, .un, .un, .un]) :=
    xtrub (xcall_ok (xc1 rfl (xc1 (by rfl) xnil_ok)) hw)
  refine runF_st rfl ?_
  unfold b_number_told
  refine st_nx (G1 := [.im O, .im (.int (n : Int)), .im (.tup [.str "at", d]), .un, .un, .un, .un, .un, .un]) (by rfl) ?_
  refine st_nx (G1 := [.im O, .im (.int (n : Int)), .im (.tup [.str "at", d]), .un, .un, .un, .un, .un, .un]) (by rfl) ?_
  have tz := xtand_b t0 (xtand_b t1 (xtand_b t2 t3))
  rw [Bool.true_and, Bool.true_and] at tz
  by_cases z : (decide (n = 0) && b) = true
  · rw [z] at tz ⊢
    refine st_rt (G1 := [.im O, .im (.int (n : Int)), .im (.tup [.str "at", d]), .un, .un, .un, .un, .un, .un]) ?_
    refine Eq.trans (xifs_ok tz) ?_
    rw [if_pos rfl]
    refine xret_ok ?_
    have c : xlc (xseqI (xfld 0 2 (xv 0))) (tgt [(tgn 6), (tgn 7)]) (xtest (xop opEq (xv 6) (xcall r_value_of (xcons (xop opIx (xv 2) (xc (.int 1))) xnil)))) (xv 7) [6, 7] [.im O, .im (.int (n : Int)), .im (.tup [.str "at", d]), .un, .un, .un, .un, .un, .un] =
        some (.ol ((ws.filter fun w => decide (w.1 = t)).map fun w => vq w.2), [.im O, .im (.int (n : Int)), .im (.tup [.str "at", d]), .un, .un, .un, .un, .un, .un]) := by
      refine xlc_un (ds := ws.map wD) (xseqI_ok (f2 _) rfl) rfl rfl rfl (xlcL_fm (fun w : Wt => decide (w.1 = t)) (fun w => vq w.2) fun w hm => ?_) (by rw [List.length_map]; have := List.length_filter_le (fun w : Wt => decide (w.1 = t)) ws; omega)
      exact ⟨[.im O, .im (.int (n : Int)), .im (.tup [.str "at", d]), .un, .un, .un, .im (vq w.1), .im (vq w.2), .un], _, rfl, xtest_ok (xo2 rfl (xcall_ok (xc1 (by rfl) xnil_ok) (v_value_of hd)) (eq_vq w.1 t)), fun _ => rfl, fun _ => ⟨_, _, rfl, rfl, rfl⟩⟩
    have e : (ws.filter fun w => decide (w.1 = t)).map (fun w => vq w.2) = ((ws.filter fun w => decide (w.1 = t)).map (·.2)).map vq := by
      rw [List.map_map]
      rfl
    rw [e] at c
    refine xcall_ok (xcw c xnil_ok) (v_summed (k := kw) rfl (fun q hq => ?_) ?_)
    · obtain ⟨w, hw, rfl⟩ := List.mem_map.mp hq
      exact hk w (List.mem_filter.mp hw).1
    · have := Nat.mul_le_mul (List.length_filter_le (fun w : Wt => decide (w.1 = t)) ws) (Nat.le_refl (kw + 1))
      rw [List.length_map]
      omega
  · rw [Bool.not_eq_true] at z
    rw [z] at tz ⊢
    refine st_nx (G1 := [.im O, .im (.int (n : Int)), .im (.tup [.str "at", d]), .un, .un, .un, .un, .un, .un]) (by exact (xifs_ok tz).trans rfl) ?_
    exact st_rt (G1 := [.im O, .im (.int (n : Int)), .im (.tup [.str "at", d]), .un, .un, .un, .un, .un, .un]) (by rfl)
theorem v_refuting {O : D} {n : Nat} {k : PySem.Str} {l : List D} {q : Rat} {b : Bool} (hn : r_number_told [O, .int (n : Int), .tup (.str k :: l)] = some (.im (if b then vq q else .non))) :
    r_refuting_holds [O, .int (n : Int), .tup (.str k :: l)] = some (.im (.bl (b && decide (q.num < 0)))) := by
  refine runF_st rfl ?_
  unfold b_refuting_holds
  have t0 : xtest (xop opEq (xcb cbLen (xcons (xv 2) xnil)) (xc (.int 0))) [.im O, .im (.int (n : Int)), .im (.tup (.str k :: l)), .un] = some (false, [.im O, .im (.int (n : Int)), .im (.tup (.str k :: l)), .un]) := by
    show some (decide (((l.length + 1 : Nat) : Int) = 0), _) = _
    rw [decide_eq_false (by omega)]
  have ix : opIx (.tup (.str k :: l)) (.int 0) = some (.im (.str k)) := by
    show (atI (D.str k :: l) ((0 : Nat) : Int)).map R.im = _
    rw [atI_nat _ _ (by simp)]
    rfl
  have t2 : xtnot (xtru (xcb (cbIsiU 0) (xcons (xop opIx (xv 2) (xc (.int 0))) (xcons (xc (.ty "str")) xnil)))) [.im O, .im (.int (n : Int)), .im (.tup (.str k :: l)), .un] = some (false, [.im O, .im (.int (n : Int)), .im (.tup (.str k :: l)), .un]) :=
    xtnot_ok (k := true) (xtrub (xcb_ok (xc1 (d := .str k) (xo2 (x := .tup (.str k :: l)) (y := .int 0) rfl rfl ix) (xc1 rfl xnil_ok)) rfl))
  refine st_nx (G1 := [.im O, .im (.int (n : Int)), .im (.tup (.str k :: l)), .un]) (by exact (xifs_ok (xtor_b (k := false) (by rfl) (xtor_b t0 t2))).trans rfl) ?_
  refine st_nx (by exact xset_e (xcall_ok (xc1 rfl (xc1 rfl (xc1 rfl xnil_ok))) hn) rfl) ?_
  cases b
  · exact st_ret (G1 := [.im O, .im (.int (n : Int)), .im (.tup (.str k :: l)), .im .non]) (by rfl)
  · rw [Bool.true_and]
    exact st_ret (G1 := [.im O, .im (.int (n : Int)), .im (.tup (.str k :: l)), .im (vq q)]) (by rfl)
end Bk
namespace Bk
open PySem L2
theorem mk_01 : r_Rule_init (.o 0 []) [.int 0, .int 1, .tup [], .tup []] = some (.im .non, .o 0 (rlL 0 1 (lwOf []) (lsOf []))) :=
  v_Rule_init (lo := 0) (hi := 1) (k := 4) (ps := []) (qs := []) (.inl ⟨0, rfl, rfl⟩) (.inl ⟨1, rfl, rfl⟩) (ht0.up (by decide)) ⟨by unfold Sm; decide +kernel, by unfold Sm; decide +kernel⟩ (by decide +kernel) (.inr (.inl rfl)) (.inr (.inl rfl)) (by simp) (by simp) (by simp) (by simp) (by simp) (by simp) (by decide) (by decide)
def RO : D := .obj 0 (rlL 0 1 (lwOf []) (lsOf []))
def A14 : List D := [.non, .bl true, .bl false, .int 0, .int 1, .int (-1), .int 60, .str "", .str "a", .str "rule 0 1", .str "kink", .str "power", .str "at", .str "over"]
def A9 : List D := [RO, .lst [], .tup [], .str "\n", .tup [.int 1, .int 2], .tup [.int 2, .int 4], .lst [.int 1, .int 2], .tup [.int 1, .int 0], .tup [.str "kink", .tup [.int 1, .int 2]]]
def four (a : Int) : Prop := a = 0 ∨ a = 1 ∨ a = -1 ∨ a = 2 ∨ a = 4 ∨ a = 60
/-- values told by these laws -/
inductive Any : D → Prop
  | n : Any .non
  | b (x : Bool) : Any (.bl x)
  | i {a : Int} (h : four a) : Any (.int a)
  | s (x : PySem.Str) : Any (.str x)
  | o : Any RO
  | t {xs : List D} (h : ∀ x ∈ xs, Any x) (l : xs.length ≤ 9) : Any (.tup xs)
  | l {xs : List D} (h : ∀ x ∈ xs, Any x) (l : xs.length ≤ 9) : Any (.lst xs)
theorem all0 : ∀ x ∈ ([] : List D), Any x := fun x h => by cases h
theorem all1 {a : D} {l : List D} (h : Any a) (t : ∀ x ∈ l, Any x) : ∀ x ∈ a :: l, Any x := fun x hx => by
  rcases List.mem_cons.mp hx with rfl | hx
  · exact h
  · exact t x hx
theorem i0 : four 0 := .inl rfl
theorem i1 : four 1 := .inr (.inl rfl)
theorem im1 : four (-1) := .inr (.inr (.inl rfl))
theorem i2 : four 2 := .inr (.inr (.inr (.inl rfl)))
theorem i4 : four 4 := .inr (.inr (.inr (.inr (.inl rfl))))
theorem i60 : four 60 := .inr (.inr (.inr (.inr (.inr rfl))))
theorem any23 : ∀ x ∈ A14 ++ A9, Any x :=
  all1 .n (all1 (.b _) (all1 (.b _) (all1 (.i i0) (all1 (.i i1) (all1 (.i im1) (all1 (.i i60) (all1 (.s _) (all1 (.s _) (all1 (.s _) (all1 (.s _) (all1 (.s _) (all1 (.s _) (all1 (.s _)
    (all1 .o (all1 (.l all0 (by decide)) (all1 (.t all0 (by decide)) (all1 (.s _) (all1 (.t (all1 (.i i1) (all1 (.i i2) all0)) (by decide)) (all1 (.t (all1 (.i i2) (all1 (.i i4) all0)) (by decide)) (all1 (.l (all1 (.i i1) (all1 (.i i2) all0)) (by decide)) (all1 (.t (all1 (.i i1) (all1 (.i i0) all0)) (by decide))
    (all1 (.t (all1 (.s _) (all1 (.t (all1 (.i i1) (all1 (.i i2) all0)) (by decide)) all0)) (by decide)) all0))))))))))))))))))))))
def bAny (r : Mob → List D → Option (R × Mob)) : MS := (xseq (xset 2 (xlst (xcons (xc .non) (xcons (xc (.bl true)) (xcons (xc (.bl false)) (xcons (xc (.int 0)) (xcons (xc (.int 1)) (xcons (xop opSub (xc (.int 0)) (xc (.int 1))) (xcons (xc (.int 60)) (xcons (xc (.str "")) (xcons (xc (.str "a")) (xcons (xc (.str "rule 0 1")) (xcons (xc (.str "kink")) (xcons (xc (.str "power")) (xcons (xc (.str "at")) (xcons (xc (.str "over")) xnil))))))))))))))))
  (xseq (xset 2 (xop opAddB (xv 2) (xlst (xcons (xmake 0 r_Rule_init ([.tup [], .tup []].drop 0) (xcons (xc (.int 0)) (xcons (xc (.int 1)) xnil))) (xcons (xlst xnil) (xcons (xtup xnil) (xcons (xc (.str "\n")) (xcons (xtup (xcons (xc (.int 1)) (xcons (xc (.int 2)) xnil))) (xcons (xtup (xcons (xc (.int 2)) (xcons (xc (.int 4)) xnil))) (xcons (xlst (xcons (xc (.int 1)) (xcons (xc (.int 2)) xnil))) (xcons (xtup (xcons (xc (.int 1)) (xcons (xc (.int 0)) xnil))) (xcons (xtup (xcons (xc (.str "kink")) (xcons (xtup (xcons (xc (.int 1)) (xcons (xc (.int 2)) xnil))) xnil))) xnil))))))))))))
  (xseq (xifs (xtor (xtest (xop opEq (xv 1) (xc (.int 0)))) (xtest (xop opGt (xcallB r_w_choose 0 (xcons (xc (.int 3)) xnil)) (xc (.int 0))))) (xret (xcallB r_w_one_of 0 (xcons (xv 2) xnil))) xnext)
  (xseq (xset 3 (xlc (xrange1 (xcons (xcallB r_w_choose 0 (xcons (xc (.int 4)) xnil)) xnil)) (tgn 4) xtyes (xcallB r 0 (xcons (xop opSub (xv 1) (xc (.int 1))) xnil)) [4]))
  (xret (xif (xtest (xop opEq (xcallB r_w_choose 0 (xcons (xc (.int 2)) xnil)) (xc (.int 0)))) (xcb cbTuple (xcons (xv 3) xnil)) (xv 3)))))))
abbrev GA (bs : Mob) (k : Int) (e2 e3 : Ent) : Gam := [.bx bs, .im (.int k), e2, e3, .un]
theorem any_l14 (bs : Mob) (k : Int) (e3 : Ent) : (xset 2 (xlst (xcons (xc .non) (xcons (xc (.bl true)) (xcons (xc (.bl false)) (xcons (xc (.int 0)) (xcons (xc (.int 1)) (xcons (xop opSub (xc (.int 0)) (xc (.int 1))) (xcons (xc (.int 60)) (xcons (xc (.str "")) (xcons (xc (.str "a")) (xcons (xc (.str "rule 0 1")) (xcons (xc (.str "kink")) (xcons (xc (.str "power")) (xcons (xc (.str "at")) (xcons (xc (.str "over")) xnil)))))))))))))))) (GA bs k .un e3) = some (.nx, GA bs k (.ol A14) e3) := rfl
theorem any_l23 (bs : Mob) (k : Int) (e3 : Ent) : (xset 2 (xop opAddB (xv 2) (xlst (xcons (xmake 0 r_Rule_init ([.tup [], .tup []].drop 0) (xcons (xc (.int 0)) (xcons (xc (.int 1)) xnil))) (xcons (xlst xnil) (xcons (xtup xnil) (xcons (xc (.str "\n")) (xcons (xtup (xcons (xc (.int 1)) (xcons (xc (.int 2)) xnil))) (xcons (xtup (xcons (xc (.int 2)) (xcons (xc (.int 4)) xnil))) (xcons (xlst (xcons (xc (.int 1)) (xcons (xc (.int 2)) xnil))) (xcons (xtup (xcons (xc (.int 1)) (xcons (xc (.int 0)) xnil))) (xcons (xtup (xcons (xc (.str "kink")) (xcons (xtup (xcons (xc (.int 1)) (xcons (xc (.int 2)) xnil))) xnil))) xnil)))))))))))) (GA bs k (.ol A14) e3) = some (.nx, GA bs k (.ol (A14 ++ A9)) e3) := by
  have m : xmake 0 r_Rule_init ([.tup [], .tup []].drop 0) (xcons (xc (.int 0)) (xcons (xc (.int 1)) xnil)) (GA bs k (.im (.lst A14)) e3) = some (.ow (.o 0 (rlL 0 1 (lwOf []) (lsOf []))), GA bs k (.im (.lst A14)) e3) := xmake_ok (xs := [.int 0, .int 1]) rfl mk_01
  exact xset_e (xop_ok (x := .im (.lst A14)) (y := .ol A9) (G1 := GA bs k (.im (.lst A14)) e3) rfl (xlst_ok (xcons_ok m (by rfl)) rfl) rfl) rfl
/-- one level more -/
theorem any_step {r : Mob → List D → Option (R × Mob)} {bs : Mob} {k : Int} (hb : Bx bs)
    (hr : k ≠ 0 → ∀ bs, Bx bs → ∃ d bs', r bs [.int (k - 1)] = some (.im d, bs') ∧ Any d ∧ Bx bs') :
    ∃ d bs', runB 2 5 (bAny r) bs [.int k] = some (.im d, bs') ∧ Any d ∧ Bx bs' := by
  have tk : xtest (xop opEq (xv 1) (xc (.int 0))) (GA bs k (.ol (A14 ++ A9)) .un) = some (decide (k = 0), GA bs k (.ol (A14 ++ A9)) .un) := xtest_ok (xo2 rfl rfl rfl)
  have one : ∀ {b1 : Mob}, Bx b1 → (∀ G, G = GA bs k (.ol (A14 ++ A9)) .un → xtor (xtest (xop opEq (xv 1) (xc (.int 0)))) (xtest (xop opGt (xcallB r_w_choose 0 (xcons (xc (.int 3)) xnil)) (xc (.int 0)))) G = some (true, GA b1 k (.ol (A14 ++ A9)) .un)) →
      ∃ d bs', runB 2 5 (bAny r) bs [.int k] = some (.im d, bs') ∧ Any d ∧ Bx bs' := fun {b1} hb1 t => by
    obtain ⟨d, b2, d1, d2, hb2⟩ := v_w_one_of (xs := A14 ++ A9) hb1 (by decide) (by decide)
    refine ⟨d, b2, runB_st rfl ?_, any23 d d2, hb2⟩
    unfold bAny
    refine sb_nx (any_l14 bs k .un) (sb_nx (any_l23 bs k .un) (sb_rt (r := .im d) (G1 := GA b2 k (.im (.lst (A14 ++ A9))) .un) ((xifs_ok (t _ rfl)).trans ((if_pos rfl).trans ?_)) (by rfl)))
    exact xret_ok (xcallB_ok rfl (xcons_ok (r := .im (.lst (A14 ++ A9))) rfl xnil_ok) rfl rfl d1 rfl)
  by_cases hk : k = 0
  · rw [decide_eq_true hk] at tk
    exact one hb fun G hG => by subst hG; exact xtor_t tk
  · rw [decide_eq_false hk] at tk
    obtain ⟨f, b1, f1, f2, f3, hb1⟩ := v_w_choose (m := 3) hb (by decide) (by decide)
    have tf : xtest (xop opGt (xcallB r_w_choose 0 (xcons (xc (.int 3)) xnil)) (xc (.int 0))) (GA bs k (.ol (A14 ++ A9)) .un) = some (decide (0 < f), GA b1 k (.ol (A14 ++ A9)) .un) :=
      xtest_ok (xop_ok (x := .im (.int f)) (y := .im (.int 0)) (xcallB_ok rfl (xc1 rfl xnil_ok) rfl rfl f1 rfl) rfl rfl)
    have t1 := (xtor_f (b := xtest (xop opGt (xcallB r_w_choose 0 (xcons (xc (.int 3)) xnil)) (xc (.int 0)))) tk).trans tf
    by_cases hf : 0 < f
    · rw [decide_eq_true hf] at t1
      exact one hb1 fun G hG => by subst hG; exact t1
    · rw [decide_eq_false hf] at t1
      obtain ⟨m, b2, m1, m2, m3, hb2⟩ := v_w_choose (m := 4) hb1 (by decide) (by decide)
      obtain ⟨out, G', o1, ⟨b3, hb3, rfl⟩, o3, o4⟩ := xlcL_exm (tg := tgn 4) (e := xcallB r 0 (xcons (xop opSub (xv 1) (xc (.int 1))) xnil)) (vs := [4]) (fun j G => ∃ bs, Bx bs ∧ G = GA bs k (.ol (A14 ++ A9)) .un) (fun d => Any d) 3
        (ds := rng 0 m.toNat) (n := 0) (G := GA b2 k (.ol (A14 ++ A9)) .un) ⟨b2, hb2, rfl⟩ (fun d hd j hj G hG => by
          obtain ⟨bs, hb, rfl⟩ := hG
          obtain ⟨x, b', x1, x2, x3⟩ := hr hk bs hb
          exact ⟨_, _, _, rfl, xcallB_ok rfl (xc1 (xo2 (x := .int k) (y := .int 1) rfl rfl rfl) xnil_ok) rfl rfl x1 rfl, x2, b', x3, rfl⟩) (by rw [rng_ln]; omega)
      rw [rng_ln] at o4
      have lc : (xlc (xrange1 (xcons (xcallB r_w_choose 0 (xcons (xc (.int 4)) xnil)) xnil)) (tgn 4) xtyes (xcallB r 0 (xcons (xop opSub (xv 1) (xc (.int 1))) xnil)) [4]) (GA b1 k (.ol (A14 ++ A9)) .un) = some (.ol out, GA b3 k (.ol (A14 ++ A9)) .un) := by
        have := xlc_ok (it := xrange1 (xcons (xcallB r_w_choose 0 (xcons (xc (.int 4)) xnil)) xnil)) (tg := tgn 4) (t := xtyes) (vs := [4]) (G := GA b1 k (.ol (A14 ++ A9)) .un) (xrange1_ok (xc1 (xcallB_ok rfl (xc1 rfl xnil_ok) rfl rfl m1 rfl) xnil_ok) (okR_of (by omega) (by omega))) rfl o1 (decide_eq_true (by omega))
        exact this
      have c4 : (xset 3 (xlc (xrange1 (xcons (xcallB r_w_choose 0 (xcons (xc (.int 4)) xnil)) xnil)) (tgn 4) xtyes (xcallB r 0 (xcons (xop opSub (xv 1) (xc (.int 1))) xnil)) [4])) (GA b1 k (.ol (A14 ++ A9)) .un) = some (.nx, GA b3 k (.ol (A14 ++ A9)) (.ol out)) := xset_e lc rfl
      obtain ⟨z, b4, z1, z2, z3, hb4⟩ := v_w_choose (m := 2) hb3 (by decide) (by decide)
      have t5 : xtest (xop opEq (xcallB r_w_choose 0 (xcons (xc (.int 2)) xnil)) (xc (.int 0))) (GA b3 k (.ol (A14 ++ A9)) (.ol out)) = some (decide (z = 0), GA b4 k (.ol (A14 ++ A9)) (.ol out)) :=
        xtest_ok (xop_ok (x := .im (.int z)) (y := .im (.int 0)) (xcallB_ok rfl (xc1 rfl xnil_ok) rfl rfl z1 rfl) rfl rfl)
      by_cases hz : z = 0
      · rw [decide_eq_true hz] at t5
        refine ⟨.tup out, b4, runB_st rfl ?_, .t o3 (by omega), hb4⟩
        unfold bAny
        exact sb_nx (any_l14 bs k .un) (sb_nx (any_l23 bs k .un) (sb_nx ((xifs_ok t1).trans rfl) (sb_nx c4 (sb_ret (G1 := [.im (.int k), .ol (A14 ++ A9), .im (.lst out), .un]) ((xif_ok t5).trans (xcb_ok (xcons_ok (r := .im (.lst out)) rfl xnil_ok) rfl))))))
      · rw [decide_eq_false hz] at t5
        refine ⟨.lst out, b4, runB_st rfl ?_, .l o3 (by omega), hb4⟩
        unfold bAny
        exact sb_nx (any_l14 bs k .un) (sb_nx (any_l23 bs k .un) (sb_nx ((xifs_ok t1).trans rfl) (sb_nx c4 (sb_ret (G1 := [.im (.int k), .ol (A14 ++ A9), .im (.lst out), .un]) ((xif_ok t5).trans rfl)))))
theorem any_0 {bs : Mob} {k : Int} (h0 : 0 ≤ k) (h : k ≤ 0) (hb : Bx bs) : ∃ d bs', r_w_anything_0 bs [.int k] = some (.im d, bs') ∧ Any d ∧ Bx bs' :=
  any_step (r := r_w_anything_z) hb fun h => absurd (by omega) h
theorem any_1 {bs : Mob} {k : Int} (h0 : 0 ≤ k) (h : k ≤ 1) (hb : Bx bs) : ∃ d bs', r_w_anything_1 bs [.int k] = some (.im d, bs') ∧ Any d ∧ Bx bs' :=
  any_step (r := r_w_anything_0) hb fun _ bs hb => any_0 (by omega) (by omega) hb
theorem any_2 {bs : Mob} {k : Int} (h0 : 0 ≤ k) (h : k ≤ 2) (hb : Bx bs) : ∃ d bs', r_w_anything_2 bs [.int k] = some (.im d, bs') ∧ Any d ∧ Bx bs' :=
  any_step (r := r_w_anything_1) hb fun _ bs hb => any_1 (by omega) (by omega) hb
theorem any_3 {bs : Mob} {k : Int} (h0 : 0 ≤ k) (h : k ≤ 3) (hb : Bx bs) : ∃ d bs', r_w_anything_3 bs [.int k] = some (.im d, bs') ∧ Any d ∧ Bx bs' :=
  any_step (r := r_w_anything_2) hb fun _ bs hb => any_2 (by omega) (by omega) hb
theorem any_4 {bs : Mob} {k : Int} (h0 : 0 ≤ k) (h : k ≤ 4) (hb : Bx bs) : ∃ d bs', r_w_anything_4 bs [.int k] = some (.im d, bs') ∧ Any d ∧ Bx bs' :=
  any_step (r := r_w_anything_3) hb fun _ bs hb => any_3 (by omega) (by omega) hb
theorem v_w_anything {bs : Mob} {k : Int} (h0 : 0 ≤ k) (h : k ≤ 5) (hb : Bx bs) : ∃ d bs', r_w_anything bs [.int k] = some (.im d, bs') ∧ Any d ∧ Bx bs' :=
  any_step (r := r_w_anything_4) hb fun _ bs hb => any_4 (by omega) (by omega) hb
theorem nt_kinkD {lo hi : Rat} {ws : List Wt} {ss : List Sh} {n : Nat} {d : D} {b : Bool} (hw : r_is_within [.obj 0 (rlL lo hi ws ss), d] = some (.im (.bl b))) {q : Rat} (ht : b = true → 0 < n → r_told_kink [.obj 0 (rlL lo hi ws ss), d, .int ((n - 1 : Nat) : Int)] = some (.im (vq q))) :
    r_number_told [.obj 0 (rlL lo hi ws ss), .int (n : Int), .tup [.str "kink", d]] = some (.im (if decide (0 < n) && b then vq q else .non)) := by
  obtain ⟨O, hO⟩ : ∃ O, O = D.obj 0 (rlL lo hi ws ss) := ⟨_, rfl⟩
  rw [← hO] at ht hw ⊢
  have t0 : xtest (xop opEq (xop opIx (xv 2) (xc (.int 0))) (xc (.str "kink"))) [.im O, .im (.int (n : Int)), .im (.tup [.str "kink", d]), .un, .un, .un, .un, .un, .un] = some (true, [.im O, .im (.int (n : Int)), .im (.tup [.str "kink", d]), .un, .un, .un, .un, .un, .un]) := by rfl
  have t1 : xtest (xop opGt (xv 1) (xc (.int 0))) [.im O, .im (.int (n : Int)), .im (.tup [.str "kink", d]), .un, .un, .un, .un, .un, .un] = some (decide (0 < n), [.im O, .im (.int (n : Int)), .im (.tup [.str "kink", d]), .un, .un, .un, .un, .un, .un]) := by
    show some (decide ((0 : Int) < (n : Int)), _) = _
    rw [decide_eq_decide.mpr (show ((0 : Int) < (n : Int)) ↔ 0 < n by omega)]
  have t2 : xtest (xop opEq (xcb cbLen (xcons (xv 2) xnil)) (xc (.int 2))) [.im O, .im (.int (n : Int)), .im (.tup [.str "kink", d]), .un, .un, .un, .un, .un, .un] = some (true, [.im O, .im (.int (n : Int)), .im (.tup [.str "kink", d]), .un, .un, .un, .un, .un, .un]) := by rfl
  have t3 : xtru (xcall r_is_within (xcons (xv 0) (xcons (xop opIx (xv 2) (xc (.int 1))) xnil))) [.im O, .im (.int (n : Int)), .im (.tup [.str "kink", d]), .un, .un, .un, .un, .un, .un] = some (b, [.im O, .im (.int (n : Int)), .im (.tup [.str "kink", d]), .un, .un, .un, .un, .un, .un]) :=
    xtrub (xcall_ok (xc1 rfl (xc1 (by rfl) xnil_ok)) hw)
  refine runF_st rfl ?_
  unfold b_number_told
  refine st_nx (G1 := [.im O, .im (.int (n : Int)), .im (.tup [.str "kink", d]), .un, .un, .un, .un, .un, .un]) (by rfl) ?_
  have tz := xtand_b t0 (xtand_b t1 (xtand_b t2 t3))
  rw [Bool.true_and, Bool.true_and] at tz
  by_cases z : (decide (0 < n) && b) = true
  · have hn : 0 < n := of_decide_eq_true (Bool.and_eq_true _ _ ▸ z).1
    have hb : b = true := (Bool.and_eq_true _ _ ▸ z).2
    have ht := ht hb hn
    rw [z] at tz ⊢
    refine st_rt (G1 := [.im O, .im (.int (n : Int)), .im (.tup [.str "kink", d]), .un, .un, .un, .un, .un, .un]) ?_
    refine Eq.trans (xifs_ok tz) ?_
    rw [if_pos rfl]
    refine xret_ok ?_
    exact xcall_ok (xc1 rfl (xc1 (by rfl) (xc1 (d := .int ((n - 1 : Nat) : Int)) (by
      show some (R.im (D.int ((n : Int) - 1)), _) = _
      rw [show (n : Int) - 1 = ((n - 1 : Nat) : Int) by omega]) xnil_ok))) ht
  · rw [Bool.not_eq_true] at z
    rw [z] at tz ⊢
    refine st_nx (G1 := [.im O, .im (.int (n : Int)), .im (.tup [.str "kink", d]), .un, .un, .un, .un, .un, .un]) (by exact (xifs_ok tz).trans rfl) ?_
    refine st_nx (G1 := [.im O, .im (.int (n : Int)), .im (.tup [.str "kink", d]), .un, .un, .un, .un, .un, .un]) (by rfl) ?_
    exact st_rt (G1 := [.im O, .im (.int (n : Int)), .im (.tup [.str "kink", d]), .un, .un, .un, .un, .un, .un]) (by rfl)
theorem nt_overD {lo hi : Rat} {ws : List Wt} {ss : List Sh} {n : Nat} {s t : Rat} {d9 e9 : D} (hd : IsV d9 s) (he : IsV e9 t) {b c : Bool} {k : Nat} (h1 : r_is_within [.obj 0 (rlL lo hi ws ss), d9] = some (.im (.bl b))) (h2 : r_is_within [.obj 0 (rlL lo hi ws ss), e9] = some (.im (.bl c))) (hs : Ht s k) (ht : Ht t k) (h9 : k + k < 8990) {q : Rat}
    (hq : n = 0 → r_told_between [.obj 0 (rlL lo hi ws ss), vq s, vq t] = some (.im (vq q))) :
    r_number_told [.obj 0 (rlL lo hi ws ss), .int (n : Int), .tup [.str "over", d9, e9]] = some (.im (if decide (n = 0) && (b && c) && decide (s < t) then vq q else .non)) := by
  obtain ⟨O, hO⟩ : ∃ O, O = D.obj 0 (rlL lo hi ws ss) := ⟨_, rfl⟩
  rw [← hO] at h1 h2 hq ⊢
  have t1 : xtest (xop opGt (xv 1) (xc (.int 0))) [.im O, .im (.int (n : Int)), .im (.tup [.str "over", d9, e9]), .un, .un, .un, .un, .un, .un] = some (!decide (n = 0), [.im O, .im (.int (n : Int)), .im (.tup [.str "over", d9, e9]), .un, .un, .un, .un, .un, .un]) := by
    show some (decide ((0 : Int) < (n : Int)), _) = _
    rw [show decide ((0 : Int) < (n : Int)) = !decide (n = 0) by by_cases h : n = 0 <;> simp [h]; omega]
  have t0 : xtest (xop opNe (xop opIx (xv 2) (xc (.int 0))) (xc (.str "over"))) [.im O, .im (.int (n : Int)), .im (.tup [.str "over", d9, e9]), .un, .un, .un, .un, .un, .un] = some (false, [.im O, .im (.int (n : Int)), .im (.tup [.str "over", d9, e9]), .un, .un, .un, .un, .un, .un]) := by rfl
  have t2 : xtest (xop opNe (xcb cbLen (xcons (xv 2) xnil)) (xc (.int 3))) [.im O, .im (.int (n : Int)), .im (.tup [.str "over", d9, e9]), .un, .un, .un, .un, .un, .un] = some (false, [.im O, .im (.int (n : Int)), .im (.tup [.str "over", d9, e9]), .un, .un, .un, .un, .un, .un]) := by rfl
  have cl : xlc (xseqI (xsl slB (xv 2) (xpart (xc (.int 1))) xnop)) (tgn 8) xtyes (xcall r_is_within (xcons (xv 0) (xcons (xv 8) xnil))) [8] [.im O, .im (.int (n : Int)), .im (.tup [.str "over", d9, e9]), .un, .un, .un, .un, .un, .un] =
      some (.ol [.bl b, .bl c], [.im O, .im (.int (n : Int)), .im (.tup [.str "over", d9, e9]), .un, .un, .un, .un, .un, .un]) := by
    refine xlc_un (ds := [d9, e9]) (by rfl) rfl rfl rfl (xlcL_step (r := .im (.bl b)) (G1 := [.im O, .im (.int (n : Int)), .im (.tup [.str "over", d9, e9]), .un, .un, .un, .un, .un, .im d9]) rfl (xcall_ok (xc1 rfl (xc1 rfl xnil_ok)) h1) rfl (xlcL_step (r := .im (.bl c)) (out := []) (G1 := [.im O, .im (.int (n : Int)), .im (.tup [.str "over", d9, e9]), .un, .un, .un, .un, .un, .im e9]) rfl (xcall_ok (xc1 rfl (xc1 rfl xnil_ok)) h2) rfl rfl)) (by show 2 ≤ 100000; decide)
  have al : cbAll [.lst [.bl b, .bl c]] = some (.im (.bl (b && c))) := by
    cases b <;> cases c <;> rfl
  have t3 : xtnot (xtru (xcb cbAll (xcons (xlc (xseqI (xsl slB (xv 2) (xpart (xc (.int 1))) xnop)) (tgn 8) xtyes (xcall r_is_within (xcons (xv 0) (xcons (xv 8) xnil))) [8]) xnil))) [.im O, .im (.int (n : Int)), .im (.tup [.str "over", d9, e9]), .un, .un, .un, .un, .un, .un] = some (!(b && c), [.im O, .im (.int (n : Int)), .im (.tup [.str "over", d9, e9]), .un, .un, .un, .un, .un, .un]) :=
    xtnot_ok (xtrub (xcb_ok (xcw cl xnil_ok) al))
  have tz := xtor_b t0 (xtor_b t1 (xtor_b t2 t3))
  rw [Bool.false_or, Bool.false_or] at tz
  refine runF_st rfl ?_
  unfold b_number_told
  refine st_nx (G1 := [.im O, .im (.int (n : Int)), .im (.tup [.str "over", d9, e9]), .un, .un, .un, .un, .un, .un]) (by rfl) ?_
  refine st_nx (G1 := [.im O, .im (.int (n : Int)), .im (.tup [.str "over", d9, e9]), .un, .un, .un, .un, .un, .un]) (by rfl) ?_
  refine st_nx (G1 := [.im O, .im (.int (n : Int)), .im (.tup [.str "over", d9, e9]), .un, .un, .un, .un, .un, .un]) (by rfl) ?_
  by_cases z : (decide (n = 0) && (b && c)) = true
  · have hn : n = 0 := of_decide_eq_true (Bool.and_eq_true _ _ ▸ z).1
    have hq := hq hn
    have e : (!decide (n = 0) || !(b && c)) = false := by rw [← Bool.not_and, z]; rfl
    rw [e] at tz
    rw [z, Bool.true_and]
    refine st_nx (G1 := [.im O, .im (.int (n : Int)), .im (.tup [.str "over", d9, e9]), .un, .un, .un, .un, .un, .un]) (by exact (xifs_ok tz).trans rfl) ?_
    refine st_nx (G1 := [.im O, .im (.int (n : Int)), .im (.tup [.str "over", d9, e9]), .im (vq s), .im (vq t), .un, .un, .un, .un]) (by exact ypar_ok (G := [.im O, .im (.int (n : Int)), .im (.tup [.str "over", d9, e9]), .un, .un, .un, .un, .un, .un]) (G1 := [.im O, .im (.int (n : Int)), .im (.tup [.str "over", d9, e9]), .un, .un, .un, .un, .un, .un]) (x := .im (vq s)) (y := .im (vq t)) (ycons_ok (xcall_ok (xc1 (d := d9) (xo2 (x := .tup [.str "over", d9, e9]) (y := .int 1) rfl rfl rfl) xnil_ok) (v_value_of hd)) (ycons_ok (xcall_ok (xc1 (d := e9) (xo2 (x := .tup [.str "over", d9, e9]) (y := .int 2) rfl rfl rfl) xnil_ok) (v_value_of he)) ynil_ok))) ?_
    refine st_ret (G1 := [.im O, .im (.int (n : Int)), .im (.tup [.str "over", d9, e9]), .im (vq s), .im (vq t), .un, .un, .un, .un]) ?_
    have tl : xtru (xcall r_is_less (xcons (xv 3) (xcons (xv 4) xnil))) [.im O, .im (.int (n : Int)), .im (.tup [.str "over", d9, e9]), .im (vq s), .im (vq t), .un, .un, .un, .un] = some (decide (s < t), [.im O, .im (.int (n : Int)), .im (.tup [.str "over", d9, e9]), .im (vq s), .im (vq t), .un, .un, .un, .un]) :=
      xtrub (xcall_ok (xc1 rfl (xc1 rfl xnil_ok)) (v_is_less hs ht h9))
    refine (xif_ok tl).trans ?_
    by_cases y : s < t
    · rw [decide_eq_true y, if_pos rfl, if_pos rfl]
      exact xcall_ok (xc1 rfl (xc1 rfl (xc1 rfl xnil_ok))) hq
    · rw [decide_eq_false y]
      rfl
  · rw [Bool.not_eq_true] at z
    have e : (!decide (n = 0) || !(b && c)) = true := by rw [← Bool.not_and, z]; rfl
    rw [e] at tz
    rw [z, Bool.false_and]
    exact st_rt (G1 := [.im O, .im (.int (n : Int)), .im (.tup [.str "over", d9, e9]), .un, .un, .un, .un, .un, .un]) (by exact (xifs_ok tz).trans rfl)
section
variable {lo hi : Rat} {ws : List Wt} {ss : List Sh} {n : Nat}
theorem nr_kinkD {T : D} {t : Rat} {d : D} {b : Bool} (hi : r_w_inside [T, .tup [d]] = some (.im (if b then .lst [vq t] else .non))) {q : Rat} (ht : b = true → 0 < n → r_w_of_kink [T, vq t, .int ((n - 1 : Nat) : Int)] = some (.im (vq q))) :
    r_w_no_right [T, .int (n : Int), .tup [.str "kink", d]] = some (.im (.bl (decide (0 < n) && b && decide (q.num < 0)))) := by
  refine runF_st rfl ?_
  unfold b_w_no_right
  refine st_nx (G1 := [.im T, .im (.int (n : Int)), .im (.tup [.str "kink", d]), .un, .un, .un, .un, .un, .un, .un, .un, .un, .un, .un, .un]) (by rfl) ?_
  refine st_nx (G1 := [.im T, .im (.int (n : Int)), .im (.tup [.str "kink", d]), .un, .un, .un, .un, .un, .un, .un, .un, .un, .un, .un, .un]) (by rfl) ?_
  refine st_nx (by exact xset_e (xcall_ok (xc1 rfl (xc1 (d := .tup [d]) (by rfl) xnil_ok)) hi) rfl) ?_
  cases b
  · rw [Bool.and_false]
    exact st_rt (G1 := [.im T, .im (.int (n : Int)), .im (.tup [.str "kink", d]), .im .non, .un, .un, .un, .un, .un, .un, .un, .un, .un, .un, .un]) (by rfl)
  · refine st_nx (G1 := [.im T, .im (.int (n : Int)), .im (.tup [.str "kink", d]), .im (.lst [vq t]), .un, .un, .un, .un, .un, .un, .un, .un, .un, .un, .un]) (by rfl) ?_
    rw [Bool.and_true]
    have t1 : xtest (xop opGt (xv 1) (xc (.int 0))) [.im T, .im (.int (n : Int)), .im (.tup [.str "kink", d]), .im (.lst [vq t]), .un, .un, .un, .un, .un, .un, .un, .un, .un, .un, .un] = some (decide (0 < n), [.im T, .im (.int (n : Int)), .im (.tup [.str "kink", d]), .im (.lst [vq t]), .un, .un, .un, .un, .un, .un, .un, .un, .un, .un, .un]) := by
      show some (decide ((0 : Int) < (n : Int)), _) = _
      rw [decide_eq_decide.mpr (show ((0 : Int) < (n : Int)) ↔ 0 < n by omega)]
    by_cases hn : 0 < n
    · have ht := ht rfl hn
      rw [decide_eq_true hn] at t1 ⊢
      refine st_rt (G1 := [.im T, .im (.int (n : Int)), .im (.tup [.str "kink", d]), .im (.lst [vq t]), .un, .un, .un, .un, .un, .un, .un, .un, .un, .un, .un]) ?_
      refine Eq.trans (xifs_ok (k := true) (xtand_b (k := true) (by rfl) (xtand_b (k := true) (by rfl) t1))) ?_
      rw [if_pos rfl]
      refine xret_ok ?_
      rw [Bool.true_and]
      exact xo2 (x := .int q.num) (y := .int 0) (xo2 (x := vq q) (y := .int 0) (xcall_ok (xc1 rfl (xc1 (by rfl) (xc1 (d := .int ((n - 1 : Nat) : Int)) (by
        show some (R.im (D.int ((n : Int) - 1)), _) = _
        rw [show (n : Int) - 1 = ((n - 1 : Nat) : Int) by omega]) xnil_ok))) ht) rfl rfl) rfl rfl
    · rw [decide_eq_false hn] at t1 ⊢
      refine st_nx (G1 := [.im T, .im (.int (n : Int)), .im (.tup [.str "kink", d]), .im (.lst [vq t]), .un, .un, .un, .un, .un, .un, .un, .un, .un, .un, .un]) (by exact (xifs_ok (k := false) (xtand_b (k := true) (by rfl) (xtand_b (k := true) (by rfl) t1))).trans rfl) ?_
      refine st_nx (G1 := [.im T, .im (.int (n : Int)), .im (.tup [.str "kink", d]), .im (.lst [vq t]), .un, .un, .un, .un, .un, .un, .un, .un, .un, .un, .un]) (by rfl) ?_
      exact st_rt (G1 := [.im T, .im (.int (n : Int)), .im (.tup [.str "kink", d]), .im (.lst [vq t]), .un, .un, .un, .un, .un, .un, .un, .un, .un, .un, .un]) (by rfl)
theorem nr_overD {T : D} {s t : Rat} {d9 e9 : D} {b : Bool} {k kw : Nat} (hT : opIx T (.int 2) = some (.im (.lst (ws.map wD)))) (hT3 : opIx T (.int 3) = some (.im (.lst (ss.map sD)))) (hi : r_w_inside [T, .tup [d9, e9]] = some (.im (if b then .lst [vq s, vq t] else .non)))
    (hs : Ht s k) (ht : Ht t k) (hw : ∀ w ∈ ws, Ht w.1 k ∧ Ht w.2 kw) (hS : ∀ x ∈ ss, Ht x.1 k ∧ Ht x.2.1 k ∧ Ht x.2.2 kw) (hn : ws.length + ss.length ≤ 100) (h9 : 1 + (ws.length + ss.length) * (kw + (k + k + 1) + 1) + (kw + (k + k + 1)) < 8990) :
    r_w_no_right [T, .int (n : Int), .tup [.str "over", d9, e9]] = some (.im (.bl (decide (n = 0) && b && decide (s < t) && decide ((btw ws ss s t).num < 0)))) := by
  refine runF_st rfl ?_
  unfold b_w_no_right
  refine st_nx (G1 := [.im T, .im (.int (n : Int)), .im (.tup [.str "over", d9, e9]), .un, .un, .un, .un, .un, .un, .un, .un, .un, .un, .un, .un]) (by rfl) ?_
  refine st_nx (G1 := [.im T, .im (.int (n : Int)), .im (.tup [.str "over", d9, e9]), .un, .un, .un, .un, .un, .un, .un, .un, .un, .un, .un, .un]) (by rfl) ?_
  refine st_nx (by exact xset_e (xcall_ok (xc1 rfl (xc1 (d := .tup [d9, e9]) (by rfl) xnil_ok)) hi) rfl) ?_
  cases b
  · rw [Bool.and_false]
    exact st_rt (G1 := [.im T, .im (.int (n : Int)), .im (.tup [.str "over", d9, e9]), .im .non, .un, .un, .un, .un, .un, .un, .un, .un, .un, .un, .un]) (by rfl)
  · refine st_nx (G1 := [.im T, .im (.int (n : Int)), .im (.tup [.str "over", d9, e9]), .im (.lst [vq s, vq t]), .un, .un, .un, .un, .un, .un, .un, .un, .un, .un, .un]) (by rfl) ?_
    refine st_nx (G1 := [.im T, .im (.int (n : Int)), .im (.tup [.str "over", d9, e9]), .im (.lst [vq s, vq t]), .un, .un, .un, .un, .un, .un, .un, .un, .un, .un, .un]) (by rfl) ?_
    refine st_nx (G1 := [.im T, .im (.int (n : Int)), .im (.tup [.str "over", d9, e9]), .im (.lst [vq s, vq t]), .un, .un, .un, .un, .un, .un, .un, .un, .un, .un, .un]) (by rfl) ?_
    rw [Bool.and_true]
    have t1 : xtest (xop opGt (xv 1) (xc (.int 0))) [.im T, .im (.int (n : Int)), .im (.tup [.str "over", d9, e9]), .im (.lst [vq s, vq t]), .un, .un, .un, .un, .un, .un, .un, .un, .un, .un, .un] = some (!decide (n = 0), [.im T, .im (.int (n : Int)), .im (.tup [.str "over", d9, e9]), .im (.lst [vq s, vq t]), .un, .un, .un, .un, .un, .un, .un, .un, .un, .un, .un]) := by
      show some (decide ((0 : Int) < (n : Int)), _) = _
      rw [show decide ((0 : Int) < (n : Int)) = !decide (n = 0) by by_cases h : n = 0 <;> simp [h]; omega]
    have t2 : xtnot (xtru (xcall r_w_is_less (xcons (xop opIx (xv 3) (xc (.int 0))) (xcons (xop opIx (xv 3) (xc (.int 1))) xnil)))) [.im T, .im (.int (n : Int)), .im (.tup [.str "over", d9, e9]), .im (.lst [vq s, vq t]), .un, .un, .un, .un, .un, .un, .un, .un, .un, .un, .un] = some (!decide (s < t), [.im T, .im (.int (n : Int)), .im (.tup [.str "over", d9, e9]), .im (.lst [vq s, vq t]), .un, .un, .un, .un, .un, .un, .un, .un, .un, .un, .un]) :=
      xtnot_ok (xtrub (xcall_ok (xc1 (d := vq s) (by rfl) (xc1 (d := vq t) (by rfl) xnil_ok)) (v_w_is_less hs ht (by omega))))
    have tz := xtor_b (show xtest (xop opNe (xop opIx (xv 2) (xc (.int 0))) (xc (.str "over"))) [.im T, .im (.int (n : Int)), .im (.tup [.str "over", d9, e9]), .im (.lst [vq s, vq t]), .un, .un, .un, .un, .un, .un, .un, .un, .un, .un, .un] = some (false, [.im T, .im (.int (n : Int)), .im (.tup [.str "over", d9, e9]), .im (.lst [vq s, vq t]), .un, .un, .un, .un, .un, .un, .un, .un, .un, .un, .un]) by rfl) (xtor_b (show xtest (xop opNe (xcb cbLen (xcons (xv 2) xnil)) (xc (.int 3))) [.im T, .im (.int (n : Int)), .im (.tup [.str "over", d9, e9]), .im (.lst [vq s, vq t]), .un, .un, .un, .un, .un, .un, .un, .un, .un, .un, .un] = some (false, [.im T, .im (.int (n : Int)), .im (.tup [.str "over", d9, e9]), .im (.lst [vq s, vq t]), .un, .un, .un, .un, .un, .un, .un, .un, .un, .un, .un]) by rfl) (xtor_b t1 t2))
    rw [Bool.false_or, Bool.false_or, ← Bool.not_and] at tz
    by_cases z : (decide (n = 0) && decide (s < t)) = true
    · rw [z] at tz ⊢
      refine st_nx (G1 := [.im T, .im (.int (n : Int)), .im (.tup [.str "over", d9, e9]), .im (.lst [vq s, vq t]), .un, .un, .un, .un, .un, .un, .un, .un, .un, .un, .un]) (by exact (xifs_ok tz).trans rfl) ?_
      have wl := List.length_filter_le (fun w : Wt => decide (s < w.1) && decide (w.1 < t)) ws
      have c4 : xset 4 (xlc (xseqI (xop opIx (xv 0) (xc (.int 2)))) (tgn 14) (xtand (xtru (xcall r_w_is_less (xcons (xop opIx (xv 3) (xc (.int 0))) (xcons (xop opIx (xv 14) (xc (.int 0))) xnil)))) (xtru (xcall r_w_is_less (xcons (xop opIx (xv 14) (xc (.int 0))) (xcons (xop opIx (xv 3) (xc (.int 1))) xnil))))) (xv 14) [14]) [.im T, .im (.int (n : Int)), .im (.tup [.str "over", d9, e9]), .im (.lst [vq s, vq t]), .un, .un, .un, .un, .un, .un, .un, .un, .un, .un, .un] =
          some (.nx, [.im T, .im (.int (n : Int)), .im (.tup [.str "over", d9, e9]), .im (.lst [vq s, vq t]), .ol ((ws.filter fun w => decide (s < w.1) && decide (w.1 < t)).map wD), .un, .un, .un, .un, .un, .un, .un, .un, .un, .un]) := by
        refine xset_e (r := .ol ((ws.filter fun w => decide (s < w.1) && decide (w.1 < t)).map wD)) (G1 := [.im T, .im (.int (n : Int)), .im (.tup [.str "over", d9, e9]), .im (.lst [vq s, vq t]), .un, .un, .un, .un, .un, .un, .un, .un, .un, .un, .un]) ?_ rfl
        refine xlc_un (ds := ws.map wD) (xseqI_ok (xo2 (x := T) (y := .int 2) rfl rfl hT) rfl) rfl rfl rfl (xlcL_fm (fun w : Wt => decide (s < w.1) && decide (w.1 < t)) wD fun w hm => ?_) (by rw [List.length_map]; omega)
        exact ⟨[.im T, .im (.int (n : Int)), .im (.tup [.str "over", d9, e9]), .im (.lst [vq s, vq t]), .un, .un, .un, .un, .un, .un, .un, .un, .un, .un, .im (wD w)], _, rfl, xtand_b (xtrub (xcall_ok (xc1 (d := vq s) (by rfl) (xc1 (d := vq w.1) (by rfl) xnil_ok)) (v_w_is_less hs (hw w hm).1 (by omega)))) (xtrub (xcall_ok (xc1 (d := vq w.1) (by rfl) (xc1 (d := vq t) (by rfl) xnil_ok)) (v_w_is_less (hw w hm).1 ht (by omega)))), fun _ => rfl, fun _ => ⟨_, _, rfl, rfl, rfl⟩⟩
      refine st_nx c4 ?_
      have c5a : xlc (xseqI (xv 4)) (tgt [(tgn 12), (tgn 13)]) xtyes (xv 13) [12, 13] [.im T, .im (.int (n : Int)), .im (.tup [.str "over", d9, e9]), .im (.lst [vq s, vq t]), .ol ((ws.filter fun w => decide (s < w.1) && decide (w.1 < t)).map wD), .un, .un, .un, .un, .un, .un, .un, .un, .un, .un] = some (.ol ((bW s t ws).map vq), [.im T, .im (.int (n : Int)), .im (.tup [.str "over", d9, e9]), .im (.lst [vq s, vq t]), .im (.lst ((ws.filter fun w => decide (s < w.1) && decide (w.1 < t)).map wD)), .un, .un, .un, .un, .un, .un, .un, .un, .un, .un]) := by
        unfold bW
        rw [List.map_map]
        have lp := xlcL_en (tg := tgt [(tgn 12), (tgn 13)]) (e := xv 13) (vs := [12, 13]) (G := [.im T, .im (.int (n : Int)), .im (.tup [.str "over", d9, e9]), .im (.lst [vq s, vq t]), .im (.lst ((ws.filter fun w => decide (s < w.1) && decide (w.1 < t)).map wD)), .un, .un, .un, .un, .un, .un, .un, .un, .un, .un]) (en := wD) (fun w : Wt => vq w.2) (xs := ws.filter fun w => decide (s < w.1) && decide (w.1 < t)) (fun w hm => ⟨_, _, _, rfl, rfl, rfl, rfl⟩)
        have sq : xseqI (xv 4) [.im T, .im (.int (n : Int)), .im (.tup [.str "over", d9, e9]), .im (.lst [vq s, vq t]), .ol ((ws.filter fun w => decide (s < w.1) && decide (w.1 < t)).map wD), .un, .un, .un, .un, .un, .un, .un, .un, .un, .un] = some ((ws.filter fun w => decide (s < w.1) && decide (w.1 < t)).map wD, [.im T, .im (.int (n : Int)), .im (.tup [.str "over", d9, e9]), .im (.lst [vq s, vq t]), .im (.lst ((ws.filter fun w => decide (s < w.1) && decide (w.1 < t)).map wD)), .un, .un, .un, .un, .un, .un, .un, .un, .un, .un]) := by rfl
        exact xlc_ok sq rfl lp (fewl (by rw [List.length_map]; omega))
      have c5 : xset 5 (xlc (xseqI (xv 4)) (tgt [(tgn 12), (tgn 13)]) xtyes (xv 13) [12, 13]) [.im T, .im (.int (n : Int)), .im (.tup [.str "over", d9, e9]), .im (.lst [vq s, vq t]), .ol ((ws.filter fun w => decide (s < w.1) && decide (w.1 < t)).map wD), .un, .un, .un, .un, .un, .un, .un, .un, .un, .un] = some (.nx, [.im T, .im (.int (n : Int)), .im (.tup [.str "over", d9, e9]), .im (.lst [vq s, vq t]), .im (.lst ((ws.filter fun w => decide (s < w.1) && decide (w.1 < t)).map wD)), .ol ((bW s t ws).map vq), .un, .un, .un, .un, .un, .un, .un, .un, .un]) := xset_e c5a rfl
      refine st_nx c5 ?_
      have bl := bW_len s t ws
      have sl := bS_len s t ss
      obtain ⟨f6, f7, f8, f9, f10, lp⟩ := nr_loop (T := T) (x1 := .im (.int (n : Int))) (x2 := .im (.tup [.str "over", d9, e9])) (x4 := .im (.lst ((ws.filter fun w => decide (s < w.1) && decide (w.1 < t)).map wD))) hs ht (kw := kw) (by omega) ss (bW s t ws) .un .un .un .un .un hS (by omega)
      refine st_nx (by exact xfor_ok (ds := ss.map sD) (xseqI_ok (xo2 (x := T) (y := .int 3) rfl rfl hT3) rfl) lp) ?_
      have sm := v_w_sum (d := .lst ((bW s t ws ++ bS s t ss).map vq)) (qs := bW s t ws ++ bS s t ss) (k := kw + (k + k + 1)) rfl (fun q hq => by
        rcases List.mem_append.mp hq with h | h
        · exact (bW_ht (fun w hw' => (hw w hw').2) q h).up (by omega)
        · exact bS_ht hs ht hS q h) (by
        have : (bW s t ws ++ bS s t ss).length * (kw + (k + k + 1) + 1) ≤ (ws.length + ss.length) * (kw + (k + k + 1) + 1) := Nat.mul_le_mul (by rw [List.length_append]; omega) (Nat.le_refl _)
        omega)
      rw [Bool.true_and]
      exact st_ret (xo2 (x := .int (btw ws ss s t).num) (y := .int 0) (xo2 (x := vq (btw ws ss s t)) (y := .int 0) (xcall_ok (xc1 (d := .lst ((bW s t ws ++ bS s t ss).map vq)) (by rfl) xnil_ok) sm) rfl rfl) rfl rfl)
    · rw [Bool.not_eq_true] at z
      rw [z] at tz ⊢
      rw [Bool.false_and]
      exact st_rt (G1 := [.im T, .im (.int (n : Int)), .im (.tup [.str "over", d9, e9]), .im (.lst [vq s, vq t]), .un, .un, .un, .un, .un, .un, .un, .un, .un, .un, .un]) (by exact (xifs_ok tz).trans rfl)
end
structure NoW (d : D) : Prop where
  p : r_is_value [d] = some (.im (.bl false))
  w : r_w_number [d] = some (.im .non)
/-- a thing and the value that it is told as, if it is one -/
def PW (d : D) (c : Option Rat) : Prop := match c with
  | some q => IsV d q ∧ Ht q 14
  | none => NoW d
def isI : D → Bool
  | .int _ => true
  | _ => false
theorem Any.isI {d : D} (h : Any d) : r_is_integer [d] = some (.im (.bl (isI d))) := by
  cases h <;> rfl
theorem now_len {xs : List D} (h : xs.length ≠ 2) : NoW (.tup xs) := by
  have t1 : ∀ e, xtest (xop opNe (xcb cbLen (xcons (xv 0) xnil)) (xc (.int 2))) [.im (.tup xs), e] = some (true, [.im (.tup xs), e]) := fun e => by
    show some (!decide (((xs.length : Nat) : Int) = 2), _) = _
    rw [decide_eq_false (by omega)]
    rfl
  refine ⟨runF_st rfl (st_ret (G1 := [.im (.tup xs)]) ((xvor_f (by rfl)).trans (xcall_ok (xc1 rfl xnil_ok) (runF_st rfl (st_rt (G1 := [.im (.tup xs), .un]) ?_))))), runF_st rfl (st_nx (G1 := [.im (.tup xs), .un]) (by rfl) (st_rt (G1 := [.im (.tup xs), .un]) ?_))⟩
  · exact (xifs_ok (k := true) ((xtor_f (by rfl)).trans (xtor_t (t1 _)))).trans rfl
  · exact (xifs_ok (k := true) ((xtor_f (by rfl)).trans (t1 _))).trans rfl
theorem pair_ints {a b : Int} (h : ¬ (0 < b ∧ Nat.gcd a.natAbs b.natAbs = 1)) : NoW (.tup [.int a, .int b]) := by
  have dv := v_divisor a b
  have dw := v_w_divisor a b
  refine ⟨?_, ?_⟩
  · refine runF_st rfl (st_ret (G1 := [.im (.tup [.int a, .int b])]) ?_)
    refine (xvor_f (by rfl)).trans (xcall_ok (xc1 rfl xnil_ok) ?_)
    refine runF_st rfl (st_nx (G1 := [.im (.tup [.int a, .int b]), .un]) (by rfl) (st_ret (G1 := [.im (.tup [.int a, .int b]), .un]) ?_))
    have t1 : xop opGt (xop opIx (xv 0) (xc (.int 1))) (xc (.int 0)) [.im (.tup [.int a, .int b]), .un] = some (.im (.bl (decide (0 < b))), [.im (.tup [.int a, .int b]), .un]) := rfl
    by_cases hb : 0 < b
    · rw [decide_eq_true hb] at t1
      refine xvand_t t1 (xo2 (xcall_ok (xc1 (xo2 (x := .tup [.int a, .int b]) (y := .int 0) rfl rfl rfl) (xc1 (xo2 (x := .tup [.int a, .int b]) (y := .int 1) rfl rfl rfl) xnil_ok)) dv) rfl ?_)
      show some (R.im (D.bl (decide (((Nat.gcd a.natAbs b.natAbs : Nat) : Int) = 1)))) = _
      rw [decide_eq_false fun z => h ⟨hb, by omega⟩]
    · rw [decide_eq_false hb] at t1
      exact xvand_f t1
  · refine runF_st rfl (st_nx (G1 := [.im (.tup [.int a, .int b]), .un]) (by rfl) (st_nx (G1 := [.im (.tup [.int a, .int b]), .un]) (by rfl) (st_nx (G1 := [.im (.tup [.int a, .int b]), .un]) (by rfl) ?_)))
    have t3 : xtest (xop opGt (xop opIx (xv 0) (xc (.int 1))) (xc (.int 0))) [.im (.tup [.int a, .int b]), .un] = some (decide (0 < b), [.im (.tup [.int a, .int b]), .un]) := rfl
    by_cases hb : 0 < b
    · rw [decide_eq_true hb] at t3
      refine st_ret ((xif_ok (k := false) ((xtand_t t3).trans (xtest_ok (xo2 (xcall_ok (xc1 (xo2 (x := .tup [.int a, .int b]) (y := .int 0) rfl rfl rfl) (xc1 (xo2 (x := .tup [.int a, .int b]) (y := .int 1) rfl rfl rfl) xnil_ok)) dw) rfl ?_)))).trans rfl)
      show some (R.im (D.bl (decide (((Nat.gcd a.natAbs b.natAbs : Nat) : Int) = 1)))) = _
      rw [decide_eq_false fun z => h ⟨hb, by omega⟩]
    · rw [decide_eq_false hb] at t3
      exact st_ret ((xif_ok (k := false) (xtand_f t3)).trans rfl)
theorem pair_val {a b : Int} (h : 0 < b ∧ Nat.gcd a.natAbs b.natAbs = 1) : ∃ q : Rat, IsV (.tup [.int a, .int b]) q ∧ q.num = a ∧ (q.den : Int) = b := by
  refine ⟨⟨a, b.natAbs, by omega, h.2⟩, .inr ?_, rfl, ?_⟩
  · show D.tup [.int a, .int b] = .tup [.int a, .int ((b.natAbs : Nat) : Int)]
    rw [show ((b.natAbs : Nat) : Int) = b by omega]
  · show ((b.natAbs : Nat) : Int) = b
    omega
theorem cbAll_2 (a b : Bool) : cbAll [.lst [.bl a, .bl b]] = some (.im (.bl (a && b))) := by
  cases a <;> cases b <;> rfl
/-- not a whole number, as the law asks it -/
theorem Any.notI {x : D} (h : Any x) (i : Nat) {G : Gam} (hG : xv i G = some (.im x, G)) : xtor (xtru (xcb (cbIsiU 0) (xcons (xv i) (xcons (xc (.ty "bool")) xnil)))) (xtnot (xtru (xcb (cbIsiU 0) (xcons (xv i) (xcons (xc (.ty "int")) xnil))))) G = some (!Bk.isI x, G) := by
  have t : ∀ (c : String) (k : Bool), cbIsiU 0 [x, .ty c] = some (.im (.bl k)) → xtru (xcb (cbIsiU 0) (xcons (xv i) (xcons (xc (.ty c)) xnil))) G = some (k, G) := fun c k e => xtrub (xcb_ok (xc1 hG (xc1 rfl xnil_ok)) e)
  cases h with
  | n => exact (xtor_f (t _ false rfl)).trans (xtnot_ok (t _ false rfl))
  | b _ => exact xtor_t (t _ true rfl)
  | i _ => exact (xtor_f (t _ false rfl)).trans (xtnot_ok (t _ true rfl))
  | s _ => exact (xtor_f (t _ false rfl)).trans (xtnot_ok (t _ false rfl))
  | o => exact (xtor_f (t _ false rfl)).trans (xtnot_ok (t _ false rfl))
  | t _ _ => exact (xtor_f (t _ false rfl)).trans (xtnot_ok (t _ false rfl))
  | l _ _ => exact (xtor_f (t _ false rfl)).trans (xtnot_ok (t _ false rfl))
theorem ones_ne (p q : Bool) (x y : D) : opNe (.lst (([x, y].filter fun d => !Bk.isI d).map fun _ => D.int 1)) (.lst []) = some (.im (.bl (!(Bk.isI x && Bk.isI y)))) := by
  cases e1 : Bk.isI x <;> cases e2 : Bk.isI y <;> simp only [List.filter, e1, e2, Bool.not_true, Bool.not_false, List.map_cons, List.map_nil] <;> rfl
theorem no_ints {x y : D} (hx : Any x) (hy : Any y) (h : (isI x && isI y) = false) : NoW (.tup [x, y]) := by
  refine ⟨?_, ?_⟩
  · refine runF_st rfl (st_ret (G1 := [.im (.tup [x, y])]) ?_)
    refine (xvor_f (by rfl)).trans (xcall_ok (xc1 rfl xnil_ok) ?_)
    have lc : xlc (xseqI (xv 0)) (tgn 1) xtyes (xcall r_is_integer (xcons (xv 1) xnil)) [1] [.im (.tup [x, y]), .un] = some (.ol [.bl (isI x), .bl (isI y)], [.im (.tup [x, y]), .un]) := by
      refine xlc_un (ds := [x, y]) rfl rfl rfl rfl ((xlcL_map (fun d => D.bl (isI d)) fun d hd => ?_).trans rfl) (show 2 ≤ 100000 by decide)
      have pd : Any d := by
        rcases List.mem_cons.mp hd with rfl | hd
        · exact hx
        · rw [List.mem_singleton.mp hd]; exact hy
      exact ⟨_, _, _, rfl, xcall_ok (xc1 (d := d) rfl xnil_ok) pd.isI, rfl, rfl⟩
    have t := xtnot_ok (xtrub (xcb_ok (o := cbAll) (xcw lc xnil_ok) (cbAll_2 _ _)))
    rw [h] at t
    exact runF_st rfl (st_rt ((xifs_ok (k := true) (xtor_b (k := false) (l := true) (by rfl) (xtor_b (k := false) (l := true) (by rfl) t))).trans rfl))
  · refine runF_st rfl (st_nx (G1 := [.im (.tup [x, y]), .un]) (by rfl) (st_nx (G1 := [.im (.tup [x, y]), .un]) (by rfl) (st_rt (G1 := [.im (.tup [x, y]), .un]) ?_)))
    have fm := xlcL_fm (tg := tgn 1) (t := xtor (xtru (xcb (cbIsiU 0) (xcons (xv 1) (xcons (xc (.ty "bool")) xnil)))) (xtnot (xtru (xcb (cbIsiU 0) (xcons (xv 1) (xcons (xc (.ty "int")) xnil)))))) (e := xc (.int 1)) (vs := [1]) (G := [.im (.tup [x, y]), .un]) (en := fun d : D => d) (fun d => !isI d) (fun _ => .int 1) (xs := [x, y])
      (fun d hd => by
        have pd : Any d := by
          rcases List.mem_cons.mp hd with rfl | hd
          · exact hx
          · rw [List.mem_singleton.mp hd]; exact hy
        exact ⟨[.im (.tup [x, y]), .im d], _, rfl, pd.notI 1 rfl, fun _ => rfl, fun _ => ⟨_, _, rfl, rfl, rfl⟩⟩)
    rw [List.map_id'] at fm
    have lc : xlc (xseqI (xv 0)) (tgn 1) (xtor (xtru (xcb (cbIsiU 0) (xcons (xv 1) (xcons (xc (.ty "bool")) xnil)))) (xtnot (xtru (xcb (cbIsiU 0) (xcons (xv 1) (xcons (xc (.ty "int")) xnil)))))) (xc (.int 1)) [1] [.im (.tup [x, y]), .un] = some (.ol (([x, y].filter fun d => !isI d).map fun _ => .int 1), [.im (.tup [x, y]), .un]) :=
      xlc_un (ds := [x, y]) rfl rfl rfl rfl fm (by rw [List.length_map]; exact Nat.le_trans (List.length_filter_le _ _) (show 2 ≤ 100000 by decide))
    have ne := ones_ne true true x y
    rw [h] at ne
    exact (xifs_ok (k := true) (xtest_ok (xop_ok lc (by rfl : xlst xnil _ = some (.ol [], _)) ne))).trans rfl
theorem four_ht {a : Int} (h : four a) : a.natAbs < 2 ^ 14 := by
  rcases h with rfl | rfl | rfl | rfl | rfl | rfl <;> decide
theorem Any.int {d : D} (h : Any d) (e : Bk.isI d = true) : ∃ a, d = .int a ∧ four a := by
  cases h with
  | i h => exact ⟨_, rfl, h⟩
  | _ => cases e
theorem any_pw {d : D} (h : Any d) : ∃ c, PW d c := by
  cases h with
  | n => exact ⟨none, rfl, rfl⟩
  | b x => exact ⟨none, rfl, rfl⟩
  | @i a h => exact ⟨some (a : Rat), .inl ⟨a, rfl, rfl⟩, ⟨by unfold Sm; exact four_ht h, by unfold Sm; show 1 < 2 ^ 14; decide⟩⟩
  | s x => exact ⟨none, rfl, rfl⟩
  | o => exact ⟨none, rfl, rfl⟩
  | l _ _ => exact ⟨none, rfl, rfl⟩
  | @t xs h l =>
    match xs, h, l with
    | [], _, _ => exact ⟨none, now_len (by decide)⟩
    | [x], _, _ => exact ⟨none, now_len (by show 1 ≠ 2; decide)⟩
    | x :: y :: z :: r, _, _ => exact ⟨none, now_len (by simp)⟩
    | [x, y], h, _ =>
      have hx := h x (by simp)
      have hy := h y (by simp)
      cases e : isI x && isI y with
      | false => exact ⟨none, no_ints hx hy e⟩
      | true =>
        rw [Bool.and_eq_true] at e
        obtain ⟨a, rfl, ha⟩ := hx.int e.1
        obtain ⟨b, rfl, hb⟩ := hy.int e.2
        by_cases g : 0 < b ∧ Nat.gcd a.natAbs b.natAbs = 1
        · obtain ⟨q, h1, h2, h3⟩ := pair_val g
          have := four_ht hb
          exact ⟨some q, h1, ⟨by unfold Sm; rw [h2]; exact four_ht ha, by unfold Sm; omega⟩⟩
        · exact ⟨none, pair_ints g⟩
def okc (lo hi : Rat) (c : Option Rat) : Bool := match c with
  | some q => inQ lo hi q
  | none => false
def vc (c : Option Rat) : D := match c with
  | some q => vq q
  | none => .non
section
variable {lo hi : Rat} (h1 : Ht lo 7) (h2 : Ht hi 7)
include h1 h2
theorem isW9 {ws : List Wt} {ss : List Sh} {d : D} {c : Option Rat} (h : PW d c) : r_is_within [.obj 0 (rlL lo hi ws ss), d] = some (.im (.bl (okc lo hi c))) := by
  cases c with
  | some q => exact v_is_within h.1 h.2 h1 h2 (by decide) (by decide)
  | none =>
    have h : NoW d := h
    exact runF_st rfl (st_rt (G1 := [.im (.obj 0 (rlL lo hi ws ss)), .im d]) ((xifs_ok (k := true) (xtnot_ok (k := false) (xtrub (xcall_ok (xc1 rfl xnil_ok) h.p)))).trans rfl))
theorem wi_loop9 {W S : D} {x1 x2 : Ent} : ∀ (cs : List (Option Rat)) (e3 : Ent), (∀ c ∈ cs, ∀ q, c = some q → Ht q 14) →
    ∃ f3, xforL (tgn 3) b_w_inside_1 (cs.map vc) [.im (.tup [vq lo, vq hi, W, S]), x1, x2, e3] = some (if cs.all (okc lo hi) then .nx else .rt (.im .non), [.im (.tup [vq lo, vq hi, W, S]), x1, x2, f3]) := fun cs => by
  induction cs with
  | nil => exact fun e3 _ => ⟨e3, rfl⟩
  | cons c cs ih =>
    intro e3 hq
    cases c with
    | none =>
      refine ⟨.im .non, ?_⟩
      rw [List.all_cons]
      exact xforL_rt9 (G1 := [.im (.tup [vq lo, vq hi, W, S]), x1, x2, .im .non]) (r := .im .non) rfl ((xifs_ok (k := true) (xtor_t (by rfl))).trans rfl)
    | some q =>
      have q0 := hq _ List.mem_cons_self q rfl
      have a1 : xtru (xcall r_w_is_less (xcons (xv 3) (xcons (xop opIx (xv 0) (xc (.int 0))) xnil))) [.im (.tup [vq lo, vq hi, W, S]), x1, x2, .im (vq q)] = some (decide (q < lo), [.im (.tup [vq lo, vq hi, W, S]), x1, x2, .im (vq q)]) := xtrub (xcall_ok (xc1 rfl (xc1 (d := vq lo) (by rfl) xnil_ok)) (v_w_is_less q0 h1 (by omega)))
      have a2 : xtru (xcall r_w_is_less (xcons (xop opIx (xv 0) (xc (.int 1))) (xcons (xv 3) xnil))) [.im (.tup [vq lo, vq hi, W, S]), x1, x2, .im (vq q)] = some (decide (hi < q), [.im (.tup [vq lo, vq hi, W, S]), x1, x2, .im (vq q)]) := xtrub (xcall_ok (xc1 (d := vq hi) (by rfl) (xc1 rfl xnil_ok)) (v_w_is_less h2 q0 (by omega)))
      have a0 : xtest (xop opIs (xv 3) (xc .non)) [.im (.tup [vq lo, vq hi, W, S]), x1, x2, .im (vq q)] = some (false, [.im (.tup [vq lo, vq hi, W, S]), x1, x2, .im (vq q)]) := by rfl
      have st : b_w_inside_1 [.im (.tup [vq lo, vq hi, W, S]), x1, x2, .im (vq q)] = some (if inQ lo hi q then .nx else .rt (.im .non), [.im (.tup [vq lo, vq hi, W, S]), x1, x2, .im (vq q)]) := by
        unfold b_w_inside_1
        rw [xifs_ok (xtor_b a0 (xtor_b a1 a2))]
        unfold inQ
        cases decide (q < lo) <;> cases decide (hi < q) <;> rfl
      by_cases z : inQ lo hi q = true
      · obtain ⟨f3, ih⟩ := ih (.im (vq q)) (fun y hy => hq y (List.mem_cons_of_mem _ hy))
        rw [z] at st
        refine ⟨f3, (xforL_nx (G1 := [.im (.tup [vq lo, vq hi, W, S]), x1, x2, .im (vq q)]) rfl st).trans ?_⟩
        rw [ih, List.all_cons, show okc lo hi (some q) = true from z, Bool.true_and]
      · rw [Bool.not_eq_true] at z
        rw [z] at st
        refine ⟨.im (vq q), ?_⟩
        rw [List.all_cons, show okc lo hi (some q) = false from z]
        exact xforL_rt9 (G1 := [.im (.tup [vq lo, vq hi, W, S]), x1, x2, .im (vq q)]) rfl st
theorem inside9 {W S : D} {cp : List (D × Option Rat)} (hc : ∀ p ∈ cp, PW p.1 p.2) (hn : cp.length ≤ 100) :
    r_w_inside [.tup [vq lo, vq hi, W, S], .tup (cp.map (·.1))] = some (.im (if (cp.map (·.2)).all (okc lo hi) then .lst ((cp.map (·.2)).map vc) else .non)) := by
  obtain ⟨f3, lp⟩ := wi_loop9 h1 h2 (W := W) (S := S) (x1 := .im (.tup (cp.map (·.1)))) (x2 := .im (.lst ((cp.map (·.2)).map vc))) (cp.map (·.2)) .un (fun c hc' q hq => by
    obtain ⟨p, hp, rfl⟩ := List.mem_map.mp hc'
    have := hc p hp
    rw [hq] at this
    exact this.2)
  have s2 : xset 2 (xlc (xseqI (xv 1)) (tgn 3) xtyes (xcall r_w_number (xcons (xv 3) xnil)) [3]) [.im (.tup [vq lo, vq hi, W, S]), .im (.tup (cp.map (·.1))), .un, .un] =
      some (.nx, [.im (.tup [vq lo, vq hi, W, S]), .im (.tup (cp.map (·.1))), .ol ((cp.map (·.2)).map vc), .un]) := by
    refine xset_e (r := .ol ((cp.map (·.2)).map vc)) (G1 := [.im (.tup [vq lo, vq hi, W, S]), .im (.tup (cp.map (·.1))), .un, .un]) ?_ rfl
    rw [List.map_map]
    refine xlc_un (ds := cp.map (·.1)) (by rfl) rfl rfl rfl (xlcL_en (en := fun p : D × Option Rat => p.1) (fun p : D × Option Rat => vc p.2) fun p hp => ?_) (by rw [List.length_map]; omega)
    refine ⟨_, .im (vc p.2), _, rfl, xcall_ok (xc1 (d := p.1) rfl xnil_ok) ?_, rfl, rfl⟩
    have := hc p hp
    cases e : p.2 with
    | some q => rw [e] at this; exact v_w_number this.1
    | none => rw [e] at this; exact (show NoW p.1 from this).w
  refine runF_st rfl ?_
  refine st_nx s2 ?_
  by_cases z : (cp.map (·.2)).all (okc lo hi) = true
  · rw [z] at lp ⊢
    exact st_nx (xfor_ok (ds := (cp.map (·.2)).map vc) (by rfl) lp) (st_ret (by rfl))
  · rw [Bool.not_eq_true] at z
    rw [z] at lp ⊢
    exact st_rt (xfor_ok (ds := (cp.map (·.2)).map vc) (by rfl) lp)
end
end Bk
namespace Bk
open PySem L2
section
variable {n : Nat} {k : PySem.Str} {l : List D}
abbrev GN (O : D) (n : Nat) (V : D) : Gam := [.im O, .im (.int (n : Int)), .im V, .un, .un, .un, .un, .un, .un]
theorem len9 (l : List D) (x : D) : cbLen [.tup (x :: l)] = some (.im (.int ((l.length : Int) + 1))) := rfl
theorem ix0 (l : List D) (x : D) : opIx (.tup (x :: l)) (.int 0) = some (.im x) := by
  show (atI (x :: l) ((0 : Nat) : Int)).map R.im = _
  rw [atI_nat _ _ (by simp)]
  rfl
theorem gt0N (n : Nat) : opGt (.int (n : Int)) (.int 0) = some (.im (.bl (decide (0 < n)))) := by
  show some (R.im (D.bl (decide ((0 : Int) < (n : Int))))) = _
  rw [decide_eq_decide.mpr (show ((0 : Int) < (n : Int)) ↔ 0 < n by omega)]
theorem eq0N (n : Nat) : opEq (.int (n : Int)) (.int 0) = some (.im (.bl (decide (n = 0)))) := by
  show some (R.im (D.bl (decide ((n : Int) = (0 : Int))))) = _
  rw [decide_eq_decide.mpr (show ((n : Int) = (0 : Int)) ↔ n = 0 by omega)]
theorem eqS (a b : PySem.Str) : opEq (.str a) (.str b) = some (.im (.bl (decide (a = b)))) := rfl
theorem neS (a b : PySem.Str) : opNe (.str a) (.str b) = some (.im (.bl (!decide (a = b)))) := rfl
theorem eqL (l : List D) (m : Nat) : opEq (.int ((l.length : Int) + 1)) (.int ((m : Int) + 1)) = some (.im (.bl (decide (l.length = m)))) := by
  show some (R.im (D.bl (decide ((l.length : Int) + 1 = (m : Int) + 1)))) = _
  rw [decide_eq_decide.mpr (show ((l.length : Int) + 1 = (m : Int) + 1) ↔ l.length = m by omega)]
theorem neL (l : List D) (m : Nat) : opNe (.int ((l.length : Int) + 1)) (.int ((m : Int) + 1)) = some (.im (.bl (!decide (l.length = m)))) := by
  show some (R.im (D.bl (!decide ((l.length : Int) + 1 = (m : Int) + 1)))) = _
  rw [decide_eq_decide.mpr (show ((l.length : Int) + 1 = (m : Int) + 1) ↔ l.length = m by omega)]
theorem nt_none {O : D} (hp : k = "power" → r_is_power [.int (n : Int), .tup (.str k :: l)] = some (.im (.bl false)))
    (hk : k = "kink" → 0 < n → ∀ a, l = [a] → r_is_within [O, a] = some (.im (.bl false))) (ha : k = "at" → n = 0 → ∀ a, l = [a] → r_is_within [O, a] = some (.im (.bl false)))
    (ho : k = "over" → n = 0 → ∀ a b, l = [a, b] → ∃ x y, r_is_within [O, a] = some (.im (.bl x)) ∧ r_is_within [O, b] = some (.im (.bl y)) ∧ (x && y) = false) :
    r_number_told [O, .int (n : Int), .tup (.str k :: l)] = some (.im .non) := by
  obtain ⟨V, hV⟩ : ∃ V, V = D.tup (.str k :: l) := ⟨_, rfl⟩
  have v0 : opIx V (.int 0) = some (.im (.str k)) := by rw [hV]; exact ix0 _ _
  have vl : cbLen [V] = some (.im (.int ((l.length : Int) + 1))) := by rw [hV]; rfl
  rw [← hV] at hp ⊢
  have e0 : ∀ s : PySem.Str, xtest (xop opEq (xop opIx (xv 2) (xc (.int 0))) (xc (.str s))) (GN O n V) = some (decide (k = s), GN O n V) := fun s => xtest_ok (xo2 (x := .str k) (xo2 (x := V) (y := .int 0) rfl rfl v0) rfl (eqS _ _))
  have tl : ∀ m : Nat, xtest (xop opEq (xcb cbLen (xcons (xv 2) xnil)) (xc (.int ((m : Int) + 1)))) (GN O n V) = some (decide (l.length = m), GN O n V) := fun m => xtest_ok (xo2 (xcb_ok (xc1 (d := V) rfl xnil_ok) vl) rfl (eqL l m))
  have g0 : xtest (xop opGt (xv 1) (xc (.int 0))) (GN O n V) = some (decide (0 < n), GN O n V) := xtest_ok (xo2 rfl rfl (gt0N n))
  have q0 : xtest (xop opEq (xv 1) (xc (.int 0))) (GN O n V) = some (decide (n = 0), GN O n V) := xtest_ok (xo2 rfl rfl (eq0N n))
  have wi : ∀ a, l = [a] → r_is_within [O, a] = some (.im (.bl false)) → xtru (xcall r_is_within (xcons (xv 0) (xcons (xop opIx (xv 2) (xc (.int 1))) xnil))) (GN O n V) = some (false, GN O n V) := fun a e h => by
    subst e
    exact xtrub (xcall_ok (xc1 (d := O) rfl (xc1 (d := a) (xo2 (x := V) (y := .int 1) rfl rfl (by rw [hV]; rfl)) xnil_ok)) h)
  have one : ∀ l : List D, l.length = 1 → ∃ a, l = [a] := fun l h => by
    match l, h with
    | [a], _ => exact ⟨a, rfl⟩
  have t1 : xtand (xtest (xop opEq (xop opIx (xv 2) (xc (.int 0))) (xc (.str "power")))) (xtru (xcall r_is_power (xcons (xv 1) (xcons (xv 2) xnil)))) (GN O n V) = some (false, GN O n V) := by
    have e := e0 "power"
    by_cases h : k = "power"
    · rw [decide_eq_true h] at e
      exact (xtand_t e).trans (xtrub (xcall_ok (xc1 rfl (xc1 rfl xnil_ok)) (hp h)))
    · rw [decide_eq_false h] at e
      exact xtand_f e
  have t2 : xtand (xtest (xop opEq (xop opIx (xv 2) (xc (.int 0))) (xc (.str "kink")))) (xtand (xtest (xop opGt (xv 1) (xc (.int 0)))) (xtand (xtest (xop opEq (xcb cbLen (xcons (xv 2) xnil)) (xc (.int 2)))) (xtru (xcall r_is_within (xcons (xv 0) (xcons (xop opIx (xv 2) (xc (.int 1))) xnil)))))) (GN O n V) = some (false, GN O n V) := by
    have e := e0 "kink"
    have g := g0
    have m := tl 1
    by_cases h : k = "kink"
    · rw [decide_eq_true h] at e
      by_cases h2 : 0 < n
      · rw [decide_eq_true h2] at g
        by_cases h3 : l.length = 1
        · rw [decide_eq_true h3] at m
          obtain ⟨a, e3⟩ := one l h3
          exact (xtand_t e).trans ((xtand_t g).trans ((xtand_t m).trans (wi a e3 (hk h h2 a e3))))
        · rw [decide_eq_false h3] at m
          exact (xtand_t e).trans ((xtand_t g).trans (xtand_f m))
      · rw [decide_eq_false h2] at g
        exact (xtand_t e).trans (xtand_f g)
    · rw [decide_eq_false h] at e
      exact xtand_f e
  have t3 : xtand (xtest (xop opEq (xop opIx (xv 2) (xc (.int 0))) (xc (.str "at")))) (xtand (xtest (xop opEq (xv 1) (xc (.int 0)))) (xtand (xtest (xop opEq (xcb cbLen (xcons (xv 2) xnil)) (xc (.int 2)))) (xtru (xcall r_is_within (xcons (xv 0) (xcons (xop opIx (xv 2) (xc (.int 1))) xnil)))))) (GN O n V) = some (false, GN O n V) := by
    have e := e0 "at"
    have g := q0
    have m := tl 1
    by_cases h : k = "at"
    · rw [decide_eq_true h] at e
      by_cases h2 : n = 0
      · rw [decide_eq_true h2] at g
        by_cases h3 : l.length = 1
        · rw [decide_eq_true h3] at m
          obtain ⟨a, e3⟩ := one l h3
          exact (xtand_t e).trans ((xtand_t g).trans ((xtand_t m).trans (wi a e3 (ha h h2 a e3))))
        · rw [decide_eq_false h3] at m
          exact (xtand_t e).trans ((xtand_t g).trans (xtand_f m))
      · rw [decide_eq_false h2] at g
        exact (xtand_t e).trans (xtand_f g)
    · rw [decide_eq_false h] at e
      exact xtand_f e
  have e4 : xtest (xop opNe (xop opIx (xv 2) (xc (.int 0))) (xc (.str "over"))) (GN O n V) = some (!decide (k = "over"), GN O n V) := xtest_ok (xo2 (x := .str k) (xo2 (x := V) (y := .int 0) rfl rfl v0) rfl (neS _ _))
  have m4 : xtest (xop opNe (xcb cbLen (xcons (xv 2) xnil)) (xc (.int 3))) (GN O n V) = some (!decide (l.length = 2), GN O n V) := xtest_ok (xo2 (xcb_ok (xc1 (d := V) rfl xnil_ok) vl) rfl (neL l 2))
  have t4 : xtor (xtest (xop opNe (xop opIx (xv 2) (xc (.int 0))) (xc (.str "over")))) (xtor (xtest (xop opGt (xv 1) (xc (.int 0)))) (xtor (xtest (xop opNe (xcb cbLen (xcons (xv 2) xnil)) (xc (.int 3)))) (xtnot (xtru (xcb cbAll (xcons (xlc (xseqI (xsl slB (xv 2) (xpart (xc (.int 1))) xnop)) (tgn 8) xtyes (xcall r_is_within (xcons (xv 0) (xcons (xv 8) xnil))) [8]) xnil)))))) (GN O n V) = some (true, GN O n V) := by
    have g := g0
    by_cases h : k = "over"
    · rw [decide_eq_true h] at e4
      refine (xtor_f e4).trans ?_
      by_cases h2 : n = 0
      · rw [decide_eq_false (by omega)] at g
        refine (xtor_f g).trans ?_
        by_cases h3 : l.length = 2
        · rw [decide_eq_true h3] at m4
          refine (xtor_f m4).trans ?_
          obtain ⟨a, b, e3⟩ : ∃ a b, l = [a, b] := by
            match l, h3 with
            | [a, b], _ => exact ⟨a, b, rfl⟩
          obtain ⟨x, y, w1, w2, w3⟩ := ho h h2 a b e3
          subst e3
          have cl : xlc (xseqI (xsl slB (xv 2) (xpart (xc (.int 1))) xnop)) (tgn 8) xtyes (xcall r_is_within (xcons (xv 0) (xcons (xv 8) xnil))) [8] (GN O n V) = some (.ol [.bl x, .bl y], GN O n V) := by
            rw [hV]
            refine xlc_un (ds := [a, b]) (by rfl) rfl rfl rfl (xlcL_step (r := .im (.bl x)) (G1 := [.im O, .im (.int (n : Int)), .im (.tup [.str k, a, b]), .un, .un, .un, .un, .un, .im a]) rfl (xcall_ok (xc1 rfl (xc1 rfl xnil_ok)) w1) rfl (xlcL_step (r := .im (.bl y)) (out := []) (G1 := [.im O, .im (.int (n : Int)), .im (.tup [.str k, a, b]), .un, .un, .un, .un, .un, .im b]) rfl (xcall_ok (xc1 rfl (xc1 rfl xnil_ok)) w2) rfl rfl)) (by show 2 ≤ 100000; decide)
          exact xtnot_ok (k := false) (by rw [← w3]; exact xtrub (xcb_ok (xcw cl xnil_ok) (cbAll_2 x y)))
        · rw [decide_eq_false h3] at m4
          exact xtor_t m4
      · rw [decide_eq_true (by omega)] at g
        exact xtor_t g
    · rw [decide_eq_false h] at e4
      exact xtor_t e4
  refine runF_st rfl ?_
  unfold b_number_told
  refine st_nx (G1 := GN O n V) ((xifs_ok t1).trans rfl) (st_nx (G1 := GN O n V) ((xifs_ok t2).trans rfl) (st_nx (G1 := GN O n V) ((xifs_ok t3).trans rfl) ?_))
  exact st_rt (G1 := GN O n V) ((xifs_ok t4).trans rfl)
/-- the program's False for a tuple that begins with a text -/
theorem rh_none {O : D} (h : r_number_told [O, .int (n : Int), .tup (.str k :: l)] = some (.im .non)) : r_refuting_holds [O, .int (n : Int), .tup (.str k :: l)] = some (.im (.bl false)) :=
  v_refuting (q := 0) (b := false) h
abbrev GL (T : D) (n : Nat) (V : D) (e3 : Ent) : Gam := [.im T, .im (.int (n : Int)), .im V, e3, .un, .un, .un, .un, .un, .un, .un, .un, .un, .un, .un]
theorem nr_1 {T : D} : r_w_no_right [T, .int (n : Int), .tup [.str k]] = some (.im (.bl false)) :=
  runF_st rfl (st_rt (G1 := GL T n (.tup [.str k]) .un) (by rfl))
theorem nr_t1 (T a : D) : xtor (xtnot (xtru (xcb (cbIsiU 0) (xcons (xv 2) (xcons (xc (.ty "tuple")) xnil))))) (xtor (xtest (xop opLt (xcb cbLen (xcons (xv 2) xnil)) (xc (.int 2)))) (xtnot (xtru (xcb (cbIsiU 0) (xcons (xop opIx (xv 2) (xc (.int 0))) (xcons (xc (.ty "str")) xnil)))))) (GL T n (.tup (.str k :: a :: l)) .un) = some (false, GL T n (.tup (.str k :: a :: l)) .un) := by
  have t2 : xtest (xop opLt (xcb cbLen (xcons (xv 2) xnil)) (xc (.int 2))) (GL T n (.tup (.str k :: a :: l)) .un) = some (false, GL T n (.tup (.str k :: a :: l)) .un) := by
    show some (decide ((l.length : Int) + 1 + 1 < 2), _) = _
    rw [decide_eq_false (by omega)]
  have t3 : xtnot (xtru (xcb (cbIsiU 0) (xcons (xop opIx (xv 2) (xc (.int 0))) (xcons (xc (.ty "str")) xnil)))) (GL T n (.tup (.str k :: a :: l)) .un) = some (false, GL T n (.tup (.str k :: a :: l)) .un) :=
    xtnot_ok (k := true) (xtrub (xcb_ok (xc1 (xo2 (x := .tup (.str k :: a :: l)) (y := .int 0) rfl rfl (ix0 _ _)) (xc1 rfl xnil_ok)) rfl))
  exact (xtor_f (by rfl)).trans ((xtor_f t2).trans t3)
/-- the law's False where the form is none -/
theorem nr_no {T a r : D} (hp : ¬ (k = "power" ∧ l.length = 1)) (hi : r_w_inside [T, .tup (a :: l)] = some (.im r))
    (hr : r = .non ∨ (∃ xs, r = .lst xs) ∧ ¬ (k = "kink" ∧ l.length = 0 ∧ 0 < n) ∧ ¬ (k = "at" ∧ l.length = 0 ∧ n = 0) ∧ ¬ (k = "over" ∧ l.length = 1 ∧ n = 0)) :
    r_w_no_right [T, .int (n : Int), .tup (.str k :: a :: l)] = some (.im (.bl false)) := by
  have T1 := nr_t1 (n := n) (k := k) (l := l) T a
  obtain ⟨V, hV⟩ : ∃ V, V = D.tup (.str k :: a :: l) := ⟨_, rfl⟩
  have v0 : opIx V (.int 0) = some (.im (.str k)) := by rw [hV]; exact ix0 _ _
  have vl : cbLen [V] = some (.im (.int (((a :: l).length : Int) + 1))) := by rw [hV]; rfl
  have vs : slB V (some 1) none = some (.im (.tup (a :: l))) := by
    rw [hV]
    show some (R.im (D.tup (cutD _ _ _))) = _
    rw [cut_tail]
    rfl
  rw [← hV] at T1 ⊢
  have e0 : ∀ (s : PySem.Str) (e3 : Ent), xtest (xop opEq (xop opIx (xv 2) (xc (.int 0))) (xc (.str s))) (GL T n V e3) = some (decide (k = s), GL T n V e3) := fun s e3 => xtest_ok (xo2 (x := .str k) (xo2 (x := V) (y := .int 0) rfl rfl v0) rfl (eqS _ _))
  have tl : ∀ (m : Nat) (e3 : Ent), xtest (xop opEq (xcb cbLen (xcons (xv 2) xnil)) (xc (.int ((m : Int) + 1)))) (GL T n V e3) = some (decide ((a :: l).length = m), GL T n V e3) := fun m e3 => xtest_ok (xo2 (xcb_ok (xc1 (d := V) rfl xnil_ok) vl) rfl (eqL (a :: l) m))
  have T2 : xtand (xtest (xop opEq (xop opIx (xv 2) (xc (.int 0))) (xc (.str "power")))) (xtest (xop opEq (xcb cbLen (xcons (xv 2) xnil)) (xc (.int 3)))) (GL T n V .un) = some (false, GL T n V .un) := by
    refine (xtand_b (e0 "power" _) (tl 2 _)).trans ?_
    congr 2
    by_cases h : k = "power"
    · rw [decide_eq_false (p := (a :: l).length = 2) (fun z => hp ⟨h, by simpa using z⟩), Bool.and_false]
    · rw [decide_eq_false h, Bool.false_and]
  refine runF_st rfl ?_
  unfold b_w_no_right
  refine st_nx (G1 := GL T n V .un) ((xifs_ok T1).trans rfl) (st_nx (G1 := GL T n V .un) ((xifs_ok T2).trans rfl) (st_nx (G1 := GL T n V (.im r)) (xset_e (r := .im r) (G1 := GL T n V .un) (xcall_ok (xc1 rfl (xc1 (d := .tup (a :: l)) (xsl_ok (x := .im V) (i := some 1) (j := none) rfl rfl rfl vs) xnil_ok)) hi) rfl) ?_))
  rcases hr with rfl | ⟨⟨xs, rfl⟩, h1, h2, h3⟩
  · exact st_rt (G1 := GL T n V (.im .non)) (by rfl)
  · refine st_nx (G1 := GL T n V (.im (.lst xs))) (by rfl) ?_
    have g0 : xtest (xop opGt (xv 1) (xc (.int 0))) (GL T n V (.im (.lst xs))) = some (decide (0 < n), GL T n V (.im (.lst xs))) := xtest_ok (xo2 rfl rfl (gt0N n))
    have q0 : xtest (xop opEq (xv 1) (xc (.int 0))) (GL T n V (.im (.lst xs))) = some (decide (n = 0), GL T n V (.im (.lst xs))) := xtest_ok (xo2 rfl rfl (eq0N n))
    have T4 := xtand_b (e0 "kink" (.im (.lst xs))) (xtand_b (tl 1 _) g0)
    have T5 := xtand_b (e0 "at" (.im (.lst xs))) (xtand_b (tl 1 _) q0)
    have z4 : (decide (k = "kink") && (decide ((a :: l).length = 1) && decide (0 < n))) = false := by
      by_cases a1 : k = "kink" <;> by_cases a2 : (a :: l).length = 1 <;> by_cases a3 : 0 < n <;> simp only [a1, a2, a3, decide_true, decide_false, Bool.and_true, Bool.and_false, Bool.true_and, Bool.false_and] <;> exact absurd ⟨a1, by simpa using a2, a3⟩ h1
    have z5 : (decide (k = "at") && (decide ((a :: l).length = 1) && decide (n = 0))) = false := by
      by_cases a1 : k = "at" <;> by_cases a2 : (a :: l).length = 1 <;> by_cases a3 : n = 0 <;> simp only [a1, a2, a3, decide_true, decide_false, Bool.and_true, Bool.and_false, Bool.true_and, Bool.false_and] <;> exact absurd ⟨a1, by simpa using a2, a3⟩ h2
    rw [z4] at T4
    rw [z5] at T5
    refine st_nx (G1 := GL T n V (.im (.lst xs))) ((xifs_ok T4).trans rfl) (st_nx (G1 := GL T n V (.im (.lst xs))) ((xifs_ok T5).trans rfl) ?_)
    have e6 : xtest (xop opNe (xop opIx (xv 2) (xc (.int 0))) (xc (.str "over"))) (GL T n V (.im (.lst xs))) = some (!decide (k = "over"), GL T n V (.im (.lst xs))) := xtest_ok (xo2 (x := .str k) (xo2 (x := V) (y := .int 0) rfl rfl v0) rfl (neS _ _))
    have m6 : xtest (xop opNe (xcb cbLen (xcons (xv 2) xnil)) (xc (.int 3))) (GL T n V (.im (.lst xs))) = some (!decide ((a :: l).length = 2), GL T n V (.im (.lst xs))) := xtest_ok (xo2 (xcb_ok (xc1 (d := V) rfl xnil_ok) vl) rfl (neL (a :: l) 2))
    have T6 : ∀ t : M Bool, xtor (xtest (xop opNe (xop opIx (xv 2) (xc (.int 0))) (xc (.str "over")))) (xtor (xtest (xop opNe (xcb cbLen (xcons (xv 2) xnil)) (xc (.int 3)))) (xtor (xtest (xop opGt (xv 1) (xc (.int 0)))) t)) (GL T n V (.im (.lst xs))) = some (true, GL T n V (.im (.lst xs))) := fun t => by
      by_cases a1 : k = "over"
      · rw [decide_eq_true a1] at e6
        refine (xtor_f e6).trans ?_
        by_cases a2 : (a :: l).length = 2
        · rw [decide_eq_true a2] at m6
          refine (xtor_f m6).trans ?_
          have a3 : ¬ n = 0 := fun z => h3 ⟨a1, by simpa using a2, z⟩
          rw [decide_eq_true (by omega)] at g0
          exact xtor_t g0
        · rw [decide_eq_false a2] at m6
          exact xtor_t m6
      · rw [decide_eq_false a1] at e6
        exact xtor_t e6
    exact st_rt (G1 := GL T n V (.im (.lst xs))) ((xifs_ok (T6 _)).trans rfl)
end
theorem ip_len {n : Nat} {k : PySem.Str} {l : List D} (h : l.length ≠ 2) : r_is_power [.int (n : Int), .tup (.str k :: l)] = some (.im (.bl false)) := by
  have m : xtest (xop opNe (xcb cbLen (xcons (xv 1) xnil)) (xc (.int 3))) [.im (.int (n : Int)), .im (.tup (.str k :: l))] = some (true, [.im (.int (n : Int)), .im (.tup (.str k :: l))]) := by
    refine (xtest_ok (xo2 (xcb_ok (xc1 rfl xnil_ok) (len9 l _)) rfl (neL l 2))).trans ?_
    rw [decide_eq_false h]
    rfl
  exact runF_st rfl (st_rt (G1 := [.im (.int (n : Int)), .im (.tup (.str k :: l))]) ((xifs_ok (xtor_t m)).trans rfl))
theorem ip_no {n : Nat} {k : PySem.Str} {x y : D} (hx : Any x) (hy : Any y) (h : (isI x && isI y) = false) : r_is_power [.int (n : Int), .tup [.str k, x, y]] = some (.im (.bl false)) := by
  have a1 : xtnot (xtru (xcall r_is_integer (xcons (xop opIx (xv 1) (xc (.int 1))) xnil))) [.im (.int (n : Int)), .im (.tup [.str k, x, y])] = some (!isI x, [.im (.int (n : Int)), .im (.tup [.str k, x, y])]) := xtnot_ok (xtrub (xcall_ok (xc1 (d := x) (by rfl) xnil_ok) hx.isI))
  have a2 : xtnot (xtru (xcall r_is_integer (xcons (xop opIx (xv 1) (xc (.int 2))) xnil))) [.im (.int (n : Int)), .im (.tup [.str k, x, y])] = some (!isI y, [.im (.int (n : Int)), .im (.tup [.str k, x, y])]) := xtnot_ok (xtrub (xcall_ok (xc1 (d := y) (by rfl) xnil_ok) hy.isI))
  have z : (false || (!isI x || !isI y)) = true := by
    cases e1 : isI x <;> cases e2 : isI y <;> simp [e1, e2] at h ⊢
  have t := xtor_b (k := false) (show xtest (xop opNe (xcb cbLen (xcons (xv 1) xnil)) (xc (.int 3))) [.im (.int (n : Int)), .im (.tup [.str k, x, y])] = some (false, [.im (.int (n : Int)), .im (.tup [.str k, x, y])]) from rfl) (xtor_b a1 a2)
  rw [z] at t
  exact runF_st rfl (st_rt (G1 := [.im (.int (n : Int)), .im (.tup [.str k, x, y])]) ((xifs_ok t).trans rfl))
theorem nr_pno {T : D} {n : Nat} {x y : D} (hx : Any x) (hy : Any y) (h : (isI x && isI y) = false) : r_w_no_right [T, .int (n : Int), .tup [.str "power", x, y]] = some (.im (.bl false)) := by
  have T1 := nr_t1 (n := n) (k := "power") (l := [y]) T x
  have fm := xlcL_fm (tg := tgn 11) (t := xtor (xtru (xcb (cbIsiU 0) (xcons (xv 11) (xcons (xc (.ty "bool")) xnil)))) (xtnot (xtru (xcb (cbIsiU 0) (xcons (xv 11) (xcons (xc (.ty "int")) xnil)))))) (e := xc (.int 1)) (vs := [11]) (G := GL T n (.tup [.str "power", x, y]) .un) (en := fun d : D => d) (fun d => !isI d) (fun _ => .int 1) (xs := [x, y])
      (fun d hd => by
        have pd : Any d := by
          rcases List.mem_cons.mp hd with rfl | hd
          · exact hx
          · rw [List.mem_singleton.mp hd]; exact hy
        exact ⟨[.im T, .im (.int (n : Int)), .im (.tup [.str "power", x, y]), .un, .un, .un, .un, .un, .un, .un, .un, .im d, .un, .un, .un], _, rfl, pd.notI 11 rfl, fun _ => rfl, fun _ => ⟨_, _, rfl, rfl, rfl⟩⟩)
  rw [List.map_id'] at fm
  have lc : xlc (xseqI (xsl slB (xv 2) (xpart (xc (.int 1))) xnop)) (tgn 11) (xtor (xtru (xcb (cbIsiU 0) (xcons (xv 11) (xcons (xc (.ty "bool")) xnil)))) (xtnot (xtru (xcb (cbIsiU 0) (xcons (xv 11) (xcons (xc (.ty "int")) xnil)))))) (xc (.int 1)) [11] (GL T n (.tup [.str "power", x, y]) .un) = some (.ol (([x, y].filter fun d => !isI d).map fun _ => .int 1), GL T n (.tup [.str "power", x, y]) .un) :=
    xlc_un (ds := [x, y]) (by rfl) rfl rfl rfl fm (by rw [List.length_map]; exact Nat.le_trans (List.length_filter_le _ _) (show 2 ≤ 100000 by decide))
  have ne := ones_ne true true x y
  rw [h] at ne
  refine runF_st rfl ?_
  unfold b_w_no_right
  refine st_nx (G1 := GL T n (.tup [.str "power", x, y]) .un) ((xifs_ok T1).trans rfl) (st_rt (G1 := GL T n (.tup [.str "power", x, y]) .un) ?_)
  refine ((xifs_ok (k := true) (by rfl)).trans (if_pos rfl)).trans ?_
  exact xseq_rt ((xifs_ok (k := true) (xtest_ok (xop_ok lc (by rfl : xlst xnil _ = some (.ol [], _)) ne))).trans rfl)
theorem four_in {b : Int} (h : four b) (p : Bool) : opInB p (.int b) (.tup [.int 1, .int (-1)]) = some (.im (.bl (if p then !decide (b = 1 ∨ b = -1) else decide (b = 1 ∨ b = -1)))) := by
  rcases h with rfl | rfl | rfl | rfl | rfl | rfl <;> cases p <;> rfl
theorem chn {n : Nat} {a : Int} (ha : four a) {m : M R} {G : Gam} (hm : m G = some (.im (.int a), G)) {i : Nat} (hi : xv i G = some (.im (.int (n : Int)), G)) : xchain opLe opLt (xc (.int 0)) m (xv i) G = some (.im (.bl (decide (0 ≤ a ∧ a < n))), G) := by
  by_cases h : 0 ≤ a
  · have := xchain_ok (o := opLe) (o' := opLt) (a := xc (.int 0)) (b := m) (c := xv i) (G := G) (G1 := G) (G2 := G) (G3 := G) (x := .im (.int 0)) (y := .im (.int a)) (z := .im (.int (n : Int))) (r := .im (.bl (decide (a < (n : Int))))) rfl hm (by show some (R.im (D.bl (decide ((0 : Int) ≤ a)))) = _; rw [decide_eq_true h]) hi rfl
    rw [this, decide_eq_decide.mpr (show (a < (n : Int)) ↔ (0 ≤ a ∧ a < n) from ⟨fun z => ⟨h, z⟩, fun z => z.2⟩)]
  · have e : a = -1 := by
      rcases ha with rfl | rfl | rfl | rfl | rfl | rfl <;> first | rfl | (exfalso; revert h; decide)
    subst e
    rw [decide_eq_false fun z => h z.1]
    unfold xchain
    rw [show xc (.int 0) G = some (.im (.int 0), G) from rfl]
    show bd (m G) _ = _
    rw [hm]
    rfl
theorem ip_ints {n : Nat} {k : PySem.Str} {a b : Int} (ha : four a) (hb : four b) : r_is_power [.int (n : Int), .tup [.str k, .int a, .int b]] = some (.im (.bl (decide (0 ≤ a ∧ a < n) && decide (b = 1 ∨ b = -1)))) := by
  refine runF_st rfl ?_
  refine st_nx (G1 := [.im (.int (n : Int)), .im (.tup [.str k, .int a, .int b])]) (by rfl) ?_
  refine st_ret (G1 := [.im (.int (n : Int)), .im (.tup [.str k, .int a, .int b])]) ?_
  exact xvand_b (chn ha (by rfl) (by rfl)) (xop_ok (x := .im (.int b)) (y := .im (.tup [.int 1, .int (-1)])) rfl rfl (four_in hb false))
theorem nr_ints {T : D} {n : Nat} {a b : Int} (ha : four a) (hb : four b) (h : ¬ ((0 ≤ a ∧ a < n) ∧ (b = 1 ∨ b = -1))) : r_w_no_right [T, .int (n : Int), .tup [.str "power", .int a, .int b]] = some (.im (.bl false)) := by
  refine runF_st rfl ?_
  unfold b_w_no_right
  refine st_nx (G1 := GL T n (.tup [.str "power", .int a, .int b]) .un) (by rfl) (st_rt (G1 := GL T n (.tup [.str "power", .int a, .int b]) .un) ?_)
  refine ((xifs_ok (k := true) (by rfl)).trans (if_pos rfl)).trans ?_
  refine (xseq_nx (G1 := GL T n (.tup [.str "power", .int a, .int b]) .un) (by rfl)).trans ?_
  have t := xtor_b (xtnot_ok (xtest_ok (chn (n := n) (i := 1) (G := GL T n (.tup [.str "power", .int a, .int b]) .un) ha (m := xop opIx (xv 2) (xc (.int 1))) (by rfl) (by rfl)))) (xtest_ok (xop_ok (o := opInB true) (a := xop opIx (xv 2) (xc (.int 2))) (b := xtup (xcons (xc (.int 1)) (xcons (xop opSub (xc (.int 0)) (xc (.int 1))) xnil))) (G := GL T n (.tup [.str "power", .int a, .int b]) .un) (x := .im (.int b)) (y := .im (.tup [.int 1, .int (-1)])) (by rfl) (by rfl) (four_in hb true)))
  have z : (!decide (0 ≤ a ∧ a < (n : Int)) || (if true then !decide (b = 1 ∨ b = -1) else decide (b = 1 ∨ b = -1))) = true := by
    by_cases h1 : 0 ≤ a ∧ a < (n : Int)
    · rw [decide_eq_false (p := b = 1 ∨ b = -1) fun z => h ⟨h1, z⟩]
      simp
    · rw [decide_eq_false h1]
      rfl
  rw [z] at t
  exact xseq_rt ((xifs_ok t).trans rfl)
end Bk
namespace Bk
open PySem L2
theorem Rw.dw' {lo hi : Rat} {ws : List Wt} {ss : List Sh} {DP BP DW BW n m : Nat} (r : Rw lo hi ws ss DP BP DW BW n m) : ∀ w ∈ lwOf ws, Dv DP BP w.1 ∧ Dv DW (n * BW) w.2 := fun w hw => by
  obtain ⟨g1, g2, _⟩ := lwOf_mem hw
  obtain ⟨v, hv, hve⟩ := List.mem_map.mp g1
  rw [← hve, g2]
  exact ⟨(r.w v hv).1, r.wAt _⟩
theorem Rw.ds' {lo hi : Rat} {ws : List Wt} {ss : List Sh} {DP BP DW BW n m : Nat} (r : Rw lo hi ws ss DP BP DW BW n m) : ∀ s ∈ lsOf ss, Dv DP BP s.1 ∧ Dv DP BP s.2.1 ∧ Dv DW (m * BW) s.2.2 := fun s hs =>
  lsOf_all (ss := ss) (fun x => Dv DP BP x) (fun x => Dv DW (m * BW) x) (fun a b => r.sAt a b) (fun s hs => ⟨(r.s s hs).1, (r.s s hs).2.1⟩) s hs
abbrev R27 (lo hi : Rat) (ws : List Wt) (ss : List Sh) : Prop := Rw lo hi ws ss 24 96 6 90 4 2
abbrev T27 (lo hi : Rat) (ws : List Wt) (ss : List Sh) : D := .tup [vq lo, vq hi, .lst (ws.map wD), .lst (ss.map sD)]
abbrev O27 (lo hi : Rat) (ws : List Wt) (ss : List Sh) : D := .obj 0 (rlL lo hi (lwOf ws) (lsOf ss))
section
variable {lo hi : Rat} {ws : List Wt} {ss : List Sh}
theorem R27.lo7 (r : R27 lo hi ws ss) : Ht lo 7 := r.l.ht (by decide) (by decide)
theorem R27.hi7 (r : R27 lo hi ws ss) : Ht hi 7 := r.h.ht (by decide) (by decide)
theorem R27.lw (r : R27 lo hi ws ss) : ∀ w ∈ lwOf ws, Ht w.1 7 ∧ Ht w.2 12 := fun w hw => ⟨(r.dw' w hw).1.ht (by decide) (by decide), (r.dw' w hw).2.ht (by decide +kernel) (by decide +kernel)⟩
theorem R27.ls (r : R27 lo hi ws ss) : ∀ s ∈ lsOf ss, Ht s.1 7 ∧ Ht s.2.1 7 ∧ Ht s.2.2 12 := fun s hs => ⟨(r.ds' s hs).1.ht (by decide) (by decide), (r.ds' s hs).2.1.ht (by decide) (by decide), (r.ds' s hs).2.2.ht (by decide +kernel) (by decide +kernel)⟩
theorem R27.rw (r : R27 lo hi ws ss) : ∀ w ∈ ws, Ht w.1 7 ∧ Ht w.2 12 := fun w hw => ⟨(r.w w hw).1.ht (by decide) (by decide), (r.w w hw).2.1.ht (by decide +kernel) (by decide +kernel)⟩
theorem R27.rs (r : R27 lo hi ws ss) : ∀ s ∈ ss, Ht s.1 7 ∧ Ht s.2.1 7 ∧ Ht s.2.2 12 := fun s hs => ⟨(r.s s hs).1.ht (by decide) (by decide), (r.s s hs).2.1.ht (by decide) (by decide), (r.s s hs).2.2.1.ht (by decide +kernel) (by decide +kernel)⟩
theorem R27.len (r : R27 lo hi ws ss) : (lwOf ws).length ≤ 4 ∧ (lsOf ss).length ≤ 4 ∧ ws.length ≤ 4 ∧ ss.length ≤ 2 := by
  have a := lwOf_len ws
  have b := lsOf_len ss
  have c := r.wl
  have d := r.sl
  omega
/-- the program and the law tell the same of a value -/
def Same (lo hi : Rat) (ws : List Wt) (ss : List Sh) (n : Nat) (V : D) : Prop := ∃ b, r_refuting_holds [O27 lo hi ws ss, .int (n : Int), V] = some (.im (.bl b)) ∧ r_w_no_right [T27 lo hi ws ss, .int (n : Int), V] = some (.im (.bl b))
theorem R27.kink (r : R27 lo hi ws ss) {n : Nat} (hn : n < 4) {d : D} {t : Rat} (hd : IsV d t) (ht : Ht t 14) : Same lo hi ws ss n (.tup [.str "kink", d]) := by
  obtain ⟨l1, l2, l3, l4⟩ := r.len
  have hm : n - 1 < 3 := by omega
  have k1 : TkOk (lwOf ws) (lsOf ss) (n - 1) 7 12 14 := ⟨r.lw, fun s hs => ⟨(r.ls s hs).1, (r.ls s hs).2.1, (r.ls s hs).2.2, (lsOf_can ss).le s hs⟩, by omega, by
    have : ((lwOf ws).length + (lsOf ss).length) * (12 + 3 + 2 * ((n - 1 + 1) * (7 + 14 + 1) + 1) + 1 + 1) ≤ 12 * (12 + 3 + 2 * (4 * (7 + 14 + 1) + 1) + 1 + 1) := Nat.mul_le_mul (by omega) (by omega)
    omega⟩
  have h1 := v_told_kink (lo := lo) (hi := hi) hd ht k1
  rw [tolk_same ws ss t (n - 1) r.le] at h1
  have h2 := v_w_of_kink (lo := vq lo) (hi := vq hi) (n := n - 1) (by omega) r.rw r.rs ht (by
    have : (ws.length + ss.length) * (12 + 3 + 2 * ((n - 1 + 2) * (7 + 14 + 1) + 1) + 1 + 1) ≤ 12 * (12 + 3 + 2 * (5 * (7 + 14 + 1) + 1) + 1 + 1) := Nat.mul_le_mul (by omega) (by omega)
    omega)
  have i := inside9 r.lo7 r.hi7 (W := .lst (ws.map wD)) (S := .lst (ss.map sD)) (cp := [(d, some t)]) (fun p hp => by rw [List.mem_singleton.mp hp]; exact ⟨hd, ht⟩) (by show 1 ≤ 100; decide)
  rw [show ([(d, some t)].map (·.2)).all (okc lo hi) = okc lo hi (some t) by simp] at i
  exact ⟨_, v_refuting (nt_kinkD (isW9 r.lo7 r.hi7 (c := some t) ⟨hd, ht⟩) fun _ _ => h1), nr_kinkD i fun _ _ => h2⟩
theorem wAt_lw (ws : List Wt) (p : Rat) : wAt (lwOf ws) p = wAt ws p := by rw [wAt_val, wAt_val, wval_lw]
theorem R27.at (r : R27 lo hi ws ss) {n : Nat} {d : D} {t : Rat} (hd : IsV d t) (ht : Ht t 14) : Same lo hi ws ss n (.tup [.str "at", d]) := by
  obtain ⟨l1, l2, l3, l4⟩ := r.len
  have h1 := nt_at (lo := lo) (hi := hi) (ss := lsOf ss) (n := n) (k := 0) hd (isW9 r.lo7 r.hi7 (c := some t) ⟨hd, ht⟩) (fun w hw => (r.lw w hw).2) (by omega) (by
    have : (lwOf ws).length * (12 + 1) ≤ 8 * 13 := Nat.mul_le_mul (by omega) (Nat.le_refl _)
    omega)
  rw [wAt_lw] at h1
  have i := inside9 r.lo7 r.hi7 (W := .lst (ws.map wD)) (S := .lst (ss.map sD)) (cp := [(d, some t)]) (fun p hp => by rw [List.mem_singleton.mp hp]; exact ⟨hd, ht⟩) (by show 1 ≤ 100; decide)
  rw [show ([(d, some t)].map (·.2)).all (okc lo hi) = okc lo hi (some t) by simp] at i
  exact ⟨_, v_refuting h1, nr_at (n := n) rfl i (fun w hw => (r.rw w hw).2) (by omega) (by
    have : ws.length * (12 + 1) ≤ 8 * 13 := Nat.mul_le_mul (by omega) (Nat.le_refl _)
    omega)⟩
theorem R27.over (r : R27 lo hi ws ss) {n : Nat} {d e : D} {s t : Rat} (hd : IsV d s) (he : IsV e t) (hs : Ht s 14) (ht : Ht t 14) : Same lo hi ws ss n (.tup [.str "over", d, e]) := by
  obtain ⟨l1, l2, l3, l4⟩ := r.len
  have up : ∀ {x : Rat}, Ht x 7 → Ht x 14 := fun h => h.up (by decide)
  have h1 := v_told_between (lo := lo) (hi := hi) hs ht (kw := 12) (fun w hw => ⟨up (r.lw w hw).1, (r.lw w hw).2⟩) (fun w hw => ⟨up (r.ls w hw).1, up (r.ls w hw).2.1, (r.ls w hw).2.2⟩) (by omega) (by
    have : ((lwOf ws).length + (lsOf ss).length) * (12 + (14 + 14 + 1) + 1) ≤ 12 * 42 := Nat.mul_le_mul (by omega) (Nat.le_refl _)
    omega)
  have i := inside9 r.lo7 r.hi7 (W := .lst (ws.map wD)) (S := .lst (ss.map sD)) (cp := [(d, some s), (e, some t)]) (fun p hp => by
    simp only [List.mem_cons, List.not_mem_nil, or_false] at hp
    rcases hp with rfl | rfl
    · exact ⟨hd, hs⟩
    · exact ⟨he, ht⟩) (by show 2 ≤ 100; decide)
  rw [show ([(d, some s), (e, some t)].map (·.2)).all (okc lo hi) = (okc lo hi (some s) && okc lo hi (some t)) by simp] at i
  have h2 := nr_overD (n := n) (T := T27 lo hi ws ss) (ws := ws) (ss := ss) (by rfl) (by rfl) i hs ht (kw := 12) (fun w hw => ⟨up (r.rw w hw).1, (r.rw w hw).2⟩) (fun w hw => ⟨up (r.rs w hw).1, up (r.rs w hw).2.1, (r.rs w hw).2.2⟩) (by omega) (by
    have : (ws.length + ss.length) * (12 + (14 + 14 + 1) + 1) ≤ 12 * 42 := Nat.mul_le_mul (by omega) (Nat.le_refl _)
    omega)
  have h3 := v_refuting (nt_overD (n := n) hd he (isW9 r.lo7 r.hi7 (c := some s) ⟨hd, hs⟩) (isW9 r.lo7 r.hi7 (c := some t) ⟨he, ht⟩) hs ht (by decide) fun _ => h1)
  refine ⟨_, h3, h2.trans ?_⟩
  by_cases st : s < t
  · rw [btw_least ws r.le st]
  · rw [decide_eq_false st, Bool.and_false, Bool.false_and, Bool.false_and]
theorem num_neg_mul (s : Int) (hs : s = 1 ∨ s = -1) (q : Rat) : decide (((s : Rat) * q).num < 0) = decide (s * q.num < 0) := by
  rcases hs with rfl | rfl
  · rw [show ((1 : Int) : Rat) * q = q from Rat.one_mul q, Int.one_mul]
  · rw [show ((-1 : Int) : Rat) * q = -q by rw [show ((-1 : Int) : Rat) = -1 by decide +kernel]; grind, Rat.neg_num, Int.neg_one_mul]
theorem R27.power (r : R27 lo hi ws ss) {n j : Nat} (hj : j < 7) {s : Int} (hs : Sg s) : Same lo hi ws ss n (.tup [.str "power", .int (j : Int), .int s]) := by
  obtain ⟨l1, l2, l3, l4⟩ := r.len
  have s4 : Ht (s : Rat) 4 := by
    rcases hs with rfl | rfl | rfl | rfl <;> exact ⟨by unfold Sm; decide +kernel, by unfold Sm; decide +kernel⟩
  have len : ((moS j s).map (·.2)).length = j + 1 := by unfold moS; simp
  have t : TolOk (lwOf ws) (lsOf ss) ((moS j s).map (·.2)) 7 12 4 4 := ⟨r.lw, r.ls, fun c hc => by
      obtain ⟨p, hp, rfl⟩ := List.mem_map.mp hc
      unfold moS at hp
      rcases List.mem_append.mp hp with h | h
      · rw [(List.mem_replicate.mp h).2]
        exact ht0.up (by decide)
      · rw [List.mem_singleton.mp h]
        exact s4, by rw [len]; omega, by
      rw [len]
      have : ((lwOf ws).length + (lsOf ss).length) * ((12 + 2 * (1 + (j + 1 + 1) * (7 + 4 + 4 + 2)) + 1) + 1) ≤ 12 * ((12 + 2 * (1 + 8 * (7 + 4 + 4 + 2)) + 1) + 1) := Nat.mul_le_mul (by omega) (by omega)
      omega⟩
  have h1 := v_told (lo := lo) (hi := hi) (e := .lst ((moS j s).map (·.1))) (cp := moS j s) rfl (fun p hp => by
    unfold moS at hp
    rcases List.mem_append.mp hp with h | h
    · rw [(List.mem_replicate.mp h).2]
      exact isV_vq 0
    · rw [List.mem_singleton.mp h]
      exact .inl ⟨s, rfl, rfl⟩) t
  rw [moS_tol, show mom (lwOf ws) (lsOf ss) j = mom ws ss j from tol_least ws r.le _] at h1
  obtain ⟨h2, h3⟩ := v_w_of_power (lo := vq lo) (hi := vq hi) (n := j) (by omega) r.rw r.rs (by
    have : (ws.length + ss.length) * (12 + 2 * ((j + 1) * 7 + 1) + 1 + 5 + 1) ≤ 12 * (12 + 2 * (7 * 7 + 1) + 1 + 5 + 1) := Nat.mul_le_mul (by omega) (by omega)
    omega)
  have em : sumQ (ofpL ws ss j) = mom ws ss j := (tol_ofp ws ss j).symm
  rw [em] at h2 h3
  refine ⟨_, v_refuting (nt_power (n := n) hs (by omega) fun _ => h1), (nr_power (n := n) hs (h3.up ?_) h2).trans ?_⟩
  · have : (ws.length + ss.length) * (12 + 2 * ((j + 1) * 7 + 1) + 1 + 5 + 1) ≤ 12 * (12 + 2 * (7 * 7 + 1) + 1 + 5 + 1) := Nat.mul_le_mul (by omega) (by omega)
    omega
  · by_cases h : s = 1 ∨ s = -1
    · rw [num_neg_mul s h]
    · rw [decide_eq_false h, Bool.and_false, Bool.false_and, Bool.false_and]
/-- what is told of any things -/
theorem any_cp {l : List D} (h : ∀ x ∈ l, Any x) : ∃ cp : List (D × Option Rat), cp.map (·.1) = l ∧ ∀ p ∈ cp, PW p.1 p.2 := by
  induction l with
  | nil => exact ⟨[], rfl, fun p hp => by cases hp⟩
  | cons x l ih =>
    obtain ⟨c, hc⟩ := any_pw (h x List.mem_cons_self)
    obtain ⟨cp, e, hp⟩ := ih fun y hy => h y (List.mem_cons_of_mem _ hy)
    refine ⟨(x, c) :: cp, by rw [List.map_cons, e], fun p q => ?_⟩
    rcases List.mem_cons.mp q with rfl | q
    · exact hc
    · exact hp p q
theorem R27.ins (r : R27 lo hi ws ss) {l : List D} (h : ∀ x ∈ l, Any x) (hl : l.length ≤ 9) : ∃ x, r_w_inside [T27 lo hi ws ss, .tup l] = some (.im x) ∧ (x = .non ∨ ∃ xs, x = .lst xs) := by
  obtain ⟨cp, e, hp⟩ := any_cp h
  have i := inside9 r.lo7 r.hi7 (W := .lst (ws.map wD)) (S := .lst (ss.map sD)) hp (by rw [← e, List.length_map] at hl; omega)
  rw [e] at i
  refine ⟨_, i, ?_⟩
  split
  · exact .inr ⟨_, rfl⟩
  · exact .inl rfl
/-- one thing that is no value -/
theorem R27.ins1 (r : R27 lo hi ws ss) {d : D} (h : NoW d) : r_w_inside [T27 lo hi ws ss, .tup [d]] = some (.im .non) := by
  have i := inside9 r.lo7 r.hi7 (W := .lst (ws.map wD)) (S := .lst (ss.map sD)) (cp := [(d, none)]) (fun p hp => by rw [List.mem_singleton.mp hp]; exact h) (by show 1 ≤ 100; decide)
  exact i.trans rfl
theorem R27.ins2 (r : R27 lo hi ws ss) {d e : D} {b c : Option Rat} (h : PW d b) (h' : PW e c) (z : b = none ∨ c = none) : r_w_inside [T27 lo hi ws ss, .tup [d, e]] = some (.im .non) := by
  have i := inside9 r.lo7 r.hi7 (W := .lst (ws.map wD)) (S := .lst (ss.map sD)) (cp := [(d, b), (e, c)]) (fun p hp => by
    simp only [List.mem_cons, List.not_mem_nil, or_false] at hp
    rcases hp with rfl | rfl
    · exact h
    · exact h') (by show 2 ≤ 100; decide)
  refine i.trans ?_
  have : ([(d, b), (e, c)].map (·.2)).all (okc lo hi) = false := by
    rcases z with rfl | rfl <;> simp [okc]
  rw [this]
  rfl
theorem R27.same (r : R27 lo hi ws ss) {n : Nat} (hn : n < 4) {V : D} (h : Any V) : Same lo hi ws ss n V := by
  obtain ⟨O, hO⟩ : ∃ O, O = O27 lo hi ws ss := ⟨_, rfl⟩
  obtain ⟨T, hT⟩ : ∃ T, T = T27 lo hi ws ss := ⟨_, rfl⟩
  have pl : ∀ {V : D}, cbIsiU 0 [V, .ty "tuple"] = some (.im (.bl false)) → Same lo hi ws ss n V := fun {V} e => by
    unfold Same
    rw [← hO, ← hT]
    refine ⟨false, runF_st rfl (st_rt (G1 := [.im O, .im (.int (n : Int)), .im V, .un]) ?_), runF_st rfl (st_rt (G1 := GL T n V .un) ?_)⟩
    · exact (xifs_ok (k := true) (xtor_t (xtnot_ok (k := false) (xtrub (xcb_ok (xc1 (d := V) rfl (xc1 rfl xnil_ok)) e))))).trans rfl
    · exact (xifs_ok (k := true) (xtor_t (xtnot_ok (k := false) (xtrub (xcb_ok (xc1 (d := V) rfl (xc1 rfl xnil_ok)) e))))).trans rfl
  cases h with
  | n => exact pl rfl
  | b _ => exact pl rfl
  | i _ => exact pl rfl
  | s _ => exact pl rfl
  | o => exact pl rfl
  | l _ _ => exact pl rfl
  | @t xs h hl =>
    match xs, h, hl with
    | [], _, _ =>
      unfold Same
      rw [← hO, ← hT]
      exact ⟨false, runF_st rfl (st_rt (G1 := [.im O, .im (.int (n : Int)), .im (.tup []), .un]) (by rfl)), runF_st rfl (st_rt (G1 := GL T n (.tup []) .un) (by rfl))⟩
    | x :: l, h, hl =>
      have hx := h x List.mem_cons_self
      have hl' : ∀ y ∈ l, Any y := fun y hy => h y (List.mem_cons_of_mem _ hy)
      rw [List.length_cons] at hl
      have ns : cbIsiU 0 [x, .ty "str"] = some (.im (.bl false)) → Same lo hi ws ss n (.tup (x :: l)) := fun e => by
        unfold Same
        rw [← hO, ← hT]
        have xs0 := ix0 l x
        have xl : cbLen [.tup (x :: l)] = some (.im (.int ((l.length : Int) + 1))) := rfl
        obtain ⟨V, hV⟩ : ∃ V, V = D.tup (x :: l) := ⟨_, rfl⟩
        have tt : cbIsiU 0 [V, .ty "tuple"] = some (.im (.bl true)) := by rw [hV]; rfl
        rw [← hV] at xs0 xl ⊢
        have t : ∀ (i : Nat) {G : Gam}, xv i G = some (.im V, G) → xtnot (xtru (xcb (cbIsiU 0) (xcons (xop opIx (xv i) (xc (.int 0))) (xcons (xc (.ty "str")) xnil)))) G = some (true, G) := fun i G hG => xtnot_ok (k := false) (xtrub (xcb_ok (xc1 (xo2 hG rfl xs0) (xc1 rfl xnil_ok)) e))
        have t2 : ∀ (i : Nat) {G : Gam}, xv i G = some (.im V, G) → xtnot (xtru (xcb (cbIsiU 0) (xcons (xv i) (xcons (xc (.ty "tuple")) xnil)))) G = some (false, G) := fun i G hG => xtnot_ok (k := true) (xtrub (xcb_ok (xc1 hG (xc1 rfl xnil_ok)) tt))
        refine ⟨false, runF_st rfl (st_rt (G1 := [.im O, .im (.int (n : Int)), .im V, .un]) ?_), runF_st rfl (st_rt (G1 := GL T n V .un) ?_)⟩
        · have l0 : xtest (xop opEq (xcb cbLen (xcons (xv 2) xnil)) (xc (.int 0))) [.im O, .im (.int (n : Int)), .im V, .un] = some (false, [.im O, .im (.int (n : Int)), .im V, .un]) := by
            refine xtest_ok (xo2 (xcb_ok (xc1 (d := V) rfl xnil_ok) xl) rfl ?_)
            show some (R.im (D.bl (decide ((l.length : Int) + 1 = 0)))) = _
            rw [decide_eq_false (by omega)]
          exact (xifs_ok (k := true) ((xtor_f (t2 2 rfl)).trans ((xtor_f l0).trans (t 2 rfl)))).trans rfl
        · have l2 : xtest (xop opLt (xcb cbLen (xcons (xv 2) xnil)) (xc (.int 2))) (GL T n V .un) = some (decide ((l.length : Int) + 1 < 2), GL T n V .un) := xtest_ok (xo2 (xcb_ok (xc1 (d := V) rfl xnil_ok) xl) rfl rfl)
          by_cases z : (l.length : Int) + 1 < 2
          · rw [decide_eq_true z] at l2
            exact (xifs_ok (k := true) ((xtor_f (t2 2 rfl)).trans (xtor_t l2))).trans rfl
          · rw [decide_eq_false z] at l2
            exact (xifs_ok (k := true) ((xtor_f (t2 2 rfl)).trans ((xtor_f l2).trans (t 2 rfl)))).trans rfl
      cases hx with
      | n => exact ns rfl
      | b _ => exact ns rfl
      | i _ => exact ns rfl
      | o => exact ns rfl
      | t _ _ => exact ns rfl
      | l _ _ => exact ns rfl
      | s k =>
        match l, hl', hl with
        | [], _, _ => exact ⟨false, rh_none (nt_none (fun _ => ip_len (by decide)) (fun _ _ a e => by cases e) (fun _ _ a e => by cases e) (fun _ _ a b e => by cases e)), nr_1⟩
        | [d], hl', _ =>
          have hd := hl' d List.mem_cons_self
          obtain ⟨c, hc⟩ := any_pw hd
          obtain ⟨x, hx, hx2⟩ := r.ins (l := [d]) hl' (by show 1 ≤ 9; decide)
          by_cases a1 : k = "kink"
          · subst a1
            cases c with
            | some q => exact r.kink hn hc.1 hc.2
            | none =>
              have hc : NoW d := hc
              exact ⟨false, rh_none (nt_none (fun e => absurd e (by decide)) (fun _ _ a e => by cases e; exact isW9 r.lo7 r.hi7 (c := none) hc) (fun e => absurd e (by decide)) (fun e => absurd e (by decide))), nr_no (fun z => absurd z.1 (by decide)) (r.ins1 hc) (.inl rfl)⟩
          · by_cases a2 : k = "at"
            · subst a2
              cases c with
              | some q => exact r.at hc.1 hc.2
              | none =>
                have hc : NoW d := hc
                exact ⟨false, rh_none (nt_none (fun e => absurd e (by decide)) (fun e => absurd e (by decide)) (fun _ _ a e => by cases e; exact isW9 r.lo7 r.hi7 (c := none) hc) (fun e => absurd e (by decide))), nr_no (fun z => absurd z.1 (by decide)) (r.ins1 hc) (.inl rfl)⟩
            · exact ⟨false, rh_none (nt_none (fun _ => ip_len (by show 1 ≠ 2; decide)) (fun e => absurd e a1) (fun e => absurd e a2) (fun _ _ a b e => by cases e)), nr_no (fun z => absurd z.2 (by decide)) hx (hx2.imp id fun h => ⟨h, fun z => a1 z.1, fun z => a2 z.1, fun z => absurd z.2.1 (by decide)⟩)⟩
        | [d, e], hl', _ =>
          have hd := hl' d List.mem_cons_self
          have he := hl' e (List.mem_cons_of_mem _ List.mem_cons_self)
          obtain ⟨b, hb⟩ := any_pw hd
          obtain ⟨c, hc⟩ := any_pw he
          obtain ⟨x, hx, hx2⟩ := r.ins (l := [d, e]) hl' (by show 2 ≤ 9; decide)
          by_cases a1 : k = "power"
          · subst a1
            have no : r_is_power [.int (n : Int), .tup [.str "power", d, e]] = some (.im (.bl false)) → r_w_no_right [T27 lo hi ws ss, .int (n : Int), .tup [.str "power", d, e]] = some (.im (.bl false)) → Same lo hi ws ss n (.tup [.str "power", d, e]) := fun p q =>
              ⟨false, rh_none (nt_none (fun _ => p) (fun e => absurd e (by decide)) (fun e => absurd e (by decide)) (fun e => absurd e (by decide))), q⟩
            cases z : isI d && isI e with
            | false => exact no (ip_no hd he z) (nr_pno hd he z)
            | true =>
              rw [Bool.and_eq_true] at z
              obtain ⟨a, rfl, ha⟩ := hd.int z.1
              obtain ⟨m, rfl, hm⟩ := he.int z.2
              by_cases y : (0 ≤ a ∧ a < (n : Int)) ∧ (m = 1 ∨ m = -1)
              · obtain ⟨j, rfl⟩ : ∃ j : Nat, a = (j : Int) := ⟨a.toNat, by omega⟩
                exact r.power (by omega) (y.2.elim (fun h => .inl h) fun h => .inr (.inl h))
              · have ip := ip_ints (n := n) (k := "power") ha hm
                have f : (decide (0 ≤ a ∧ a < (n : Int)) && decide (m = 1 ∨ m = -1)) = false := by
                  by_cases y1 : 0 ≤ a ∧ a < (n : Int)
                  · rw [decide_eq_false fun z => y ⟨y1, z⟩, Bool.and_false]
                  · rw [decide_eq_false y1, Bool.false_and]
                rw [f] at ip
                exact no ip (nr_ints ha hm y)
          · by_cases a2 : k = "over"
            · subst a2
              by_cases z : b = none ∨ c = none
              · refine ⟨false, rh_none (nt_none (fun e => absurd e (by decide)) (fun e => absurd e (by decide)) (fun e => absurd e (by decide)) (fun _ _ x y q => ?_)), nr_no (fun z => absurd z.1 (by decide)) (r.ins2 hb hc z) (.inl rfl)⟩
                cases q
                refine ⟨okc lo hi b, okc lo hi c, isW9 r.lo7 r.hi7 hb, isW9 r.lo7 r.hi7 hc, ?_⟩
                rcases z with rfl | rfl
                · rfl
                · exact Bool.and_false _
              · cases b with
                | none => exact absurd (.inl rfl) z
                | some s =>
                  cases c with
                  | none => exact absurd (.inr rfl) z
                  | some t => exact r.over hb.1 hc.1 hb.2 hc.2
            · exact ⟨false, rh_none (nt_none (fun e => absurd e a1) (fun _ _ a e => by cases e) (fun _ _ a e => by cases e) (fun e => absurd e a2)), nr_no (fun z => a1 z.1) hx (hx2.imp id fun h => ⟨h, fun z => absurd z.2.1 (by simp), fun z => absurd z.2.1 (by simp), fun z => a2 z.1⟩)⟩
        | a :: b :: c :: l, hl', hl =>
          obtain ⟨x, hx, hx2⟩ := r.ins (l := a :: b :: c :: l) hl' (by omega)
          exact ⟨false, rh_none (nt_none (fun _ => ip_len (by simp)) (fun _ _ a e => by cases e) (fun _ _ a e => by cases e) (fun _ _ a b e => by cases e)), nr_no (fun z => absurd z.2 (by simp)) hx (hx2.imp id fun h => ⟨h, fun z => absurd z.2.1 (by simp), fun z => absurd z.2.1 (by simp), fun z => absurd z.2.1 (by simp)⟩)⟩
end
end Bk
namespace Bk
open PySem L2
theorem anyL {a b : List D} (h : ∀ x ∈ a, Any x) (t : ∀ x ∈ b, Any x) : ∀ x ∈ a ++ b, Any x := fun x hx => (List.mem_append.mp hx).elim (h x) (t x)
abbrev GW (x0 x1 : Ent) (bs : Mob) (x3 : Ent) (T : D) (n : Nat) (e6 e7 e8 e9 : Ent) : Gam := [x0, x1, .ow bs, x3, .im T, .im (.int (n : Int)), e6, e7, e8, e9]
section
variable {x0 x1 x3 : Ent} {T : D} {n : Nat} {e6 e8 e9 : Ent}
theorem w_one {bs : Mob} (hb : Bx bs) {w : PySem.Str} {L : List D} (hl : L.length ≤ 1000) : ∃ bs' M, Bx bs' ∧ (∀ x ∈ M, Any x) ∧ M.length = 2 ∧
    b_law_1 (GW x0 x1 bs x3 T n e6 (.ol L) (.im (.str w)) e9) = some (.nx, GW x0 x1 bs' x3 T n e6 (.ol (L ++ M)) (.im (.str w)) e9) := by
  obtain ⟨d1, b1, c1, y1, hb1⟩ := v_w_anything (k := 4) (by decide) (by decide) hb
  obtain ⟨d2, b2, c2, y2, hb2⟩ := v_w_anything (k := 3) (by decide) (by decide) hb1
  obtain ⟨d3, b3, c3, y3, hb3⟩ := v_w_anything (k := 3) (by decide) (by decide) hb2
  refine ⟨b3, [.tup [.str w, d1], .tup [.str w, d2, d3]], hb3, all1 (.t (all1 (.s _) (all1 y1 all0)) (by show 2 ≤ 9; decide)) (all1 (.t (all1 (.s _) (all1 y2 (all1 y3 all0))) (by show 3 ≤ 9; decide)) all0), rfl, ?_⟩
  have s1 : xcallB r_w_anything 2 (xcons (xc (.int 4)) xnil) (GW x0 x1 bs x3 T n e6 (.im (.lst L)) (.im (.str w)) e9) = some (.im d1, GW x0 x1 b1 x3 T n e6 (.im (.lst L)) (.im (.str w)) e9) := xcallB_ok rfl (xc1 rfl xnil_ok) rfl rfl c1 rfl
  have s2 : xcallB r_w_anything 2 (xcons (xc (.int 3)) xnil) (GW x0 x1 b1 x3 T n e6 (.im (.lst L)) (.im (.str w)) e9) = some (.im d2, GW x0 x1 b2 x3 T n e6 (.im (.lst L)) (.im (.str w)) e9) := xcallB_ok rfl (xc1 rfl xnil_ok) rfl rfl c2 rfl
  have s3 : xcallB r_w_anything 2 (xcons (xc (.int 3)) xnil) (GW x0 x1 b2 x3 T n e6 (.im (.lst L)) (.im (.str w)) e9) = some (.im d3, GW x0 x1 b3 x3 T n e6 (.im (.lst L)) (.im (.str w)) e9) := xcallB_ok rfl (xc1 rfl xnil_ok) rfl rfl c3 rfl
  have t1 : xtup (xcons (xv 8) (xcons (xcallB r_w_anything 2 (xcons (xc (.int 4)) xnil)) xnil)) (GW x0 x1 bs x3 T n e6 (.im (.lst L)) (.im (.str w)) e9) = some (.im (.tup [.str w, d1]), GW x0 x1 b1 x3 T n e6 (.im (.lst L)) (.im (.str w)) e9) :=
    xtup_ok (xc1 (d := .str w) rfl (xc1 s1 xnil_ok)) rfl
  have t2 : xtup (xcons (xv 8) (xcons (xcallB r_w_anything 2 (xcons (xc (.int 3)) xnil)) (xcons (xcallB r_w_anything 2 (xcons (xc (.int 3)) xnil)) xnil))) (GW x0 x1 b1 x3 T n e6 (.im (.lst L)) (.im (.str w)) e9) = some (.im (.tup [.str w, d2, d3]), GW x0 x1 b3 x3 T n e6 (.im (.lst L)) (.im (.str w)) e9) :=
    xtup_ok (xc1 (d := .str w) rfl (xc1 s2 (xc1 s3 xnil_ok))) rfl
  have ad : opAddB (.lst L) (.lst [.tup [.str w, d1], .tup [.str w, d2, d3]]) = some (.ol (L ++ [.tup [.str w, d1], .tup [.str w, d2, d3]])) := by
    show (if _ then _ else _) = _
    exact if_pos (fewl (by show L.length + 2 ≤ _; omega))
  exact xset_e (xop_ok (x := .im (.lst L)) (y := .ol [.tup [.str w, d1], .tup [.str w, d2, d3]]) (G1 := GW x0 x1 bs x3 T n e6 (.im (.lst L)) (.im (.str w)) e9) rfl (xlst_ok (xc1 t1 (xc1 t2 xnil_ok)) rfl) ad) rfl
theorem w_words {bs : Mob} (hb : Bx bs) : ∀ (ks : List PySem.Str) {bs : Mob} (hb : Bx bs) (L : List D) (e8 : Ent), (∀ x ∈ L, Any x) → L.length + 2 * ks.length ≤ 1000 → ∃ bs' M f8, Bx bs' ∧ (∀ x ∈ M, Any x) ∧ M.length ≤ 1000 ∧
    xforL (tgn 8) b_law_1 (ks.map D.str) (GW x0 x1 bs x3 T n e6 (.ol L) e8 e9) = some (.nx, GW x0 x1 bs' x3 T n e6 (.ol M) f8 e9) := fun ks => by
  induction ks with
  | nil => exact fun {bs} hb L e8 h hl => ⟨bs, L, e8, hb, h, by simpa using hl, rfl⟩
  | cons k ks ih =>
    intro bs hb L e8 h hl
    rw [List.length_cons] at hl
    obtain ⟨b1, M, hb1, hM, ml, e⟩ := w_one (x0 := x0) (x1 := x1) (x3 := x3) (T := T) (n := n) (e6 := e6) (e9 := e9) hb (w := k) (L := L) (by omega)
    obtain ⟨b2, M2, f8, hb2, h2, l2, e2⟩ := ih hb1 (L ++ M) (.im (.str k)) (anyL h hM) (by rw [List.length_append, ml]; omega)
    exact ⟨b2, M2, f8, hb2, h2, l2, (xforL_nx (G1 := GW x0 x1 bs x3 T n e6 (.ol L) (.im (.str k)) e9) rfl e).trans e2⟩
end
def L9 : List D := [.non, .bl true, .tup [], .lst [], .str "kink", .tup [.str "kink"], .tup [.str "power", .int 0], .tup [.str "power", .int 0, .bl true], .tup [.str "power", .bl false, .int 1]]
def L12 : List D := L9 ++ [.tup [.str "power", .int 0, .tup [.int 1, .int 1]], .tup [.str "power", .int 60, .int 1], .tup [.str "power", .int (-1), .int 1]]
def L14 : List D := L12 ++ [.lst [.str "kink", .int 0], .tup [.str "kink", .bl true]]
def L20 : List D := L14 ++ [.tup [.str "kink", .tup [.int 2, .int 4]], .tup [.str "kink", .int 0, .int 0], .tup [.str "over", .int 0, .int 0], .tup [.str "over", .int 1, .int 0], .tup [.str "at", .non], .tup [.str "at", .str "0"]]
def E8 : D := .lst [.lst [.lst [.lst [.lst [.lst [.lst [.lst [.int 0]]]]]]]]
def L26 (d : D) : List D := L20 ++ [d, .tup [.str "power", .int 0, .int 1, .int 1], .tup [.lst [], .int 0], .tup [.tup [], .int 0], .tup [.non, .int 0], E8]
theorem any1 {x : D} (h : Any x) : Any (.lst [x]) := .l (all1 h all0) (by show 1 ≤ 9; decide)
theorem anyE8 : Any E8 := any1 (any1 (any1 (any1 (any1 (any1 (any1 (any1 (.i i0))))))))
theorem a2 {x y : D} (h : Any x) (h' : Any y) : Any (.tup [x, y]) := .t (all1 h (all1 h' all0)) (by show 2 ≤ 9; decide)
theorem a3 {x y z : D} (h : Any x) (h' : Any y) (h2 : Any z) : Any (.tup [x, y, z]) := .t (all1 h (all1 h' (all1 h2 all0))) (by show 3 ≤ 9; decide)
theorem anyT0 : Any (.tup []) := .t all0 (by decide)
theorem anyL0 : Any (.lst []) := .l all0 (by decide)
theorem any20 : ∀ x ∈ L20, Any x :=
  anyL (anyL (anyL (all1 .n (all1 (.b _) (all1 anyT0 (all1 anyL0 (all1 (.s _) (all1 (.t (all1 (.s _) all0) (by decide)) (all1 (a2 (.s _) (.i i0)) (all1 (a3 (.s _) (.i i0) (.b _)) (all1 (a3 (.s _) (.b _) (.i i1)) all0)))))))))
    (all1 (a3 (.s _) (.i i0) (a2 (.i i1) (.i i1))) (all1 (a3 (.s _) (.i i60) (.i i1)) (all1 (a3 (.s _) (.i im1) (.i i1)) all0))))
    (all1 (.l (all1 (.s _) (all1 (.i i0) all0)) (by decide)) (all1 (a2 (.s _) (.b _)) all0)))
    (all1 (a2 (.s _) (a2 (.i i2) (.i i4))) (all1 (a3 (.s _) (.i i0) (.i i0)) (all1 (a3 (.s _) (.i i0) (.i i0)) (all1 (a3 (.s _) (.i i1) (.i i0)) (all1 (a2 (.s _) .n) (all1 (a2 (.s _) (.s _)) all0))))))
theorem any26 {d : D} (h : Any d) : ∀ x ∈ L26 d, Any x :=
  anyL any20 (all1 h (all1 (.t (all1 (.s _) (all1 (.i i0) (all1 (.i i1) (all1 (.i i1) all0)))) (by decide)) (all1 (a2 anyL0 (.i i0)) (all1 (a2 anyT0 (.i i0)) (all1 (a2 .n (.i i0)) (all1 anyE8 all0))))))
section
variable {x0 x1 x3 : Ent} {T : D} {n : Nat} {e6 e8 e9 : Ent} {bs : Mob}
theorem w_7 (e7 : Ent) : (xset 7 (xlst (xcons (xc .non) (xcons (xc (.bl true)) (xcons (xtup xnil) (xcons (xlst xnil) (xcons (xc (.str "kink")) (xcons (xtup (xcons (xc (.str "kink")) xnil)) (xcons (xtup (xcons (xc (.str "power")) (xcons (xc (.int 0)) xnil))) (xcons (xtup (xcons (xc (.str "power")) (xcons (xc (.int 0)) (xcons (xc (.bl true)) xnil)))) (xcons (xtup (xcons (xc (.str "power")) (xcons (xc (.bl false)) (xcons (xc (.int 1)) xnil)))) xnil))))))))))) (GW x0 x1 bs x3 T n e6 e7 e8 e9) = some (.nx, GW x0 x1 bs x3 T n e6 (.ol L9) e8 e9) := rfl
theorem w_12 : (xset 7 (xop opAddB (xv 7) (xlst (xcons (xtup (xcons (xc (.str "power")) (xcons (xc (.int 0)) (xcons (xtup (xcons (xc (.int 1)) (xcons (xc (.int 1)) xnil))) xnil)))) (xcons (xtup (xcons (xc (.str "power")) (xcons (xc (.int 60)) (xcons (xc (.int 1)) xnil)))) (xcons (xtup (xcons (xc (.str "power")) (xcons (xop opSub (xc (.int 0)) (xc (.int 1))) (xcons (xc (.int 1)) xnil)))) xnil)))))) (GW x0 x1 bs x3 T n e6 (.ol L9) e8 e9) = some (.nx, GW x0 x1 bs x3 T n e6 (.ol L12) e8 e9) := rfl
theorem w_14 : (xset 7 (xop opAddB (xv 7) (xlst (xcons (xlst (xcons (xc (.str "kink")) (xcons (xc (.int 0)) xnil))) (xcons (xtup (xcons (xc (.str "kink")) (xcons (xc (.bl true)) xnil))) xnil))))) (GW x0 x1 bs x3 T n e6 (.ol L12) e8 e9) = some (.nx, GW x0 x1 bs x3 T n e6 (.ol L14) e8 e9) := rfl
theorem w_20 : (xset 7 (xop opAddB (xv 7) (xlst (xcons (xtup (xcons (xc (.str "kink")) (xcons (xtup (xcons (xc (.int 2)) (xcons (xc (.int 4)) xnil))) xnil))) (xcons (xtup (xcons (xc (.str "kink")) (xcons (xc (.int 0)) (xcons (xc (.int 0)) xnil)))) (xcons (xtup (xcons (xc (.str "over")) (xcons (xc (.int 0)) (xcons (xc (.int 0)) xnil)))) (xcons (xtup (xcons (xc (.str "over")) (xcons (xc (.int 1)) (xcons (xc (.int 0)) xnil)))) (xcons (xtup (xcons (xc (.str "at")) (xcons (xc .non) xnil))) (xcons (xtup (xcons (xc (.str "at")) (xcons (xc (.str "0")) xnil))) xnil))))))))) (GW x0 x1 bs x3 T n e6 (.ol L14) e8 e9) = some (.nx, GW x0 x1 bs x3 T n e6 (.ol L20) e8 e9) := rfl
theorem w_26 (hb : Bx bs) : ∃ d b1, Any d ∧ Bx b1 ∧ (xset 7 (xop opAddB (xv 7) (xlst (xcons (xcallB r_w_anything 2 (xcons (xc (.int 5)) xnil)) (xcons (xtup (xcons (xc (.str "power")) (xcons (xc (.int 0)) (xcons (xc (.int 1)) (xcons (xc (.int 1)) xnil))))) (xcons (xtup (xcons (xlst xnil) (xcons (xc (.int 0)) xnil))) (xcons (xtup (xcons (xtup xnil) (xcons (xc (.int 0)) xnil))) (xcons (xtup (xcons (xc .non) (xcons (xc (.int 0)) xnil))) (xcons (xlst (xcons (xlst (xcons (xlst (xcons (xlst (xcons (xlst (xcons (xlst (xcons (xlst (xcons (xlst (xcons (xc (.int 0)) xnil)) xnil)) xnil)) xnil)) xnil)) xnil)) xnil)) xnil)) xnil))))))))) (GW x0 x1 bs x3 T n e6 (.ol L20) e8 e9) = some (.nx, GW x0 x1 b1 x3 T n e6 (.ol (L26 d)) e8 e9) := by
  obtain ⟨d, b1, c1, y1, hb1⟩ := v_w_anything (k := 5) (by decide) (by decide) hb
  refine ⟨d, b1, y1, hb1, ?_⟩
  have s1 : xcallB r_w_anything 2 (xcons (xc (.int 5)) xnil) (GW x0 x1 bs x3 T n e6 (.im (.lst L20)) e8 e9) = some (.im d, GW x0 x1 b1 x3 T n e6 (.im (.lst L20)) e8 e9) := xcallB_ok rfl (xc1 rfl xnil_ok) rfl rfl c1 rfl
  exact xset_e (xop_ok (x := .im (.lst L20)) (y := .ol [d, .tup [.str "power", .int 0, .int 1, .int 1], .tup [.lst [], .int 0], .tup [.tup [], .int 0], .tup [.non, .int 0], E8]) (G1 := GW x0 x1 bs x3 T n e6 (.im (.lst L20)) e8 e9) rfl (xlst_ok (xc1 s1 (by rfl)) rfl) rfl) rfl
end
section
variable {x0 x1 x3 : Ent} {lo hi : Rat} {ws : List Wt} {ss : List Sh} {n : Nat} {e8 : Ent} {bs : Mob}
/-- one value is asked -/
theorem w_ask (r : R27 lo hi ws ss) (hn : n < 4) {L : List D} {e6 e7 : Ent} (h6 : e6 = .ow (.o 0 (rlL lo hi (lwOf ws) (lsOf ss))) ∨ e6 = .im (O27 lo hi ws ss)) {V : D} (hV : Any V) :
    b_law_2 (GW x0 x1 bs x3 (T27 lo hi ws ss) n e6 e7 e8 (.im V)) = some (.nx, GW x0 x1 bs x3 (T27 lo hi ws ss) n (.im (O27 lo hi ws ss)) e7 e8 (.im V)) := by
  obtain ⟨b, r1, r2⟩ := r.same hn hV
  obtain ⟨O, hO⟩ : ∃ O, O = O27 lo hi ws ss := ⟨_, rfl⟩
  obtain ⟨T, hT⟩ : ∃ T, T = T27 lo hi ws ss := ⟨_, rfl⟩
  have g6 : xv 6 (GW x0 x1 bs x3 (T27 lo hi ws ss) n e6 e7 e8 (.im V)) = some (.im (O27 lo hi ws ss), GW x0 x1 bs x3 (T27 lo hi ws ss) n (.im (O27 lo hi ws ss)) e7 e8 (.im V)) := by
    rcases h6 with rfl | rfl <;> rfl
  rw [← hO] at r1 g6 ⊢
  rw [← hT] at r2 g6 ⊢
  have ne : opNe (.bl b) (.bl b) = some (.im (.bl false)) := by cases b <;> rfl
  have t := xtest_ok (xop_ok (o := opNe) (a := xcall r_refuting_holds (xcons (xv 6) (xcons (xv 5) (xcons (xv 9) xnil)))) (b := xcall r_w_no_right (xcons (xv 4) (xcons (xv 5) (xcons (xv 9) xnil)))) (x := .im (.bl b)) (y := .im (.bl b)) (xcall_ok (xc1 g6 (xc1 rfl (xc1 rfl xnil_ok))) r1) (xcall_ok (xc1 rfl (xc1 rfl (xc1 rfl xnil_ok))) r2) ne)
  exact (xifs_ok t).trans rfl
theorem w_all (r : R27 lo hi ws ss) (hn : n < 4) {L : List D} {e6 e7 e9 : Ent} (h6 : e6 = .ow (.o 0 (rlL lo hi (lwOf ws) (lsOf ss))) ∨ e6 = .im (O27 lo hi ws ss)) (hL : ∀ x ∈ L, Any x) :
    ∃ f6 f9, xforL (tgn 9) b_law_2 L (GW x0 x1 bs x3 (T27 lo hi ws ss) n e6 e7 e8 e9) = some (.nx, GW x0 x1 bs x3 (T27 lo hi ws ss) n f6 e7 e8 f9) := by
  obtain ⟨G', g1, f6, f9, _, rfl⟩ := xforL_inv (tg := tgn 9) (b := b_law_2) (fun G => ∃ e6 e9, (e6 = .ow (.o 0 (rlL lo hi (lwOf ws) (lsOf ss))) ∨ e6 = .im (O27 lo hi ws ss)) ∧ G = GW x0 x1 bs x3 (T27 lo hi ws ss) n e6 e7 e8 e9) (ds := L) (G := GW x0 x1 bs x3 (T27 lo hi ws ss) n e6 e7 e8 e9) ⟨e6, e9, h6, rfl⟩ (fun d hd G hG => by
    obtain ⟨e6, e9, h6, rfl⟩ := hG
    exact ⟨_, _, rfl, .inl (w_ask r hn (L := L) h6 (hL d hd)), _, _, .inr rfl, rfl⟩)
  exact ⟨f6, f9, g1⟩
theorem w_turn (hb : Bx bs) {x4 x5 x6 x7 x8 x9 : Ent} : ∃ bs' y4 y5 y6 y7 y8 y9, Bx bs' ∧ b_law_3 [x0, x1, .ow bs, x3, x4, x5, x6, x7, x8, x9] = some (.nx, [x0, x1, .ow bs', x3, y4, y5, y6, y7, y8, y9]) := by
  obtain ⟨lo, hi, ws, ss, b1, c1, hb1, q, r, _⟩ := v_w_ruleW hb (m := 4) (p := 2) (by decide) (by decide)
  obtain ⟨i, b2, d1, d2, d3, hb2⟩ := v_w_choose (m := 4) hb1 (by decide) (by decide)
  obtain ⟨n, rfl⟩ : ∃ n : Nat, i = (n : Int) := ⟨i.toNat, by omega⟩
  have hn : n < 4 := by omega
  have mk := v_w_madeR r (k := 12) (by decide) (by decide) (by decide +kernel) (by decide +kernel) (by decide) (by decide)
  have s4 : ypar 4 5 (ycons (xcallB r_w_rule 2 (xcons (xc (.int 4)) (xcons (xc (.int 2)) xnil))) (ycons (xcallB r_w_choose 2 (xcons (xc (.int 4)) xnil)) ynil)) [x0, x1, .ow bs, x3, x4, x5, x6, x7, x8, x9] = some (.nx, GW x0 x1 b2 x3 (T27 lo hi ws ss) n x6 x7 x8 x9) :=
    ypar_ok (x := .im (T27 lo hi ws ss)) (y := .im (.int (n : Int))) (G1 := [x0, x1, .ow b2, x3, x4, x5, x6, x7, x8, x9]) (ycons_ok (xcallB_ok (G2 := [x0, x1, .ow b1, x3, x4, x5, x6, x7, x8, x9]) rfl (xc1 rfl (xc1 rfl xnil_ok)) rfl rfl c1 rfl) (ycons_ok (xcallB_ok (G2 := [x0, x1, .ow b2, x3, x4, x5, x6, x7, x8, x9]) rfl (xc1 rfl xnil_ok) rfl rfl d1 rfl) ynil_ok))
  have s6 : xset 6 (xcall r_w_made (xcons (xv 4) xnil)) (GW x0 x1 b2 x3 (T27 lo hi ws ss) n x6 x7 x8 x9) = some (.nx, GW x0 x1 b2 x3 (T27 lo hi ws ss) n (.ow (.o 0 (rlL lo hi (lwOf ws) (lsOf ss)))) x7 x8 x9) := xset_e (xcall_ok (xc1 rfl xnil_ok) mk) rfl
  obtain ⟨d, b3, hd, hb3, s26⟩ := w_26 (x0 := x0) (x1 := x1) (x3 := x3) (T := T27 lo hi ws ss) (n := n) (e6 := .ow (.o 0 (rlL lo hi (lwOf ws) (lsOf ss)))) (e8 := x8) (e9 := x9) hb2
  obtain ⟨b4, M, f8, hb4, hM, ml, sw⟩ := w_words (x0 := x0) (x1 := x1) (x3 := x3) (T := T27 lo hi ws ss) (n := n) (e6 := .ow (.o 0 (rlL lo hi (lwOf ws) (lsOf ss)))) (e9 := x9) hb3 ["kink", "at", "over", "power", "x"] hb3 (L26 d) x8 (any26 hd) (by show 26 + 10 ≤ 1000; decide)
  obtain ⟨f6, f9, sa⟩ := w_all (x0 := x0) (x1 := x1) (x3 := x3) (bs := b4) (e7 := .im (.lst M)) (e8 := f8) (e9 := x9) r hn (.inl rfl) hM
  refine ⟨b4, _, _, _, _, _, _, hb4, (?_ : _ = some (Fl.nx, GW x0 x1 b4 x3 (T27 lo hi ws ss) n f6 (.im (.lst M)) f8 f9))⟩
  unfold b_law_3
  rw [xseq_nx s4, xseq_nx s6, xseq_nx (w_7 x7), xseq_nx w_12, xseq_nx w_14, xseq_nx w_20, xseq_nx s26, xseq_nx (show _ = some (Fl.nx, GW x0 x1 b4 x3 (T27 lo hi ws ss) n (.ow (.o 0 (rlL lo hi (lwOf ws) (lsOf ss)))) (.ol M) f8 x9) from xfor_ok (ds := (["kink", "at", "over", "power", "x"] : List PySem.Str).map D.str) (by rfl) sw)]
  exact xfor_ok (ds := M) (G1 := GW x0 x1 b4 x3 (T27 lo hi ws ss) n (.ow (.o 0 (rlL lo hi (lwOf ws) (lsOf ss)))) (.im (.lst M)) f8 x9) (by rfl) sa
end
theorem law_true : ∀ ns : List Int, ns.length ≤ 63 → r_law [.frz (ns.map .int)] = some (.im (.bl true)) := fun ns hn => by
  have hlen : cbLen [.frz (ns.map .int)] = some (.im (.int ns.length)) := by
    show some (R.im (.int (((ns.map D.int).length : Nat) : Int))) = _
    rw [List.length_map]
  have e1 : xcb cbMax2 (xcons (xc (.int 1)) (xcons (xcb cbMin2 (xcons (xc (.int 3)) (xcons (xcb cbLen (xcons (xv 0) xnil)) xnil))) xnil)) [.im (.frz (ns.map .int)), .un, .un, .un, .un, .un, .un, .un, .un, .un] = some (.im (.int (if (if (ns.length : Int) < 3 then (ns.length : Int) else 3) > 1 then (if (ns.length : Int) < 3 then (ns.length : Int) else 3) else 1)), [.im (.frz (ns.map .int)), .un, .un, .un, .un, .un, .un, .un, .un, .un]) :=
    xcb_ok (xc1 rfl (xc1 (xcb_ok (xc1 rfl (xc1 (xcb_ok (xc1 rfl xnil_ok) hlen) xnil_ok)) rfl) xnil_ok)) rfl
  generalize hc : (if (if (ns.length : Int) < 3 then (ns.length : Int) else 3) > 1 then (if (ns.length : Int) < 3 then (ns.length : Int) else 3) else 1) = c at e1
  have c9 : 0 < c ∧ c ≤ 4 := by
    rw [← hc]
    split <;> (try split at *) <;> omega
  obtain ⟨G', g1, x1, x2, x3, x4, x5, x6, x7, x8, x9, rfl⟩ := xforL_inv (tg := tgn 1) (b := b_law_4)
    (fun G => ∃ x1 x2 x3 x4 x5 x6 x7 x8 x9, G = [Ent.im (.frz (ns.map .int)), x1, x2, x3, x4, x5, x6, x7, x8, x9]) (ds := rng 0 c.toNat) (G := [.im (.frz (ns.map .int)), .un, .un, .un, .un, .un, .un, .un, .un, .un]) ⟨_, _, _, _, _, _, _, _, _, rfl⟩ (fun e he G hG => by
    obtain ⟨x1, x2, x3, x4, x5, x6, x7, x8, x9, rfl⟩ := hG
    obtain ⟨k, hk, rfl⟩ := rng_mem he
    obtain ⟨bs, s1, s2⟩ := v_w_seed (ns := ns) (k := 0 + (k : Int)) (by omega) (by omega)
    obtain ⟨G2, g2, b2, y3, y4, y5, y6, y7, y8, y9, hb2, rfl⟩ := xforL_inv (tg := tgn 3) (b := b_law_3) (fun G => ∃ bs y3 y4 y5 y6 y7 y8 y9, Bx bs ∧ G = [Ent.im (.frz (ns.map .int)), .im (.int (0 + (k : Int))), .ow bs, y3, y4, y5, y6, y7, y8, y9]) (ds := rng 0 4)
      (G := [Ent.im (.frz (ns.map .int)), .im (.int (0 + (k : Int))), .ow bs, x3, x4, x5, x6, x7, x8, x9]) ⟨bs, _, _, _, _, _, _, _, s2, rfl⟩ (fun d hd G hG => by
        obtain ⟨b, y3, y4, y5, y6, y7, y8, y9, hb, rfl⟩ := hG
        obtain ⟨b', z4, z5, z6, z7, z8, z9, hb', e⟩ := w_turn (x0 := .im (.frz (ns.map .int))) (x1 := .im (.int (0 + (k : Int)))) (x3 := .im d) (x4 := y4) (x5 := y5) (x6 := y6) (x7 := y7) (x8 := y8) (x9 := y9) hb
        exact ⟨_, _, rfl, .inl e, b', _, z4, z5, z6, z7, z8, z9, hb', rfl⟩)
    refine ⟨_, [Ent.im (.frz (ns.map .int)), .im (.int (0 + (k : Int))), .ow b2, y3, y4, y5, y6, y7, y8, y9], rfl, .inl ?_, _, _, _, _, _, _, _, _, _, rfl⟩
    unfold b_law_4
    rw [xseq_nx (show _ = some (Fl.nx, [Ent.im (.frz (ns.map .int)), .im (.int (0 + (k : Int))), .ow bs, x3, x4, x5, x6, x7, x8, x9]) from xset_e (xcall_ok (xc1 rfl (xc1 rfl xnil_ok)) s1) rfl)]
    exact xfor_ok (xrange1_ok (n := 4) (xc1 rfl xnil_ok) (by decide)) g2)
  refine runF_st rfl ?_
  refine st_nx (by exact xfor_ok (xrange1_ok (xc1 e1 xnil_ok) (okR_of (by omega) (by omega))) g1) ?_
  exact st_ret rfl
end Bk
namespace Bk
open PySem L2 PyProof.Rows
theorem all_mk {l : PySem.W.OpenLaw} {w : World} {K : PySem.W.Frag} {h : Heap} {mg : PySem.Str → Option Value} {fa : Addr} (X : K.In h) (G : h.Ns mainGlobals mg) (hfa : mg "law" = some (.ref fa))
    {C_Rule : Addr} (aC_Rule : PySem.W.nsIn K mainGlobals (cName 0) = some (some (.ref C_Rule))) (pg_Rule : PySem.W.plainGet K C_Rule Str.empty = true) (hd_Rule : PySem.W.hasDictIn K C_Rule = true) (po_Rule : PySem.W.plainOver K C_Rule = true) (sa_Rule : PySem.W.findIn K (.ref C_Rule) "__setattr__" = some (some (.builtin "object.__setattr__")))
    (na_Rule_0 : PySem.W.findIn K (.ref C_Rule) "low" = some none)
    (na_Rule_1 : PySem.W.findIn K (.ref C_Rule) "high" = some none)
    (na_Rule_2 : PySem.W.findIn K (.ref C_Rule) "weights" = some none)
    (na_Rule_3 : PySem.W.findIn K (.ref C_Rule) "shares" = some none)
    {f_is_sequence : Addr} {od_is_sequence an_is_sequence : Option Addr} {sl_is_sequence : Array (Option Value)} {oc_is_sequence kV_is_sequence dc_is_sequence pc_is_sequence cd_is_sequence ct_is_sequence : Value}
    (a_is_sequence : PySem.W.nsIn K mainGlobals "is_sequence" = some (some (.ref f_is_sequence))) (l_is_sequence : K.lookup f_is_sequence = some ⟨oc_is_sequence, od_is_sequence, .func (PySem.W.fnOf "is_sequence" "is_sequence" (defArgs s_is_sequence) (defBody s_is_sequence) (defScope s_is_sequence) .none kV_is_sequence dc_is_sequence pc_is_sequence an_is_sequence cd_is_sequence ct_is_sequence), sl_is_sequence⟩) (c_is_sequence : PySem.W.codeIn K cd_is_sequence "is_sequence" = true) (k_is_sequence : PySem.W.keepIn K (.ref f_is_sequence) = true)
    {f_is_less : Addr} {od_is_less an_is_less : Option Addr} {sl_is_less : Array (Option Value)} {oc_is_less kV_is_less dc_is_less pc_is_less cd_is_less ct_is_less : Value}
    (a_is_less : PySem.W.nsIn K mainGlobals "is_less" = some (some (.ref f_is_less))) (l_is_less : K.lookup f_is_less = some ⟨oc_is_less, od_is_less, .func (PySem.W.fnOf "is_less" "is_less" (defArgs s_is_less) (defBody s_is_less) (defScope s_is_less) .none kV_is_less dc_is_less pc_is_less an_is_less cd_is_less ct_is_less), sl_is_less⟩) (c_is_less : PySem.W.codeIn K cd_is_less "is_less" = true) (k_is_less : PySem.W.keepIn K (.ref f_is_less) = true)
    {f_is_integer : Addr} {od_is_integer an_is_integer : Option Addr} {sl_is_integer : Array (Option Value)} {oc_is_integer kV_is_integer dc_is_integer pc_is_integer cd_is_integer ct_is_integer : Value}
    (a_is_integer : PySem.W.nsIn K mainGlobals "is_integer" = some (some (.ref f_is_integer))) (l_is_integer : K.lookup f_is_integer = some ⟨oc_is_integer, od_is_integer, .func (PySem.W.fnOf "is_integer" "is_integer" (defArgs s_is_integer) (defBody s_is_integer) (defScope s_is_integer) .none kV_is_integer dc_is_integer pc_is_integer an_is_integer cd_is_integer ct_is_integer), sl_is_integer⟩) (c_is_integer : PySem.W.codeIn K cd_is_integer "is_integer" = true) (k_is_integer : PySem.W.keepIn K (.ref f_is_integer) = true)
    {f_divisor : Addr} {od_divisor an_divisor : Option Addr} {sl_divisor : Array (Option Value)} {oc_divisor kV_divisor dc_divisor pc_divisor cd_divisor ct_divisor : Value}
    (a_divisor : PySem.W.nsIn K mainGlobals "divisor" = some (some (.ref f_divisor))) (l_divisor : K.lookup f_divisor = some ⟨oc_divisor, od_divisor, .func (PySem.W.fnOf "divisor" "divisor" (defArgs s_divisor) (defBody s_divisor) (defScope s_divisor) .none kV_divisor dc_divisor pc_divisor an_divisor cd_divisor ct_divisor), sl_divisor⟩) (c_divisor : PySem.W.codeIn K cd_divisor "divisor" = true) (k_divisor : PySem.W.keepIn K (.ref f_divisor) = true)
    {f_is_pair : Addr} {od_is_pair an_is_pair : Option Addr} {sl_is_pair : Array (Option Value)} {oc_is_pair kV_is_pair dc_is_pair pc_is_pair cd_is_pair ct_is_pair : Value}
    (a_is_pair : PySem.W.nsIn K mainGlobals "is_pair" = some (some (.ref f_is_pair))) (l_is_pair : K.lookup f_is_pair = some ⟨oc_is_pair, od_is_pair, .func (PySem.W.fnOf "is_pair" "is_pair" (defArgs s_is_pair) (defBody s_is_pair) (defScope s_is_pair) .none kV_is_pair dc_is_pair pc_is_pair an_is_pair cd_is_pair ct_is_pair), sl_is_pair⟩) (c_is_pair : PySem.W.codeIn K cd_is_pair "is_pair" = true) (k_is_pair : PySem.W.keepIn K (.ref f_is_pair) = true)
    {f_is_value : Addr} {od_is_value an_is_value : Option Addr} {sl_is_value : Array (Option Value)} {oc_is_value kV_is_value dc_is_value pc_is_value cd_is_value ct_is_value : Value}
    (a_is_value : PySem.W.nsIn K mainGlobals "is_value" = some (some (.ref f_is_value))) (l_is_value : K.lookup f_is_value = some ⟨oc_is_value, od_is_value, .func (PySem.W.fnOf "is_value" "is_value" (defArgs s_is_value) (defBody s_is_value) (defScope s_is_value) .none kV_is_value dc_is_value pc_is_value an_is_value cd_is_value ct_is_value), sl_is_value⟩) (c_is_value : PySem.W.codeIn K cd_is_value "is_value" = true) (k_is_value : PySem.W.keepIn K (.ref f_is_value) = true)
    {f_value_of : Addr} {od_value_of an_value_of : Option Addr} {sl_value_of : Array (Option Value)} {oc_value_of kV_value_of dc_value_of pc_value_of cd_value_of ct_value_of : Value}
    (a_value_of : PySem.W.nsIn K mainGlobals "value_of" = some (some (.ref f_value_of))) (l_value_of : K.lookup f_value_of = some ⟨oc_value_of, od_value_of, .func (PySem.W.fnOf "value_of" "value_of" (defArgs s_value_of) (defBody s_value_of) (defScope s_value_of) .none kV_value_of dc_value_of pc_value_of an_value_of cd_value_of ct_value_of), sl_value_of⟩) (c_value_of : PySem.W.codeIn K cd_value_of "value_of" = true) (k_value_of : PySem.W.keepIn K (.ref f_value_of) = true)
    {f_is_between : Addr} {od_is_between an_is_between : Option Addr} {sl_is_between : Array (Option Value)} {oc_is_between kV_is_between dc_is_between pc_is_between cd_is_between ct_is_between : Value}
    (a_is_between : PySem.W.nsIn K mainGlobals "is_between" = some (some (.ref f_is_between))) (l_is_between : K.lookup f_is_between = some ⟨oc_is_between, od_is_between, .func (PySem.W.fnOf "is_between" "is_between" (defArgs s_is_between) (defBody s_is_between) (defScope s_is_between) .none kV_is_between dc_is_between pc_is_between an_is_between cd_is_between ct_is_between), sl_is_between⟩) (c_is_between : PySem.W.codeIn K cd_is_between "is_between" = true) (k_is_between : PySem.W.keepIn K (.ref f_is_between) = true)
    {f_is_share : Addr} {od_is_share an_is_share : Option Addr} {sl_is_share : Array (Option Value)} {oc_is_share kV_is_share dc_is_share pc_is_share cd_is_share ct_is_share : Value}
    (a_is_share : PySem.W.nsIn K mainGlobals "is_share" = some (some (.ref f_is_share))) (l_is_share : K.lookup f_is_share = some ⟨oc_is_share, od_is_share, .func (PySem.W.fnOf "is_share" "is_share" (defArgs s_is_share) (defBody s_is_share) (defScope s_is_share) .none kV_is_share dc_is_share pc_is_share an_is_share cd_is_share ct_is_share), sl_is_share⟩) (c_is_share : PySem.W.codeIn K cd_is_share "is_share" = true) (k_is_share : PySem.W.keepIn K (.ref f_is_share) = true)
    {f_is_weight : Addr} {od_is_weight an_is_weight : Option Addr} {sl_is_weight : Array (Option Value)} {oc_is_weight kV_is_weight dc_is_weight pc_is_weight cd_is_weight ct_is_weight : Value}
    (a_is_weight : PySem.W.nsIn K mainGlobals "is_weight" = some (some (.ref f_is_weight))) (l_is_weight : K.lookup f_is_weight = some ⟨oc_is_weight, od_is_weight, .func (PySem.W.fnOf "is_weight" "is_weight" (defArgs s_is_weight) (defBody s_is_weight) (defScope s_is_weight) .none kV_is_weight dc_is_weight pc_is_weight an_is_weight cd_is_weight ct_is_weight), sl_is_weight⟩) (c_is_weight : PySem.W.codeIn K cd_is_weight "is_weight" = true) (k_is_weight : PySem.W.keepIn K (.ref f_is_weight) = true)
    {f_ascending : Addr} {od_ascending an_ascending : Option Addr} {sl_ascending : Array (Option Value)} {oc_ascending kV_ascending dc_ascending pc_ascending cd_ascending ct_ascending : Value}
    (a_ascending : PySem.W.nsIn K mainGlobals "ascending" = some (some (.ref f_ascending))) (l_ascending : K.lookup f_ascending = some ⟨oc_ascending, od_ascending, .func (PySem.W.fnOf "ascending" "ascending" (defArgs s_ascending) (defBody s_ascending) (defScope s_ascending) .none kV_ascending dc_ascending pc_ascending an_ascending cd_ascending ct_ascending), sl_ascending⟩) (c_ascending : PySem.W.codeIn K cd_ascending "ascending" = true) (k_ascending : PySem.W.keepIn K (.ref f_ascending) = true)
    {f_lowest : Addr} {od_lowest an_lowest : Option Addr} {sl_lowest : Array (Option Value)} {oc_lowest kV_lowest dc_lowest pc_lowest cd_lowest ct_lowest : Value}
    (a_lowest : PySem.W.nsIn K mainGlobals "lowest" = some (some (.ref f_lowest))) (l_lowest : K.lookup f_lowest = some ⟨oc_lowest, od_lowest, .func (PySem.W.fnOf "lowest" "lowest" (defArgs s_lowest) (defBody s_lowest) (defScope s_lowest) .none kV_lowest dc_lowest pc_lowest an_lowest cd_lowest ct_lowest), sl_lowest⟩) (c_lowest : PySem.W.codeIn K cd_lowest "lowest" = true) (k_lowest : PySem.W.keepIn K (.ref f_lowest) = true)
    {f_added : Addr} {od_added an_added : Option Addr} {sl_added : Array (Option Value)} {oc_added kV_added dc_added pc_added cd_added ct_added : Value}
    (a_added : PySem.W.nsIn K mainGlobals "added" = some (some (.ref f_added))) (l_added : K.lookup f_added = some ⟨oc_added, od_added, .func (PySem.W.fnOf "added" "added" (defArgs s_added) (defBody s_added) (defScope s_added) .none kV_added dc_added pc_added an_added cd_added ct_added), sl_added⟩) (c_added : PySem.W.codeIn K cd_added "added" = true) (k_added : PySem.W.keepIn K (.ref f_added) = true)
    {f_summed : Addr} {od_summed an_summed : Option Addr} {sl_summed : Array (Option Value)} {oc_summed kV_summed dc_summed pc_summed cd_summed ct_summed : Value}
    (a_summed : PySem.W.nsIn K mainGlobals "summed" = some (some (.ref f_summed))) (l_summed : K.lookup f_summed = some ⟨oc_summed, od_summed, .func (PySem.W.fnOf "summed" "summed" (defArgs s_summed) (defBody s_summed) (defScope s_summed) .none kV_summed dc_summed pc_summed an_summed cd_summed ct_summed), sl_summed⟩) (c_summed : PySem.W.codeIn K cd_summed "summed" = true) (k_summed : PySem.W.keepIn K (.ref f_summed) = true)
    {f_least_shares : Addr} {od_least_shares an_least_shares : Option Addr} {sl_least_shares : Array (Option Value)} {oc_least_shares kV_least_shares dc_least_shares pc_least_shares cd_least_shares ct_least_shares : Value}
    (a_least_shares : PySem.W.nsIn K mainGlobals "least_shares" = some (some (.ref f_least_shares))) (l_least_shares : K.lookup f_least_shares = some ⟨oc_least_shares, od_least_shares, .func (PySem.W.fnOf "least_shares" "least_shares" (defArgs s_least_shares) (defBody s_least_shares) (defScope s_least_shares) .none kV_least_shares dc_least_shares pc_least_shares an_least_shares cd_least_shares ct_least_shares), sl_least_shares⟩) (c_least_shares : PySem.W.codeIn K cd_least_shares "least_shares" = true) (k_least_shares : PySem.W.keepIn K (.ref f_least_shares) = true)
    {f_least_weights : Addr} {od_least_weights an_least_weights : Option Addr} {sl_least_weights : Array (Option Value)} {oc_least_weights kV_least_weights dc_least_weights pc_least_weights cd_least_weights ct_least_weights : Value}
    (a_least_weights : PySem.W.nsIn K mainGlobals "least_weights" = some (some (.ref f_least_weights))) (l_least_weights : K.lookup f_least_weights = some ⟨oc_least_weights, od_least_weights, .func (PySem.W.fnOf "least_weights" "least_weights" (defArgs s_least_weights) (defBody s_least_weights) (defScope s_least_weights) .none kV_least_weights dc_least_weights pc_least_weights an_least_weights cd_least_weights ct_least_weights), sl_least_weights⟩) (c_least_weights : PySem.W.codeIn K cd_least_weights "least_weights" = true) (k_least_weights : PySem.W.keepIn K (.ref f_least_weights) = true)
    {f_need_stretch : Addr} {od_need_stretch an_need_stretch : Option Addr} {sl_need_stretch : Array (Option Value)} {oc_need_stretch kV_need_stretch dc_need_stretch pc_need_stretch cd_need_stretch ct_need_stretch : Value}
    (a_need_stretch : PySem.W.nsIn K mainGlobals "need_stretch" = some (some (.ref f_need_stretch))) (l_need_stretch : K.lookup f_need_stretch = some ⟨oc_need_stretch, od_need_stretch, .func (PySem.W.fnOf "need_stretch" "need_stretch" (defArgs s_need_stretch) (defBody s_need_stretch) (defScope s_need_stretch) .none kV_need_stretch dc_need_stretch pc_need_stretch an_need_stretch cd_need_stretch ct_need_stretch), sl_need_stretch⟩) (c_need_stretch : PySem.W.codeIn K cd_need_stretch "need_stretch" = true) (k_need_stretch : PySem.W.keepIn K (.ref f_need_stretch) = true)
    {f_Rule_init : Addr} {od_Rule_init an_Rule_init : Option Addr} {sl_Rule_init : Array (Option Value)} {oc_Rule_init kV_Rule_init dc_Rule_init pc_Rule_init cd_Rule_init ct_Rule_init : Value}
    {dT_Rule_init : Addr} {oT_Rule_init : Obj} {gi_Rule_init : List Value} {gn_Rule_init : Nat} (t_Rule_init : K.lookup dT_Rule_init = some oT_Rule_init) (td_Rule_init : oT_Rule_init.data = .seq gi_Rule_init.toArray gn_Rule_init) (v_Rule_init : ∃ vs, Vals vs gi_Rule_init ∧ ∀ H, DRs K H vs [.tup [], .tup []])
    (a_Rule_init : PySem.W.findIn K (.ref C_Rule) "__init__" = some (some (.ref f_Rule_init))) (l_Rule_init : K.lookup f_Rule_init = some ⟨oc_Rule_init, od_Rule_init, .func (PySem.W.fnOf "__init__" "Rule.__init__" (defArgs s_Rule_init) (defBody s_Rule_init) (defScope s_Rule_init) (.ref dT_Rule_init) kV_Rule_init dc_Rule_init pc_Rule_init an_Rule_init cd_Rule_init ct_Rule_init), sl_Rule_init⟩) (c_Rule_init : PySem.W.codeIn K cd_Rule_init "Rule.__init__" = true) (k_Rule_init : PySem.W.keepIn K (.ref f_Rule_init) = true)
    (i_Rule_init : PySem.W.isFn K (.ref f_Rule_init) = true)
    (mk_Rule : PySem.W.makesIn K C_Rule = true) (kc_Rule : PySem.W.keepIn K (.ref C_Rule) = true)
    {f_w_choose : Addr} {od_w_choose an_w_choose : Option Addr} {sl_w_choose : Array (Option Value)} {oc_w_choose kV_w_choose dc_w_choose pc_w_choose cd_w_choose ct_w_choose : Value}
    (a_w_choose : PySem.W.nsIn K mainGlobals "_law_choose" = some (some (.ref f_w_choose))) (l_w_choose : K.lookup f_w_choose = some ⟨oc_w_choose, od_w_choose, .func (PySem.W.fnOf "_law_choose" "_law_choose" (defArgs s_w_choose) (defBody s_w_choose) (defScope s_w_choose) .none kV_w_choose dc_w_choose pc_w_choose an_w_choose cd_w_choose ct_w_choose), sl_w_choose⟩) (c_w_choose : PySem.W.codeIn K cd_w_choose "_law_choose" = true) (k_w_choose : PySem.W.keepIn K (.ref f_w_choose) = true)
    {f_w_one_of : Addr} {od_w_one_of an_w_one_of : Option Addr} {sl_w_one_of : Array (Option Value)} {oc_w_one_of kV_w_one_of dc_w_one_of pc_w_one_of cd_w_one_of ct_w_one_of : Value}
    (a_w_one_of : PySem.W.nsIn K mainGlobals "_law_one_of" = some (some (.ref f_w_one_of))) (l_w_one_of : K.lookup f_w_one_of = some ⟨oc_w_one_of, od_w_one_of, .func (PySem.W.fnOf "_law_one_of" "_law_one_of" (defArgs s_w_one_of) (defBody s_w_one_of) (defScope s_w_one_of) .none kV_w_one_of dc_w_one_of pc_w_one_of an_w_one_of cd_w_one_of ct_w_one_of), sl_w_one_of⟩) (c_w_one_of : PySem.W.codeIn K cd_w_one_of "_law_one_of" = true) (k_w_one_of : PySem.W.keepIn K (.ref f_w_one_of) = true)
    {f_w_anything : Addr} {od_w_anything an_w_anything : Option Addr} {sl_w_anything : Array (Option Value)} {oc_w_anything kV_w_anything dc_w_anything pc_w_anything cd_w_anything ct_w_anything : Value}
    (a_w_anything : PySem.W.nsIn K mainGlobals "_law_anything" = some (some (.ref f_w_anything))) (l_w_anything : K.lookup f_w_anything = some ⟨oc_w_anything, od_w_anything, .func (PySem.W.fnOf "_law_anything" "_law_anything" (defArgs s_w_anything) (defBody s_w_anything) (defScope s_w_anything) .none kV_w_anything dc_w_anything pc_w_anything an_w_anything cd_w_anything ct_w_anything), sl_w_anything⟩) (c_w_anything : PySem.W.codeIn K cd_w_anything "_law_anything" = true) (k_w_anything : PySem.W.keepIn K (.ref f_w_anything) = true)
    {f_w_made : Addr} {od_w_made an_w_made : Option Addr} {sl_w_made : Array (Option Value)} {oc_w_made kV_w_made dc_w_made pc_w_made cd_w_made ct_w_made : Value}
    (a_w_made : PySem.W.nsIn K mainGlobals "_law_made" = some (some (.ref f_w_made))) (l_w_made : K.lookup f_w_made = some ⟨oc_w_made, od_w_made, .func (PySem.W.fnOf "_law_made" "_law_made" (defArgs s_w_made) (defBody s_w_made) (defScope s_w_made) .none kV_w_made dc_w_made pc_w_made an_w_made cd_w_made ct_w_made), sl_w_made⟩) (c_w_made : PySem.W.codeIn K cd_w_made "_law_made" = true) (k_w_made : PySem.W.keepIn K (.ref f_w_made) = true)
    {f_w_is_less : Addr} {od_w_is_less an_w_is_less : Option Addr} {sl_w_is_less : Array (Option Value)} {oc_w_is_less kV_w_is_less dc_w_is_less pc_w_is_less cd_w_is_less ct_w_is_less : Value}
    (a_w_is_less : PySem.W.nsIn K mainGlobals "_law_is_less" = some (some (.ref f_w_is_less))) (l_w_is_less : K.lookup f_w_is_less = some ⟨oc_w_is_less, od_w_is_less, .func (PySem.W.fnOf "_law_is_less" "_law_is_less" (defArgs s_w_is_less) (defBody s_w_is_less) (defScope s_w_is_less) .none kV_w_is_less dc_w_is_less pc_w_is_less an_w_is_less cd_w_is_less ct_w_is_less), sl_w_is_less⟩) (c_w_is_less : PySem.W.codeIn K cd_w_is_less "_law_is_less" = true) (k_w_is_less : PySem.W.keepIn K (.ref f_w_is_less) = true)
    {f_w_divisor : Addr} {od_w_divisor an_w_divisor : Option Addr} {sl_w_divisor : Array (Option Value)} {oc_w_divisor kV_w_divisor dc_w_divisor pc_w_divisor cd_w_divisor ct_w_divisor : Value}
    (a_w_divisor : PySem.W.nsIn K mainGlobals "_law_divisor" = some (some (.ref f_w_divisor))) (l_w_divisor : K.lookup f_w_divisor = some ⟨oc_w_divisor, od_w_divisor, .func (PySem.W.fnOf "_law_divisor" "_law_divisor" (defArgs s_w_divisor) (defBody s_w_divisor) (defScope s_w_divisor) .none kV_w_divisor dc_w_divisor pc_w_divisor an_w_divisor cd_w_divisor ct_w_divisor), sl_w_divisor⟩) (c_w_divisor : PySem.W.codeIn K cd_w_divisor "_law_divisor" = true) (k_w_divisor : PySem.W.keepIn K (.ref f_w_divisor) = true)
    {f_w_number : Addr} {od_w_number an_w_number : Option Addr} {sl_w_number : Array (Option Value)} {oc_w_number kV_w_number dc_w_number pc_w_number cd_w_number ct_w_number : Value}
    (a_w_number : PySem.W.nsIn K mainGlobals "_law_number" = some (some (.ref f_w_number))) (l_w_number : K.lookup f_w_number = some ⟨oc_w_number, od_w_number, .func (PySem.W.fnOf "_law_number" "_law_number" (defArgs s_w_number) (defBody s_w_number) (defScope s_w_number) .none kV_w_number dc_w_number pc_w_number an_w_number cd_w_number ct_w_number), sl_w_number⟩) (c_w_number : PySem.W.codeIn K cd_w_number "_law_number" = true) (k_w_number : PySem.W.keepIn K (.ref f_w_number) = true)
    {f_w_inside : Addr} {od_w_inside an_w_inside : Option Addr} {sl_w_inside : Array (Option Value)} {oc_w_inside kV_w_inside dc_w_inside pc_w_inside cd_w_inside ct_w_inside : Value}
    (a_w_inside : PySem.W.nsIn K mainGlobals "_law_inside" = some (some (.ref f_w_inside))) (l_w_inside : K.lookup f_w_inside = some ⟨oc_w_inside, od_w_inside, .func (PySem.W.fnOf "_law_inside" "_law_inside" (defArgs s_w_inside) (defBody s_w_inside) (defScope s_w_inside) .none kV_w_inside dc_w_inside pc_w_inside an_w_inside cd_w_inside ct_w_inside), sl_w_inside⟩) (c_w_inside : PySem.W.codeIn K cd_w_inside "_law_inside" = true) (k_w_inside : PySem.W.keepIn K (.ref f_w_inside) = true)
    {f_w_low : Addr} {od_w_low an_w_low : Option Addr} {sl_w_low : Array (Option Value)} {oc_w_low kV_w_low dc_w_low pc_w_low cd_w_low ct_w_low : Value}
    (a_w_low : PySem.W.nsIn K mainGlobals "_law_low" = some (some (.ref f_w_low))) (l_w_low : K.lookup f_w_low = some ⟨oc_w_low, od_w_low, .func (PySem.W.fnOf "_law_low" "_law_low" (defArgs s_w_low) (defBody s_w_low) (defScope s_w_low) .none kV_w_low dc_w_low pc_w_low an_w_low cd_w_low ct_w_low), sl_w_low⟩) (c_w_low : PySem.W.codeIn K cd_w_low "_law_low" = true) (k_w_low : PySem.W.keepIn K (.ref f_w_low) = true)
    {f_w_minus : Addr} {od_w_minus an_w_minus : Option Addr} {sl_w_minus : Array (Option Value)} {oc_w_minus kV_w_minus dc_w_minus pc_w_minus cd_w_minus ct_w_minus : Value}
    (a_w_minus : PySem.W.nsIn K mainGlobals "_law_minus" = some (some (.ref f_w_minus))) (l_w_minus : K.lookup f_w_minus = some ⟨oc_w_minus, od_w_minus, .func (PySem.W.fnOf "_law_minus" "_law_minus" (defArgs s_w_minus) (defBody s_w_minus) (defScope s_w_minus) .none kV_w_minus dc_w_minus pc_w_minus an_w_minus cd_w_minus ct_w_minus), sl_w_minus⟩) (c_w_minus : PySem.W.codeIn K cd_w_minus "_law_minus" = true) (k_w_minus : PySem.W.keepIn K (.ref f_w_minus) = true)
    {f_w_power : Addr} {od_w_power an_w_power : Option Addr} {sl_w_power : Array (Option Value)} {oc_w_power kV_w_power dc_w_power pc_w_power cd_w_power ct_w_power : Value}
    (a_w_power : PySem.W.nsIn K mainGlobals "_law_power" = some (some (.ref f_w_power))) (l_w_power : K.lookup f_w_power = some ⟨oc_w_power, od_w_power, .func (PySem.W.fnOf "_law_power" "_law_power" (defArgs s_w_power) (defBody s_w_power) (defScope s_w_power) .none kV_w_power dc_w_power pc_w_power an_w_power cd_w_power ct_w_power), sl_w_power⟩) (c_w_power : PySem.W.codeIn K cd_w_power "_law_power" = true) (k_w_power : PySem.W.keepIn K (.ref f_w_power) = true)
    {f_w_raised : Addr} {od_w_raised an_w_raised : Option Addr} {sl_w_raised : Array (Option Value)} {oc_w_raised kV_w_raised dc_w_raised pc_w_raised cd_w_raised ct_w_raised : Value}
    (a_w_raised : PySem.W.nsIn K mainGlobals "_law_raised" = some (some (.ref f_w_raised))) (l_w_raised : K.lookup f_w_raised = some ⟨oc_w_raised, od_w_raised, .func (PySem.W.fnOf "_law_raised" "_law_raised" (defArgs s_w_raised) (defBody s_w_raised) (defScope s_w_raised) .none kV_w_raised dc_w_raised pc_w_raised an_w_raised cd_w_raised ct_w_raised), sl_w_raised⟩) (c_w_raised : PySem.W.codeIn K cd_w_raised "_law_raised" = true) (k_w_raised : PySem.W.keepIn K (.ref f_w_raised) = true)
    {f_w_behind : Addr} {od_w_behind an_w_behind : Option Addr} {sl_w_behind : Array (Option Value)} {oc_w_behind kV_w_behind dc_w_behind pc_w_behind cd_w_behind ct_w_behind : Value}
    (a_w_behind : PySem.W.nsIn K mainGlobals "_law_behind" = some (some (.ref f_w_behind))) (l_w_behind : K.lookup f_w_behind = some ⟨oc_w_behind, od_w_behind, .func (PySem.W.fnOf "_law_behind" "_law_behind" (defArgs s_w_behind) (defBody s_w_behind) (defScope s_w_behind) .none kV_w_behind dc_w_behind pc_w_behind an_w_behind cd_w_behind ct_w_behind), sl_w_behind⟩) (c_w_behind : PySem.W.codeIn K cd_w_behind "_law_behind" = true) (k_w_behind : PySem.W.keepIn K (.ref f_w_behind) = true)
    {f_w_plus : Addr} {od_w_plus an_w_plus : Option Addr} {sl_w_plus : Array (Option Value)} {oc_w_plus kV_w_plus dc_w_plus pc_w_plus cd_w_plus ct_w_plus : Value}
    (a_w_plus : PySem.W.nsIn K mainGlobals "_law_plus" = some (some (.ref f_w_plus))) (l_w_plus : K.lookup f_w_plus = some ⟨oc_w_plus, od_w_plus, .func (PySem.W.fnOf "_law_plus" "_law_plus" (defArgs s_w_plus) (defBody s_w_plus) (defScope s_w_plus) .none kV_w_plus dc_w_plus pc_w_plus an_w_plus cd_w_plus ct_w_plus), sl_w_plus⟩) (c_w_plus : PySem.W.codeIn K cd_w_plus "_law_plus" = true) (k_w_plus : PySem.W.keepIn K (.ref f_w_plus) = true)
    {f_w_sum : Addr} {od_w_sum an_w_sum : Option Addr} {sl_w_sum : Array (Option Value)} {oc_w_sum kV_w_sum dc_w_sum pc_w_sum cd_w_sum ct_w_sum : Value}
    (a_w_sum : PySem.W.nsIn K mainGlobals "_law_sum" = some (some (.ref f_w_sum))) (l_w_sum : K.lookup f_w_sum = some ⟨oc_w_sum, od_w_sum, .func (PySem.W.fnOf "_law_sum" "_law_sum" (defArgs s_w_sum) (defBody s_w_sum) (defScope s_w_sum) .none kV_w_sum dc_w_sum pc_w_sum an_w_sum cd_w_sum ct_w_sum), sl_w_sum⟩) (c_w_sum : PySem.W.codeIn K cd_w_sum "_law_sum" = true) (k_w_sum : PySem.W.keepIn K (.ref f_w_sum) = true)
    {f_w_times : Addr} {od_w_times an_w_times : Option Addr} {sl_w_times : Array (Option Value)} {oc_w_times kV_w_times dc_w_times pc_w_times cd_w_times ct_w_times : Value}
    (a_w_times : PySem.W.nsIn K mainGlobals "_law_times" = some (some (.ref f_w_times))) (l_w_times : K.lookup f_w_times = some ⟨oc_w_times, od_w_times, .func (PySem.W.fnOf "_law_times" "_law_times" (defArgs s_w_times) (defBody s_w_times) (defScope s_w_times) .none kV_w_times dc_w_times pc_w_times an_w_times cd_w_times ct_w_times), sl_w_times⟩) (c_w_times : PySem.W.codeIn K cd_w_times "_law_times" = true) (k_w_times : PySem.W.keepIn K (.ref f_w_times) = true)
    {f_w_of_kink : Addr} {od_w_of_kink an_w_of_kink : Option Addr} {sl_w_of_kink : Array (Option Value)} {oc_w_of_kink kV_w_of_kink dc_w_of_kink pc_w_of_kink cd_w_of_kink ct_w_of_kink : Value}
    (a_w_of_kink : PySem.W.nsIn K mainGlobals "_law_of_kink" = some (some (.ref f_w_of_kink))) (l_w_of_kink : K.lookup f_w_of_kink = some ⟨oc_w_of_kink, od_w_of_kink, .func (PySem.W.fnOf "_law_of_kink" "_law_of_kink" (defArgs s_w_of_kink) (defBody s_w_of_kink) (defScope s_w_of_kink) .none kV_w_of_kink dc_w_of_kink pc_w_of_kink an_w_of_kink cd_w_of_kink ct_w_of_kink), sl_w_of_kink⟩) (c_w_of_kink : PySem.W.codeIn K cd_w_of_kink "_law_of_kink" = true) (k_w_of_kink : PySem.W.keepIn K (.ref f_w_of_kink) = true)
    {f_w_of_power : Addr} {od_w_of_power an_w_of_power : Option Addr} {sl_w_of_power : Array (Option Value)} {oc_w_of_power kV_w_of_power dc_w_of_power pc_w_of_power cd_w_of_power ct_w_of_power : Value}
    (a_w_of_power : PySem.W.nsIn K mainGlobals "_law_of_power" = some (some (.ref f_w_of_power))) (l_w_of_power : K.lookup f_w_of_power = some ⟨oc_w_of_power, od_w_of_power, .func (PySem.W.fnOf "_law_of_power" "_law_of_power" (defArgs s_w_of_power) (defBody s_w_of_power) (defScope s_w_of_power) .none kV_w_of_power dc_w_of_power pc_w_of_power an_w_of_power cd_w_of_power ct_w_of_power), sl_w_of_power⟩) (c_w_of_power : PySem.W.codeIn K cd_w_of_power "_law_of_power" = true) (k_w_of_power : PySem.W.keepIn K (.ref f_w_of_power) = true)
    {f_w_no_right : Addr} {od_w_no_right an_w_no_right : Option Addr} {sl_w_no_right : Array (Option Value)} {oc_w_no_right kV_w_no_right dc_w_no_right pc_w_no_right cd_w_no_right ct_w_no_right : Value}
    (a_w_no_right : PySem.W.nsIn K mainGlobals "_law_no_right" = some (some (.ref f_w_no_right))) (l_w_no_right : K.lookup f_w_no_right = some ⟨oc_w_no_right, od_w_no_right, .func (PySem.W.fnOf "_law_no_right" "_law_no_right" (defArgs s_w_no_right) (defBody s_w_no_right) (defScope s_w_no_right) .none kV_w_no_right dc_w_no_right pc_w_no_right an_w_no_right cd_w_no_right ct_w_no_right), sl_w_no_right⟩) (c_w_no_right : PySem.W.codeIn K cd_w_no_right "_law_no_right" = true) (k_w_no_right : PySem.W.keepIn K (.ref f_w_no_right) = true)
    {f_w_factor : Addr} {od_w_factor an_w_factor : Option Addr} {sl_w_factor : Array (Option Value)} {oc_w_factor kV_w_factor dc_w_factor pc_w_factor cd_w_factor ct_w_factor : Value}
    (a_w_factor : PySem.W.nsIn K mainGlobals "_law_factor" = some (some (.ref f_w_factor))) (l_w_factor : K.lookup f_w_factor = some ⟨oc_w_factor, od_w_factor, .func (PySem.W.fnOf "_law_factor" "_law_factor" (defArgs s_w_factor) (defBody s_w_factor) (defScope s_w_factor) .none kV_w_factor dc_w_factor pc_w_factor an_w_factor cd_w_factor ct_w_factor), sl_w_factor⟩) (c_w_factor : PySem.W.codeIn K cd_w_factor "_law_factor" = true) (k_w_factor : PySem.W.keepIn K (.ref f_w_factor) = true)
    {f_w_order : Addr} {od_w_order an_w_order : Option Addr} {sl_w_order : Array (Option Value)} {oc_w_order kV_w_order dc_w_order pc_w_order cd_w_order ct_w_order : Value}
    (a_w_order : PySem.W.nsIn K mainGlobals "_law_order" = some (some (.ref f_w_order))) (l_w_order : K.lookup f_w_order = some ⟨oc_w_order, od_w_order, .func (PySem.W.fnOf "_law_order" "_law_order" (defArgs s_w_order) (defBody s_w_order) (defScope s_w_order) .none kV_w_order dc_w_order pc_w_order an_w_order cd_w_order ct_w_order), sl_w_order⟩) (c_w_order : PySem.W.codeIn K cd_w_order "_law_order" = true) (k_w_order : PySem.W.keepIn K (.ref f_w_order) = true)
    {f_w_spot : Addr} {od_w_spot an_w_spot : Option Addr} {sl_w_spot : Array (Option Value)} {oc_w_spot kV_w_spot dc_w_spot pc_w_spot cd_w_spot ct_w_spot : Value}
    (a_w_spot : PySem.W.nsIn K mainGlobals "_law_spot" = some (some (.ref f_w_spot))) (l_w_spot : K.lookup f_w_spot = some ⟨oc_w_spot, od_w_spot, .func (PySem.W.fnOf "_law_spot" "_law_spot" (defArgs s_w_spot) (defBody s_w_spot) (defScope s_w_spot) .none kV_w_spot dc_w_spot pc_w_spot an_w_spot cd_w_spot ct_w_spot), sl_w_spot⟩) (c_w_spot : PySem.W.codeIn K cd_w_spot "_law_spot" = true) (k_w_spot : PySem.W.keepIn K (.ref f_w_spot) = true)
    {f_w_stretch : Addr} {od_w_stretch an_w_stretch : Option Addr} {sl_w_stretch : Array (Option Value)} {oc_w_stretch kV_w_stretch dc_w_stretch pc_w_stretch cd_w_stretch ct_w_stretch : Value}
    (a_w_stretch : PySem.W.nsIn K mainGlobals "_law_stretch" = some (some (.ref f_w_stretch))) (l_w_stretch : K.lookup f_w_stretch = some ⟨oc_w_stretch, od_w_stretch, .func (PySem.W.fnOf "_law_stretch" "_law_stretch" (defArgs s_w_stretch) (defBody s_w_stretch) (defScope s_w_stretch) .none kV_w_stretch dc_w_stretch pc_w_stretch an_w_stretch cd_w_stretch ct_w_stretch), sl_w_stretch⟩) (c_w_stretch : PySem.W.codeIn K cd_w_stretch "_law_stretch" = true) (k_w_stretch : PySem.W.keepIn K (.ref f_w_stretch) = true)
    {f_w_rule : Addr} {od_w_rule an_w_rule : Option Addr} {sl_w_rule : Array (Option Value)} {oc_w_rule kV_w_rule dc_w_rule pc_w_rule cd_w_rule ct_w_rule : Value}
    (a_w_rule : PySem.W.nsIn K mainGlobals "_law_rule" = some (some (.ref f_w_rule))) (l_w_rule : K.lookup f_w_rule = some ⟨oc_w_rule, od_w_rule, .func (PySem.W.fnOf "_law_rule" "_law_rule" (defArgs s_w_rule) (defBody s_w_rule) (defScope s_w_rule) .none kV_w_rule dc_w_rule pc_w_rule an_w_rule cd_w_rule ct_w_rule), sl_w_rule⟩) (c_w_rule : PySem.W.codeIn K cd_w_rule "_law_rule" = true) (k_w_rule : PySem.W.keepIn K (.ref f_w_rule) = true)
    {f_w_seed : Addr} {od_w_seed an_w_seed : Option Addr} {sl_w_seed : Array (Option Value)} {oc_w_seed kV_w_seed dc_w_seed pc_w_seed cd_w_seed ct_w_seed : Value}
    (a_w_seed : PySem.W.nsIn K mainGlobals "_law_seed" = some (some (.ref f_w_seed))) (l_w_seed : K.lookup f_w_seed = some ⟨oc_w_seed, od_w_seed, .func (PySem.W.fnOf "_law_seed" "_law_seed" (defArgs s_w_seed) (defBody s_w_seed) (defScope s_w_seed) .none kV_w_seed dc_w_seed pc_w_seed an_w_seed cd_w_seed ct_w_seed), sl_w_seed⟩) (c_w_seed : PySem.W.codeIn K cd_w_seed "_law_seed" = true) (k_w_seed : PySem.W.keepIn K (.ref f_w_seed) = true)
    {f_is_power : Addr} {od_is_power an_is_power : Option Addr} {sl_is_power : Array (Option Value)} {oc_is_power kV_is_power dc_is_power pc_is_power cd_is_power ct_is_power : Value}
    (a_is_power : PySem.W.nsIn K mainGlobals "is_power" = some (some (.ref f_is_power))) (l_is_power : K.lookup f_is_power = some ⟨oc_is_power, od_is_power, .func (PySem.W.fnOf "is_power" "is_power" (defArgs s_is_power) (defBody s_is_power) (defScope s_is_power) .none kV_is_power dc_is_power pc_is_power an_is_power cd_is_power ct_is_power), sl_is_power⟩) (c_is_power : PySem.W.codeIn K cd_is_power "is_power" = true) (k_is_power : PySem.W.keepIn K (.ref f_is_power) = true)
    {f_is_within : Addr} {od_is_within an_is_within : Option Addr} {sl_is_within : Array (Option Value)} {oc_is_within kV_is_within dc_is_within pc_is_within cd_is_within ct_is_within : Value}
    (a_is_within : PySem.W.nsIn K mainGlobals "is_within" = some (some (.ref f_is_within))) (l_is_within : K.lookup f_is_within = some ⟨oc_is_within, od_is_within, .func (PySem.W.fnOf "is_within" "is_within" (defArgs s_is_within) (defBody s_is_within) (defScope s_is_within) .none kV_is_within dc_is_within pc_is_within an_is_within cd_is_within ct_is_within), sl_is_within⟩) (c_is_within : PySem.W.codeIn K cd_is_within "is_within" = true) (k_is_within : PySem.W.keepIn K (.ref f_is_within) = true)
    {f_quotient : Addr} {od_quotient an_quotient : Option Addr} {sl_quotient : Array (Option Value)} {oc_quotient kV_quotient dc_quotient pc_quotient cd_quotient ct_quotient : Value}
    (a_quotient : PySem.W.nsIn K mainGlobals "quotient" = some (some (.ref f_quotient))) (l_quotient : K.lookup f_quotient = some ⟨oc_quotient, od_quotient, .func (PySem.W.fnOf "quotient" "quotient" (defArgs s_quotient) (defBody s_quotient) (defScope s_quotient) .none kV_quotient dc_quotient pc_quotient an_quotient cd_quotient ct_quotient), sl_quotient⟩) (c_quotient : PySem.W.codeIn K cd_quotient "quotient" = true) (k_quotient : PySem.W.keepIn K (.ref f_quotient) = true)
    {f_area_powers : Addr} {od_area_powers an_area_powers : Option Addr} {sl_area_powers : Array (Option Value)} {oc_area_powers kV_area_powers dc_area_powers pc_area_powers cd_area_powers ct_area_powers : Value}
    (a_area_powers : PySem.W.nsIn K mainGlobals "area_powers" = some (some (.ref f_area_powers))) (l_area_powers : K.lookup f_area_powers = some ⟨oc_area_powers, od_area_powers, .func (PySem.W.fnOf "area_powers" "area_powers" (defArgs s_area_powers) (defBody s_area_powers) (defScope s_area_powers) .none kV_area_powers dc_area_powers pc_area_powers an_area_powers cd_area_powers ct_area_powers), sl_area_powers⟩) (c_area_powers : PySem.W.codeIn K cd_area_powers "area_powers" = true) (k_area_powers : PySem.W.keepIn K (.ref f_area_powers) = true)
    {f_less_by : Addr} {od_less_by an_less_by : Option Addr} {sl_less_by : Array (Option Value)} {oc_less_by kV_less_by dc_less_by pc_less_by cd_less_by ct_less_by : Value}
    (a_less_by : PySem.W.nsIn K mainGlobals "less_by" = some (some (.ref f_less_by))) (l_less_by : K.lookup f_less_by = some ⟨oc_less_by, od_less_by, .func (PySem.W.fnOf "less_by" "less_by" (defArgs s_less_by) (defBody s_less_by) (defScope s_less_by) .none kV_less_by dc_less_by pc_less_by an_less_by cd_less_by ct_less_by), sl_less_by⟩) (c_less_by : PySem.W.codeIn K cd_less_by "less_by" = true) (k_less_by : PySem.W.keepIn K (.ref f_less_by) = true)
    {f_multiplied : Addr} {od_multiplied an_multiplied : Option Addr} {sl_multiplied : Array (Option Value)} {oc_multiplied kV_multiplied dc_multiplied pc_multiplied cd_multiplied ct_multiplied : Value}
    (a_multiplied : PySem.W.nsIn K mainGlobals "multiplied" = some (some (.ref f_multiplied))) (l_multiplied : K.lookup f_multiplied = some ⟨oc_multiplied, od_multiplied, .func (PySem.W.fnOf "multiplied" "multiplied" (defArgs s_multiplied) (defBody s_multiplied) (defScope s_multiplied) .none kV_multiplied dc_multiplied pc_multiplied an_multiplied cd_multiplied ct_multiplied), sl_multiplied⟩) (c_multiplied : PySem.W.codeIn K cd_multiplied "multiplied" = true) (k_multiplied : PySem.W.keepIn K (.ref f_multiplied) = true)
    {f_value_at : Addr} {od_value_at an_value_at : Option Addr} {sl_value_at : Array (Option Value)} {oc_value_at kV_value_at dc_value_at pc_value_at cd_value_at ct_value_at : Value}
    (a_value_at : PySem.W.nsIn K mainGlobals "value_at" = some (some (.ref f_value_at))) (l_value_at : K.lookup f_value_at = some ⟨oc_value_at, od_value_at, .func (PySem.W.fnOf "value_at" "value_at" (defArgs s_value_at) (defBody s_value_at) (defScope s_value_at) .none kV_value_at dc_value_at pc_value_at an_value_at cd_value_at ct_value_at), sl_value_at⟩) (c_value_at : PySem.W.codeIn K cd_value_at "value_at" = true) (k_value_at : PySem.W.keepIn K (.ref f_value_at) = true)
    {f_told : Addr} {od_told an_told : Option Addr} {sl_told : Array (Option Value)} {oc_told kV_told dc_told pc_told cd_told ct_told : Value}
    (a_told : PySem.W.nsIn K mainGlobals "told" = some (some (.ref f_told))) (l_told : K.lookup f_told = some ⟨oc_told, od_told, .func (PySem.W.fnOf "told" "told" (defArgs s_told) (defBody s_told) (defScope s_told) .none kV_told dc_told pc_told an_told cd_told ct_told), sl_told⟩) (c_told : PySem.W.codeIn K cd_told "told" = true) (k_told : PySem.W.keepIn K (.ref f_told) = true)
    {f_told_between : Addr} {od_told_between an_told_between : Option Addr} {sl_told_between : Array (Option Value)} {oc_told_between kV_told_between dc_told_between pc_told_between cd_told_between ct_told_between : Value}
    (a_told_between : PySem.W.nsIn K mainGlobals "told_between" = some (some (.ref f_told_between))) (l_told_between : K.lookup f_told_between = some ⟨oc_told_between, od_told_between, .func (PySem.W.fnOf "told_between" "told_between" (defArgs s_told_between) (defBody s_told_between) (defScope s_told_between) .none kV_told_between dc_told_between pc_told_between an_told_between cd_told_between ct_told_between), sl_told_between⟩) (c_told_between : PySem.W.codeIn K cd_told_between "told_between" = true) (k_told_between : PySem.W.keepIn K (.ref f_told_between) = true)
    {f_powered : Addr} {od_powered an_powered : Option Addr} {sl_powered : Array (Option Value)} {oc_powered kV_powered dc_powered pc_powered cd_powered ct_powered : Value}
    (a_powered : PySem.W.nsIn K mainGlobals "powered" = some (some (.ref f_powered))) (l_powered : K.lookup f_powered = some ⟨oc_powered, od_powered, .func (PySem.W.fnOf "powered" "powered" (defArgs s_powered) (defBody s_powered) (defScope s_powered) .none kV_powered dc_powered pc_powered an_powered cd_powered ct_powered), sl_powered⟩) (c_powered : PySem.W.codeIn K cd_powered "powered" = true) (k_powered : PySem.W.keepIn K (.ref f_powered) = true)
    {f_told_kink : Addr} {od_told_kink an_told_kink : Option Addr} {sl_told_kink : Array (Option Value)} {oc_told_kink kV_told_kink dc_told_kink pc_told_kink cd_told_kink ct_told_kink : Value}
    (a_told_kink : PySem.W.nsIn K mainGlobals "told_kink" = some (some (.ref f_told_kink))) (l_told_kink : K.lookup f_told_kink = some ⟨oc_told_kink, od_told_kink, .func (PySem.W.fnOf "told_kink" "told_kink" (defArgs s_told_kink) (defBody s_told_kink) (defScope s_told_kink) .none kV_told_kink dc_told_kink pc_told_kink an_told_kink cd_told_kink ct_told_kink), sl_told_kink⟩) (c_told_kink : PySem.W.codeIn K cd_told_kink "told_kink" = true) (k_told_kink : PySem.W.keepIn K (.ref f_told_kink) = true)
    {f_number_told : Addr} {od_number_told an_number_told : Option Addr} {sl_number_told : Array (Option Value)} {oc_number_told kV_number_told dc_number_told pc_number_told cd_number_told ct_number_told : Value}
    (a_number_told : PySem.W.nsIn K mainGlobals "number_told" = some (some (.ref f_number_told))) (l_number_told : K.lookup f_number_told = some ⟨oc_number_told, od_number_told, .func (PySem.W.fnOf "number_told" "number_told" (defArgs s_number_told) (defBody s_number_told) (defScope s_number_told) .none kV_number_told dc_number_told pc_number_told an_number_told cd_number_told ct_number_told), sl_number_told⟩) (c_number_told : PySem.W.codeIn K cd_number_told "number_told" = true) (k_number_told : PySem.W.keepIn K (.ref f_number_told) = true)
    {f_refuting_holds : Addr} {od_refuting_holds an_refuting_holds : Option Addr} {sl_refuting_holds : Array (Option Value)} {oc_refuting_holds kV_refuting_holds dc_refuting_holds pc_refuting_holds cd_refuting_holds ct_refuting_holds : Value}
    (a_refuting_holds : PySem.W.nsIn K mainGlobals "refuting_holds" = some (some (.ref f_refuting_holds))) (l_refuting_holds : K.lookup f_refuting_holds = some ⟨oc_refuting_holds, od_refuting_holds, .func (PySem.W.fnOf "refuting_holds" "refuting_holds" (defArgs s_refuting_holds) (defBody s_refuting_holds) (defScope s_refuting_holds) .none kV_refuting_holds dc_refuting_holds pc_refuting_holds an_refuting_holds cd_refuting_holds ct_refuting_holds), sl_refuting_holds⟩) (c_refuting_holds : PySem.W.codeIn K cd_refuting_holds "refuting_holds" = true) (k_refuting_holds : PySem.W.keepIn K (.ref f_refuting_holds) = true)
    {f_law : Addr} {od_law an_law : Option Addr} {sl_law : Array (Option Value)} {oc_law kV_law dc_law pc_law cd_law ct_law : Value}
    (a_law : PySem.W.nsIn K mainGlobals "law" = some (some (.ref f_law))) (l_law : K.lookup f_law = some ⟨oc_law, od_law, .func (PySem.W.fnOf "law" "law" (defArgs s_law) (defBody s_law) (defScope s_law) .none kV_law dc_law pc_law an_law cd_law ct_law), sl_law⟩) (c_law : PySem.W.codeIn K cd_law "law" = true) (k_law : PySem.W.keepIn K (.ref f_law) = true)
    (is1_Rule : PySem.W.findIn K (.ref C_Rule) "__class__" = some (some (.builtin "object.__class__"))) (is2_Rule : PySem.W.specialIn K (.builtin "object.__class__") "__get__" = some (some (.builtin "getset_descriptor.__get__"))) (is3_Rule : PySem.W.takesIn K (.builtin "object.__class__") = some true) (is4_Rule : PySem.W.mroIn K C_Rule (.type "object") = some true) (is5_Rule : PySem.W.kitOne K (.ref C_Rule) (.ref C_Rule) = some true)
    (ut0_Rule : PySem.W.kitOne K (.ref C_Rule) (.type "int") = some false)
    (ut1_Rule : PySem.W.kitOne K (.ref C_Rule) (.type "bool") = some false)
    (ut2_Rule : PySem.W.kitOne K (.ref C_Rule) (.type "str") = some false)
    (ut3_Rule : PySem.W.kitOne K (.ref C_Rule) (.type "list") = some false)
    (ut4_Rule : PySem.W.kitOne K (.ref C_Rule) (.type "tuple") = some false)
    {g_NOUGHT : Addr} {gd_NOUGHT : Option Addr} {gi_NOUGHT : Array Value} {gn_NOUGHT : Nat} {gs_NOUGHT : Array (Option Value)} (a_NOUGHT : PySem.W.nsIn K mainGlobals "NOUGHT" = some (some (.ref g_NOUGHT))) (l_NOUGHT : K.lookup g_NOUGHT = some ⟨.type "tuple", gd_NOUGHT, .seq gi_NOUGHT gn_NOUGHT, gs_NOUGHT⟩) (v_NOUGHT : gi_NOUGHT.size ≤ sizeLine ∧ ∃ vs, Vals vs gi_NOUGHT.toList ∧ ∀ H, DRs K H vs [.int (0), .int (1)])
    {g_ONE : Addr} {gd_ONE : Option Addr} {gi_ONE : Array Value} {gn_ONE : Nat} {gs_ONE : Array (Option Value)} (a_ONE : PySem.W.nsIn K mainGlobals "ONE" = some (some (.ref g_ONE))) (l_ONE : K.lookup g_ONE = some ⟨.type "tuple", gd_ONE, .seq gi_ONE gn_ONE, gs_ONE⟩) (v_ONE : gi_ONE.size ≤ sizeLine ∧ ∃ vs, Vals vs gi_ONE.toList ∧ ∀ H, DRs K H vs [.int (1), .int (1)])
    (z_abs : PySem.W.nsIn K mainGlobals "abs" = some none)
    (z_all : PySem.W.nsIn K mainGlobals "all" = some none)
    (z_bool : PySem.W.nsIn K mainGlobals "bool" = some none)
    (z_enumerate : PySem.W.nsIn K mainGlobals "enumerate" = some none)
    (z_int : PySem.W.nsIn K mainGlobals "int" = some none)
    (z_isinstance : PySem.W.nsIn K mainGlobals "isinstance" = some none)
    (z_len : PySem.W.nsIn K mainGlobals "len" = some none)
    (z_list : PySem.W.nsIn K mainGlobals "list" = some none)
    (z_max : PySem.W.nsIn K mainGlobals "max" = some none)
    (z_min : PySem.W.nsIn K mainGlobals "min" = some none)
    (z_range : PySem.W.nsIn K mainGlobals "range" = some none)
    (z_sorted : PySem.W.nsIn K mainGlobals "sorted" = some none)
    (z_str : PySem.W.nsIn K mainGlobals "str" = some none)
    (z_tuple : PySem.W.nsIn K mainGlobals "tuple" = some none)
    (z_zip : PySem.W.nsIn K mainGlobals "zip" = some none)
    : ∃ fd : FuncData, (∀ (s : Shared) (u : Value), BindsTo s fd ⟨[u], []⟩ [("_law_script", u)]) ∧ ∀ (base : Heap) (s : Shared) (H : Hp) (a : Addr) (Q : VK), K.In base → base.Ns mainGlobals mg → Env0 l.prog w K mg base callerA [] s H → BindsTo s fd ⟨[.ref a], []⟩ [("_law_script", .ref a)] → spF K r_law [.ref a] H Q E0 →
      codeAny (model l.prog w) callerA (.call (.ref fa) ⟨[.ref a], []⟩) (CR CX0 [] l.prog w H s Q E0) s := by
  have e := hfa.symm.trans (PySem.W.mg_of X G a_law)
  cases e
  have T : ∃ T : Txt K mg, T.law = fnT X G a_law l_law c_law k_law := ⟨{ Rule := ⟨C_Rule, PySem.W.mg_of X G aC_Rule, aC_Rule, ⟨pg_Rule, hd_Rule, po_Rule, sa_Rule⟩, na_list4 na_Rule_0 na_Rule_1 na_Rule_2 na_Rule_3⟩, is_sequence := fnT X G a_is_sequence l_is_sequence c_is_sequence k_is_sequence, is_less := fnT X G a_is_less l_is_less c_is_less k_is_less, is_integer := fnT X G a_is_integer l_is_integer c_is_integer k_is_integer, divisor := fnT X G a_divisor l_divisor c_divisor k_divisor, is_pair := fnT X G a_is_pair l_is_pair c_is_pair k_is_pair, is_value := fnT X G a_is_value l_is_value c_is_value k_is_value, value_of := fnT X G a_value_of l_value_of c_value_of k_value_of, is_between := fnT X G a_is_between l_is_between c_is_between k_is_between, is_share := fnT X G a_is_share l_is_share c_is_share k_is_share, is_weight := fnT X G a_is_weight l_is_weight c_is_weight k_is_weight, ascending := fnT X G a_ascending l_ascending c_ascending k_ascending, lowest := fnT X G a_lowest l_lowest c_lowest k_lowest, added := fnT X G a_added l_added c_added k_added, summed := fnT X G a_summed l_summed c_summed k_summed, least_shares := fnT X G a_least_shares l_least_shares c_least_shares k_least_shares, least_weights := fnT X G a_least_weights l_least_weights c_least_weights k_least_weights, need_stretch := fnT X G a_need_stretch l_need_stretch c_need_stretch k_need_stretch, Rule_init := ⟨f_Rule_init, _, v_Rule_init.choose, ⟨⟨_, _, _, _, _, _, _, _, _, _, rfl, l_Rule_init, c_Rule_init, .inr ⟨vne v_Rule_init.choose_spec.2 rfl, _, _, _, _, rfl, t_Rule_init, td_Rule_init, v_Rule_init.choose_spec.1⟩, .inl rfl⟩, k_Rule_init⟩, ⟨a_Rule_init, i_Rule_init, k_Rule_init⟩, v_Rule_init.choose_spec.2⟩, mk_Rule := ⟨mk_Rule, a_Rule_init, i_Rule_init, kc_Rule⟩, w_choose := fnT X G a_w_choose l_w_choose c_w_choose k_w_choose, w_one_of := fnT X G a_w_one_of l_w_one_of c_w_one_of k_w_one_of, w_anything := fnT X G a_w_anything l_w_anything c_w_anything k_w_anything, w_made := fnT X G a_w_made l_w_made c_w_made k_w_made, w_is_less := fnT X G a_w_is_less l_w_is_less c_w_is_less k_w_is_less, w_divisor := fnT X G a_w_divisor l_w_divisor c_w_divisor k_w_divisor, w_number := fnT X G a_w_number l_w_number c_w_number k_w_number, w_inside := fnT X G a_w_inside l_w_inside c_w_inside k_w_inside, w_low := fnT X G a_w_low l_w_low c_w_low k_w_low, w_minus := fnT X G a_w_minus l_w_minus c_w_minus k_w_minus, w_power := fnT X G a_w_power l_w_power c_w_power k_w_power, w_raised := fnT X G a_w_raised l_w_raised c_w_raised k_w_raised, w_behind := fnT X G a_w_behind l_w_behind c_w_behind k_w_behind, w_plus := fnT X G a_w_plus l_w_plus c_w_plus k_w_plus, w_sum := fnT X G a_w_sum l_w_sum c_w_sum k_w_sum, w_times := fnT X G a_w_times l_w_times c_w_times k_w_times, w_of_kink := fnT X G a_w_of_kink l_w_of_kink c_w_of_kink k_w_of_kink, w_of_power := fnT X G a_w_of_power l_w_of_power c_w_of_power k_w_of_power, w_no_right := fnT X G a_w_no_right l_w_no_right c_w_no_right k_w_no_right, w_factor := fnT X G a_w_factor l_w_factor c_w_factor k_w_factor, w_order := fnT X G a_w_order l_w_order c_w_order k_w_order, w_spot := fnT X G a_w_spot l_w_spot c_w_spot k_w_spot, w_stretch := fnT X G a_w_stretch l_w_stretch c_w_stretch k_w_stretch, w_rule := fnT X G a_w_rule l_w_rule c_w_rule k_w_rule, w_seed := fnT X G a_w_seed l_w_seed c_w_seed k_w_seed, is_power := fnT X G a_is_power l_is_power c_is_power k_is_power, is_within := fnT X G a_is_within l_is_within c_is_within k_is_within, quotient := fnT X G a_quotient l_quotient c_quotient k_quotient, area_powers := fnT X G a_area_powers l_area_powers c_area_powers k_area_powers, less_by := fnT X G a_less_by l_less_by c_less_by k_less_by, multiplied := fnT X G a_multiplied l_multiplied c_multiplied k_multiplied, value_at := fnT X G a_value_at l_value_at c_value_at k_value_at, told := fnT X G a_told l_told c_told k_told, told_between := fnT X G a_told_between l_told_between c_told_between k_told_between, powered := fnT X G a_powered l_powered c_powered k_powered, told_kink := fnT X G a_told_kink l_told_kink c_told_kink k_told_kink, number_told := fnT X G a_number_told l_number_told c_number_told k_number_told, refuting_holds := fnT X G a_refuting_holds l_refuting_holds c_refuting_holds k_refuting_holds, law := fnT X G a_law l_law c_law k_law, iu_Rule := ⟨⟨⟨pg_Rule, hd_Rule, po_Rule, sa_Rule⟩, is1_Rule, is2_Rule, is3_Rule, is4_Rule, is5_Rule⟩, ut_list ut0_Rule ut1_Rule ut2_Rule ut3_Rule ut4_Rule⟩, NOUGHT := coTup X G a_NOUGHT l_NOUGHT v_NOUGHT.1 (Classical.choose_spec v_NOUGHT.2).1 (Classical.choose_spec v_NOUGHT.2).2, ONE := coTup X G a_ONE l_ONE v_ONE.1 (Classical.choose_spec v_ONE.2).1 (Classical.choose_spec v_ONE.2).2, abs := PySem.W.mg_none_of X G z_abs, all := PySem.W.mg_none_of X G z_all, bool := PySem.W.mg_none_of X G z_bool, enumerate := PySem.W.mg_none_of X G z_enumerate, int := PySem.W.mg_none_of X G z_int, isinstance := PySem.W.mg_none_of X G z_isinstance, len := PySem.W.mg_none_of X G z_len, list := PySem.W.mg_none_of X G z_list, max := PySem.W.mg_none_of X G z_max, min := PySem.W.mg_none_of X G z_min, range := PySem.W.mg_none_of X G z_range, sorted := PySem.W.mg_none_of X G z_sorted, str := PySem.W.mg_none_of X G z_str, tuple := PySem.W.mg_none_of X G z_tuple, zip := PySem.W.mg_none_of X G z_zip }, rfl⟩
  obtain ⟨T, hT⟩ := T
  refine ⟨(fnT X G a_law l_law c_law k_law).fd, fun s v => .of_eq rfl, fun base s H a Q _ _ e0 bd0 q => ?_⟩
  have z := ok_law (P := l.prog) (w := w) (base := base) T (s := s) (H := H) (a := a) (Q := Q) e0
  rw [hT] at z
  exact z bd0 q
end Bk
open PySem PySem.W PyProof.Rows
theorem PySem.Challenge.cw_bendkinds_k27_any_values_as_no_holds : PySem.Challenge.rw_bendkinds_k27_any_values_as_no.Holds := by
  w_on; o_law; k_head; (case hw => w_witness2)
  k_fill
  refine Bk.law_end (l := PySem.Challenge.rw_bendkinds_k27_any_values_as_no) (x := "_law_script") (m := Bk.r_law) rfl rfl (fun w h Y => PySem.W.kIn_of Y) ?F Bk.law_true
  case F =>
    intro w mg fa h KX G hmg
    refine' Bk.all_mk KX G hmg ?aC_Rule ?pg_Rule ?hd_Rule ?po_Rule ?sa_Rule ?na_Rule_0 ?na_Rule_1 ?na_Rule_2 ?na_Rule_3 ?a_is_sequence ?l_is_sequence ?c_is_sequence ?k_is_sequence ?a_is_less ?l_is_less ?c_is_less ?k_is_less ?a_is_integer ?l_is_integer ?c_is_integer ?k_is_integer ?a_divisor ?l_divisor ?c_divisor ?k_divisor ?a_is_pair ?l_is_pair ?c_is_pair ?k_is_pair ?a_is_value ?l_is_value ?c_is_value ?k_is_value ?a_value_of ?l_value_of ?c_value_of ?k_value_of ?a_is_between ?l_is_between ?c_is_between ?k_is_between ?a_is_share ?l_is_share ?c_is_share ?k_is_share ?a_is_weight ?l_is_weight ?c_is_weight ?k_is_weight ?a_ascending ?l_ascending ?c_ascending ?k_ascending ?a_lowest ?l_lowest ?c_lowest ?k_lowest ?a_added ?l_added ?c_added ?k_added ?a_summed ?l_summed ?c_summed ?k_summed ?a_least_shares ?l_least_shares ?c_least_shares ?k_least_shares ?a_least_weights ?l_least_weights ?c_least_weights ?k_least_weights ?a_need_stretch ?l_need_stretch ?c_need_stretch ?k_need_stretch ?t_Rule_init ?td_Rule_init ?v_Rule_init ?a_Rule_init ?l_Rule_init ?c_Rule_init ?k_Rule_init ?i_Rule_init ?mk_Rule ?kc_Rule ?a_w_choose ?l_w_choose ?c_w_choose ?k_w_choose ?a_w_one_of ?l_w_one_of ?c_w_one_of ?k_w_one_of ?a_w_anything ?l_w_anything ?c_w_anything ?k_w_anything ?a_w_made ?l_w_made ?c_w_made ?k_w_made ?a_w_is_less ?l_w_is_less ?c_w_is_less ?k_w_is_less ?a_w_divisor ?l_w_divisor ?c_w_divisor ?k_w_divisor ?a_w_number ?l_w_number ?c_w_number ?k_w_number ?a_w_inside ?l_w_inside ?c_w_inside ?k_w_inside ?a_w_low ?l_w_low ?c_w_low ?k_w_low ?a_w_minus ?l_w_minus ?c_w_minus ?k_w_minus ?a_w_power ?l_w_power ?c_w_power ?k_w_power ?a_w_raised ?l_w_raised ?c_w_raised ?k_w_raised ?a_w_behind ?l_w_behind ?c_w_behind ?k_w_behind ?a_w_plus ?l_w_plus ?c_w_plus ?k_w_plus ?a_w_sum ?l_w_sum ?c_w_sum ?k_w_sum ?a_w_times ?l_w_times ?c_w_times ?k_w_times ?a_w_of_kink ?l_w_of_kink ?c_w_of_kink ?k_w_of_kink ?a_w_of_power ?l_w_of_power ?c_w_of_power ?k_w_of_power ?a_w_no_right ?l_w_no_right ?c_w_no_right ?k_w_no_right ?a_w_factor ?l_w_factor ?c_w_factor ?k_w_factor ?a_w_order ?l_w_order ?c_w_order ?k_w_order ?a_w_spot ?l_w_spot ?c_w_spot ?k_w_spot ?a_w_stretch ?l_w_stretch ?c_w_stretch ?k_w_stretch ?a_w_rule ?l_w_rule ?c_w_rule ?k_w_rule ?a_w_seed ?l_w_seed ?c_w_seed ?k_w_seed ?a_is_power ?l_is_power ?c_is_power ?k_is_power ?a_is_within ?l_is_within ?c_is_within ?k_is_within ?a_quotient ?l_quotient ?c_quotient ?k_quotient ?a_area_powers ?l_area_powers ?c_area_powers ?k_area_powers ?a_less_by ?l_less_by ?c_less_by ?k_less_by ?a_multiplied ?l_multiplied ?c_multiplied ?k_multiplied ?a_value_at ?l_value_at ?c_value_at ?k_value_at ?a_told ?l_told ?c_told ?k_told ?a_told_between ?l_told_between ?c_told_between ?k_told_between ?a_powered ?l_powered ?c_powered ?k_powered ?a_told_kink ?l_told_kink ?c_told_kink ?k_told_kink ?a_number_told ?l_number_told ?c_number_told ?k_number_told ?a_refuting_holds ?l_refuting_holds ?c_refuting_holds ?k_refuting_holds ?a_law ?l_law ?c_law ?k_law ?is1_Rule ?is2_Rule ?is3_Rule ?is4_Rule ?is5_Rule ?ut0_Rule ?ut1_Rule ?ut2_Rule ?ut3_Rule ?ut4_Rule ?a_NOUGHT ?l_NOUGHT ?v_NOUGHT ?a_ONE ?l_ONE ?v_ONE ?z_abs ?z_all ?z_bool ?z_enumerate ?z_int ?z_isinstance ?z_len ?z_list ?z_max ?z_min ?z_range ?z_sorted ?z_str ?z_tuple ?z_zip
    (case aC_Rule => k_is)
    (case pg_Rule => k_is)
    (case hd_Rule => k_is)
    (case po_Rule => k_is)
    (case sa_Rule => k_is)
    (case na_Rule_0 => k_is)
    (case na_Rule_1 => k_is)
    (case na_Rule_2 => k_is)
    (case na_Rule_3 => k_is)
    (case a_is_sequence => k_is)
    (case l_is_sequence => k_is)
    (case c_is_sequence => k_is)
    (case k_is_sequence => k_is)
    (case a_is_less => k_is)
    (case l_is_less => k_is)
    (case c_is_less => k_is)
    (case k_is_less => k_is)
    (case a_is_integer => k_is)
    (case l_is_integer => k_is)
    (case c_is_integer => k_is)
    (case k_is_integer => k_is)
    (case a_divisor => k_is)
    (case l_divisor => k_is)
    (case c_divisor => k_is)
    (case k_divisor => k_is)
    (case a_is_pair => k_is)
    (case l_is_pair => k_is)
    (case c_is_pair => k_is)
    (case k_is_pair => k_is)
    (case a_is_value => k_is)
    (case l_is_value => k_is)
    (case c_is_value => k_is)
    (case k_is_value => k_is)
    (case a_value_of => k_is)
    (case l_value_of => k_is)
    (case c_value_of => k_is)
    (case k_value_of => k_is)
    (case a_is_between => k_is)
    (case l_is_between => k_is)
    (case c_is_between => k_is)
    (case k_is_between => k_is)
    (case a_is_share => k_is)
    (case l_is_share => k_is)
    (case c_is_share => k_is)
    (case k_is_share => k_is)
    (case a_is_weight => k_is)
    (case l_is_weight => k_is)
    (case c_is_weight => k_is)
    (case k_is_weight => k_is)
    (case a_ascending => k_is)
    (case l_ascending => k_is)
    (case c_ascending => k_is)
    (case k_ascending => k_is)
    (case a_lowest => k_is)
    (case l_lowest => k_is)
    (case c_lowest => k_is)
    (case k_lowest => k_is)
    (case a_added => k_is)
    (case l_added => k_is)
    (case c_added => k_is)
    (case k_added => k_is)
    (case a_summed => k_is)
    (case l_summed => k_is)
    (case c_summed => k_is)
    (case k_summed => k_is)
    (case a_least_shares => k_is)
    (case l_least_shares => k_is)
    (case c_least_shares => k_is)
    (case k_least_shares => k_is)
    (case a_least_weights => k_is)
    (case l_least_weights => k_is)
    (case c_least_weights => k_is)
    (case k_least_weights => k_is)
    (case a_need_stretch => k_is)
    (case l_need_stretch => k_is)
    (case c_need_stretch => k_is)
    (case k_need_stretch => k_is)
    (case a_Rule_init => k_is)
    (case l_Rule_init => k_is)
    (case c_Rule_init => k_is)
    (case k_Rule_init => k_is)
    (case i_Rule_init => k_is)
    (case mk_Rule => k_is)
    (case kc_Rule => k_is)
    (case a_w_choose => k_is)
    (case l_w_choose => k_is)
    (case c_w_choose => k_is)
    (case k_w_choose => k_is)
    (case a_w_one_of => k_is)
    (case l_w_one_of => k_is)
    (case c_w_one_of => k_is)
    (case k_w_one_of => k_is)
    (case a_w_anything => k_is)
    (case l_w_anything => k_is)
    (case c_w_anything => k_is)
    (case k_w_anything => k_is)
    (case a_w_made => k_is)
    (case l_w_made => k_is)
    (case c_w_made => k_is)
    (case k_w_made => k_is)
    (case a_w_is_less => k_is)
    (case l_w_is_less => k_is)
    (case c_w_is_less => k_is)
    (case k_w_is_less => k_is)
    (case a_w_divisor => k_is)
    (case l_w_divisor => k_is)
    (case c_w_divisor => k_is)
    (case k_w_divisor => k_is)
    (case a_w_number => k_is)
    (case l_w_number => k_is)
    (case c_w_number => k_is)
    (case k_w_number => k_is)
    (case a_w_inside => k_is)
    (case l_w_inside => k_is)
    (case c_w_inside => k_is)
    (case k_w_inside => k_is)
    (case a_w_low => k_is)
    (case l_w_low => k_is)
    (case c_w_low => k_is)
    (case k_w_low => k_is)
    (case a_w_minus => k_is)
    (case l_w_minus => k_is)
    (case c_w_minus => k_is)
    (case k_w_minus => k_is)
    (case a_w_power => k_is)
    (case l_w_power => k_is)
    (case c_w_power => k_is)
    (case k_w_power => k_is)
    (case a_w_raised => k_is)
    (case l_w_raised => k_is)
    (case c_w_raised => k_is)
    (case k_w_raised => k_is)
    (case a_w_behind => k_is)
    (case l_w_behind => k_is)
    (case c_w_behind => k_is)
    (case k_w_behind => k_is)
    (case a_w_plus => k_is)
    (case l_w_plus => k_is)
    (case c_w_plus => k_is)
    (case k_w_plus => k_is)
    (case a_w_sum => k_is)
    (case l_w_sum => k_is)
    (case c_w_sum => k_is)
    (case k_w_sum => k_is)
    (case a_w_times => k_is)
    (case l_w_times => k_is)
    (case c_w_times => k_is)
    (case k_w_times => k_is)
    (case a_w_of_kink => k_is)
    (case l_w_of_kink => k_is)
    (case c_w_of_kink => k_is)
    (case k_w_of_kink => k_is)
    (case a_w_of_power => k_is)
    (case l_w_of_power => k_is)
    (case c_w_of_power => k_is)
    (case k_w_of_power => k_is)
    (case a_w_no_right => k_is)
    (case l_w_no_right => k_is)
    (case c_w_no_right => k_is)
    (case k_w_no_right => k_is)
    (case a_w_factor => k_is)
    (case l_w_factor => k_is)
    (case c_w_factor => k_is)
    (case k_w_factor => k_is)
    (case a_w_order => k_is)
    (case l_w_order => k_is)
    (case c_w_order => k_is)
    (case k_w_order => k_is)
    (case a_w_spot => k_is)
    (case l_w_spot => k_is)
    (case c_w_spot => k_is)
    (case k_w_spot => k_is)
    (case a_w_stretch => k_is)
    (case l_w_stretch => k_is)
    (case c_w_stretch => k_is)
    (case k_w_stretch => k_is)
    (case a_w_rule => k_is)
    (case l_w_rule => k_is)
    (case c_w_rule => k_is)
    (case k_w_rule => k_is)
    (case a_w_seed => k_is)
    (case l_w_seed => k_is)
    (case c_w_seed => k_is)
    (case k_w_seed => k_is)
    (case a_is_power => k_is)
    (case l_is_power => k_is)
    (case c_is_power => k_is)
    (case k_is_power => k_is)
    (case a_is_within => k_is)
    (case l_is_within => k_is)
    (case c_is_within => k_is)
    (case k_is_within => k_is)
    (case a_quotient => k_is)
    (case l_quotient => k_is)
    (case c_quotient => k_is)
    (case k_quotient => k_is)
    (case a_area_powers => k_is)
    (case l_area_powers => k_is)
    (case c_area_powers => k_is)
    (case k_area_powers => k_is)
    (case a_less_by => k_is)
    (case l_less_by => k_is)
    (case c_less_by => k_is)
    (case k_less_by => k_is)
    (case a_multiplied => k_is)
    (case l_multiplied => k_is)
    (case c_multiplied => k_is)
    (case k_multiplied => k_is)
    (case a_value_at => k_is)
    (case l_value_at => k_is)
    (case c_value_at => k_is)
    (case k_value_at => k_is)
    (case a_told => k_is)
    (case l_told => k_is)
    (case c_told => k_is)
    (case k_told => k_is)
    (case a_told_between => k_is)
    (case l_told_between => k_is)
    (case c_told_between => k_is)
    (case k_told_between => k_is)
    (case a_powered => k_is)
    (case l_powered => k_is)
    (case c_powered => k_is)
    (case k_powered => k_is)
    (case a_told_kink => k_is)
    (case l_told_kink => k_is)
    (case c_told_kink => k_is)
    (case k_told_kink => k_is)
    (case a_number_told => k_is)
    (case l_number_told => k_is)
    (case c_number_told => k_is)
    (case k_number_told => k_is)
    (case a_refuting_holds => k_is)
    (case l_refuting_holds => k_is)
    (case c_refuting_holds => k_is)
    (case k_refuting_holds => k_is)
    (case a_law => k_is)
    (case l_law => k_is)
    (case c_law => k_is)
    (case k_law => k_is)
    (case is1_Rule => k_is)
    (case is2_Rule => k_is)
    (case is3_Rule => k_is)
    (case is4_Rule => k_is)
    (case is5_Rule => kit_is)
    (case ut0_Rule => kit_is)
    (case ut1_Rule => kit_is)
    (case ut2_Rule => kit_is)
    (case ut3_Rule => kit_is)
    (case ut4_Rule => kit_is)
    (case a_NOUGHT => k_is)
    (case l_NOUGHT => k_is)
    (case a_ONE => k_is)
    (case l_ONE => k_is)
    (case z_abs => k_is)
    (case z_all => k_is)
    (case z_bool => k_is)
    (case z_enumerate => k_is)
    (case z_int => k_is)
    (case z_isinstance => k_is)
    (case z_len => k_is)
    (case z_list => k_is)
    (case z_max => k_is)
    (case z_min => k_is)
    (case z_range => k_is)
    (case z_sorted => k_is)
    (case z_str => k_is)
    (case z_tuple => k_is)
    (case z_zip => k_is)
    (case t_Rule_init => k_is)
    (case td_Rule_init => rfl)
    (case v_Rule_init => exact ⟨[.ref _, .ref _], (.cons rfl (.cons rfl .nil)), fun _ => (.cons (.tup (.inr ⟨_, #[], _, (by k_is), rfl, rfl, by decide, .nil⟩) .nil) (.cons (.tup (.inr ⟨_, #[], _, (by k_is), rfl, rfl, by decide, .nil⟩) .nil) .nil))⟩)
    (case v_NOUGHT => exact ⟨by decide, [.int (0), .int (1)], .cons ⟨_, rfl⟩ (.cons ⟨_, rfl⟩ (.nil)), fun _ => .cons (.int _) (.cons (.int _) (.nil))⟩)
    (case v_ONE => exact ⟨by decide, [.int (1), .int (1)], .cons ⟨_, rfl⟩ (.cons ⟨_, rfl⟩ (.nil)), fun _ => .cons (.int _) (.cons (.int _) (.nil))⟩)
