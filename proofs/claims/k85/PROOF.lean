import PyProof.Rows.All
import Wide.All
import OpenK.AllK
import Wide.FinOn
import HandS.ForMost
import HandS.IsInst
import HandS.Wide
import HandS.Flow
import HandS.Style
import HandS.RaiseMore
import KE.GoesEnum
import HandS.Codes
import KE.KOpsOwn
import KE.KCallOwn
import KE.KFmtOwn
import HandS.SlotsOwn
import HandS.TupAny
import HandS.Star
import HandS.FStr
import HandS.Text
import HandS.Comp
import HandS.Replace
import HandS.SortRule
import HandS.SortInts
import HandS.Defaults
import HandS.MakeKw
import HandS.Strs
import HandS.SetFor
import HandS.TupMul
import HandS.Deep
import PyProof.StrBlock2
import KE.KDictZip
import KE.KTurns
import HandS.Conv
import HandS.Property
import KE.KDictList
import KE.RegKIsAll
import PySem.Challenge.RW_bendkinds_k85_whole_cones_of_rows
set_option Elab.async false
set_option linter.all false
set_option maxRecDepth 100000
set_option maxHeartbeats 4000000
namespace Bk
open PySem L2
inductive D where
  | non | bl (b : Bool) | int (i : Int) | str (x : PySem.Str)
  | lst (xs : List D) | frz (xs : List D) | tup (xs : List D) | obj (c : Nat) (xs : List D) | ty (n : String) | cl (c : Nat) | dic (ks : List PySem.Str) (xs : List D)
def cName : Nat → PySem.Str
  | 0 => "Rule" | 1 => "Part" | 2 => "Live" | 3 => "Block" | 4 => "Desk" | _ => "Table"
def cAttrs : Nat → List PySem.Str
  | 0 => ["low", "high", "weights", "shares"]
  | 1 => ["start", "end", "powers", "whole", "least_high", "most_high"]
  | 2 => ["past"] | 3 => ["live", "kept"] | 4 => ["kept"]
  | _ => ["many", "size", "signs", "lines", "base"]
/-- the class of that number stands at C -/
def CAt (K : PySem.W.Frag) (c : Nat) (C : Addr) : Prop := PySem.W.nsIn K mainGlobals (cName c) = some (some (.ref C))
theorem CAt.eq {K : PySem.W.Frag} {c : Nat} {C C' : Addr} (h : CAt K c C) (h' : CAt K c C') : C = C' := by
  unfold CAt at h h'
  rw [h] at h'
  cases h'
  rfl
mutual
inductive DR (K : PySem.W.Frag) (H : Hp) : V → D → Prop
  | non : DR K H .non .non
  | bl (b : Bool) : DR K H (.bl b) (.bl b)
  | int (i : Int) : DR K H (.int i) (.int i)
  | str (x : PySem.Str) : DR K H (.str x) (.str x)
  | lst {a : Addr} {xs : List V} {ds : List D} : H a = some (.lst xs) → DRs K H xs ds → DR K H (.ref a) (.lst ds)
  | frz {a : Addr} {xs : List V} {ds : List D} : SqL K H a xs → DRs K H xs ds → DR K H (.ref a) (.frz ds)
  | tup {a : Addr} {xs : List V} {ds : List D} : SqT K H a xs → DRs K H xs ds → DR K H (.ref a) (.tup ds)
  | obj {a C dx : Addr} {c : Nat} {fs : List (PySem.Str × V)} {vs : List V} {ds : List D} : CAt K c C → H a = some (.ins C dx fs) → fs.map (·.1) = (cAttrs c).take ds.length → fs.map (·.2) = vs → DRs K H vs ds → DR K H (.ref a) (.obj c ds)
  | ty (n : String) : DR K H (.ty n) (.ty n)
  | cl {c : Nat} {C : Addr} : CAt K c C → DR K H (.ref C) (.cl c)
  | dic {a : Addr} {ks : List PySem.Str} {vs : List V} {ds : List D} : Rd H a (.dK ((ks.map Sum.inr).zip vs)) → DRs K H vs ds → ks.length = vs.length → DR K H (.ref a) (.dic ks ds)
inductive DRs (K : PySem.W.Frag) (H : Hp) : List V → List D → Prop
  | nil : DRs K H [] []
  | cons {v : V} {vs : List V} {d : D} {ds : List D} : DR K H v d → DRs K H vs ds → DRs K H (v :: vs) (d :: ds)
end
theorem same_rd {H H' : Hp} (e : Same H H') {a : Addr} {u : HO} (r : Rd H a u) : Rd H' a u := by
  cases r with
  | inl h => exact .inl (e _ _ h)
  | inr h =>
    obtain ⟨o, h⟩ := h
    exact .inr ⟨o, e _ _ h⟩
theorem same_tup {K : PySem.W.Frag} {H H' : Hp} (e : Same H H') {a : Addr} {xs : List V} (h : SqT K H a xs) : SqT K H' a xs := by
  cases h with
  | inl h => exact .inl (same_rd e h)
  | inr h => exact .inr h
theorem same_lst {K : PySem.W.Frag} {H H' : Hp} (e : Same H H') {a : Addr} {xs : List V} (h : SqL K H a xs) : SqL K H' a xs := by
  cases h with
  | inl h => exact .inl (same_rd e h)
  | inr h => exact .inr h
mutual
theorem DR.mono {K : PySem.W.Frag} {H H' : Hp} (e : Same H H') : ∀ {v : V} {d : D}, DR K H v d → DR K H' v d
  | _, _, .non => .non
  | _, _, .bl b => .bl b
  | _, _, .int i => .int i
  | _, _, .str x => .str x
  | _, _, .lst h hs => .lst (e _ _ h) (DRs.mono e hs)
  | _, _, .frz h hs => .frz (same_lst e h) (DRs.mono e hs)
  | _, _, .tup h hs => .tup (same_tup e h) (DRs.mono e hs)
  | _, _, .obj c h h1 h2 hs => .obj c (e _ _ h) h1 h2 (DRs.mono e hs)
  | _, _, .ty n => .ty n
  | _, _, .cl c => .cl c
  | _, _, .dic h hs hl => .dic (same_rd e h) (DRs.mono e hs) hl
theorem DRs.mono {K : PySem.W.Frag} {H H' : Hp} (e : Same H H') : ∀ {vs : List V} {ds : List D}, DRs K H vs ds → DRs K H' vs ds
  | _, _, .nil => .nil
  | _, _, .cons h hs => .cons (DR.mono e h) (DRs.mono e hs)
end
section
variable {K : PySem.W.Frag} {H : Hp}
theorem DRs.len : ∀ {vs : List V} {ds : List D}, DRs K H vs ds → vs.length = ds.length
  | _, _, .nil => rfl
  | _, _, .cons _ hs => congrArg Nat.succ (DRs.len hs)
theorem DRs.at : ∀ {vs : List V} {ds : List D} {i : Nat} {d : D}, DRs K H vs ds → ds[i]? = some d → ∃ v, vs[i]? = some v ∧ DR K H v d
  | _, _, _, _, .nil, e => by simp at e
  | _, _, 0, _, .cons h _, e => by simp at e; subst e; exact ⟨_, rfl, h⟩
  | _, _, i + 1, _, .cons _ hs, e => by
    obtain ⟨v, h1, h2⟩ := DRs.at (i := i) hs (by simpa using e)
    exact ⟨v, by simpa using h1, h2⟩
theorem DRs.ta : ∀ {vs : List V} {ds : List D} {i : Nat} {v : V}, DRs K H vs ds → vs[i]? = some v → ∃ d, ds[i]? = some d ∧ DR K H v d
  | _, _, _, _, .nil, e => by simp at e
  | _, _, 0, _, .cons h _, e => by simp at e; subst e; exact ⟨_, rfl, h⟩
  | _, _, i + 1, _, .cons _ hs, e => by
    obtain ⟨v, h1, h2⟩ := DRs.ta (i := i) hs (by simpa using e)
    exact ⟨v, by simpa using h1, h2⟩
theorem DRs.app : ∀ {vs ws : List V} {ds es : List D}, DRs K H vs ds → DRs K H ws es → DRs K H (vs ++ ws) (ds ++ es)
  | _, _, _, _, .nil, h => h
  | _, _, _, _, .cons a t, h => .cons a (DRs.app t h)
theorem DRs.drop : ∀ {vs : List V} {ds : List D} (n : Nat), DRs K H vs ds → DRs K H (vs.drop n) (ds.drop n)
  | _, _, 0, h => h
  | _, _, _ + 1, .nil => .nil
  | _, _, n + 1, .cons _ t => DRs.drop n t
theorem DRs.take : ∀ {vs : List V} {ds : List D} (n : Nat), DRs K H vs ds → DRs K H (vs.take n) (ds.take n)
  | _, _, 0, _ => .nil
  | _, _, _ + 1, .nil => .nil
  | _, _, n + 1, .cons a t => .cons a (DRs.take n t)
theorem DRs.set {v : V} {d : D} (h : DR K H v d) : ∀ {vs : List V} {ds : List D} (i : Nat), DRs K H vs ds → DRs K H (vs.set i v) (ds.set i d)
  | _, _, _, .nil => .nil
  | _, _, 0, .cons _ t => .cons h t
  | _, _, i + 1, .cons a t => .cons a (DRs.set h i t)
theorem DRs.rep {vs : List V} {ds : List D} (h : DRs K H vs ds) : ∀ k : Nat, DRs K H (List.replicate k vs).flatten (List.replicate k ds).flatten
  | 0 => .nil
  | k + 1 => by
    rw [List.replicate_succ, List.replicate_succ, List.flatten_cons, List.flatten_cons]
    exact DRs.app h (DRs.rep h k)
theorem DRs.ints : ∀ (ns : List Int), DRs K H (ns.map V.int) (ns.map D.int)
  | [] => .nil
  | n :: ns => .cons (.int n) (DRs.ints ns)
end
/-- what may change: a list, an instance -/
inductive Mob where
  | l (ds : List D) | o (c : Nat) (ds : List D)
def Mob.d : Mob → D
  | .l ds => .lst ds
  | .o c ds => .obj c ds
inductive Ent where
  | un | im (d : D) | ow (m : Mob) | bx (m : Mob)
def Ent.mu : Ent → Option Mob
  | .ow m => some m
  | .bx m => some m
  | _ => none
abbrev Gam := List Ent
inductive R where
  | im (d : D) | ow (m : Mob)
abbrev R.ol (ds : List D) : R := .ow (.l ds)
abbrev Ent.ol (ds : List D) : Ent := .ow (.l ds)
abbrev Ent.bl (ds : List D) : Ent := .bx (.l ds)
def R.d : R → D
  | .im d => d
  | .ow m => m.d
def R.ent : R → Ent
  | .im d => .im d
  | .ow m => .ow m
abbrev M (α : Type) := Gam → Option (α × Gam)
/-- the object at an address is that thing -/
def MobO (K : PySem.W.Frag) (Hs : Hp) : Mob → HO → Prop
  | .l ds, o => ∃ vs, o = .lst vs ∧ DRs K Hs vs ds
  | .o c ds, o => ∃ C dx fs, CAt K c C ∧ o = .ins C dx fs ∧ fs.map (·.1) = (cAttrs c).take ds.length ∧ DRs K Hs (fs.map (·.2)) ds
theorem MobO.mono {K : PySem.W.Frag} {H H' : Hp} (e : Same H H') {m : Mob} {o : HO} (h : MobO K H m o) : MobO K H' m o := by
  cases m with
  | l ds =>
    obtain ⟨vs, h1, h2⟩ := h
    exact ⟨vs, h1, h2.mono e⟩
  | o c ds =>
    obtain ⟨C, dx, fs, h1, h2, h3, h4⟩ := h
    exact ⟨C, dx, fs, h1, h2, h3, h4.mono e⟩
theorem MobO.dr {K : PySem.W.Frag} {H : Hp} {m : Mob} {o : HO} {a : Addr} (h : MobO K H m o) (ha : H a = some o) : DR K H (.ref a) m.d := by
  cases m with
  | l ds =>
    obtain ⟨vs, rfl, h2⟩ := h
    exact .lst ha h2
  | o c ds =>
    obtain ⟨C, dx, fs, h1, rfl, h3, h4⟩ := h
    exact .obj h1 ha h3 rfl h4
structure Rel (K : PySem.W.Frag) (Fz : Hp) (ba : Nat → Addr) (G : Gam) (σ : L2.St) (H Hs : Hp) : Prop where
  sub : Same Hs H
  fz : ∀ a o, Fz a = some o → H a = some o ∧ Hs a = none
  len : σ.length = G.length
  im : ∀ (i : Nat) (d : D), G[i]? = some (.im d) → ∃ v, σ[i]? = some (some v) ∧ DR K Hs v d
  mu : ∀ (i : Nat) (e : Ent) (m : Mob), G[i]? = some e → e.mu = some m → ∃ l o, σ[i]? = some (some (.ref l)) ∧ H l = some o ∧ Hs l = none ∧ Fz l = none ∧ MobO K Hs m o
  dj : ∀ (i j : Nat) (e e' : Ent) (l : Addr), G[i]? = some e → G[j]? = some e' → e.mu ≠ none → e'.mu ≠ none → σ[i]? = some (some (.ref l)) → σ[j]? = some (some (.ref l)) → i = j
  bx : ∀ (i : Nat) (m : Mob), G[i]? = some (.bx m) → σ[i]? = some (some (.ref (ba i)))
/-- more was laid, nothing that stood was touched; what is hidden stays hidden -/
structure Ext (H Hs H' Hs' : Hp) : Prop where
  a : Same H H'
  b : Same Hs Hs'
  c : Same Hs' H'
  n : ∀ x o, H x = some o → Hs x = none → Hs' x = none
theorem Ext.refl {H Hs : Hp} (s : Same Hs H) : Ext H Hs H Hs := ⟨Same.refl _, Same.refl _, s, fun _ _ _ h => h⟩
theorem Ext.trans {H Hs H1 Hs1 H2 Hs2 : Hp} (p : Ext H Hs H1 Hs1) (q : Ext H1 Hs1 H2 Hs2) : Ext H Hs H2 Hs2 :=
  ⟨p.a.trans q.a, p.b.trans q.b, q.c, fun x o h1 h2 => q.n x o (p.a x o h1) (p.n x o h1 h2)⟩
theorem same_new {H : Hp} {p : Addr} {o : HO} (h : H p = none) : Same H (upd H p o) := fun a u e => by
  rw [upd_ne (ne_of_none e h)]
  exact e
theorem none_sub {Hs H : Hp} (s : Same Hs H) {p : Addr} (h : H p = none) : Hs p = none := s.free h
theorem same_upd2 {Hs H : Hp} (s : Same Hs H) {p : Addr} {o : HO} : Same (upd Hs p o) (upd H p o) := fun a u e => by
  by_cases z : a = p
  · subst z
    rw [upd_same] at e ⊢
    exact e
  · rw [upd_ne z] at e ⊢
    exact s a u e
theorem Ext.new {H Hs : Hp} {p : Addr} {o : HO} (s : Same Hs H) (h : H p = none) : Ext H Hs (upd H p o) (upd Hs p o) :=
  ⟨same_new h, same_new (none_sub s h), same_upd2 s, fun x u h1 h2 => by rw [upd_ne (ne_of_none h1 h)]; exact h2⟩
theorem Ext.hid {H Hs : Hp} {p : Addr} {o : HO} (s : Same Hs H) (h : H p = none) : Ext H Hs (upd H p o) Hs :=
  ⟨same_new h, Same.refl _, s.trans (same_new h), fun x u _ h2 => h2⟩
section
variable {K : PySem.W.Frag} {Fz : Hp} {ba : Nat → Addr} {G : Gam} {σ : L2.St} {H Hs H' Hs' : Hp}
theorem Rel.ext (r : Rel K Fz ba G σ H Hs) (e : Ext H Hs H' Hs') : Rel K Fz ba G σ H' Hs' where
  sub := e.c
  fz := fun a o h => let ⟨h1, h2⟩ := r.fz a o h; ⟨e.a a o h1, e.n a o h1 h2⟩
  len := r.len
  im := fun i d h => let ⟨v, h1, h2⟩ := r.im i d h; ⟨v, h1, h2.mono e.b⟩
  mu := fun i en ds h h0 => let ⟨l, vs, h1, h2, h3, h4, h5⟩ := r.mu i en ds h h0; ⟨l, vs, h1, e.a l _ h2, e.n l _ h2 h3, h4, h5.mono e.b⟩
  dj := r.dj
  bx := r.bx
def Res (K : PySem.W.Frag) (Fz : Hp) (G : Gam) (σ : L2.St) (H Hs : Hp) (v : V) : R → Prop
  | .im d => DR K Hs v d
  | .ow m => ∃ p o, v = .ref p ∧ H p = some o ∧ Hs p = none ∧ Fz p = none ∧ MobO K Hs m o ∧ ∀ (i : Nat) (e : Ent), G[i]? = some e → e.mu ≠ none → σ[i]? ≠ some (some (.ref p))
/-- an owned object becomes a shared one -/
theorem Rel.froze (r : Rel K Fz ba G σ H Hs) {p : Addr} {o : HO} (h : H p = some o) (hs : Hs p = none) (hf : Fz p = none) (hn : ∀ (i : Nat) (e : Ent), G[i]? = some e → e.mu ≠ none → σ[i]? ≠ some (some (.ref p))) :
    Rel K Fz ba G σ H (upd Hs p o) ∧ Same Hs (upd Hs p o) := by
  have sm : Same Hs (upd Hs p o) := same_new hs
  refine ⟨⟨fun a u e => ?_, fun a u e => ?_, r.len, fun i d e => ?_, fun i en ds e e0 => ?_, r.dj, r.bx⟩, sm⟩
  · by_cases z : a = p
    · subst z
      rw [upd_same] at e
      rw [h]
      exact e
    · rw [upd_ne z] at e
      exact r.sub a u e
  · obtain ⟨h1, h2⟩ := r.fz a u e
    refine ⟨h1, ?_⟩
    rw [upd_ne (ne_of_none e hf)]
    exact h2
  · obtain ⟨v, h1, h2⟩ := r.im i d e
    exact ⟨v, h1, h2.mono sm⟩
  · obtain ⟨l, vs, h1, h2, h3, h4, h5⟩ := r.mu i en ds e e0
    refine ⟨l, vs, h1, h2, ?_, h4, h5.mono sm⟩
    have z : l ≠ p := by
      intro z
      subst z
      exact hn i en e (by rw [e0]; simp) h1
    rw [upd_ne z]
    exact h3
theorem Rel.fzr (r : Rel K Fz ba G σ H Hs) {v : V} {x : R} (h : Res K Fz G σ H Hs v x) : ∃ Hs', Rel K Fz ba G σ H Hs' ∧ Same Hs Hs' ∧ DR K Hs' v x.d := by
  cases x with
  | im d => exact ⟨Hs, r, Same.refl _, h⟩
  | ow ds =>
    obtain ⟨p, vs, rfl, h1, h2, h3, h4, h5⟩ := h
    obtain ⟨q1, q2⟩ := r.froze h1 h2 h3 h5
    exact ⟨_, q1, q2, (h4.mono q2).dr upd_same⟩
theorem get_set {α : Type} {l : List α} {i j : Nat} {a b : α} (h : (l.set i a)[j]? = some b) : (i = j ∧ b = a ∧ i < l.length) ∨ (i ≠ j ∧ l[j]? = some b) := by
  by_cases z : i = j
  · subst z
    by_cases hi : i < l.length
    · rw [List.getElem?_set_self hi] at h
      cases h
      exact .inl ⟨rfl, rfl, hi⟩
    · rw [List.getElem?_eq_none (by simp; omega)] at h
      cases h
  · rw [List.getElem?_set_ne z] at h
    exact .inr ⟨z, h⟩
/-- a name is stored -/
theorem Rel.set (r : Rel K Fz ba G σ H Hs) {i : Nat} {v : V} {x : R} (h : Res K Fz G σ H Hs v x) : Rel K Fz ba (G.set i x.ent) (σ.set i (some v)) H Hs where
  sub := r.sub
  fz := r.fz
  len := by rw [List.length_set, List.length_set]; exact r.len
  im := fun j d e => by
    rcases get_set e with ⟨rfl, e1, hi⟩ | ⟨z, e1⟩
    · refine ⟨v, by rw [List.getElem?_set_self (by rw [r.len]; exact hi)], ?_⟩
      cases x with
      | im d' => cases e1; exact h
      | ow ds => cases e1
    · obtain ⟨v', h1, h2⟩ := r.im j d e1
      exact ⟨v', by rw [List.getElem?_set_ne z]; exact h1, h2⟩
  mu := fun j en ds e e0 => by
    rcases get_set e with ⟨rfl, e1, hi⟩ | ⟨z, e1⟩
    · cases x with
      | im d' => subst e1; cases e0
      | ow ds' =>
        subst e1
        cases e0
        obtain ⟨p, vs, rfl, h1, h2, h3, h4, _⟩ := h
        exact ⟨p, vs, by rw [List.getElem?_set_self (by rw [r.len]; exact hi)], h1, h2, h3, h4⟩
    · obtain ⟨l, vs, h1, h2⟩ := r.mu j en ds e1 e0
      exact ⟨l, vs, by rw [List.getElem?_set_ne z]; exact h1, h2⟩
  dj := fun j k e e' l h1 h2 m1 m2 s1 s2 => by
    rcases get_set h1 with ⟨z1, e1, hi⟩ | ⟨z1, e1⟩
    · rcases get_set h2 with ⟨z2, e2, _⟩ | ⟨z2, e2⟩
      · exact z1.symm.trans z2
      · exfalso
        subst z1
        rw [List.getElem?_set_self (by rw [r.len]; exact hi)] at s1
        rw [List.getElem?_set_ne z2] at s2
        cases s1
        cases x with
        | im d' => subst e1; exact m1 rfl
        | ow ds' =>
          obtain ⟨p, vs, q, _, _, _, _, q2⟩ := h
          cases q
          exact q2 k e' e2 m2 s2
    · rcases get_set h2 with ⟨z2, e2, hi⟩ | ⟨z2, e2⟩
      · exfalso
        subst z2
        rw [List.getElem?_set_self (by rw [r.len]; exact hi)] at s2
        rw [List.getElem?_set_ne z1] at s1
        cases s2
        cases x with
        | im d' => subst e2; exact m2 rfl
        | ow ds' =>
          obtain ⟨p, vs, q, _, _, _, _, q2⟩ := h
          cases q
          exact q2 j e e1 m1 s1
      · rw [List.getElem?_set_ne z1] at s1
        rw [List.getElem?_set_ne z2] at s2
        exact r.dj j k e e' l e1 e2 m1 m2 s1 s2
  bx := fun j ds e => by
    rcases get_set e with ⟨_, e1, _⟩ | ⟨z, e1⟩
    · cases x <;> cases e1
    · rw [List.getElem?_set_ne z]
      exact r.bx j ds e1
/-- a slot is forgotten -/
theorem Rel.forget (r : Rel K Fz ba G σ H Hs) (i : Nat) : Rel K Fz ba (G.set i .un) (σ.set i none) H Hs where
  sub := r.sub
  fz := r.fz
  len := by rw [List.length_set, List.length_set]; exact r.len
  im := fun j d e => by
    rcases get_set e with ⟨_, e1, _⟩ | ⟨z, e1⟩
    · cases e1
    · rw [List.getElem?_set_ne z]
      exact r.im j d e1
  mu := fun j en ds e e0 => by
    rcases get_set e with ⟨_, e1, _⟩ | ⟨z, e1⟩
    · subst e1; cases e0
    · rw [List.getElem?_set_ne z]
      exact r.mu j en ds e1 e0
  dj := fun j k e e' l h1 h2 m1 m2 s1 s2 => by
    rcases get_set h1 with ⟨_, e1, _⟩ | ⟨z1, e1⟩
    · subst e1; exact absurd rfl m1
    · rcases get_set h2 with ⟨_, e2, _⟩ | ⟨z2, e2⟩
      · subst e2; exact absurd rfl m2
      · rw [List.getElem?_set_ne z1] at s1
        rw [List.getElem?_set_ne z2] at s2
        exact r.dj j k e e' l e1 e2 m1 m2 s1 s2
  bx := fun j ds e => by
    rcases get_set e with ⟨_, e1, _⟩ | ⟨z, e1⟩
    · cases e1
    · rw [List.getElem?_set_ne z]
      exact r.bx j ds e1
end
def GOk (K : PySem.W.Frag) (t : TE) (f : M R) : Prop := ∀ Fz ba G σ H Hs r G', Rel K Fz ba G σ H Hs → f G = some (r, G') →
  ∀ Q : VK, (∀ v H' Hs', Rel K Fz ba G' σ H' Hs' → Same Hs Hs' → Res K Fz G' σ H' Hs' v r → Q v H') → t σ H Q
def TOk (K : PySem.W.Frag) (t : TT) (f : M Bool) : Prop := ∀ Fz ba G σ H Hs b G', Rel K Fz ba G σ H Hs → f G = some (b, G') →
  ∀ Q : Bool → Hp → Prop, (∀ H' Hs', Rel K Fz ba G' σ H' Hs' → Same Hs Hs' → Q b H') → t σ H Q
def AOk (K : PySem.W.Frag) (t : TA) (f : M (List D)) : Prop := ∀ Fz ba G σ H Hs ds G', Rel K Fz ba G σ H Hs → f G = some (ds, G') →
  ∀ Q : List V → Hp → Prop, (∀ vs H' Hs', Rel K Fz ba G' σ H' Hs' → Same Hs Hs' → DRs K Hs' vs ds → Q vs H') → t σ H Q
inductive Fl where
  | nx | bk | ct | rt (r : R)
abbrev MS := Gam → Option (Fl × Gam)
def Post (K : PySem.W.Frag) (Fz : Hp) (ba : Nat → Addr) (G' : Gam) (Hs : Hp) (Dn : Ends) : Fl → Prop
  | .nx => ∀ σ' H' Hs', Rel K Fz ba G' σ' H' Hs' → Same Hs Hs' → Dn.nx σ' H'
  | .bk => ∀ σ' H' Hs', Rel K Fz ba G' σ' H' Hs' → Same Hs Hs' → Dn.bk σ' H'
  | .ct => ∀ σ' H' Hs', Rel K Fz ba G' σ' H' Hs' → Same Hs Hs' → Dn.ct σ' H'
  | .rt r => ∀ v σ' H' Hs', Rel K Fz ba G' σ' H' Hs' → Same Hs Hs' → Res K Fz G' σ' H' Hs' v r → Dn.rt v H'
def SOk (K : PySem.W.Frag) (t : TS) (f : MS) : Prop := ∀ Fz ba G σ H Hs fl G', Rel K Fz ba G σ H Hs → f G = some (fl, G') → ∀ Dn : Ends, Post K Fz ba G' Hs Dn fl → t Dn σ H
theorem Post.mono {K : PySem.W.Frag} {Fz : Hp} {ba : Nat → Addr} {G' : Gam} {Hs Hs1 : Hp} {Dn : Ends} {fl : Fl} (h : Post K Fz ba G' Hs Dn fl) (s : Same Hs Hs1) : Post K Fz ba G' Hs1 Dn fl := by
  cases fl with
  | nx => exact fun σ' H' Hs' r q => h σ' H' Hs' r (s.trans q)
  | bk => exact fun σ' H' Hs' r q => h σ' H' Hs' r (s.trans q)
  | ct => exact fun σ' H' Hs' r q => h σ' H' Hs' r (s.trans q)
  | rt x => exact fun v σ' H' Hs' r q => h v σ' H' Hs' r (s.trans q)
/-- a target: which slots it writes -/
structure GtOk (K : PySem.W.Frag) (g : TG) (f : D → Gam → Option Gam) (js : List Nat) : Prop where
  run : ∀ Fz ba G σ H Hs v d G', Rel K Fz ba G σ H Hs → DR K Hs v d → f d G = some G' → ∀ Q : L2.St → Hp → Prop, (∀ σ', Rel K Fz ba G' σ' H Hs → σ'.length = σ.length → (∀ i : Nat, i ∉ js → σ'[i]? = σ[i]?) → Q σ' H) → g v σ H Q
/-- an iterator gives the items ds -/
structure Yl (K : PySem.W.Frag) (J : It) (ds : List D) (Hs0 : Hp) : Prop where
  go : ∀ i H, Same Hs0 H → i < ds.length → J.go i H
  stop : ∀ i H, Same Hs0 H → ds.length ≤ i → J.stop i H
  yld : ∀ i x H H' Hs, i < ds.length → Same Hs0 Hs → Same Hs H → J.yld i H x H' → ∃ d Hs', ds[i]? = some d ∧ Ext H Hs H' Hs' ∧ DR K Hs' x d
def IOk (K : PySem.W.Frag) (w : TI) (f : M (List D)) : Prop := ∀ Fz ba G σ H Hs ds G', Rel K Fz ba G σ H Hs → f G = some (ds, G') →
  ∀ Q : It → Hp → Prop, (∀ J H' Hs', Rel K Fz ba G' σ H' Hs' → Same Hs Hs' → Yl K J ds Hs' → Q J H') → w σ H Q
/-- a result that was laid behind H -/
def ResF (K : PySem.W.Frag) (H H' Hs' : Hp) (v : V) : R → Prop
  | .im d => DR K Hs' v d
  | .ow m => ∃ p o, v = .ref p ∧ H p = none ∧ H' p = some o ∧ Hs' p = none ∧ MobO K Hs' m o
theorem ResF.res {K : PySem.W.Frag} {Fz : Hp} {ba : Nat → Addr} {G : Gam} {σ : L2.St} {H Hs H' Hs' : Hp} {v : V} {x : R} (r : Rel K Fz ba G σ H Hs) (h : ResF K H H' Hs' v x) : Res K Fz G σ H' Hs' v x := by
  cases x with
  | im d => exact h
  | ow ds =>
    obtain ⟨p, vs, rfl, h1, h2, h3, h4⟩ := h
    refine ⟨p, vs, rfl, h2, h3, ?_, h4, fun i e g m q => ?_⟩
    · cases z : Fz p with
      | none => rfl
      | some o =>
        obtain ⟨z1, _⟩ := r.fz p o z
        rw [h1] at z1
        cases z1
    · obtain ⟨ds', hd⟩ : ∃ ds', e.mu = some ds' := by
        cases z : e.mu with
        | none => exact absurd z m
        | some ds' => exact ⟨ds', rfl⟩
      obtain ⟨l, ws, q1, q2, _⟩ := r.mu i e ds' g hd
      rw [q] at q1
      cases q1
      rw [h1] at q2
      cases q2
end Bk
namespace Bk
open PySem L2
def bd {α β : Type} (x : Option (α × Gam)) (f : α → Gam → Option β) : Option β := match x with
  | none => none
  | some (a, G) => f a G
@[simp] theorem bd_none {α β : Type} {f : α → Gam → Option β} : bd (none : Option (α × Gam)) f = none := rfl
@[simp] theorem bd_some {α β : Type} {a : α} {G : Gam} {f : α → Gam → Option β} : bd (some (a, G)) f = f a G := rfl
theorem bd_inv {α β : Type} {x : Option (α × Gam)} {f : α → Gam → Option β} {r : β} (h : bd x f = some r) : ∃ a G, x = some (a, G) ∧ f a G = some r := by
  cases x with
  | none => cases h
  | some p => exact ⟨p.1, p.2, rfl, h⟩
def xv (i : Nat) : M R := fun G => match G[i]? with
  | some (.im d) => some (.im d, G)
  | some (.ow m) => some (.im m.d, G.set i (.im m.d))
  | _ => none
/-- the name's list, which the name gives away -/
def xmv (i : Nat) : M R := fun G => match G[i]? with
  | some (.im d) => some (.im d, G)
  | some (.ow m) => some (.ow m, G.set i .un)
  | _ => none
def xc (d : D) : M R := fun G => some (.im d, G)
def xop (o : D → D → Option R) (a b : M R) : M R := fun G => bd (a G) fun x G1 => bd (b G1) fun y G2 => match o x.d y.d with
  | none => none
  | some r => some (r, G2)
def xun (o : D → Option R) (a : M R) : M R := fun G => bd (a G) fun x G1 => match o x.d with
  | none => none
  | some r => some (r, G1)
def xnil : M (List D) := fun G => some ([], G)
def xcons (a : M R) (r : M (List D)) : M (List D) := fun G => bd (a G) fun x G1 => bd (r G1) fun xs G2 => some (x.d :: xs, G2)
def xcb (o : List D → Option R) (a : M (List D)) : M R := fun G => bd (a G) fun xs G1 => match o xs with
  | none => none
  | some r => some (r, G1)
def few (n : Nat) : Bool := decide (n ≤ 16000000)
def xtup (a : M (List D)) : M R := fun G => bd (a G) fun xs G1 => if few xs.length then some (.im (.tup xs), G1) else none
def xlst (a : M (List D)) : M R := fun G => bd (a G) fun xs G1 => if few xs.length then some (.ol xs, G1) else none
def xif (t : M Bool) (a b : M R) : M R := fun G => bd (t G) fun k G1 => if k then a G1 else b G1
def xtest (a : M R) : M Bool := fun G => bd (a G) fun x G1 => match x.d with
  | .bl b => some (b, G1)
  | _ => none
def truth : D → Option Bool
  | .non => some false
  | .bl b => some b
  | .int i => some (i != 0)
  | .str x => if few x.length then some ((x.length : Int) != 0) else none
  | .lst xs => some (!xs.isEmpty)
  | .frz xs => some (!xs.isEmpty)
  | .tup xs => some (!xs.isEmpty)
  | _ => none
def xtru (a : M R) : M Bool := fun G => bd (a G) fun x G1 => match truth x.d with
  | some b => some (b, G1)
  | none => none
def xtand (a b : M Bool) : M Bool := fun G => bd (a G) fun k G1 => if k then b G1 else some (false, G1)
def xtor (a b : M Bool) : M Bool := fun G => bd (a G) fun k G1 => if k then some (true, G1) else b G1
def xtnot (a : M Bool) : M Bool := fun G => bd (a G) fun k G1 => some (!k, G1)
def xtyes : M Bool := fun G => some (true, G)
def xvand (a b : M R) : M R := fun G => bd (a G) fun x G1 => match x.d with
  | .bl k => if k then b G1 else some (.im (.bl false), G1)
  | _ => none
def xvor (a b : M R) : M R := fun G => bd (a G) fun x G1 => match x.d with
  | .bl k => if k then some (.im (.bl true), G1) else b G1
  | _ => none
def xvnot (a : M R) : M R := fun G => bd (a G) fun x G1 => match x.d with
  | .bl k => some (.im (.bl (!k)), G1)
  | _ => none
def xchain (o o' : D → D → Option R) (a b c : M R) : M R := fun G => bd (a G) fun x G1 => bd (b G1) fun y G2 => match o x.d y.d with
  | some (.im (.bl k)) => if k then bd (c G2) fun z G3 => (match o' y.d z.d with | some r => some (r, G3) | none => none) else some (.im (.bl false), G2)
  | _ => none
/-- a slice's part -/
abbrev MO := M (Option Int)
def xnop : MO := fun G => some (none, G)
def xpart (a : M R) : MO := fun G => bd (a G) fun x G1 => match x.d with
  | .int i => some (some i, G1)
  | _ => none
def xsl (o : D → Option Int → Option Int → Option R) (a : M R) (l h : MO) : M R := fun G => bd (a G) fun x G1 => bd (l G1) fun i G2 => bd (h G2) fun j G3 => match o x.d i j with
  | some r => some (r, G3)
  | none => none
def xcall (m : List D → Option R) (a : M (List D)) : M R := fun G => bd (a G) fun xs G1 => match m xs with
  | some r => some (r, G1)
  | none => none
def Ent.with (e : Ent) (m : Mob) : Ent := match e with
  | .ow _ => .ow m
  | .bx _ => .bx m
  | e => e
/-- a call that may change the list of the name at i -/
def isMu (G : Gam) (i : Nat) : Bool := match G[i]? with
  | some e => e.mu.isSome
  | none => false
def isLst (G : Gam) (i : Nat) : Bool := match G[i]? with
  | some e => match e.mu with
    | some (.l _) => true
    | _ => false
  | none => false
def callB (m : Mob → List D → Option (R × Mob)) (i : Nat) (xs : List D) (G1 : Gam) : Option (R × Gam) := match G1[i]? with
  | some e => match e.mu with
    | some bs => match m bs xs with
      | some (r, bs') => some (r, G1.set i (e.with bs'))
      | none => none
    | none => none
  | none => none
def xcallB (m : Mob → List D → Option (R × Mob)) (i : Nat) (a : M (List D)) : M R := fun G => if isMu G i then bd (a G) fun xs G1 => callB m i xs G1 else none
/-- an item of the name's list at i, a number -/
def ixv (i : Nat) (y : D) (G1 : Gam) : Option (R × Gam) := match y, G1[i]? with
  | .int k, some e => match e.mu with
    | some (.l ds) => match atI ds k with
      | some d => some (.im d, G1)
      | none => none
    | _ => none
  | _, _ => none
def xixv (i : Nat) (b : M R) : M R := fun G => if isMu G i then bd (b G) fun y G1 => ixv i y.d G1 else none
/-- one way for a name that owns a list, another for a name that holds a value -/
def xby (i : Nat) (a b : M R) : M R := fun G => if isMu G i then a G else b G
def xnext : MS := fun G => some (.nx, G)
def xseq (s t : MS) : MS := fun G => match s G with
  | some (.nx, G1) => t G1
  | o => o
def xasg (a : M R) (tg : D → Gam → Option Gam) : MS := fun G => bd (a G) fun x G1 => match tg x.d G1 with
  | some G2 => some (.nx, G2)
  | none => none
def xset (i : Nat) (a : M R) : MS := fun G => bd (a G) fun x G1 => some (.nx, G1.set i x.ent)
def xaug (i : Nat) (o : D → D → Option R) (a : M R) : MS := fun G => match G[i]? with
  | some (.im x) => bd (a G) fun y G1 => match o x y.d with
    | some r => some (.nx, G1.set i r.ent)
    | none => none
  | _ => none
def xret (a : M R) : MS := fun G => bd (a G) fun x G1 => some (.rt x, G1)
def xdrop (a : M R) : MS := fun G => bd (a G) fun _ G1 => some (.nx, G1)
def xifs (t : M Bool) (a b : MS) : MS := fun G => bd (t G) fun k G1 => if k then a G1 else b G1
def xnever : MS := fun _ => none
/-- the name's list grows -/
def app (i : Nat) (x : D) (G1 : Gam) : Option (Fl × Gam) := match G1[i]? with
  | some e => match e.mu with
    | some (.l ds) => if few ds.length then some (.nx, G1.set i (e.with (.l (ds ++ [x])))) else none
    | _ => none
  | none => none
def xapp (i : Nat) (a : M R) : MS := fun G => if isLst G i then bd (a G) fun x G1 => app i x.d G1 else none
/-- an item of the name's list is stored -/
def put (i : Nat) (x k : D) (G2 : Gam) : Option (Fl × Gam) := match k, G2[i]? with
  | .int k, some e => match e.mu with
    | some (.l ds) => match ixN ds.length k with
      | some j => some (.nx, G2.set i (e.with (.l (ds.set j x))))
      | none => none
    | _ => none
  | _, _ => none
def xput (i : Nat) (a b : M R) : MS := fun G => bd (a G) fun x G1 => if isMu G1 i then bd (b G1) fun k G2 => put i x.d k.d G2 else none
def xwhileN (c : M Bool) (b : MS) : Nat → MS
  | 0, _ => none
  | n + 1, G => bd (c G) fun k G1 => if k then (match b G1 with
      | some (.nx, G2) => xwhileN c b n G2
      | some (.ct, G2) => xwhileN c b n G2
      | some (.bk, G2) => some (.nx, G2)
      | some (.rt r, G2) => some (.rt r, G2)
      | none => none) else some (.nx, G1)
def xwhile (fuel : Gam → Nat) (c : M Bool) (b : MS) : MS := fun G => xwhileN c b (fuel G) G
def xforL (tg : D → Gam → Option Gam) (b : MS) : List D → MS
  | [], G => some (.nx, G)
  | d :: ds, G => match tg d G with
    | none => none
    | some G1 => match b G1 with
      | some (.nx, G2) => xforL tg b ds G2
      | some (.ct, G2) => xforL tg b ds G2
      | some (.bk, G2) => some (.nx, G2)
      | some (.rt r, G2) => some (.rt r, G2)
      | none => none
def xfor (it : M (List D)) (tg : D → Gam → Option Gam) (b : MS) : MS := fun G => bd (it G) fun ds G1 => xforL tg b ds G1
def tgn (i : Nat) : D → Gam → Option Gam := fun d G => some (G.set i (.im d))
def tgs : List (D → Gam → Option Gam) → List D → Gam → Option Gam
  | [], [], G => some G
  | t :: ts, d :: ds, G => match t d G with
    | some G1 => tgs ts ds G1
    | none => none
  | _, _, _ => none
def tgt (ts : List (D → Gam → Option Gam)) : D → Gam → Option Gam := fun d G => match d with
  | .tup ds => tgs ts ds G
  | _ => none
def wipeG (G : Gam) : List Nat → Gam
  | [] => G
  | v :: vs => (wipeG G vs).set v .un
def unw (G1 G2 : Gam) : List Nat → Gam
  | [] => G2
  | v :: vs => (unw G1 G2 vs).set v (G1.getD v .un)
def noMu (G : Gam) (vs : List Nat) : Bool := vs.all fun v => match G[v]? with
  | some e => e.mu.isNone
  | none => true
def xlcL (tg : D → Gam → Option Gam) (t : M Bool) (e : M R) (vs : List Nat) : List D → M (List D)
  | [], G => some ([], G)
  | d :: ds, G => match tg d G with
    | none => none
    | some G1 => bd (t G1) fun k G2 => if k then bd (e G2) fun x G3 => bd (xlcL tg t e vs ds (wipeG G3 vs)) fun out G4 => some (x.d :: out, G4)
        else xlcL tg t e vs ds (wipeG G2 vs)
def xlc (it : M (List D)) (tg : D → Gam → Option Gam) (t : M Bool) (e : M R) (vs : List Nat) : M R := fun G => bd (it G) fun ds G1 =>
  if noMu G1 vs then bd (xlcL tg t e vs ds (wipeG G1 vs)) fun out G2 => if few out.length then some (.ol out, unw G1 G2 vs) else none else none
def rng (lo : Int) (n : Nat) : List D := (List.range n).map fun (i : Nat) => .int (lo + (i : Int))
def okR (i : Int) : Bool := decide (-(2 ^ 62) ≤ i) && decide (i < 2 ^ 62)
def xrange1 (a : M (List D)) : M (List D) := fun G => bd (a G) fun xs G1 => match xs with
  | [.int n] => if okR n then some (rng 0 n.toNat, G1) else none
  | _ => none
def xrange2 (a : M (List D)) : M (List D) := fun G => bd (a G) fun xs G1 => match xs with
  | [.int l, .int n] => if okR l && okR n then some (rng l (n - l).toNat, G1) else none
  | _ => none
def asL : D → Option (List D)
  | .lst ds => some ds
  | .frz ds => some ds
  | _ => none
def enumD (k : Nat) : List D → List D
  | [] => []
  | d :: ds => .tup [.int (k : Int), d] :: enumD (k + 1) ds
section
variable {K : PySem.W.Frag}
theorem few_ok {n : Nat} (h : few n = true) : n ≤ sizeLine := Nat.le_trans (of_decide_eq_true h) (by decide)
theorem few_lt {n : Nat} (h : few n = true) : n < sizeLine := Nat.lt_of_le_of_lt (of_decide_eq_true h) (by decide)
/-- an expression, its value shared -/
theorem GOk.im {t : TE} {f : M R} (h : GOk K t f) {Fz : Hp} {ba : Nat → Addr} {G : Gam} {σ : L2.St} {H Hs : Hp} {r : R} {G' : Gam} (q : Rel K Fz ba G σ H Hs) (e : f G = some (r, G')) {Q : VK}
    (k : ∀ v H' Hs', Rel K Fz ba G' σ H' Hs' → Same Hs Hs' → DR K Hs' v r.d → Q v H') : t σ H Q :=
  h Fz ba G σ H Hs r G' q e Q fun v H' Hs' q' s x => by
    obtain ⟨Hs2, q2, s2, d⟩ := q'.fzr x
    exact k v H' Hs2 q2 (s.trans s2) d
theorem gk_c {v : V} {d : D} (h : ∀ H, DR K H v d) : GOk K (tC v) (xc d) := fun Fz ba G σ H Hs r G' q e Q k => by
  cases e
  exact k v H Hs q (Same.refl _) (h Hs)
theorem gk_int {i : Int} : GOk K (tC (.int i)) (xc (.int i)) := gk_c fun _ => .int i
theorem gk_bl {b : Bool} : GOk K (tC (.bl b)) (xc (.bl b)) := gk_c fun _ => .bl b
theorem gk_non : GOk K (tC .non) (xc .non) := gk_c fun _ => .non
theorem gk_str {x : PySem.Str} : GOk K (tC (.str x)) (xc (.str x)) := gk_c fun _ => .str x
theorem Rel.notmu {Fz : Hp} {ba : Nat → Addr} {G : Gam} {σ : L2.St} {H Hs : Hp} (q : Rel K Fz ba G σ H Hs) {i : Nat} {e e2 : Ent} {l : Addr} (h1 : G[i]? = some e) (m1 : e.mu ≠ none) (s1 : σ[i]? = some (some (.ref l))) :
    ∀ (j : Nat) (e' : Ent), (G.set i e2)[j]? = some e' → e2.mu = none → e'.mu ≠ none → σ[j]? ≠ some (some (.ref l)) := fun j e' h2 m0 m2 s2 => by
  rcases get_set h2 with ⟨_, e1, _⟩ | ⟨z, h3⟩
  · subst e1; exact m2 m0
  · exact z (q.dj i j e e' l h1 h3 m1 m2 s1 s2)
/-- the entry at i is another, that owns nothing -/
theorem Rel.re {Fz : Hp} {ba : Nat → Addr} {G : Gam} {σ : L2.St} {H Hs : Hp} (q : Rel K Fz ba G σ H Hs) {i : Nat} {e : Ent} (m : e.mu = none) (h : ∀ d, e = .im d → ∃ v, σ[i]? = some (some v) ∧ DR K Hs v d) : Rel K Fz ba (G.set i e) σ H Hs where
  sub := q.sub
  fz := q.fz
  len := by rw [List.length_set]; exact q.len
  im := fun j d h1 => by
    rcases get_set h1 with ⟨rfl, e1, _⟩ | ⟨z, h2⟩
    · exact h d e1.symm
    · exact q.im j d h2
  mu := fun j en ds h1 h0 => by
    rcases get_set h1 with ⟨rfl, e1, _⟩ | ⟨z, h2⟩
    · subst e1; rw [m] at h0; cases h0
    · exact q.mu j en ds h2 h0
  dj := fun j k e1 e2 l h1 h2 m1 m2 s1 s2 => by
    rcases get_set h1 with ⟨_, z1, _⟩ | ⟨z1, h1⟩
    · subst z1; exact absurd m m1
    · rcases get_set h2 with ⟨_, z2, _⟩ | ⟨z2, h2⟩
      · subst z2; exact absurd m m2
      · exact q.dj j k e1 e2 l h1 h2 m1 m2 s1 s2
  bx := fun j ds h1 => by
    rcases get_set h1 with ⟨_, e1, _⟩ | ⟨z, h2⟩
    · subst e1; cases m
    · exact q.bx j ds h2
theorem gk_var {i : Nat} : GOk K (tVar i) (xv i) := fun Fz ba G σ H Hs r G' q e Q k => by
  unfold xv at e
  cases h : G[i]? with
  | none => rw [h] at e; cases e
  | some en =>
    rw [h] at e
    cases en with
    | un => cases e
    | bx ds => cases e
    | im d =>
      cases e
      obtain ⟨v, h1, h2⟩ := q.im i d h
      exact ⟨v, h1, k v H Hs q (Same.refl _) h2⟩
    | ow ds =>
      cases e
      obtain ⟨l, vs, h1, h2, h3, h4, h5⟩ := q.mu i _ ds h rfl
      have q1 : Rel K Fz ba (G.set i .un) σ H Hs := q.re rfl fun d z => nomatch z
      obtain ⟨q2, s2⟩ := q1.froze h2 h3 h4 fun j e' g m => q.notmu h (by simp [Ent.mu]) h1 j e' g rfl m
      have q3 : Rel K Fz ba ((G.set i .un).set i (.im ds.d)) σ H (upd Hs l vs) := q2.re rfl fun d z => by
        cases z
        exact ⟨_, h1, (h5.mono s2).dr upd_same⟩
      rw [List.set_set] at q3
      exact ⟨_, h1, k _ H _ q3 s2 ((h5.mono s2).dr upd_same)⟩
theorem gk_mv {i : Nat} : GOk K (tVar i) (xmv i) := fun Fz ba G σ H Hs r G' q e Q k => by
  unfold xmv at e
  cases h : G[i]? with
  | none => rw [h] at e; cases e
  | some en =>
    rw [h] at e
    cases en with
    | un => cases e
    | bx ds => cases e
    | im d =>
      cases e
      obtain ⟨v, h1, h2⟩ := q.im i d h
      exact ⟨v, h1, k v H Hs q (Same.refl _) h2⟩
    | ow ds =>
      cases e
      obtain ⟨l, vs, h1, h2, h3, h4, h5⟩ := q.mu i _ ds h rfl
      have q1 : Rel K Fz ba (G.set i .un) σ H Hs := q.re rfl fun d z => nomatch z
      exact ⟨_, h1, k _ H Hs q1 (Same.refl _) ⟨l, vs, rfl, h2, h3, h4, h5, fun j e' g m => q.notmu h (by simp [Ent.mu]) h1 j e' g rfl m⟩⟩
def OpD (K : PySem.W.Frag) (r : R2) (o : D → D → Option R) : Prop := ∀ H Hs x y dx dy res, Same Hs H → DR K Hs x dx → DR K Hs y dy → o dx dy = some res →
  ∀ Q : VK, (∀ v H' Hs', Ext H Hs H' Hs' → ResF K H H' Hs' v res → Q v H') → r x y H Q
def UnD (K : PySem.W.Frag) (r : V → Hp → VK → Prop) (o : D → Option R) : Prop := ∀ H Hs x dx res, Same Hs H → DR K Hs x dx → o dx = some res →
  ∀ Q : VK, (∀ v H' Hs', Ext H Hs H' Hs' → ResF K H H' Hs' v res → Q v H') → r x H Q
def CbD (K : PySem.W.Frag) (r : List V → Hp → VK → Prop) (o : List D → Option R) : Prop := ∀ H Hs xs ds res, Same Hs H → DRs K Hs xs ds → o ds = some res →
  ∀ Q : VK, (∀ v H' Hs', Ext H Hs H' Hs' → ResF K H H' Hs' v res → Q v H') → r xs H Q
def SlD (K : PySem.W.Frag) (r : V → Option Int → Option Int → Hp → VK → Prop) (o : D → Option Int → Option Int → Option R) : Prop := ∀ H Hs x dx l h res, Same Hs H → DR K Hs x dx → o dx l h = some res →
  ∀ Q : VK, (∀ v H' Hs', Ext H Hs H' Hs' → ResF K H H' Hs' v res → Q v H') → r x l h H Q
theorem gk_op {r : R2} {o : D → D → Option R} {ta tb : TE} {a b : M R} (ho : OpD K r o) (ha : GOk K ta a) (hb : GOk K tb b) : GOk K (tOp r ta tb) (xop o a b) := fun Fz ba G σ H Hs res G' q e Q k => by
  obtain ⟨x, G1, e1, e⟩ := bd_inv e
  obtain ⟨y, G2, e2, e⟩ := bd_inv e
  cases h : o x.d y.d with
  | none => rw [h] at e; cases e
  | some r' =>
    rw [h] at e
    cases e
    refine ha.im q e1 fun v1 H1 Hs1 q1 s1 d1 => ?_
    refine hb.im q1 e2 fun v2 H2 Hs2 q2 s2 d2 => ?_
    exact ho H2 Hs2 v1 v2 x.d y.d _ q2.sub (d1.mono s2) d2 h Q fun v H3 Hs3 ex rf => k v H3 Hs3 (q2.ext ex) ((s1.trans s2).trans ex.b) (rf.res q2)
theorem gk_un {r : V → Hp → VK → Prop} {o : D → Option R} {ta : TE} {a : M R} (ho : UnD K r o) (ha : GOk K ta a) : GOk K (tUn r ta) (xun o a) := fun Fz ba G σ H Hs res G' q e Q k => by
  obtain ⟨x, G1, e1, e⟩ := bd_inv e
  cases h : o x.d with
  | none => rw [h] at e; cases e
  | some r' =>
    rw [h] at e
    cases e
    refine ha.im q e1 fun v1 H1 Hs1 q1 s1 d1 => ?_
    exact ho H1 Hs1 v1 x.d _ q1.sub d1 h Q fun v H3 Hs3 ex rf => k v H3 Hs3 (q1.ext ex) (s1.trans ex.b) (rf.res q1)
theorem ak_nil : AOk K tNil xnil := fun Fz ba G σ H Hs ds G' q e Q k => by
  cases e
  exact k [] H Hs q (Same.refl _) .nil
theorem ak_cons {ta : TE} {tr : TA} {a : M R} {r : M (List D)} (ha : GOk K ta a) (hr : AOk K tr r) : AOk K (tCons ta tr) (xcons a r) := fun Fz ba G σ H Hs ds G' q e Q k => by
  obtain ⟨x, G1, e1, e⟩ := bd_inv e
  obtain ⟨xs, G2, e2, e⟩ := bd_inv e
  cases e
  refine ha.im q e1 fun v1 H1 Hs1 q1 s1 d1 => ?_
  exact hr Fz ba G1 σ H1 Hs1 xs _ q1 e2 _ fun vs H2 Hs2 q2 s2 d2 => k _ H2 Hs2 q2 (s1.trans s2) (.cons (d1.mono s2) d2)
theorem gk_cb {r : List V → Hp → VK → Prop} {o : List D → Option R} {ta : TA} {a : M (List D)} (ho : CbD K r o) (ha : AOk K ta a) : GOk K (tCB r ta) (xcb o a) := fun Fz ba G σ H Hs res G' q e Q k => by
  obtain ⟨xs, G1, e1, e⟩ := bd_inv e
  cases h : o xs with
  | none => rw [h] at e; cases e
  | some r' =>
    rw [h] at e
    cases e
    refine ha Fz ba G σ H Hs xs _ q e1 _ fun vs H1 Hs1 q1 s1 d1 => ?_
    exact ho H1 Hs1 vs xs _ q1.sub d1 h Q fun v H3 Hs3 ex rf => k v H3 Hs3 (q1.ext ex) (s1.trans ex.b) (rf.res q1)
theorem gk_tup {ta : TA} {a : M (List D)} (ha : AOk K ta a) : GOk K (tTup ta) (xtup a) := fun Fz ba G σ H Hs res G' q e Q k => by
  obtain ⟨xs, G1, e1, e⟩ := bd_inv e
  split at e
  · rename_i hf
    cases e
    refine ha Fz ba G σ H Hs xs _ q e1 _ fun vs H1 Hs1 q1 s1 d1 => ⟨by rw [d1.len]; exact few_ok hf, fun p hp => ?_⟩
    have ex : Ext H1 Hs1 (upd H1 p (.tup vs)) (upd Hs1 p (.tup vs)) := Ext.new q1.sub hp
    exact k _ _ _ (q1.ext ex) (s1.trans ex.b) (.tup (SqT.of upd_same) (d1.mono ex.b))
  · cases e
theorem gk_lst {ta : TA} {a : M (List D)} (ha : AOk K ta a) : GOk K (tLst ta) (xlst a) := fun Fz ba G σ H Hs res G' q e Q k => by
  obtain ⟨xs, G1, e1, e⟩ := bd_inv e
  split at e
  · rename_i hf
    cases e
    refine ha Fz ba G σ H Hs xs _ q e1 _ fun vs H1 Hs1 q1 s1 d1 => ⟨by rw [d1.len]; exact few_ok hf, fun p hp => ?_⟩
    have ex : Ext H1 Hs1 (upd H1 p (.lst vs)) Hs1 := Ext.hid q1.sub hp
    have rf : ResF K H1 (upd H1 p (.lst vs)) Hs1 (.ref p) (.ol xs) := ⟨p, _, rfl, hp, upd_same, none_sub q1.sub hp, vs, rfl, d1⟩
    exact k _ _ _ (q1.ext ex) (s1.trans ex.b) (rf.res q1)
  · cases e
theorem gk_if {t : TT} {ta tb : TE} {c : M Bool} {a b : M R} (hc : TOk K t c) (ha : GOk K ta a) (hb : GOk K tb b) : GOk K (tIf t ta tb) (xif c a b) := fun Fz ba G σ H Hs res G' q e Q k => by
  obtain ⟨x, G1, e1, e⟩ := bd_inv e
  refine hc Fz ba G σ H Hs x G1 q e1 _ fun H1 Hs1 q1 s1 => ?_
  cases x with
  | true => exact ha Fz ba G1 σ H1 Hs1 res G' q1 e Q fun v H2 Hs2 q2 s2 d => k v H2 Hs2 q2 (s1.trans s2) d
  | false => exact hb Fz ba G1 σ H1 Hs1 res G' q1 e Q fun v H2 Hs2 q2 s2 d => k v H2 Hs2 q2 (s1.trans s2) d
theorem dr_bl {H : Hp} {v : V} {b : Bool} (h : DR K H v (.bl b)) : v = .bl b := by cases h; rfl
theorem dr_int {H : Hp} {v : V} {i : Int} (h : DR K H v (.int i)) : v = .int i := by cases h; rfl
theorem tk_test {ta : TE} {a : M R} (ha : GOk K ta a) : TOk K (tTest ta) (xtest a) := fun Fz ba G σ H Hs b G' q e Q k => by
  obtain ⟨x, G1, e1, e⟩ := bd_inv e
  refine ha.im q e1 fun v H1 Hs1 q1 s1 d => ?_
  cases h : x.d with
  | bl c =>
    rw [h] at e d
    cases e
    exact ⟨_, dr_bl d, k H1 Hs1 q1 s1⟩
  | _ => rw [h] at e; cases e
theorem truth_ok {H : Hp} {v : V} {d : D} {b : Bool} (h : DR K H v d) (e : truth d = some b) : TruV K v H b := by
  have emp : ∀ {vs : List V} {ds : List D}, DRs K H vs ds → (!ds.isEmpty) = !vs.isEmpty := fun h => by cases h <;> rfl
  cases h with
  | non => cases e; rfl
  | bl b => cases e; rfl
  | int i => cases e; rfl
  | str x =>
    by_cases hf : few x.length = true
    · rw [show truth (.str x) = some ((x.length : Int) != 0) from if_pos hf] at e
      cases e
      exact ⟨few_ok hf, rfl⟩
    · rw [show truth (.str x) = none from if_neg hf] at e
      cases e
  | lst h hs => cases e; exact .inl ⟨_, SqL.of h, emp hs⟩
  | frz h hs => cases e; exact .inl ⟨_, h, emp hs⟩
  | tup h hs => cases e; exact .inr (.inl ⟨_, h, emp hs⟩)
  | _ => cases e
theorem tru_mono {x : V} {H H' : Hp} {k : Bool} (s : Same H H') (h : TruV K x H k) : TruV K x H' k := by
  cases x with
  | ref p =>
    rcases h with ⟨xs, h1, h2⟩ | ⟨xs, h1, h2⟩ | ⟨kvs, h1, h2⟩
    · exact .inl ⟨xs, same_lst s h1, h2⟩
    · exact .inr (.inl ⟨xs, same_tup s h1, h2⟩)
    · exact .inr (.inr ⟨kvs, s _ _ h1, h2⟩)
  | _ => exact h
theorem tk_tru {ta : TE} {a : M R} (ha : GOk K ta a) : TOk K (fun σ H Q => ta σ H fun x H' => ∃ k, TruV K x H' k ∧ Q k H') (xtru a) := fun Fz ba G σ H Hs b G' q e Q k => by
  obtain ⟨x, G1, e1, e⟩ := bd_inv e
  refine ha.im q e1 fun v H1 Hs1 q1 s1 d => ?_
  cases h : truth x.d with
  | none => rw [h] at e; cases e
  | some c =>
    rw [h] at e
    cases e
    exact ⟨_, tru_mono q1.sub (truth_ok d h), k H1 Hs1 q1 s1⟩
theorem tk_and {t u : TT} {a b : M Bool} (ha : TOk K t a) (hb : TOk K u b) : TOk K (tAnd t u) (xtand a b) := fun Fz ba G σ H Hs r G' q e Q k => by
  obtain ⟨x, G1, e1, e⟩ := bd_inv e
  refine ha Fz ba G σ H Hs x G1 q e1 _ fun H1 Hs1 q1 s1 => ?_
  cases x with
  | true => exact hb Fz ba G1 σ H1 Hs1 r G' q1 e Q fun H2 Hs2 q2 s2 => k H2 Hs2 q2 (s1.trans s2)
  | false => cases e; exact k H1 Hs1 q1 s1
theorem tk_or {t u : TT} {a b : M Bool} (ha : TOk K t a) (hb : TOk K u b) : TOk K (tOr t u) (xtor a b) := fun Fz ba G σ H Hs r G' q e Q k => by
  obtain ⟨x, G1, e1, e⟩ := bd_inv e
  refine ha Fz ba G σ H Hs x G1 q e1 _ fun H1 Hs1 q1 s1 => ?_
  cases x with
  | true => cases e; exact k H1 Hs1 q1 s1
  | false => exact hb Fz ba G1 σ H1 Hs1 r G' q1 e Q fun H2 Hs2 q2 s2 => k H2 Hs2 q2 (s1.trans s2)
theorem tk_not {t : TT} {a : M Bool} (ha : TOk K t a) : TOk K (tNot t) (xtnot a) := fun Fz ba G σ H Hs r G' q e Q k => by
  obtain ⟨x, G1, e1, e⟩ := bd_inv e
  cases e
  exact ha Fz ba G σ H Hs x _ q e1 _ fun H1 Hs1 q1 s1 => k H1 Hs1 q1 s1
theorem tk_yes : TOk K tYes xtyes := fun Fz ba G σ H Hs r G' q e Q k => by
  cases e
  exact k H Hs q (Same.refl _)
theorem gk_vand {ta tb : TE} {a b : M R} (ha : GOk K ta a) (hb : GOk K tb b) : GOk K (tAndV ta tb) (xvand a b) := fun Fz ba G σ H Hs res G' q e Q k => by
  obtain ⟨x, G1, e1, e⟩ := bd_inv e
  refine ha.im q e1 fun v H1 Hs1 q1 s1 d => ?_
  cases h : x.d with
  | bl c =>
    rw [h] at e d
    refine ⟨c, dr_bl d, ?_⟩
    cases c with
    | true => exact hb Fz ba G1 σ H1 Hs1 res G' q1 e Q fun v H2 Hs2 q2 s2 d => k v H2 Hs2 q2 (s1.trans s2) d
    | false => cases e; exact k _ H1 Hs1 q1 s1 (.bl false)
  | _ => rw [h] at e; cases e
theorem gk_vor {ta tb : TE} {a b : M R} (ha : GOk K ta a) (hb : GOk K tb b) : GOk K (tOrV ta tb) (xvor a b) := fun Fz ba G σ H Hs res G' q e Q k => by
  obtain ⟨x, G1, e1, e⟩ := bd_inv e
  refine ha.im q e1 fun v H1 Hs1 q1 s1 d => ?_
  cases h : x.d with
  | bl c =>
    rw [h] at e d
    refine ⟨c, dr_bl d, ?_⟩
    cases c with
    | false => exact hb Fz ba G1 σ H1 Hs1 res G' q1 e Q fun v H2 Hs2 q2 s2 d => k v H2 Hs2 q2 (s1.trans s2) d
    | true => cases e; exact k _ H1 Hs1 q1 s1 (.bl true)
  | _ => rw [h] at e; cases e
theorem gk_vnot {ta : TE} {a : M R} (ha : GOk K ta a) : GOk K (tNotV ta) (xvnot a) := fun Fz ba G σ H Hs res G' q e Q k => by
  obtain ⟨x, G1, e1, e⟩ := bd_inv e
  refine ha.im q e1 fun v H1 Hs1 q1 s1 d => ?_
  cases h : x.d with
  | bl c =>
    rw [h] at e d
    cases e
    exact ⟨c, dr_bl d, k _ H1 Hs1 q1 s1 (.bl _)⟩
  | _ => rw [h] at e; cases e
theorem gk_chain {r r' : R2} {o o' : D → D → Option R} {ta tb tc : TE} {a b c : M R} (ho : OpD K r o) (ho' : OpD K r' o') (ha : GOk K ta a) (hb : GOk K tb b) (hc : GOk K tc c) : GOk K (tChain r r' ta tb tc) (xchain o o' a b c) :=
  fun Fz ba G σ H Hs res G' q e Q k => by
  obtain ⟨x, G1, e1, e⟩ := bd_inv e
  obtain ⟨y, G2, e2, e⟩ := bd_inv e
  refine ha.im q e1 fun v1 H1 Hs1 q1 s1 d1 => ?_
  refine hb.im q1 e2 fun v2 H2 Hs2 q2 s2 d2 => ?_
  cases h : o x.d y.d with
  | none => rw [h] at e; cases e
  | some r1 =>
    rw [h] at e
    cases r1 with
    | ow ds => cases e
    | im dd =>
      cases dd with
      | bl kk =>
        refine ho H2 Hs2 v1 v2 x.d y.d _ q2.sub (d1.mono s2) d2 h _ fun v H3 Hs3 ex rf => ⟨kk, dr_bl rf, ?_⟩
        have q3 := q2.ext ex
        cases kk with
        | false => cases e; exact k _ H3 Hs3 q3 ((s1.trans s2).trans ex.b) (.bl false)
        | true =>
          obtain ⟨z, G3, e3, e⟩ := bd_inv e
          cases h' : o' y.d z.d with
          | none => rw [h'] at e; cases e
          | some r2 =>
            rw [h'] at e
            cases e
            refine hc.im q3 e3 fun v3 H4 Hs4 q4 s4 d4 => ?_
            exact ho' H4 Hs4 v2 v3 y.d z.d _ q4.sub (d2.mono (ex.b.trans s4)) d4 h' Q fun v H5 Hs5 ex5 rf5 => k v H5 Hs5 (q4.ext ex5) ((((s1.trans s2).trans ex.b).trans s4).trans ex5.b) (rf5.res q4)
      | _ => cases e
def POk (K : PySem.W.Frag) (t : TO) (f : MO) : Prop := ∀ Fz ba G σ H Hs o G', Rel K Fz ba G σ H Hs → f G = some (o, G') →
  ∀ Q : Option Int → Hp → Prop, (∀ H' Hs', Rel K Fz ba G' σ H' Hs' → Same Hs Hs' → Q o H') → t σ H Q
theorem pk_none : POk K tNoPart xnop := fun Fz ba G σ H Hs r G' q e Q k => by
  cases e
  exact k H Hs q (Same.refl _)
theorem pk_some {ta : TE} {a : M R} (ha : GOk K ta a) : POk K (tPart ta) (xpart a) := fun Fz ba G σ H Hs r G' q e Q k => by
  obtain ⟨x, G1, e1, e⟩ := bd_inv e
  refine ha.im q e1 fun v H1 Hs1 q1 s1 d => ?_
  cases h : x.d with
  | int i =>
    rw [h] at e d
    cases e
    exact ⟨i, dr_int d, k H1 Hs1 q1 s1⟩
  | _ => rw [h] at e; cases e
theorem gk_sl {r : V → Option Int → Option Int → Hp → VK → Prop} {o : D → Option Int → Option Int → Option R} {ta : TE} {tl th : TO} {a : M R} {l h : MO} (ho : SlD K r o) (ha : GOk K ta a) (hl : POk K tl l) (hh : POk K th h) : GOk K (tSl r ta tl th) (xsl o a l h) :=
  fun Fz ba G σ H Hs res G' q e Q k => by
  obtain ⟨x, G1, e1, e⟩ := bd_inv e
  obtain ⟨i, G2, e2, e⟩ := bd_inv e
  obtain ⟨j, G3, e3, e⟩ := bd_inv e
  cases h' : o x.d i j with
  | none => rw [h'] at e; cases e
  | some r1 =>
    rw [h'] at e
    cases e
    refine ha.im q e1 fun v1 H1 Hs1 q1 s1 d1 => ?_
    refine hl Fz ba G1 σ H1 Hs1 i G2 q1 e2 _ fun H2 Hs2 q2 s2 => ?_
    refine hh Fz ba G2 σ H2 Hs2 j _ q2 e3 _ fun H3 Hs3 q3 s3 => ?_
    exact ho H3 Hs3 v1 x.d i j _ q3.sub (d1.mono (s2.trans s3)) h' Q fun v H5 Hs5 ex5 rf5 => k v H5 Hs5 (q3.ext ex5) (((s1.trans s2).trans s3).trans ex5.b) (rf5.res q3)
end
end Bk
namespace Bk
open PySem L2
section
variable {K : PySem.W.Frag}
/-- a def that computes m -/
def spF (K : PySem.W.Frag) (m : List D → Option R) : Sp := fun vs H Q _ => ∃ Hs ds r, Same Hs H ∧ DRs K Hs vs ds ∧ m ds = some r ∧ ∀ v H' Hs', Ext H Hs H' Hs' → ResF K H H' Hs' v r → Q v H'
structure ExtB (l : Addr) (H Hs H' Hs' : Hp) : Prop where
  a : ∀ x o, x ≠ l → H x = some o → H' x = some o
  b : Same Hs Hs'
  c : Same Hs' H'
  n : ∀ x o, H x = some o → Hs x = none → Hs' x = none
/-- a def whose first argument is a list that it may change -/
def spB (K : PySem.W.Frag) (m : Mob → List D → Option (R × Mob)) : Sp := fun vs H Q _ => ∃ Hs l vs' bo bds ds r bds', vs = V.ref l :: vs' ∧ Same Hs H ∧ H l = some bo ∧ Hs l = none ∧ MobO K Hs bds bo ∧ DRs K Hs vs' ds ∧
  m bds ds = some (r, bds') ∧ ∀ v H' Hs' bo', ExtB l H Hs H' Hs' → H' l = some bo' → Hs' l = none → MobO K Hs' bds' bo' → ResF K H H' Hs' v r → Q v H'
theorem gk_call {m : List D → Option R} {E : XK} {ta : TA} {a : M (List D)} (ha : AOk K ta a) : GOk K (tCall (spF K m) [] E ta) (xcall m a) := fun Fz ba G σ H Hs res G' q e Q k => by
  obtain ⟨xs, G1, e1, e⟩ := bd_inv e
  cases h : m xs with
  | none => rw [h] at e; cases e
  | some r' =>
    rw [h] at e
    cases e
    refine ha Fz ba G σ H Hs xs _ q e1 _ fun vs H1 Hs1 q1 s1 d1 => ?_
    exact ⟨Hs1, xs, _, q1.sub, by rw [List.append_nil]; exact d1, h, fun v H3 Hs3 ex rf => k v H3 Hs3 (q1.ext ex) (s1.trans ex.b) (rf.res q1)⟩
theorem with_mu {e : Ent} {ds es : Mob} (h : e.mu = some ds) : (e.with es).mu = some es := by
  cases e with
  | un => cases h
  | im d => cases h
  | ow _ => rfl
  | bx _ => rfl
/-- the list of the name at i has changed -/
theorem Rel.mut {Fz : Hp} {ba : Nat → Addr} {G : Gam} {σ : L2.St} {H Hs H' Hs' : Hp} (q : Rel K Fz ba G σ H Hs) {i : Nat} {e : Ent} {ds es : Mob} {l : Addr} {ws : HO} (h : G[i]? = some e) (m : e.mu = some ds) (s : σ[i]? = some (some (.ref l)))
    (x : ExtB l H Hs H' Hs') (hl : H' l = some ws) (hn : Hs' l = none) (hd : MobO K Hs' es ws) : Rel K Fz ba (G.set i (e.with es)) σ H' Hs' := by
  obtain ⟨l0, vs0, z1, z2, z3, z4, _⟩ := q.mu i e ds h m
  rw [s] at z1
  cases z1
  have me : e.mu ≠ none := by rw [m]; simp
  refine ⟨x.c, fun a o f => ?_, by rw [List.length_set]; exact q.len, fun j d f => ?_, fun j en ds' f f0 => ?_, fun j k e1 e2 l' f1 f2 m1 m2 s1 s2 => ?_, fun j ds' f => ?_⟩
  · obtain ⟨f1, f2⟩ := q.fz a o f
    have ne : a ≠ l := ne_of_none f z4
    exact ⟨x.a a o ne f1, x.n a o f1 f2⟩
  · rcases get_set f with ⟨_, e1, _⟩ | ⟨_, f⟩
    · exfalso
      have z := with_mu (es := es) m
      rw [← e1] at z
      cases z
    · obtain ⟨v, g1, g2⟩ := q.im j d f
      exact ⟨v, g1, g2.mono x.b⟩
  · rcases get_set f with ⟨rfl, e1, _⟩ | ⟨z, f⟩
    · subst e1
      rw [with_mu m] at f0
      cases f0
      exact ⟨l, ws, s, hl, hn, z4, hd⟩
    · obtain ⟨l', vs, g1, g2, g3, g4, g5⟩ := q.mu j en ds' f f0
      have ne : l' ≠ l := fun y => by
        subst y
        exact z (q.dj i j e en l' h f me (by rw [f0]; simp) s g1)
      exact ⟨l', vs, g1, x.a l' _ ne g2, x.n l' _ g2 g3, g4, g5.mono x.b⟩
  · have old : ∀ {j : Nat} {en : Ent}, (G.set i (e.with es))[j]? = some en → en.mu ≠ none → ∃ en', G[j]? = some en' ∧ en'.mu ≠ none := fun {j en} f m' => by
      rcases get_set f with ⟨rfl, _, _⟩ | ⟨_, f⟩
      · exact ⟨e, h, me⟩
      · exact ⟨en, f, m'⟩
    obtain ⟨y1, a1, a2⟩ := old f1 m1
    obtain ⟨y2, b1, b2⟩ := old f2 m2
    exact q.dj j k y1 y2 l' a1 b1 a2 b2 s1 s2
  · rcases get_set f with ⟨rfl, e1, _⟩ | ⟨_, f⟩
    · cases e with
      | un => cases m
      | im d => cases m
      | ow _ => cases e1
      | bx bs => exact q.bx i bs h
    · exact q.bx j ds' f
theorem isMu_ok {G : Gam} {i : Nat} (h : isMu G i = true) : ∃ e ds, G[i]? = some e ∧ e.mu = some ds := by
  unfold isMu at h
  cases z : G[i]? with
  | none => rw [z] at h; cases h
  | some e =>
    rw [z] at h
    cases y : e.mu with
    | none => simp only [y] at h; cases h
    | some ds => exact ⟨e, ds, rfl, y⟩
theorem gk_callB {m : Mob → List D → Option (R × Mob)} {E : XK} {i : Nat} {ta : TA} {a : M (List D)} (ha : AOk K ta a) : GOk K (tCall (spB K m) [] E (tCons (tVar i) ta)) (xcallB m i a) := fun Fz ba G σ H Hs res G' q e Q k => by
  unfold xcallB at e
  split at e
  case isFalse => cases e
  rename_i hm
  obtain ⟨e0, ds0, y1, y2⟩ := isMu_ok hm
  obtain ⟨l, vs0, y3, _⟩ := q.mu i e0 ds0 y1 y2
  obtain ⟨xs, G1, e1, e⟩ := bd_inv e
  unfold callB at e
  cases h : G1[i]? with
  | none => rw [h] at e; cases e
  | some en =>
    cases h0 : en.mu with
    | none => simp only [h, h0] at e; cases e
    | some bs =>
      simp only [h, h0] at e
      cases h1 : m bs xs with
      | none => simp only [h1] at e; cases e
      | some p =>
        obtain ⟨r1, bs'⟩ := p
        simp only [h1] at e
        cases e
        refine ⟨_, y3, ?_⟩
        refine ha Fz ba G σ H Hs xs _ q e1 _ fun vs H1 Hs1 q1 s1 d1 => ?_
        obtain ⟨l', bvs, g1, g2, g3, g4, g5⟩ := q1.mu i en bs h h0
        rw [y3] at g1
        cases g1
        refine ⟨Hs1, l, vs, bvs, bs, xs, _, bs', by rw [List.append_nil], q1.sub, g2, g3, g5, d1, h1, fun v H3 Hs3 ws ex hl hn hd rf => ?_⟩
        have q3 := q1.mut h h0 y3 ex hl hn hd
        refine k v H3 Hs3 q3 (s1.trans ex.b) ?_
        cases res with
        | im d => exact rf
        | ow ds =>
          obtain ⟨p, vs, rfl, z1, z2, z3, z4⟩ := rf
          refine ⟨p, vs, rfl, z2, z3, ?_, z4, fun j en' g mm qq => ?_⟩
          · cases z : Fz p with
            | none => rfl
            | some o =>
              obtain ⟨w1, _⟩ := q1.fz p o z
              rw [z1] at w1
              cases w1
          · obtain ⟨ds', hd'⟩ : ∃ ds', en'.mu = some ds' := by
              cases z : en'.mu with
              | none => exact absurd z mm
              | some ds' => exact ⟨ds', rfl⟩
            have old : ∃ o, H1 p = some o := by
              rcases get_set g with ⟨rfl, _, _⟩ | ⟨_, g⟩
              · rw [y3] at qq
                cases qq
                exact ⟨_, g2⟩
              · obtain ⟨l2, ws2, q1', q2', _⟩ := q1.mu j en' ds' g hd'
                rw [qq] at q1'
                cases q1'
                exact ⟨_, q2'⟩
            obtain ⟨o, ho⟩ := old
            rw [z1] at ho
            cases ho
theorem Rel.same_slot {Fz : Hp} {ba : Nat → Addr} {G : Gam} {σ : L2.St} {H Hs : Hp} (q : Rel K Fz ba G σ H Hs) {i : Nat} (h : isMu G i = true) : ∃ l, σ[i]? = some (some (.ref l)) ∧
    ∀ G1 H1 Hs1 e ds, Rel K Fz ba G1 σ H1 Hs1 → G1[i]? = some e → e.mu = some ds → ∃ vs, H1 l = some vs ∧ Hs1 l = none ∧ MobO K Hs1 ds vs := by
  obtain ⟨e0, ds0, y1, y2⟩ := isMu_ok h
  obtain ⟨l, vs0, y3, _⟩ := q.mu i e0 ds0 y1 y2
  refine ⟨l, y3, fun G1 H1 Hs1 e ds q1 h1 h2 => ?_⟩
  obtain ⟨l', bvs, g1, g2, g3, g4, g5⟩ := q1.mu i e ds h1 h2
  rw [y3] at g1
  cases g1
  exact ⟨bvs, g2, g3, g5⟩
theorem at_ok {H : Hp} {vs : List V} {ds : List D} {k : Int} {d : D} (h : DRs K H vs ds) (e : atI ds k = some d) : ∃ v, atI vs k = some v ∧ DR K H v d := by
  unfold atI at e ⊢
  rw [h.len]
  cases z : ixN ds.length k with
  | none => rw [z] at e; cases e
  | some j =>
    rw [z] at e
    exact h.at (i := j) e
theorem gk_ixv {i : Nat} {tb : TE} {b : M R} (hb : GOk K tb b) : GOk K (tOp (rIx K) (tVar i) tb) (xixv i b) := fun Fz ba G σ H Hs res G' q e Q k => by
  unfold xixv at e
  split at e
  case isFalse => cases e
  rename_i hm
  obtain ⟨l, y3, yk⟩ := q.same_slot hm
  obtain ⟨y, G1, e1, e⟩ := bd_inv e
  refine ⟨_, y3, ?_⟩
  refine hb.im q e1 fun v H1 Hs1 q1 s1 d1 => ?_
  unfold ixv at e
  cases hy : y.d with
  | int n =>
    rw [hy] at d1 e
    cases h : G1[i]? with
    | none => simp only [h] at e; cases e
    | some en =>
      cases h0 : en.mu with
      | none => simp only [h, h0] at e; cases e
      | some mm =>
       cases mm with
       | o _ _ => simp only [h, h0] at e; cases e
       | l ds =>
        simp only [h, h0] at e
        cases h1 : atI ds n with
        | none => simp only [h1] at e; cases e
        | some d =>
          simp only [h1] at e
          cases e
          obtain ⟨_, z1, z2, vs, rfl, z3⟩ := yk _ H1 Hs1 en (.l ds) q1 h h0
          obtain ⟨w, w1, w2⟩ := at_ok z3 h1
          exact .inl ⟨l, vs, n, w, rfl, dr_int d1, SqL.of z1, w1, k w H1 Hs1 q1 s1 w2⟩
  | _ => simp only [hy] at e; cases e
def rLen (K : PySem.W.Frag) : List V → Hp → VK → Prop := fun xs H Q => ∃ x n, xs = [x] ∧ LenV K x H n ∧ Q (.int n) H
theorem gk_by {i : Nat} {t : TE} {a b : M R} (ha : GOk K t a) (hb : GOk K t b) : GOk K t (xby i a b) := fun Fz ba G σ H Hs res G' q e Q k => by
  unfold xby at e
  split at e
  · exact ha Fz ba G σ H Hs res G' q e Q k
  · exact hb Fz ba G σ H Hs res G' q e Q k
theorem sk_next : SOk K tNext xnext := fun Fz ba G σ H Hs fl G' q e Dn p => by
  cases e
  exact p σ H Hs q (Same.refl _)
theorem sk_seq {t u : TS} {a b : MS} (ha : SOk K t a) (hb : SOk K u b) : SOk K (tSeq t u) (xseq a b) := fun Fz ba G σ H Hs fl G' q e Dn p => by
  unfold xseq at e
  cases h : a G with
  | none => rw [h] at e; cases e
  | some x =>
    obtain ⟨f1, G1⟩ := x
    rw [h] at e
    refine ha Fz ba G σ H Hs f1 G1 q h { Dn with nx := u Dn } ?_
    cases f1 with
    | nx => exact fun σ1 H1 Hs1 q1 s1 => hb Fz ba G1 σ1 H1 Hs1 fl G' q1 e Dn (p.mono s1)
    | bk => cases e; exact p
    | ct => cases e; exact p
    | rt r => cases e; exact p
theorem sk_asg {ta : TE} {g : TG} {a : M R} {tg : D → Gam → Option Gam} {js : List Nat} (ha : GOk K ta a) (hg : GtOk K g tg js) : SOk K (tAsg ta g) (xasg a tg) := fun Fz ba G σ H Hs fl G' q e Dn p => by
  obtain ⟨x, G1, e1, e⟩ := bd_inv e
  cases h : tg x.d G1 with
  | none => rw [h] at e; cases e
  | some G2 =>
    rw [h] at e
    cases e
    refine ha.im q e1 fun v H1 Hs1 q1 s1 d1 => ?_
    exact hg.run Fz ba G1 σ H1 Hs1 v x.d _ q1 d1 h _ fun σ' q2 _ _ => p σ' H1 Hs1 q2 s1
theorem sk_set {i : Nat} {ta : TE} {a : M R} (ha : GOk K ta a) : SOk K (tAsg ta (gName i)) (xset i a) := fun Fz ba G σ H Hs fl G' q e Dn p => by
  obtain ⟨x, G1, e1, e⟩ := bd_inv e
  cases e
  exact ha Fz ba G σ H Hs x _ q e1 _ fun v H1 Hs1 q1 s1 r1 => p _ H1 Hs1 (q1.set r1) s1
theorem sk_aug {i : Nat} {ta : TE} {r : TIp} {o : D → D → Option R} {a : M R} (ho : OpD K r o) (ha : GOk K ta a) : SOk K (tAug i ta r) (xaug i o a) := fun Fz ba G σ H Hs fl G' q e Dn p => by
  unfold xaug at e
  cases h : G[i]? with
  | none => rw [h] at e; cases e
  | some en =>
    rw [h] at e
    cases en with
    | im x =>
      obtain ⟨y, G1, e1, e⟩ := bd_inv e
      obtain ⟨v, g1, g2⟩ := q.im i x h
      cases h1 : o x y.d with
      | none => simp only [h1] at e; cases e
      | some r1 =>
        simp only [h1] at e
        cases e
        refine ⟨v, g1, ?_⟩
        refine ha.im q e1 fun w H1 Hs1 q1 s1 d1 => ?_
        exact ho H1 Hs1 v w x y.d r1 q1.sub (g2.mono s1) d1 h1 _ fun z H2 Hs2 ex rf => p _ H2 Hs2 ((q1.ext ex).set (rf.res q1)) (s1.trans ex.b)
    | _ => cases e
theorem sk_ret {ta : TE} {a : M R} (ha : GOk K ta a) : SOk K (tRet ta) (xret a) := fun Fz ba G σ H Hs fl G' q e Dn p => by
  obtain ⟨x, G1, e1, e⟩ := bd_inv e
  cases e
  exact ha Fz ba G σ H Hs x _ q e1 _ fun v H1 Hs1 q1 s1 r1 => p v σ H1 Hs1 q1 s1 r1
theorem sk_drop {ta : TE} {a : M R} (ha : GOk K ta a) : SOk K (tDrop ta) (xdrop a) := fun Fz ba G σ H Hs fl G' q e Dn p => by
  obtain ⟨x, G1, e1, e⟩ := bd_inv e
  cases e
  exact ha Fz ba G σ H Hs x _ q e1 _ fun v H1 Hs1 q1 s1 r1 => p σ H1 Hs1 q1 s1
theorem sk_if {t : TT} {u w : TS} {c : M Bool} {a b : MS} (hc : TOk K t c) (ha : SOk K u a) (hb : SOk K w b) : SOk K (tIfS t u w) (xifs c a b) := fun Fz ba G σ H Hs fl G' q e Dn p => by
  obtain ⟨x, G1, e1, e⟩ := bd_inv e
  refine hc Fz ba G σ H Hs x G1 q e1 _ fun H1 Hs1 q1 s1 => ?_
  cases x with
  | true => exact ha Fz ba G1 σ H1 Hs1 fl G' q1 e Dn (p.mono s1)
  | false => exact hb Fz ba G1 σ H1 Hs1 fl G' q1 e Dn (p.mono s1)
theorem sk_never : SOk K tNever xnever := fun Fz ba G σ H Hs fl G' q e Dn p => by cases e
theorem extB_upd {H Hs : Hp} {l : Addr} {o : HO} (s : Same Hs H) (n : Hs l = none) : ExtB l H Hs (upd H l o) Hs :=
  ⟨fun x u ne e => by rw [upd_ne ne]; exact e, Same.refl _, fun a u e => by rw [upd_ne (ne_of_none e n)]; exact s a u e, fun x u _ h => h⟩
theorem isLst_ok {G : Gam} {i : Nat} (h : isLst G i = true) : ∃ e ds, G[i]? = some e ∧ e.mu = some (.l ds) := by
  unfold isLst at h
  cases z : G[i]? with
  | none => rw [z] at h; cases h
  | some e =>
    rw [z] at h
    cases y : e.mu with
    | none => simp only [y] at h; cases h
    | some m =>
      cases m with
      | o _ _ => simp only [y] at h; cases h
      | l ds => exact ⟨e, ds, rfl, y⟩
theorem isLst_mu {G : Gam} {i : Nat} (h : isLst G i = true) : isMu G i = true := by
  obtain ⟨e, ds, h1, h2⟩ := isLst_ok h
  unfold isMu
  rw [h1]
  simp only [h2]
  rfl
theorem sk_app {i : Nat} {te : TE} {a : M R} (ha : GOk K te a) : SOk K (tDrop (tBM K "list" rAppend (tVar i) (tCons te tNil))) (xapp i a) := fun Fz ba G σ H Hs fl G' q e Dn p => by
  unfold xapp at e
  split at e
  case isFalse => cases e
  rename_i hm
  obtain ⟨l, y3, yk⟩ := q.same_slot (isLst_mu hm)
  obtain ⟨x, G1, e1, e⟩ := bd_inv e
  obtain ⟨e0, ds0, y1, y2⟩ := isLst_ok hm
  obtain ⟨_, w1, _, vs0, rfl, _⟩ := yk G H Hs e0 _ q y1 y2
  refine ⟨_, y3, .inl ⟨rfl, vs0, SqL.of w1⟩, ?_⟩
  refine ha.im q e1 fun v H1 Hs1 q1 s1 d1 => ?_
  unfold app at e
  cases h : G1[i]? with
  | none => simp only [h] at e; cases e
  | some en =>
    cases h0 : en.mu with
    | none => simp only [h, h0] at e; cases e
    | some mm =>
     cases mm with
     | o _ _ => simp only [h, h0] at e; cases e
     | l ds =>
      simp only [h, h0] at e
      split at e
      case isFalse => cases e
      rename_i hf
      cases e
      obtain ⟨_, z1, z2, vs, rfl, z3⟩ := yk _ H1 Hs1 en _ q1 h h0
      refine ⟨l, vs, v, rfl, rfl, z1, by rw [z3.len]; exact few_lt hf, ?_⟩
      exact p σ _ Hs1 (q1.mut h h0 y3 (extB_upd q1.sub z2) upd_same z2 ⟨_, rfl, z3.app (.cons d1 .nil)⟩) s1
theorem sk_put {i : Nat} {te tk : TE} {a b : M R} (ha : GOk K te a) (hb : GOk K tk b) : SOk K (tAsg te (gSub (tVar i) tk rSetL)) (xput i a b) := fun Fz ba G σ H Hs fl G' q e Dn p => by
  obtain ⟨x, G1, e1, e⟩ := bd_inv e
  split at e
  case isFalse => cases e
  rename_i hm
  obtain ⟨k, G2, e2, e⟩ := bd_inv e
  refine ha.im q e1 fun v H1 Hs1 q1 s1 d1 => ?_
  obtain ⟨l, y3, yk⟩ := q1.same_slot hm
  refine ⟨_, y3, ?_⟩
  refine hb.im q1 e2 fun w H2 Hs2 q2 s2 d2 => ?_
  unfold put at e
  cases hy : k.d with
  | int n =>
    rw [hy] at d2 e
    cases h : G2[i]? with
    | none => simp only [h] at e; cases e
    | some en =>
      cases h0 : en.mu with
      | none => simp only [h, h0] at e; cases e
      | some mm =>
       cases mm with
       | o _ _ => simp only [h, h0] at e; cases e
       | l ds =>
        simp only [h, h0] at e
        cases h1 : ixN ds.length n with
        | none => simp only [h1] at e; cases e
        | some j =>
          simp only [h1] at e
          cases e
          obtain ⟨_, z1, z2, vs, rfl, z3⟩ := yk _ H2 Hs2 en _ q2 h h0
          refine ⟨l, vs, n, j, rfl, dr_int d2, z1, by rw [z3.len]; exact h1, ?_⟩
          exact p σ _ Hs2 (q2.mut h h0 y3 (extB_upd q2.sub z2) upd_same z2 ⟨_, rfl, DRs.set (d1.mono s2) j z3⟩) (s1.trans s2)
  | _ => simp only [hy] at e; cases e
theorem gt_name {i : Nat} : GtOk K (gName i) (tgn i) [i] := ⟨fun Fz ba G σ H Hs v d G' q r e Q k => by
  cases e
  exact k _ (q.set (x := .im d) r) List.length_set fun j hj => List.getElem?_set_ne fun z => hj (by rw [z]; exact List.mem_cons_self)⟩
structure GtsOk (K : PySem.W.Frag) (g : TGs) (f : List D → Gam → Option Gam) (js : List Nat) : Prop where
  run : ∀ Fz ba G σ H Hs vs ds G', Rel K Fz ba G σ H Hs → DRs K Hs vs ds → f ds G = some G' → ∀ Q : L2.St → Hp → Prop, (∀ σ', Rel K Fz ba G' σ' H Hs → σ'.length = σ.length → (∀ i : Nat, i ∉ js → σ'[i]? = σ[i]?) → Q σ' H) → g vs σ H Q
theorem gts_nil : GtsOk K gNil (tgs []) [] := ⟨fun Fz ba G σ H Hs vs ds G' q r e Q k => by
  cases r with
  | nil => cases e; exact ⟨rfl, k σ q rfl fun _ _ => rfl⟩
  | cons _ _ => cases e⟩
theorem gts_cons {t : TG} {u : TGs} {f : D → Gam → Option Gam} {fs : List (D → Gam → Option Gam)} {js ks : List Nat} (h : GtOk K t f js) (hs : GtsOk K u (tgs fs) ks) : GtsOk K (gCons t u) (tgs (f :: fs)) (js ++ ks) := ⟨fun Fz ba G σ H Hs vs ds G' q r e Q k => by
  cases r with
  | nil => cases e
  | @cons v vs d ds r1 r2 =>
    have e' : (match f d G with | some G1 => tgs fs ds G1 | none => none) = some G' := e
    cases h1 : f d G with
    | none => rw [h1] at e'; cases e'
    | some G1 =>
      rw [h1] at e'
      refine ⟨v, vs, rfl, h.run Fz ba G σ H Hs v d G1 q r1 h1 _ fun σ1 q1 l1 k1 => ?_⟩
      refine hs.run Fz ba G1 σ1 H Hs vs ds G' q1 r2 e' _ fun σ2 q2 l2 k2 => ?_
      exact k σ2 q2 (l2.trans l1) fun i hi => (k2 i fun z => hi (List.mem_append_right _ z)).trans (k1 i fun z => hi (List.mem_append_left _ z))⟩
theorem tgs_len : ∀ {fs : List (D → Gam → Option Gam)} {ds : List D} {G G' : Gam}, tgs fs ds G = some G' → ds.length = fs.length
  | [], [], _, _, _ => rfl
  | [], _ :: _, _, _, e => by cases e
  | _ :: _, [], _, _, e => by cases e
  | f :: fs, d :: ds, G, G', e => by
    have e' : (match f d G with | some G1 => tgs fs ds G1 | none => none) = some G' := e
    cases h1 : f d G with
    | none => rw [h1] at e'; cases e'
    | some G1 =>
      rw [h1] at e'
      exact congrArg Nat.succ (tgs_len e')
theorem gt_tup {u : TGs} {fs : List (D → Gam → Option Gam)} {js : List Nat} (h : GtsOk K u (tgs fs) js) : GtOk K (gTup K fs.length u) (tgt fs) js := ⟨fun Fz ba G σ H Hs v d G' q r e Q k => by
  cases r with
  | tup ht hd => exact ⟨_, _, rfl, same_tup q.sub ht, by rw [hd.len]; exact tgs_len e, h.run Fz ba G σ H Hs _ _ G' q hd e Q k⟩
  | _ => cases e⟩
theorem sk_while {t : TT} {u : TS} {c : M Bool} {b : MS} (fuel : Gam → Nat) (hc : TOk K t c) (hb : SOk K u b) : SOk K (tWhile t u) (xwhile fuel c b) := fun Fz ba G σ H Hs fl G' q e Dn p => by
  refine ⟨fun m σ1 H1 => ∃ G1 Hs1, Rel K Fz ba G1 σ1 H1 Hs1 ∧ Same Hs Hs1 ∧ xwhileN c b m G1 = some (fl, G'), ⟨fuel G, G, Hs, q, Same.refl _, e⟩, ?_⟩
  rintro m σ1 H1 ⟨G1, Hs1, q1, s1, e1⟩
  cases m with
  | zero => cases e1
  | succ n =>
    obtain ⟨x, G2, e2, e3⟩ := bd_inv e1
    refine hc Fz ba G1 σ1 H1 Hs1 x G2 q1 e2 _ fun H2 Hs2 q2 s2 => ?_
    cases x with
    | false => cases e3; exact p σ1 H2 Hs2 q2 (s1.trans s2)
    | true =>
      refine ⟨fun σ' H' => ∃ G3 Hs3, Rel K Fz ba G3 σ' H' Hs3 ∧ Same Hs Hs3 ∧ xwhileN c b n G3 = some (fl, G'), fun σ' H' ⟨G3, Hs3, a1, a2, a3⟩ => ⟨n, Nat.lt_succ_self n, G3, Hs3, a1, a2, a3⟩, ?_⟩
      rw [if_pos rfl] at e3
      cases hbG : b G2 with
      | none => rw [hbG] at e3; cases e3
      | some y =>
        obtain ⟨f1, G3⟩ := y
        rw [hbG] at e3
        refine hb Fz ba G2 σ1 H2 Hs2 f1 G3 q2 hbG _ ?_
        cases f1 with
        | nx => exact fun σ' H' Hs' a1 a2 => ⟨G3, Hs', a1, (s1.trans s2).trans a2, e3⟩
        | ct => exact fun σ' H' Hs' a1 a2 => ⟨G3, Hs', a1, (s1.trans s2).trans a2, e3⟩
        | bk => cases e3; exact fun σ' H' Hs' a1 a2 => p σ' H' Hs' a1 ((s1.trans s2).trans a2)
        | rt r => cases e3; exact fun v σ' H' Hs' a1 a2 a3 => p v σ' H' Hs' a1 ((s1.trans s2).trans a2) a3
theorem sk_for {w : TI} {g : TG} {u : TS} {it : M (List D)} {tg : D → Gam → Option Gam} {js : List Nat} {b : MS} (hi : IOk K w it) (hg : GtOk K g tg js) (hb : SOk K u b) : SOk K (tFor w g u) (xfor it tg b) := fun Fz ba G σ H Hs fl G' q e Dn p => by
  obtain ⟨ds, G1, e1, e⟩ := bd_inv e
  refine hi Fz ba G σ H Hs ds G1 q e1 _ fun J H1 Hs1 q1 s1 Y => ?_
  refine ⟨fun i m σ2 H2 => m = ds.length - i ∧ i ≤ ds.length ∧ ∃ G2 Hs2, Rel K Fz ba G2 σ2 H2 Hs2 ∧ Same Hs1 Hs2 ∧ xforL tg b (ds.drop i) G2 = some (fl, G'), ⟨ds.length, rfl, Nat.zero_le _, G1, Hs1, q1, Same.refl _, e⟩, ?_⟩
  rintro i m σ2 H2 ⟨rfl, hi, G2, Hs2, q2, s2, e2⟩
  by_cases hlt : i < ds.length
  · refine .inr ⟨Y.go i H2 (s2.trans q2.sub) hlt, fun σ' H' => i + 1 ≤ ds.length ∧ ∃ G3 Hs3, Rel K Fz ba G3 σ' H' Hs3 ∧ Same Hs1 Hs3 ∧ xforL tg b (ds.drop (i + 1)) G3 = some (fl, G'), fun σ' H' ⟨z, z2⟩ => ⟨ds.length - (i + 1), by omega, rfl, z, z2⟩, fun x H' y => ?_⟩
    obtain ⟨d, Hs3, d1, ex, dr⟩ := Y.yld i x H2 H' Hs2 hlt s2 q2.sub y
    have q3 := q2.ext ex
    have ed : ds.drop i = d :: ds.drop (i + 1) := by
      rw [List.drop_eq_getElem_cons hlt]
      rw [List.getElem?_eq_getElem hlt] at d1
      cases d1
      rfl
    rw [ed] at e2
    have e2' : (match tg d G2 with | none => none | some G3 => (match b G3 with | some (.nx, G4) => xforL tg b (ds.drop (i + 1)) G4 | some (.ct, G4) => xforL tg b (ds.drop (i + 1)) G4 | some (.bk, G4) => some (.nx, G4) | some (.rt r, G4) => some (.rt r, G4) | none => none)) = some (fl, G') := e2
    cases hG : tg d G2 with
    | none => rw [hG] at e2'; cases e2'
    | some G3 =>
      rw [hG] at e2'
      refine hg.run Fz ba G2 σ2 H' Hs3 x d G3 q3 dr hG _ fun σ3 q4 _ _ => ?_
      cases hbG : b G3 with
      | none => simp only [hbG] at e2'; cases e2'
      | some y =>
        obtain ⟨f1, G4⟩ := y
        simp only [hbG] at e2'
        refine hb Fz ba G3 σ3 H' Hs3 f1 G4 q4 hbG _ ?_
        cases f1 with
        | nx => exact fun σ' H5 Hs' a1 a2 => ⟨hlt, G4, Hs', a1, (s2.trans ex.b).trans a2, e2'⟩
        | ct => exact fun σ' H5 Hs' a1 a2 => ⟨hlt, G4, Hs', a1, (s2.trans ex.b).trans a2, e2'⟩
        | bk => cases e2'; exact fun σ' H5 Hs' a1 a2 => p σ' H5 Hs' a1 (((s1.trans s2).trans ex.b).trans a2)
        | rt r => cases e2'; exact fun v σ' H5 Hs' a1 a2 a3 => p v σ' H5 Hs' a1 (((s1.trans s2).trans ex.b).trans a2) a3
  · have hend : ds.length ≤ i := by omega
    rw [List.drop_eq_nil_of_le hend] at e2
    cases e2
    exact .inl ⟨Y.stop i H2 (s2.trans q2.sub) hend, p σ2 H2 Hs2 q2 (s1.trans s2)⟩
end
end Bk
namespace Bk
open PySem L2
section
variable {K : PySem.W.Frag}
theorem Yl.same {J : It} {ds : List D} {Hs Hs' : Hp} (y : Yl K J ds Hs) (s : Same Hs Hs') : Yl K J ds Hs' :=
  ⟨fun i H h => y.go i H (s.trans h), fun i H h => y.stop i H (s.trans h), fun i x H H' Hs1 hi h => y.yld i x H H' Hs1 hi (s.trans h)⟩
theorem yl_list {Hs : Hp} {a : Addr} {xs : List V} {ds : List D} (h : SqL K Hs a xs) (d : DRs K Hs xs ds) : Yl K (Itl K a) ds Hs where
  go := fun i H s hi => ⟨xs, xs[i]'(by rw [d.len]; exact hi), same_lst s h, by simp⟩
  stop := fun i H s hi => ⟨xs, same_lst s h, by rw [d.len]; exact hi⟩
  yld := fun i x H H' Hs1 _ s s1 y => by
    obtain ⟨rfl, y⟩ := y
    obtain ⟨e, e1, e2⟩ := d.ta (y xs (same_lst (s.trans s1) h))
    exact ⟨e, Hs1, e1, Ext.refl s1, e2.mono s⟩
theorem yl_tup {Hs : Hp} {a : Addr} {xs : List V} {ds : List D} (h : SqT K Hs a xs) (d : DRs K Hs xs ds) : Yl K (Itt K a) ds Hs where
  go := fun i H s hi => ⟨xs, xs[i]'(by rw [d.len]; exact hi), same_tup s h, by simp⟩
  stop := fun i H s hi => ⟨xs, same_tup s h, by rw [d.len]; exact hi⟩
  yld := fun i x H H' Hs1 _ s s1 y => by
    obtain ⟨rfl, y⟩ := y
    obtain ⟨e, e1, e2⟩ := d.ta (y xs (same_tup (s.trans s1) h))
    exact ⟨e, Hs1, e1, Ext.refl s1, e2.mono s⟩
theorem rng_len (lo : Int) (n : Nat) : (rng lo n).length = n := by simp [rng]
theorem yl_rng {Hs : Hp} {lo : Int} {n : Nat} : Yl K (Itr lo n) (rng lo n) Hs where
  go := fun i H s hi => by rw [rng_len] at hi; exact hi
  stop := fun i H s hi => by rw [rng_len] at hi; exact hi
  yld := fun i x H H' Hs1 hi s s1 y => by
    obtain ⟨rfl, rfl⟩ := y
    rw [rng_len] at hi
    exact ⟨.int (lo + (i : Int)), Hs1, by simp [rng, hi], Ext.refl s1, .int _⟩
theorem okR_inv {i : Int} (h : okR i = true) : -(2 ^ 62) ≤ i ∧ i < 2 ^ 62 := by
  unfold okR at h
  rw [Bool.and_eq_true] at h
  exact ⟨of_decide_eq_true h.1, of_decide_eq_true h.2⟩
theorem ik_range1 {ta : TA} {a : M (List D)} (ha : AOk K ta a) : IOk K (iRng1 ta) (xrange1 a) := fun Fz ba G σ H Hs ds G' q e Q k => by
  obtain ⟨xs, G1, e1, e⟩ := bd_inv e
  refine ha Fz ba G σ H Hs xs _ q e1 _ fun vs H1 Hs1 q1 s1 d => ?_
  split at e
  case h_2 => cases e
  split at e
  case isFalse => cases e
  rename_i hr
  cases e
  cases d with
  | cons d1 d2 =>
    cases d2
    cases d1
    exact ⟨_, rfl, (okR_inv hr).1, (okR_inv hr).2, k _ H1 Hs1 q1 s1 yl_rng⟩
theorem ik_range2 {ta : TA} {a : M (List D)} (ha : AOk K ta a) : IOk K (iRng2 ta) (xrange2 a) := fun Fz ba G σ H Hs ds G' q e Q k => by
  obtain ⟨xs, G1, e1, e⟩ := bd_inv e
  refine ha Fz ba G σ H Hs xs _ q e1 _ fun vs H1 Hs1 q1 s1 d => ?_
  split at e
  case h_2 => cases e
  split at e
  case isFalse => cases e
  rename_i hr
  rw [Bool.and_eq_true] at hr
  cases e
  cases d with
  | cons d1 d2 =>
    cases d2 with
    | cons d2 d3 =>
      cases d3
      cases d1
      cases d2
      exact ⟨_, _, rfl, ⟨(okR_inv hr.1).1, (okR_inv hr.1).2, (okR_inv hr.2).1, (okR_inv hr.2).2⟩, k _ H1 Hs1 q1 s1 yl_rng⟩
theorem asL_ok {H : Hp} {v : V} {d : D} {ds : List D} (h : DR K H v d) (e : asL d = some ds) : ∃ a xs, v = .ref a ∧ SqL K H a xs ∧ DRs K H xs ds := by
  cases h with
  | lst hl hd => cases e; exact ⟨_, _, rfl, SqL.of hl, hd⟩
  | frz hl hd => cases e; exact ⟨_, _, rfl, hl, hd⟩
  | _ => cases e
theorem zip_get {α β : Type} : ∀ {xs : List α} {ys : List β} {i : Nat} {x : α} {y : β}, xs[i]? = some x → ys[i]? = some y → (xs.zip ys)[i]? = some (x, y)
  | [], _, _, _, _, h, _ => by simp at h
  | _ :: _, [], _, _, _, _, h => by simp at h
  | a :: xs, b :: ys, 0, _, _, h1, h2 => by simp at h1 h2; subst h1; subst h2; rfl
  | a :: xs, b :: ys, i + 1, _, _, h1, h2 => by
    simp only [List.zip_cons_cons, List.getElem?_cons_succ] at h1 h2 ⊢
    exact zip_get h1 h2
theorem enum_len : ∀ (k : Nat) (ds : List D), (enumD k ds).length = ds.length
  | _, [] => rfl
  | k, d :: ds => congrArg Nat.succ (enum_len (k + 1) ds)
theorem enum_get : ∀ {k : Nat} {ds : List D} {i : Nat} {d : D}, ds[i]? = some d → (enumD k ds)[i]? = some (.tup [.int ((k + i : Nat) : Int), d])
  | _, [], _, _, h => by simp at h
  | k, e :: ds, 0, _, h => by simp at h; subst h; rfl
  | k, e :: ds, i + 1, _, h => by
    simp only [List.getElem?_cons_succ] at h
    have z := enum_get (k := k + 1) h
    show (enumD (k + 1) ds)[i]? = _
    rw [z, show k + 1 + i = k + (i + 1) by omega]
theorem yl_enum {Hs : Hp} {a : Addr} {xs : List V} {ds : List D} (ha : SqL K Hs a xs) (da : DRs K Hs xs ds) : Yl K (Ite K a) (enumD 0 ds) Hs where
  go := fun i H s hi => by
    rw [enum_len] at hi
    exact ⟨xs, xs[i]'(by rw [da.len]; omega), same_lst s ha, by simp⟩
  stop := fun i H s hi => by
    rw [enum_len] at hi
    exact ⟨xs, same_lst s ha, by rw [da.len]; omega⟩
  yld := fun i x H H' Hs1 _ s s1 y => by
    obtain ⟨T, x1, rfl, hT, rfl, h1⟩ := y
    obtain ⟨d1, e1, r1⟩ := da.ta (h1 xs (same_lst (s.trans s1) ha))
    have ex : Ext H Hs1 (upd H T (.tup [.int (i : Nat), x1])) (upd Hs1 T (.tup [.int (i : Nat), x1])) := Ext.new s1 hT
    refine ⟨.tup [.int (i : Nat), d1], _, ?_, ex, .tup (SqT.of upd_same) (.cons (.int _) (.cons (r1.mono (s.trans ex.b)) .nil))⟩
    rw [enum_get e1, Nat.zero_add]
theorem Rel.wiped {Fz : Hp} {ba : Nat → Addr} {G : Gam} {σ : L2.St} {H Hs : Hp} (q : Rel K Fz ba G σ H Hs) : ∀ vs : List Nat, Rel K Fz ba (wipeG G vs) (wipe σ vs) H Hs
  | [] => q
  | v :: vs => (Rel.wiped q vs).forget v
theorem wipe_get {σ : L2.St} {i : Nat} : ∀ {vs : List Nat}, i ∉ vs → (wipe σ vs)[i]? = σ[i]?
  | [], _ => rfl
  | v :: vs, h => by
    have h1 : v ≠ i := fun z => h (by rw [z]; exact List.mem_cons_self)
    show ((wipe σ vs).set v none)[i]? = _
    rw [List.getElem?_set_ne h1]
    exact wipe_get fun z => h (List.mem_cons_of_mem _ z)
theorem wipe_in {σ : L2.St} {i : Nat} (hl : i < σ.length) : ∀ {vs : List Nat}, i ∈ vs → (wipe σ vs)[i]? = some none
  | v :: vs, h => by
    show ((wipe σ vs).set v none)[i]? = _
    by_cases z : v = i
    · subst z
      rw [List.getElem?_set_self (by rw [wipe_length]; exact hl)]
    · rw [List.getElem?_set_ne z]
      rcases List.mem_cons.mp h with z2 | h2
      · exact absurd z2.symm z
      · exact wipe_in hl h2
/-- slots outside of vs alike: wiped they are the same -/
theorem wipe_eq {σ τ : L2.St} {vs : List Nat} (hl : τ.length = σ.length) (h : ∀ i : Nat, i ∉ vs → τ[i]? = σ[i]?) : wipe τ vs = wipe σ vs := by
  refine List.ext_getElem? fun i => ?_
  by_cases hi : i ∈ vs
  · by_cases hlt : i < σ.length
    · rw [wipe_in hlt hi, wipe_in (by rw [hl]; exact hlt) hi]
    · rw [List.getElem?_eq_none (by rw [wipe_length, hl]; omega), List.getElem?_eq_none (by rw [wipe_length]; omega)]
  · rw [wipe_get hi, wipe_get hi]
    exact h i hi
theorem unw_len (G1 G2 : Gam) : ∀ vs : List Nat, (unw G1 G2 vs).length = G2.length
  | [] => rfl
  | v :: vs => by
    show ((unw G1 G2 vs).set v _).length = _
    rw [List.length_set]
    exact unw_len G1 G2 vs
theorem unw_out {G1 G2 : Gam} {i : Nat} : ∀ {vs : List Nat}, i ∉ vs → (unw G1 G2 vs)[i]? = G2[i]?
  | [], _ => rfl
  | v :: vs, h => by
    have h1 : v ≠ i := fun z => h (by rw [z]; exact List.mem_cons_self)
    show ((unw G1 G2 vs).set v _)[i]? = _
    rw [List.getElem?_set_ne h1]
    exact unw_out fun z => h (List.mem_cons_of_mem _ z)
theorem unw_in {G1 G2 : Gam} {i : Nat} (hl : G2.length = G1.length) : ∀ {vs : List Nat}, i ∈ vs → (unw G1 G2 vs)[i]? = G1[i]?
  | v :: vs, h => by
    show ((unw G1 G2 vs).set v (G1.getD v .un))[i]? = _
    by_cases z : v = i
    · subst z
      by_cases hlt : v < G1.length
      · rw [List.getElem?_set_self (by rw [unw_len, hl]; exact hlt), List.getElem?_eq_getElem hlt, List.getD_eq_getElem?_getD, List.getElem?_eq_getElem hlt]
        rfl
      · rw [List.getElem?_eq_none (by rw [List.length_set, unw_len, hl]; omega), List.getElem?_eq_none (by omega)]
    · rw [List.getElem?_set_ne z]
      rcases List.mem_cons.mp h with z2 | h2
      · exact absurd z2.symm z
      · exact unw_in hl h2
theorem noMu_ok {G : Gam} {vs : List Nat} (h : noMu G vs = true) {i : Nat} {e : Ent} (hi : i ∈ vs) (g : G[i]? = some e) : e.mu = none := by
  unfold noMu at h
  rw [List.all_eq_true] at h
  have z := h i hi
  rw [g] at z
  simpa using z
/-- behind a block: its own slots as they were -/
theorem Rel.unwipe {Fz : Hp} {ba : Nat → Addr} {G1 G2 : Gam} {σ : L2.St} {H1 Hs1 H2 Hs2 : Hp} {vs : List Nat} (q1 : Rel K Fz ba G1 σ H1 Hs1) (q2 : Rel K Fz ba G2 (wipe σ vs) H2 Hs2) (s : Same Hs1 Hs2) (nm : noMu G1 vs = true) : Rel K Fz ba (unw G1 G2 vs) σ H2 Hs2 := by
  have hl : G2.length = G1.length := by rw [← q1.len, ← q2.len, wipe_length]
  have mo : ∀ {i : Nat} {e : Ent}, (unw G1 G2 vs)[i]? = some e → e.mu ≠ none → i ∉ vs ∧ G2[i]? = some e := fun {i e} h m => by
    by_cases hi : i ∈ vs
    · rw [unw_in hl hi] at h
      exact absurd (noMu_ok nm hi h) m
    · rw [unw_out hi] at h
      exact ⟨hi, h⟩
  refine ⟨q2.sub, q2.fz, by rw [unw_len, hl]; exact q1.len, fun i d h => ?_, fun i e ds h h0 => ?_, fun i j e e' l h1 h2 m1 m2 t1 t2 => ?_, fun i ds h => ?_⟩
  · by_cases hi : i ∈ vs
    · rw [unw_in hl hi] at h
      obtain ⟨v, a1, a2⟩ := q1.im i d h
      exact ⟨v, a1, a2.mono s⟩
    · rw [unw_out hi] at h
      obtain ⟨v, a1, a2⟩ := q2.im i d h
      exact ⟨v, by rw [← wipe_get hi]; exact a1, a2⟩
  · obtain ⟨hi, h⟩ := mo h (by rw [h0]; simp)
    obtain ⟨l, ws, a1, a2⟩ := q2.mu i e ds h h0
    exact ⟨l, ws, by rw [← wipe_get hi]; exact a1, a2⟩
  · obtain ⟨hi, h1⟩ := mo h1 m1
    obtain ⟨hj, h2⟩ := mo h2 m2
    exact q2.dj i j e e' l h1 h2 m1 m2 (by rw [wipe_get hi]; exact t1) (by rw [wipe_get hj]; exact t2)
  · obtain ⟨hi, h⟩ := mo h (by simp [Ent.mu])
    have z := q2.bx i ds h
    rw [wipe_get hi] at z
    exact z
/-- a hidden object more -/
theorem Rel.hide {Fz : Hp} {ba : Nat → Addr} {G : Gam} {σ : L2.St} {H Hs : Hp} (q : Rel K Fz ba G σ H Hs) {p : Addr} {o : HO} (h : H p = none) : Rel K (upd Fz p o) ba G σ (upd H p o) Hs := by
  refine ⟨q.sub.trans (same_new h), fun a u e => ?_, q.len, q.im, fun i e ds g g0 => ?_, q.dj, q.bx⟩
  · by_cases z : a = p
    · subst z
      rw [upd_same] at e ⊢
      exact ⟨e, none_sub q.sub h⟩
    · rw [upd_ne z] at e ⊢
      exact q.fz a u e
  · obtain ⟨l, vs, a1, a2, a3, a4, a5⟩ := q.mu i e ds g g0
    have ne : l ≠ p := ne_of_none a2 h
    exact ⟨l, vs, a1, by rw [upd_ne ne]; exact a2, a3, by rw [upd_ne ne]; exact a4, a5⟩
/-- the hidden object is another -/
theorem Rel.rehide {Fz : Hp} {ba : Nat → Addr} {G : Gam} {σ : L2.St} {H Hs : Hp} {p : Addr} {o o' : HO} (q : Rel K (upd Fz p o) ba G σ H Hs) : Rel K (upd Fz p o') ba G σ (upd H p o') Hs := by
  obtain ⟨hp, hsp⟩ := q.fz p o upd_same
  refine ⟨fun a u e => ?_, fun a u e => ?_, q.len, q.im, fun i e ds g g0 => ?_, q.dj, q.bx⟩
  · rw [upd_ne (ne_of_none e hsp)]
    exact q.sub a u e
  · by_cases z : a = p
    · subst z
      rw [upd_same] at e ⊢
      exact ⟨e, hsp⟩
    · rw [upd_ne z] at e ⊢
      exact q.fz a u (by rw [upd_ne z]; exact e)
  · obtain ⟨l, vs, a1, a2, a3, a4, a5⟩ := q.mu i e ds g g0
    have ne : l ≠ p := by
      intro z
      subst z
      rw [upd_same] at a4
      cases a4
    rw [upd_ne ne] at a4
    exact ⟨l, vs, a1, by rw [upd_ne ne]; exact a2, a3, by rw [upd_ne ne]; exact a4, a5⟩
/-- no longer hidden, not owned either -/
theorem Rel.unhide {Fz : Hp} {ba : Nat → Addr} {G : Gam} {σ : L2.St} {H Hs : Hp} {p : Addr} {o : HO} (q : Rel K (upd Fz p o) ba G σ H Hs) (hf : Fz p = none) : Rel K Fz ba G σ H Hs := by
  refine ⟨q.sub, fun a u e => ?_, q.len, q.im, fun i e ds g g0 => ?_, q.dj, q.bx⟩
  · exact q.fz a u (by rw [upd_ne (ne_of_none e hf)]; exact e)
  · obtain ⟨l, vs, a1, a2, a3, a4, a5⟩ := q.mu i e ds g g0
    refine ⟨l, vs, a1, a2, a3, ?_, a5⟩
    cases z : Fz l with
    | none => rfl
    | some u =>
      have ne : l ≠ p := ne_of_none z hf
      rw [upd_ne ne, z] at a4
      cases a4
theorem gk_lc {w : TI} {g : TG} {t : TT} {te : TE} {it : M (List D)} {tg : D → Gam → Option Gam} {js vs : List Nat} {c : M Bool} {a : M R} (hi : IOk K w it) (hg : GtOk K g tg js) (hc : TOk K t c) (ha : GOk K te a) (hj : ∀ j ∈ js, j ∈ vs) :
    GOk K (tLc w g t te vs) (xlc it tg c a vs) := fun Fz ba G σ H Hs res G' q e Q k => by
  obtain ⟨ds, G1, e1, e⟩ := bd_inv e
  split at e
  case isFalse => cases e
  rename_i nm
  obtain ⟨out, G2, e2, e⟩ := bd_inv e
  split at e
  case isFalse => cases e
  rename_i hf
  cases e
  refine hi Fz ba G σ H Hs ds _ q e1 _ fun J H1 Hs1 q1 s1 Y p hp => ?_
  have hfp : Fz p = none := by
    cases z : Fz p with
    | none => rfl
    | some o =>
      obtain ⟨z1, _⟩ := q1.fz p o z
      rw [hp] at z1
      cases z1
  have q1w := (q1.wiped vs).hide (o := .lst []) hp
  refine ⟨fun i m H2 => m = ds.length - i ∧ i ≤ ds.length ∧ ∃ G3 Hs3 acc ad more, Rel K (upd Fz p (.lst acc)) ba G3 (wipe σ vs) H2 Hs3 ∧ Same Hs1 Hs3 ∧ DRs K Hs3 acc ad ∧ xlcL tg c a vs (ds.drop i) G3 = some (more, G2) ∧ ad ++ more = out,
    ⟨ds.length, rfl, Nat.zero_le _, wipeG G1 vs, Hs1, [], [], out, q1w, Same.refl _, .nil, e2, rfl⟩, ?_⟩
  rintro i m H2 ⟨rfl, hi2, G3, Hs3, acc, ad, more, q3, s3, da, e3, eo⟩
  by_cases hlt : i < ds.length
  · refine .inr ⟨Y.go i H2 (s3.trans q3.sub) hlt, fun H' => i + 1 ≤ ds.length ∧ ∃ G4 Hs4 acc ad more, Rel K (upd Fz p (.lst acc)) ba G4 (wipe σ vs) H' Hs4 ∧ Same Hs1 Hs4 ∧ DRs K Hs4 acc ad ∧ xlcL tg c a vs (ds.drop (i + 1)) G4 = some (more, G2) ∧ ad ++ more = out,
      fun H' ⟨z, z2⟩ => ⟨ds.length - (i + 1), by omega, rfl, z, z2⟩, fun x H' y => ?_⟩
    obtain ⟨d, Hs4, d1, ex, dr⟩ := Y.yld i x H2 H' Hs3 hlt s3 q3.sub y
    have q4 := q3.ext ex
    have ed : ds.drop i = d :: ds.drop (i + 1) := by
      rw [List.drop_eq_getElem_cons hlt]
      rw [List.getElem?_eq_getElem hlt] at d1
      cases d1
      rfl
    rw [ed] at e3
    unfold xlcL at e3
    cases hG : tg d G3 with
    | none => rw [hG] at e3; cases e3
    | some G4 =>
      rw [hG] at e3
      refine hg.run _ ba G3 _ H' Hs4 x d G4 q4 dr hG _ fun σ5 q5 l5 k5 => ?_
      have hlen : σ5.length = σ.length := by rw [l5, wipe_length]
      have hw : wipe σ5 vs = wipe σ vs := by
        have z := wipe_eq (σ := wipe σ vs) (τ := σ5) (vs := vs) (by rw [wipe_length]; exact hlen) fun j hj' => k5 j fun z => hj' (hj j z)
        rw [z]
        exact wipe_eq (wipe_length σ vs) fun j hj' => wipe_get hj'
      refine ⟨hw, ?_⟩
      obtain ⟨b, G5, e5, e6⟩ := bd_inv e3
      refine hc _ ba G4 σ5 H' Hs4 b G5 q5 e5 _ fun H5 Hs5 q6 s6 => ?_
      cases b with
      | true =>
        obtain ⟨r, G6, e7, e8⟩ := bd_inv (show bd (a G5) _ = _ from e6)
        obtain ⟨out2, G7, e9, e10⟩ := bd_inv e8
        cases e10
        rw [if_pos rfl]
        refine ha.im q6 e7 fun v H6 Hs6 q7 s7 d7 => ?_
        obtain ⟨f1, f2⟩ := q7.fz p _ upd_same
        have q8 := (q7.rehide (o' := .lst (acc ++ [v]))).wiped vs
        rw [hw] at q8
        refine ⟨acc, f1, ?_, hlt, _, Hs6, _, ad ++ [r.d], out2, q8, ((s3.trans ex.b).trans s6).trans s7, (da.mono ((ex.b.trans s6).trans s7)).app (.cons d7 .nil), e9, ?_⟩
        · have z1 := da.len
          have z2 : ad.length ≤ out.length := by rw [← eo, List.length_append]; omega
          exact Nat.lt_of_le_of_lt (by omega) (few_lt hf)
        · rw [List.append_assoc]
          exact eo
      | false =>
        rw [if_neg Bool.false_ne_true] at e6 ⊢
        have q8 := q6.wiped vs
        rw [hw] at q8
        exact ⟨hlt, _, Hs5, acc, ad, more, q8, (s3.trans ex.b).trans s6, da.mono (ex.b.trans s6), e6, eo⟩
  · have hend : ds.length ≤ i := by omega
    rw [List.drop_eq_nil_of_le hend] at e3
    cases e3
    rw [List.append_nil] at eo
    subst eo
    obtain ⟨f1, f2⟩ := q3.fz p _ upd_same
    refine .inl ⟨Y.stop i H2 (s3.trans q3.sub) hend, k _ H2 Hs3 (q1.unwipe (q3.unhide hfp) s3 nm) (s1.trans s3) ⟨p, _, rfl, f1, f2, hfp, ⟨acc, rfl, da⟩, fun j e' g m z => ?_⟩⟩
    have q9 := q1.unwipe (q3.unhide hfp) s3 nm
    by_cases hjv : j ∈ vs
    · have z1 := q1.len
      have z2 := q3.len
      rw [wipe_length, z1] at z2
      rw [unw_in (G1 := G1) z2.symm hjv] at g
      exact m (noMu_ok nm hjv g)
    · rw [unw_out hjv] at g
      obtain ⟨ds', hd'⟩ : ∃ ds', e'.mu = some ds' := by
        cases y : e'.mu with
        | none => exact absurd y m
        | some ds' => exact ⟨ds', rfl⟩
      obtain ⟨l, ws, a1, a2, a3, a4, a5⟩ := q3.mu j e' ds' g hd'
      rw [wipe_get hjv, z] at a1
      cases a1
      rw [upd_same] at a4
      cases a4
end
end Bk
namespace Bk
open PySem L2
def opAdd : D → D → Option R
  | .int i, .int j => some (.im (.int (i + j)))
  | .str x, .str y => if few (x.length + y.length) then some (.im (.str (x ++ y))) else none
  | .lst xs, .lst ys => if few (xs.length + ys.length) then some (.ol (xs ++ ys)) else none
  | _, _ => none
def opSub : D → D → Option R
  | .int i, .int j => some (.im (.int (i - j)))
  | _, _ => none
def okMul (i j : Int) : Bool := decide (i.natAbs.log2 + j.natAbs.log2 < 1000000)
theorem okMul_ok {i j : Int} (h : okMul i j = true) : CMulW i j := by
  unfold okMul at h
  exact (of_decide_eq_true h : i.natAbs.log2 + j.natAbs.log2 < 1000000)
def opMulI : D → D → Option R
  | .int i, .int j => if okMul i j then some (.im (.int (i * j))) else none
  | _, _ => none
def opMul : D → D → Option R
  | .int i, .int j => if okMul i j then some (.im (.int (i * j))) else none
  | .lst xs, .int k => if okR k && few (xs.length * k.toNat) then some (.ol (List.replicate k.toNat xs).flatten) else none
  | _, _ => none
def okDiv (j : Int) : Bool := decide (j ≠ 0) && decide (j.natAbs.log2 < 9000)
def opFdiv : D → D → Option R
  | .int i, .int j => if okDiv j then some (.im (.int (i.fdiv j))) else none
  | _, _ => none
def opMod : D → D → Option R
  | .int i, .int j => if decide (j ≠ 0) then some (.im (.int (i.fmod j))) else none
  | _, _ => none
def okPow (i j : Int) : Bool := decide (0 ≤ j) && decide (j ≤ 1000000) && decide (i.natAbs < 2 ^ 64)
def opPow : D → D → Option R
  | .int i, .int j => if okPow i j then some (.im (.int (i ^ j.toNat))) else none
  | _, _ => none
def cmp (p : Int → Int → Bool) : D → D → Option R
  | .int i, .int j => some (.im (.bl (p i j)))
  | _, _ => none
def opLt : D → D → Option R := cmp fun i j => decide (i < j)
def opLe : D → D → Option R := cmp fun i j => decide (i ≤ j)
def opGt : D → D → Option R := cmp fun i j => decide (j < i)
def opGe : D → D → Option R := cmp fun i j => decide (j ≤ i)
mutual
def toPy : D → Option PyData
  | .non => some .none
  | .bl b => some (.bool b)
  | .int i => some (.int i)
  | .str x => some (.str x)
  | .lst xs => (toPys xs).map .list
  | .frz xs => (toPys xs).map .list
  | .tup xs => (toPys xs).map .tuple
  | .obj _ _ => none
  | .ty _ => none
  | .cl _ => none
  | .dic _ _ => none
def toPys : List D → Option (List PyData)
  | [] => some []
  | x :: xs => match toPy x, toPys xs with
    | some p, some ps => some (p :: ps)
    | _, _ => none
end
def eqD (a b : D) : Option Bool := match a, b with
  | .int i, .int j => some (decide (i = j))
  | .str x, .str y => some (decide (x = y))
  | a, b => match toPy a, toPy b with
    | some p, some q => if SeqAt.shaped p && SeqAt.shaped q then some (PyData.eqv p q) else none
    | _, _ => none
def opEq (a b : D) : Option R := match eqD a b with
  | some k => some (.im (.bl k))
  | none => none
def opNe (a b : D) : Option R := match eqD a b with
  | some k => some (.im (.bl (!k)))
  | none => none
def isN : D → Bool
  | .non => true
  | _ => false
def isD : D → D → Option Bool
  | a, .non => some (isN a)
  | .bl a, .bl b => some (decide (a = b))
  | _, _ => none
def opIs (a b : D) : Option R := match isD a b with
  | some k => some (.im (.bl k))
  | none => none
def opIsNot (a b : D) : Option R := match isD a b with
  | some k => some (.im (.bl (!k)))
  | none => none
def opIx : D → D → Option R
  | .lst xs, .int k => (atI xs k).map .im
  | .frz xs, .int k => (atI xs k).map .im
  | .tup xs, .int k => (atI xs k).map .im
  | .str x, .int k => if few x.length then (atI x.cps.toList k).map fun c => .im (.str ⟨#[c]⟩) else none
  | _, _ => none
def unNeg : D → Option R
  | .int i => some (.im (.int (-i)))
  | _ => none
def rAddA : R2 := fun x y H Q => rI0 (fun i j => .int (i + j)) x y H Q ∨ (∃ i j, x = .str i ∧ y = .str j ∧ i.length + j.length ≤ sizeLine ∧ Q (.str (i ++ j)) H) ∨ rCat x y H Q
theorem op_addA {X : Cx} : OpR X (binaryOp .Add) rAddA := op_add.or (op_add_str.or op_cat)
def rMulA : R2 := fun x y H Q => rI CMulW (fun i j => .int (i * j)) x y H Q ∨ rRep x y H Q
theorem op_mulA {X : Cx} : OpR X (binaryOp .Mult) rMulA := op_mulW.or op_rep
def rFdivA : R2 := rI (fun _ j => j ≠ 0 ∧ j.natAbs.log2 < 9000) fun i j => .int (i.fdiv j)
theorem op_fdivA {X : Cx} : OpR X (binaryOp .FloorDiv) rFdivA := opI fun _ _ _ _ _ _ _ hc q => PyProof.Rows.floordiv_int hc.1 q (.inl (PyProof.noPylong_of_log2 hc.2))
def rModA : R2 := rI (fun _ j => j ≠ 0) fun i j => .int (i.fmod j)
theorem op_modA {X : Cx} : OpR X (binaryOp .Mod) rModA := op_modN
theorem iop_mulA {X : Cx} : PIp X .Mult (rI CMulW fun i j => .int (i * j)) := opI (X := X) (f := inplaceOp .Mult) fun _ _ _ _ _ _ _ hc q => PyProof.Rows.imul_int q hc.ok
def rSubA : R2 := rI0 fun i j => .int (i - j)
theorem op_subA {X : Cx} : OpR X (binaryOp .Sub) rSubA := op_sub
def rPowA : R2 := rI CPow fun i j => .int (i ^ j.toNat)
theorem op_powA {X : Cx} : OpR X (binaryOp .Pow) rPowA := op_pow
def rIsA : R2 := fun x y H Q => (y = .non ∧ Q (.bl (decide (x = .non))) H) ∨ rIsB x y H Q
theorem op_isA {X : Cx} : OpR X (compareOp .Is) rIsA := op_isN.or op_isBl
def rIsNotA : R2 := fun x y H Q => (y = .non ∧ Q (.bl (!decide (x = .non))) H) ∨ rNotB x y H Q
theorem op_isNotA {X : Cx} : OpR X (compareOp .IsNot) rIsNotA := op_notN.or op_notBl
section
variable {K : PySem.W.Frag}
theorem od_add : OpD K rAddA opAdd := fun H Hs x y dx dy res s hx hy e Q k => by
  unfold opAdd at e
  split at e
  · cases e
    cases hx; cases hy
    exact .inl ⟨_, _, rfl, rfl, k _ H Hs (Ext.refl s) (.int _)⟩
  · split at e
    case isFalse => cases e
    rename_i hf
    cases e
    cases hx; cases hy
    exact .inr (.inl ⟨_, _, rfl, rfl, few_ok hf, k _ H Hs (Ext.refl s) (.str _)⟩)
  · split at e
    case isFalse => cases e
    rename_i hf
    cases e
    cases hx with
    | lst h1 d1 =>
      cases hy with
      | lst h2 d2 =>
        exact .inr (.inr ⟨_, _, _, _, rfl, rfl, s _ _ h1, s _ _ h2, by rw [d1.len, d2.len]; exact few_ok hf, fun p hp =>
          k _ _ Hs (Ext.hid s hp) ⟨p, _, rfl, hp, upd_same, none_sub s hp, _, rfl, d1.app d2⟩⟩)
  · cases e
theorem od_sub : OpD K rSubA opSub := fun H Hs x y dx dy res s hx hy e Q k => by
  unfold opSub at e
  split at e
  case h_2 => cases e
  cases e
  cases hx; cases hy
  exact ⟨_, _, rfl, rfl, k _ H Hs (Ext.refl s) (.int _)⟩
theorem od_mul : OpD K rMulA opMul := fun H Hs x y dx dy res s hx hy e Q k => by
  unfold opMul at e
  split at e
  · split at e
    case isFalse => cases e
    rename_i hf
    cases e
    cases hx; cases hy
    exact .inl ⟨_, _, rfl, rfl, okMul_ok hf, k _ H Hs (Ext.refl s) (.int _)⟩
  · split at e
    case isFalse => cases e
    rename_i hf
    rw [Bool.and_eq_true] at hf
    cases e
    cases hx with
    | lst h1 d1 =>
      cases hy
      obtain ⟨z1, z2⟩ : -(2 ^ 62) ≤ _ ∧ _ < 2 ^ 62 := okR_inv hf.1
      exact .inr ⟨_, _, _, rfl, rfl, s _ _ h1, by omega, by omega, by rw [d1.len]; exact few_ok hf.2, fun p hp =>
        k _ _ Hs (Ext.hid s hp) ⟨p, _, rfl, hp, upd_same, none_sub s hp, _, rfl, d1.rep _⟩⟩
  · cases e
theorem od_mulI : OpD K (rI CMulW fun i j => .int (i * j)) opMulI := fun H Hs x y dx dy res s hx hy e Q k => by
  unfold opMulI at e
  split at e
  case h_2 => cases e
  split at e
  case isFalse => cases e
  rename_i hf
  cases e
  cases hx; cases hy
  exact ⟨_, _, rfl, rfl, okMul_ok hf, k _ H Hs (Ext.refl s) (.int _)⟩
theorem od_fdiv : OpD K rFdivA opFdiv := fun H Hs x y dx dy res s hx hy e Q k => by
  unfold opFdiv at e
  split at e
  case h_2 => cases e
  split at e
  case isFalse => cases e
  rename_i hf
  unfold okDiv at hf
  rw [Bool.and_eq_true] at hf
  cases e
  cases hx; cases hy
  exact ⟨_, _, rfl, rfl, ⟨of_decide_eq_true hf.1, of_decide_eq_true hf.2⟩, k _ H Hs (Ext.refl s) (.int _)⟩
theorem od_mod : OpD K rModA opMod := fun H Hs x y dx dy res s hx hy e Q k => by
  unfold opMod at e
  split at e
  case h_2 => cases e
  split at e
  case isFalse => cases e
  rename_i hf
  cases e
  cases hx; cases hy
  exact ⟨_, _, rfl, rfl, of_decide_eq_true hf, k _ H Hs (Ext.refl s) (.int _)⟩
theorem od_pow : OpD K rPowA opPow := fun H Hs x y dx dy res s hx hy e Q k => by
  unfold opPow at e
  split at e
  case h_2 => cases e
  split at e
  case isFalse => cases e
  rename_i hf
  unfold okPow at hf
  rw [Bool.and_eq_true, Bool.and_eq_true] at hf
  cases e
  cases hx; cases hy
  exact ⟨_, _, rfl, rfl, ⟨of_decide_eq_true hf.1.1, of_decide_eq_true hf.1.2, of_decide_eq_true hf.2⟩, k _ H Hs (Ext.refl s) (.int _)⟩
theorem od_cmp {p : Int → Int → Bool} : OpD K (rI0 fun i j => .bl (p i j)) (cmp p) := fun H Hs x y dx dy res s hx hy e Q k => by
  unfold cmp at e
  split at e
  case h_2 => cases e
  cases e
  cases hx; cases hy
  exact ⟨_, _, rfl, rfl, k _ H Hs (Ext.refl s) (.bl _)⟩
theorem od_lt : OpD K (rI0 fun i j => .bl (decide (i < j))) opLt := od_cmp
theorem od_le : OpD K (rI0 fun i j => .bl (decide (i ≤ j))) opLe := od_cmp
theorem od_gt : OpD K (rI0 fun i j => .bl (decide (j < i))) opGt := od_cmp
theorem od_ge : OpD K (rI0 fun i j => .bl (decide (j ≤ i))) opGe := od_cmp
mutual
theorem toPy_ok {H : Hp} : ∀ {d : D} {v : V} {p : PyData}, DR K H v d → toPy d = some p → Dp K H v p
  | .non, _, _, h, e => by cases h; unfold toPy at e; cases e; exact .non
  | .bl b, _, _, h, e => by cases h; unfold toPy at e; cases e; exact .bl b
  | .int i, _, _, h, e => by cases h; unfold toPy at e; cases e; exact .int i
  | .str x, _, _, h, e => by cases h; unfold toPy at e; cases e; exact .str x
  | .lst xs, _, _, h, e => by
    unfold toPy at e
    cases z : toPys xs with
    | none => rw [z] at e; cases e
    | some ps =>
      rw [z] at e
      cases e
      cases h with
      | lst h1 d1 => exact .lst (SqL.of h1) (toPys_ok d1 z)
  | .frz xs, _, _, h, e => by
    unfold toPy at e
    cases z : toPys xs with
    | none => rw [z] at e; cases e
    | some ps =>
      rw [z] at e
      cases e
      cases h with
      | frz h1 d1 => exact .lst h1 (toPys_ok d1 z)
  | .tup xs, _, _, h, e => by
    unfold toPy at e
    cases z : toPys xs with
    | none => rw [z] at e; cases e
    | some ps =>
      rw [z] at e
      cases e
      cases h with
      | tup h1 d1 => exact .tup h1 (toPys_ok d1 z)
  | .obj _ _, _, _, _, e => by unfold toPy at e; cases e
  | .ty _, _, _, _, e => by unfold toPy at e; cases e
  | .cl _, _, _, _, e => by unfold toPy at e; cases e
  | .dic _ _, _, _, _, e => by unfold toPy at e; cases e
theorem toPys_ok {H : Hp} : ∀ {ds : List D} {vs : List V} {ps : List PyData}, DRs K H vs ds → toPys ds = some ps → DpAll K H vs ps
  | [], _, _, h, e => by cases h; unfold toPys at e; cases e; exact .nil
  | d :: ds, _, _, h, e => by
    unfold toPys at e
    split at e
    case h_2 => cases e
    rename_i h1 h2
    cases e
    cases h with
    | cons a b => exact .cons (toPy_ok a h1) (toPys_ok b h2)
end
theorem shaped_int (i : Int) : SeqAt.shaped (.int i) = true := by
  unfold SeqAt.shaped
  simp [PyData.canLay0, PyData.depth]
theorem eqD_ok {H : Hp} {x y : V} {a b : D} {k : Bool} (hx : DR K H x a) (hy : DR K H y b) (e : eqD a b = some k) :
    (∃ p q, Dp K H x p ∧ Dp K H y q ∧ SeqAt.shaped p = true ∧ SeqAt.shaped q = true ∧ PyData.eqv p q = k) ∨ (scal x y = true ∧ decide (x = y) = k) := by
  unfold eqD at e
  split at e
  · cases e
    cases hx; cases hy
    exact .inl ⟨_, _, .int _, .int _, shaped_int _, shaped_int _, by simp only [PyData.eqv]; exact Bool.beq_eq_decide_eq _ _⟩
  · cases e
    cases hx; cases hy
    exact .inr ⟨rfl, by simp⟩
  · split at e
    case h_2 => cases e
    rename_i h1 h2
    split at e
    case isFalse => cases e
    rename_i hf
    rw [Bool.and_eq_true] at hf
    cases e
    exact .inl ⟨_, _, toPy_ok hx h1, toPy_ok hy h2, hf.1, hf.2, rfl⟩
def rEqA (K : PySem.W.Frag) : R2 := fun x y H Q => rEqD K x y H Q ∨ rEq x y H Q
def rNeA (K : PySem.W.Frag) : R2 := fun x y H Q => rNeD K x y H Q ∨ rNe x y H Q
theorem op_eqA {X : Cx} (hu : X.A.units + 64 < cLine) : OpR X (compareOp .Eq) (rEqA X.K) := (op_eqD hu).or op_eq
theorem op_neA {X : Cx} (hu : X.A.units + 64 < cLine) : OpR X (compareOp .NotEq) (rNeA X.K) := (op_neD hu).or op_ne
theorem dp_mono {H H' : Hp} (s : Same H H') {x : V} {d : D} {p : PyData} (h : DR K H x d) (e : toPy d = some p) : Dp K H' x p := toPy_ok (h.mono s) e
theorem od_eq : OpD K (rEqA K) opEq := fun H Hs x y dx dy res s hx hy e Q k => by
  unfold opEq at e
  cases z : eqD dx dy with
  | none => rw [z] at e; cases e
  | some b =>
    rw [z] at e
    cases e
    rcases eqD_ok (hx.mono s) (hy.mono s) z with ⟨p, q, a1, a2, a3, a4, a5⟩ | ⟨a1, a2⟩
    · exact .inl ⟨p, q, a1, a2, a3, a4, by rw [a5]; exact k _ H Hs (Ext.refl s) (.bl _)⟩
    · exact .inr ⟨a1, by rw [a2]; exact k _ H Hs (Ext.refl s) (.bl _)⟩
theorem od_ne : OpD K (rNeA K) opNe := fun H Hs x y dx dy res s hx hy e Q k => by
  unfold opNe at e
  cases z : eqD dx dy with
  | none => rw [z] at e; cases e
  | some b =>
    rw [z] at e
    cases e
    rcases eqD_ok (hx.mono s) (hy.mono s) z with ⟨p, q, a1, a2, a3, a4, a5⟩ | ⟨a1, a2⟩
    · exact .inl ⟨p, q, a1, a2, a3, a4, by rw [a5]; exact k _ H Hs (Ext.refl s) (.bl _)⟩
    · exact .inr ⟨a1, by rw [a2]; exact k _ H Hs (Ext.refl s) (.bl _)⟩
theorem isN_ok {H : Hp} {x : V} {d : D} (h : DR K H x d) : decide (x = .non) = isN d := by
  cases h <;> simp [isN]
theorem od_is : OpD K rIsA opIs := fun H Hs x y dx dy res s hx hy e Q k => by
  unfold opIs at e
  cases z : isD dx dy with
  | none => rw [z] at e; cases e
  | some b =>
    rw [z] at e
    cases e
    unfold isD at z
    split at z
    · cases z
      cases hy
      exact .inl ⟨rfl, by rw [isN_ok hx]; exact k _ H Hs (Ext.refl s) (.bl _)⟩
    · cases z
      cases hx; cases hy
      exact .inr ⟨_, _, rfl, rfl, k _ H Hs (Ext.refl s) (.bl _)⟩
    · cases z
theorem od_isNot : OpD K rIsNotA opIsNot := fun H Hs x y dx dy res s hx hy e Q k => by
  unfold opIsNot at e
  cases z : isD dx dy with
  | none => rw [z] at e; cases e
  | some b =>
    rw [z] at e
    cases e
    unfold isD at z
    split at z
    · cases z
      cases hy
      exact .inl ⟨rfl, by rw [isN_ok hx]; exact k _ H Hs (Ext.refl s) (.bl _)⟩
    · cases z
      cases hx; cases hy
      exact .inr ⟨_, _, rfl, rfl, k _ H Hs (Ext.refl s) (.bl _)⟩
    · cases z
theorem od_ix : OpD K (rIx K) opIx := fun H Hs x y dx dy res s hx hy e Q k => by
  have fin : ∀ {vs : List V} {ds : List D} {i : Int}, DRs K Hs vs ds → (atI ds i).map R.im = some res → ∃ w, atI vs i = some w ∧ Q w H := fun {vs ds i} h z => by
    cases z1 : atI ds i with
    | none => rw [z1] at z; cases z
    | some d =>
      rw [z1] at z
      cases z
      obtain ⟨w, w1, w2⟩ := at_ok h z1
      exact ⟨w, w1, k w H Hs (Ext.refl s) w2⟩
  unfold opIx at e
  split at e
  · cases hx with
    | lst h1 d1 =>
      cases hy
      obtain ⟨w, w1, w2⟩ := fin d1 e
      exact .inl ⟨_, _, _, w, rfl, rfl, SqL.of (s _ _ h1), w1, w2⟩
  · cases hx with
    | frz h1 d1 =>
      cases hy
      obtain ⟨w, w1, w2⟩ := fin d1 e
      exact .inl ⟨_, _, _, w, rfl, rfl, same_lst s h1, w1, w2⟩
  · cases hx with
    | tup h1 d1 =>
      cases hy
      obtain ⟨w, w1, w2⟩ := fin d1 e
      exact .inr (.inl ⟨_, _, _, w, rfl, rfl, same_tup s h1, w1, w2⟩)
  · split at e
    case isFalse => cases e
    rename_i hf
    rename_i z i
    cases hx; cases hy
    cases z1 : atI z.cps.toList i with
    | none => rw [z1] at e; cases e
    | some c =>
      rw [z1] at e
      cases e
      exact .inr (.inr ⟨z, i, c, rfl, rfl, few_ok hf, z1, k _ H Hs (Ext.refl s) (.str _)⟩)
  · cases e
theorem ud_neg : UnD K (rU fun i => .int (-i)) unNeg := fun H Hs x dx res s hx e Q k => by
  unfold unNeg at e
  split at e
  case h_2 => cases e
  cases e
  cases hx
  exact ⟨_, rfl, k _ H Hs (Ext.refl s) (.int _)⟩
/-- slices of lists -/
def cutD (xs : List D) (lo hi : Option Int) : List D := (xs.drop (HT.sIx xs.length 0 lo)).take (HT.sIx xs.length xs.length hi - HT.sIx xs.length 0 lo)
theorem cut_ok {H : Hp} {vs : List V} {ds : List D} (h : DRs K H vs ds) (lo hi : Option Int) : DRs K H (cutV vs lo hi) (cutD ds lo hi) := by
  unfold cutV cutD
  rw [h.len]
  exact (h.drop _).take _
def slL (d : D) (lo hi : Option Int) : Option R := match asL d with
  | some xs => some (.ol (cutD xs lo hi))
  | none => none
theorem sd_list : SlD K (rSlL K) slL := fun H Hs x dx l h res s hx e Q k => by
  unfold slL at e
  cases z : asL dx with
  | none => rw [z] at e; cases e
  | some xs =>
    rw [z] at e
    cases e
    obtain ⟨a, vs, rfl, h1, d1⟩ := asL_ok hx z
    exact ⟨a, vs, rfl, same_lst s h1, fun p hp => k _ _ Hs (Ext.hid s hp) ⟨p, _, rfl, hp, upd_same, none_sub s hp, _, rfl, cut_ok d1 _ _⟩⟩
def cbAbs : List D → Option R
  | [.int i] => some (.im (.int (if i < 0 then -i else i)))
  | _ => none
def rAbs : List V → Hp → VK → Prop := fun xs H Q => ∃ i, xs = [.int i] ∧ Q (.int (if i < 0 then -i else i)) H
theorem cr_abs {X : Cx} : CallR X (.builtin "abs") rAbs := call_abs
theorem cd_abs : CbD K rAbs cbAbs := fun H Hs xs ds res s h e Q k => by
  unfold cbAbs at e
  split at e
  case h_2 => cases e
  cases e
  cases h with
  | cons a b => cases b; cases a; exact ⟨_, rfl, k _ H Hs (Ext.refl s) (.int _)⟩
def cbInt : List D → Option R
  | [.int i] => some (.im (.int i))
  | [.bl b] => some (.im (.int (if b then 1 else 0)))
  | _ => none
def rInt : List V → Hp → VK → Prop := fun xs H Q => (∃ i, xs = [.int i] ∧ Q (.int i) H) ∨ ∃ k, xs = [.bl k] ∧ Q (.int (if k then 1 else 0)) H
theorem cr_int {X : Cx} : CallR X (.type "int") rInt := call_int1
theorem cd_int : CbD K rInt cbInt := fun H Hs xs ds res s h e Q k => by
  unfold cbInt at e
  split at e
  · cases e
    cases h with
    | cons a b => cases b; cases a; exact .inl ⟨_, rfl, k _ H Hs (Ext.refl s) (.int _)⟩
  · cases e
    cases h with
    | cons a b => cases b; cases a; exact .inr ⟨_, rfl, k _ H Hs (Ext.refl s) (.int _)⟩
  · cases e
def lenD : D → Option Nat
  | .lst xs => some xs.length
  | .frz xs => some xs.length
  | .tup xs => some xs.length
  | .str x => if few x.length then some x.length else none
  | _ => none
def cbLen : List D → Option R
  | [d] => (lenD d).map fun n => .im (.int n)
  | _ => none
theorem cr_len {X : Cx} : CallR X (.builtin "len") (rLen X.K) := call_len
theorem lenD_ok {H : Hp} {x : V} {d : D} {n : Nat} (h : DR K H x d) (e : lenD d = some n) : LenV K x H n := by
  cases h with
  | lst h1 d1 => cases e; exact .inl ⟨_, SqL.of h1, d1.len.symm⟩
  | frz h1 d1 => cases e; exact .inl ⟨_, h1, d1.len.symm⟩
  | tup h1 d1 => cases e; exact .inr ⟨_, h1, d1.len.symm⟩
  | str x =>
    by_cases hf : few x.length = true
    · rw [show lenD (.str x) = some x.length from if_pos hf] at e
      cases e
      exact ⟨few_ok hf, rfl⟩
    · rw [show lenD (.str x) = none from if_neg hf] at e
      cases e
  | _ => cases e
theorem cd_len : CbD K (rLen K) cbLen := fun H Hs xs ds res s h e Q k => by
  unfold cbLen at e
  split at e
  case h_2 => cases e
  rename_i d
  cases z : lenD d with
  | none => rw [z] at e; cases e
  | some n =>
    rw [z] at e
    cases e
    cases h with
    | cons a b =>
      cases b
      exact ⟨_, n, rfl, lenD_ok (a.mono s) z, k _ H Hs (Ext.refl s) (.int _)⟩
def cbMax2 : List D → Option R
  | [.int i, .int j] => some (.im (.int (if j > i then j else i)))
  | _ => none
def cbMin2 : List D → Option R
  | [.int i, .int j] => some (.im (.int (if j < i then j else i)))
  | _ => none
def rMax2 : List V → Hp → VK → Prop := fun xs H Q => ∃ i j, xs = [.int i, .int j] ∧ Q (.int (if j > i then j else i)) H
def rMin2 : List V → Hp → VK → Prop := fun xs H Q => ∃ i j, xs = [.int i, .int j] ∧ Q (.int (if j < i then j else i)) H
theorem cr_max2 {X : Cx} (hc : X.calm = true) : CallR X (.builtin "max") rMax2 := call_max2 hc
theorem cr_min2 {X : Cx} (hc : X.calm = true) : CallR X (.builtin "min") rMin2 := call_min2 hc
theorem cd_max2 : CbD K rMax2 cbMax2 := fun H Hs xs ds res s h e Q k => by
  unfold cbMax2 at e
  split at e
  case h_2 => cases e
  cases e
  cases h with
  | cons a b =>
    cases b with
    | cons b c => cases c; cases a; cases b; exact ⟨_, _, rfl, k _ H Hs (Ext.refl s) (.int _)⟩
theorem cd_min2 : CbD K rMin2 cbMin2 := fun H Hs xs ds res s h e Q k => by
  unfold cbMin2 at e
  split at e
  case h_2 => cases e
  cases e
  cases h with
  | cons a b =>
    cases b with
    | cons b c => cases c; cases a; cases b; exact ⟨_, _, rfl, k _ H Hs (Ext.refl s) (.int _)⟩
def bools : List D → Option (List Bool)
  | [] => some []
  | .bl b :: ds => match bools ds with
    | some bs => some (b :: bs)
    | none => none
  | _ :: _ => none
theorem bools_ok {H : Hp} : ∀ {ds : List D} {vs : List V} {bs : List Bool}, DRs K H vs ds → bools ds = some bs → vs = bs.map V.bl
  | [], _, _, h, e => by cases h; cases e; rfl
  | d :: ds, _, _, h, e => by
    cases h with
    | cons a b =>
      unfold bools at e
      split at e
      · rename_i heq; cases heq
      · rename_i heq
        cases heq
        split at e
        case h_2 => cases e
        rename_i z
        cases e
        cases a
        rw [List.map_cons, ← bools_ok b z]
      · cases e
def cbAny : List D → Option R
  | [d] => match asL d with
    | some xs => (bools xs).map fun bs => .im (.bl (bs.any id))
    | none => none
  | _ => none
def cbAll : List D → Option R
  | [d] => match asL d with
    | some xs => (bools xs).map fun bs => .im (.bl (bs.all id))
    | none => none
  | _ => none
theorem cd_any : CbD K (rAny K) cbAny := fun H Hs xs ds res s h e Q k => by
  unfold cbAny at e
  split at e
  case h_2 => cases e
  split at e
  case h_2 => cases e
  rename_i ys z
  cases z1 : bools ys with
  | none => rw [z1] at e; cases e
  | some bs =>
    rw [z1] at e
    cases e
    cases h with
    | cons a b =>
      cases b
      obtain ⟨l, vs, rfl, h1, d1⟩ := asL_ok a z
      exact ⟨l, bs, rfl, by rw [← bools_ok d1 z1]; exact same_lst s h1, k _ H Hs (Ext.refl s) (.bl _)⟩
theorem cd_all : CbD K (rAll K) cbAll := fun H Hs xs ds res s h e Q k => by
  unfold cbAll at e
  split at e
  case h_2 => cases e
  split at e
  case h_2 => cases e
  rename_i ys z
  cases z1 : bools ys with
  | none => rw [z1] at e; cases e
  | some bs =>
    rw [z1] at e
    cases e
    cases h with
    | cons a b =>
      cases b
      obtain ⟨l, vs, rfl, h1, d1⟩ := asL_ok a z
      exact ⟨l, bs, rfl, by rw [← bools_ok d1 z1]; exact same_lst s h1, k _ H Hs (Ext.refl s) (.bl _)⟩
def cbTuple : List D → Option R
  | [.tup xs] => some (.im (.tup xs))
  | [d] => (asL d).map fun xs => .im (.tup xs)
  | _ => none
def rTupleOf (K : PySem.W.Frag) : List V → Hp → VK → Prop := fun xs H Q => ∃ p ys, xs = [.ref p] ∧ ((SqL K H p ys ∧ ∀ l, H l = none → Q (.ref l) (upd H l (.tup ys))) ∨ (SqT K H p ys ∧ Q (.ref p) H))
theorem cr_tuple {X : Cx} : CallR X (.type "tuple") (rTupleOf X.K) := call_tuple_of
theorem cd_tuple : CbD K (rTupleOf K) cbTuple := fun H Hs xs ds res s h e Q k => by
  unfold cbTuple at e
  split at e
  · cases e
    cases h with
    | cons a b =>
      cases b
      cases a with
      | tup h1 d1 => exact ⟨_, _, rfl, .inr ⟨same_tup s h1, k _ H Hs (Ext.refl s) (.tup h1 d1)⟩⟩
  · rename_i d _
    cases z : asL d with
    | none => rw [z] at e; cases e
    | some ys =>
      rw [z] at e
      cases e
      cases h with
      | cons a b =>
        cases b
        obtain ⟨l, vs, rfl, h1, d1⟩ := asL_ok a z
        exact ⟨l, vs, rfl, .inl ⟨same_lst s h1, fun p hp => k _ _ _ (Ext.new s hp) (.tup (SqT.of upd_same) (d1.mono (Ext.new (o := HO.tup vs) s hp).b))⟩⟩
  · cases e
def seqD : D → Option (List D)
  | .lst xs => some xs
  | .frz xs => some xs
  | .tup xs => some xs
  | _ => none
def cbList : List D → Option R
  | [d] => (seqD d).map fun xs => .ol xs
  | _ => none
def rListOf (K : PySem.W.Frag) : List V → Hp → VK → Prop := fun xs H Q => ∃ p ys, xs = [.ref p] ∧ (SqL K H p ys ∨ SqT K H p ys) ∧ ∀ l, H l = none → Q (.ref l) (upd H l (.lst ys))
theorem cr_list {X : Cx} : CallR X (.type "list") (rListOf X.K) := call_list_of
theorem cd_list : CbD K (rListOf K) cbList := fun H Hs xs ds res s h e Q k => by
  unfold cbList at e
  split at e
  case h_2 => cases e
  rename_i d
  cases z : seqD d with
  | none => rw [z] at e; cases e
  | some ys =>
    rw [z] at e
    cases e
    cases h with
    | cons a b =>
      cases b
      cases a with
      | lst h1 d1 => cases z; exact ⟨_, _, rfl, .inl (SqL.of (s _ _ h1)), fun p hp => k _ _ Hs (Ext.hid s hp) ⟨p, _, rfl, hp, upd_same, none_sub s hp, _, rfl, d1⟩⟩
      | frz h1 d1 => cases z; exact ⟨_, _, rfl, .inl (same_lst s h1), fun p hp => k _ _ Hs (Ext.hid s hp) ⟨p, _, rfl, hp, upd_same, none_sub s hp, _, rfl, d1⟩⟩
      | tup h1 d1 => cases z; exact ⟨_, _, rfl, .inr (same_tup s h1), fun p hp => k _ _ Hs (Ext.hid s hp) ⟨p, _, rfl, hp, upd_same, none_sub s hp, _, rfl, d1⟩⟩
      | _ => cases z
def tyS : D → Option String
  | .non => some "NoneType"
  | .bl _ => some "bool"
  | .int _ => some "int"
  | .str _ => some "str"
  | .lst _ => some "list"
  | .frz _ => some "list"
  | .tup _ => some "tuple"
  | _ => none
def isiT (a b : String) : Option Bool :=
  if ["int", "bool", "str", "list", "tuple"].contains b then some (a == b || (a == "bool" && b == "int")) else none
theorem isiT_ok {a b : String} {k : Bool} (ha : ["NoneType", "bool", "int", "str", "list", "tuple"].contains a = true) (h : isiT a b = some k) : kitB a b = some k := by
  have hb : ["int", "bool", "str", "list", "tuple"].contains b = true := by
    unfold isiT at h
    split at h
    · assumption
    · cases h
  have key : (["NoneType", "bool", "int", "str", "list", "tuple"].all fun a => ["int", "bool", "str", "list", "tuple"].all fun b => decide (kitB a b = isiT a b)) = true := by decide +kernel
  rw [List.all_eq_true] at key
  have k1 := key a (by simpa using ha)
  rw [List.all_eq_true] at k1
  have k2 := of_decide_eq_true (k1 b (by simpa using hb))
  rw [k2]
  exact h
theorem tyS_ok {H : Hp} {x : V} {d : D} {t : String} (h : DR K H x d) (e : tyS d = some t) : TyX K H x (.type t) ∧ ["NoneType", "bool", "int", "str", "list", "tuple"].contains t = true := by
  cases h with
  | non => cases e; exact ⟨.base .non, by decide⟩
  | bl b => cases e; exact ⟨.base (.bl b), by decide⟩
  | int i => cases e; exact ⟨.base (.int i), by decide⟩
  | str x => cases e; exact ⟨.base (.str x), by decide⟩
  | lst h1 d1 => cases e; exact ⟨.base (.lst h1), by decide⟩
  | frz h1 d1 =>
    cases e
    rcases h1 with (h1 | ⟨o, h1⟩) | ⟨o, its, n, h1, h2, _⟩
    · exact ⟨.base (.lst h1), by decide⟩
    · exact ⟨.base (.frz h1), by decide⟩
    · exact ⟨.kList h1 h2, by decide⟩
  | tup h1 d1 =>
    cases e
    rcases h1 with (h1 | ⟨o, h1⟩) | ⟨o, its, n, h1, h2, _⟩
    · exact ⟨.base (.tup h1), by decide⟩
    · exact ⟨.fTuple h1, by decide⟩
    · exact ⟨.kTuple h1 h2, by decide⟩
  | _ => cases e
def cbIsi : List D → Option R
  | [d, .ty c] => match tyS d with
    | some t => (isiT t c).map fun k => .im (.bl k)
    | none => none
  | _ => none
theorem cd_isi : CbD K (rIsi K) cbIsi := fun H Hs xs ds res s h e Q k => by
  unfold cbIsi at e
  split at e
  case h_2 => cases e
  rename_i d c
  cases z : tyS d with
  | none => rw [z] at e; cases e
  | some t =>
    simp only [z] at e
    cases z1 : isiT t c with
    | none => rw [z1] at e; cases e
    | some b =>
      rw [z1] at e
      cases e
      cases h with
      | cons a a2 =>
        cases a2 with
        | cons a2 a3 =>
          cases a3
          cases a2
          obtain ⟨t1, t2⟩ := tyS_ok (a.mono s) z
          exact ⟨_, _, _, _, b, rfl, .ty c, t1, kit_ty (isiT_ok t2 z1), k _ H Hs (Ext.refl s) (.bl _)⟩
end
end Bk
namespace Bk
open PySem L2
def pad (n : Nat) (ds : List D) : Gam := ds.map Ent.im ++ List.replicate (n - ds.length) Ent.un
def outF : Option (Fl × Gam) → Option R
  | some (.rt r, _) => some r
  | some (.nx, _) => some (.im .non)
  | _ => none
def runF (k n : Nat) (b : MS) (ds : List D) : Option R := if ds.length = k then outF (b (pad n ds)) else none
def outB : Option (Fl × Gam) → Option (R × Mob)
  | some (.rt r, .bx bs :: _) => some (r, bs)
  | some (.nx, .bx bs :: _) => some (.im .non, bs)
  | _ => none
def runB (k n : Nat) (b : MS) (bs : Mob) (ds : List D) : Option (R × Mob) := if ds.length + 1 = k then outB (b (.bx bs :: pad (n - 1) ds)) else none
/-- what stands but is hidden -/
def hid (H Hs : Hp) : Hp := fun a => match Hs a with
  | none => H a
  | some _ => none
theorem hid_some {H Hs : Hp} {a : Addr} {o : HO} (h : hid H Hs a = some o) : H a = some o ∧ Hs a = none := by
  unfold hid at h
  cases z : Hs a with
  | none => rw [z] at h; exact ⟨h, rfl⟩
  | some u => rw [z] at h; cases h
theorem hid_of {H Hs : Hp} {a : Addr} {o : HO} (h : H a = some o) (n : Hs a = none) : hid H Hs a = some o := by
  unfold hid
  rw [n]
  exact h
section
variable {K : PySem.W.Frag}
theorem pad_get {n : Nat} {ds : List D} {i : Nat} {e : Ent} (h : (pad n ds)[i]? = some e) : (∃ d, ds[i]? = some d ∧ e = .im d) ∨ e = .un := by
  unfold pad at h
  rw [List.getElem?_append] at h
  split at h
  · rw [List.getElem?_map] at h
    cases z : ds[i]? with
    | none => rw [z] at h; cases h
    | some d => rw [z] at h; cases h; exact .inl ⟨d, rfl, rfl⟩
  · exact .inr (List.eq_of_mem_replicate (List.mem_of_getElem? h))
theorem pad_len (n : Nat) (ds : List D) (h : ds.length ≤ n) : (pad n ds).length = n := by
  unfold pad
  rw [List.length_append, List.length_map, List.length_replicate]
  omega
theorem start_get {N : List PySem.Str} {vs : List V} {i : Nat} {v : V} (h : vs[i]? = some v) : (L2.start N vs)[i]? = some (some v) := by
  unfold L2.start
  have hl : i < (vs.map some).length := by
    rw [List.length_map]
    exact (List.getElem?_eq_some_iff.mp h).1
  rw [List.getElem?_append_left hl, List.getElem?_map, h]
  rfl
theorem start_len {N : List PySem.Str} {vs : List V} (h : vs.length ≤ N.length) : (L2.start N vs).length = N.length := by
  unfold L2.start
  rw [List.length_append, List.length_map, List.length_replicate]
  omega
theorem rel_start {N : List PySem.Str} {H Hs : Hp} {vs : List V} {ds : List D} (s : Same Hs H) (d : DRs K Hs vs ds) (hl : vs.length ≤ N.length) : Rel K (hid H Hs) (fun _ => 0) (pad N.length ds) (L2.start N vs) H Hs := by
  refine ⟨s, fun a o h => hid_some h, by rw [start_len hl, pad_len _ _ (by rw [← d.len]; exact hl)], fun i e h => ?_, fun i e es h h0 => ?_, fun i j e e' l h1 _ m1 _ _ _ => ?_, fun i es h => ?_⟩
  · rcases pad_get h with ⟨e', h1, h2⟩ | h2
    · cases h2
      obtain ⟨v, v1, v2⟩ := d.at h1
      exact ⟨v, start_get v1, v2⟩
    · cases h2
  · rcases pad_get h with ⟨e', _, h2⟩ | h2
    · subst h2; cases h0
    · subst h2; cases h0
  · rcases pad_get h1 with ⟨e', _, h2⟩ | h2
    · subst h2; exact absurd rfl m1
    · subst h2; exact absurd rfl m1
  · rcases pad_get h with ⟨e', _, h2⟩ | h2
    · cases h2
    · cases h2
/-- behind a def's body: what the caller wants to know -/
theorem ext_end {Fz : Hp} {ba : Nat → Addr} {G : Gam} {σ : L2.St} {H Hs H' Hs' : Hp} (s : Same Hs H) (hf : Fz = hid H Hs) (q : Rel K Fz ba G σ H' Hs') (z : Same Hs Hs') : Ext H Hs H' Hs' := by
  subst hf
  refine ⟨fun a o h => ?_, z, q.sub, fun a o h n => (q.fz a o (hid_of h n)).2⟩
  cases y : Hs a with
  | none => exact (q.fz a o (hid_of h y)).1
  | some u =>
    have e := s a u y
    rw [h] at e
    cases e
    exact q.sub a o (z a o y)
theorem res_end {Fz : Hp} {G : Gam} {σ : L2.St} {H Hs H' Hs' : Hp} {v : V} {r : R} (hf : Fz = hid H Hs) (z : Same Hs Hs') (x : Res K Fz G σ H' Hs' v r) : ResF K H H' Hs' v r := by
  subst hf
  cases r with
  | im d => exact x
  | ow ds =>
    obtain ⟨p, vs, rfl, h1, h2, h3, h4, _⟩ := x
    refine ⟨p, vs, rfl, ?_, h1, h2, h4⟩
    cases y : H p with
    | none => rfl
    | some o =>
      cases y2 : Hs p with
      | some u =>
        rw [z p u y2] at h2
        cases h2
      | none =>
        rw [hid_of y y2] at h3
        cases h3
theorem fin_F {N : List PySem.Str} {k : Nat} {t : TS} {b : MS} (h : SOk K t b) (hk : k ≤ N.length) {vs : List V} {H : Hp} {Q : VK} {E : XK} (q : spF K (runF k N.length b) vs H Q E) : t { nx := fun _ H' => Q .non H', rt := Q } (L2.start N vs) H := by
  obtain ⟨Hs, ds, r, s, d, e, kk⟩ := q
  unfold runF at e
  split at e
  case isFalse => cases e
  rename_i hl
  have hv : vs.length ≤ N.length := by rw [d.len, hl]; exact hk
  have R0 := rel_start (N := N) s d hv
  cases z : b (pad N.length ds) with
  | none => rw [z] at e; cases e
  | some p =>
    obtain ⟨fl, G'⟩ := p
    rw [z] at e
    refine h _ _ _ _ _ _ fl G' R0 z _ ?_
    cases fl with
    | nx => cases e; exact fun σ' H' Hs' q1 s1 => kk .non H' Hs' (ext_end s rfl q1 s1) .non
    | rt r' => cases e; exact fun v σ' H' Hs' q1 s1 x => kk v H' Hs' (ext_end s rfl q1 s1) (res_end rfl s1 x)
    | bk => cases e
    | ct => cases e
theorem spF_len {k n : Nat} {b : MS} {vs : List V} {H : Hp} {Q : VK} {E : XK} (q : spF K (runF k n b) vs H Q E) : vs.length = k := by
  obtain ⟨Hs, ds, r, s, d, e, kk⟩ := q
  unfold runF at e
  split at e
  case isFalse => cases e
  rename_i hl
  rw [d.len, hl]
/-- the same with a list that may change -/
def hidB (l : Addr) (H Hs : Hp) : Hp := fun a => if a = l then none else hid H Hs a
theorem hidB_of {l : Addr} {H Hs : Hp} {a : Addr} {o : HO} (ne : a ≠ l) (h : H a = some o) (n : Hs a = none) : hidB l H Hs a = some o := by
  unfold hidB
  rw [if_neg ne]
  exact hid_of h n
theorem rel_startB {N : List PySem.Str} {H Hs : Hp} {l : Addr} {bvs : HO} {vs : List V} {bds : Mob} {ds : List D} (s : Same Hs H) (hl : H l = some bvs) (hn : Hs l = none) (hb : MobO K Hs bds bvs) (d : DRs K Hs vs ds) (hz : vs.length + 1 ≤ N.length) :
    Rel K (hidB l H Hs) (fun _ => l) (.bx bds :: pad (N.length - 1) ds) (L2.start N (.ref l :: vs)) H Hs := by
  have e0 : L2.start N (.ref l :: vs) = some (.ref l) :: (vs.map some ++ List.replicate (N.length - (vs.length + 1)) none) := rfl
  have sg : ∀ {i : Nat} {v : V}, vs[i]? = some v → (L2.start N (.ref l :: vs))[i + 1]? = some (some v) := fun {i v} h => start_get (vs := .ref l :: vs) (by simpa using h)
  refine ⟨s, fun a o h => ?_, ?_, fun i e h => ?_, fun i e es h h0 => ?_, fun i j e e' l' h1 h2 m1 m2 _ _ => ?_, fun i es h => ?_⟩
  · unfold hidB at h
    split at h
    · cases h
    · exact hid_some h
  · rw [start_len (by simpa using hz), List.length_cons, pad_len _ _ (by rw [← d.len]; omega)]
    omega
  · cases i with
    | zero => cases h
    | succ i =>
      rcases pad_get (show (pad (N.length - 1) ds)[i]? = some _ by simpa using h) with ⟨e', h1, h2⟩ | h2
      · cases h2
        obtain ⟨v, v1, v2⟩ := d.at h1
        exact ⟨v, sg v1, v2⟩
      · cases h2
  · cases i with
    | zero =>
      cases h
      cases h0
      exact ⟨l, bvs, by rw [e0]; rfl, hl, hn, by unfold hidB; rw [if_pos rfl], hb⟩
    | succ i =>
      rcases pad_get (show (pad (N.length - 1) ds)[i]? = some _ by simpa using h) with ⟨e', _, h2⟩ | h2
      · subst h2; cases h0
      · subst h2; cases h0
  · have only : ∀ {i : Nat} {e : Ent}, (Ent.bx bds :: pad (N.length - 1) ds)[i]? = some e → e.mu ≠ none → i = 0 := fun {i e} h m => by
      cases i with
      | zero => rfl
      | succ i =>
        rcases pad_get (show (pad (N.length - 1) ds)[i]? = some _ by simpa using h) with ⟨e', _, h2⟩ | h2
        · subst h2; exact absurd rfl m
        · subst h2; exact absurd rfl m
    rw [only h1 m1, only h2 m2]
  · cases i with
    | zero => rw [e0]; rfl
    | succ i =>
      rcases pad_get (show (pad (N.length - 1) ds)[i]? = some _ by simpa using h) with ⟨e', _, h2⟩ | h2
      · cases h2
      · cases h2
theorem fin_B {N : List PySem.Str} {k : Nat} {t : TS} {b : MS} (h : SOk K t b) (hk : k ≤ N.length) {vs : List V} {H : Hp} {Q : VK} {E : XK} (q : spB K (runB k N.length b) vs H Q E) : t { nx := fun _ H' => Q .non H', rt := Q } (L2.start N vs) H := by
  obtain ⟨Hs, l, vs', bvs, bds, ds, r, bds', rfl, s, hl, hn, hb, d, e, kk⟩ := q
  unfold runB at e
  split at e
  case isFalse => cases e
  rename_i hlen
  have R0 := rel_startB (N := N) s hl hn hb d (by rw [d.len, hlen]; exact hk)
  -- what the caller wants to know
  have ex : ∀ {G σ H' Hs' bs}, Rel K (hidB l H Hs) (fun _ => l) (.bx bs :: G) σ H' Hs' → Same Hs Hs' → ExtB l H Hs H' Hs' ∧ ∃ ws, H' l = some ws ∧ Hs' l = none ∧ MobO K Hs' bs ws := fun {G σ H' Hs' bs} q1 s1 => by
    have hs0 : σ[0]? = some (some (.ref l)) := q1.bx 0 bs rfl
    obtain ⟨l', ws, a1, a2, a3, a4, a5⟩ := q1.mu 0 _ bs rfl rfl
    rw [hs0] at a1
    cases a1
    refine ⟨⟨fun a o ne h => ?_, s1, q1.sub, fun a o h n => ?_⟩, ws, a2, a3, a5⟩
    · cases y : Hs a with
      | none => exact (q1.fz a o (hidB_of ne h y)).1
      | some u =>
        have e := s a u y
        rw [h] at e
        cases e
        exact q1.sub a o (s1 a o y)
    · by_cases ne : a = l
      · rw [ne]; exact a3
      · exact (q1.fz a o (hidB_of ne h n)).2
  have rs : ∀ {G σ H' Hs' bs v r}, Rel K (hidB l H Hs) (fun _ => l) (.bx bs :: G) σ H' Hs' → Same Hs Hs' → Res K (hidB l H Hs) (.bx bs :: G) σ H' Hs' v r → ResF K H H' Hs' v r := fun {G σ H' Hs' bs v r} q1 s1 x => by
    cases r with
    | im d => exact x
    | ow ds =>
      obtain ⟨p, vs, rfl, h1, h2, h3, h4, h5⟩ := x
      have ne : p ≠ l := fun y => by
        subst y
        exact h5 0 _ rfl (by simp [Ent.mu]) (q1.bx 0 bs rfl)
      refine ⟨p, vs, rfl, ?_, h1, h2, h4⟩
      cases y : H p with
      | none => rfl
      | some o =>
        cases y2 : Hs p with
        | some u =>
          rw [s1 p u y2] at h2
          cases h2
        | none =>
          rw [hidB_of ne y y2] at h3
          cases h3
  cases z : b (.bx bds :: pad (N.length - 1) ds) with
  | none => rw [z] at e; cases e
  | some p =>
    obtain ⟨fl, G'⟩ := p
    rw [z] at e
    refine h _ _ _ _ _ _ fl G' R0 z _ ?_
    cases fl with
    | nx =>
      cases G' with
      | nil => cases e
      | cons e0 G' =>
        cases e0 with
        | bx bs =>
          cases e
          intro σ' H' Hs' q1 s1
          obtain ⟨x1, ws, x2, x3, x4⟩ := ex q1 s1
          exact kk .non H' Hs' ws x1 x2 x3 x4 .non
        | _ => cases e
    | rt r' =>
      cases G' with
      | nil => cases e
      | cons e0 G' =>
        cases e0 with
        | bx bs =>
          cases e
          intro v σ' H' Hs' q1 s1 x
          obtain ⟨x1, ws, x2, x3, x4⟩ := ex q1 s1
          exact kk v H' Hs' ws x1 x2 x3 x4 (rs q1 s1 x)
        | _ => cases e
    | bk => cases e
    | ct => cases e
theorem spB_len {k n : Nat} {b : MS} {vs : List V} {H : Hp} {Q : VK} {E : XK} (q : spB K (runB k n b) vs H Q E) : vs.length = k := by
  obtain ⟨Hs, l, vs', bvs, bds, ds, r, bds', rfl, s, hl, hn, hb, d, e, kk⟩ := q
  unfold runB at e
  split at e
  case isFalse => cases e
  rename_i hl
  rw [List.length_cons, d.len, hl]
end
theorem scope_le {N ps : List PySem.Str} {sc : Scope} (S : FnScope N ps sc) : ps.length ≤ N.length := by
  have h := congrArg List.length S.pre
  rw [List.length_take] at h
  omega
section
variable {P : Program} {w : World} {K : PySem.W.Frag} {mg : PySem.Str → Option Value} {base : Heap}
theorem data_F {x qual : PySem.Str} {st : Stmt} {f : Addr} {fd : FuncData} {N ps : List PySem.Str} {k : Nat} {b : MS} (F : Fun K x qual st f fd) (S : FnScope N ps (defScope st))
    (hb : ∀ (cdv : Value) (A : Around) (outer : List Env) (s : Shared) (H : Hp) (E : XK), Room k (A.deeper (PyProof.Rows.envOfC qual (defScope st) s.heap.objs.size f cdv)) →
      ∃ t, PSs (cxOf CX0 P w K mg base N qual (defScope st) f cdv A outer s H E).nox (defBody st) t ∧ SOk K t b) : FnOk P w K mg base CX0 (k + 1) f fd ps (spF K (runF ps.length N.length b)) :=
  F.ok S (fun vs H Q E q => spF_len q) fun cdv A outer s H vs Q E hr q => by
    obtain ⟨t, h1, h2⟩ := hb cdv A outer s H E hr
    exact ⟨t, h1, fin_F h2 (scope_le S) q⟩
theorem data_B {x qual : PySem.Str} {st : Stmt} {f : Addr} {fd : FuncData} {N ps : List PySem.Str} {k : Nat} {b : MS} (F : Fun K x qual st f fd) (S : FnScope N ps (defScope st))
    (hb : ∀ (cdv : Value) (A : Around) (outer : List Env) (s : Shared) (H : Hp) (E : XK), Room k (A.deeper (PyProof.Rows.envOfC qual (defScope st) s.heap.objs.size f cdv)) →
      ∃ t, PSs (cxOf CX0 P w K mg base N qual (defScope st) f cdv A outer s H E).nox (defBody st) t ∧ SOk K t b) : FnOk P w K mg base CX0 (k + 1) f fd ps (spB K (runB ps.length N.length b)) :=
  F.ok S (fun vs H Q E q => spB_len q) fun cdv A outer s H vs Q E hr q => by
    obtain ⟨t, h1, h2⟩ := hb cdv A outer s H E hr
    exact ⟨t, h1, fin_B h2 (scope_le S) q⟩
end
end Bk
namespace Bk
open PySem L2 PyProof.Rows
section
variable {P : Program} {w : World} {K : PySem.W.Frag} {mg : PySem.Str → Option Value} {base : Heap}
/-- the law's def called with one object, no call around it -/
theorem call_law {nm qual x : PySem.Str} {st : Stmt} {f a : Addr} {fd : FuncData} {N : List PySem.Str} {k : Nat} {b : MS} {s : Shared} {H : Hp} {Q : VK} (F : Fun K nm qual st f fd) (S : FnScope N [x] (defScope st)) (hr : Room (k + 1) callerA)
    (hb : ∀ (cdv : Value) (s : Shared) (H : Hp) (E : XK), (callerA.deeper (PyProof.Rows.envOfC qual (defScope st) s.heap.objs.size f cdv)).guards = some [] → Room k (callerA.deeper (PyProof.Rows.envOfC qual (defScope st) s.heap.objs.size f cdv)) →
      ∃ t, PSs (cxOf CX0 P w K mg base N qual (defScope st) f cdv callerA [] s H E).nox (defBody st) t ∧ SOk K t b)
    (e0 : Env0 P w K mg base callerA [] s H) (bd0 : BindsTo s fd ⟨[.ref a], []⟩ [(x, .ref a)]) (q : spF K (runF 1 N.length b) [.ref a] H Q E0) :
    codeAny (model P w) callerA (.call (.ref f) ⟨[.ref a], []⟩) (CR CX0 [] P w H s Q E0) s := by
  obtain ⟨oc, od, kV, doc, pm, an, cdv, ct, osl, rfl, lk, hcd⟩ := F.ex
  have KX : K.In s.heap := e0.mod.kin.keeps fun c o z => (e0.bs c o z).1
  have lim : s.heap.NoLimit := e0.mod.nolimit.keeps fun c o z => (e0.bs c o z).1
  have hpar := S.par x List.mem_cons_self
  refine codeAny_call_function hr.depth (KX f _ lk) rfl S.co S.gen rfl (PySem.W.codeRec_of KX hcd) (bd0 _ _ _ _ ?_)
  have hkd : ∀ y ∈ [(x, Value.ref a)], (defScope st).names.lookup y.1 = some .local ∨ ((defScope st).names.lookup y.1 = some .cell ∧ ((cellsFrom (s.heap.objs.size + 1) (defScope st).names []).lookup y.1).isSome = true) := by
    intro y hy
    obtain rfl := List.mem_singleton.mp hy
    rcases hpar with z | z
    · exact .inl z
    · exact .inr ⟨z, PySem.W.cellsFrom_some _ _ _ (.inl z)⟩
  refine wpAny_newFunctionEnv_cells S.kind hkd fun env he s1 y => ?_
  subst he
  refine ⟨lim.keeps y.toInCall.keep, codeAny_func ?_⟩
  obtain ⟨t, ht, hs⟩ := hb cdv s H E0 rfl (hr.deeper _)
  have I : Inv (cxOf CX0 P w K mg base N qual (defScope st) f cdv callerA [] s H E0) [] (L2.start N [.ref a]) H s1 := inv_start S hr.hd e0 rfl (.cons rfl .nil) y
  refine wpAny_mono (ht.nox.run [] s1 _ H _ I (fin_F hs (scope_le S) q)) (fun fl s2 h2 => ?_) fun e s2 h2 => h2
  cases fl with
  | ret u =>
    obtain ⟨v, σ2, H2, J, rv, q2⟩ := h2
    exact ⟨v, H2, J.os, J.bare, J.base, J.hok, rv, q2⟩
  | next =>
    obtain ⟨σ2, H2, J, q2⟩ := h2
    exact ⟨V.non, H2, J.os, J.bare, J.base, J.hok, rfl, q2⟩
  | brk =>
    obtain ⟨_, _, _, q2⟩ := h2
    exact q2.elim
  | cont =>
    obtain ⟨_, _, _, q2⟩ := h2
    exact q2.elim
end
/-- the goal that the head leaves, from what the law's body computes -/
theorem law_end {l : PySem.W.OpenLaw} {q : Program} {loose : List PySem.Str} {XP : (PySem.Str → Option Value) → Heap → Prop} {YP : World → Heap → Prop} {d : DefRec} {K : Params → PySem.W.Frag} {x : PySem.Str} {m : List D → Option R}
    (hn : l.most = some 63) (hdf : d.params.defaults = []) (hY : ∀ (w : World) (h : Heap), YP w h → (K w.params).In h)
    (F : ∀ (w : World) (mg : PySem.Str → Option Value) (fa : Addr) (h : Heap), (K w.params).In h → h.Ns mainGlobals mg → mg d.name = some (.ref fa) →
      ∃ fd : FuncData, (∀ (s : Shared) (u : Value), BindsTo s fd ⟨[u], []⟩ [(x, u)]) ∧
        ∀ (base : Heap) (s : Shared) (H : Hp) (a : Addr) (Q : VK), (K w.params).In base → base.Ns mainGlobals mg → Env0 l.prog w (K w.params) mg base callerA [] s H → BindsTo s fd ⟨[.ref a], []⟩ [(x, .ref a)] → spF (K w.params) m [.ref a] H Q E0 →
          codeAny (model l.prog w) callerA (.call (.ref fa) ⟨[.ref a], []⟩) (CR CX0 [] l.prog w H s Q E0) s)
    (hm : ∀ ns : List Int, ns.length ≤ 63 → m [.frz (ns.map .int)] = some (.im (.bl true))) :
    PySem.W.WalkO q loose XP YP l.row.toRowW d [] (fun f vs => PySem.call f vs) := by
  refine Att.attach_call hn hdf fun w s0 s1 mg mb fa o pm cd doc a vs ns G Y ho hd hcd hmg hobj hints hlen hg => ?_
  have KX := hY w _ Y
  obtain ⟨fd, hb, hF⟩ := F w mg fa _ KX G.T.g hmg
  have rv := vals_ints hints
  have hz : (ns.map V.int).length ≤ sizeLine := by rw [List.length_map]; exact Nat.le_trans hlen (by decide)
  have hsz : vs.toArray.size ≤ sizeLine := by rw [List.size_toArray, ← rv.length]; exact hz
  -- the run, from an abstract heap that knows the script at most
  have go : ∀ H : Hp, (∀ c, H c ≠ none → c = a) → (∀ c, H c = none ∨ ∃ ob xs, H c = some (.frz ob (.lst xs))) → SqL (K w.params) H a (ns.map V.int) → HOk l.prog w H s1.heap → (H a ≠ none → (K w.params).lookup a = none) →
      codeAny (model l.prog w) callerA (.call (.ref fa) ⟨[.ref a], []⟩) (fun r s' => r = .ok (.ret (.bool true)) ∧ OldK s1.heap s'.heap ∧ s'.os = s1.os ∧ AllBare s'.gens) s1 := by
    intro H hA hO hS hok hK
    have keepB : ∀ {c : Addr} {ob : Obj}, s1.heap.get? c = some ob → H c = none → (hidT s1.heap H).get? c = some ob := fun e n => hidT_get e n
    have free : ∀ {c : Addr} {ob : Obj}, s1.heap.get? c = some ob → (∀ its n, ob.data ≠ .seq its n) → H c = none := fun {c ob} e nd => by
      cases z : H c with
      | none => rfl
      | some u =>
        have e' := hA c (by rw [z]; simp)
        subst e'
        rw [hobj] at e
        cases e
        exact absurd rfl (nd _ _)
    have nsB : ∀ {c : Addr} {m : PySem.Str → Option Value}, s1.heap.Ns c m → (hidT s1.heap H).Ns c m := fun {c m} ⟨ob, es, ep, e, dd, r⟩ => ⟨ob, es, ep, keepB e (free e fun its n z => by rw [dd] at z; cases z), dd, r⟩
    have KB : (K w.params).In (hidT s1.heap H) := fun c ob e => keepB (KX c ob e) (by
      cases z : H c with
      | none => rfl
      | some u =>
        have e' := hA c (by rw [z]; simp)
        subst e'
        rw [hK (by rw [z]; simp)] at e
        cases e)
    have MB : Mod (K w.params) mg (hidT s1.heap H) := ⟨KB, nsB G.T.g, ⟨mb, nsB G.T.b, G.T.builtins⟩, let ⟨mc, z1, z2⟩ := G.T.nolimit; ⟨mc, nsB z1, z2⟩⟩
    have e0 : Env0 l.prog w (K w.params) mg (hidT s1.heap H) callerA [] s1 H :=
      ⟨rfl, MB, fun c ob e => of_hidT e, Nat.le_of_eq (hidT_size _ _), trivial, fun c hc => absurd (show c ∈ ([] : List Addr) from hc) (by simp), hok, .of_eq hg⟩
    have sp : spF (K w.params) m [.ref a] H (fun v _ => v = .bl true) E0 :=
      ⟨H, _, _, Same.refl _, .cons (.frz hS (DRs.ints ns)) .nil, hm ns hlen, fun v H' Hs' _ r => dr_bl r⟩
    refine codeAny_mono (hF _ s1 H a _ KB (nsB G.T.g) e0 (hb s1 _) sp) fun r s2 h2 => ?_
    cases r with
    | error e => exact h2.elim
    | ok fl =>
      cases fl with
      | next => exact h2.elim
      | brk => exact h2.elim
      | cont => exact h2.elim
      | ret u =>
        obtain ⟨v, H2, os, bare, un, hok2, rv2, qv⟩ := h2
        have qv' : v = .bl true := qv
        subst qv'
        obtain rfl : u = Value.bool true := rv2
        refine ⟨rfl, OldK.of_keep fun c ob e => ?_, os, bare⟩
        rcases hO c with z | ⟨ob2, xs, z⟩
        · exact un.keep c ob e z (by intro y; exact absurd (show c ∈ ([] : List Addr) from y) (by simp)) (by simp)
        · have y := un.frzs c ob2 _ z
          obtain ⟨y1, _⟩ := hok c _ z
          obtain ⟨y2, _⟩ := hok2 c _ y
          rw [e] at y1
          cases y1
          exact y2
  cases hk : (K w.params).lookup a with
  | some ob =>
    have e := KX a ob hk
    rw [hobj] at e
    cases e
    exact go (fun _ => none) (fun c z => absurd rfl z) (fun _ => .inl rfl) (.inr ⟨_, vs.toArray, _, hk, rfl, rfl, rfl, hsz, by simpa using rv⟩) (fun c u z => by cases z) fun z => absurd rfl z
  | none =>
    have yes : ∀ {u : HO}, (if a = a then some u else none) = some u := fun {u} => if_pos rfl
    refine go (fun c => if c = a then some (.frz { cls := .type "list", data := .seq vs.toArray } (.lst (ns.map V.int))) else none) (fun c z => ?_) (fun c => ?_) (.inl (.inr ⟨_, yes⟩)) (fun c u z => ?_) fun _ => hk
    · refine Classical.byContradiction fun ne => z (if_neg ne)
    · by_cases e : c = a
      · exact .inr ⟨_, _, if_pos e⟩
      · exact .inl (if_neg e)
    · by_cases e : c = a
      · subst e
        have z' := yes.symm.trans z
        cases z'
        exact ⟨hobj, hz, vs, _, rv, hobj⟩
      · have z' := (if_neg e).symm.trans z
        cases z'
end Bk
namespace Bk
open PySem L2 PyProof.Rows
def rSlA (K : PySem.W.Frag) : V → Option Int → Option Int → Hp → VK → Prop := fun x lo hi H Q => rSlL K x lo hi H Q ∨ rSlT K x lo hi H Q
section
variable {K : PySem.W.Frag}
def iSeq (K : PySem.W.Frag) (tl : TE) : TI := fun σ H R => tl σ H fun x H1 => ∃ a, x = .ref a ∧ (((∃ xs, SqL K H1 a xs) ∧ R (Itl K a) H1) ∨ ((∃ xs, SqT K H1 a xs) ∧ R (Itt K a) H1))
theorem pi_seq {X : Cx} {tg l : Expr} {tl : TE} (hl : PE X l tl) : PI X tg l (iSeq X.K tl) := by
  refine ⟨fun pins s σ H R I h => ?_⟩
  refine thn (hl.run pins s σ H _ I h) fun v s1 ⟨x, H1, I1, r1, q1⟩ => ?_
  obtain ⟨a, ex, hh⟩ := q1
  subst ex
  cases r1
  have fp : ∀ b ∈ [s1.heap.objs.size], FpOk X pins H1 b := fun b hb => by
    have e : b = s1.heap.objs.size := by simpa using hb
    subst e
    exact I1.fpOk (Nat.le_refl _) I1.fresh
  rcases hh with ⟨⟨xs, hq⟩, q⟩ | ⟨⟨xs, hq⟩, q⟩
  · obtain ⟨its, rv, p, hz⟩ := I1.list hq
    exact wpAny_pyIter_list p.isList ⟨_, _, _, _, H1, rfl, I1.kept (t' := s1.toks) fun b o e => Heap.get?_push_of_some _ e, turn_list a _, ⟨_, Heap.get?_push_size _ rfl, rfl, rfl⟩, fp, q⟩
  · obtain ⟨its, rv, p, hz⟩ := I1.tuple hq
    exact wpAny_pyIter_tuple (show s1.heap.IsTuple a its.toArray from p) ⟨_, _, _, _, H1, rfl, I1.kept (t' := s1.toks) fun b o e => Heap.get?_push_of_some _ e, turn_tuple a _, ⟨_, Heap.get?_push_size _ rfl, rfl, rfl⟩, fp, q⟩
def xseqI (a : M R) : M (List D) := fun G => bd (a G) fun x G1 => match seqD x.d with
  | some ds => some (ds, G1)
  | none => none
theorem ik_seq {ta : TE} {a : M R} (ha : GOk K ta a) : IOk K (iSeq K ta) (xseqI a) := fun Fz ba G σ H Hs ds G' q e Q k => by
  obtain ⟨x, G1, e1, e⟩ := bd_inv e
  refine ha.im q e1 fun v H1 Hs1 q1 s1 d => ?_
  cases h : x.d with
  | lst es =>
    rw [h] at e d
    cases e
    cases d with
    | lst hl hd => exact ⟨_, rfl, .inl ⟨⟨_, SqL.of (q1.sub _ _ hl)⟩, k _ H1 Hs1 q1 s1 (yl_list (SqL.of hl) hd)⟩⟩
  | frz es =>
    rw [h] at e d
    cases e
    cases d with
    | frz hl hd => exact ⟨_, rfl, .inl ⟨⟨_, same_lst q1.sub hl⟩, k _ H1 Hs1 q1 s1 (yl_list hl hd)⟩⟩
  | tup es =>
    rw [h] at e d
    cases e
    cases d with
    | tup hl hd => exact ⟨_, rfl, .inr ⟨⟨_, same_tup q1.sub hl⟩, k _ H1 Hs1 q1 s1 (yl_tup hl hd)⟩⟩
  | _ => rw [h] at e; cases e
end
theorem r70 {k : Nat} {A : Around} (hr : Room k A) : A.units + 70 < cLine := by
  have := hr.un
  omega
section
variable {X : Cx} {K : PySem.W.Frag} (hK : X.K = K)
include hK
theorem kop_eq (hu : X.A.units + 64 < cLine) : OpR X (compareOp .Eq) (rEqA K) := hK ▸ op_eqA hu
theorem kop_ne (hu : X.A.units + 64 < cLine) : OpR X (compareOp .NotEq) (rNeA K) := hK ▸ op_neA hu
theorem kix : IxR X (rIx K) := hK ▸ ix_seq
theorem kpi_seq {tg l : Expr} {tl : TE} (hl : PE X l tl) : PI X tg l (iSeq K tl) := hK ▸ pi_seq hl
theorem kcr_len : CallR X (.builtin "len") (rLen K) := hK ▸ cr_len
theorem kcr_any (hc : X.calm = true) : CallR X (.builtin "any") (rAny K) := hK ▸ cr_any hc
theorem kcr_all (hc : X.calm = true) : CallR X (.builtin "all") (rAll K) := hK ▸ cr_all hc
theorem kcr_tuple : CallR X (.type "tuple") (rTupleOf K) := hK ▸ cr_tuple
theorem kcr_list : CallR X (.type "list") (rListOf K) := hK ▸ cr_list
theorem kcr_isi : CallR X (.builtin "isinstance") (rIsi K) := hK ▸ call_isi
theorem kpg_tup {es : List Expr} {k : Nat} {t : TGs} {n : Nat} {pos : Pos} (hc : X.calm = true) (h : PGs X es t)
    (hn : (assignEach es X.env).length = n := by rfl) (hst : (assignEach es X.env).findIdx? (·.1) = none := by rfl) : PG X (.Tuple es k pos) (gTup K n t) := hK ▸ pg_tup hc h hn hst
def tTruK (K : PySem.W.Frag) (ta : TE) : TT := fun σ H Q => ta σ H fun x H' => ∃ k, TruV K x H' k ∧ Q k H'
theorem kpt_tru {a : Expr} {ta : TE} (ha : PE X a ta) (he : ∀ whole, isTrue a X.env whole = (do let v ← whole; standAt a.pos; holding [v] (truthy v))) : PT X a (tTruK K ta) := hK ▸ pt_truth ha he
theorem kpe_app {o e : Expr} {to te : TE} {apos cpos : Pos} (ho : PE X o to) (he : PE X e te)
    (hbase : attributeBase o "append" X.env (eval o X.env) = eval o X.env := by rfl)
    (hfew : ((backTo cpos (starEach [e] X.env)).all (fun x => !x.1) && (backToKw cpos (keywordEach [] X.env)).all (fun x => x.1.isSome) && decide ([e].length + ([] : List Keyword).length + (if ([] : List Keyword).isEmpty then 0 else 1) < 30)) = true := by rfl)
    (hline : (apos.endLine == cpos.line) = true := by rfl) (hs : starEach [e] X.env = (false, eval e X.env) :: starEach [] X.env := by rfl) (hplain : (backTo cpos (starEach [] X.env)).any (·.1) = false := by rfl) :
    PE X (.Call (.Attribute o "append" apos) [e] [] cpos) (tBM K "list" rAppend to (tCons te tNil)) :=
  hK ▸ pe_bm PySem.F.plainAttrs_list PySem.F.slot_list_append PySem.F.type_list_append mt_append ho (pa_cons he pa_nil hs) hbase hfew hline hs hplain
end
theorem tk_truK {K : PySem.W.Frag} {ta : TE} {a : M R} (ha : GOk K ta a) : TOk K (tTruK K ta) (xtru a) := tk_tru ha
/-- turns enough: one more than the number of the name at i -/
def fuelI (i : Nat) (G : Gam) : Nat := match G[i]? with
  | some (.im (.int j)) => j.natAbs + 1
  | _ => 0
/-- a def of the text, where it stands -/
structure FnT (K : PySem.W.Frag) (mg : PySem.Str → Option Value) (x : PySem.Str) (st : Stmt) where
  f : Addr
  fd : FuncData
  F : Fun K x x st f fd
  m : mg x = some (.ref f)
/-- a global that stands for data -/
structure CoT (K : PySem.W.Frag) (mg : PySem.Str → Option Value) (x : PySem.Str) (d : D) where
  v : V
  u : Value
  m : mg x = some u
  r : RelV v u
  d : ∀ H, DR K H v d
def coTup {K : PySem.W.Frag} {h : Heap} {mg : PySem.Str → Option Value} {x : PySem.Str} (X : K.In h) (G : h.Ns mainGlobals mg) {a : Addr} {dd : Option Addr} {its : Array Value} {n : Nat} {sl : Array (Option Value)} {vs : List V} {ds : List D}
    (ha : PySem.W.nsIn K mainGlobals x = some (some (.ref a))) (l : K.lookup a = some ⟨.type "tuple", dd, .seq its n, sl⟩) (hz : its.size ≤ sizeLine) (hv : Vals vs its.toList) (hd : ∀ H, DRs K H vs ds) : CoT K mg x (.tup ds) :=
  ⟨.ref a, .ref a, PySem.W.mg_of X G ha, rfl, fun H => .tup (.inr ⟨_, its, n, l, rfl, rfl, hz, hv⟩) (hd H)⟩
def fnT {K : PySem.W.Frag} {h : Heap} {mg : PySem.Str → Option Value} {x : PySem.Str} {st : Stmt} (X : K.In h) (G : h.Ns mainGlobals mg) {f : Addr} {od an : Option Addr} {sl : Array (Option Value)} {oc kV dc pm cd ct : Value}
    (a : PySem.W.nsIn K mainGlobals x = some (some (.ref f))) (l : K.lookup f = some ⟨oc, od, .func (PySem.W.fnOf x x (defArgs st) (defBody st) (defScope st) .none kV dc pm an cd ct), sl⟩) (c : PySem.W.codeIn K cd x = true) (k : PySem.W.keepIn K (.ref f) = true) : FnT K mg x st :=
  ⟨f, _, fun_mk l c k, PySem.W.mg_of X G a⟩
end Bk
namespace Bk
open PySem L2 PySem.Builtin PySem.Spec PyProof.Rows
theorem enum_of {v : Value} {o : Obj} {H : Heap → Prop} (B : Begins v o H) :
    Meets (Builtin.«enumerate.__new__» ⟨[.type "enumerate", v], []⟩) (fun _ R s => H s.heap ∧ R (.ok (.ret (.ref (s.heap.push o).objs.size)))
      { s with heap := (s.heap.push o).push { cls := .type "enumerate", data := .fields #[.none, .bool false, .ref s.heap.objs.size, rawInt 0, .none, .none] } }) :=
  .of_wp fun prog w A R s hh => by
    obtain ⟨hp, g, d, tk, os⟩ := s
    obtain ⟨hb, hr⟩ := hh
    have hsub := sub_enumerate
    have qi : ∀ {A' : Around} {E Q : Value → Shared → Prop}, Q (.ref hp.objs.size) ⟨hp.push o, g, d, tk, os⟩ → wpAny (model prog w) A' (pyIter v) Q E ⟨hp, g, d, tk, os⟩ := fun k => B.iter prog w _ _ ⟨hp, g, d, tk, os⟩ _ hb k
    wp_walk using qi
    refine wpAny_stack_any fun fr => wpAny_pure ?_
    split
    case h_1 c _ _ _ _ _ =>
      cases (c == Value.type "enumerate") <;> (wp_walk using qi; exact ⟨_, rfl, hr⟩)
    all_goals (wp_walk using qi; exact ⟨_, rfl, hr⟩)
theorem enum_call {prog : Program} {w : World} {A : Around} {E : Value → Shared → Prop} {s : Shared} {v : Value} {o : Obj} {H : Heap → Prop} {Q : Value → Shared → Prop} (B : Begins v o H) (h1 : H s.heap)
    (h : ∀ h', IsEnum h' (s.heap.objs.size + 1) s.heap.objs.size 0 .none → h'.get? s.heap.objs.size = some o → (∀ b ob, s.heap.get? b = some ob → h'.get? b = some ob) → Q (.ref (s.heap.objs.size + 1)) { s with heap := h' }) :
    wpAny (model prog w) A (call (.type "enumerate") [v]) Q E s := by
  have hz : (s.heap.push o).objs.size = s.heap.objs.size + 1 := Heap.size_push ..
  have he := Heap.get?_push_size (s.heap.push o) (o := { cls := .type "enumerate", data := .fields #[.none, .bool false, .ref s.heap.objs.size, rawInt 0, .none, .none] }) rfl
  rw [hz] at he
  refine callType_new F.called_enumerate (by decide) (F.typeCall_enumerate_1 _) (F.newCall_enumerate_1 _) (fun ob => F.args_object_init_2 ob _) F.entry_enumerate_new (enum_of B) ⟨h1, ?_⟩
  show _ ∧ _
  rw [hz]
  exact ⟨⟨_, he, rfl⟩, h _ he (Heap.get?_push_of_some _ (Heap.get?_push_size _ B.free)) fun b ob x => Heap.get?_push_of_some _ (Heap.get?_push_of_some _ x)⟩
theorem draws_end {prog : Program} {w : World} {A : Around} (hh : A.handled = none) (it t : Addr) (items : Array Value) (i : Nat) (hi : items.size ≤ i) :
    Draws prog w A it [it, t] i (fun _ _ => True) (fun j h => (h.IsTupleIter it t j ∧ h.IsTuple t items) ∧ j = i) where
  live := fun _ _ st => st.1.1.elim fun o ho => ⟨o, ho.1⟩
  frame := fun _ _ _ st hk => ⟨⟨st.1.1.at fun o e => hk it (by simp) o e, st.1.2.at fun o e => hk t (by simp) o e⟩, st.2⟩
  item := fun j s Q E hj st hQ => absurd st.2 (Nat.ne_of_lt hj)
  done := fun s Q E st hE => wpAny_nextOf_tuple_end hh st.1.1 st.1.2 (Array.getElem?_eq_none hi) hE
/-- the tuple at a, each item in a new pair -/
def Itet (K : PySem.W.Frag) (a : Addr) : It :=
  ⟨fun i H => ∃ (xs : List V) (x : V), SqT K H a xs ∧ xs[i]? = some x, fun i H v H' => ∃ T x, v = .ref T ∧ H T = none ∧ H' = upd H T (.tup [.int (i : Nat), x]) ∧ ∀ xs, SqT K H a xs → xs[i]? = some x, fun i H => ∃ xs : List V, SqT K H a xs ∧ xs.length ≤ i⟩
theorem turn_enumT {P : Program} {w : World} {K : PySem.W.Frag} {elts : List Expr} {kk : Nat} {tpos : Pos} (a e it : Addr) (hea : e ≠ a) (hta : a ≠ it) :
    Turn P w K (.Tuple elts kk tpos) (Itet K a) [e, it] e (fun i h => (∃ old, IsEnum h e it ((i : Nat) : Int) old) ∧ h.IsTupleIter it a i ∧ e ≠ it) where
  mem := by simp
  obj := fun i h st b hb => by
    obtain ⟨⟨old, he⟩, ⟨o, ho, hc, hd⟩, _⟩ := st
    have eb : b = e ∨ b = it := by simpa using hb
    rcases eb with rfl | rfl
    · exact ⟨_, he, fun v q => nomatch q⟩
    · exact ⟨o, ho, fun v q => by rw [hd] at q; cases q⟩
  keep := fun i h h' st k => ⟨st.1.elim fun old he => ⟨old, k e (by simp) _ he⟩, st.2.1.at fun o q => k it (by simp) o q, st.2.2⟩
  item := by
    intro X hP hw hK hc i pins s σ H E I hf st hg
    subst hP hw hK
    obtain ⟨⟨old, he⟩, hit, hne⟩ := st
    obtain ⟨xs, x, hq, hx⟩ := hg
    obtain ⟨its, rv, p, hz⟩ := I.tuple hq
    obtain ⟨u, hu, ru⟩ := rv.get hx
    have hlt : i < its.toArray.size := by
      have : i < its.length := (List.getElem?_eq_some_iff.mp hu).1
      simpa using this
    have hel : e < s.heap.objs.size := Heap.lt_size he
    have hil : it < s.heap.objs.size := by obtain ⟨_, q, _⟩ := hit; exact Heap.lt_size q
    refine wpAny_pyNext_enum_itemD (Draws.tuple (A := X.A.in1) (I.ok.hd hc) it a hta its.toArray) he ⟨hit, show s.heap.IsTuple a its.toArray from p⟩ hlt hne (by simp [hne, hea]) fun y h' tk hP ho st' hT hsz hk => ?_
    have ey : y = u := by
      have : its[i]? = some y := by simpa using hP
      rw [hu] at this
      cases this
      rfl
    subst ey
    refine ⟨_, rfl, wpAny_letOwnedTupleGo_enum (s := { s with heap := h', toks := tk + 1 }) ho fun h'' he' sb => ?_⟩
    have hT2 := (sb.2 _ (Nat.ne_of_gt hel)).trans hT
    have new : ObjOk X.prog X.w (upd H s.heap.objs.size (.tup [.int (i : Nat), x])) h'' s.heap.objs.size (.tup [.int (i : Nat), x]) :=
      ⟨by show 2 ≤ sizeLine; decide, [.int i tk, y], .cons ⟨_, rfl⟩ (.cons ru .nil), ⟨_, hT2, rfl, _, rfl⟩⟩
    have I1 : Inv X pins σ (upd H s.heap.objs.size (.tup [.int (i : Nat), x])) { s with heap := h'', toks := tk + 1 } :=
      I.turnedNew (ch := [e, it]) (fun b ob hb q => (sb.2 b (fun z => hb (by simp [z]))).trans (hk b ob (fun z => hb (by simp [z])) (fun z => hb (by simp [z])) q)) hf (Nat.le_refl _) new
    refine ⟨.ref s.heap.objs.size, _, I1, rfl, ⟨_, x, rfl, I.hok.fresh (Nat.le_refl _), rfl, fun ys hy => by rw [I.tuple_inj hy hq]; exact hx⟩, ⟨⟨y, ?_⟩, st'.1.at fun o q => (sb.2 it (Ne.symm hne)).trans q, hne⟩, fun b hb => ?_⟩
    · rw [show ((i + 1 : Nat) : Int) = (i : Int) + 1 by omega]
      exact he'
    · have eb : b = e ∨ b = it := by simpa using hb
      have hlb : b < s.heap.objs.size := by rcases eb with rfl | rfl; exact hel; exact hil
      rw [upd_ne (Nat.ne_of_lt hlb)]
      exact (hf b hb).1
  done := by
    intro X hP hw hK hc i pins s σ H E I hf st hg
    subst hP hw hK
    obtain ⟨⟨old, he⟩, hit, hne⟩ := st
    obtain ⟨xs, hq, hx⟩ := hg
    obtain ⟨its, rv, p, hz⟩ := I.tuple hq
    have hl := rv.length
    obtain ⟨f0, f1, f2, f3, f4, f5⟩ := hf it (by simp)
    exact wpAny_pyNext_enum_endD (draws_end (A := X.A.in1) (I.ok.hd hc) it a its.toArray i (by simp; omega)) he ⟨⟨hit, show s.heap.IsTuple a its.toArray from p⟩, rfl⟩ fun h' eb => ⟨rfl, I.turned (t' := s.toks) (fun b o hb q => eb b o hb q) f0 f1 f3 f4 f5⟩
  self := fun A i s Q E st h => let ⟨⟨_, he⟩, _⟩ := st; wpAny_pyIter_enum he h
/-- over a list or a tuple -/
def iEnumA (K : PySem.W.Frag) (ta : TA) : TI := fun σ H R => ta σ H fun vs H1 => ∃ a, vs = [.ref a] ∧ (((∃ xs, SqL K H1 a xs) ∧ R (Ite K a) H1) ∨ ((∃ xs, SqT K H1 a xs) ∧ R (Itet K a) H1))
theorem pi_enumA {X : Cx} {e : Expr} {ta : TA} {p pos tpos : Pos} {elts : List Expr} {kk : Nat} (hg : Gl X "enumerate") (hm : X.mg "enumerate" = none) (ha : PA X [e] ta) (hs : starEach [e] X.env = [(false, eval e X.env)] := by rfl) :
    PI X (.Tuple elts kk tpos) (.Call (.Name "enumerate" p) [e] [] pos) (iEnumA X.K ta) := by
  refine ⟨fun pins s σ H R I h => Call_ (ld_blt I hg hm boot_enumerate (callWith_type1 (thn (ha.run pos pins s σ H _ I h) fun us s1 ⟨vs, H1, I1, r1, a, ex, q⟩ => ?_) hs rfl))⟩
  subst ex
  cases r1 with
  | cons r rr =>
    cases rr
    cases r
    have fp : ∀ b ∈ [s1.heap.objs.size + 1, s1.heap.objs.size], FpOk X pins H1 b := fun b hb => by
      have eb : b = s1.heap.objs.size + 1 ∨ b = s1.heap.objs.size := by simpa using hb
      have hle : s1.heap.objs.size ≤ b := by
        rcases eb with rfl | rfl
        · exact Nat.le_succ _
        · exact Nat.le_refl _
      exact I1.fpOk hle (I1.hok.fresh hle)
    rcases q with ⟨⟨xs, hq⟩, q⟩ | ⟨⟨xs, hq⟩, q⟩
    · obtain ⟨its, rv, p', hz⟩ := I1.list hq
      exact call_enumerate_list p'.isList fun h' he hit hsz hk => wpAny_pyIter_enum he ⟨_, _, _, _, H1, rfl, I1.kept (t' := s1.toks) hk, turn_enum a _ _, ⟨⟨.none, he⟩, hit, Nat.succ_ne_self _⟩, fp, q⟩
    · obtain ⟨its, rv, p', hz⟩ := I1.tuple hq
      have hlt : a < s1.heap.objs.size := by obtain ⟨o, e, _⟩ := p'; exact Heap.lt_size e
      exact enum_call (begins_tuple a its.toArray) (show s1.heap.IsTuple a its.toArray from p') fun h' he hit hk => wpAny_pyIter_enum he
        ⟨_, _, _, _, H1, rfl, I1.kept (t' := s1.toks) hk, turn_enumT a _ _ (Nat.ne_of_gt (Nat.lt_succ_of_lt hlt)) (Nat.ne_of_lt hlt), ⟨⟨.none, he⟩, ⟨_, hit, rfl, rfl⟩, Nat.succ_ne_self _⟩, fp, q⟩
section
variable {K : PySem.W.Frag}
theorem yl_enumT {Hs : Hp} {a : Addr} {xs : List V} {ds : List D} (ha : SqT K Hs a xs) (da : DRs K Hs xs ds) : Yl K (Itet K a) (enumD 0 ds) Hs where
  go := fun i H s hi => by
    rw [enum_len] at hi
    exact ⟨xs, xs[i]'(by rw [da.len]; omega), same_tup s ha, by simp⟩
  stop := fun i H s hi => by
    rw [enum_len] at hi
    exact ⟨xs, same_tup s ha, by rw [da.len]; omega⟩
  yld := fun i x H H' Hs1 _ s s1 y => by
    obtain ⟨T, x1, rfl, hT, rfl, h1⟩ := y
    obtain ⟨d1, e1, r1⟩ := da.ta (h1 xs (same_tup (s.trans s1) ha))
    have ex : Ext H Hs1 (upd H T (.tup [.int (i : Nat), x1])) (upd Hs1 T (.tup [.int (i : Nat), x1])) := Ext.new s1 hT
    refine ⟨.tup [.int (i : Nat), d1], _, ?_, ex, .tup (SqT.of upd_same) (.cons (.int _) (.cons (r1.mono (s.trans ex.b)) .nil))⟩
    rw [enum_get e1, Nat.zero_add]
def xenumA (a : M (List D)) : M (List D) := fun G => bd (a G) fun xs G1 => match xs with
  | [x] => match seqD x with
    | some ds => some (enumD 0 ds, G1)
    | none => none
  | _ => none
theorem ik_enumA {ta : TA} {a : M (List D)} (ha : AOk K ta a) : IOk K (iEnumA K ta) (xenumA a) := fun Fz ba G σ H Hs ds G' q e Q k => by
  obtain ⟨xs, G1, e1, e⟩ := bd_inv e
  refine ha Fz ba G σ H Hs xs _ q e1 _ fun vs H1 Hs1 q1 s1 d => ?_
  split at e
  case h_2 => cases e
  rename_i x
  cases d with
  | cons d1 d2 =>
    cases d2
    cases h : seqD x with
    | none => rw [h] at e; cases e
    | some es =>
      rw [h] at e
      cases e
      cases x with
      | lst xs => cases h; obtain ⟨a1, x1, rfl, l1, r1⟩ := asL_ok d1 rfl; exact ⟨a1, rfl, .inl ⟨⟨_, same_lst q1.sub l1⟩, k _ H1 Hs1 q1 s1 (yl_enum l1 r1)⟩⟩
      | frz xs => cases h; obtain ⟨a1, x1, rfl, l1, r1⟩ := asL_ok d1 rfl; exact ⟨a1, rfl, .inl ⟨⟨_, same_lst q1.sub l1⟩, k _ H1 Hs1 q1 s1 (yl_enum l1 r1)⟩⟩
      | tup xs =>
        cases h
        cases d1 with
        | tup hl hd => exact ⟨_, rfl, .inr ⟨⟨_, same_tup q1.sub hl⟩, k _ H1 Hs1 q1 s1 (yl_enumT hl hd)⟩⟩
      | _ => cases h
end
theorem kpi_enumA {X : Cx} {K : PySem.W.Frag} (hK : X.K = K) {e : Expr} {ta : TA} {p pos tpos : Pos} {elts : List Expr} {kk : Nat} (hg : Gl X "enumerate") (hm : X.mg "enumerate" = none) (ha : PA X [e] ta) (hs : starEach [e] X.env = [(false, eval e X.env)] := by rfl) :
    PI X (.Tuple elts kk tpos) (.Call (.Name "enumerate" p) [e] [] pos) (iEnumA K ta) := hK ▸ pi_enumA hg hm ha hs
end Bk
namespace Bk
open PySem L2 PySem.Builtin PySem.Spec PyProof.Rows
/-- a list (k) or a tuple -/
def SqK (K : PySem.W.Frag) (k : Bool) (a : Addr) (H : Hp) (xs : List V) : Prop := match k with
  | true => SqL K H a xs
  | false => SqT K H a xs
def ItK (k : Bool) (it a : Addr) (i : Nat) (h : Heap) : Prop := match k with
  | true => h.IsListIter it a i
  | false => h.IsTupleIter it a i
def InK (k : Bool) (a : Addr) (its : Array Value) (h : Heap) : Prop := match k with
  | true => h.IsList a its
  | false => h.IsTuple a its
def obK (k : Bool) (a : Addr) : Obj := match k with
  | true => { cls := .type "list_iterator", data := .fields #[.ref a, .int 0 0] }
  | false => { cls := .type "tuple_iterator", data := .fields #[.ref a, .int 0 0] }
theorem draws_k {prog : Program} {w : World} {A : Around} (hh : A.handled = none) (k : Bool) (it a : Addr) (hne : a ≠ it) (its : Array Value) : Draws prog w A it [it, a] its.size (fun i v => its[i]? = some v) (fun i h => ItK k it a i h ∧ InK k a its h) := by
  cases k
  · exact Draws.tuple hh it a hne its
  · exact Draws.list hh it a hne its
theorem drawsL_end {prog : Program} {w : World} {A : Around} (hh : A.handled = none) (it t : Addr) (items : Array Value) (i : Nat) (hi : items.size ≤ i) :
    Draws prog w A it [it, t] i (fun _ _ => True) (fun j h => (h.IsListIter it t j ∧ h.IsList t items) ∧ j = i) where
  live := fun _ _ st => st.1.1.elim fun o ho => ⟨o, ho.1⟩
  frame := fun _ _ _ st hk => ⟨⟨st.1.1.at fun o e => hk it (by simp) o e, st.1.2.at fun o e => hk t (by simp) o e⟩, st.2⟩
  item := fun j s Q E hj st hQ => absurd st.2 (Nat.ne_of_lt hj)
  done := fun s Q E st hE => wpAny_nextOf_list_end hh st.1.1 st.1.2 (Array.getElem?_eq_none hi) hE
theorem draws_stop {prog : Program} {w : World} {A : Around} (hh : A.handled = none) (k : Bool) (it a : Addr) (hne : a ≠ it) (its : Array Value) (i : Nat) {h : Heap} (h1 : ItK k it a i h) (h2 : InK k a its h) :
    ∃ n P St, Draws prog w A it [it, a] n P St ∧ St i h ∧ i ≤ n ∧ (its.size ≤ i → i = n) := by
  by_cases hi : its.size ≤ i
  · cases k
    · exact ⟨_, _, _, draws_end hh it a its i hi, ⟨⟨h1, h2⟩, rfl⟩, Nat.le_refl _, fun _ => rfl⟩
    · exact ⟨_, _, _, drawsL_end hh it a its i hi, ⟨⟨h1, h2⟩, rfl⟩, Nat.le_refl _, fun _ => rfl⟩
  · exact ⟨_, _, _, draws_k hh k it a hne its, ⟨h1, h2⟩, by omega, fun z => absurd z hi⟩
theorem begins_k (k : Bool) (a : Addr) (its : Array Value) : Begins (.ref a) (obK k a) (InK k a its) := by
  cases k
  · exact begins_tuple a its
  · exact begins_list a its
theorem itk_obj {k : Bool} {it a : Addr} {i : Nat} {h : Heap} (h1 : ItK k it a i h) : ∃ o, h.get? it = some o ∧ ∀ v, o.data ≠ .cell v := by
  cases k
  · obtain ⟨o, e, _, d⟩ := h1
    exact ⟨o, e, fun v q => by rw [d] at q; cases q⟩
  · obtain ⟨o, e, _, d⟩ := h1
    exact ⟨o, e, fun v q => by rw [d] at q; cases q⟩
theorem ItK.at {k : Bool} {it a : Addr} {i : Nat} {h h' : Heap} (h1 : ItK k it a i h) (hk : ∀ o, h.get? it = some o → h'.get? it = some o) : ItK k it a i h' := by
  cases k
  · exact Heap.IsTupleIter.at h1 hk
  · exact Heap.IsListIter.at h1 hk
theorem itk_new {k : Bool} {it a : Addr} {h : Heap} (e : h.get? it = some (obK k a)) : ItK k it a 0 h := by
  cases k
  · exact ⟨_, e, rfl, rfl⟩
  · exact ⟨_, e, rfl, rfl⟩
section
variable {X : Cx} {pins : List (Addr × Obj)} {σ : L2.St} {H : Hp} {s : Shared} {k : Bool} {a : Addr} {xs ys : List V}
theorem inv_k (I : Inv X pins σ H s) (h : SqK X.K k a H xs) : ∃ its : List Value, Vals xs its ∧ InK k a its.toArray s.heap ∧ a < s.heap.objs.size := by
  cases k
  · obtain ⟨its, r, p, _⟩ := I.tuple h
    exact ⟨its, r, show s.heap.IsTuple a its.toArray from p, by obtain ⟨o, e, _⟩ := p; exact Heap.lt_size e⟩
  · obtain ⟨its, r, p, _⟩ := I.list h
    exact ⟨its, r, p.isList, p.lt⟩
theorem inj_k (I : Inv X pins σ H s) (h : SqK X.K k a H xs) (h' : SqK X.K k a H ys) : xs = ys := by
  cases k
  · exact I.tuple_inj h h'
  · exact I.list_inj h h'
end
def ItZ (K : PySem.W.Frag) (k l : Bool) (a b : Addr) : It :=
  ⟨fun i H => ∃ (xs ys : List V) (x y : V), SqK K k a H xs ∧ SqK K l b H ys ∧ xs[i]? = some x ∧ ys[i]? = some y,
    fun i H v H' => ∃ T x y, v = .ref T ∧ H T = none ∧ H' = upd H T (.tup [x, y]) ∧ (∀ xs, SqK K k a H xs → xs[i]? = some x) ∧ ∀ ys, SqK K l b H ys → ys[i]? = some y,
    fun i H => ∃ xs ys : List V, SqK K k a H xs ∧ SqK K l b H ys ∧ (xs.length ≤ i ∨ ys.length ≤ i)⟩
theorem turn_zipK {P : Program} {w : World} {K : PySem.W.Frag} {elts : List Expr} {kk : Nat} {tpos : Pos} {k l : Bool} {a b z TI TO i1 i2 : Addr} (D : ZipSep2 z TI TO i1 i2 [i1, a] [i2, b]) (ha : a ≠ i1) (hb : b ≠ i2) :
    Turn P w K (.Tuple elts kk tpos) (ItZ K k l a b) [z, TI, TO, i1, i2] z (fun i h => IsZip h z TI TO .none ∧ IsTupOf2 h TI (.ref i1) (.ref i2) ∧ (∃ x y, IsTupOf2 h TO x y) ∧ ItK k i1 a i h ∧ ItK l i2 b i h) where
  mem := by simp
  obj := fun i h st c hc => by
    obtain ⟨hz, hTI, ⟨x, y, hTO⟩, h1, h2⟩ := st
    have ec : c = z ∨ c = TI ∨ c = TO ∨ c = i1 ∨ c = i2 := by simpa using hc
    rcases ec with rfl | rfl | rfl | rfl | rfl
    · exact ⟨_, hz, fun v q => nomatch q⟩
    · exact ⟨_, hTI, fun v q => nomatch q⟩
    · exact ⟨_, hTO, fun v q => nomatch q⟩
    · exact itk_obj h1
    · exact itk_obj h2
  keep := fun i h h' st kp => by
    obtain ⟨hz, hTI, ⟨x, y, hTO⟩, h1, h2⟩ := st
    exact ⟨kp z (by simp) _ hz, kp TI (by simp) _ hTI, ⟨x, y, kp TO (by simp) _ hTO⟩, h1.at fun o q => kp i1 (by simp) o q, h2.at fun o q => kp i2 (by simp) o q⟩
  item := by
    intro X hP hw hK hc i pins s σ H E I hf st hg
    subst hP hw hK
    obtain ⟨hz, hTI, ⟨x0, y0, hTO⟩, h1, h2⟩ := st
    obtain ⟨xs, ys, x, y, qx, qy, hx, hy⟩ := hg
    obtain ⟨its, rv, p, _⟩ := inv_k I qx
    obtain ⟨its2, rv2, p2, _⟩ := inv_k I qy
    obtain ⟨u, hu, ru⟩ := rv.get hx
    obtain ⟨u2, hu2, ru2⟩ := rv2.get hy
    have hlt : i < its.toArray.size := by simpa using (List.getElem?_eq_some_iff.mp hu).1
    have hlt2 : i < its2.toArray.size := by simpa using (List.getElem?_eq_some_iff.mp hu2).1
    have hzl : z < s.heap.objs.size := Heap.lt_size hz
    have lts : ∀ c ∈ [z, TI, TO, i1, i2], c < s.heap.objs.size := fun c hcm => by
      have ec : c = z ∨ c = TI ∨ c = TO ∨ c = i1 ∨ c = i2 := by simpa using hcm
      rcases ec with rfl | rfl | rfl | rfl | rfl
      · exact hzl
      · exact Heap.lt_size hTI
      · exact Heap.lt_size hTO
      · obtain ⟨_, e1, _⟩ := itk_obj h1; exact Heap.lt_size e1
      · obtain ⟨_, e2, _⟩ := itk_obj h2; exact Heap.lt_size e2
    refine wpAny_pyNext_zipD2_item D (draws_k (A := X.A.in1) (I.ok.hd hc) k i1 a ha its.toArray) (draws_k (A := X.A.in1) (I.ok.hd hc) l i2 b hb its2.toArray) hz hTI hTO ⟨h1, p⟩ ⟨h2, p2⟩ hlt hlt2 fun v1 v2 h' tk e1 e2 z' TO' st1 st2 hT hsz hk => ?_
    have ev1 : v1 = u := by
      have q : its[i]? = some v1 := by simpa using e1
      rw [hu] at q; cases q; rfl
    have ev2 : v2 = u2 := by
      have q : its2[i]? = some v2 := by simpa using e2
      rw [hu2] at q; cases q; rfl
    subst ev1 ev2
    refine ⟨_, rfl, wpAny_letOwnedTupleGo_zip (s := { s with heap := h', toks := tk }) z' fun h'' z'' sb => ?_⟩
    have hT2 : h''.get? s.heap.objs.size = some { cls := .type "tuple", data := .seq #[v1, v2] } := (sb.2 _ (Nat.ne_of_gt hzl)).trans hT
    have new : ObjOk X.prog X.w (upd H s.heap.objs.size (.tup [x, y])) h'' s.heap.objs.size (.tup [x, y]) := ⟨by show 2 ≤ sizeLine; decide, [v1, v2], .cons ru (.cons ru2 .nil), ⟨_, hT2, rfl, _, rfl⟩⟩
    have I1 : Inv X pins σ (upd H s.heap.objs.size (.tup [x, y])) { s with heap := h'', toks := tk } :=
      I.turnedNew (ch := [z, TI, TO, i1, i2]) (fun c o hcb q => (sb.2 c (fun q' => hcb (by simp [q']))).trans (hk c o (fun q' => hcb (by simp [q'])) (fun q' => hcb (by simp [q'])) (fun q' => hcb (by simp [q'])) (fun q' => hcb (by simp [q'])) q)) hf (Nat.le_refl _) new
    have n1 : i1 ≠ z := fun q => D.zf1 (q ▸ D.mem1)
    have n2 : i2 ≠ z := fun q => D.zf2 (q ▸ D.mem2)
    refine ⟨.ref s.heap.objs.size, _, I1, rfl, ⟨_, x, y, rfl, I.hok.fresh (Nat.le_refl _), rfl, fun l' hl => by rw [inj_k I hl qx]; exact hx, fun l' hl => by rw [inj_k I hl qy]; exact hy⟩, ⟨z'', ?_, ⟨v1, v2, (sb.2 _ D.TOz).trans TO'⟩, st1.1.at fun o q => (sb.2 _ n1).trans q, st2.1.at fun o q => (sb.2 _ n2).trans q⟩, fun c hcm => ?_⟩
    · exact (sb.2 _ D.TIz).trans (hk _ _ D.TIz D.TITO D.TIi1 D.TIi2 hTI)
    · rw [upd_ne (Nat.ne_of_lt (lts c hcm))]
      exact (hf c hcm).1
  done := by
    intro X hP hw hK hc i pins s σ H E I hf st hg
    subst hP hw hK
    obtain ⟨hz, hTI, ⟨x0, y0, hTO⟩, h1, h2⟩ := st
    obtain ⟨xs, ys, qx, qy, hend⟩ := hg
    obtain ⟨its, rv, p, _⟩ := inv_k I qx
    obtain ⟨its2, rv2, p2, _⟩ := inv_k I qy
    have l1 := rv.length
    have l2 := rv2.length
    obtain ⟨n1, P1, St1, D1, s1, le1, e1⟩ := draws_stop (prog := X.prog) (w := X.w) (A := X.A.in1) (I.ok.hd hc) k i1 a ha its.toArray i h1 p
    obtain ⟨n2, P2, St2, D2, s2, le2, e2⟩ := draws_stop (prog := X.prog) (w := X.w) (A := X.A.in1) (I.ok.hd hc) l i2 b hb its2.toArray i h2 p2
    exact wpAny_pyNext_zipD2_end D D1 D2 hz hTI hTO s1 s2 le1 le2 (by
      rcases hend with q | q
      · exact .inl (e1 (by simp; omega))
      · exact .inr (e2 (by simp; omega))) fun h' tk hk => ⟨rfl, I.turnedL (ch := [z, TI, TO, i1, i2]) (fun c o hcb q => hk c o (fun q' => hcb (by simp [q'])) (fun q' => hcb (by simp [q'])) (fun q' => hcb (by simp [q'])) (fun q' => hcb (by simp [q'])) q) hf⟩
  self := fun A i s Q E st h => wpAny_pyIter_zip st.1 h
def iZipA (K : PySem.W.Frag) (ta : TA) : TI := fun σ H R => ta σ H fun vs H1 => ∃ k l a b xs ys, vs = [.ref a, .ref b] ∧ SqK K k a H1 xs ∧ SqK K l b H1 ys ∧ R (ItZ K k l a b) H1
theorem pi_zipA {X : Cx} {e e2 : Expr} {ta : TA} {p pos tpos : Pos} {elts : List Expr} {kk : Nat} (hg : Gl X "zip") (hm : X.mg "zip" = none) (ha : PA X [e, e2] ta)
    (hs : starEach [e, e2] X.env = (false, eval e X.env) :: starEach [e2] X.env := by rfl) (hpl : (backTo pos (starEach [e2] X.env)).any (·.1) = false := by rfl) :
    PI X (.Tuple elts kk tpos) (.Call (.Name "zip" p) [e, e2] [] pos) (iZipA X.K ta) := by
  refine ⟨fun pins s σ H R I h => Call_ (ld_blt I hg hm PyProof.Rows.boot_zip (callWith_type1 (thn (ha.run pos pins s σ H _ I h) fun us s1 ⟨vs, H1, I1, r1, k, l, a, b, xs, ys, ex, qx, qy, q⟩ => ?_) hs hpl))⟩
  subst ex
  cases r1 with
  | cons r rr =>
    cases rr with
    | cons r' rr =>
      cases rr
      cases r
      cases r'
      obtain ⟨its, rv, p1, la⟩ := inv_k I1 qx
      obtain ⟨its2, rv2, p2, lb⟩ := inv_k I1 qy
      refine zip_begins2 (begins_k k a its.toArray) (begins_k l b its2.toArray) p1 p2 fun h' hz hTI hTO h1 h2 hsz hk => wpAny_pyIter_zip hz ?_
      have sep := zip_sep2 (N := s1.heap.objs.size) (fp1 := [a]) (fp2 := [b]) (by simpa using la) (by simpa using lb)
      refine ⟨_, _, _, _, H1, rfl, I1.kept (t' := s1.toks) hk, turn_zipK sep (Nat.ne_of_lt la) (Nat.ne_of_lt (Nat.lt_succ_of_lt lb)), ⟨hz, hTI, ⟨_, _, hTO⟩, itk_new h1, itk_new h2⟩, fun c hcm => ?_, q⟩
      have ec : c = s1.heap.objs.size + 4 ∨ c = s1.heap.objs.size + 2 ∨ c = s1.heap.objs.size + 3 ∨ c = s1.heap.objs.size ∨ c = s1.heap.objs.size + 1 := by simpa using hcm
      have hle : s1.heap.objs.size ≤ c := by
        rcases ec with rfl | rfl | rfl | rfl | rfl
        · exact Nat.le_add_right _ _
        · exact Nat.le_add_right _ _
        · exact Nat.le_add_right _ _
        · exact Nat.le_refl _
        · exact Nat.le_add_right _ _
      exact I1.fpOk hle (I1.hok.fresh hle)
theorem kpi_zipA {X : Cx} {K : PySem.W.Frag} (hK : X.K = K) {e e2 : Expr} {ta : TA} {p pos tpos : Pos} {elts : List Expr} {kk : Nat} (hg : Gl X "zip") (hm : X.mg "zip" = none) (ha : PA X [e, e2] ta)
    (hs : starEach [e, e2] X.env = (false, eval e X.env) :: starEach [e2] X.env := by rfl) (hpl : (backTo pos (starEach [e2] X.env)).any (·.1) = false := by rfl) :
    PI X (.Tuple elts kk tpos) (.Call (.Name "zip" p) [e, e2] [] pos) (iZipA K ta) := hK ▸ pi_zipA hg hm ha hs hpl
section
variable {K : PySem.W.Frag}
theorem same_k {k : Bool} {a : Addr} {H H' : Hp} {xs : List V} (s : Same H H') (h : SqK K k a H xs) : SqK K k a H' xs := by
  cases k
  · exact same_tup s h
  · exact same_lst s h
theorem seqD_ok {H : Hp} {v : V} {d : D} {ds : List D} (h : DR K H v d) (e : seqD d = some ds) : ∃ k a xs, v = .ref a ∧ SqK K k a H xs ∧ DRs K H xs ds := by
  cases d with
  | tup xs =>
    cases e
    cases h with
    | tup hl hd => exact ⟨false, _, _, rfl, hl, hd⟩
  | lst xs => obtain ⟨a, vs, z, hl, hd⟩ := asL_ok h e; exact ⟨true, a, vs, z, hl, hd⟩
  | frz xs => obtain ⟨a, vs, z, hl, hd⟩ := asL_ok h e; exact ⟨true, a, vs, z, hl, hd⟩
  | _ => cases e
theorem yl_zipA {Hs : Hp} {k l : Bool} {a b : Addr} {xs ys : List V} {ds es : List D} (ha : SqK K k a Hs xs) (hb : SqK K l b Hs ys) (da : DRs K Hs xs ds) (db : DRs K Hs ys es) : Yl K (ItZ K k l a b) ((ds.zip es).map fun p => .tup [p.1, p.2]) Hs where
  go := fun i H s hi => by
    rw [List.length_map, List.length_zip] at hi
    exact ⟨xs, ys, xs[i]'(by rw [da.len]; omega), ys[i]'(by rw [db.len]; omega), same_k s ha, same_k s hb, by simp, by simp⟩
  stop := fun i H s hi => by
    rw [List.length_map, List.length_zip] at hi
    exact ⟨xs, ys, same_k s ha, same_k s hb, by rw [da.len, db.len]; omega⟩
  yld := fun i x H H' Hs1 _ s s1 y => by
    obtain ⟨T, x1, y1, rfl, hT, rfl, h1, h2⟩ := y
    obtain ⟨d1, e1, r1⟩ := da.ta (h1 xs (same_k (s.trans s1) ha))
    obtain ⟨d2, e2, r2⟩ := db.ta (h2 ys (same_k (s.trans s1) hb))
    have ex : Ext H Hs1 (upd H T (.tup [x1, y1])) (upd Hs1 T (.tup [x1, y1])) := Ext.new s1 hT
    refine ⟨.tup [d1, d2], _, ?_, ex, .tup (SqT.of upd_same) (.cons (r1.mono (s.trans ex.b)) (.cons (r2.mono (s.trans ex.b)) .nil))⟩
    rw [List.getElem?_map, zip_get e1 e2]
    rfl
def xzipA (a : M (List D)) : M (List D) := fun G => bd (a G) fun xs G1 => match xs with
  | [x, y] => match seqD x, seqD y with
    | some ds, some es => some ((ds.zip es).map fun p => .tup [p.1, p.2], G1)
    | _, _ => none
  | _ => none
theorem ik_zipA {ta : TA} {a : M (List D)} (ha : AOk K ta a) : IOk K (iZipA K ta) (xzipA a) := fun Fz ba G σ H Hs ds G' q e Q k => by
  obtain ⟨xs, G1, e1, e⟩ := bd_inv e
  refine ha Fz ba G σ H Hs xs _ q e1 _ fun vs H1 Hs1 q1 s1 d => ?_
  split at e
  case h_2 => cases e
  split at e
  case h_2 => cases e
  rename_i h1 h2
  cases e
  cases d with
  | cons d1 d2 =>
    cases d2 with
    | cons d2 d3 =>
      cases d3
      obtain ⟨k1, a1, x1, rfl, l1, r1⟩ := seqD_ok d1 h1
      obtain ⟨k2, a2, x2, rfl, l2, r2⟩ := seqD_ok d2 h2
      exact ⟨k1, k2, a1, a2, x1, x2, rfl, same_k q1.sub l1, same_k q1.sub l2, k _ H1 Hs1 q1 s1 (yl_zipA l1 l2 r1 r2)⟩
end
end Bk
namespace Bk
open PySem L2
theorem cAttrs_nd (c : Nat) : (cAttrs c).Nodup := by
  match c with
  | 0 => decide +kernel
  | 1 => decide +kernel
  | 2 => decide +kernel
  | 3 => decide +kernel
  | 4 => decide +kernel
  | n + 5 => show (cAttrs 5).Nodup; decide +kernel
section
variable {K : PySem.W.Frag} {H : Hp}
theorem fs_get : ∀ {fs : List (PySem.Str × V)} {i : Nat} {v : V}, (fs.map (·.1)).Nodup → (fs.map (·.2))[i]? = some v → ∀ f, (fs.map (·.1))[i]? = some f → fs.lookup f = some v
  | [], _, _, _, h, _, _ => by simp at h
  | (g, x) :: r, 0, _, _, h, f, e => by
    simp at h e
    subst h e
    simp [List.lookup]
  | (g, x) :: r, i + 1, v, nd, h, f, e => by
    simp only [List.map_cons, List.getElem?_cons_succ] at h e
    rw [List.map_cons, List.nodup_cons] at nd
    have hne : f ≠ g := fun z => nd.1 (z ▸ List.mem_of_getElem? e)
    have hb : (f == g) = false := beq_eq_false_iff_ne.mpr hne
    show List.lookup f ((g, x) :: r) = some v
    simp only [List.lookup, hb]
    exact fs_get nd.2 h f e
theorem fs_none {fs : List (PySem.Str × V)} {f : PySem.Str} (h : f ∉ fs.map (·.1)) : fs.lookup f = none := by
  induction fs with
  | nil => rfl
  | cons p r ih =>
    obtain ⟨g, x⟩ := p
    rw [List.map_cons, List.mem_cons, not_or] at h
    have hb : (f == g) = false := beq_eq_false_iff_ne.mpr h.1
    simp only [List.lookup, hb]
    exact ih h.2
theorem putF_old : ∀ {fs : List (PySem.Str × V)} {i : Nat} {f : PySem.Str} {v : V}, (fs.map (·.1)).Nodup → (fs.map (·.1))[i]? = some f → (putF f v fs).map (·.1) = fs.map (·.1) ∧ (putF f v fs).map (·.2) = (fs.map (·.2)).set i v
  | [], _, _, _, _, h => by simp at h
  | (g, x) :: r, 0, f, v, _, h => by
    simp at h
    subst h
    simp only [putF, if_true]
    exact ⟨rfl, rfl⟩
  | (g, x) :: r, i + 1, f, v, nd, h => by
    simp only [List.map_cons, List.getElem?_cons_succ] at h
    rw [List.map_cons, List.nodup_cons] at nd
    have hne : g ≠ f := fun z => nd.1 (z ▸ List.mem_of_getElem? h)
    simp only [putF, if_neg hne]
    obtain ⟨i1, i2⟩ := putF_old (v := v) nd.2 h
    exact ⟨by rw [List.map_cons, i1]; rfl, by rw [List.map_cons, i2]; rfl⟩
theorem putF_new : ∀ {fs : List (PySem.Str × V)} {f : PySem.Str} {v : V}, f ∉ fs.map (·.1) → (putF f v fs).map (·.1) = fs.map (·.1) ++ [f] ∧ (putF f v fs).map (·.2) = fs.map (·.2) ++ [v]
  | [], _, _, _ => ⟨rfl, rfl⟩
  | (g, x) :: r, f, v, h => by
    rw [List.map_cons, List.mem_cons, not_or] at h
    simp only [putF, if_neg (fun z : g = f => h.1 z.symm)]
    obtain ⟨i1, i2⟩ := putF_new (v := v) h.2
    exact ⟨by rw [List.map_cons, i1]; rfl, by rw [List.map_cons, i2]; rfl⟩
theorem take_nd {c n : Nat} : ((cAttrs c).take n).Nodup := List.Nodup.sublist (List.take_sublist _ _) (cAttrs_nd c)
theorem take_at {c n i : Nat} {f : PySem.Str} (h : (cAttrs c)[i]? = some f) (hi : i < n) : ((cAttrs c).take n)[i]? = some f := by
  rw [List.getElem?_take, if_pos hi]
  exact h
/-- what is known of a class of the text -/
structure ClT (K : PySem.W.Frag) (mg : PySem.Str → Option Value) (c : Nat) where
  C : Addr
  mg : mg (cName c) = some (.ref C)
  at_ : CAt K c C
  cls : Cls K C
  na : ∀ f ∈ cAttrs c, NoAttr K C f
variable {mg : PySem.Str → Option Value}
/-- o.f, the i-th attribute of an instance of the class c -/
def xfld (c i : Nat) (a : M R) : M R := fun G => bd (a G) fun x G1 => match x.d with
  | .obj c' ds => if c' = c then (match ds[i]? with | some d => some (.im d, G1) | none => none) else none
  | _ => none
theorem gk_fld {c i : Nat} {f : PySem.Str} (T : ClT K mg c) (hf : (cAttrs c)[i]? = some f) {ta : TE} {a : M R} (ha : GOk K ta a) : GOk K (tFld K ta f) (xfld c i a) := fun Fz ba G σ H Hs res G' q e0 Q k => by
  obtain ⟨x, G1, e1, e⟩ := bd_inv e0
  refine ha.im q e1 fun v H1 Hs1 q1 s1 d1 => ?_
  cases hd : x.d with
  | obj c' ds =>
    rw [hd] at e d1
    simp only at e
    split at e
    case isFalse => cases e
    rename_i hc
    subst hc
    split at e
    case h_2 => cases e
    rename_i d hi
    cases e
    cases d1 with
    | obj hC hH hn hv hs =>
      subst hv
      cases hC.eq T.at_
      obtain ⟨w, w1, w2⟩ := hs.at hi
      have hlt : i < ds.length := (List.getElem?_eq_some_iff.mp hi).1
      refine ⟨_, _, _, _, w, rfl, q1.sub _ _ hH, T.cls, T.na f (List.mem_of_getElem? hf), fs_get ?_ w1 f ?_, k w H1 Hs1 q1 s1 w2⟩
      · rw [hn]; exact take_nd
      · rw [hn]; exact take_at hf hlt
  | _ => rw [hd] at e; cases e
/-- the i-th attribute stored -/
def putO (i : Nat) (x : D) (ds : List D) : Option (List D) := if i < ds.length then some (ds.set i x) else if i = ds.length then some (ds ++ [x]) else none
def putA (j c i : Nat) (x : D) (G : Gam) : Option Gam := match G[j]? with
  | some e => match e.mu with
    | some (.o c' ds) => if c' = c then (match putO i x ds with | some es => some (G.set j (e.with (.o c es))) | none => none) else none
    | _ => none
  | none => none
theorem cAttrs_few (c : Nat) : (cAttrs c).length ≤ 6 := by
  match c with
  | 0 => decide
  | 1 => decide
  | 2 => decide
  | 3 => decide
  | 4 => decide
  | n + 5 => show (cAttrs 5).length ≤ 6; decide
theorem putA_ok {j c i : Nat} {f : PySem.Str} (T : ClT K mg c) (hf : (cAttrs c)[i]? = some f) {Fz : Hp} {ba : Nat → Addr} {G G' : Gam} {σ : L2.St} {H Hs : Hp} {v : V} {d : D} (q : Rel K Fz ba G σ H Hs) (hd : DR K Hs v d) (e : putA j c i d G = some G') :
    ∃ a dx fs, σ[j]? = some (some (.ref a)) ∧ H a = some (.ins T.C dx fs) ∧ fs.length < 1000 ∧ Rel K Fz ba G' σ (upd H a (.ins T.C dx (putF f v fs))) Hs := by
  unfold putA at e
  cases h : G[j]? with
  | none => simp only [h] at e; cases e
  | some en =>
    cases h0 : en.mu with
    | none => simp only [h, h0] at e; cases e
    | some mm =>
     cases mm with
     | l _ => simp only [h, h0] at e; cases e
     | o c' ds =>
      simp only [h, h0] at e
      split at e
      case isFalse => cases e
      rename_i hc
      subst hc
      split at e
      case h_2 => cases e
      rename_i es hp
      cases e
      obtain ⟨l, o, g1, g2, g3, g4, C, dx, fs, hC, rfl, hn, hs⟩ := q.mu j en _ h h0
      cases hC.eq T.at_
      have hlen : fs.length = ds.length := by
        have z := hs.len
        rw [List.length_map] at z
        exact z
      have hi6 : (cAttrs c').length ≤ 6 := cAttrs_few c'
      have hle : ds.length ≤ 6 := by
        have z := congrArg List.length hn
        rw [List.length_map, List.length_take, hlen] at z
        omega
      refine ⟨l, dx, fs, g1, g2, by omega, ?_⟩
      have hiA : i < (cAttrs c').length := (List.getElem?_eq_some_iff.mp hf).1
      refine q.mut h h0 g1 (extB_upd q.sub g3) upd_same g3 ⟨_, dx, putF f v fs, hC, rfl, ?_⟩
      unfold putO at hp
      have nd : (fs.map (·.1)).Nodup := by rw [hn]; exact take_nd
      split at hp
      · rename_i hlt
        cases hp
        obtain ⟨p1, p2⟩ := putF_old (v := v) nd (by rw [hn]; exact take_at hf hlt)
        rw [p1, p2, List.length_set]
        exact ⟨hn, DRs.set hd i hs⟩
      · split at hp
        case isFalse => cases hp
        rename_i hlt heq
        cases hp
        have hnew : f ∉ fs.map (·.1) := by
          rw [hn]
          intro hm
          obtain ⟨j', hj⟩ := List.mem_iff_getElem?.mp hm
          have hj1 : j' < ds.length := by
            have z := (List.getElem?_eq_some_iff.mp hj).1
            rw [List.length_take] at z
            omega
          rw [List.getElem?_take, if_pos hj1] at hj
          have hj2 := (List.getElem?_eq_some_iff.mp hj)
          have hf2 := (List.getElem?_eq_some_iff.mp hf)
          obtain ⟨a1, a2⟩ := hj2
          obtain ⟨b1, b2⟩ := hf2
          have z : j' = i := (List.getElem_inj (cAttrs_nd c')).mp (a2.trans b2.symm)
          omega
        obtain ⟨p1, p2⟩ := putF_new (v := v) hnew
        rw [p1, p2]
        refine ⟨?_, hs.app (.cons hd .nil)⟩
        rw [hn, List.length_append, List.length_singleton, List.take_succ, ← heq, hf]
        rfl
def xsetf (j c i : Nat) (a : M R) : MS := fun G => bd (a G) fun x G1 => match putA j c i x.d G1 with
  | some G2 => some (.nx, G2)
  | none => none
theorem sk_setf {j c i : Nat} {f : PySem.Str} (T : ClT K mg c) (hf : (cAttrs c)[i]? = some f) {ta : TE} {a : M R} (ha : GOk K ta a) : SOk K (sFld K (tVar j) ta f) (xsetf j c i a) := fun Fz ba G σ H Hs fl G' q e Dn p => by
  obtain ⟨x, G1, e1, e⟩ := bd_inv e
  cases h : putA j c i x.d G1 with
  | none => rw [h] at e; cases e
  | some G2 =>
    rw [h] at e
    cases e
    refine ha.im q e1 fun v H1 Hs1 q1 s1 d1 => ?_
    obtain ⟨b, dx, fs, g1, g2, g3, g4⟩ := putA_ok T hf q1 d1 h
    exact ⟨_, g1, b, T.C, dx, fs, rfl, g2, T.cls, T.na f (List.mem_of_getElem? hf), g3, p σ _ Hs1 g4 s1⟩
end
end Bk
namespace Bk
open PySem L2
section
variable {X : Cx} {CX : CXT} {k : Nat} {C g : Addr} {fd : FuncData} {ps : List PySem.Str} {sp : Sp} {E : XK}
/-- isinstance(x, a tuple of types), the tuple known in any way -/
def rIsiS (K : PySem.W.Frag) : List V → Hp → VK → Prop := fun xs H Q => ∃ (x : V) (tp : Addr) (cs : List V) (t : Value) (us : List Value) (b : Bool), xs = [x, .ref tp] ∧ SqT K H tp cs ∧ Paired ClsV cs us ∧ TyX K H x t ∧ PySem.W.kitAny K t us = some b ∧ Q (.bl b) H
theorem cr_isiS : CallR X (.builtin "isinstance") (rIsiS X.K) := by
  intro pins s σ H xs us Q I r h
  obtain ⟨x, tp, cs, t, ws, b, rfl, hT, kk, ty, e, q⟩ := h
  obtain ⟨u1, u2, rfl, r1, r2⟩ := vals2 r
  cases (show u2 = Value.ref tp from r2)
  obtain ⟨P, Z, p, hx⟩ := kit_of I r1 ty
  obtain ⟨its, rv, ⟨⟨oc, od, dt, sl⟩, h1, h2, n, h3⟩, _⟩ := I.tuple hT
  have e3 := ClsV.all kk rv
  subst e3
  simp only at h2 h3
  subst h2 h3
  exact PySem.W.kia_tup Z I.kIn p h1 e hx fun tk => ⟨.bl b, H, I.tok tk, rfl, q⟩
end
section
variable {K : PySem.W.Frag} {mg : PySem.Str → Option Value}
def xmeth (c : Nat) (m : List D → Option R) (dds : List D) (a : M R) (as : M (List D)) : M R := fun G => bd (a G) fun x G1 => match x.d with
  | .obj c' ds => if c' = c then bd (as G1) fun xs G2 => (match m (.obj c' ds :: (xs ++ dds)) with
    | some r => some (r, G2)
    | none => none) else none
  | _ => none
theorem gk_meth {c : Nat} {nm : PySem.Str} {m : List D → Option R} {dds : List D} {dvs : List V} {E : XK} (T : ClT K mg c) (hn : nm ∉ cAttrs c) (hd : ∀ H, DRs K H dvs dds) {ta : TE} {tas : TA} {a : M R} {as : M (List D)} (ha : GOk K ta a) (has : AOk K tas as) :
    GOk K (tMeth T.C nm (spF K m) dvs E ta tas) (xmeth c m dds a as) := fun Fz ba G σ H Hs res G' q e0 Q k => by
  obtain ⟨x, G1, e1, e⟩ := bd_inv e0
  refine ha.im q e1 fun v H1 Hs1 q1 s1 d1 => ?_
  cases hx : x.d with
  | obj c' ds =>
    rw [hx] at e d1
    simp only at e
    split at e
    case isFalse => cases e
    rename_i hc
    subst hc
    obtain ⟨xs, G2, e2, e⟩ := bd_inv e
    split at e
    case h_2 => cases e
    rename_i r hm
    cases e
    have dd := d1
    cases d1 with
    | obj hC hH hns hv hs =>
      subst hv
      cases hC.eq T.at_
      refine ⟨_, _, _, rfl, q1.sub _ _ hH, fs_none (fun z => hn ?_), ?_⟩
      · rw [hns] at z
        exact List.mem_of_mem_take z
      · refine has Fz ba G1 σ H1 Hs1 xs _ q1 e2 _ fun vs H2 Hs2 q2 s2 d2 => ?_
        exact ⟨Hs2, _, _, q2.sub, .cons (dd.mono s2) (d2.app (hd _)), hm, fun v H3 Hs3 ex rf => k v H3 Hs3 (q2.ext ex) ((s1.trans s2).trans ex.b) (rf.res q2)⟩
  | _ => rw [hx] at e; cases e
def tyL : List D → Option (List String)
  | [] => some []
  | .ty b :: r => (tyL r).map fun l => b :: l
  | _ :: _ => none
def isiL (a : String) : List String → Option Bool
  | [] => some false
  | b :: r => match isiT a b with
    | some true => some true
    | some false => isiL a r
    | none => none
theorem tyL_ok {H : Hp} : ∀ {ds : List D} {vs : List V} {l : List String}, DRs K H vs ds → tyL ds = some l → Paired ClsV vs (l.map Value.type)
  | [], _, _, h, e => by cases h; cases e; exact .nil
  | d :: ds, _, l, h, e => by
    cases h with
    | cons h1 h2 =>
      cases d with
      | ty b =>
        cases h1
        unfold tyL at e
        cases z : tyL ds with
        | none => rw [z] at e; cases e
        | some l' =>
          rw [z] at e
          cases e
          exact .cons (.ty b) (tyL_ok h2 z)
      | _ => cases e
theorem isiL_ok {a : String} (ha : ["NoneType", "bool", "int", "str", "list", "tuple"].contains a = true) : ∀ {l : List String} {k : Bool}, isiL a l = some k → PySem.W.kitAny K (.type a) (l.map Value.type) = some k
  | [], _, e => by cases e; rfl
  | b :: l, k, e => by
    unfold isiL at e
    rw [List.map_cons]
    unfold PySem.W.kitAny
    split at e
    · rename_i z
      cases e
      rw [kit_ty (isiT_ok ha z)]
    · rename_i z
      rw [kit_ty (isiT_ok ha z)]
      exact isiL_ok ha e
    · cases e
def cbIsiS : List D → Option R
  | [d, .tup cs] => match tyS d, tyL cs with
    | some t, some l => (isiL t l).map fun k => .im (.bl k)
    | _, _ => none
  | _ => none
theorem cd_isiS : CbD K (rIsiS K) cbIsiS := fun H Hs xs ds res s h e Q k => by
  unfold cbIsiS at e
  split at e
  case h_2 => cases e
  split at e
  case h_2 => cases e
  rename_i t l z1 z2
  cases z3 : isiL t l with
  | none => rw [z3] at e; cases e
  | some b =>
    rw [z3] at e
    cases e
    cases h with
    | cons a a2 =>
      cases a2 with
      | cons a2 a3 =>
        cases a3
        cases a2 with
        | tup h1 h2 =>
          obtain ⟨t1, t2⟩ := tyS_ok (a.mono s) z1
          exact ⟨_, _, _, _, _, b, rfl, same_tup s h1, tyL_ok h2 z2, t1, isiL_ok t2 z3, k _ H Hs (Ext.refl s) (.bl _)⟩
end
end Bk
namespace Bk
open PySem L2
section
variable {K : PySem.W.Frag}
def xstar (a : M R) (r : M (List D)) : M (List D) := fun G => bd (a G) fun x G1 => match seqD x.d with
  | some ds => bd (r G1) fun es G2 => some (ds ++ es, G2)
  | none => none
theorem ak_star {ta : TE} {tr : TA} {a : M R} {r : M (List D)} (ha : GOk K ta a) (hr : AOk K tr r) : AOk K (StX.tStar K ta tr) (xstar a r) := fun Fz ba G σ H Hs ds G' q e0 Q k => by
  obtain ⟨x, G1, e1, e⟩ := bd_inv e0
  refine ha.im q e1 fun v H1 Hs1 q1 s1 d1 => ?_
  split at e
  case h_2 => cases e
  rename_i xs hx
  obtain ⟨es, G2, e2, e⟩ := bd_inv e
  cases e
  obtain ⟨kk, p, vs, rfl, hp, hd⟩ := seqD_ok d1 hx
  have hp1 : SqT K H1 p vs ∨ SqL K H1 p vs := by
    cases kk with
    | true => exact .inr (same_lst q1.sub hp)
    | false => exact .inl (same_tup q1.sub hp)
  exact ⟨p, vs, rfl, hp1, hr Fz ba G1 σ H1 Hs1 es _ q1 e2 _ fun ws H2 Hs2 q2 s2 d2 => k _ H2 Hs2 q2 (s1.trans s2) ((hd.mono s2).app d2)⟩
def opAddB : D → D → Option R
  | .tup xs, .tup ys => if few (xs.length + ys.length) then some (.im (.tup (xs ++ ys))) else none
  | x, y => opAdd x y
def rAddB (K : PySem.W.Frag) : R2 := fun x y H Q => rAddA x y H Q ∨ rCatA K x y H Q
theorem op_addB {X : Cx} : OpR X (binaryOp .Add) (rAddB X.K) := op_addA.or op_catA
theorem od_addB : OpD K (rAddB K) opAddB := fun H Hs x y dx dy res s hx hy e Q k => by
  unfold opAddB at e
  split at e
  · split at e
    case isFalse => cases e
    rename_i xs ys hf
    cases e
    have hx0 := hx
    have hy0 := hy
    cases hx with
    | tup h1 d1 =>
      cases hy with
      | tup h2 d2 =>
        refine .inr ⟨_, _, _, _, rfl, rfl, same_tup s h1, same_tup s h2, by rw [d1.len, d2.len]; exact few_ok hf, fun z => ?_, fun _ z => ?_, fun _ _ p hp => ?_⟩
        · subst z
          cases d1
          exact k _ H Hs (Ext.refl s) hy0
        · subst z
          cases d2
          rw [List.append_nil] at k
          exact k _ H Hs (Ext.refl s) hx0
        · exact k _ _ _ (Ext.new s hp) (.tup (SqT.of upd_same) ((d1.app d2).mono (Ext.new (o := HO.tup _) s hp).b))
  · exact .inl (od_add H Hs x y dx dy res s hx hy e Q k)
def slB (d : D) (lo hi : Option Int) : Option R := match d with
  | .tup xs => some (.im (.tup (cutD xs lo hi)))
  | .str z => if few z.length then some (.im (.str (cutS z lo hi))) else none
  | d => slL d lo hi
def rSlB (K : PySem.W.Frag) : V → Option Int → Option Int → Hp → VK → Prop := fun x lo hi H Q => (rSlL K x lo hi H Q ∨ L2.rSlA K x lo hi H Q) ∨ rSlS x lo hi H Q
theorem sl_B {X : Cx} : SlR X (rSlB X.K) := (sl_list.or sl_tupA).or sl_str
theorem cut_whole {xs : List D} {lo hi : Option Int} (h : HT.sIx xs.length 0 lo = 0 ∧ HT.sIx xs.length xs.length hi = xs.length) : cutD xs lo hi = xs := by
  unfold cutD
  rw [h.1, h.2]
  simp
theorem sd_B : SlD K (rSlB K) slB := fun H Hs x dx l h res s hx e Q k => by
  unfold slB at e
  split at e
  · cases e
    have hx0 := hx
    cases hx with
    | tup h1 d1 =>
      refine .inl (.inr ⟨_, _, rfl, same_tup s h1, fun z => ?_, fun z p hp => ?_⟩)
      · rw [d1.len] at z
        rw [cut_whole z] at k
        exact k _ H Hs (Ext.refl s) hx0
      · exact k _ _ _ (Ext.new s hp) (.tup (SqT.of upd_same) (cut_ok (d1.mono (Ext.new (o := HO.tup _) s hp).b) _ _))
  · split at e
    case isFalse => cases e
    rename_i hf
    cases e
    cases hx
    exact .inr ⟨_, rfl, few_ok hf, k _ H Hs (Ext.refl s) (.str _)⟩
  · exact .inl (.inl (sd_list H Hs x _ l h res s hx e Q k))
def flatD : D → Option V
  | .non => some .non
  | .bl b => some (.bl b)
  | .int i => some (.int i)
  | .str x => some (.str x)
  | _ => none
def flatDs : List D → Option (List V)
  | [] => some []
  | d :: ds => match flatD d, flatDs ds with
    | some v, some vs => some (v :: vs)
    | _, _ => none
theorem flatD_ok {H : Hp} {x v : V} {d : D} (h : DR K H x d) (e : flatD d = some v) : x = v ∧ flatV v = true := by
  cases h <;> cases e <;> exact ⟨rfl, rfl⟩
theorem flatDs_ok {H : Hp} : ∀ {ds : List D} {xs vs : List V}, DRs K H xs ds → flatDs ds = some vs → xs = vs ∧ vs.all flatV = true
  | [], _, _, h, e => by cases h; cases e; exact ⟨rfl, rfl⟩
  | d :: ds, _, _, h, e => by
    unfold flatDs at e
    split at e
    case h_2 => cases e
    rename_i h1 h2
    cases e
    cases h with
    | cons a b =>
      obtain ⟨e1, f1⟩ := flatD_ok a h1
      obtain ⟨e2, f2⟩ := flatDs_ok b h2
      subst e1 e2
      exact ⟨rfl, by rw [List.all_cons, f1, f2]; rfl⟩
def opIn (neg : Bool) (x y : D) : Option R := match y with
  | .str z => match x with
    | .str i => match i.cps.toList with
      | [c] => some (.im (.bl (if neg then !decide (c ∈ z.cps.toList) else decide (c ∈ z.cps.toList))))
      | _ => none
    | _ => none
  | y => match seqD y, flatD x with
    | some ds, some v => match flatDs ds with
      | some vs => some (.im (.bl (if neg then !inV v vs else inV v vs)))
      | none => none
    | _, _ => none
def rInA (K : PySem.W.Frag) (neg : Bool) : R2 := fun x y H Q => rIn K neg x y H Q ∨ ∃ (c : Nat) (z : PySem.Str), x = .str ⟨#[c]⟩ ∧ y = .str z ∧ Q (.bl (if neg then !decide (c ∈ z.cps.toList) else decide (c ∈ z.cps.toList))) H
theorem op_notInA {X : Cx} : OpR X (compareOp .NotIn) (rInA X.K true) := op_notIn_seq.or op_notIn_sign
theorem od_in {neg : Bool} : OpD K (rInA K neg) (opIn neg) := fun H Hs x y dx dy res s hx hy e Q k => by
  unfold opIn at e
  split at e
  · split at e
    case h_2 => cases e
    split at e
    case h_2 => cases e
    rename_i z _ i _ c hc
    have hi : i = ⟨#[c]⟩ := by
      have z2 : i.cps = #[c] := by
        have z3 := congrArg List.toArray hc
        simpa using z3
      cases i
      exact congrArg PySem.Str.mk z2
    subst hi
    cases e
    cases hx; cases hy
    exact .inr ⟨c, z, rfl, rfl, k _ H Hs (Ext.refl s) (.bl _)⟩
  · split at e
    case h_2 => cases e
    rename_i ds v h1 h2
    split at e
    case h_2 => cases e
    rename_i vs h3
    cases e
    obtain ⟨e1, f1⟩ := flatD_ok hx h2
    obtain ⟨kk, p, xs, rfl, hp, hd⟩ := seqD_ok hy h1
    obtain ⟨e3, f3⟩ := flatDs_ok hd h3
    subst e1 e3
    refine .inl ⟨p, xs, rfl, ?_, f1, f3, k _ H Hs (Ext.refl s) (.bl _)⟩
    cases kk with
    | true => exact .inl (same_lst s hp)
    | false => exact .inr (same_tup s hp)
end
section
variable {K : PySem.W.Frag}
def MutD (K : PySem.W.Frag) (r : V → List V → Hp → VK → Prop) (f : List D → List D → Option (D × List D)) : Prop := ∀ H Hs l vs ds ws xs d ds', Same Hs H → H l = some (.lst vs) → DRs K Hs vs ds → DRs K Hs ws xs → f ds xs = some (d, ds') →
  ∀ Q : VK, (∀ v vs', DR K Hs v d → DRs K Hs vs' ds' → Q v (upd H l (.lst vs'))) → r (.ref l) ws H Q
def xmut (j : Nat) (f : List D → List D → Option (D × List D)) (as : M (List D)) : M R := fun G => if isLst G j then bd (as G) fun xs G1 => match G1[j]? with
  | some e => match e.mu with
    | some (.l ds) => match f ds xs with
      | some (d, ds') => some (.im d, G1.set j (e.with (.l ds')))
      | none => none
    | _ => none
  | none => none else none
theorem gk_mut {j : Nat} {r : V → List V → Hp → VK → Prop} {f : List D → List D → Option (D × List D)} (hr : MutD K r f) {ta : TA} {as : M (List D)} (ha : AOk K ta as) : GOk K (tBM K "list" r (tVar j) ta) (xmut j f as) := fun Fz ba G σ H Hs res G' q e0 Q k => by
  unfold xmut at e0
  split at e0
  case isFalse => cases e0
  rename_i hm
  obtain ⟨l, y3, yk⟩ := q.same_slot (isLst_mu hm)
  obtain ⟨xs, G1, e1, e⟩ := bd_inv e0
  obtain ⟨en0, ds0, y1, y2⟩ := isLst_ok hm
  obtain ⟨_, w1, _, vs0, rfl, _⟩ := yk G H Hs en0 _ q y1 y2
  refine ⟨_, y3, .inl ⟨rfl, vs0, SqL.of w1⟩, ?_⟩
  refine ha Fz ba G σ H Hs xs _ q e1 _ fun ws H1 Hs1 q1 s1 d1 => ?_
  cases h : G1[j]? with
  | none => simp only [h] at e; cases e
  | some en =>
    cases h0 : en.mu with
    | none => simp only [h, h0] at e; cases e
    | some mm =>
     cases mm with
     | o _ _ => simp only [h, h0] at e; cases e
     | l ds =>
      simp only [h, h0] at e
      split at e
      case h_2 => cases e
      rename_i d ds' hf
      cases e
      obtain ⟨_, z1, z2, vs, rfl, z3⟩ := yk _ H1 Hs1 en _ q1 h h0
      exact hr H1 Hs1 l vs ds ws xs d ds' q1.sub z1 z3 d1 hf Q fun v vs' h1 h2 => k v _ Hs1 (q1.mut h h0 y3 (extB_upd q1.sub z2) upd_same z2 ⟨_, rfl, h2⟩) s1 h1
def muExt (ds xs : List D) : Option (D × List D) := match xs with
  | [.lst es] => if few (ds.length + es.length) then some (.non, ds ++ es) else none
  | _ => none
theorem md_ext : MutD K rExtend muExt := fun H Hs l vs ds ws xs d ds' s hl hd hw e Q k => by
  unfold muExt at e
  split at e
  case h_2 => cases e
  split at e
  case isFalse => cases e
  rename_i es hf
  cases e
  cases hw with
  | cons a b =>
    cases b
    cases a with
    | lst h1 d1 => exact ⟨l, _, vs, _, rfl, rfl, hl, s _ _ h1, by rw [hd.len, d1.len]; exact few_ok hf, k _ _ .non (hd.app d1)⟩
end
end Bk
namespace Bk
open PySem L2
section
variable {K : PySem.W.Frag}
/-- the address that a result owns is p -/
def OwnAt (v : V) (r : R) (p : Addr) : Prop := (∃ m, r = .ow m) ∧ v = .ref p
inductive ResL (K : PySem.W.Frag) (Fz : Hp) (G : Gam) (σ : L2.St) (H Hs : Hp) : List V → List R → Prop
  | nil : ResL K Fz G σ H Hs [] []
  | cons {v : V} {r : R} {vs : List V} {rs : List R} : Res K Fz G σ H Hs v r → (∀ p, OwnAt v r p → ∀ x ∈ vs.zip rs, ¬ OwnAt x.1 x.2 p) → ResL K Fz G σ H Hs vs rs → ResL K Fz G σ H Hs (v :: vs) (r :: rs)
theorem Rel.lock {Fz : Hp} {ba : Nat → Addr} {G : Gam} {σ : L2.St} {H Hs : Hp} (q : Rel K Fz ba G σ H Hs) {p : Addr} {o : HO} (h : H p = some o) (hs : Hs p = none) (hn : ∀ (i : Nat) (e : Ent), G[i]? = some e → e.mu ≠ none → σ[i]? ≠ some (some (.ref p))) : Rel K (upd Fz p o) ba G σ H Hs := by
  refine ⟨q.sub, fun a u e => ?_, q.len, q.im, fun i e ds g g0 => ?_, q.dj, q.bx⟩
  · by_cases z : a = p
    · subst z
      rw [upd_same] at e
      cases e
      exact ⟨h, hs⟩
    · rw [upd_ne z] at e
      exact q.fz a u e
  · obtain ⟨l, vs, a1, a2, a3, a4, a5⟩ := q.mu i e ds g g0
    have ne : l ≠ p := fun z => by
      subst z
      exact hn i e g (by rw [g0]; simp) a1
    exact ⟨l, vs, a1, a2, a3, by rw [upd_ne ne]; exact a4, a5⟩
theorem Res.unlock {Fz : Hp} {G : Gam} {σ : L2.St} {H Hs : Hp} {p : Addr} {o : HO} (hf : Fz p = none) {v : V} {r : R} (h : Res K (upd Fz p o) G σ H Hs v r) : Res K Fz G σ H Hs v r ∧ ¬ OwnAt v r p := by
  cases r with
  | im d => exact ⟨h, fun ⟨⟨m, z⟩, _⟩ => nomatch z⟩
  | ow m =>
    obtain ⟨p', o', rfl, h1, h2, h3, h4, h5⟩ := h
    have ne : p' ≠ p := fun z => by
      subst z
      rw [upd_same] at h3
      cases h3
    rw [upd_ne ne] at h3
    exact ⟨⟨p', o', rfl, h1, h2, h3, h4, h5⟩, fun ⟨_, z⟩ => ne (V.ref.inj z)⟩
theorem ResL.unlock {Fz : Hp} {G : Gam} {σ : L2.St} {H Hs : Hp} {p : Addr} {o : HO} (hf : Fz p = none) : ∀ {vs : List V} {rs : List R}, ResL K (upd Fz p o) G σ H Hs vs rs → ResL K Fz G σ H Hs vs rs ∧ ∀ x ∈ vs.zip rs, ¬ OwnAt x.1 x.2 p
  | _, _, .nil => ⟨.nil, fun x h => by simp at h⟩
  | _, _, .cons h hd t => by
    obtain ⟨a1, a2⟩ := h.unlock hf
    obtain ⟨b1, b2⟩ := ResL.unlock hf t
    refine ⟨.cons a1 hd b1, fun x hx => ?_⟩
    rw [List.zip_cons_cons, List.mem_cons] at hx
    rcases hx with rfl | hx
    · exact a2
    · exact b2 x hx
def AROk (K : PySem.W.Frag) (t : TA) (f : M (List R)) : Prop := ∀ Fz ba G σ H Hs rs G', Rel K Fz ba G σ H Hs → f G = some (rs, G') →
  ∀ Q : List V → Hp → Prop, (∀ vs H' Hs', Rel K Fz ba G' σ H' Hs' → Same Hs Hs' → ResL K Fz G' σ H' Hs' vs rs → Q vs H') → t σ H Q
def ynil : M (List R) := fun G => some ([], G)
def ycons (a : M R) (r : M (List R)) : M (List R) := fun G => bd (a G) fun x G1 => bd (r G1) fun xs G2 => some (x :: xs, G2)
theorem yk_nil : AROk K tNil ynil := fun Fz ba G σ H Hs rs G' q e Q k => by
  cases e
  exact k [] H Hs q (Same.refl _) .nil
theorem yk_cons {ta : TE} {tr : TA} {a : M R} {r : M (List R)} (ha : GOk K ta a) (hr : AROk K tr r) : AROk K (tCons ta tr) (ycons a r) := fun Fz ba G σ H Hs rs G' q e Q k => by
  obtain ⟨x, G1, e1, e⟩ := bd_inv e
  obtain ⟨xs, G2, e2, e⟩ := bd_inv e
  cases e
  refine ha Fz ba G σ H Hs x G1 q e1 _ fun v H1 Hs1 q1 s1 r1 => ?_
  cases x with
  | im d =>
    refine hr Fz ba G1 σ H1 Hs1 xs _ q1 e2 _ fun vs H2 Hs2 q2 s2 r2 => k _ H2 Hs2 q2 (s1.trans s2) (.cons (show DR K Hs2 v d from DR.mono s2 r1) (fun p ⟨⟨m, z⟩, _⟩ => nomatch z) r2)
  | ow m =>
    obtain ⟨p, o, rfl, h1, h2, h3, h4, h5⟩ := r1
    have ql := q1.lock h1 h2 h5
    refine hr _ ba G1 σ H1 Hs1 xs _ ql e2 _ fun vs H2 Hs2 q2 s2 r2 => ?_
    obtain ⟨f1, f2⟩ := q2.fz p o upd_same
    obtain ⟨u1, u2⟩ := ResL.unlock h3 r2
    refine k _ H2 Hs2 (q2.unhide h3) (s1.trans s2) (.cons ⟨p, o, rfl, f1, f2, h3, h4.mono s2, fun i e g mm z => ?_⟩ (fun p' ⟨_, z⟩ => ?_) u1)
    · obtain ⟨ds', hd'⟩ : ∃ ds', e.mu = some ds' := by
        cases y : e.mu with
        | none => exact absurd y mm
        | some ds' => exact ⟨ds', rfl⟩
      obtain ⟨l, ws, a1, a2, a3, a4, a5⟩ := q2.mu i e ds' g hd'
      rw [z] at a1
      cases a1
      rw [upd_same] at a4
      cases a4
    · cases z
      exact u2
/-- a result is still one behind a store of another -/
theorem Res.set {Fz : Hp} {G : Gam} {σ : L2.St} {H Hs : Hp} {i : Nat} {v w : V} {x y : R} (hl : σ.length = G.length) (h : Res K Fz G σ H Hs w y) (hd : ∀ p, OwnAt v x p → ¬ OwnAt w y p) (hx : Res K Fz G σ H Hs v x) : Res K Fz (G.set i x.ent) (σ.set i (some v)) H Hs w y := by
  cases y with
  | im d => exact h
  | ow m =>
    obtain ⟨p, o, rfl, h1, h2, h3, h4, h5⟩ := h
    refine ⟨p, o, rfl, h1, h2, h3, h4, fun j e g mm z => ?_⟩
    rcases get_set g with ⟨rfl, e1, hi⟩ | ⟨ne, g⟩
    · rw [List.getElem?_set_self (by rw [hl]; exact hi)] at z
      cases z
      cases x with
      | im d => subst e1; exact mm rfl
      | ow m' => exact hd p ⟨⟨m', rfl⟩, rfl⟩ ⟨⟨m, rfl⟩, rfl⟩
    · rw [List.getElem?_set_ne ne] at z
      exact h5 j e g mm z
def ypar (i j : Nat) (a : M (List R)) : MS := fun G => bd (a G) fun xs G1 => match xs with
  | [x, y] => some (.nx, (G1.set i x.ent).set j y.ent)
  | _ => none
theorem sk_ypar {i j : Nat} {ta : TA} {a : M (List R)} (ha : AROk K ta a) : SOk K (tPar i j ta) (ypar i j a) := fun Fz ba G σ H Hs fl G' q e Dn p => by
  obtain ⟨xs, G1, e1, e⟩ := bd_inv e
  split at e
  case h_2 => cases e
  rename_i x y
  cases e
  refine ha Fz ba G σ H Hs _ _ q e1 _ fun vs H1 Hs1 q1 s1 d1 => ?_
  cases d1 with
  | cons rx hd d1 =>
    cases d1 with
    | cons ry hd2 d1 =>
      cases d1
      have q2 := q1.set (i := i) rx
      have ry2 := Res.set (i := i) q1.len ry (fun p hp => hd p hp (_, y) (List.mem_cons_self)) rx
      exact ⟨_, _, rfl, p _ H1 Hs1 (q2.set (i := j) ry2) s1⟩
end
end Bk
namespace Bk
open PySem L2 PyProof.Rows Srt
section
variable {prog : Program} {w : World} {A : Around} {E : Value → Shared → Prop} {s : Shared}
/-- a tuple of an int and a pair of ints -/
def IsKP (h : Heap) (v : Value) (k : Int × Int × Int) : Prop := ∃ (a b : Addr) (o o2 : Obj) (t u z : Tok) (n n2 : Nat), v = .ref a ∧ h.get? a = some o ∧ o.cls = .type "tuple" ∧ o.data = .seq #[.int k.1 t, .ref b] n ∧ h.get? b = some o2 ∧ o2.cls = .type "tuple" ∧ o2.data = .seq #[.int k.2.1 u, .int k.2.2 z] n2
theorem IsKP.keeps {h h' : Heap} {v : Value} {k : Int × Int × Int} (p : IsKP h v k) (kk : ∀ b o, h.get? b = some o → o.cls = .type "tuple" → h'.get? b = some o) : IsKP h' v k := by
  obtain ⟨a, b, o, o2, t, u, z, n, n2, e, h1, h2, h3, h4, h5, h6⟩ := p
  exact ⟨a, b, o, o2, t, u, z, n, n2, e, kk _ _ h1 h2, h2, h3, kk _ _ h4 h5, h5, h6⟩
end
end Bk
namespace Bk
open PySem L2
/-- a method of the text -/
structure FnM (K : PySem.W.Frag) (C : Addr) (x qual : PySem.Str) (st : Stmt) where
  f : Addr
  fd : FuncData
  F : Fun K x qual st f fd
  m : Meth K C x f
section
variable {K : PySem.W.Frag} {mg : PySem.Str → Option Value}
variable {X : Cx} (hK : X.K = K)
include hK
theorem kop_addB : OpR X (binaryOp .Add) (rAddB K) := hK ▸ op_addB
theorem ksl_B : SlR X (rSlB K) := hK ▸ sl_B
theorem kpa_star {e : Expr} {es : List Expr} {te : TE} {t : TA} {p : Pos} (he : PE X e te) (hr : PA X es t) (hs : starEach (.Starred e p :: es) X.env = (true, eval e X.env) :: starEach es X.env := by rfl) : PA X (.Starred e p :: es) (StX.tStar K te t) := hK ▸ StX.pa_star he hr hs
theorem kpe_fld {e : Expr} {f : PySem.Str} {pos : Pos} {ta : TE} (he : PE X e ta) (hb : attributeBase e f X.env (eval e X.env) = eval e X.env) : PE X (.Attribute e f pos) (tFld K ta f) := hK ▸ pe_fld he hb
theorem kps_fld {o value : Expr} {f : PySem.Str} {pos pos' : Pos} {ta tv : TE} (ha : PE X o ta) (hv : PE X value tv) (hs : swapsWith value (some (.Attribute o f pos')) pos.line X.env = pure false) : PS X (.Assign [.Attribute o f pos'] value pos) (sFld K ta tv f) := hK ▸ ps_fld ha hv hs
theorem kcr_isiS : CallR X (.builtin "isinstance") (rIsiS K) := hK ▸ cr_isiS
theorem kpe_bm {o e : Expr} {es : List Expr} {to : TE} {t : TA} {name : PySem.Str} {apos cpos : Pos} {T id : String} {r : V → List V → Hp → VK → Prop} (pa : PlainAttrs T) (slot : Slot T name id) (hty : typeOf (.builtin id) = pure (.type "method_descriptor")) (hm : MtR X id r) (ho : PE X o to) (ha : PA X (e :: es) t)
    (hbase : attributeBase o name X.env (eval o X.env) = eval o X.env := by rfl)
    (hfew : ((backTo cpos (starEach (e :: es) X.env)).all (fun x => !x.1) && (backToKw cpos (keywordEach [] X.env)).all (fun x => x.1.isSome) && decide ((e :: es).length + ([] : List Keyword).length + (if ([] : List Keyword).isEmpty then 0 else 1) < 30)) = true := by rfl)
    (hline : (apos.endLine == cpos.line) = true := by rfl) (hs : starEach (e :: es) X.env = (false, eval e X.env) :: starEach es X.env := by rfl) (hplain : (backTo cpos (starEach es X.env)).any (·.1) = false := by rfl) :
    PE X (.Call (.Attribute o name apos) (e :: es) [] cpos) (tBM K T r to t) := hK ▸ pe_bm pa slot hty hm ho ha hbase hfew hline hs hplain
end
end Bk
namespace Bk
open PySem L2
section
variable {K : PySem.W.Frag} {C : Addr}
theorem na_list1 {a : PySem.Str} (h1 : NoAttr K C a) : ∀ f ∈ [a], NoAttr K C f := fun f h => by
  rw [List.mem_singleton] at h
  rw [h]
  exact h1
theorem na_cons {a : PySem.Str} {l : List PySem.Str} (h1 : NoAttr K C a) (h : ∀ f ∈ l, NoAttr K C f) : ∀ f ∈ a :: l, NoAttr K C f := fun f hf => by
  rcases List.mem_cons.mp hf with z | z
  · rw [z]; exact h1
  · exact h f z
theorem na_list2 {a b : PySem.Str} (h1 : NoAttr K C a) (h2 : NoAttr K C b) : ∀ f ∈ [a, b], NoAttr K C f := na_cons h1 (na_list1 h2)
theorem na_list3 {a b c : PySem.Str} (h1 : NoAttr K C a) (h2 : NoAttr K C b) (h3 : NoAttr K C c) : ∀ f ∈ [a, b, c], NoAttr K C f := na_cons h1 (na_list2 h2 h3)
theorem na_list4 {a b c d : PySem.Str} (h1 : NoAttr K C a) (h2 : NoAttr K C b) (h3 : NoAttr K C c) (h4 : NoAttr K C d) : ∀ f ∈ [a, b, c, d], NoAttr K C f := na_cons h1 (na_list3 h2 h3 h4)
theorem na_list5 {a b c d e : PySem.Str} (h1 : NoAttr K C a) (h2 : NoAttr K C b) (h3 : NoAttr K C c) (h4 : NoAttr K C d) (h5 : NoAttr K C e) : ∀ f ∈ [a, b, c, d, e], NoAttr K C f := na_cons h1 (na_list4 h2 h3 h4 h5)
end
end Bk
namespace Bk
open PySem L2
def opInB (neg : Bool) (x y : D) : Option R := match opIn neg x y with
  | some r => some r
  | none => match toPy x, toPy y with
    | some p, some (.list ps) => if SeqAt.shaped p && SeqAt.shaped (.list ps) then some (.im (.bl (if neg then !(ps.any fun z => PyData.eqv z p) else ps.any fun z => PyData.eqv z p))) else none
    | _, _ => none
section
variable {K : PySem.W.Frag}
def rInB (K : PySem.W.Frag) (neg : Bool) : R2 := fun x y H Q => rInA K neg x y H Q ∨ (if neg then rNotInD K x y H Q else rInD K x y H Q)
theorem kop_notInB {X : Cx} (hK : X.K = K) (hu : X.A.units + 70 < cLine) : OpR X (compareOp .NotIn) (rInB K true) := hK ▸ (op_notInA.or (op_notInD (by omega)))
theorem od_inB {neg : Bool} : OpD K (rInB K neg) (opInB neg) := fun H Hs x y dx dy res s hx hy e Q k => by
  unfold opInB at e
  split at e
  · rename_i r h
    cases e
    exact .inl (od_in H Hs x y dx dy _ s hx hy h Q k)
  · split at e
    case h_2 => cases e
    rename_i p ps h1 h2
    split at e
    case isFalse => cases e
    rename_i hok
    cases e
    rw [Bool.and_eq_true] at hok
    refine .inr ?_
    cases neg
    · exact ⟨p, ps, dp_mono s hx h1, dp_mono s hy h2, hok.1, hok.2, k _ H Hs (Ext.refl s) (.bl _)⟩
    · exact ⟨p, ps, dp_mono s hx h1, dp_mono s hy h2, hok.1, hok.2, k _ H Hs (Ext.refl s) (.bl _)⟩
end
end Bk
namespace Bk
open PySem L2 PySem.Builtin PySem.Spec PyProof.Rows
/-- what the loop of list.extend has laid: i pairs, the list at S holds them -/
structure ZpLaid (N S : Nat) (fp : List Addr) (h : Heap) (xs ys : Array Value) (i : Nat) (acc : Array Value) : Prop where
  sz : acc.size = i
  at_ : ∀ j, j < i → ∃ (T : Addr) (x y : Value), acc[j]? = some (.ref T) ∧ xs[j]? = some x ∧ ys[j]? = some y ∧ N ≤ T ∧ (T ≠ S ∧ T ∉ fp) ∧ T < h.objs.size ∧ IsPair h T x y
  ne : ∀ (j j' : Nat) (T : Addr), acc[j]? = some (.ref T) → acc[j']? = some (.ref T) → j = j'
theorem ZpLaid.push {N S : Nat} {fp : List Addr} {h h' : Heap} {xs ys : Array Value} {i : Nat} {acc : Array Value} {T : Addr} {x y : Value} (L : ZpLaid N S fp h xs ys i acc) (hx : xs[i]? = some x) (hy : ys[i]? = some y) (n1 : N ≤ T) (n2 : T ≠ S ∧ T ∉ fp) (hT : h.objs.size ≤ T) (lt : T < h'.objs.size) (tp : IsPair h' T x y)
    (k : ∀ a o, a ≠ S → a ∉ fp → h.get? a = some o → h'.get? a = some o) : ZpLaid N S fp h' xs ys (i + 1) (acc.push (.ref T)) := by
  have old : ∀ (j : Nat) (U : Addr), acc[j]? = some (.ref U) → U ≠ T := fun j U q z => by
    have jl : j < i := by
      have := (Array.getElem?_eq_some_iff.mp q).1
      rw [L.sz] at this
      exact this
    obtain ⟨U', _, _, q', _, _, _, _, lt', _⟩ := L.at_ j jl
    rw [q] at q'
    cases q'
    rw [z] at lt'
    exact absurd (Nat.lt_of_lt_of_le lt' hT) (Nat.lt_irrefl _)
  have get : ∀ (j : Nat) (v : Value), (acc.push (.ref T))[j]? = some v → (j = i ∧ v = .ref T) ∨ (j < i ∧ acc[j]? = some v) := fun j v q => by
    rw [Array.getElem?_push] at q
    split at q
    · rename_i z
      rw [L.sz] at z
      cases q
      exact .inl ⟨z, rfl⟩
    · refine .inr ⟨?_, q⟩
      have := (Array.getElem?_eq_some_iff.mp q).1
      rw [L.sz] at this
      exact this
  refine ⟨by rw [Array.size_push, L.sz], fun j hj => ?_, fun j j' U q q' => ?_⟩
  · by_cases c : j = i
    · subst c
      exact ⟨T, x, y, by rw [Array.getElem?_push, if_pos L.sz.symm], hx, hy, n1, n2, lt, tp⟩
    · obtain ⟨U, x', y', e1, e2, e2', e3, e4, e5, e6⟩ := L.at_ j (by omega)
      refine ⟨U, x', y', ?_, e2, e2', e3, e4, Heap.lt_size (k U _ e4.1 e4.2 e6), k U _ e4.1 e4.2 e6⟩
      rw [Array.getElem?_push, if_neg (by rw [L.sz]; exact c)]
      exact e1
  · rcases get j _ q with ⟨rfl, z⟩ | ⟨l1, z⟩ <;> rcases get j' _ q' with ⟨rfl, z'⟩ | ⟨l2, z'⟩
    · rfl
    · exact absurd (Value.ref.inj z) (old j' U z')
    · exact absurd (Value.ref.inj z') (old j U z)
    · exact L.ne j j' U z z'
end Bk
namespace Bk
open PySem L2 PyProof.Rows
section
variable {X : Cx} {pos : Pos}
theorem ps_parO {i j : Nat} {x y : PySem.Str} {a b : Expr} {ta : TA} {px py pt : Pos} {kt k2 pt2} (hc : X.calm = true) (hN : X.N.Nodup) (hi : X.N[i]? = some x) (hj : X.N[j]? = some y)
    (hx : Loc X.env.scope x) (hy : Loc X.env.scope y) (ha : PA X [a, b] ta)
    (hw : swappedStores [.Tuple [.Name x px, .Name y py] kt pt] (.Tuple [a, b] k2 pt2) X.env = pure none)
    (hs : swapsWithSole [.Tuple [.Name x px, .Name y py] kt pt] (.Tuple [a, b] k2 pt2) pos.line X.env = pure false := by rfl)
    (h2 : (assignEach [Expr.Name x px, .Name y py] X.env).map (·.2) = [assign (.Name x px) X.env, assign (.Name y py) X.env] := by rfl)
    (hl : (assignEach [Expr.Name x px, .Name y py] X.env).length = 2 := by rfl) (hst : (assignEach [Expr.Name x px, .Name y py] X.env).findIdx? (·.1) = none := by rfl)
    (fx : X.fn x = true ∨ X.env.scope.names.lookup x = some .local := by first | exact .inl rfl | exact .inr rfl | assumption)
    (fy : X.fn y = true ∨ X.env.scope.names.lookup y = some .local := by first | exact .inl rfl | exact .inr rfl | assumption) :
    PS X (.Assign [.Tuple [.Name x px, .Name y py] kt pt] (.Tuple [a, b] k2 pt2) pos) (tPar i j ta) := by
  refine ⟨fun pins s σ H D I h => ?_⟩
  refine wpAny_Assign_stores ?_ hs hw
  refine Tuple_ (thn (ha.run _ pins s σ H _ I h) fun us s1 ⟨vs, H1, I1, r1, q1⟩ => ?_)
  obtain ⟨v, w, e1, q1⟩ := q1
  subst e1
  obtain ⟨u1, u2, rfl, rv, rw'⟩ : ∃ u1 u2, us = [u1, u2] ∧ RelV v u1 ∧ RelV w u2 := by
    cases r1 with
    | cons p q =>
      cases q with
      | cons p' q' =>
        cases q'
        exact ⟨_, _, rfl, p, p'⟩
  refine wpAny_newObj_type ?_ (by show 2 ≤ sizeLine; decide)
  have I2 : Inv X pins σ H1 { s1 with heap := s1.heap.push { cls := .type "tuple", data := .seq [u1, u2].toArray } } := I1.kept (t' := s1.toks) fun b o e => Heap.get?_push_of_some _ e
  show wpAny _ _ (assign (.Tuple [.Name x px, .Name y py] kt pt) X.env (.ref s1.heap.objs.size)) _ _ _
  refine assign_Tuple_tuple (I.ok.hd hc) (IsTup.new s1.heap _) hl hst fun h' hx' => ?_
  have I3 := I2.kept (h' := h') (t' := s1.toks) fun b o e => hx' b o (Nat.ne_of_lt (Heap.lt_size e)) e
  rw [h2]
  refine assignInOrder_cons (wpAny_assign_Name (store_ok I3 hN hi hx rv (fun s2 I4 => ?_) fx))
  exact assignInOrder_cons (wpAny_assign_Name (store_ok I4 hN hj hy rw' (fun s3 I5 => assignInOrder_nil ⟨_, H1, I5, q1⟩) fy))
end
end Bk
namespace Bk
open PySem L2 PySem.Builtin PySem.Spec PyProof.Rows
def ItZ3 (K : PySem.W.Frag) (k l m : Bool) (a b c : Addr) : It :=
  ⟨fun i H => ∃ (xs ys zs : List V) (x y z : V), SqK K k a H xs ∧ SqK K l b H ys ∧ SqK K m c H zs ∧ xs[i]? = some x ∧ ys[i]? = some y ∧ zs[i]? = some z,
    fun i H v H' => ∃ T x y z, v = .ref T ∧ H T = none ∧ H' = upd H T (.tup [x, y, z]) ∧ (∀ xs, SqK K k a H xs → xs[i]? = some x) ∧ (∀ ys, SqK K l b H ys → ys[i]? = some y) ∧ ∀ zs, SqK K m c H zs → zs[i]? = some z,
    fun i H => ∃ xs ys zs : List V, SqK K k a H xs ∧ SqK K l b H ys ∧ SqK K m c H zs ∧ (xs.length ≤ i ∨ ys.length ≤ i ∨ zs.length ≤ i)⟩
theorem turn_zip3 {P : Program} {w : World} {K : PySem.W.Frag} {elts : List Expr} {kk : Nat} {tpos : Pos} {k l m : Bool} {a b c3 z TI TO i1 i2 i3 : Addr} (D : ZipSep3 z TI TO i1 i2 i3 [i1, a] [i2, b] [i3, c3]) (ha : a ≠ i1) (hb : b ≠ i2) (hc3 : c3 ≠ i3) :
    Turn P w K (.Tuple elts kk tpos) (ItZ3 K k l m a b c3) [z, TI, TO, i1, i2, i3] z (fun i h => IsZip h z TI TO .none ∧ IsTupOf3 h TI (.ref i1) (.ref i2) (.ref i3) ∧ (∃ x y u, IsTupOf3 h TO x y u) ∧ ItK k i1 a i h ∧ ItK l i2 b i h ∧ ItK m i3 c3 i h) where
  mem := by simp
  obj := fun i h st c hc => by
    obtain ⟨hz, hTI, ⟨x, y, u, hTO⟩, h1, h2, h3⟩ := st
    have ec : c = z ∨ c = TI ∨ c = TO ∨ c = i1 ∨ c = i2 ∨ c = i3 := by simpa using hc
    rcases ec with rfl | rfl | rfl | rfl | rfl | rfl
    · exact ⟨_, hz, fun v q => nomatch q⟩
    · exact ⟨_, hTI, fun v q => nomatch q⟩
    · exact ⟨_, hTO, fun v q => nomatch q⟩
    · exact itk_obj h1
    · exact itk_obj h2
    · exact itk_obj h3
  keep := fun i h h' st kp => by
    obtain ⟨hz, hTI, ⟨x, y, u, hTO⟩, h1, h2, h3⟩ := st
    exact ⟨kp z (by simp) _ hz, kp TI (by simp) _ hTI, ⟨x, y, u, kp TO (by simp) _ hTO⟩, h1.at fun o q => kp i1 (by simp) o q, h2.at fun o q => kp i2 (by simp) o q, h3.at fun o q => kp i3 (by simp) o q⟩
  item := by
    intro X hP hw hK hc i pins s σ H E I hf st hg
    subst hP hw hK
    obtain ⟨hz, hTI, ⟨x0, y0, u0, hTO⟩, h1, h2, h3⟩ := st
    obtain ⟨xs, ys, zs, x, y, t, qx, qy, qt, hx, hy, ht⟩ := hg
    obtain ⟨its, rv, p, _⟩ := inv_k I qx
    obtain ⟨its2, rv2, p2, _⟩ := inv_k I qy
    obtain ⟨its3, rv3, p3, _⟩ := inv_k I qt
    obtain ⟨u, hu, ru⟩ := rv.get hx
    obtain ⟨u2, hu2, ru2⟩ := rv2.get hy
    obtain ⟨u3, hu3, ru3⟩ := rv3.get ht
    have hlt : i < its.toArray.size := by simpa using (List.getElem?_eq_some_iff.mp hu).1
    have hlt2 : i < its2.toArray.size := by simpa using (List.getElem?_eq_some_iff.mp hu2).1
    have hlt3 : i < its3.toArray.size := by simpa using (List.getElem?_eq_some_iff.mp hu3).1
    have hzl : z < s.heap.objs.size := Heap.lt_size hz
    have lts : ∀ c ∈ [z, TI, TO, i1, i2, i3], c < s.heap.objs.size := fun c hcm => by
      have ec : c = z ∨ c = TI ∨ c = TO ∨ c = i1 ∨ c = i2 ∨ c = i3 := by simpa using hcm
      rcases ec with rfl | rfl | rfl | rfl | rfl | rfl
      · exact hzl
      · exact Heap.lt_size hTI
      · exact Heap.lt_size hTO
      · obtain ⟨_, e1, _⟩ := itk_obj h1; exact Heap.lt_size e1
      · obtain ⟨_, e2, _⟩ := itk_obj h2; exact Heap.lt_size e2
      · obtain ⟨_, e3, _⟩ := itk_obj h3; exact Heap.lt_size e3
    refine wpAny_pyNext_zipD3_item D (draws_k (A := X.A.in1) (I.ok.hd hc) k i1 a ha its.toArray) (draws_k (A := X.A.in1) (I.ok.hd hc) l i2 b hb its2.toArray) (draws_k (A := X.A.in1) (I.ok.hd hc) m i3 c3 hc3 its3.toArray) hz hTI hTO ⟨h1, p⟩ ⟨h2, p2⟩ ⟨h3, p3⟩ hlt hlt2 hlt3 fun v1 v2 v3 h' tk e1 e2 e3 z' TO' st1 st2 st3 hT hsz hk => ?_
    have ev1 : v1 = u := by
      have q : its[i]? = some v1 := by simpa using e1
      rw [hu] at q; cases q; rfl
    have ev2 : v2 = u2 := by
      have q : its2[i]? = some v2 := by simpa using e2
      rw [hu2] at q; cases q; rfl
    have ev3 : v3 = u3 := by
      have q : its3[i]? = some v3 := by simpa using e3
      rw [hu3] at q; cases q; rfl
    subst ev1 ev2 ev3
    refine ⟨_, rfl, wpAny_letOwnedTupleGo_zip (s := { s with heap := h', toks := tk }) z' fun h'' z'' sb => ?_⟩
    have hT2 : h''.get? s.heap.objs.size = some { cls := .type "tuple", data := .seq #[v1, v2, v3] } := (sb.2 _ (Nat.ne_of_gt hzl)).trans hT
    have new : ObjOk X.prog X.w (upd H s.heap.objs.size (.tup [x, y, t])) h'' s.heap.objs.size (.tup [x, y, t]) := ⟨by show 3 ≤ sizeLine; decide, [v1, v2, v3], .cons ru (.cons ru2 (.cons ru3 .nil)), ⟨_, hT2, rfl, _, rfl⟩⟩
    have I1 : Inv X pins σ (upd H s.heap.objs.size (.tup [x, y, t])) { s with heap := h'', toks := tk } :=
      I.turnedNew (ch := [z, TI, TO, i1, i2, i3]) (fun c o hcb q => (sb.2 c (fun q' => hcb (by simp [q']))).trans (hk c o (fun q' => hcb (by simp [q'])) (fun q' => hcb (by simp [q'])) (fun q' => hcb (by simp [q'])) (fun q' => hcb (by simp [q'])) (fun q' => hcb (by simp [q'])) q)) hf (Nat.le_refl _) new
    have n1 : i1 ≠ z := fun q => D.zf1 (q ▸ D.mem1)
    have n2 : i2 ≠ z := fun q => D.zf2 (q ▸ D.mem2)
    have n3 : i3 ≠ z := fun q => D.zf3 (q ▸ D.mem3)
    refine ⟨.ref s.heap.objs.size, _, I1, rfl, ⟨_, x, y, t, rfl, I.hok.fresh (Nat.le_refl _), rfl, fun l' hl => by rw [inj_k I hl qx]; exact hx, fun l' hl => by rw [inj_k I hl qy]; exact hy, fun l' hl => by rw [inj_k I hl qt]; exact ht⟩, ⟨z'', ?_, ⟨v1, v2, v3, (sb.2 _ D.TOz).trans TO'⟩, st1.1.at fun o q => (sb.2 _ n1).trans q, st2.1.at fun o q => (sb.2 _ n2).trans q, st3.1.at fun o q => (sb.2 _ n3).trans q⟩, fun c hcm => ?_⟩
    · exact (sb.2 _ D.TIz).trans (hk _ _ D.TIz D.TITO D.TIi1 D.TIi2 D.TIi3 hTI)
    · rw [upd_ne (Nat.ne_of_lt (lts c hcm))]
      exact (hf c hcm).1
  done := by
    intro X hP hw hK hc i pins s σ H E I hf st hg
    subst hP hw hK
    obtain ⟨hz, hTI, ⟨x0, y0, u0, hTO⟩, h1, h2, h3⟩ := st
    obtain ⟨xs, ys, zs, qx, qy, qt, hend⟩ := hg
    obtain ⟨its, rv, p, _⟩ := inv_k I qx
    obtain ⟨its2, rv2, p2, _⟩ := inv_k I qy
    obtain ⟨its3, rv3, p3, _⟩ := inv_k I qt
    have l1 := rv.length
    have l2 := rv2.length
    have l3 := rv3.length
    obtain ⟨n1, P1, St1, D1, s1, le1, e1⟩ := draws_stop (prog := X.prog) (w := X.w) (A := X.A.in1) (I.ok.hd hc) k i1 a ha its.toArray i h1 p
    obtain ⟨n2, P2, St2, D2, s2, le2, e2⟩ := draws_stop (prog := X.prog) (w := X.w) (A := X.A.in1) (I.ok.hd hc) l i2 b hb its2.toArray i h2 p2
    obtain ⟨n3, P3, St3, D3, s3, le3, e3⟩ := draws_stop (prog := X.prog) (w := X.w) (A := X.A.in1) (I.ok.hd hc) m i3 c3 hc3 its3.toArray i h3 p3
    exact wpAny_pyNext_zipD3_end D D1 D2 D3 hz hTI hTO s1 s2 s3 le1 le2 le3 (by
      rcases hend with q | q | q
      · exact .inl (e1 (by simp; omega))
      · exact .inr (.inl (e2 (by simp; omega)))
      · exact .inr (.inr (e3 (by simp; omega)))) fun h' tk hk => ⟨rfl, I.turnedL (ch := [z, TI, TO, i1, i2, i3]) (fun c o hcb q => hk c o (fun q' => hcb (by simp [q'])) (fun q' => hcb (by simp [q'])) (fun q' => hcb (by simp [q'])) (fun q' => hcb (by simp [q'])) (fun q' => hcb (by simp [q'])) q) hf⟩
  self := fun A i s Q E st h => wpAny_pyIter_zip st.1 h
def iZip3 (K : PySem.W.Frag) (ta : TA) : TI := fun σ H R => ta σ H fun vs H1 => ∃ k l m a b c xs ys zs, vs = [.ref a, .ref b, .ref c] ∧ SqK K k a H1 xs ∧ SqK K l b H1 ys ∧ SqK K m c H1 zs ∧ R (ItZ3 K k l m a b c) H1
theorem pi_zip3 {X : Cx} {e e2 e3 : Expr} {ta : TA} {p pos tpos : Pos} {elts : List Expr} {kk : Nat} (hg : Gl X "zip") (hm : X.mg "zip" = none) (ha : PA X [e, e2, e3] ta)
    (hs : starEach [e, e2, e3] X.env = (false, eval e X.env) :: starEach [e2, e3] X.env := by rfl) (hpl : (backTo pos (starEach [e2, e3] X.env)).any (·.1) = false := by rfl) :
    PI X (.Tuple elts kk tpos) (.Call (.Name "zip" p) [e, e2, e3] [] pos) (iZip3 X.K ta) := by
  refine ⟨fun pins s σ H R I h => Call_ (ld_blt I hg hm PyProof.Rows.boot_zip (callWith_type1 (thn (ha.run pos pins s σ H _ I h) fun us s1 ⟨vs, H1, I1, r1, k, l, m, a, b, c3, xs, ys, zs, ex, qx, qy, qt, q⟩ => ?_) hs hpl))⟩
  subst ex
  cases r1 with
  | cons r rr =>
    cases rr with
    | cons r' rr =>
      cases rr with
      | cons r'' rr =>
        cases rr
        cases r
        cases r'
        cases r''
        obtain ⟨its, rv, p1, la⟩ := inv_k I1 qx
        obtain ⟨its2, rv2, p2, lb⟩ := inv_k I1 qy
        obtain ⟨its3, rv3, p3, lc⟩ := inv_k I1 qt
        refine zip_begins3 (begins_k k a its.toArray) (begins_k l b its2.toArray) (begins_k m c3 its3.toArray) p1 p2 p3 fun h' hz hTI hTO h1 h2 h3 hsz hk => wpAny_pyIter_zip hz ?_
        have sep := zip_sep3 (N := s1.heap.objs.size) (fp1 := [a]) (fp2 := [b]) (fp3 := [c3]) (by simpa using la) (by simpa using lb) (by simpa using lc)
        refine ⟨_, _, _, _, H1, rfl, I1.kept (t' := s1.toks) hk, turn_zip3 sep (Nat.ne_of_lt la) (Nat.ne_of_lt (Nat.lt_succ_of_lt lb)) (Nat.ne_of_lt (Nat.lt_succ_of_lt (Nat.lt_succ_of_lt lc))), ⟨hz, hTI, ⟨_, _, _, hTO⟩, itk_new h1, itk_new h2, itk_new h3⟩, fun c hcm => ?_, q⟩
        have ec : c = s1.heap.objs.size + 5 ∨ c = s1.heap.objs.size + 3 ∨ c = s1.heap.objs.size + 4 ∨ c = s1.heap.objs.size ∨ c = s1.heap.objs.size + 1 ∨ c = s1.heap.objs.size + 2 := by simpa using hcm
        have hle : s1.heap.objs.size ≤ c := by
          rcases ec with rfl | rfl | rfl | rfl | rfl | rfl
          · exact Nat.le_add_right _ _
          · exact Nat.le_add_right _ _
          · exact Nat.le_add_right _ _
          · exact Nat.le_refl _
          · exact Nat.le_add_right _ _
          · exact Nat.le_add_right _ _
        exact I1.fpOk hle (I1.hok.fresh hle)
theorem kpi_zip3 {X : Cx} {K : PySem.W.Frag} (hK : X.K = K) {e e2 e3 : Expr} {ta : TA} {p pos tpos : Pos} {elts : List Expr} {kk : Nat} (hg : Gl X "zip") (hm : X.mg "zip" = none) (ha : PA X [e, e2, e3] ta)
    (hs : starEach [e, e2, e3] X.env = (false, eval e X.env) :: starEach [e2, e3] X.env := by rfl) (hpl : (backTo pos (starEach [e2, e3] X.env)).any (·.1) = false := by rfl) :
    PI X (.Tuple elts kk tpos) (.Call (.Name "zip" p) [e, e2, e3] [] pos) (iZip3 K ta) := hK ▸ pi_zip3 hg hm ha hs hpl
section
variable {K : PySem.W.Frag}
def zip3 : List D → List D → List D → List D
  | x :: xs, y :: ys, z :: zs => .tup [x, y, z] :: zip3 xs ys zs
  | _, _, _ => []
theorem zip3_len : ∀ (xs ys zs : List D), (zip3 xs ys zs).length = min xs.length (min ys.length zs.length)
  | x :: xs, y :: ys, z :: zs => by
    show (zip3 xs ys zs).length + 1 = min (xs.length + 1) (min (ys.length + 1) (zs.length + 1))
    rw [zip3_len xs ys zs]
    omega
  | [], _, _ => by simp [zip3]
  | _ :: _, [], _ => by simp [zip3]
  | _ :: _, _ :: _, [] => by simp [zip3]
theorem zip3_get : ∀ {xs ys zs : List D} {i : Nat} {x y z : D}, xs[i]? = some x → ys[i]? = some y → zs[i]? = some z → (zip3 xs ys zs)[i]? = some (.tup [x, y, z])
  | a :: xs, b :: ys, c :: zs, 0, x, y, z, h1, h2, h3 => by
    cases h1; cases h2; cases h3
    rfl
  | a :: xs, b :: ys, c :: zs, i + 1, x, y, z, h1, h2, h3 => by
    rw [List.getElem?_cons_succ] at h1 h2 h3
    show (_ :: zip3 xs ys zs)[i + 1]? = _
    rw [List.getElem?_cons_succ]
    exact zip3_get h1 h2 h3
  | [], _, _, i, _, _, _, h1, _, _ => by simp at h1
  | _ :: _, [], _, i, _, _, _, _, h2, _ => by simp at h2
  | _ :: _, _ :: _, [], i, _, _, _, _, _, h3 => by simp at h3
theorem yl_zip3 {Hs : Hp} {k l m : Bool} {a b c : Addr} {xs ys zs : List V} {ds es fs : List D} (ha : SqK K k a Hs xs) (hb : SqK K l b Hs ys) (hc : SqK K m c Hs zs) (da : DRs K Hs xs ds) (db : DRs K Hs ys es) (dc : DRs K Hs zs fs) : Yl K (ItZ3 K k l m a b c) (zip3 ds es fs) Hs where
  go := fun i H s hi => by
    rw [zip3_len] at hi
    exact ⟨xs, ys, zs, xs[i]'(by rw [da.len]; omega), ys[i]'(by rw [db.len]; omega), zs[i]'(by rw [dc.len]; omega), same_k s ha, same_k s hb, same_k s hc, by simp, by simp, by simp⟩
  stop := fun i H s hi => by
    rw [zip3_len] at hi
    exact ⟨xs, ys, zs, same_k s ha, same_k s hb, same_k s hc, by rw [da.len, db.len, dc.len]; omega⟩
  yld := fun i x H H' Hs1 _ s s1 y => by
    obtain ⟨T, x1, y1, z1, rfl, hT, rfl, h1, h2, h3⟩ := y
    obtain ⟨d1, e1, r1⟩ := da.ta (h1 xs (same_k (s.trans s1) ha))
    obtain ⟨d2, e2, r2⟩ := db.ta (h2 ys (same_k (s.trans s1) hb))
    obtain ⟨d3, e3, r3⟩ := dc.ta (h3 zs (same_k (s.trans s1) hc))
    have ex : Ext H Hs1 (upd H T (.tup [x1, y1, z1])) (upd Hs1 T (.tup [x1, y1, z1])) := Ext.new s1 hT
    exact ⟨.tup [d1, d2, d3], _, zip3_get e1 e2 e3, ex, .tup (SqT.of upd_same) (.cons (r1.mono (s.trans ex.b)) (.cons (r2.mono (s.trans ex.b)) (.cons (r3.mono (s.trans ex.b)) .nil)))⟩
def xzip3 (a : M (List D)) : M (List D) := fun G => bd (a G) fun xs G1 => match xs with
  | [x, y, z] => match seqD x, seqD y, seqD z with
    | some ds, some es, some fs => some (zip3 ds es fs, G1)
    | _, _, _ => none
  | _ => none
theorem ik_zip3 {ta : TA} {a : M (List D)} (ha : AOk K ta a) : IOk K (iZip3 K ta) (xzip3 a) := fun Fz ba G σ H Hs ds G' q e Q k => by
  obtain ⟨xs, G1, e1, e⟩ := bd_inv e
  refine ha Fz ba G σ H Hs xs _ q e1 _ fun vs H1 Hs1 q1 s1 d => ?_
  split at e
  case h_2 => cases e
  split at e
  case h_2 => cases e
  rename_i h1 h2 h3
  cases e
  cases d with
  | cons d1 d2 =>
    cases d2 with
    | cons d2 d3 =>
      cases d3 with
      | cons d3 d4 =>
        cases d4
        obtain ⟨k1, a1, x1, rfl, l1, r1⟩ := seqD_ok d1 h1
        obtain ⟨k2, a2, x2, rfl, l2, r2⟩ := seqD_ok d2 h2
        obtain ⟨k3, a3, x3, rfl, l3, r3⟩ := seqD_ok d3 h3
        exact ⟨k1, k2, k3, a1, a2, a3, x1, x2, x3, rfl, same_k q1.sub l1, same_k q1.sub l2, same_k q1.sub l3, k _ H1 Hs1 q1 s1 (yl_zip3 l1 l2 l3 r1 r2 r3)⟩
end
end Bk
namespace Bk
open PySem L2 PySem.Builtin PySem.Spec PyProof.Rows
/-- what the loop of list.extend has laid: i tuples, the list at S holds them -/
structure EnLaid (N S e it : Nat) (h : Heap) (its : Array Value) (i : Nat) (acc : Array Value) : Prop where
  sz : acc.size = i
  at_ : ∀ j, j < i → ∃ (T : Addr) (tk : Nat) (x : Value), acc[j]? = some (.ref T) ∧ its[j]? = some x ∧ N ≤ T ∧ (T ≠ S ∧ T ≠ e ∧ T ≠ it) ∧ T < h.objs.size ∧ h.get? T = some { cls := .type "tuple", data := .seq #[.int (j : Int) tk, x] }
  ne : ∀ (j j' : Nat) (T : Addr), acc[j]? = some (.ref T) → acc[j']? = some (.ref T) → j = j'
theorem EnLaid.push {N S e it : Nat} {h h' : Heap} {its : Array Value} {i tk : Nat} {acc : Array Value} {T : Addr} {x : Value} (L : EnLaid N S e it h its i acc) (hx : its[i]? = some x) (n1 : N ≤ T) (n2 : T ≠ S ∧ T ≠ e ∧ T ≠ it) (hT : h.objs.size ≤ T) (lt : T < h'.objs.size) (tp : h'.get? T = some { cls := .type "tuple", data := .seq #[.int (i : Int) tk, x] })
    (k : ∀ a o, a ≠ S → a ≠ e → a ≠ it → h.get? a = some o → h'.get? a = some o) : EnLaid N S e it h' its (i + 1) (acc.push (.ref T)) := by
  have old : ∀ (j : Nat) (U : Addr), acc[j]? = some (.ref U) → U ≠ T := fun j U q z => by
    have jl : j < i := by
      have := (Array.getElem?_eq_some_iff.mp q).1
      rw [L.sz] at this
      exact this
    obtain ⟨U', _, _, q', _, _, _, lt', _⟩ := L.at_ j jl
    rw [q] at q'
    cases q'
    rw [z] at lt'
    exact absurd (Nat.lt_of_lt_of_le lt' hT) (Nat.lt_irrefl _)
  have get : ∀ (j : Nat) (v : Value), (acc.push (.ref T))[j]? = some v → (j = i ∧ v = .ref T) ∨ (j < i ∧ acc[j]? = some v) := fun j v q => by
    rw [Array.getElem?_push] at q
    split at q
    · rename_i z
      rw [L.sz] at z
      cases q
      exact .inl ⟨z, rfl⟩
    · refine .inr ⟨?_, q⟩
      have := (Array.getElem?_eq_some_iff.mp q).1
      rw [L.sz] at this
      exact this
  refine ⟨by rw [Array.size_push, L.sz], fun j hj => ?_, fun j j' U q q' => ?_⟩
  · by_cases c : j = i
    · subst c
      exact ⟨T, tk, x, by rw [Array.getElem?_push, if_pos L.sz.symm], hx, n1, n2, lt, tp⟩
    · obtain ⟨U, tk', y, e1, e2, e3, e4, e5, e6⟩ := L.at_ j (by omega)
      refine ⟨U, tk', y, ?_, e2, e3, e4, Heap.lt_size (k U _ e4.1 e4.2.1 e4.2.2 e6), k U _ e4.1 e4.2.1 e4.2.2 e6⟩
      rw [Array.getElem?_push, if_neg (by rw [L.sz]; exact c)]
      exact e1
  · rcases get j _ q with ⟨rfl, z⟩ | ⟨l1, z⟩ <;> rcases get j' _ q' with ⟨rfl, z'⟩ | ⟨l2, z'⟩
    · rfl
    · exact absurd (Value.ref.inj z) (old j' U z')
    · exact absurd (Value.ref.inj z') (old j U z)
    · exact L.ne j j' U z z'
end Bk
namespace Bk
open PySem L2
mutual
def flat : D → Bool
  | .non => true
  | .bl _ => true
  | .int _ => true
  | .str _ => true
  | .tup ds => flats ds
  | _ => false
def flats : List D → Bool
  | [] => true
  | d :: ds => flat d && flats ds
end
/-- lists of pairs, where the hidden list holds numbers -/
def nb1 (bs : List D) (d : D) : Bool := match d, bs with
  | .lst (.tup x :: ds), .int _ :: _ => flats (.tup x :: ds)
  | d, _ => flat d
def flatM (bs : List D) : Mob → Bool
  | .l ds => ds.all (nb1 bs)
  | .o _ ds => ds.all (nb1 bs)
def flatR (bs : List D) : R → Bool
  | .im d => nb1 bs d
  | .ow m => flatM bs m
/-- without two things -/
def out2 (l b : Addr) (Hs : Hp) : Hp := fun a => if a = l ∨ a = b then none else Hs a
theorem out2_l {l b : Addr} {Hs : Hp} : out2 l b Hs l = none := if_pos (.inl rfl)
theorem out2_b {l b : Addr} {Hs : Hp} : out2 l b Hs b = none := if_pos (.inr rfl)
theorem out2_ne {l b a : Addr} {Hs : Hp} (h : a ≠ l) (h' : a ≠ b) : out2 l b Hs a = Hs a := if_neg fun z => z.elim h h'
section
variable {K : PySem.W.Frag} {Hs : Hp} {l b : Addr} {C dx : Addr} {fs : List (PySem.Str × V)} {us : List V}
theorem tup_out (hl : Hs l = some (.ins C dx fs)) (hb : Hs b = some (.lst us)) {a : Addr} {xs : List V} (h : SqT K Hs a xs) : SqT K (out2 l b Hs) a xs := by
  rcases h with h | h
  · have n1 : a ≠ l := fun e => by
      subst e
      rcases h with h | ⟨o, h⟩ <;> rw [hl] at h <;> cases h
    have n2 : a ≠ b := fun e => by
      subst e
      rcases h with h | ⟨o, h⟩ <;> rw [hb] at h <;> cases h
    rcases h with h | ⟨o, h⟩
    · exact .inl (.inl (by rw [out2_ne n1 n2]; exact h))
    · exact .inl (.inr ⟨o, by rw [out2_ne n1 n2]; exact h⟩)
  · exact .inr h
mutual
theorem DR.out (hl : Hs l = some (.ins C dx fs)) (hb : Hs b = some (.lst us)) : ∀ {v : V} {d : D}, DR K Hs v d → flat d = true → DR K (out2 l b Hs) v d
  | _, _, .non, _ => .non
  | _, _, .bl b, _ => .bl b
  | _, _, .int i, _ => .int i
  | _, _, .str x, _ => .str x
  | _, _, .tup h hs, e => .tup (tup_out hl hb h) (DRs.out hl hb hs e)
  | _, _, .lst _ _, e => by cases e
  | _, _, .frz _ _, e => by cases e
  | _, _, .obj _ _ _ _ _, e => by cases e
  | _, _, .ty _, e => by cases e
  | _, _, .cl _, e => by cases e
  | _, _, .dic _ _ _, e => by cases e
theorem DRs.out (hl : Hs l = some (.ins C dx fs)) (hb : Hs b = some (.lst us)) : ∀ {vs : List V} {ds : List D}, DRs K Hs vs ds → flats ds = true → DRs K (out2 l b Hs) vs ds
  | _, _, .nil, _ => .nil
  | _, _, .cons h hs, e => by
    have e : (flat _ && flats _) = true := e
    rw [Bool.and_eq_true] at e
    exact .cons (DR.out hl hb h e.1) (DRs.out hl hb hs e.2)
end
theorem DR.nb (hl : Hs l = some (.ins C dx fs)) (hb : Hs b = some (.lst us)) {bs : List D} (hu : DRs K Hs us bs) {v : V} {d : D} (h : DR K Hs v d) (e : nb1 bs d = true) : DR K (out2 l b Hs) v d := by
  unfold nb1 at e
  split at e
  · rename_i x ds i bs'
    cases h with
    | lst ha hd =>
      rename_i a xs
      have n1 : a ≠ l := fun z => by
        subst z
        rw [hl] at ha
        cases ha
      have n2 : a ≠ b := fun z => by
        subst z
        rw [hb] at ha
        cases ha
        cases hd with
        | cons h1 _ =>
          cases hu with
          | cons h2 _ =>
            cases h2
            cases h1
      exact .lst (by rw [out2_ne n1 n2]; exact ha) (hd.out hl hb e)
  · exact h.out hl hb e
theorem DRs.nb (hl : Hs l = some (.ins C dx fs)) (hb : Hs b = some (.lst us)) {bs : List D} (hu : DRs K Hs us bs) : ∀ {vs : List V} {ds : List D}, DRs K Hs vs ds → ds.all (nb1 bs) = true → DRs K (out2 l b Hs) vs ds
  | _, _, .nil, _ => .nil
  | _, _, .cons h hs, e => by
    rw [List.all_cons, Bool.and_eq_true] at e
    exact .cons (h.nb hl hb hu e.1) (DRs.nb hl hb hu hs e.2)
theorem MobO.nb (hl : Hs l = some (.ins C dx fs)) (hb : Hs b = some (.lst us)) {bs : List D} (hu : DRs K Hs us bs) {m : Mob} {o : HO} (h : MobO K Hs m o) (e : flatM bs m = true) : MobO K (out2 l b Hs) m o := by
  cases m with
  | l ds =>
    obtain ⟨vs, h1, h2⟩ := h
    exact ⟨vs, h1, DRs.nb hl hb hu h2 e⟩
  | o c ds =>
    obtain ⟨C, dx, fs, h1, h2, h3, h4⟩ := h
    exact ⟨C, dx, fs, h1, h2, h3, DRs.nb hl hb hu h4 e⟩
end
/-- the object at l, its last attribute is the list at b -/
structure TabO (K : PySem.W.Frag) (Hs : Hp) (b : Addr) (ds bs : List D) (fs : List (PySem.Str × V)) (us : List V) : Prop where
  n5 : ds.length < 5
  nm : fs.map (·.1) = (cAttrs 5).take (ds.length + 1)
  at_ : ∃ ws, fs.map (·.2) = ws ++ [V.ref b] ∧ DRs K Hs ws ds
  li : DRs K Hs us bs
theorem TabO.mono {K : PySem.W.Frag} {Hs Hs' : Hp} {b : Addr} {ds bs : List D} {fs : List (PySem.Str × V)} {us : List V} (h : TabO K Hs b ds bs fs us) (s : Same Hs Hs') : TabO K Hs' b ds bs fs us :=
  ⟨h.n5, h.nm, let ⟨ws, a, c⟩ := h.at_; ⟨ws, a, c.mono s⟩, h.li.mono s⟩
abbrev fz2 (Fz : Hp) (l b : Addr) (o : HO) (us : List V) : Hp := upd (upd Fz l o) b (.lst us)
structure RelV (K : PySem.W.Frag) (Fz : Hp) (ba : Nat → Addr) (C : Addr) (i : Nat) (l b : Addr) (ds bs : List D) (G : Gam) (σ : L2.St) (H Hs : Hp) : Prop where
  fl : Fz l = none
  fb : Fz b = none
  ne : l ≠ b
  s0 : σ[i]? = some (some (.ref l))
  g0 : G[i]? = some .un
  r : ∃ dx fs us, TabO K Hs b ds bs fs us ∧ Rel K (fz2 Fz l b (.ins C dx fs) us) ba G σ H Hs
abbrev fzn (Fz : Hp) (l b : Addr) : Hp := fz2 Fz l b (.lst []) []
theorem fz2_none {Fz : Hp} {l b : Addr} {o o' : HO} {us us' : List V} {p : Addr} (h : fz2 Fz l b o us p = none) : fz2 Fz l b o' us' p = none := by
  unfold fz2 at *
  by_cases z : p = b
  · subst z
    rw [upd_same] at h
    cases h
  · rw [upd_ne z] at h ⊢
    by_cases y : p = l
    · subst y
      rw [upd_same] at h
      cases h
    · rw [upd_ne y] at h ⊢
      exact h
theorem fz2_off {Fz : Hp} {l b : Addr} {o : HO} {us : List V} {p : Addr} (h : fz2 Fz l b o us p = none) : p ≠ l ∧ p ≠ b ∧ Fz p = none := by
  unfold fz2 at *
  by_cases z : p = b
  · subst z
    rw [upd_same] at h
    cases h
  · rw [upd_ne z] at h
    by_cases y : p = l
    · subst y
      rw [upd_same] at h
      cases h
    · rw [upd_ne y] at h
      exact ⟨y, z, h⟩
theorem fz2_on {Fz : Hp} {l b : Addr} {o : HO} {us : List V} {p : Addr} (h1 : p ≠ l) (h2 : p ≠ b) : fz2 Fz l b o us p = Fz p := (upd_ne h2).trans (upd_ne h1)
theorem fz2_l {Fz : Hp} {l b : Addr} {o : HO} {us : List V} (h : l ≠ b) : fz2 Fz l b o us l = some o := (upd_ne h).trans upd_same
theorem Res.fz {K : PySem.W.Frag} {F F' : Hp} {G : Gam} {σ : L2.St} {H Hs : Hp} {v : V} {r : R} (h : Res K F G σ H Hs v r) (k : ∀ p, F p = none → F' p = none) : Res K F' G σ H Hs v r := by
  cases r with
  | im d => exact h
  | ow m =>
    obtain ⟨p, o, h1, h2, h3, h4, h5, h6⟩ := h
    exact ⟨p, o, h1, h2, h3, k p h4, h5, h6⟩
section
variable {K : PySem.W.Frag} {C : Addr} {i : Nat}
def isUn9 (G : Gam) (i : Nat) : Bool := match G[i]? with
  | some .un => true
  | _ => false
theorem isUn9_ok {G : Gam} {i : Nat} (h : isUn9 G i = true) : G[i]? = some .un := by
  unfold isUn9 at h
  split at h
  · assumption
  · cases h
theorem RelV.next {Fz : Hp} {ba : Nat → Addr} {l b : Addr} {ds bs : List D} {G G' : Gam} {σ σ' : L2.St} {H Hs H' Hs' : Hp} {dx : Addr} {fs : List (PySem.Str × V)} {us : List V} (q : RelV K Fz ba C i l b ds bs G σ H Hs) (t : TabO K Hs b ds bs fs us) (R : Rel K (fz2 Fz l b (.ins C dx fs) us) ba G' σ' H' Hs') (s : Same Hs Hs') (g : G'[i]? = some .un) (e : σ'[i]? = σ[i]?) : RelV K Fz ba C i l b ds bs G' σ' H' Hs' :=
  ⟨q.fl, q.fb, q.ne, e.trans q.s0, g, dx, fs, us, t.mono s, R⟩
abbrev MV (α : Type) := List D → List D → Gam → Option (α × Gam)
def lf {α : Type} (i : Nat) (f : M α) : MV α := fun _ _ G => match f G with
  | some (r, G') => if isUn9 G' i then some (r, G') else none
  | none => none
theorem lf_inv {α : Type} {f : M α} {ds bs : List D} {G G' : Gam} {r : α} (h : lf i f ds bs G = some (r, G')) : f G = some (r, G') ∧ G'[i]? = some .un := by
  unfold lf at h
  split at h
  case h_2 => cases h
  rename_i r0 G0 e
  split at h
  case isFalse => cases h
  rename_i hu
  cases h
  exact ⟨e, isUn9_ok hu⟩
def GOkV (K : PySem.W.Frag) (C : Addr) (i : Nat) (t : TE) (f : MV R) : Prop := ∀ Fz ba l b ds bs G σ H Hs r G', RelV K Fz ba C i l b ds bs G σ H Hs → f ds bs G = some (r, G') →
  ∀ Q : VK, (∀ v H' Hs', RelV K Fz ba C i l b ds bs G' σ H' Hs' → Same Hs Hs' → Res K (fzn Fz l b) G' σ H' Hs' v r → Q v H') → t σ H Q
def TOkV (K : PySem.W.Frag) (C : Addr) (i : Nat) (t : TT) (f : MV Bool) : Prop := ∀ Fz ba l b ds bs G σ H Hs r G', RelV K Fz ba C i l b ds bs G σ H Hs → f ds bs G = some (r, G') →
  ∀ Q : Bool → Hp → Prop, (∀ H' Hs', RelV K Fz ba C i l b ds bs G' σ H' Hs' → Same Hs Hs' → Q r H') → t σ H Q
def AOkV (K : PySem.W.Frag) (C : Addr) (i : Nat) (t : TA) (f : MV (List D)) : Prop := ∀ Fz ba l b ds bs G σ H Hs r G', RelV K Fz ba C i l b ds bs G σ H Hs → f ds bs G = some (r, G') →
  ∀ Q : List V → Hp → Prop, (∀ vs H' Hs', RelV K Fz ba C i l b ds bs G' σ H' Hs' → Same Hs Hs' → DRs K Hs' vs r → Q vs H') → t σ H Q
theorem GOk.v {t : TE} {f : M R} (h : GOk K t f) : GOkV K C i t (lf i f) := fun Fz ba l b ds bs G σ H Hs r G' q e Q k => by
  obtain ⟨e, u⟩ := lf_inv e
  obtain ⟨dx, fs, us, t, R⟩ := q.r
  exact h _ ba G σ H Hs r G' R e Q fun v H' Hs' R' s x => k v H' Hs' (q.next t R' s u rfl) s (x.fz fun p => fz2_none)
theorem TOk.v {t : TT} {f : M Bool} (h : TOk K t f) : TOkV K C i t (lf i f) := fun Fz ba l b ds bs G σ H Hs r G' q e Q k => by
  obtain ⟨e, u⟩ := lf_inv e
  obtain ⟨dx, fs, us, t, R⟩ := q.r
  exact h _ ba G σ H Hs r G' R e Q fun H' Hs' R' s => k H' Hs' (q.next t R' s u rfl) s
theorem AOk.v {t : TA} {f : M (List D)} (h : AOk K t f) : AOkV K C i t (lf i f) := fun Fz ba l b ds bs G σ H Hs r G' q e Q k => by
  obtain ⟨e, u⟩ := lf_inv e
  obtain ⟨dx, fs, us, t, R⟩ := q.r
  exact h _ ba G σ H Hs r G' R e Q fun v H' Hs' R' s x => k v H' Hs' (q.next t R' s u rfl) s x
/-- the value shared -/
theorem GOkV.im {t : TE} {f : MV R} (h : GOkV K C i t f) {Fz : Hp} {ba : Nat → Addr} {l b : Addr} {ds bs : List D} {G : Gam} {σ : L2.St} {H Hs : Hp} {r : R} {G' : Gam} (q : RelV K Fz ba C i l b ds bs G σ H Hs) (e : f ds bs G = some (r, G')) {Q : VK}
    (k : ∀ v H' Hs', RelV K Fz ba C i l b ds bs G' σ H' Hs' → Same Hs Hs' → DR K Hs' v r.d → Q v H') : t σ H Q :=
  h Fz ba l b ds bs G σ H Hs r G' q e Q fun v H' Hs' q' s x => by
    obtain ⟨dx, fs, us, t, R⟩ := q'.r
    obtain ⟨Hs2, R2, s2, d⟩ := R.fzr (x.fz fun p => fz2_none)
    exact k v H' Hs2 (q'.next t R2 s2 q'.g0 rfl) (s.trans s2) d
def vcons (a : MV R) (r : MV (List D)) : MV (List D) := fun ds bs G => match a ds bs G with
  | some (x, G1) => match r ds bs G1 with
    | some (xs, G2) => some (x.d :: xs, G2)
    | none => none
  | none => none
theorem ak_consV {ta : TE} {tr : TA} {a : MV R} {r : MV (List D)} (ha : GOkV K C i ta a) (hr : AOkV K C i tr r) : AOkV K C i (tCons ta tr) (vcons a r) := fun Fz ba l b ds bs G σ H Hs out G' q e Q k => by
  unfold vcons at e
  split at e
  case h_2 => cases e
  rename_i x G1 e1
  split at e
  case h_2 => cases e
  rename_i xs G2 e2
  cases e
  refine ha.im q e1 fun v1 H1 Hs1 q1 s1 d1 => ?_
  exact hr Fz ba l b ds bs G1 σ H1 Hs1 xs _ q1 e2 _ fun vs H2 Hs2 q2 s2 d2 => k _ H2 Hs2 q2 (s1.trans s2) (.cons (d1.mono s2) d2)
def vcall (m : List D → Option R) (a : MV (List D)) : MV R := fun ds bs G => match a ds bs G with
  | some (xs, G1) => match m xs with
    | some r => some (r, G1)
    | none => none
  | none => none
theorem gk_callV {m : List D → Option R} {E : XK} {ta : TA} {a : MV (List D)} (ha : AOkV K C i ta a) : GOkV K C i (tCall (spF K m) [] E ta) (vcall m a) := fun Fz ba l b ds bs G σ H Hs res G' q e Q k => by
  unfold vcall at e
  split at e
  case h_2 => cases e
  rename_i xs G1 e1
  split at e
  case h_2 => cases e
  rename_i r0 hm
  cases e
  refine ha Fz ba l b ds bs G σ H Hs xs _ q e1 _ fun vs H1 Hs1 q1 s1 d1 => ?_
  obtain ⟨dx, fs, us, t, R⟩ := q1.r
  exact ⟨Hs1, xs, _, R.sub, by rw [List.append_nil]; exact d1, hm, fun v H3 Hs3 ex rf => k v H3 Hs3 (q1.next t (R.ext ex) ex.b q1.g0 rfl) (s1.trans ex.b) ((rf.res R).fz fun p => fz2_none)⟩
def vtup (a : MV (List D)) : MV R := fun ds bs G => match a ds bs G with
  | some (xs, G1) => if few xs.length then some (.im (.tup xs), G1) else none
  | none => none
theorem gk_tupV {ta : TA} {a : MV (List D)} (ha : AOkV K C i ta a) : GOkV K C i (tTup ta) (vtup a) := fun Fz ba l b ds bs G σ H Hs res G' q e Q k => by
  unfold vtup at e
  split at e
  case h_2 => cases e
  rename_i xs G1 e1
  split at e
  case isFalse => cases e
  rename_i hf
  cases e
  refine ha Fz ba l b ds bs G σ H Hs xs _ q e1 _ fun vs H1 Hs1 q1 s1 d1 => ⟨by rw [d1.len]; exact few_ok hf, fun p hp => ?_⟩
  obtain ⟨dx, fs, us, t, R⟩ := q1.r
  have ex : Ext H1 Hs1 (upd H1 p (.tup vs)) (upd Hs1 p (.tup vs)) := Ext.new R.sub hp
  exact k _ _ _ (q1.next t (R.ext ex) ex.b q1.g0 rfl) (s1.trans ex.b) (.tup (SqT.of upd_same) (d1.mono ex.b))
end
end Bk
namespace Bk
open PySem L2
def bk1 (bs : List D) : Ent → Ent → Ent
  | .im d, .im _ => .im d
  | _, .un => .un
  | _, .im d => if nb1 bs d then .im d else .un
  | _, .ow m => if flatM bs m then .ow m else .un
  | _, .bx m => if flatM bs m then .bx m else .un
def bkG (bs : List D) (G G1 : Gam) : Gam := List.zipWith (bk1 bs) G G1
theorem bk1_im {bs : List D} {e e' : Ent} {d : D} (h : bk1 bs e e' = .im d) : e = .im d ∨ (e' = .im d ∧ nb1 bs d = true) := by
  cases e' with
  | un => cases e <;> cases h
  | im d' =>
    cases e with
    | im d0 => cases h; exact .inl rfl
    | un | ow _ | bx _ =>
      have h : (if nb1 bs d' then Ent.im d' else .un) = .im d := h
      split at h
      · cases h; exact .inr ⟨rfl, by assumption⟩
      · cases h
  | ow m =>
    have h : (if flatM bs m then Ent.ow m else .un) = .im d := by cases e <;> exact h
    split at h <;> cases h
  | bx m =>
    have h : (if flatM bs m then Ent.bx m else .un) = .im d := by cases e <;> exact h
    split at h <;> cases h
theorem bk1_mu {bs : List D} {e e' : Ent} {m : Mob} (h : (bk1 bs e e').mu = some m) : bk1 bs e e' = e' ∧ e'.mu = some m ∧ flatM bs m = true := by
  cases e' with
  | un => cases e <;> cases h
  | im d' =>
    cases e with
    | im d0 => cases h
    | un | ow _ | bx _ =>
      have h : (if nb1 bs d' then Ent.im d' else .un).mu = some m := h
      split at h <;> cases h
  | ow m' =>
    have e1 : bk1 bs e (.ow m') = if flatM bs m' then Ent.ow m' else .un := by cases e <;> rfl
    rw [e1] at h ⊢
    split at h
    · rename_i hf
      cases h
      rw [if_pos hf]
      exact ⟨rfl, rfl, hf⟩
    · cases h
  | bx m' =>
    have e1 : bk1 bs e (.bx m') = if flatM bs m' then Ent.bx m' else .un := by cases e <;> rfl
    rw [e1] at h ⊢
    split at h
    · rename_i hf
      cases h
      rw [if_pos hf]
      exact ⟨rfl, rfl, hf⟩
    · cases h
theorem bkG_get {bs : List D} {G G1 : Gam} {j : Nat} {e : Ent} (h : (bkG bs G G1)[j]? = some e) : ∃ a b, G[j]? = some a ∧ G1[j]? = some b ∧ e = bk1 bs a b := by
  unfold bkG at h
  rw [List.getElem?_zipWith] at h
  split at h
  · rename_i a b h1 h2
    cases h
    exact ⟨a, b, h1, h2, rfl⟩
  · cases h
def tabD (ds bs : List D) : D := .obj 5 (ds ++ [.lst bs])
section
variable {K : PySem.W.Frag} {mg : PySem.Str → Option Value} {i : Nat}
theorem same2 {Hs : Hp} {l b : Addr} {o u : HO} (h1 : Hs l = none) (h2 : Hs b = none) : Same Hs (upd (upd Hs l o) b u) := fun a x e => by
  rw [upd_ne (ne_of_none e h2), upd_ne (ne_of_none e h1)]
  exact e
/-- the pair shown as plain data -/
theorem lend_in {T : ClT K mg 5} {Fz : Hp} {ba : Nat → Addr} {l b : Addr} {ds bs : List D} {G : Gam} {σ : L2.St} {H Hs : Hp} {dx : Addr} {fs : List (PySem.Str × V)} {us : List V} (q : RelV K Fz ba T.C i l b ds bs G σ H Hs) (t : TabO K Hs b ds bs fs us) (R : Rel K (fz2 Fz l b (.ins T.C dx fs) us) ba G σ H Hs) :
    Rel K Fz ba (G.set i (.im (tabD ds bs))) σ H (upd (upd Hs l (.ins T.C dx fs)) b (.lst us)) := by
  obtain ⟨hl, sl⟩ := R.fz l _ (fz2_l q.ne)
  obtain ⟨hb, sb⟩ := R.fz b _ upd_same
  have sm : Same Hs (upd (upd Hs l (.ins T.C dx fs)) b (.lst us)) := same2 sl sb
  refine ⟨fun a u e => ?_, fun a u e => ?_, by rw [List.length_set]; exact R.len, fun j d e => ?_, fun j e m hj hm => ?_, fun j k e1 e2 x h1 h2 m1 m2 t1 t2 => ?_, fun j m hj => ?_⟩
  · by_cases z : a = b
    · subst z
      rw [upd_same] at e
      rw [← e]; exact hb
    · rw [upd_ne z] at e
      by_cases y : a = l
      · subst y
        rw [upd_same] at e
        rw [← e]; exact hl
      · rw [upd_ne y] at e
        exact R.sub a u e
  · have n1 : a ≠ l := ne_of_none e q.fl
    have n2 : a ≠ b := ne_of_none e q.fb
    obtain ⟨b1, b2⟩ := R.fz a u (by rw [fz2_on n1 n2]; exact e)
    refine ⟨b1, ?_⟩
    rw [upd_ne n2, upd_ne n1]
    exact b2
  · rcases get_set e with ⟨rfl, e1, _⟩ | ⟨_, e1⟩
    · cases e1
      obtain ⟨ws, w1, w2⟩ := t.at_
      refine ⟨_, q.s0, .obj T.at_ (by rw [upd_ne q.ne]; exact upd_same) ?_ w1 ((w2.mono sm).app (.cons (.lst upd_same (t.li.mono sm)) .nil))⟩
      rw [List.length_append, List.length_singleton]
      exact t.nm
    · obtain ⟨v, b1, b2⟩ := R.im j d e1
      exact ⟨v, b1, b2.mono sm⟩
  · rcases get_set hj with ⟨_, e1, _⟩ | ⟨z, e1⟩
    · subst e1
      cases hm
    · obtain ⟨l', o', b1, b2, b3, b4, b5⟩ := R.mu j e m e1 hm
      obtain ⟨n1, n2, n3⟩ := fz2_off b4
      refine ⟨l', o', b1, b2, ?_, n3, b5.mono sm⟩
      rw [upd_ne n2, upd_ne n1]
      exact b3
  · rcases get_set h1 with ⟨_, z, _⟩ | ⟨_, z1⟩
    · subst z; exact absurd rfl m1
    · rcases get_set h2 with ⟨_, z, _⟩ | ⟨_, z2⟩
      · subst z; exact absurd rfl m2
      · exact R.dj j k e1 e2 x z1 z2 m1 m2 t1 t2
  · rcases get_set hj with ⟨_, z, _⟩ | ⟨_, z⟩
    · cases z
    · exact R.bx j m z
/-- and hidden again -/
theorem lend_out {C : Addr} {Fz : Hp} {ba : Nat → Addr} {l b : Addr} {ds bs : List D} {G G1 : Gam} {σ : L2.St} {H Hs H' Hs1 : Hp} {dx : Addr} {fs : List (PySem.Str × V)} {us : List V} (q : RelV K Fz ba C i l b ds bs G σ H Hs) (t : TabO K Hs b ds bs fs us) (R : Rel K (fz2 Fz l b (.ins C dx fs) us) ba G σ H Hs)
    (q2 : Rel K Fz ba G1 σ H' Hs1) (s : Same (upd (upd Hs l (.ins C dx fs)) b (.lst us)) Hs1) :
    RelV K Fz ba C i l b ds bs (bkG bs G (G1.set i .un)) σ H' (out2 l b Hs1) ∧ Same Hs (out2 l b Hs1) ∧ Hs1 l = some (.ins C dx fs) ∧ Hs1 b = some (.lst us) ∧ DRs K Hs1 us bs := by
  obtain ⟨hl, sl⟩ := R.fz l _ (fz2_l q.ne)
  obtain ⟨hb, sb⟩ := R.fz b _ upd_same
  have sm : Same Hs (upd (upd Hs l (.ins C dx fs)) b (.lst us)) := same2 sl sb
  have l1 : Hs1 l = some (.ins C dx fs) := s l _ (by rw [upd_ne q.ne]; exact upd_same)
  have b1 : Hs1 b = some (.lst us) := s b _ upd_same
  have li1 : DRs K Hs1 us bs := (t.li.mono sm).mono s
  have s9 : Same Hs (out2 l b Hs1) := fun a u e => by
    have n1 : a ≠ l := ne_of_none e sl
    have n2 : a ≠ b := ne_of_none e sb
    rw [out2_ne n1 n2]
    exact s a u (sm a u e)
  have back : ∀ {j : Nat} {e : Ent}, (bkG bs G (G1.set i .un))[j]? = some e → e ≠ .un → ∃ a e', G[j]? = some a ∧ G1[j]? = some e' ∧ e = bk1 bs a e' := fun {j e} h hn => by
    obtain ⟨a, e', h1, h2, h3⟩ := bkG_get h
    rcases get_set h2 with ⟨_, z, _⟩ | ⟨_, z⟩
    · subst z
      exact absurd (h3.trans (by cases a <;> rfl)) hn
    · exact ⟨a, e', h1, z, h3⟩
  have mub : ∀ {j : Nat} {e : Ent} {m : Mob}, (bkG bs G (G1.set i .un))[j]? = some e → e.mu = some m → G1[j]? = some e ∧ flatM bs m = true := fun {j e m} h hm => by
    obtain ⟨a, e', h1, h2, h3⟩ := back h (by intro z; subst z; cases hm)
    subst h3
    obtain ⟨c1, c2, c3⟩ := bk1_mu hm
    rw [c1]
    exact ⟨h2, c3⟩
  have RR : Rel K (fz2 Fz l b (.ins C dx fs) us) ba (bkG bs G (G1.set i .un)) σ H' (out2 l b Hs1) := by
    refine ⟨fun a u e => ?_, fun a u e => ?_, ?_, fun j d e => ?_, fun j e m hj hm => ?_, fun j k e1 e2 x h1 h2 m1 m2 t1 t2 => ?_, fun j m hj => ?_⟩
    · have n1 : a ≠ l := fun z => by rw [z, out2_l] at e; cases e
      have n2 : a ≠ b := fun z => by rw [z, out2_b] at e; cases e
      rw [out2_ne n1 n2] at e
      exact q2.sub a u e
    · by_cases n2 : a = b
      · subst n2
        cases (upd_same.symm.trans e)
        exact ⟨q2.sub _ _ b1, out2_b⟩
      · by_cases n1 : a = l
        · subst n1
          cases ((fz2_l q.ne).symm.trans e)
          exact ⟨q2.sub _ _ l1, out2_l⟩
        · rw [fz2_on n1 n2] at e
          obtain ⟨c1, c2⟩ := q2.fz a u e
          exact ⟨c1, by rw [out2_ne n1 n2]; exact c2⟩
    · unfold bkG
      rw [List.length_zipWith, List.length_set, ← R.len, ← q2.len, Nat.min_self]
    · obtain ⟨a, e', h1, h2, h3⟩ := back e (by intro z; cases z)
      rcases bk1_im h3.symm with rfl | ⟨rfl, hf⟩
      · obtain ⟨v, c1, c2⟩ := R.im j d h1
        exact ⟨v, c1, c2.mono s9⟩
      · obtain ⟨v, c1, c2⟩ := q2.im j d h2
        exact ⟨v, c1, c2.nb l1 b1 li1 hf⟩
    · obtain ⟨h2, hf⟩ := mub hj hm
      obtain ⟨l', o', c1, c2, c3, c4, c5⟩ := q2.mu j e m h2 hm
      have n1 : l' ≠ l := fun z => by rw [z, l1] at c3; cases c3
      have n2 : l' ≠ b := fun z => by rw [z, b1] at c3; cases c3
      exact ⟨l', o', c1, c2, by rw [out2_ne n1 n2]; exact c3, by rw [fz2_on n1 n2]; exact c4, MobO.nb l1 b1 li1 c5 hf⟩
    · have g : ∀ {j : Nat} {e : Ent}, (bkG bs G (G1.set i .un))[j]? = some e → e.mu ≠ none → G1[j]? = some e := fun {j e} h hn => by
        cases z : e.mu with
        | none => exact absurd z hn
        | some m => exact (mub h z).1
      exact q2.dj j k e1 e2 x (g h1 m1) (g h2 m2) m1 m2 t1 t2
    · exact q2.bx j m (mub hj rfl).1
  have hg : (bkG bs G (G1.set i .un))[i]? = some .un := by
    unfold bkG
    rw [List.getElem?_zipWith, q.g0]
    have : i < G1.length := by
      rw [← q2.len]
      exact (List.getElem?_eq_some_iff.mp q.s0).1
    rw [List.getElem?_set_self this]
    rfl
  exact ⟨⟨q.fl, q.fb, q.ne, q.s0, hg, dx, fs, us, t.mono s9, RR⟩, s9, l1, b1, li1⟩
def lend9 {α : Type} (i : Nat) (ok : List D → α → Bool) (f : M α) : MV α := fun ds bs G => match f (G.set i (.im (tabD ds bs))) with
  | some (r, G1) => if ok bs r then some (r, bkG bs G (G1.set i .un)) else none
  | none => none
theorem lend9_inv {α : Type} {ok : List D → α → Bool} {f : M α} {ds bs : List D} {G G' : Gam} {r : α} (h : lend9 i ok f ds bs G = some (r, G')) : ∃ G1, f (G.set i (.im (tabD ds bs))) = some (r, G1) ∧ ok bs r = true ∧ G' = bkG bs G (G1.set i .un) := by
  unfold lend9 at h
  split at h
  case h_2 => cases h
  rename_i r0 G0 e
  split at h
  case isFalse => cases h
  rename_i hu
  cases h
  exact ⟨_, e, hu, rfl⟩
theorem res_out {C : Addr} {Fz : Hp} {l b : Addr} {bs : List D} {G G1 : Gam} {σ : L2.St} {H Hs1 : Hp} {dx : Addr} {fs : List (PySem.Str × V)} {us : List V} {v : V} {r : R} (l1 : Hs1 l = some (.ins C dx fs)) (b1 : Hs1 b = some (.lst us)) (li1 : DRs K Hs1 us bs) (hf : flatR bs r = true) (h : Res K Fz G1 σ H Hs1 v r) :
    Res K (fzn Fz l b) (bkG bs G (G1.set i .un)) σ H (out2 l b Hs1) v r := by
  cases r with
  | im d => exact DR.nb l1 b1 li1 h hf
  | ow m =>
    obtain ⟨p, o, rfl, h1, h2, h3, h4, h5⟩ := h
    have n1 : p ≠ l := fun z => by rw [z, l1] at h2; cases h2
    have n2 : p ≠ b := fun z => by rw [z, b1] at h2; cases h2
    refine ⟨p, o, rfl, h1, by rw [out2_ne n1 n2]; exact h2, (fz2_on n1 n2).trans h3, MobO.nb l1 b1 li1 h4 hf, fun j e g m z => ?_⟩
    obtain ⟨a, e', g1, g2, g3⟩ := bkG_get g
    cases y : e.mu with
    | none => exact m y
    | some m' =>
      rw [g3] at y
      obtain ⟨c1, c2, _⟩ := bk1_mu y
      rcases get_set g2 with ⟨_, w, _⟩ | ⟨_, w⟩
      · subst w
        cases c2
      · exact h5 j e' w (by rw [c2]; simp) z
theorem gk_lend9 {T : ClT K mg 5} {t : TE} {f : M R} (h : GOk K t f) : GOkV K T.C i t (lend9 i flatR f) := fun Fz ba l b ds bs G σ H Hs r G' q e Q k => by
  obtain ⟨G1, e1, hf, rfl⟩ := lend9_inv e
  obtain ⟨dx, fs, us, t, R⟩ := q.r
  refine h Fz ba _ σ H _ r G1 (lend_in q t R) e1 _ fun v H' Hs1 q2 s2 x => ?_
  obtain ⟨q3, s3, l1, b1, li1⟩ := lend_out q t R q2 s2
  exact k v H' _ q3 s3 (res_out l1 b1 li1 hf x)
theorem tk_lend9 {T : ClT K mg 5} {t : TT} {f : M Bool} (h : TOk K t f) : TOkV K T.C i t (lend9 i (fun _ _ => true) f) := fun Fz ba l b ds bs G σ H Hs r G' q e Q k => by
  obtain ⟨G1, e1, hf, rfl⟩ := lend9_inv e
  obtain ⟨dx, fs, us, t, R⟩ := q.r
  refine h Fz ba _ σ H _ r G1 (lend_in q t R) e1 _ fun H' Hs1 q2 s2 => ?_
  obtain ⟨q3, s3, _⟩ := lend_out q t R q2 s2
  exact k H' _ q3 s3
end
end Bk
namespace Bk
open PySem L2
abbrev MSV := List D → List D → Gam → Option (Fl × List D × List D × Gam)
section
variable {K : PySem.W.Frag} {mg : PySem.Str → Option Value} {C : Addr} {i : Nat}
def PostV (K : PySem.W.Frag) (Fz : Hp) (ba : Nat → Addr) (C : Addr) (i : Nat) (l : Addr) (ds bs : List D) (G' : Gam) (Hs : Hp) (Dn : Ends) : Fl → Prop
  | .nx => ∀ b σ' H' Hs', RelV K Fz ba C i l b ds bs G' σ' H' Hs' → Same Hs Hs' → Dn.nx σ' H'
  | .bk => ∀ b σ' H' Hs', RelV K Fz ba C i l b ds bs G' σ' H' Hs' → Same Hs Hs' → Dn.bk σ' H'
  | .ct => ∀ b σ' H' Hs', RelV K Fz ba C i l b ds bs G' σ' H' Hs' → Same Hs Hs' → Dn.ct σ' H'
  | .rt r => ∀ b v σ' H' Hs', RelV K Fz ba C i l b ds bs G' σ' H' Hs' → Same Hs Hs' → Res K (fzn Fz l b) G' σ' H' Hs' v r → Dn.rt v H'
theorem PostV.mono {Fz : Hp} {ba : Nat → Addr} {l : Addr} {ds bs : List D} {G' : Gam} {Hs Hs1 : Hp} {Dn : Ends} {fl : Fl} (h : PostV K Fz ba C i l ds bs G' Hs Dn fl) (s : Same Hs Hs1) : PostV K Fz ba C i l ds bs G' Hs1 Dn fl := by
  cases fl with
  | nx => exact fun b σ' H' Hs' r q => h b σ' H' Hs' r (s.trans q)
  | bk => exact fun b σ' H' Hs' r q => h b σ' H' Hs' r (s.trans q)
  | ct => exact fun b σ' H' Hs' r q => h b σ' H' Hs' r (s.trans q)
  | rt x => exact fun b v σ' H' Hs' r q => h b v σ' H' Hs' r (s.trans q)
def SOkV (K : PySem.W.Frag) (C : Addr) (i : Nat) (t : TS) (f : MSV) : Prop := ∀ Fz ba l b ds bs G σ H Hs fl ds' bs' G', RelV K Fz ba C i l b ds bs G σ H Hs → f ds bs G = some (fl, ds', bs', G') → ∀ Dn : Ends, PostV K Fz ba C i l ds' bs' G' Hs Dn fl → t Dn σ H
/-- the ends, where the slot stays -/
def pinD (i : Nat) (σ : L2.St) (Dn : Ends) : Ends := { nx := fun σ' H' => σ'[i]? = σ[i]? → Dn.nx σ' H', bk := fun σ' H' => σ'[i]? = σ[i]? → Dn.bk σ' H', ct := fun σ' H' => σ'[i]? = σ[i]? → Dn.ct σ' H', rt := Dn.rt }
def PinE (i : Nat) (t : TS) : Prop := ∀ (Dn : Ends) σ H, t (pinD i σ Dn) σ H = t Dn σ H
theorem imp_rfl {p q : Prop} (h : p) : (p → q) = q := propext ⟨fun k => k h, fun k _ => k⟩
theorem pin_drop {te : TE} : PinE i (tDrop te) := fun Dn σ H => by
  show te σ H (fun _ H1 => (σ[i]? = σ[i]? → Dn.nx σ H1)) = te σ H fun _ H1 => Dn.nx σ H1
  refine congrArg (te σ H) (funext fun _ => funext fun H1 => imp_rfl rfl)
def lfS (i : Nat) (f : MS) : MSV := fun ds bs G => match f G with
  | some (.rt _, _) => none
  | some (fl, G') => if isUn9 G' i then some (fl, ds, bs, G') else none
  | none => none
theorem SOk.v {t : TS} {f : MS} (h : SOk K t f) (hp : PinE i t) : SOkV K C i t (lfS i f) := fun Fz ba l b ds bs G σ H Hs fl ds' bs' G' q e Dn p => by
  unfold lfS at e
  split at e
  case h_1 => cases e
  case h_3 => cases e
  rename_i fl0 G0 nr e0
  split at e
  case isFalse => cases e
  rename_i hu
  cases e
  obtain ⟨dx, fs, us, t, R⟩ := q.r
  rw [← hp Dn σ H]
  refine h _ ba G σ H Hs fl G' R e0 _ ?_
  cases fl with
  | nx => exact fun σ' H' Hs' R' s e => p b σ' H' Hs' (q.next t R' s (isUn9_ok hu) e) s
  | bk => exact fun σ' H' Hs' R' s e => p b σ' H' Hs' (q.next t R' s (isUn9_ok hu) e) s
  | ct => exact fun σ' H' Hs' R' s e => p b σ' H' Hs' (q.next t R' s (isUn9_ok hu) e) s
  | rt r => exact (nr r rfl).elim
def vset (j : Nat) (a : MV R) : MSV := fun ds bs G => match a ds bs G with
  | some (r, G1) => some (.nx, ds, bs, G1.set j r.ent)
  | none => none
theorem sk_setV {j : Nat} {ta : TE} {a : MV R} (ha : GOkV K C i ta a) (hj : j ≠ i := by decide) : SOkV K C i (tAsg ta (gName j)) (vset j a) := fun Fz ba l b ds bs G σ H Hs fl ds' bs' G' q e Dn p => by
  unfold vset at e
  split at e
  case h_2 => cases e
  rename_i r G1 e1
  cases e
  refine ha Fz ba l b ds bs G σ H Hs r G1 q e1 _ fun v H1 Hs1 q1 s1 x => ?_
  obtain ⟨dx, fs, us, t, R⟩ := q1.r
  exact p b _ H1 Hs1 (q1.next t (R.set (x.fz fun p => fz2_none)) (Same.refl _) (by rw [List.getElem?_set_ne hj]; exact q1.g0) (List.getElem?_set_ne hj)) s1
/-- the value frozen -/
def vfz (a : MV R) : MV R := fun ds bs G => match a ds bs G with
  | some (r, G1) => some (.im r.d, G1)
  | none => none
theorem gk_vfz {ta : TE} {a : MV R} (ha : GOkV K C i ta a) : GOkV K C i ta (vfz a) := fun Fz ba l b ds bs G σ H Hs r G' q e Q k => by
  unfold vfz at e
  split at e
  case h_2 => cases e
  rename_i r0 G1 e1
  cases e
  exact ha.im q e1 fun v H1 Hs1 q1 s1 d1 => k v H1 Hs1 q1 s1 d1
/-- two names at once, the first value frozen -/
def vpar (j k : Nat) (a c : MV R) : MSV := fun ds bs G => match a ds bs G with
  | some (r, G1) => match c ds bs G1 with
    | some (r2, G2) => some (.nx, ds, bs, (G2.set j (.im r.d)).set k r2.ent)
    | none => none
  | none => none
theorem sk_parV {j k : Nat} {ta tc : TE} {a c : MV R} (ha : GOkV K C i ta a) (hc : GOkV K C i tc c) (hj : j ≠ i := by decide) (hk : k ≠ i := by decide) : SOkV K C i (tPar j k (tCons ta (tCons tc tNil))) (vpar j k a c) := fun Fz ba l b ds bs G σ H Hs fl ds' bs' G' q e Dn p => by
  unfold vpar at e
  split at e
  case h_2 => cases e
  rename_i r G1 e1
  split at e
  case h_2 => cases e
  rename_i r2 G2 e2
  cases e
  refine ha.im q e1 fun v H1 Hs1 q1 s1 d1 => ?_
  refine hc Fz ba l b ds bs G1 σ H1 Hs1 r2 G2 q1 e2 _ fun w H2 Hs2 q2 s2 x => ?_
  obtain ⟨dx, fs, us, t, R⟩ := q2.r
  have x2 : Res K (fz2 Fz l b (.ins C dx fs) us) G2 σ H2 Hs2 w r2 := x.fz fun p => fz2_none
  have R2 := R.set (i := j) (x := .im r.d) (v := v) (d1.mono s2)
  have x3 := Res.set (i := j) R.len x2 (v := v) (x := .im r.d) (fun p hp => hp.1.elim fun m z => nomatch z) (d1.mono s2)
  exact ⟨v, w, rfl, p b _ H2 Hs2 (q2.next t (R2.set (i := k) x3) (Same.refl _) (by rw [List.getElem?_set_ne hk, List.getElem?_set_ne hj]; exact q2.g0) (by rw [List.getElem?_set_ne hk, List.getElem?_set_ne hj])) (s1.trans s2)⟩
def vseq (a c : MSV) : MSV := fun ds bs G => match a ds bs G with
  | some (.nx, ds1, bs1, G1) => c ds1 bs1 G1
  | o => o
theorem sk_seqV {t u : TS} {a c : MSV} (ha : SOkV K C i t a) (hc : SOkV K C i u c) : SOkV K C i (tSeq t u) (vseq a c) := fun Fz ba l b ds bs G σ H Hs fl ds' bs' G' q e Dn p => by
  unfold vseq at e
  cases h : a ds bs G with
  | none => rw [h] at e; cases e
  | some x =>
    obtain ⟨f1, ds1, bs1, G1⟩ := x
    rw [h] at e
    refine ha Fz ba l b ds bs G σ H Hs f1 ds1 bs1 G1 q h { Dn with nx := u Dn } ?_
    cases f1 with
    | nx => exact fun b1 σ1 H1 Hs1 q1 s1 => hc Fz ba l b1 ds1 bs1 G1 σ1 H1 Hs1 fl ds' bs' G' q1 e Dn (p.mono s1)
    | bk => cases e; exact p
    | ct => cases e; exact p
    | rt r => cases e; exact p
def vifs (t : MV Bool) (a c : MSV) : MSV := fun ds bs G => match t ds bs G with
  | some (k, G1) => if k then a ds bs G1 else c ds bs G1
  | none => none
theorem sk_ifV {t : TT} {u w : TS} {c : MV Bool} {a d : MSV} (hc : TOkV K C i t c) (ha : SOkV K C i u a) (hd : SOkV K C i w d) : SOkV K C i (tIfS t u w) (vifs c a d) := fun Fz ba l b ds bs G σ H Hs fl ds' bs' G' q e Dn p => by
  unfold vifs at e
  split at e
  case h_2 => cases e
  rename_i k G1 e1
  refine hc Fz ba l b ds bs G σ H Hs k G1 q e1 _ fun H1 Hs1 q1 s1 => ?_
  cases k with
  | true => exact ha Fz ba l b ds bs G1 σ H1 Hs1 fl ds' bs' G' q1 e Dn (p.mono s1)
  | false => exact hd Fz ba l b ds bs G1 σ H1 Hs1 fl ds' bs' G' q1 e Dn (p.mono s1)
def vret (a : MV R) : MSV := fun ds bs G => match a ds bs G with
  | some (r, G1) => some (.rt r, ds, bs, G1)
  | none => none
theorem sk_retV {ta : TE} {a : MV R} (ha : GOkV K C i ta a) : SOkV K C i (tRet ta) (vret a) := fun Fz ba l b ds bs G σ H Hs fl ds' bs' G' q e Dn p => by
  unfold vret at e
  split at e
  case h_2 => cases e
  rename_i r G1 e1
  cases e
  exact ha Fz ba l b ds bs G σ H Hs r _ q e1 _ fun v H1 Hs1 q1 s1 x => p b v σ H1 Hs1 q1 s1 x
def vdrop (a : MV R) : MSV := fun ds bs G => match a ds bs G with
  | some (_, G1) => some (.nx, ds, bs, G1)
  | none => none
theorem sk_dropV {ta : TE} {a : MV R} (ha : GOkV K C i ta a) : SOkV K C i (tDrop ta) (vdrop a) := fun Fz ba l b ds bs G σ H Hs fl ds' bs' G' q e Dn p => by
  unfold vdrop at e
  split at e
  case h_2 => cases e
  rename_i r G1 e1
  cases e
  exact ha Fz ba l b ds bs G σ H Hs r _ q e1 _ fun v H1 Hs1 q1 s1 x => p b σ H1 Hs1 q1 s1
def vnext : MSV := fun ds bs G => some (.nx, ds, bs, G)
theorem sk_nextV : SOkV K C i tNext vnext := fun Fz ba l b ds bs G σ H Hs fl ds' bs' G' q e Dn p => by
  cases e
  exact p b σ H Hs q (Same.refl _)
def vwhileN (c : MV Bool) (a : MSV) : Nat → MSV
  | 0, _, _, _ => none
  | n + 1, ds, bs, G => match c ds bs G with
    | none => none
    | some (k, G1) => if k then (match a ds bs G1 with
      | some (.nx, ds2, bs2, G2) => vwhileN c a n ds2 bs2 G2
      | some (.ct, ds2, bs2, G2) => vwhileN c a n ds2 bs2 G2
      | some (.bk, ds2, bs2, G2) => some (.nx, ds2, bs2, G2)
      | some (.rt r, ds2, bs2, G2) => some (.rt r, ds2, bs2, G2)
      | none => none) else some (.nx, ds, bs, G1)
theorem sk_whileV {t : TT} {u : TS} {c : MV Bool} {a : MSV} (n : Nat) (hc : TOkV K C i t c) (ha : SOkV K C i u a) : SOkV K C i (tWhile t u) (vwhileN c a n) := fun Fz ba l b ds bs G σ H Hs fl ds' bs' G' q e Dn p => by
  refine ⟨fun m σ1 H1 => ∃ b1 ds1 bs1 G1 Hs1, RelV K Fz ba C i l b1 ds1 bs1 G1 σ1 H1 Hs1 ∧ Same Hs Hs1 ∧ vwhileN c a m ds1 bs1 G1 = some (fl, ds', bs', G'), ⟨n, b, ds, bs, G, Hs, q, Same.refl _, e⟩, ?_⟩
  rintro m σ1 H1 ⟨b1, ds1, bs1, G1, Hs1, q1, s1, e1⟩
  cases m with
  | zero => cases e1
  | succ m =>
    unfold vwhileN at e1
    split at e1
    case h_1 => cases e1
    rename_i k G2 e2
    refine hc Fz ba l b1 ds1 bs1 G1 σ1 H1 Hs1 k G2 q1 e2 _ fun H2 Hs2 q2 s2 => ?_
    cases k with
    | false => cases e1; exact p b1 σ1 H2 Hs2 q2 (s1.trans s2)
    | true =>
      refine ⟨fun σ' H' => ∃ b3 ds3 bs3 G3 Hs3, RelV K Fz ba C i l b3 ds3 bs3 G3 σ' H' Hs3 ∧ Same Hs Hs3 ∧ vwhileN c a m ds3 bs3 G3 = some (fl, ds', bs', G'), fun σ' H' z => ⟨m, Nat.lt_succ_self m, z⟩, ?_⟩
      rw [if_pos rfl] at e1
      cases hb : a ds1 bs1 G2 with
      | none => rw [hb] at e1; cases e1
      | some y =>
        obtain ⟨f1, ds3, bs3, G3⟩ := y
        rw [hb] at e1
        refine ha Fz ba l b1 ds1 bs1 G2 σ1 H2 Hs2 f1 ds3 bs3 G3 q2 hb _ ?_
        cases f1 with
        | nx => exact fun b' σ' H' Hs' a1 a2 => ⟨b', ds3, bs3, G3, Hs', a1, (s1.trans s2).trans a2, e1⟩
        | ct => exact fun b' σ' H' Hs' a1 a2 => ⟨b', ds3, bs3, G3, Hs', a1, (s1.trans s2).trans a2, e1⟩
        | bk => cases e1; exact fun b' σ' H' Hs' a1 a2 => p b' σ' H' Hs' a1 ((s1.trans s2).trans a2)
        | rt r => cases e1; exact fun b' v σ' H' Hs' a1 a2 a3 => p b' v σ' H' Hs' a1 ((s1.trans s2).trans a2) a3
def IOkV (K : PySem.W.Frag) (C : Addr) (i : Nat) (w : TI) (f : MV (List D)) : Prop := ∀ Fz ba l b ds bs G σ H Hs es G', RelV K Fz ba C i l b ds bs G σ H Hs → f ds bs G = some (es, G') →
  ∀ Q : It → Hp → Prop, (∀ J H' Hs', RelV K Fz ba C i l b ds bs G' σ H' Hs' → Same Hs Hs' → Yl K J es Hs' → Q J H') → w σ H Q
theorem IOk.v {w : TI} {f : M (List D)} (h : IOk K w f) : IOkV K C i w (lf i f) := fun Fz ba l b ds bs G σ H Hs es G' q e Q k => by
  obtain ⟨e, u⟩ := lf_inv e
  obtain ⟨dx, fs, us, t, R⟩ := q.r
  exact h _ ba G σ H Hs es G' R e Q fun J H' Hs' R' s y => k J H' Hs' (q.next t R' s u rfl) s y
/-- an attribute's value -/
def vat (k : Nat) : MV R := fun ds _ G => match ds[k]? with
  | some d => some (.im d, G)
  | none => none
theorem gk_vat {T : ClT K mg 5} {k : Nat} {nm : PySem.Str} (hf : (cAttrs 5)[k]? = some nm) : GOkV K T.C i (tFld K (tVar i) nm) (vat k) := fun Fz ba l b ds bs G σ H Hs r G' q e Q z => by
  unfold vat at e
  split at e
  case h_2 => cases e
  rename_i d hd
  cases e
  obtain ⟨dx, fs, us, t, R⟩ := q.r
  obtain ⟨ws, w1, w2⟩ := t.at_
  obtain ⟨w, g1, g2⟩ := w2.at hd
  have hl := (R.fz l _ (fz2_l q.ne)).1
  have hk : k < ds.length := (List.getElem?_eq_some_iff.mp hd).1
  refine ⟨_, q.s0, l, T.C, dx, fs, w, rfl, hl, T.cls, T.na nm (List.mem_of_getElem? hf), fs_get ?_ (i := k) (by rw [w1, List.getElem?_append_left (by rw [w2.len]; exact hk)]; exact g1) nm ?_, z w H Hs q (Same.refl _) g2⟩
  · rw [t.nm]; exact take_nd
  · rw [t.nm]; exact take_at hf (by omega)
def vrange (a : MV R) : MV (List D) := fun ds bs G => match a ds bs G with
  | some (r, G1) => (match r.d with
    | .int n => if okR n then some (rng 0 n.toNat, G1) else none
    | _ => none)
  | none => none
theorem ik_rangeV {ta : TE} {a : MV R} (ha : GOkV K C i ta a) : IOkV K C i (iRng1 (tCons ta tNil)) (vrange a) := fun Fz ba l b ds bs G σ H Hs es G' q e Q k => by
  unfold vrange at e
  split at e
  case h_2 => cases e
  rename_i r G1 e1
  split at e
  case h_2 => cases e
  rename_i n hn
  split at e
  case isFalse => cases e
  rename_i hr
  cases e
  refine ha.im q e1 fun v H1 Hs1 q1 s1 d1 => ?_
  rw [hn] at d1
  cases d1
  exact ⟨_, rfl, (okR_inv hr).1, (okR_inv hr).2, k _ H1 Hs1 q1 s1 yl_rng⟩
def venum (a : MV R) : MV (List D) := fun ds bs G => match a ds bs G with
  | some (r, G1) => (match asL r.d with
    | some xs => some (enumD 0 xs, G1)
    | none => none)
  | none => none
theorem ik_enumV {ta : TE} {a : MV R} (ha : GOkV K C i ta a) : IOkV K C i (iEnumA K (tCons ta tNil)) (venum a) := fun Fz ba l b ds bs G σ H Hs es G' q e Q k => by
  unfold venum at e
  split at e
  case h_2 => cases e
  rename_i r G1 e1
  split at e
  case h_2 => cases e
  rename_i xs hx
  cases e
  refine ha.im q e1 fun v H1 Hs1 q1 s1 d1 => ?_
  obtain ⟨a1, x1, rfl, l1, r1⟩ := asL_ok d1 hx
  obtain ⟨dx, fs, us, t, R⟩ := q1.r
  exact ⟨a1, rfl, .inl ⟨⟨x1, same_lst R.sub l1⟩, k _ H1 Hs1 q1 s1 (yl_enum l1 r1)⟩⟩
def vforL (i : Nat) (tg : D → Gam → Option Gam) (a : MSV) : List D → MSV
  | [], ds, bs, G => some (.nx, ds, bs, G)
  | d :: es, ds, bs, G => match tg d G with
    | none => none
    | some G1 => if isUn9 G1 i then (match a ds bs G1 with
      | some (.nx, ds2, bs2, G2) => vforL i tg a es ds2 bs2 G2
      | some (.ct, ds2, bs2, G2) => vforL i tg a es ds2 bs2 G2
      | some (.bk, ds2, bs2, G2) => some (.nx, ds2, bs2, G2)
      | some (.rt r, ds2, bs2, G2) => some (.rt r, ds2, bs2, G2)
      | none => none) else none
def vfor (i : Nat) (it : MV (List D)) (tg : D → Gam → Option Gam) (a : MSV) : MSV := fun ds bs G => match it ds bs G with
  | some (es, G1) => vforL i tg a es ds bs G1
  | none => none
theorem sk_forV {w : TI} {g : TG} {u : TS} {it : MV (List D)} {tg : D → Gam → Option Gam} {js : List Nat} {a : MSV} (hi : IOkV K C i w it) (hg : GtOk K g tg js) (ha : SOkV K C i u a) (hj : i ∉ js := by decide) : SOkV K C i (tFor w g u) (vfor i it tg a) := fun Fz ba l b ds bs G σ H Hs fl ds' bs' G' q e Dn p => by
  unfold vfor at e
  split at e
  case h_2 => cases e
  rename_i es G1 e1
  refine hi Fz ba l b ds bs G σ H Hs es G1 q e1 _ fun J H1 Hs1 q1 s1 Y => ?_
  refine ⟨fun k m σ2 H2 => m = es.length - k ∧ k ≤ es.length ∧ ∃ b2 ds2 bs2 G2 Hs2, RelV K Fz ba C i l b2 ds2 bs2 G2 σ2 H2 Hs2 ∧ Same Hs1 Hs2 ∧ vforL i tg a (es.drop k) ds2 bs2 G2 = some (fl, ds', bs', G'), ⟨es.length, rfl, Nat.zero_le _, b, ds, bs, G1, Hs1, q1, Same.refl _, e⟩, ?_⟩
  rintro k m σ2 H2 ⟨rfl, hk, b2, ds2, bs2, G2, Hs2, q2, s2, e2⟩
  obtain ⟨dx2, fs2, us2, t2, R2⟩ := q2.r
  by_cases hlt : k < es.length
  · refine .inr ⟨Y.go k H2 (s2.trans R2.sub) hlt, fun σ' H' => k + 1 ≤ es.length ∧ ∃ b3 ds3 bs3 G3 Hs3, RelV K Fz ba C i l b3 ds3 bs3 G3 σ' H' Hs3 ∧ Same Hs1 Hs3 ∧ vforL i tg a (es.drop (k + 1)) ds3 bs3 G3 = some (fl, ds', bs', G'), fun σ' H' z => ⟨es.length - (k + 1), by omega, rfl, z.1, z.2⟩, fun x H' y => ?_⟩
    obtain ⟨d, Hs3, d1, ex, dr⟩ := Y.yld k x H2 H' Hs2 hlt s2 R2.sub y
    have R3 := R2.ext ex
    have ed : es.drop k = d :: es.drop (k + 1) := by
      rw [List.drop_eq_getElem_cons hlt]
      rw [List.getElem?_eq_getElem hlt] at d1
      cases d1
      rfl
    rw [ed] at e2
    unfold vforL at e2
    cases hG : tg d G2 with
    | none => rw [hG] at e2; cases e2
    | some G3 =>
      rw [hG] at e2
      simp only at e2
      split at e2
      case isFalse => cases e2
      rename_i hu
      refine hg.run _ ba G2 σ2 H' Hs3 x d G3 R3 dr hG _ fun σ3 R4 _ hs => ?_
      have q4 := q2.next t2 R4 ex.b (isUn9_ok hu) (hs i hj)
      cases hbG : a ds2 bs2 G3 with
      | none => rw [hbG] at e2; cases e2
      | some y =>
        obtain ⟨f1, ds4, bs4, G4⟩ := y
        rw [hbG] at e2
        refine ha Fz ba l b2 ds2 bs2 G3 σ3 H' Hs3 f1 ds4 bs4 G4 q4 hbG _ ?_
        cases f1 with
        | nx => exact fun b' σ' H5 Hs' a1 a2 => ⟨hlt, b', ds4, bs4, G4, Hs', a1, (s2.trans ex.b).trans a2, e2⟩
        | ct => exact fun b' σ' H5 Hs' a1 a2 => ⟨hlt, b', ds4, bs4, G4, Hs', a1, (s2.trans ex.b).trans a2, e2⟩
        | bk => cases e2; exact fun b' σ' H5 Hs' a1 a2 => p b' σ' H5 Hs' a1 (((s1.trans s2).trans ex.b).trans a2)
        | rt r => cases e2; exact fun b' v σ' H5 Hs' a1 a2 a3 => p b' v σ' H5 Hs' a1 (((s1.trans s2).trans ex.b).trans a2) a3
  · have hend : es.length ≤ k := by omega
    rw [List.drop_eq_nil_of_le hend] at e2
    cases e2
    exact .inl ⟨Y.stop k H2 (s2.trans R2.sub) hend, p b2 σ2 H2 Hs2 q2 (s1.trans s2)⟩
end
end Bk
namespace Bk
open PySem L2
section
variable {K : PySem.W.Frag} {mg : PySem.Str → Option Value} {C : Addr} {i : Nat}
theorem fz2_comm {Fz : Hp} {l b : Addr} {o : HO} {us : List V} (ne : l ≠ b) : fz2 Fz l b o us = upd (upd Fz b (.lst us)) l o := funext fun a => by
  unfold fz2
  by_cases z : a = b
  · subst z
    rw [upd_same, upd_ne (Ne.symm ne), upd_same]
  · by_cases y : a = l
    · subst y
      rw [upd_ne z, upd_same, upd_same]
    · rw [upd_ne z, upd_ne y, upd_ne y, upd_ne z]
theorem Rel.rehide_l {Fz : Hp} {ba : Nat → Addr} {G : Gam} {σ : L2.St} {H Hs : Hp} {l b : Addr} {o o' : HO} {us : List V} (q : Rel K (fz2 Fz l b o us) ba G σ H Hs) (ne : l ≠ b) : Rel K (fz2 Fz l b o' us) ba G σ (upd H l o') Hs := by
  rw [fz2_comm ne] at q ⊢
  exact q.rehide
theorem TabO.len {Hs : Hp} {b : Addr} {ds bs : List D} {fs : List (PySem.Str × V)} {us : List V} (t : TabO K Hs b ds bs fs us) : fs.length < 1000 := by
  have z := congrArg List.length t.nm
  rw [List.length_map, List.length_take] at z
  have : (cAttrs 5).length = 5 := rfl
  omega
theorem TabO.nd {Hs : Hp} {b : Addr} {ds bs : List D} {fs : List (PySem.Str × V)} {us : List V} (t : TabO K Hs b ds bs fs us) : (fs.map (·.1)).Nodup := by
  rw [t.nm]
  exact take_nd
/-- self.f = e, an attribute that stands -/
def vfld (k : Nat) (a : MV R) : MSV := fun ds bs G => match a ds bs G with
  | some (r, G1) => if k < ds.length then some (.nx, ds.set k r.d, bs, G1) else none
  | none => none
theorem sk_fldV {T : ClT K mg 5} {k : Nat} {nm : PySem.Str} (hf : (cAttrs 5)[k]? = some nm) {ta : TE} {a : MV R} (ha : GOkV K T.C i ta a) : SOkV K T.C i (sFld K (tVar i) ta nm) (vfld k a) := fun Fz ba l b ds bs G σ H Hs fl ds' bs' G' q e Dn p => by
  unfold vfld at e
  split at e
  case h_2 => cases e
  rename_i r G1 e1
  split at e
  case isFalse => cases e
  rename_i hk
  cases e
  refine ha.im q e1 fun v H1 Hs1 q1 s1 d1 => ?_
  obtain ⟨dx, fs, us, t, R⟩ := q1.r
  obtain ⟨ws, w1, w2⟩ := t.at_
  have hl := (R.fz l _ (fz2_l q1.ne)).1
  obtain ⟨p1, p2⟩ := putF_old (v := v) t.nd (i := k) (f := nm) (by rw [t.nm]; exact take_at hf (by omega))
  refine ⟨_, q1.s0, l, T.C, dx, fs, rfl, hl, T.cls, T.na nm (List.mem_of_getElem? hf), t.len, p b σ _ Hs1 ⟨q1.fl, q1.fb, q1.ne, q1.s0, q1.g0, dx, putF nm v fs, us, ⟨by rw [List.length_set]; exact t.n5, by rw [p1, List.length_set]; exact t.nm, ⟨ws.set k v, ?_, DRs.set d1 k w2⟩, t.li⟩, R.rehide_l q1.ne⟩ s1⟩
  rw [p2, w1, List.set_append_left _ _ (by rw [w2.len]; exact hk)]
/-- self.f[k] = e, f the hidden list -/
def vbput (n : Nat) (a c : MV R) : MSV := fun ds bs G => match a ds bs G with
  | some (x, G1) => match c ds bs G1 with
    | some (k, G2) => (match k.d with
      | .int k => (match ixN bs.length k with
        | some j => if ds.length = n then some (.nx, ds, bs.set j x.d, G2) else none
        | none => none)
      | _ => none)
    | none => none
  | none => none
theorem fld_b {T : ClT K mg 5} {n : Nat} {nm : PySem.Str} (hf : (cAttrs 5)[n]? = some nm) {Fz : Hp} {ba : Nat → Addr} {l b : Addr} {ds bs : List D} {G : Gam} {σ : L2.St} {H Hs : Hp} (q : RelV K Fz ba T.C i l b ds bs G σ H Hs) (hn : ds.length = n) {Q : VK} (k : Q (.ref b) H) : tFld K (tVar i) nm σ H Q := by
  obtain ⟨dx, fs, us, t, R⟩ := q.r
  obtain ⟨ws, w1, w2⟩ := t.at_
  have hl := (R.fz l _ (fz2_l q.ne)).1
  refine ⟨_, q.s0, l, T.C, dx, fs, .ref b, rfl, hl, T.cls, T.na nm (List.mem_of_getElem? hf), fs_get t.nd (i := n) ?_ nm ?_, k⟩
  · have e : ws.length = n := w2.len.trans hn
    rw [w1, ← e, List.getElem?_append_right (Nat.le_refl _), Nat.sub_self]
    rfl
  · rw [t.nm]; exact take_at hf (by omega)
theorem sk_bputV {T : ClT K mg 5} {n : Nat} {nm : PySem.Str} (hf : (cAttrs 5)[n]? = some nm) {ta tc : TE} {a c : MV R} (ha : GOkV K T.C i ta a) (hc : GOkV K T.C i tc c) : SOkV K T.C i (tAsg ta (gSub (tFld K (tVar i) nm) tc rSetL)) (vbput n a c) := fun Fz ba l b ds bs G σ H Hs fl ds' bs' G' q e Dn p => by
  unfold vbput at e
  split at e
  case h_2 => cases e
  rename_i x G1 e1
  split at e
  case h_2 => cases e
  rename_i k G2 e2
  split at e
  case h_2 => cases e
  rename_i z hz
  split at e
  case h_2 => cases e
  rename_i j hj
  split at e
  case isFalse => cases e
  rename_i hn
  cases e
  refine ha.im q e1 fun v H1 Hs1 q1 s1 d1 => ?_
  refine fld_b hf q1 hn ?_
  refine hc.im q1 e2 fun w H2 Hs2 q2 s2 d2 => ?_
  rw [hz] at d2
  cases d2
  obtain ⟨dx, fs, us, t, R⟩ := q2.r
  have hb := (R.fz b _ upd_same).1
  refine ⟨b, us, z, j, rfl, rfl, hb, by rw [t.li.len]; exact hj, p b σ _ Hs2 ⟨q2.fl, q2.fb, q2.ne, q2.s0, q2.g0, dx, fs, us.set j v, ⟨t.n5, t.nm, t.at_, DRs.set (d1.mono s2) j t.li⟩, R.rehide⟩ (s1.trans s2)⟩
/-- self.f.append(e), f the hidden list -/
def vbapp (n : Nat) (a : MV R) : MSV := fun ds bs G => match a ds bs G with
  | some (x, G1) => if ds.length = n ∧ few bs.length = true then some (.nx, ds, bs ++ [x.d], G1) else none
  | none => none
theorem sk_bappV {T : ClT K mg 5} {n : Nat} {nm : PySem.Str} (hf : (cAttrs 5)[n]? = some nm) {ta : TE} {a : MV R} (ha : GOkV K T.C i ta a) : SOkV K T.C i (tDrop (tBM K "list" rAppend (tFld K (tVar i) nm) (tCons ta tNil))) (vbapp n a) := fun Fz ba l b ds bs G σ H Hs fl ds' bs' G' q e Dn p => by
  unfold vbapp at e
  split at e
  case h_2 => cases e
  rename_i x G1 e1
  split at e
  case isFalse => cases e
  rename_i hn
  cases e
  obtain ⟨dx0, fs0, us0, t0, R0⟩ := q.r
  refine fld_b (Q := fun x H1 => _) hf q hn.1 ⟨.inl ⟨rfl, us0, SqL.of (R0.fz b _ upd_same).1⟩, ?_⟩
  refine ha.im q e1 fun v H1 Hs1 q1 s1 d1 => ?_
  obtain ⟨dx, fs, us, t, R⟩ := q1.r
  have hb := (R.fz b _ upd_same).1
  exact ⟨b, us, v, rfl, rfl, hb, by rw [t.li.len]; exact few_lt hn.2, p b σ _ Hs1 ⟨q1.fl, q1.fb, q1.ne, q1.s0, q1.g0, dx, fs, us ++ [v], ⟨t.n5, t.nm, t.at_, t.li.app (.cons d1 .nil)⟩, R.rehide⟩ s1⟩
/-- self.f = [..], a new attribute: its list is hidden now, the one hidden so far is shared -/
def vnew (n : Nat) (a : MV R) : MSV := fun ds bs G => match a ds bs G with
  | some (.ow (.l es), G1) => if ds.length = n ∧ n < 4 then some (.nx, ds ++ [.lst bs], es, G1) else none
  | _ => none
theorem sk_newV {T : ClT K mg 5} {n : Nat} {nm : PySem.Str} (hf : (cAttrs 5)[n + 1]? = some nm) (h1 : nm ∉ (cAttrs 5).take (n + 1)) (h2 : (cAttrs 5).take (n + 2) = (cAttrs 5).take (n + 1) ++ [nm]) {ta : TE} {a : MV R} (ha : GOkV K T.C i ta a) : SOkV K T.C i (sFld K (tVar i) ta nm) (vnew n a) := fun Fz ba l b ds bs G σ H Hs fl ds' bs' G' q e Dn p => by
  unfold vnew at e
  split at e
  case h_2 => cases e
  rename_i es G1 e1
  split at e
  case isFalse => cases e
  rename_i hn
  cases e
  refine ha Fz ba l b ds bs G σ H Hs _ _ q e1 _ fun v H1 Hs1 q1 s1 x => ?_
  obtain ⟨dx, fs, us, t, R⟩ := q1.r
  obtain ⟨ws, w1, w2⟩ := t.at_
  have hl := (R.fz l _ (fz2_l q1.ne)).1
  obtain ⟨hb, sb⟩ := R.fz b _ upd_same
  obtain ⟨pp, o, rfl, x1, x2, x3, ⟨vs, rfl, x4⟩, x5⟩ := x
  obtain ⟨n1, n2, n3⟩ := fz2_off x3
  have ub : upd Fz l (.ins T.C dx fs) b = none := (upd_ne (Ne.symm q1.ne)).trans q1.fb
  obtain ⟨R1, sm⟩ := (R.unhide ub).froze hb sb ub fun j e g m z => by
    cases y : e.mu with
    | none => exact m y
    | some m' =>
      obtain ⟨l', o', a1, a2, a3, a4, a5⟩ := R.mu j e m' g y
      rw [z] at a1
      cases a1
      exact (fz2_off a4).2.1 rfl
  have x2' : upd Hs1 b (.lst us) pp = none := by rw [upd_ne n2]; exact x2
  have R2 := R1.lock (o := .lst vs) x1 x2' x5
  have R3 : Rel K (fz2 Fz l pp (.ins T.C dx (putF nm (.ref pp) fs)) vs) ba _ σ _ _ := R2.rehide_l (Ne.symm n1)
  obtain ⟨p1, p2⟩ := putF_new (f := nm) (v := .ref pp) (fs := fs) (by rw [t.nm, hn.1]; exact h1)
  refine ⟨_, q1.s0, l, T.C, dx, fs, rfl, hl, T.cls, T.na nm (List.mem_of_getElem? hf), t.len, p pp σ _ _ ⟨q1.fl, n3, Ne.symm n1, q1.s0, q1.g0, dx, putF nm (.ref pp) fs, vs, ⟨by rw [List.length_append, List.length_singleton]; omega, ?_, ⟨ws ++ [.ref b], ?_, (w2.mono sm).app (.cons (.lst upd_same (t.li.mono sm)) .nil)⟩, x4.mono sm⟩, R3⟩ (s1.trans sm)⟩
  · rw [p1, t.nm, List.length_append, List.length_singleton, hn.1]
    exact h2.symm
  · rw [p2, w1]
def spV (K : PySem.W.Frag) (C : Addr) (m : List D → List D → List D → Option (D × List D × List D)) : Sp := fun vs H Q _ => ∃ Hs l b dx fs us vs' ds bs as r ds' bs', vs = V.ref l :: vs' ∧ Same Hs H ∧ H l = some (.ins C dx fs) ∧ H b = some (.lst us) ∧ Hs l = none ∧ Hs b = none ∧ l ≠ b ∧ TabO K Hs b ds bs fs us ∧ DRs K Hs vs' as ∧ m ds bs as = some (r, ds', bs') ∧
  ∀ v H' Hs' b' dx' fs' us', (∀ x o, x ≠ l → x ≠ b → H x = some o → H' x = some o) → Same Hs Hs' → Same Hs' H' → (∀ x o, x ≠ b → H x = some o → Hs x = none → Hs' x = none) → (b' = b ∨ H b' = none) → l ≠ b' → H' l = some (.ins C dx' fs') → H' b' = some (.lst us') → Hs' l = none → Hs' b' = none → TabO K Hs' b' ds' bs' fs' us' → DR K Hs' v r → Q v H'
abbrev MW := List D → List D → Gam → Option (D × List D × List D × Gam)
def GOkW (K : PySem.W.Frag) (C : Addr) (i : Nat) (t : TE) (f : MW) : Prop := ∀ Fz ba l b ds bs G σ H Hs r ds' bs' G', RelV K Fz ba C i l b ds bs G σ H Hs → f ds bs G = some (r, ds', bs', G') →
  ∀ Q : VK, (∀ b' v H' Hs', RelV K Fz ba C i l b' ds' bs' G' σ H' Hs' → Same Hs Hs' → DR K Hs' v r → Q v H') → t σ H Q
def wmeth (m : List D → List D → List D → Option (D × List D × List D)) (a : MV (List D)) : MW := fun ds bs G => match a ds bs G with
  | some (xs, G1) => match m ds bs xs with
    | some (r, ds', bs') => some (r, ds', bs', G1)
    | none => none
  | none => none
/-- what is hidden behind a call -/
theorem RelV.behind {Fz : Hp} {ba : Nat → Addr} {l b b' : Addr} {ds bs ds' bs' : List D} {G : Gam} {σ : L2.St} {H Hs H' Hs' : Hp} {dx' : Addr} {fs' : List (PySem.Str × V)} {us' : List V} (q : RelV K Fz ba C i l b ds bs G σ H Hs)
    (h1 : ∀ x o, x ≠ l → x ≠ b → H x = some o → H' x = some o) (h2 : Same Hs Hs') (h3 : Same Hs' H') (h4 : ∀ x o, x ≠ b → H x = some o → Hs x = none → Hs' x = none) (h5 : b' = b ∨ H b' = none) (h6 : l ≠ b') (h7 : H' l = some (.ins C dx' fs')) (h8 : H' b' = some (.lst us')) (h9 : Hs' l = none) (h10 : Hs' b' = none) (t' : TabO K Hs' b' ds' bs' fs' us') : RelV K Fz ba C i l b' ds' bs' G σ H' Hs' := by
  obtain ⟨dx, fs, us, t, R⟩ := q.r
  have fb' : Fz b' = none := by
    rcases h5 with h5 | h5
    · rw [h5]; exact q.fb
    · cases z : Fz b' with
      | none => rfl
      | some u =>
        by_cases y : b' = b
        · rw [y, q.fb] at z; cases z
        · have := (R.fz b' u ((fz2_on (Ne.symm h6) y).trans z)).1
          rw [h5] at this
          cases this
  refine ⟨q.fl, fb', h6, q.s0, q.g0, dx', fs', us', t', h3, fun a o e => ?_, R.len, fun j d e => ?_, fun j e m g g0 => ?_, R.dj, R.bx⟩
  · by_cases z : a = b'
    · subst z
      cases upd_same.symm.trans e
      exact ⟨h8, h10⟩
    · by_cases y : a = l
      · subst y
        cases (fz2_l h6).symm.trans e
        exact ⟨h7, h9⟩
      · have e := (fz2_on y z).symm.trans e
        have nb : a ≠ b := fun w => by rw [w, q.fb] at e; cases e
        obtain ⟨c1, c2⟩ := R.fz a o ((fz2_on y nb).trans e)
        exact ⟨h1 a o y nb c1, h4 a o nb c1 c2⟩
  · obtain ⟨v, c1, c2⟩ := R.im j d e
    exact ⟨v, c1, c2.mono h2⟩
  · obtain ⟨l', o', c1, c2, c3, c4, c5⟩ := R.mu j e m g g0
    obtain ⟨n1, n2, n3⟩ := fz2_off c4
    have n4 : l' ≠ b' := fun z => by
      rcases h5 with h5 | h5
      · exact n2 (z.trans h5)
      · rw [z, h5] at c2
        cases c2
    exact ⟨l', o', c1, h1 l' _ n1 n2 c2, h4 l' _ n2 c2 c3, (fz2_on n1 n4).trans n3, c5.mono h2⟩
theorem gk_methW {T : ClT K mg 5} {nm : PySem.Str} {m : List D → List D → List D → Option (D × List D × List D)} {E : XK} (hn : nm ∉ cAttrs 5) {ta : TA} {a : MV (List D)} (ha : AOkV K T.C i ta a) : GOkW K T.C i (tMeth T.C nm (spV K T.C m) [] E (tVar i) ta) (wmeth m a) := fun Fz ba l b ds bs G σ H Hs r ds' bs' G' q e Q k => by
  unfold wmeth at e
  split at e
  case h_2 => cases e
  rename_i xs G1 e1
  split at e
  case h_2 => cases e
  rename_i r0 ds0 bs0 hm
  cases e
  obtain ⟨dx0, fs0, us0, t0, R0⟩ := q.r
  refine ⟨_, q.s0, l, dx0, fs0, rfl, (R0.fz l _ (fz2_l q.ne)).1, fs_none fun z => hn (by rw [t0.nm] at z; exact List.mem_of_mem_take z), ?_⟩
  refine ha Fz ba l b ds bs G σ H Hs xs _ q e1 _ fun vs H1 Hs1 q1 s1 d1 => ?_
  obtain ⟨dx, fs, us, t, R⟩ := q1.r
  obtain ⟨hl, sl⟩ := R.fz l _ (fz2_l q1.ne)
  obtain ⟨hb, sb⟩ := R.fz b _ upd_same
  exact ⟨Hs1, l, b, dx, fs, us, vs, ds, bs, xs, r, _, _, by rw [List.append_nil], R.sub, hl, hb, sl, sb, q1.ne, t, d1, hm, fun v H3 Hs3 b3 dx3 fs3 us3 c1 c2 c3 c4 c5 c6 c7 c8 c9 c10 t3 dr => k b3 v H3 Hs3 (q1.behind c1 c2 c3 c4 c5 c6 c7 c8 c9 c10 t3) (s1.trans c2) dr⟩
def vdropW (f : MW) : MSV := fun ds bs G => match f ds bs G with
  | some (_, ds', bs', G1) => some (.nx, ds', bs', G1)
  | none => none
theorem sk_dropW {ta : TE} {f : MW} (h : GOkW K C i ta f) : SOkV K C i (tDrop ta) (vdropW f) := fun Fz ba l b ds bs G σ H Hs fl ds' bs' G' q e Dn p => by
  unfold vdropW at e
  split at e
  case h_2 => cases e
  rename_i r ds1 bs1 G1 e1
  cases e
  exact h Fz ba l b ds bs G σ H Hs r _ _ _ q e1 _ fun b' v H1 Hs1 q1 s1 d1 => p b' σ H1 Hs1 q1 s1
def vsetW (j : Nat) (f : MW) : MSV := fun ds bs G => match f ds bs G with
  | some (r, ds', bs', G1) => some (.nx, ds', bs', G1.set j (.im r))
  | none => none
theorem sk_setW {j : Nat} {ta : TE} {f : MW} (h : GOkW K C i ta f) (hj : j ≠ i := by decide) : SOkV K C i (tAsg ta (gName j)) (vsetW j f) := fun Fz ba l b ds bs G σ H Hs fl ds' bs' G' q e Dn p => by
  unfold vsetW at e
  split at e
  case h_2 => cases e
  rename_i r ds1 bs1 G1 e1
  cases e
  refine h Fz ba l b ds bs G σ H Hs r _ _ _ q e1 _ fun b' v H1 Hs1 q1 s1 d1 => ?_
  obtain ⟨dx, fs, us, t, R⟩ := q1.r
  exact p b' _ H1 Hs1 (q1.next t (R.set (x := .im r) d1) (Same.refl _) (by rw [List.getElem?_set_ne hj]; exact q1.g0) (List.getElem?_set_ne hj)) s1
def outV : Option (Fl × List D × List D × Gam) → Option (D × List D × List D)
  | some (.rt (.im d), ds, bs, _) => some (d, ds, bs)
  | some (.nx, ds, bs, _) => some (.non, ds, bs)
  | _ => none
def runV (k n : Nat) (f : MSV) (ds bs as : List D) : Option (D × List D × List D) := if as.length + 1 = k then outV (f ds bs (.un :: pad (n - 1) as)) else none
/-- no slot of a start owns anything -/
theorem pad_mu {n : Nat} {as : List D} {j : Nat} {e : Ent} (h : (Ent.un :: pad n as)[j]? = some e) : e.mu = none := by
  cases j with
  | zero => cases h; rfl
  | succ j =>
    rcases pad_get (show (pad n as)[j]? = some _ by simpa using h) with ⟨d, _, rfl⟩ | rfl <;> rfl
/-- what the caller holds, without the pair -/
def hid2 (l b : Addr) (H Hs : Hp) : Hp := fun a => if a = l ∨ a = b then none else hid H Hs a
theorem relV_start {N : List PySem.Str} {H Hs : Hp} {l b : Addr} {dx : Addr} {fs : List (PySem.Str × V)} {us : List V} {vs : List V} {ds bs as : List D} (s : Same Hs H) (hl : H l = some (.ins C dx fs)) (hb : H b = some (.lst us)) (nl : Hs l = none) (nb : Hs b = none) (ne : l ≠ b) (t : TabO K Hs b ds bs fs us) (d : DRs K Hs vs as) (hz : vs.length + 1 ≤ N.length) :
    RelV K (hid2 l b H Hs) (fun _ => 0) C 0 l b ds bs (.un :: pad (N.length - 1) as) (L2.start N (.ref l :: vs)) H Hs := by
  have e0 : L2.start N (.ref l :: vs) = some (.ref l) :: (vs.map some ++ List.replicate (N.length - (vs.length + 1)) none) := rfl
  refine ⟨if_pos (.inl rfl), if_pos (.inr rfl), ne, by rw [e0]; rfl, rfl, dx, fs, us, t, s, fun a o e => ?_, ?_, fun j d' e => ?_, fun j e m g g0 => ?_, fun j k e e' x h1 h2 m1 m2 _ _ => ?_, fun j m h => ?_⟩
  · by_cases z : a = b
    · subst z
      cases upd_same.symm.trans e
      exact ⟨hb, nb⟩
    · by_cases y : a = l
      · subst y
        cases (fz2_l ne).symm.trans e
        exact ⟨hl, nl⟩
      · have e := (fz2_on y z).symm.trans e
        exact hid_some ((if_neg fun w => w.elim y z).symm.trans e)
  · rw [start_len (by simpa using hz), List.length_cons, pad_len _ _ (by rw [← d.len]; omega)]
    omega
  · cases j with
    | zero => cases e
    | succ j =>
      rcases pad_get (show (pad (N.length - 1) as)[j]? = some _ by simpa using e) with ⟨e', h1, h2⟩ | h2
      · cases h2
        obtain ⟨v, v1, v2⟩ := d.at h1
        exact ⟨v, start_get (vs := .ref l :: vs) (by simpa using v1), v2⟩
      · cases h2
  · rw [pad_mu g] at g0; cases g0
  · exact absurd (pad_mu h1) m1
  · have := pad_mu h; cases this
theorem fin_V {N : List PySem.Str} {k : Nat} {t : TS} {f : MSV} (h : SOkV K C 0 t f) (hk : k ≤ N.length) {vs : List V} {H : Hp} {Q : VK} {E : XK} (q : spV K C (runV k N.length f) vs H Q E) : t { nx := fun _ H' => Q .non H', rt := Q } (L2.start N vs) H := by
  obtain ⟨Hs, l, b, dx, fs, us, vs', ds, bs, as, r, ds', bs', rfl, s, hl, hb, nl, nb, ne, t0, d, e, kk⟩ := q
  unfold runV at e
  split at e
  case isFalse => cases e
  rename_i hlen
  have R0 := relV_start (N := N) s hl hb nl nb ne t0 d (by rw [d.len, hlen]; exact hk)
  have fin : ∀ {b' G σ H' Hs' v r}, RelV K (hid2 l b H Hs) (fun _ => 0) C 0 l b' ds' bs' G σ H' Hs' → Same Hs Hs' → DR K Hs' v r → (∀ v H' Hs' b' dx' fs' us', (∀ x o, x ≠ l → x ≠ b → H x = some o → H' x = some o) → Same Hs Hs' → Same Hs' H' → (∀ x o, x ≠ b → H x = some o → Hs x = none → Hs' x = none) → (b' = b ∨ H b' = none) → l ≠ b' → H' l = some (.ins C dx' fs') → H' b' = some (.lst us') → Hs' l = none → Hs' b' = none → TabO K Hs' b' ds' bs' fs' us' → DR K Hs' v r → Q v H') → Q v H' := fun {b' G σ H' Hs' v r} q1 s1 dr kk => by
    obtain ⟨dx', fs', us', t', R⟩ := q1.r
    obtain ⟨hl', nl'⟩ := R.fz l _ (fz2_l q1.ne)
    obtain ⟨hb', nb'⟩ := R.fz b' _ upd_same
    have keep : ∀ x o, x ≠ l → x ≠ b → H x = some o → Hs x = none → H' x = some o ∧ Hs' x = none := fun x o n1 n2 hx nx => by
      have hx' : hid2 l b H Hs x = some o := (if_neg fun w => w.elim n1 n2).trans (hid_of hx nx)
      have n3 : x ≠ b' := fun w => by
        have z := q1.fb
        rw [← w, hx'] at z
        cases z
      exact R.fz x o ((fz2_on n1 n3).trans hx')
    refine kk v H' Hs' b' dx' fs' us' (fun x o n1 n2 hx => ?_) s1 R.sub (fun x o n2 hx nx => ?_) ?_ q1.ne hl' hb' nl' nb' t' dr
    · cases y : Hs x with
      | none => exact (keep x o n1 n2 hx y).1
      | some u =>
        have e := s x u y
        rw [hx] at e
        cases e
        exact R.sub x o (s1 x o y)
    · by_cases n1 : x = l
      · rw [n1]; exact nl'
      · exact (keep x o n1 n2 hx nx).2
    · by_cases n3 : b' = b
      · exact .inl n3
      · refine .inr ?_
        cases y : H b' with
        | none => rfl
        | some o =>
          have nx : Hs b' = none := by
            cases w : Hs b' with
            | none => rfl
            | some u =>
              rw [s1 b' u w] at nb'
              cases nb'
          have z := q1.fb
          rw [show hid2 l b H Hs b' = hid H Hs b' from if_neg fun w => w.elim (Ne.symm q1.ne) n3, hid_of y nx] at z
          cases z
  cases z : f ds bs (.un :: pad (N.length - 1) as) with
  | none => rw [z] at e; cases e
  | some p =>
    obtain ⟨fl, ds1, bs1, G'⟩ := p
    rw [z] at e
    refine h _ _ _ _ _ _ _ _ _ _ fl ds1 bs1 G' R0 z _ ?_
    cases fl with
    | nx => cases e; exact fun b' σ' H' Hs' q1 s1 => fin q1 s1 .non kk
    | rt r' =>
      cases r' with
      | im d' => cases e; exact fun b' v σ' H' Hs' q1 s1 x => fin q1 s1 x kk
      | ow m => cases e
    | bk => cases e
    | ct => cases e
end
end Bk
namespace Bk
open PySem L2
section
variable {K : PySem.W.Frag} {mg : PySem.Str → Option Value} {C : Addr}
/-- an __init__ that ends with a hidden list -/
def NOk (K : PySem.W.Frag) (C : Addr) (t : TS) (f : Gam → Option (List D × List D × Gam)) : Prop := ∀ Fz ba G σ H Hs ds bs G', Rel K Fz ba G σ H Hs → f G = some (ds, bs, G') →
  ∀ Dn : Ends, (∀ b σ' H' Hs', RelV K Fz ba C 0 (ba 0) b ds bs G' σ' H' Hs' → Same Hs Hs' → Dn.nx σ' H') → t Dn σ H
def nseq (a : MS) (c : Gam → Option (List D × List D × Gam)) : Gam → Option (List D × List D × Gam) := fun G => match a G with
  | some (.nx, G1) => c G1
  | _ => none
theorem nk_seq {t u : TS} {a : MS} {c : Gam → Option (List D × List D × Gam)} (ha : SOk K t a) (hc : NOk K C u c) : NOk K C (tSeq t u) (nseq a c) := fun Fz ba G σ H Hs ds bs G' q e Dn p => by
  unfold nseq at e
  split at e
  case h_2 => cases e
  rename_i G1 e1
  exact ha Fz ba G σ H Hs .nx G1 q e1 { Dn with nx := u Dn } fun σ1 H1 Hs1 q1 s1 => hc Fz ba G1 σ1 H1 Hs1 ds bs G' q1 e Dn fun b σ' H' Hs' r s => p b σ' H' Hs' r (s1.trans s)
def nnew (n : Nat) (a : M R) (c : MSV) : Gam → Option (List D × List D × Gam) := fun G => match a G with
  | some (.ow (.l es), G1) => (match (G1[0]? : Option Ent) with
    | some (.bx (.o 5 ds)) => if ds.length = n ∧ n < 5 then (match c ds es (G1.set 0 .un) with
      | some (.nx, ds', bs', G2) => some (ds', bs', G2)
      | _ => none) else none
    | _ => none)
  | _ => none
theorem nk_new {T : ClT K mg 5} {n : Nat} {nm : PySem.Str} (hf : (cAttrs 5)[n]? = some nm) (h1 : nm ∉ (cAttrs 5).take n) (h2 : (cAttrs 5).take (n + 1) = (cAttrs 5).take n ++ [nm]) {ta : TE} {u : TS} {a : M R} {c : MSV} (ha : GOk K ta a) (hc : SOkV K T.C 0 u c) : NOk K T.C (tSeq (sFld K (tVar 0) ta nm) u) (nnew n a c) := fun Fz ba G σ H Hs ds bs G' q e Dn p => by
  unfold nnew at e
  split at e
  case h_2 => cases e
  rename_i es G1 e1
  split at e
  case h_2 => cases e
  rename_i ds0 hg
  split at e
  case isFalse => cases e
  rename_i hn
  split at e
  case h_2 => cases e
  rename_i ds1 bs1 G2 e2
  cases e
  refine ha Fz ba G σ H Hs _ G1 q e1 _ fun v H1 Hs1 q1 s1 x => ?_
  obtain ⟨l, o, g1, g2, g3, g4, C', dx, fs, hC, rfl, hnm, hs⟩ := q1.mu 0 _ _ hg rfl
  cases hC.eq T.at_
  have hb0 := q1.bx 0 _ hg
  rw [g1] at hb0
  cases hb0
  obtain ⟨pp, o, rfl, x1, x2, x3, ⟨vs, rfl, x4⟩, x5⟩ := x
  have npl : pp ≠ ba 0 := fun z => x5 0 _ hg (by simp [Ent.mu]) (by rw [g1, z])
  have R1 : Rel K Fz ba (G1.set 0 .un) σ H1 Hs1 := q1.re rfl fun d z => nomatch z
  have R2 := R1.lock g2 g3 fun j e' g m => q1.notmu hg (by simp [Ent.mu]) g1 j e' g rfl m
  have R3 := R2.lock (o := .lst vs) x1 x2 fun j e' g m => by
    rcases get_set g with ⟨_, z, _⟩ | ⟨_, z⟩
    · subst z; exact absurd rfl m
    · exact x5 j e' z m
  have R4 : Rel K (fz2 Fz (ba 0) pp (.ins T.C dx (putF nm (.ref pp) fs)) vs) ba _ σ _ _ := R3.rehide_l (Ne.symm npl)
  obtain ⟨p1, p2⟩ := putF_new (f := nm) (v := .ref pp) (fs := fs) (by rw [hnm, hn.1]; exact h1)
  have hfl : fs.length < 1000 := by
    have z := congrArg List.length hnm
    rw [List.length_map, List.length_take] at z
    have : (cAttrs 5).length = 5 := rfl
    omega
  have l0 : 0 < G1.length := (List.getElem?_eq_some_iff.mp hg).1
  refine ⟨_, g1, ba 0, T.C, dx, fs, rfl, g2, T.cls, T.na nm (List.mem_of_getElem? hf), hfl, ?_⟩
  refine hc Fz ba (ba 0) pp ds0 es _ σ _ Hs1 .nx _ _ _ ⟨g4, x3, Ne.symm npl, g1, List.getElem?_set_self l0, dx, putF nm (.ref pp) fs, vs, ⟨by omega, ?_, ⟨fs.map (·.2), by rw [p2], hs⟩, x4⟩, R4⟩ e2 Dn fun b σ' H' Hs' r s => p b σ' H' Hs' r (s1.trans s)
  rw [p1, hnm, hn.1]
  exact h2.symm
def runN (k n : Nat) (f : Gam → Option (List D × List D × Gam)) (as : List D) : Option (List D × List D) := if as.length + 1 = k then (match f (.bx (.o 5 []) :: pad (n - 1) as) with
  | some (ds, bs, _) => some (ds, bs)
  | none => none) else none
def spN (K : PySem.W.Frag) (C : Addr) (m : List D → Option (List D × List D)) : Sp := fun vs H Q _ => ∃ Hs l dx vs' as ds bs, vs = V.ref l :: vs' ∧ Same Hs H ∧ H l = some (.ins C dx []) ∧ Hs l = none ∧ DRs K Hs vs' as ∧ m as = some (ds, bs) ∧
  ∀ H' Hs' b dx' fs us, (∀ x o, x ≠ l → H x = some o → H' x = some o) → Same Hs Hs' → Same Hs' H' → (∀ x o, H x = some o → Hs x = none → Hs' x = none) → H b = none → l ≠ b → H' l = some (.ins C dx' fs) → H' b = some (.lst us) → Hs' l = none → Hs' b = none → TabO K Hs' b ds bs fs us → Q .non H'
theorem fin_N {T : ClT K mg 5} {N : List PySem.Str} {k : Nat} {t : TS} {f : Gam → Option (List D × List D × Gam)} (h : NOk K T.C t f) (hk : k ≤ N.length) {vs : List V} {H : Hp} {Q : VK} {E : XK} (q : spN K T.C (runN k N.length f) vs H Q E) : t { nx := fun _ H' => Q .non H', rt := Q } (L2.start N vs) H := by
  obtain ⟨Hs, l, dx, vs', as, ds, bs, rfl, s, hl, nl, d, e, kk⟩ := q
  unfold runN at e
  split at e
  case isFalse => cases e
  rename_i hlen
  split at e
  case h_2 => cases e
  rename_i ds1 bs1 G1 e1
  cases e
  have R0 := rel_startB (N := N) (bds := .o 5 []) s hl nl ⟨T.C, dx, [], T.at_, rfl, rfl, .nil⟩ d (by rw [d.len, hlen]; exact hk)
  refine h _ _ _ _ _ _ ds bs G1 R0 e1 _ fun b σ' H' Hs' q1 s1 => ?_
  obtain ⟨dx', fs', us', t', R⟩ := q1.r
  obtain ⟨hl', nl'⟩ := R.fz l _ (fz2_l q1.ne)
  obtain ⟨hb', nb'⟩ := R.fz b _ upd_same
  have keep : ∀ x o, x ≠ l → H x = some o → Hs x = none → H' x = some o ∧ Hs' x = none := fun x o n1 hx nx => by
    have hx' := hidB_of (l := l) n1 hx nx
    have n3 : x ≠ b := fun w => by
      have z := q1.fb
      rw [← w, hx'] at z
      cases z
    exact R.fz x o ((fz2_on n1 n3).trans hx')
  refine kk H' Hs' b dx' fs' us' (fun x o n1 hx => ?_) s1 R.sub (fun x o hx nx => ?_) ?_ q1.ne hl' hb' nl' nb' t'
  · cases y : Hs x with
    | none => exact (keep x o n1 hx y).1
    | some u =>
      have e := s x u y
      rw [hx] at e
      cases e
      exact R.sub x o (s1 x o y)
  · by_cases n1 : x = l
    · rw [n1]; exact nl'
    · exact (keep x o n1 hx nx).2
  · cases y : H b with
    | none => rfl
    | some o =>
      have nx : Hs b = none := by
        cases w : Hs b with
        | none => rfl
        | some u =>
          rw [s1 b u w] at nb'
          cases nb'
      have z := q1.fb
      rw [hidB_of (Ne.symm q1.ne) y nx] at z
      cases z
theorem spN_len {k n : Nat} {f : Gam → Option (List D × List D × Gam)} {vs : List V} {H : Hp} {Q : VK} {E : XK} (q : spN K C (runN k n f) vs H Q E) : vs.length = k := by
  obtain ⟨Hs, l, dx, vs', as, ds, bs, rfl, s, hl, nl, d, e, kk⟩ := q
  unfold runN at e
  split at e
  case isFalse => cases e
  rename_i hl
  rw [List.length_cons, d.len, hl]
theorem spV_len {k n : Nat} {f : MSV} {vs : List V} {H : Hp} {Q : VK} {E : XK} (q : spV K C (runV k n f) vs H Q E) : vs.length = k := by
  obtain ⟨Hs, l, b, dx, fs, us, vs', ds, bs, as, r, ds', bs', rfl, s, hl, hb, nl, nb, ne, t0, d, e, kk⟩ := q
  unfold runV at e
  split at e
  case isFalse => cases e
  rename_i hl
  rw [List.length_cons, d.len, hl]
/-- x = C(..), then what is done with it; it is forgotten at the end -/
def xnewV (j : Nat) (m : List D → Option (List D × List D)) (a : M (List D)) (c : MSV) : MS := fun G => match a G with
  | some (xs, G1) => (match m xs with
    | some (ds, bs) => if j < G1.length then (match c ds bs (G1.set j .un) with
      | some (fl, _, _, G2) => some (fl, G2)
      | none => none) else none
    | none => none)
  | none => none
theorem sk_makeV {T : ClT K mg 5} {j : Nat} {m : List D → Option (List D × List D)} {E : XK} {ta : TA} {u : TS} {a : M (List D)} {c : MSV} (ha : AOk K ta a) (hc : SOkV K T.C j u c) : SOk K (tSeq (tAsg (tMake T.C (spN K T.C m) [] E ta) (gName j)) u) (xnewV j m a c) := fun Fz ba G σ H Hs fl G' q e Dn p => by
  unfold xnewV at e
  split at e
  case h_2 => cases e
  rename_i xs G1 e1
  split at e
  case h_2 => cases e
  rename_i ds bs hm
  split at e
  case isFalse => cases e
  rename_i hj
  split at e
  case h_2 => cases e
  rename_i fl0 ds1 bs1 G2 e2
  cases e
  refine ha Fz ba G σ H Hs xs _ q e1 _ fun vs H1 Hs1 q1 s1 d1 x dx hx hdx hne => ?_
  have hx2 : ∀ a o, H1 a = some o → upd (upd H1 dx (.own x)) x (.ins T.C dx []) a = some o := fun a o h => by
    rw [upd_ne (ne_of_none h hx), upd_ne (ne_of_none h hdx)]
    exact h
  have nsx : Hs1 x = none := q1.sub.free hx
  refine ⟨Hs1, x, dx, vs, xs, ds, bs, by rw [List.append_nil], fun a o h => hx2 a o (q1.sub a o h), upd_same, nsx, d1, hm, fun H3 Hs3 b dx3 fs us c1 c2 c3 c4 c5 c6 c7 c8 c9 c10 t => ⟨rfl, ?_⟩⟩
  · have _h := hj
    have hjs : j < σ.length := by rw [q1.len]; exact hj
    have fx : Fz x = none := by
      cases z : Fz x with
      | none => rfl
      | some u => have := (q1.fz x u z).1; rw [hx] at this; cases this
    have hb1 : H1 b = none := by
      cases z : H1 b with
      | none => rfl
      | some u => rw [hx2 b u z] at c5; cases c5
    have fb : Fz b = none := by
      cases z : Fz b with
      | none => rfl
      | some u => have := (q1.fz b u z).1; rw [hb1] at this; cases this
    have q0 := q1.set (i := j) (v := .non) (x := .im .non) .non
    have R : Rel K (fz2 Fz x b (.ins T.C dx3 fs) us) ba (G1.set j .un) (σ.set j (some (.ref x))) H3 Hs3 := by
      refine ⟨c3, fun a o e => ?_, by rw [List.length_set, List.length_set]; exact q1.len, fun k d e => ?_, fun k e m g g0 => ?_, fun k k' e e' y g1 g2 m1 m2 t1 t2 => ?_, fun k m g => ?_⟩
      · by_cases z : a = b
        · subst z
          cases upd_same.symm.trans e
          exact ⟨c8, c10⟩
        · by_cases y : a = x
          · subst y
            cases (fz2_l c6).symm.trans e
            exact ⟨c7, c9⟩
          · have e := (fz2_on y z).symm.trans e
            obtain ⟨g1, g2⟩ := q1.fz a o e
            exact ⟨c1 a o y (hx2 a o g1), c4 a o (hx2 a o g1) g2⟩
      · rcases get_set e with ⟨_, z, _⟩ | ⟨ne, z⟩
        · cases z
        · obtain ⟨v, g1, g2⟩ := q1.im k d z
          exact ⟨v, by rw [List.getElem?_set_ne ne]; exact g1, g2.mono c2⟩
      · rcases get_set g with ⟨_, z, _⟩ | ⟨ne, z⟩
        · subst z; cases g0
        · obtain ⟨l', o', h1, h2, h3, h4, h5⟩ := q1.mu k e m z g0
          have n1 : l' ≠ x := ne_of_none h2 hx
          have n2 : l' ≠ b := ne_of_none h2 hb1
          exact ⟨l', o', by rw [List.getElem?_set_ne ne]; exact h1, c1 l' _ n1 (hx2 l' _ h2), c4 l' _ (hx2 l' _ h2) h3, (fz2_on n1 n2).trans h4, h5.mono c2⟩
      · rcases get_set g1 with ⟨_, z, _⟩ | ⟨n1, z1⟩
        · subst z; exact absurd rfl m1
        · rcases get_set g2 with ⟨_, z, _⟩ | ⟨n2, z2⟩
          · subst z; exact absurd rfl m2
          · rw [List.getElem?_set_ne n1] at t1
            rw [List.getElem?_set_ne n2] at t2
            exact q1.dj k k' e e' y z1 z2 m1 m2 t1 t2
      · rcases get_set g with ⟨_, z, _⟩ | ⟨ne, z⟩
        · cases z
        · rw [List.getElem?_set_ne ne]
          exact q1.bx k m z
    refine hc Fz ba x b ds bs _ _ H3 Hs3 fl ds1 bs1 _ ⟨fx, fb, c6, List.getElem?_set_self hjs, List.getElem?_set_self hj, dx3, fs, us, t, R⟩ e2 Dn ?_
    have off : ∀ {b' σ' H' Hs'}, RelV K Fz ba T.C j x b' ds1 bs1 G' σ' H' Hs' → Rel K Fz ba G' σ' H' Hs' := fun {b' σ' H' Hs'} r => by
      obtain ⟨dx4, fs4, us4, t4, R4⟩ := r.r
      exact (R4.unhide ((upd_ne (Ne.symm r.ne)).trans r.fb)).unhide r.fl
    cases fl with
    | nx => exact fun b' σ' H' Hs' r s => p σ' H' Hs' (off r) (s1.trans (c2.trans s))
    | bk => exact fun b' σ' H' Hs' r s => p σ' H' Hs' (off r) (s1.trans (c2.trans s))
    | ct => exact fun b' σ' H' Hs' r s => p σ' H' Hs' (off r) (s1.trans (c2.trans s))
    | rt r0 => exact fun b' v σ' H' Hs' r s y => p v σ' H' Hs' (off r) (s1.trans (c2.trans s)) (y.fz fun a h => (fz2_off h).2.2)
end
section
variable {P : Program} {w : World} {K : PySem.W.Frag} {mg : PySem.Str → Option Value} {base : Heap}
theorem data_V {C : Addr} {x qual : PySem.Str} {st : Stmt} {f : Addr} {fd : FuncData} {N ps : List PySem.Str} {k : Nat} {b : MSV} (F : Fun K x qual st f fd) (S : FnScope N ps (defScope st))
    (hb : ∀ (cdv : Value) (A : Around) (outer : List Env) (s : Shared) (H : Hp) (E : XK), Room k (A.deeper (PyProof.Rows.envOfC qual (defScope st) s.heap.objs.size f cdv)) →
      ∃ t, PSs (cxOf CX0 P w K mg base N qual (defScope st) f cdv A outer s H E).nox (defBody st) t ∧ SOkV K C 0 t b) : FnOk P w K mg base CX0 (k + 1) f fd ps (spV K C (runV ps.length N.length b)) :=
  F.ok S (fun vs H Q E q => spV_len q) fun cdv A outer s H vs Q E hr q => by
    obtain ⟨t, h1, h2⟩ := hb cdv A outer s H E hr
    exact ⟨t, h1, fin_V h2 (scope_le S) q⟩
theorem data_N {T : ClT K mg 5} {x qual : PySem.Str} {st : Stmt} {f : Addr} {fd : FuncData} {N ps : List PySem.Str} {k : Nat} {b : Gam → Option (List D × List D × Gam)} (F : Fun K x qual st f fd) (S : FnScope N ps (defScope st))
    (hb : ∀ (cdv : Value) (A : Around) (outer : List Env) (s : Shared) (H : Hp) (E : XK), Room k (A.deeper (PyProof.Rows.envOfC qual (defScope st) s.heap.objs.size f cdv)) →
      ∃ t, PSs (cxOf CX0 P w K mg base N qual (defScope st) f cdv A outer s H E).nox (defBody st) t ∧ NOk K T.C t b) : FnOk P w K mg base CX0 (k + 1) f fd ps (spN K T.C (runN ps.length N.length b)) :=
  F.ok S (fun vs H Q E q => spN_len q) fun cdv A outer s H vs Q E hr q => by
    obtain ⟨t, h1, h2⟩ := hb cdv A outer s H E hr
    exact ⟨t, h1, fin_N h2 (scope_le S) q⟩
end
end Bk
namespace Bk
open PySem L2
def c_MINUS : D := .tup [.int (-1), .int (1)]
def c_NOUGHT : D := .tup [.int (0), .int (1)]
def c_ONE : D := .tup [.int (1), .int (1)]
def b_w_choose : MS := (xseq (xifs (xtest (xop opGt (xby 0 (xixv 0 (xc (.int 0))) (xop opIx (xv 0) (xc (.int 0)))) (xc (.int 0)))) (xseq (xset 2 (xop opMod (xcb cbInt (xcons (xby 0 (xixv 0 (xc (.int 0))) (xop opIx (xv 0) (xc (.int 0)))) xnil)) (xv 1)))
  (xseq (xput 0 (xop opFdiv (xby 0 (xixv 0 (xc (.int 0))) (xop opIx (xv 0) (xc (.int 0)))) (xv 1)) (xc (.int 0)))
  (xret (xmv 2)))) xnext)
  (xseq (xset 3 (xop opMod (xcb cbInt (xcons (xop opAddB (xop opMul (xby 0 (xixv 0 (xc (.int 1))) (xop opIx (xv 0) (xc (.int 1)))) (xc (.int 40014))) (xc (.int 67))) xnil)) (xc (.int 2147483563))))
  (xseq (xput 0 (xop opAddB (xop opMod (xcb cbInt (xcons (xop opAddB (xop opMul (xv 3) (xc (.int 40692))) (xc (.int 5099))) xnil)) (xc (.int 2147483629))) (xc (.int 1))) (xc (.int 1)))
  (xret (xop opMod (xcb cbInt (xcons (xop opFdiv (xop opAddB (xop opMul (xv 3) (xc (.int 2147483647))) (xby 0 (xixv 0 (xc (.int 1))) (xop opIx (xv 0) (xc (.int 1))))) (xc (.int 8191))) xnil)) (xv 1))))))
def r_w_choose : Mob → List D → Option (R × Mob) := runB 2 4 b_w_choose
def b_w_is_less : MS := (xret (xop opLt (xop opMul (xop opIx (xv 0) (xc (.int 0))) (xop opIx (xv 1) (xc (.int 1)))) (xop opMul (xop opIx (xv 1) (xc (.int 0))) (xop opIx (xv 0) (xc (.int 1))))))
def r_w_is_less : List D → Option R := runF 2 2 b_w_is_less
def b_w_divisor_1 : MS := (ypar 0 1 (ycons (xv 1) (ycons (xop opMod (xcb cbInt (xcons (xv 0) xnil)) (xv 1)) ynil)))
def b_w_divisor : MS := (xseq (ypar 0 1 (ycons (xcb cbAbs (xcons (xv 0) xnil)) (ycons (xcb cbAbs (xcons (xv 1) xnil)) ynil)))
  (xseq (xwhile (fuelI 1) (xtest (xop opNe (xv 1) (xc (.int 0)))) b_w_divisor_1)
  (xret (xmv 0))))
def r_w_divisor : List D → Option R := runF 2 2 b_w_divisor
def b_w_low : MS := (xseq (xset 2 (xop opMul (xcall r_w_divisor (xcons (xv 0) (xcons (xv 1) xnil))) (xif (xtest (xop opGt (xv 1) (xc (.int 0)))) (xc (.int 1)) (xop opSub (xc (.int 0)) (xc (.int 1))))))
  (xret (xtup (xcons (xop opFdiv (xv 0) (xv 2)) (xcons (xop opFdiv (xv 1) (xv 2)) xnil)))))
def r_w_low : List D → Option R := runF 2 3 b_w_low
def b_w_minus : MS := (xret (xcall r_w_low (xcons (xop opSub (xop opMul (xop opIx (xv 0) (xc (.int 0))) (xop opIx (xv 1) (xc (.int 1)))) (xop opMul (xop opIx (xv 1) (xc (.int 0))) (xop opIx (xv 0) (xc (.int 1))))) (xcons (xop opMul (xop opIx (xv 0) (xc (.int 1))) (xop opIx (xv 1) (xc (.int 1)))) xnil))))
def r_w_minus : List D → Option R := runF 2 2 b_w_minus
def b_w_seed : MS := (xseq (xset 2 (xop opAddB (xop opMul (xc (.int 8837)) (xv 1)) (xc (.int 71))))
  (xseq (xifs (xtest (xop opLt (xv 1) (xcb cbLen (xcons (xv 0) xnil)))) (xset 2 (xcb cbAbs (xcons (xop opIx (xv 0) (xv 1)) xnil))) (xifs (xtest (xop opGt (xcb cbLen (xcons (xv 0) xnil)) (xc (.int 0)))) (xset 2 (xop opAddB (xv 2) (xop opMul (xop opMod (xcb cbInt (xcons (xcb cbAbs (xcons (xop opIx (xv 0) (xop opMod (xcb cbInt (xcons (xv 1) xnil)) (xcb cbLen (xcons (xv 0) xnil)))) xnil)) xnil)) (xc (.int 2147483629))) (xc (.int 46021))))) xnext))
  (xseq (xset 3 (xif (xtest (xop opGe (xv 2) (xop opPow (xc (.int 10)) (xc (.int 18))))) (xv 2) (xc (.int 0))))
  (xret (xlst (xcons (xv 3) (xcons (xop opAddB (xop opMod (xcb cbInt (xcons (xop opAddB (xop opMul (xop opMod (xcb cbInt (xcons (xv 2) xnil)) (xc (.int 2147483629))) (xc (.int 48271))) (xop opMul (xc (.int 44017)) (xv 1))) xnil)) (xc (.int 2147483629))) (xc (.int 1))) xnil)))))))
def r_w_seed : List D → Option R := runF 2 4 b_w_seed
def b_divisor_1 : MS := (ypar 0 1 (ycons (xv 1) (ycons (xop opMod (xv 0) (xv 1)) ynil)))
def b_divisor : MS := (xseq (ypar 0 1 (ycons (xcb cbAbs (xcons (xv 0) xnil)) (ycons (xcb cbAbs (xcons (xv 1) xnil)) ynil)))
  (xseq (xwhile (fuelI 1) (xtest (xop opNe (xv 1) (xc (.int 0)))) b_divisor_1)
  (xret (xmv 0))))
def r_divisor : List D → Option R := runF 2 2 b_divisor
def b_lowest : MS := (xseq (xset 2 (xcall r_divisor (xcons (xv 0) (xcons (xv 1) xnil))))
  (xseq (xset 2 (xif (xtest (xop opLt (xv 1) (xc (.int 0)))) (xun unNeg (xv 2)) (xv 2)))
  (xret (xtup (xcons (xop opFdiv (xv 0) (xv 2)) (xcons (xop opFdiv (xv 1) (xv 2)) xnil))))))
def r_lowest : List D → Option R := runF 2 3 b_lowest
def b_less_by : MS := (xret (xcall r_lowest (xcons (xop opSub (xop opMul (xop opIx (xv 0) (xc (.int 0))) (xop opIx (xv 1) (xc (.int 1)))) (xop opMul (xop opIx (xv 1) (xc (.int 0))) (xop opIx (xv 0) (xc (.int 1))))) (xcons (xop opMul (xop opIx (xv 0) (xc (.int 1))) (xop opIx (xv 1) (xc (.int 1)))) xnil))))
def r_less_by : List D → Option R := runF 2 2 b_less_by
def b_differences_1 : MS := (xset 0 (xlc (xzipA (xcons (xv 0) (xcons (xsl slB (xv 0) (xpart (xc (.int 1))) xnop) xnil))) (tgt [(tgn 3), (tgn 4)]) xtyes (xcall r_less_by (xcons (xv 4) (xcons (xv 3) xnil))) [3, 4]))
def b_differences : MS := (xseq (xfor (xrange1 (xcons (xv 1) xnil)) (tgn 2) b_differences_1)
  (xret (xmv 0)))
def r_differences : List D → Option R := runF 2 5 b_differences
def b_is_less : MS := (xret (xop opLt (xop opMul (xop opIx (xv 0) (xc (.int 0))) (xop opIx (xv 1) (xc (.int 1)))) (xop opMul (xop opIx (xv 1) (xc (.int 0))) (xop opIx (xv 0) (xc (.int 1))))))
def r_is_less : List D → Option R := runF 2 2 b_is_less
def b_is_integer : MS := (xret (xvand (xcb cbIsi (xcons (xv 0) (xcons (xc (.ty "int")) xnil))) (xvnot (xcb cbIsi (xcons (xv 0) (xcons (xc (.ty "bool")) xnil))))))
def r_is_integer : List D → Option R := runF 1 1 b_is_integer
def b_value_of : MS := (xret (xif (xtru (xcall r_is_integer (xcons (xv 0) xnil))) (xtup (xcons (xv 0) (xcons (xc (.int 1)) xnil))) (xv 0)))
def r_value_of : List D → Option R := runF 1 1 b_value_of
def b_values_of : MS := (xret (xlc (xseqI (xv 0)) (tgn 1) xtyes (xcall r_value_of (xcons (xv 1) xnil)) [1]))
def r_values_of : List D → Option R := runF 1 2 b_values_of
def b_is_kind : MS := (xret (xvnot (xcb cbAny (xcons (xlc (xseqI (xcall r_differences (xcons (xcall r_values_of (xcons (xv 0) xnil)) (xcons (xv 1) xnil)))) (tgn 2) xtyes (xcall r_is_less (xcons (xv 2) (xcons (xc c_NOUGHT) xnil))) [2]) xnil))))
def r_is_kind : List D → Option R := runF 2 3 b_is_kind
def b_multiplied : MS := (xret (xcall r_lowest (xcons (xop opMul (xop opIx (xv 0) (xc (.int 0))) (xop opIx (xv 1) (xc (.int 0)))) (xcons (xop opMul (xop opIx (xv 0) (xc (.int 1))) (xop opIx (xv 1) (xc (.int 1)))) xnil))))
def r_multiplied : List D → Option R := runF 2 2 b_multiplied
def b_is_pair : MS := (xseq (xifs (xtor (xtnot (xtru (xcb cbIsi (xcons (xv 0) (xcons (xc (.ty "tuple")) xnil))))) (xtor (xtest (xop opNe (xcb cbLen (xcons (xv 0) xnil)) (xc (.int 2)))) (xtnot (xtru (xcb cbAll (xcons (xlc (xseqI (xv 0)) (tgn 1) xtyes (xcall r_is_integer (xcons (xv 1) xnil)) [1]) xnil)))))) (xret (xc (.bl false))) xnext)
  (xret (xvand (xop opGt (xop opIx (xv 0) (xc (.int 1))) (xc (.int 0))) (xop opEq (xcall r_divisor (xcons (xop opIx (xv 0) (xc (.int 0))) (xcons (xop opIx (xv 0) (xc (.int 1))) xnil))) (xc (.int 1))))))
def r_is_pair : List D → Option R := runF 1 2 b_is_pair
def b_is_value : MS := (xret (xvor (xcall r_is_integer (xcons (xv 0) xnil)) (xcall r_is_pair (xcons (xv 0) xnil))))
def r_is_value : List D → Option R := runF 1 1 b_is_value
def b_is_seen : MS := (xseq (xifs (xtor (xtnot (xtru (xcb cbIsi (xcons (xv 0) (xcons (xc (.ty "tuple")) xnil))))) (xtor (xtest (xop opNe (xcb cbLen (xcons (xv 0) xnil)) (xc (.int 2)))) (xtnot (xtru (xcall r_is_integer (xcons (xop opIx (xv 0) (xc (.int 0))) xnil)))))) (xret (xc (.bl false))) xnext)
  (xret (xvand (xchain opLe opLt (xv 2) (xop opIx (xv 0) (xc (.int 0))) (xv 1)) (xcall r_is_value (xcons (xop opIx (xv 0) (xc (.int 1))) xnil)))))
def r_is_seen : List D → Option R := runF 3 3 b_is_seen
def b_is_sequence : MS := (xret (xcb cbIsiS (xcons (xv 0) (xcons (xtup (xcons (xc (.ty "list")) (xcons (xc (.ty "tuple")) xnil))) xnil))))
def r_is_sequence : List D → Option R := runF 1 1 b_is_sequence
def b_need_seen_1 : MS := (xseq (xifs (xtnot (xtru (xcall r_is_seen (xcons (xv 5) (xcons (xv 1) (xcons (xv 3) xnil)))))) xnever xnext)
  (xseq (xapp 2 (xtup (xcons (xop opIx (xv 5) (xc (.int 0))) (xcons (xcall r_value_of (xcons (xop opIx (xv 5) (xc (.int 1))) xnil)) xnil))))
  (xset 3 (xop opAddB (xop opIx (xv 5) (xc (.int 0))) (xc (.int 1))))))
def b_need_seen : MS := (xseq (xifs (xtnot (xtru (xcall r_is_sequence (xcons (xv 0) xnil)))) xnever xnext)
  (xseq (ypar 2 3 (ycons (xlst xnil) (ycons (xc (.int 0)) ynil)))
  (xseq (xfor (xenumA (xcons (xv 0) xnil)) (tgt [(tgn 4), (tgn 5)]) b_need_seen_1)
  (xret (xmv 2)))))
def r_need_seen : List D → Option R := runF 2 6 b_need_seen
def b_Table_init_1 : MSV := (vseq (vset 5 (lend9 0 flatR (xlc (xseqI (xv 1)) (tgn 6) xtyes (xcall r_multiplied (xcons (xop opIx (xfld 5 2 (xv 0)) (xv 3)) (xcons (xop opIx (xv 6) (xv 3)) xnil))) [6])))
  (vseq (vdrop (lend9 0 flatR (xmut 5 muExt (xcons (xlc (xrange1 (xcons (xfld 5 1 (xv 0)) xnil)) (tgn 7) xtyes (xif (xtest (xop opEq (xv 7) (xv 3))) (xc c_ONE) (xc c_NOUGHT)) [7]) xnil))))
  (vbapp 3 (lend9 0 flatR (xlst (xstar (xv 5) (xcons (xcall r_multiplied (xcons (xop opIx (xfld 5 2 (xv 0)) (xv 3)) (xcons (xv 4) xnil))) xnil)))))))
def b_Table_init : Gam → Option (List D × List D × Gam) := (nseq (xsetf 0 5 0 (xcb cbLen (xcons (xv 1) xnil)))
  (nseq (xsetf 0 5 1 (xcb cbLen (xcons (xv 2) xnil)))
  (nseq (xsetf 0 5 2 (xlc (xseqI (xv 2)) (tgn 4) xtyes (xif (xtru (xcall r_is_less (xcons (xv 4) (xcons (xc c_NOUGHT) xnil)))) (xc c_MINUS) (xc c_ONE)) [4]))
  (nnew 3 (xlst xnil)
  (vseq (vfor 0 (lf 0 (xenumA (xcons (xv 2) xnil))) (tgt [(tgn 3), (tgn 4)]) b_Table_init_1)
  (vnew 3 (lend9 0 flatR (xlc (xrange1 (xcons (xfld 5 1 (xv 0)) xnil)) (tgn 3) xtyes (xop opAddB (xfld 5 0 (xv 0)) (xv 3)) [3]))))))))
def r_Table_init : List D → Option (List D × List D) := runN 3 8 b_Table_init
def b_quotient : MS := (xret (xcall r_lowest (xcons (xop opMul (xop opIx (xv 0) (xc (.int 0))) (xop opIx (xv 1) (xc (.int 1)))) (xcons (xop opMul (xop opIx (xv 0) (xc (.int 1))) (xop opIx (xv 1) (xc (.int 0)))) xnil))))
def r_quotient : List D → Option R := runF 2 2 b_quotient
def b_Table_turn_1 : MSV := (vseq (vset 8 (vfz (lf 0 (xop opIx (xv 7) (xv 2)))))
  (vifs (lf 0 (xtest (xop opEq (xv 6) (xv 1)))) (lfS 0 (xapp 5 (xv 4))) (lfS 0 (xapp 5 (xlc (xzipA (xcons (xv 7) (xcons (xv 4) xnil))) (tgt [(tgn 9), (tgn 10)]) xtyes (xcall r_less_by (xcons (xv 9) (xcons (xcall r_multiplied (xcons (xv 8) (xcons (xv 10) xnil))) xnil))) [9, 10])))))
def b_Table_turn : MSV := (vseq (vset 3 (vfz (lend9 0 flatR (xop opIx (xop opIx (xfld 5 3 (xv 0)) (xv 1)) (xv 2)))))
  (vseq (vpar 4 5 (lend9 0 flatR (xlc (xseqI (xop opIx (xfld 5 3 (xv 0)) (xv 1))) (tgn 9) xtyes (xcall r_quotient (xcons (xv 9) (xcons (xv 3) xnil))) [9])) (lf 0 (xlst xnil)))
  (vseq (vfor 0 (venum (vat 3)) (tgt [(tgn 6), (tgn 7)]) b_Table_turn_1)
  (vseq (vfld 3 (lf 0 (xv 5)))
  (vbput 4 (lf 0 (xv 2)) (lf 0 (xv 1)))))))
def r_Table_turn : List D → List D → List D → Option (D × List D × List D) := runV 3 11 b_Table_turn
def b_Table_clear_1 : MSV := (vifs (lend9 0 (fun _ _ => true) (xtest (xop opGe (xop opIx (xfld 5 4 (xv 0)) (xv 1)) (xfld 5 0 (xv 0))))) (vseq (vset 2 (vfz (lend9 0 flatR (xop opIx (xlc (xrange1 (xcons (xfld 5 0 (xv 0)) xnil)) (tgn 3) (xtest (xop opNe (xop opIx (xop opIx (xfld 5 3 (xv 0)) (xv 1)) (xv 3)) (xc c_NOUGHT))) (xv 3) [3]) (xc (.int 0))))))
  (vdropW (wmeth r_Table_turn (vcons (lf 0 (xv 1)) (vcons (lf 0 (xv 2)) (lf 0 xnil)))))) vnext)
def b_Table_clear : MSV := (vfor 0 (vrange (vat 1)) (tgn 1) b_Table_clear_1)
def r_Table_clear : List D → List D → List D → Option (D × List D × List D) := runV 1 4 b_Table_clear
def b_added : MS := (xret (xcall r_lowest (xcons (xop opAddB (xop opMul (xop opIx (xv 0) (xc (.int 0))) (xop opIx (xv 1) (xc (.int 1)))) (xop opMul (xop opIx (xv 1) (xc (.int 0))) (xop opIx (xv 0) (xc (.int 1))))) (xcons (xop opMul (xop opIx (xv 0) (xc (.int 1))) (xop opIx (xv 1) (xc (.int 1)))) xnil))))
def r_added : List D → Option R := runF 2 2 b_added
def b_summed_1 : MS := (xset 1 (xcall r_added (xcons (xv 1) (xcons (xv 2) xnil))))
def b_summed : MS := (xseq (xset 1 (xc c_NOUGHT))
  (xseq (xfor (xseqI (xv 0)) (tgn 2) b_summed_1)
  (xret (xmv 1))))
def r_summed : List D → Option R := runF 1 3 b_summed
def b_Table_costs_left_1 : MS := (xseq (xset 4 (xcall r_summed (xcons (xlc (xzipA (xcons (xfld 5 4 (xv 0)) (xcons (xfld 5 3 (xv 0)) xnil))) (tgt [(tgn 5), (tgn 6)]) xtyes (xcall r_multiplied (xcons (xop opIx (xv 1) (xv 5)) (xcons (xop opIx (xv 6) (xv 3)) xnil))) [5, 6]) xnil)))
  (xapp 2 (xcall r_less_by (xcons (xop opIx (xv 1) (xv 3)) (xcons (xv 4) xnil)))))
def b_Table_costs_left : MS := (xseq (xset 2 (xlst xnil))
  (xseq (xfor (xrange1 (xcons (xop opAddB (xfld 5 0 (xv 0)) (xfld 5 1 (xv 0))) xnil)) (tgn 3) b_Table_costs_left_1)
  (xret (xmv 2))))
def r_Table_costs_left : List D → Option R := runF 2 7 b_Table_costs_left
def b_Table_counts_of : MS := (xseq (xset 2 (xsl slB (xmeth 5 r_Table_costs_left [] (xv 0) (xcons (xv 1) xnil)) (xpart (xfld 5 0 (xv 0))) xnop))
  (xseq (xset 3 (xsl slB (xv 1) (xpart (xfld 5 0 (xv 0))) xnop))
  (xret (xcb cbTuple (xcons (xlc (xzip3 (xcons (xfld 5 2 (xv 0)) (xcons (xv 3) (xcons (xv 2) xnil)))) (tgt [(tgn 4), (tgn 5), (tgn 6)]) xtyes (xcall r_multiplied (xcons (xv 4) (xcons (xcall r_less_by (xcons (xv 5) (xcons (xv 6) xnil))) xnil))) [4, 5, 6]) xnil)))))
def r_Table_counts_of : List D → Option R := runF 2 7 b_Table_counts_of
def b_Table_place_for_1 : MS := (xifs (xtru (xcall r_is_less (xcons (xc c_NOUGHT) (xcons (xop opIx (xv 5) (xv 1)) xnil)))) (xseq (xset 6 (xcall r_quotient (xcons (xop opIx (xv 5) (xun unNeg (xc (.int 1)))) (xcons (xop opIx (xv 5) (xv 1)) xnil))))
  (xseq (xset 7 (xvor (xop opIs (xv 2) (xc .non)) (xcall r_is_less (xcons (xv 6) (xcons (xv 3) xnil)))))
  (xifs (xtor (xtru (xv 7)) (xtand (xtest (xop opEq (xv 6) (xv 3))) (xtest (xop opLt (xop opIx (xfld 5 4 (xv 0)) (xv 4)) (xop opIx (xfld 5 4 (xv 0)) (xv 2)))))) (ypar 2 3 (ycons (xv 4) (ycons (xv 6) ynil))) xnext))) xnext)
def b_Table_place_for : MS := (xseq (xasg (xtup (xcons (xc .non) (xcons (xc .non) xnil))) (tgt [(tgn 2), (tgn 3)]))
  (xseq (xfor (xenumA (xcons (xfld 5 3 (xv 0)) xnil)) (tgt [(tgn 4), (tgn 5)]) b_Table_place_for_1)
  (xret (xmv 2))))
def r_Table_place_for : List D → Option R := runF 2 8 b_Table_place_for
def b_Table_lower_1 : MSV := (vseq (vset 3 (vfz (lend9 0 flatR (xmeth 5 r_Table_costs_left [] (xv 0) (xcons (xv 1) xnil)))))
  (vseq (vset 4 (vfz (lf 0 (xlc (xrange1 (xcons (xv 2) xnil)) (tgn 6) (xtru (xcall r_is_less (xcons (xop opIx (xv 3) (xv 6)) (xcons (xc c_NOUGHT) xnil)))) (xv 6) [6]))))
  (vseq (vifs (lf 0 (xtest (xop opEq (xcb cbLen (xcons (xv 4) xnil)) (xc (.int 0))))) (vret (lf 0 (xc .non))) vnext)
  (vseq (vset 5 (vfz (lend9 0 flatR (xmeth 5 r_Table_place_for [] (xv 0) (xcons (xop opIx (xv 4) (xc (.int 0))) xnil)))))
  (vseq (vifs (lf 0 (xtest (xop opIs (xv 5) (xc .non)))) (vret (lf 0 (xop opIx (xv 4) (xc (.int 0))))) vnext)
  (vdropW (wmeth r_Table_turn (vcons (lf 0 (xv 5)) (vcons (lf 0 (xop opIx (xv 4) (xc (.int 0)))) (lf 0 xnil))))))))))
def b_Table_lower : MSV := (vwhileN (lf 0 (xtru (xc (.bl true)))) b_Table_lower_1 1000000)
def r_Table_lower : List D → List D → List D → Option (D × List D × List D) := runV 3 7 b_Table_lower
def b_Table_values_now_1 : MS := (xput 1 (xop opIx (xop opIx (xfld 5 3 (xv 0)) (xv 2)) (xun unNeg (xc (.int 1)))) (xv 3))
def b_Table_values_now : MS := (xseq (xset 1 (xop opMul (xlst (xcons (xc c_NOUGHT) xnil)) (xop opAddB (xfld 5 0 (xv 0)) (xfld 5 1 (xv 0)))))
  (xseq (xfor (xenumA (xcons (xfld 5 4 (xv 0)) xnil)) (tgt [(tgn 2), (tgn 3)]) b_Table_values_now_1)
  (xret (xsl slB (xv 1) xnop (xpart (xfld 5 0 (xv 0)))))))
def r_Table_values_now : List D → Option R := runF 1 4 b_Table_values_now
def b_Table_way_of_1 : MS := (xput 2 (xcall r_multiplied (xcons (xc c_MINUS) (xcons (xop opIx (xop opIx (xfld 5 3 (xv 0)) (xv 3)) (xv 1)) xnil))) (xv 4))
def b_Table_way_of : MS := (xseq (xset 2 (xop opMul (xlst (xcons (xc c_NOUGHT) xnil)) (xop opAddB (xfld 5 0 (xv 0)) (xfld 5 1 (xv 0)))))
  (xseq (xput 2 (xc c_ONE) (xv 1))
  (xseq (xfor (xenumA (xcons (xfld 5 4 (xv 0)) xnil)) (tgt [(tgn 3), (tgn 4)]) b_Table_way_of_1)
  (xret (xsl slB (xv 2) xnop (xpart (xfld 5 0 (xv 0))))))))
def r_Table_way_of : List D → Option R := runF 2 5 b_Table_way_of
def b_row_told : MS := (xret (xcall r_summed (xcons (xlc (xzipA (xcons (xcall r_values_of (xcons (xv 0) xnil)) (xcons (xcall r_values_of (xcons (xv 1) xnil)) xnil))) (tgt [(tgn 2), (tgn 3)]) xtyes (xcall r_multiplied (xcons (xv 2) (xcons (xv 3) xnil))) [2, 3]) xnil)))
def r_row_told : List D → Option R := runF 2 4 b_row_told
def b_product_to_1 : MS := (xaug 1 opMulI (xv 2))
def b_product_to : MS := (xseq (xset 1 (xc (.int 1)))
  (xseq (xfor (xrange2 (xcons (xc (.int 2)) (xcons (xop opAddB (xv 0) (xc (.int 1))) xnil))) (tgn 2) b_product_to_1)
  (xret (xmv 1))))
def r_product_to : List D → Option R := runF 1 3 b_product_to
def b_ways_to_choose : MS := (xseq (xifs (xtor (xtest (xop opLt (xv 1) (xc (.int 0)))) (xtest (xop opLt (xv 0) (xv 1)))) (xret (xc (.int 0))) xnext)
  (xret (xop opFdiv (xcall r_product_to (xcons (xv 0) xnil)) (xop opMul (xcall r_product_to (xcons (xv 1) xnil)) (xcall r_product_to (xcons (xop opSub (xv 0) (xv 1)) xnil))))))
def r_ways_to_choose : List D → Option R := runF 2 2 b_ways_to_choose
def b_unit_row : MS := (xseq (xifs (xtest (xop opEq (xv 1) (xc (.int 0)))) (xret (xlc (xrange1 (xcons (xv 0) xnil)) (tgn 3) xtyes (xcb cbInt (xcons (xop opEq (xv 3) (xv 2)) xnil)) [3])) xnext)
  (xret (xlc (xrange1 (xcons (xv 0) xnil)) (tgn 3) xtyes (xcall r_ways_to_choose (xcons (xop opSub (xop opSub (xv 3) (xv 2)) (xc (.int 1))) (xcons (xop opSub (xv 1) (xc (.int 1))) xnil))) [3])))
def r_unit_row : List D → Option R := runF 3 4 b_unit_row
def b_factors_of_1 : MS := (xput 5 (xcall r_less_by (xcons (xby 5 (xixv 5 (xv 6)) (xop opIx (xv 5) (xv 6))) (xcons (xv 8) xnil))) (xv 6))
def b_factors_of : MS := (xseq (ypar 4 5 (ycons (xcb cbLen (xcons (xv 0) xnil)) (ycons (xcb cbList (xcons (xcall r_values_of (xcons (xv 0) xnil)) xnil)) ynil)))
  (xseq (xfor (xzipA (xcons (xv 2) (xcons (xv 3) xnil))) (tgt [(tgt [(tgn 6), (tgn 7)]), (tgn 8)]) b_factors_of_1)
  (xret (xcb cbTuple (xcons (xlc (xrange1 (xcons (xop opSub (xv 4) (xv 1)) xnil)) (tgn 9) xtyes (xcall r_row_told (xcons (xv 5) (xcons (xcall r_unit_row (xcons (xv 4) (xcons (xv 1) (xcons (xv 9) xnil)))) xnil))) [9]) xnil)))))
def r_factors_of : List D → Option R := runF 4 10 b_factors_of
def b_row_of_1 : MS := (xapp 3 (xcall r_summed (xcons (xlc (xzipA (xcons (xv 1) (xcons (xv 0) xnil))) (tgt [(tgn 5), (tgn 6)]) xtyes (xcall r_multiplied (xcons (xv 5) (xcons (xop opIx (xv 6) (xv 4)) xnil))) [5, 6]) xnil)))
def b_row_of : MS := (xseq (xset 3 (xlst xnil))
  (xseq (xfor (xrange1 (xcons (xv 2) xnil)) (tgn 4) b_row_of_1)
  (xret (xcb cbTuple (xcons (xv 3) xnil)))))
def r_row_of : List D → Option R := runF 3 7 b_row_of
def b_power_row : MS := (xret (xlc (xrange1 (xcons (xv 0) xnil)) (tgn 2) xtyes (xcall r_ways_to_choose (xcons (xv 2) (xcons (xv 1) xnil))) [2]))
def r_power_row : List D → Option R := runF 2 3 b_power_row
def b_unit_rows_1 : MS := (xseq (xset 4 (xcall r_values_of (xcons (xcall r_power_row (xcons (xv 0) (xcons (xv 3) xnil))) xnil)))
  (xdrop (xmut 2 muExt (xcons (xlst (xcons (xv 4) (xcons (xlc (xseqI (xv 4)) (tgn 5) xtyes (xcall r_multiplied (xcons (xc c_MINUS) (xcons (xv 5) xnil))) [5]) xnil))) xnil))))
def b_unit_rows : MS := (xseq (xset 2 (xlst xnil))
  (xseq (xfor (xrange1 (xcons (xcb cbMin2 (xcons (xv 1) (xcons (xv 0) xnil))) xnil)) (tgn 3) b_unit_rows_1)
  (xret (xop opAddB (xv 2) (xlc (xrange1 (xcons (xop opSub (xv 0) (xv 1)) xnil)) (tgn 6) xtyes (xcall r_values_of (xcons (xcall r_unit_row (xcons (xv 0) (xcons (xv 1) (xcons (xv 6) xnil)))) xnil)) [6])))))
def r_unit_rows : List D → Option R := runF 2 7 b_unit_rows
def b_solved : MS := (xseq (xset 3 (xcb cbLen (xcons (xv 0) xnil)))
  (xseq (xset 4 (xcall r_unit_rows (xcons (xv 3) (xcons (xv 1) xnil))))
  (xnewV 5 r_Table_init (xcons (xlc (xseqI (xv 4)) (tgn 12) xtyes (xlc (xseqI (xv 2)) (tgt [(tgn 13), (tgn 14)]) xtyes (xop opIx (xv 12) (xv 13)) [13, 14]) [12]) (xcons (xlc (xseqI (xv 2)) (tgt [(tgn 13), (tgn 14)]) xtyes (xv 14) [13, 14]) xnil))
  (vseq (vset 6 (vfz (lf 5 (xop opAddB (xop opMul (xlst (xcons (xc c_NOUGHT) xnil)) (xcb cbLen (xcons (xv 4) xnil))) (xop opMul (xlst (xcons (xc c_ONE) xnil)) (xcb cbLen (xcons (xv 2) xnil)))))))
  (vseq (vdropW (wmeth r_Table_lower (vcons (lf 5 (xv 6)) (vcons (lf 5 (xcb cbLen (xcons (xv 4) xnil))) (lf 5 xnil)))))
  (vseq (vset 7 (vfz (lend9 5 flatR (xmeth 5 r_Table_counts_of [] (xv 5) (xcons (xv 6) xnil)))))
  (vseq (vset 8 (vfz (lf 5 (xcall r_summed (xcons (xlc (xzipA (xcons (xv 7) (xcons (xv 2) xnil))) (tgt [(tgn 15), (tgt [(tgn 13), (tgn 14)])]) xtyes (xcall r_multiplied (xcons (xv 15) (xcons (xv 14) xnil))) [15, 13, 14]) xnil)))))
  (vseq (vifs (lf 5 (xtest (xop opNe (xv 8) (xc c_NOUGHT)))) (vret (lf 5 (xtup (xcons (xc (.str "none")) (xcons (xv 7) (xcons (xcall r_factors_of (xcons (xop opMul (xlst (xcons (xc (.int 0)) xnil)) (xv 3)) (xcons (xv 1) (xcons (xv 2) (xcons (xv 7) xnil))))) xnil)))))) vnext)
  (vseq (vdropW (wmeth r_Table_clear (lf 5 xnil)))
  (vseq (vset 9 (vfz (lf 5 (xop opAddB (xlc (xseqI (xv 4)) (tgn 12) xtyes (xcall r_row_told (xcons (xv 0) (xcons (xv 12) xnil))) [12]) (xop opMul (xlst (xcons (xc c_NOUGHT) xnil)) (xcb cbLen (xcons (xv 2) xnil)))))))
  (vseq (vsetW 10 (wmeth r_Table_lower (vcons (lf 5 (xv 9)) (vcons (lf 5 (xcb cbLen (xcons (xv 4) xnil))) (lf 5 xnil)))))
  (vseq (vset 11 (vfz (vcall r_row_of (vcons (lf 5 (xv 4)) (vcons (lend9 5 flatR (xmeth 5 r_Table_values_now [] (xv 5) xnil)) (vcons (lf 5 (xv 3)) (lf 5 xnil)))))))
  (vseq (vifs (lf 5 (xtest (xop opIsNot (xv 10) (xc .non)))) (vret (vtup (vcons (lf 5 (xc (.str "endless"))) (vcons (lf 5 (xv 11)) (vcons (vcall r_row_of (vcons (lf 5 (xv 4)) (vcons (lend9 5 flatR (xmeth 5 r_Table_way_of [] (xv 5) (xcons (xv 10) xnil))) (vcons (lf 5 (xv 3)) (lf 5 xnil))))) (lf 5 xnil)))))) vnext)
  (vseq (vset 7 (vfz (lend9 5 flatR (xmeth 5 r_Table_counts_of [] (xv 5) (xcons (xv 9) xnil)))))
  (vret (lf 5 (xtup (xcons (xc (.str "least")) (xcons (xv 11) (xcons (xv 7) (xcons (xcall r_factors_of (xcons (xv 0) (xcons (xv 1) (xcons (xv 2) (xcons (xv 7) xnil))))) xnil)))))))))))))))))))))
def r_solved : List D → Option R := runF 3 16 b_solved
def b_row_paper : MS := (xret (xcall r_solved (xcons (xv 0) (xcons (xv 1) (xcons (xcall r_need_seen (xcons (xv 2) (xcons (xcb cbLen (xcons (xv 0) xnil)) xnil))) xnil)))))
def r_row_paper : List D → Option R := runF 3 3 b_row_paper
def b_row_least : MS := (xseq (xset 3 (xcall r_row_paper (xcons (xv 0) (xcons (xv 1) (xcons (xv 2) xnil)))))
  (xret (xif (xtest (xop opEq (xop opIx (xv 3) (xc (.int 0))) (xc (.str "least")))) (xcall r_row_told (xcons (xv 0) (xcons (xop opIx (xv 3) (xc (.int 1))) xnil))) (xop opIx (xv 3) (xc (.int 0))))))
def r_row_least : List D → Option R := runF 3 4 b_row_least
def b_row_greatest : MS := (xseq (xset 3 (xcall r_row_least (xcons (xlc (xseqI (xcall r_values_of (xcons (xv 0) xnil))) (tgn 4) xtyes (xcall r_multiplied (xcons (xc c_MINUS) (xcons (xv 4) xnil))) [4]) (xcons (xv 1) (xcons (xv 2) xnil)))))
  (xret (xif (xtru (xcb cbIsi (xcons (xv 3) (xcons (xc (.ty "str")) xnil)))) (xv 3) (xcall r_multiplied (xcons (xc c_MINUS) (xcons (xv 3) xnil))))))
def r_row_greatest : List D → Option R := runF 3 5 b_row_greatest
def b_row_kernel : MS := (xseq (xset 2 (xcb cbLen (xcons (xv 0) xnil)))
  (xret (xcb cbTuple (xcons (xlc (xrange1 (xcons (xop opSub (xv 2) (xv 1)) xnil)) (tgn 3) xtyes (xcall r_row_told (xcons (xv 0) (xcons (xcall r_unit_row (xcons (xv 2) (xcons (xv 1) (xcons (xv 3) xnil)))) xnil))) [3]) xnil))))
def r_row_kernel : List D → Option R := runF 2 4 b_row_kernel
def b_row_refuting_1 : MS := (xseq (xset 4 (xcall r_power_row (xcons (xv 2) (xcons (xv 3) xnil))))
  (xseq (xset 5 (xcall r_row_told (xcons (xv 0) (xcons (xv 4) xnil))))
  (xifs (xtest (xop opNe (xv 5) (xc c_NOUGHT))) (xseq (xset 6 (xif (xtru (xcall r_is_less (xcons (xv 5) (xcons (xc c_NOUGHT) xnil)))) (xc (.int 1)) (xun unNeg (xc (.int 1)))))
  (xret (xcb cbTuple (xcons (xlc (xseqI (xv 4)) (tgn 8) xtyes (xtup (xcons (xop opMul (xv 6) (xv 8)) (xcons (xc (.int 1)) xnil))) [8]) xnil)))) xnext)))
def b_row_refuting_2 : MS := (xifs (xtru (xcall r_is_less (xcons (xv 8) (xcons (xc c_NOUGHT) xnil)))) (xret (xcb cbTuple (xcons (xcall r_values_of (xcons (xcall r_unit_row (xcons (xv 2) (xcons (xv 1) (xcons (xv 7) xnil)))) xnil)) xnil))) xnext)
def b_row_refuting : MS := (xseq (xset 2 (xcb cbLen (xcons (xv 0) xnil)))
  (xseq (xfor (xrange1 (xcons (xcb cbMin2 (xcons (xv 1) (xcons (xv 2) xnil))) xnil)) (tgn 3) b_row_refuting_1)
  (xseq (xfor (xenumA (xcons (xcall r_row_kernel (xcons (xv 0) (xcons (xv 1) xnil))) xnil)) (tgt [(tgn 7), (tgn 8)]) b_row_refuting_2)
  (xret (xc .non)))))
def r_row_refuting : List D → Option R := runF 2 9 b_row_refuting
def b_row_never_below : MS := (xret (xop opIs (xcall r_row_refuting (xcons (xv 0) (xcons (xv 1) xnil))) (xc .non)))
def r_row_never_below : List D → Option R := runF 2 2 b_row_never_below
def b_are_values : MS := (xret (xvand (xcb cbIsi (xcons (xv 0) (xcons (xc (.ty "tuple")) xnil))) (xvand (xop opEq (xcb cbLen (xcons (xv 0) xnil)) (xv 1)) (xcb cbAll (xcons (xlc (xseqI (xv 0)) (tgn 2) xtyes (xcall r_is_value (xcons (xv 2) xnil)) [2]) xnil)))))
def r_are_values : List D → Option R := runF 2 3 b_are_values
def b_are_counts_1 : MS := (xseq (xset 7 (xlc (xrange1 (xcons (xv 5) xnil)) (tgn 11) xtyes (xcb cbInt (xcons (xop opEq (xv 11) (xv 6)) xnil)) [11]))
  (xseq (xset 8 (xlc (xzipA (xcons (xv 0) (xcons (xv 4) xnil))) (tgt [(tgn 12), (tgt [(tgn 13), (tgn 10)])]) xtyes (xcall r_multiplied (xcons (xcall r_value_of (xcons (xv 12) xnil)) (xcons (xcall r_value_of (xcons (xop opIx (xv 7) (xv 13)) xnil)) xnil))) [12, 13, 10]))
  (xseq (xset 9 (xcall r_differences (xcons (xcall r_values_of (xcons (xv 7) xnil)) (xcons (xv 3) xnil))))
  (xseq (xdrop (xmut 8 muExt (xcons (xlc (xzipA (xcons (xv 1) (xcons (xv 9) xnil))) (tgt [(tgn 14), (tgn 15)]) xtyes (xcall r_multiplied (xcons (xcall r_value_of (xcons (xv 14) xnil)) (xcons (xv 15) xnil))) [14, 15]) xnil)))
  (xifs (xtest (xop opNe (xcall r_summed (xcons (xv 8) xnil)) (xcall r_value_of (xcons (xop opIx (xv 2) (xv 6)) xnil)))) (xret (xc (.bl false))) xnext)))))
def b_are_counts : MS := (xseq (xset 5 (xcb cbLen (xcons (xv 2) xnil)))
  (xseq (xifs (xtor (xtnot (xtru (xcall r_are_values (xcons (xv 0) (xcons (xcb cbLen (xcons (xv 4) xnil)) xnil))))) (xtnot (xtru (xcall r_are_values (xcons (xv 1) (xcons (xcb cbMax2 (xcons (xc (.int 0)) (xcons (xop opSub (xv 5) (xv 3)) xnil))) xnil)))))) (xret (xc (.bl false))) xnext)
  (xseq (xifs (xtru (xcb cbAny (xcons (xlc (xseqI (xv 1)) (tgn 10) xtyes (xcall r_is_less (xcons (xcall r_value_of (xcons (xv 10) xnil)) (xcons (xc c_NOUGHT) xnil))) [10]) xnil))) (xret (xc (.bl false))) xnext)
  (xseq (xfor (xrange1 (xcons (xv 5) xnil)) (tgn 6) b_are_counts_1)
  (xret (xc (.bl true)))))))
def r_are_counts : List D → Option R := runF 5 16 b_are_counts
def b_is_row : MS := (xseq (xifs (xtor (xtnot (xtru (xcall r_are_values (xcons (xv 0) (xcons (xv 1) xnil))))) (xtnot (xtru (xcall r_is_kind (xcons (xv 0) (xcons (xv 2) xnil)))))) (xret (xc (.bl false))) xnext)
  (xret (xcb cbAll (xcons (xlc (xseqI (xv 3)) (tgt [(tgn 4), (tgn 5)]) xtyes (xop opEq (xcall r_value_of (xcons (xop opIx (xv 0) (xv 4)) xnil)) (xv 5)) [4, 5]) xnil))))
def r_is_row : List D → Option R := runF 4 6 b_is_row
def b_worth_of : MS := (xret (xcall r_summed (xcons (xlc (xzipA (xcons (xv 0) (xcons (xv 1) xnil))) (tgt [(tgn 2), (tgt [(tgn 3), (tgn 4)])]) xtyes (xcall r_multiplied (xcons (xcall r_value_of (xcons (xv 2) xnil)) (xcons (xv 4) xnil))) [2, 3, 4]) xnil)))
def r_worth_of : List D → Option R := runF 2 5 b_worth_of
def b_row_paper_holds : MS := (xseq (ypar 4 5 (ycons (xcall r_need_seen (xcons (xv 2) (xcons (xcb cbLen (xcons (xv 0) xnil)) xnil))) (ycons (xcb cbLen (xcons (xv 0) xnil)) ynil)))
  (xseq (xifs (xtor (xtnot (xtru (xcb cbIsi (xcons (xv 3) (xcons (xc (.ty "tuple")) xnil))))) (xtor (xtest (xop (opInB true) (xcb cbLen (xcons (xv 3) xnil)) (xtup (xcons (xc (.int 3)) (xcons (xc (.int 4)) xnil))))) (xtnot (xtru (xcb cbIsi (xcons (xop opIx (xv 3) (xc (.int 0))) (xcons (xc (.ty "str")) xnil))))))) (xret (xc (.bl false))) xnext)
  (xseq (xifs (xtand (xtest (xop opEq (xop opIx (xv 3) (xc (.int 0))) (xc (.str "least")))) (xtest (xop opEq (xcb cbLen (xcons (xv 3) xnil)) (xc (.int 4))))) (xseq (xifs (xtor (xtnot (xtru (xcall r_is_row (xcons (xop opIx (xv 3) (xc (.int 1))) (xcons (xv 5) (xcons (xv 1) (xcons (xv 4) xnil))))))) (xtnot (xtru (xcall r_are_counts (xcons (xop opIx (xv 3) (xc (.int 2))) (xcons (xop opIx (xv 3) (xc (.int 3))) (xcons (xv 0) (xcons (xv 1) (xcons (xv 4) xnil))))))))) (xret (xc (.bl false))) xnext)
  (xret (xop opEq (xcall r_row_told (xcons (xv 0) (xcons (xop opIx (xv 3) (xc (.int 1))) xnil))) (xcall r_worth_of (xcons (xop opIx (xv 3) (xc (.int 2))) (xcons (xv 4) xnil)))))) xnext)
  (xseq (xifs (xtand (xtest (xop opEq (xop opIx (xv 3) (xc (.int 0))) (xc (.str "none")))) (xtest (xop opEq (xcb cbLen (xcons (xv 3) xnil)) (xc (.int 3))))) (xret (xvand (xcall r_are_counts (xcons (xop opIx (xv 3) (xc (.int 1))) (xcons (xop opIx (xv 3) (xc (.int 2))) (xcons (xop opMul (xlst (xcons (xc (.int 0)) xnil)) (xv 5)) (xcons (xv 1) (xcons (xv 4) xnil)))))) (xcall r_is_less (xcons (xc c_NOUGHT) (xcons (xcall r_worth_of (xcons (xop opIx (xv 3) (xc (.int 1))) (xcons (xv 4) xnil))) xnil))))) xnext)
  (xseq (xifs (xtand (xtest (xop opEq (xop opIx (xv 3) (xc (.int 0))) (xc (.str "endless")))) (xtest (xop opEq (xcb cbLen (xcons (xv 3) xnil)) (xc (.int 3))))) (xseq (xset 6 (xlc (xseqI (xv 4)) (tgt [(tgn 7), (tgn 8)]) xtyes (xtup (xcons (xv 7) (xcons (xc c_NOUGHT) xnil))) [7, 8]))
  (xseq (xifs (xtor (xtnot (xtru (xcall r_is_row (xcons (xop opIx (xv 3) (xc (.int 1))) (xcons (xv 5) (xcons (xv 1) (xcons (xv 4) xnil))))))) (xtnot (xtru (xcall r_is_row (xcons (xop opIx (xv 3) (xc (.int 2))) (xcons (xv 5) (xcons (xv 1) (xcons (xv 6) xnil)))))))) (xret (xc (.bl false))) xnext)
  (xret (xcall r_is_less (xcons (xcall r_row_told (xcons (xv 0) (xcons (xop opIx (xv 3) (xc (.int 2))) xnil))) (xcons (xc c_NOUGHT) xnil)))))) xnext)
  (xret (xc (.bl false))))))))
def r_row_paper_holds : List D → Option R := runF 4 9 b_row_paper_holds
def b_law_1 : MS := (xseq (ypar 4 5 (ycons (xop opAddB (xc (.int 1)) (xcallB r_w_choose 2 (xcons (xc (.int 4)) xnil))) (ycons (xcallB r_w_choose 2 (xcons (xc (.int 4)) xnil)) ynil)))
  (xseq (xset 6 (xlc (xrange1 (xcons (xv 4) xnil)) (tgn 16) xtyes (xtup (xcons (xop opSub (xcallB r_w_choose 2 (xcons (xc (.int 7)) xnil)) (xc (.int 3))) (xcons (xc (.int 1)) xnil))) [16]))
  (xseq (xifs (xtest (xop opNe (xcall r_row_least (xcons (xv 6) (xcons (xv 5) (xcons (xlst xnil) xnil)))) (xif (xtru (xcall r_row_never_below (xcons (xv 6) (xcons (xv 5) xnil)))) (xtup (xcons (xc (.int 0)) (xcons (xc (.int 1)) xnil))) (xc (.str "endless"))))) (xret (xc (.bl false))) xnext)
  (xseq (xset 7 (xlc (xrange1 (xcons (xv 4) xnil)) (tgn 16) xtyes (xtup (xcons (xop opSub (xcallB r_w_choose 2 (xcons (xc (.int 9)) xnil)) (xc (.int 4))) (xcons (xc (.int 1)) xnil))) [16]))
  (xseq (xset 8 (xlc (xenumA (xcons (xv 7) xnil)) (tgt [(tgn 16), (tgn 17)]) xtyes (xtup (xcons (xv 16) (xcons (xv 17) xnil))) [16, 17]))
  (xseq (xset 9 (xif (xtru (xcall r_is_kind (xcons (xv 7) (xcons (xv 5) xnil)))) (xcall r_row_told (xcons (xv 6) (xcons (xv 7) xnil))) (xc (.str "none"))))
  (xseq (xifs (xtest (xop opNe (xcall r_row_least (xcons (xv 6) (xcons (xv 5) (xcons (xv 8) xnil)))) (xv 9))) (xret (xc (.bl false))) xnext)
  (xseq (xifs (xtest (xop opNe (xcall r_row_greatest (xcons (xv 6) (xcons (xv 5) (xcons (xv 8) xnil)))) (xv 9))) (xret (xc (.bl false))) xnext)
  (xseq (xset 10 (xlc (xseqI (xv 8)) (tgn 18) (xtest (xop opEq (xcallB r_w_choose 2 (xcons (xc (.int 2)) xnil)) (xc (.int 0)))) (xv 18) [18]))
  (xseq (xset 11 (xlc (xseqI (xv 6)) (tgn 19) xtyes (xcall r_w_minus (xcons (xtup (xcons (xc (.int 0)) (xcons (xc (.int 1)) xnil))) (xcons (xv 19) xnil))) [19]))
  (xseq (ypar 12 13 (ycons (xcall r_row_least (xcons (xv 6) (xcons (xv 5) (xcons (xv 10) xnil)))) (ycons (xcall r_row_greatest (xcons (xv 6) (xcons (xv 5) (xcons (xv 10) xnil)))) ynil)))
  (xseq (xset 14 (xcall r_row_least (xcons (xv 11) (xcons (xv 5) (xcons (xv 10) xnil)))))
  (xseq (xifs (xtest (xop opNe (xv 13) (xif (xtru (xcb cbIsi (xcons (xv 14) (xcons (xc (.ty "str")) xnil)))) (xv 14) (xcall r_w_minus (xcons (xtup (xcons (xc (.int 0)) (xcons (xc (.int 1)) xnil))) (xcons (xv 14) xnil)))))) (xret (xc (.bl false))) xnext)
  (xseq (xifs (xtand (xtru (xcall r_is_kind (xcons (xv 7) (xcons (xv 5) xnil)))) (xtor (xtest (xop opEq (xv 12) (xc (.str "none")))) (xtest (xop opEq (xv 13) (xc (.str "none")))))) (xret (xc (.bl false))) xnext)
  (xseq (xifs (xtand (xtru (xcall r_is_kind (xcons (xv 7) (xcons (xv 5) xnil)))) (xtand (xtnot (xtru (xcb cbIsi (xcons (xv 12) (xcons (xc (.ty "str")) xnil))))) (xtru (xcall r_w_is_less (xcons (xcall r_row_told (xcons (xv 6) (xcons (xv 7) xnil))) (xcons (xv 12) xnil)))))) (xret (xc (.bl false))) xnext)
  (xseq (xset 15 (xcall r_row_paper (xcons (xv 6) (xcons (xv 5) (xcons (xv 10) xnil)))))
  (xseq (xifs (xtest (xop opIsNot (xcall r_row_paper_holds (xcons (xv 6) (xcons (xv 5) (xcons (xv 10) (xcons (xv 15) xnil))))) (xc (.bl true)))) (xret (xc (.bl false))) xnext)
  (xifs (xtest (xop opNe (xop opIx (xv 15) (xc (.int 0))) (xif (xtru (xcb cbIsi (xcons (xv 12) (xcons (xc (.ty "str")) xnil)))) (xv 12) (xc (.str "least"))))) (xret (xc (.bl false))) xnext))))))))))))))))))
def b_law_2 : MS := (xseq (xset 2 (xcall r_w_seed (xcons (xv 0) (xcons (xv 1) xnil))))
  (xfor (xrange1 (xcons (xc (.int 4)) xnil)) (tgn 3) b_law_1))
def b_law : MS := (xseq (xfor (xrange1 (xcons (xcb cbMax2 (xcons (xc (.int 2)) (xcons (xcb cbMin2 (xcons (xc (.int 3)) (xcons (xcb cbLen (xcons (xv 0) xnil)) xnil))) xnil))) xnil)) (tgn 1) b_law_2)
  (xret (xc (.bl true))))
def r_law : List D → Option R := runF 1 20 b_law
end Bk
namespace Bk
open PySem L2 PyProof.Rows
def top (i : Nat) : Stmt := PySem.Challenge.pw_bendkinds_k85_whole_cones_of_rows.main.body.getD i (.Pass ⟨0, 0, 0, 0⟩)
abbrev s_w_choose : Stmt := top 51
abbrev s_w_is_less : Stmt := top 55
abbrev s_w_divisor : Stmt := top 52
abbrev s_w_low : Stmt := top 53
abbrev s_w_minus : Stmt := top 54
abbrev s_w_seed : Stmt := top 50
abbrev s_divisor : Stmt := top 8
abbrev s_lowest : Stmt := top 9
abbrev s_less_by : Stmt := top 14
abbrev s_differences : Stmt := top 24
abbrev s_is_less : Stmt := top 17
abbrev s_is_integer : Stmt := top 6
abbrev s_value_of : Stmt := top 12
abbrev s_values_of : Stmt := top 23
abbrev s_is_kind : Stmt := top 25
abbrev s_multiplied : Stmt := top 15
abbrev s_is_pair : Stmt := top 10
abbrev s_is_value : Stmt := top 11
abbrev s_is_seen : Stmt := top 34
abbrev s_is_sequence : Stmt := top 7
abbrev s_need_seen : Stmt := top 35
abbrev s_Table_init : Stmt := inClass (top 36) 0
abbrev s_quotient : Stmt := top 16
abbrev s_Table_turn : Stmt := inClass (top 36) 2
abbrev s_Table_clear : Stmt := inClass (top 36) 5
abbrev s_added : Stmt := top 13
abbrev s_summed : Stmt := top 18
abbrev s_Table_costs_left : Stmt := inClass (top 36) 1
abbrev s_Table_counts_of : Stmt := inClass (top 36) 8
abbrev s_Table_place_for : Stmt := inClass (top 36) 3
abbrev s_Table_lower : Stmt := inClass (top 36) 4
abbrev s_Table_values_now : Stmt := inClass (top 36) 6
abbrev s_Table_way_of : Stmt := inClass (top 36) 7
abbrev s_row_told : Stmt := top 26
abbrev s_product_to : Stmt := top 20
abbrev s_ways_to_choose : Stmt := top 21
abbrev s_unit_row : Stmt := top 27
abbrev s_factors_of : Stmt := top 39
abbrev s_row_of : Stmt := top 38
abbrev s_power_row : Stmt := top 28
abbrev s_unit_rows : Stmt := top 37
abbrev s_solved : Stmt := top 40
abbrev s_row_paper : Stmt := top 41
abbrev s_row_least : Stmt := top 42
abbrev s_row_greatest : Stmt := top 43
abbrev s_row_kernel : Stmt := top 29
abbrev s_row_refuting : Stmt := top 30
abbrev s_row_never_below : Stmt := top 31
abbrev s_are_values : Stmt := top 44
abbrev s_are_counts : Stmt := top 46
abbrev s_is_row : Stmt := top 45
abbrev s_worth_of : Stmt := top 47
abbrev s_row_paper_holds : Stmt := top 48
abbrev s_law : Stmt := top 56
abbrev nm_w_choose : List PySem.Str := ["_law_box", "_law_many", "_law_digit", "_law_raw"]
abbrev nm_w_is_less : List PySem.Str := ["_law_one", "_law_other"]
abbrev nm_w_divisor : List PySem.Str := ["_law_one", "_law_other"]
abbrev nm_w_low : List PySem.Str := ["_law_top", "_law_below", "_law_by"]
abbrev nm_w_minus : List PySem.Str := ["_law_one", "_law_other"]
abbrev nm_w_seed : List PySem.Str := ["_law_script", "_law_k", "_law_cell", "_law_great"]
abbrev nm_divisor : List PySem.Str := ["one", "other"]
abbrev nm_lowest : List PySem.Str := ["top", "low", "common"]
abbrev nm_less_by : List PySem.Str := ["one", "other"]
abbrev nm_differences : List PySem.Str := ["row", "n", "turn", "here", "there"]
abbrev nm_is_less : List PySem.Str := ["one", "other"]
abbrev nm_is_integer : List PySem.Str := ["value"]
abbrev nm_value_of : List PySem.Str := ["value"]
abbrev nm_values_of : List PySem.Str := ["row", "one"]
abbrev nm_is_kind : List PySem.Str := ["row", "n", "one"]
abbrev nm_multiplied : List PySem.Str := ["one", "other"]
abbrev nm_is_pair : List PySem.Str := ["value", "one"]
abbrev nm_is_value : List PySem.Str := ["value"]
abbrev nm_is_seen : List PySem.Str := ["value", "many", "least"]
abbrev nm_is_sequence : List PySem.Str := ["value"]
abbrev nm_need_seen : List PySem.Str := ["seen", "many", "found", "least", "at", "pair"]
abbrev nm_Table_init : List PySem.Str := ["self", "columns", "values", "at", "one", "line", "column", "spot"]
abbrev nm_quotient : List PySem.Str := ["one", "other"]
abbrev nm_Table_turn : List PySem.Str := ["self", "at", "column", "key", "head", "found", "spot", "line", "by", "one", "other"]
abbrev nm_Table_clear : List PySem.Str := ["self", "at", "column", "spot"]
abbrev nm_added : List PySem.Str := ["one", "other"]
abbrev nm_summed : List PySem.Str := ["values", "found", "one"]
abbrev nm_Table_costs_left : List PySem.Str := ["self", "costs", "found", "at", "saved", "spot", "line"]
abbrev nm_Table_counts_of : List PySem.Str := ["self", "costs", "left", "own", "sign", "cost", "one"]
abbrev nm_Table_place_for : List PySem.Str := ["self", "column", "found", "least", "at", "line", "bound", "is_nearer"]
abbrev nm_Table_lower : List PySem.Str := ["self", "costs", "many", "left", "falling", "place", "at"]
abbrev nm_Table_values_now : List PySem.Str := ["self", "found", "at", "spot"]
abbrev nm_Table_way_of : List PySem.Str := ["self", "column", "found", "at", "spot"]
abbrev nm_row_told : List PySem.Str := ["weights", "row", "weight", "one"]
abbrev nm_product_to : List PySem.Str := ["many", "found", "factor"]
abbrev nm_ways_to_choose : List PySem.Str := ["many", "few"]
abbrev nm_unit_row : List PySem.Str := ["many", "n", "k", "at"]
abbrev nm_factors_of : List PySem.Str := ["weights", "n", "seen", "counts", "many", "left", "place", "one", "count", "k"]
abbrev nm_row_of : List PySem.Str := ["units", "counts", "many", "found", "at", "count", "unit"]
abbrev nm_power_row : List PySem.Str := ["many", "j", "at"]
abbrev nm_unit_rows : List PySem.Str := ["many", "n", "found", "j", "row", "one", "k"]
abbrev nm_solved : List PySem.Str := ["weights", "n", "seen", "many", "units", "table", "first", "counts", "worth", "costs", "falling", "row", "unit", "place", "one", "count"]
abbrev nm_row_paper : List PySem.Str := ["weights", "n", "seen"]
abbrev nm_row_least : List PySem.Str := ["weights", "n", "seen", "found"]
abbrev nm_row_greatest : List PySem.Str := ["weights", "n", "seen", "found", "one"]
abbrev nm_row_kernel : List PySem.Str := ["weights", "n", "many", "k"]
abbrev nm_row_refuting : List PySem.Str := ["weights", "n", "many", "j", "row", "found", "sign", "k", "one"]
abbrev nm_row_never_below : List PySem.Str := ["weights", "n"]
abbrev nm_are_values : List PySem.Str := ["value", "many", "one"]
abbrev nm_are_counts : List PySem.Str := ["counts", "factors", "weights", "n", "seen", "many", "j", "line", "parts", "moves", "one", "at", "count", "place", "factor", "move"]
abbrev nm_is_row : List PySem.Str := ["value", "many", "n", "seen", "place", "one"]
abbrev nm_worth_of : List PySem.Str := ["counts", "seen", "count", "place", "one"]
abbrev nm_row_paper_holds : List PySem.Str := ["weights", "n", "seen", "value", "some", "many", "still", "place", "one"]
abbrev nm_law : List PySem.Str := ["_law_script", "_law_k", "_law_box", "_law_turn", "_law_size", "_law_n", "_law_weights", "_law_row", "_law_seen", "_law_due", "_law_some", "_law_less", "_law_least", "_law_most", "_law_other", "_law_sheet", "_law_place", "_law_value", "_law_one", "_law_weight"]
abbrev pm_w_choose : List PySem.Str := ["_law_box", "_law_many"]
abbrev pm_w_is_less : List PySem.Str := ["_law_one", "_law_other"]
abbrev pm_w_divisor : List PySem.Str := ["_law_one", "_law_other"]
abbrev pm_w_low : List PySem.Str := ["_law_top", "_law_below"]
abbrev pm_w_minus : List PySem.Str := ["_law_one", "_law_other"]
abbrev pm_w_seed : List PySem.Str := ["_law_script", "_law_k"]
abbrev pm_divisor : List PySem.Str := ["one", "other"]
abbrev pm_lowest : List PySem.Str := ["top", "low"]
abbrev pm_less_by : List PySem.Str := ["one", "other"]
abbrev pm_differences : List PySem.Str := ["row", "n"]
abbrev pm_is_less : List PySem.Str := ["one", "other"]
abbrev pm_is_integer : List PySem.Str := ["value"]
abbrev pm_value_of : List PySem.Str := ["value"]
abbrev pm_values_of : List PySem.Str := ["row"]
abbrev pm_is_kind : List PySem.Str := ["row", "n"]
abbrev pm_multiplied : List PySem.Str := ["one", "other"]
abbrev pm_is_pair : List PySem.Str := ["value"]
abbrev pm_is_value : List PySem.Str := ["value"]
abbrev pm_is_seen : List PySem.Str := ["value", "many", "least"]
abbrev pm_is_sequence : List PySem.Str := ["value"]
abbrev pm_need_seen : List PySem.Str := ["seen", "many"]
abbrev pm_Table_init : List PySem.Str := ["self", "columns", "values"]
abbrev pm_quotient : List PySem.Str := ["one", "other"]
abbrev pm_Table_turn : List PySem.Str := ["self", "at", "column"]
abbrev pm_Table_clear : List PySem.Str := ["self"]
abbrev pm_added : List PySem.Str := ["one", "other"]
abbrev pm_summed : List PySem.Str := ["values"]
abbrev pm_Table_costs_left : List PySem.Str := ["self", "costs"]
abbrev pm_Table_counts_of : List PySem.Str := ["self", "costs"]
abbrev pm_Table_place_for : List PySem.Str := ["self", "column"]
abbrev pm_Table_lower : List PySem.Str := ["self", "costs", "many"]
abbrev pm_Table_values_now : List PySem.Str := ["self"]
abbrev pm_Table_way_of : List PySem.Str := ["self", "column"]
abbrev pm_row_told : List PySem.Str := ["weights", "row"]
abbrev pm_product_to : List PySem.Str := ["many"]
abbrev pm_ways_to_choose : List PySem.Str := ["many", "few"]
abbrev pm_unit_row : List PySem.Str := ["many", "n", "k"]
abbrev pm_factors_of : List PySem.Str := ["weights", "n", "seen", "counts"]
abbrev pm_row_of : List PySem.Str := ["units", "counts", "many"]
abbrev pm_power_row : List PySem.Str := ["many", "j"]
abbrev pm_unit_rows : List PySem.Str := ["many", "n"]
abbrev pm_solved : List PySem.Str := ["weights", "n", "seen"]
abbrev pm_row_paper : List PySem.Str := ["weights", "n", "seen"]
abbrev pm_row_least : List PySem.Str := ["weights", "n", "seen"]
abbrev pm_row_greatest : List PySem.Str := ["weights", "n", "seen"]
abbrev pm_row_kernel : List PySem.Str := ["weights", "n"]
abbrev pm_row_refuting : List PySem.Str := ["weights", "n"]
abbrev pm_row_never_below : List PySem.Str := ["weights", "n"]
abbrev pm_are_values : List PySem.Str := ["value", "many"]
abbrev pm_are_counts : List PySem.Str := ["counts", "factors", "weights", "n", "seen"]
abbrev pm_is_row : List PySem.Str := ["value", "many", "n", "seen"]
abbrev pm_worth_of : List PySem.Str := ["counts", "seen"]
abbrev pm_row_paper_holds : List PySem.Str := ["weights", "n", "seen", "value"]
abbrev pm_law : List PySem.Str := ["_law_script"]
structure Txt (K : PySem.W.Frag) (mg : PySem.Str → Option Value) where
  Table : ClT K mg 5
  w_choose : FnT K mg "_law_choose" s_w_choose
  w_is_less : FnT K mg "_law_is_less" s_w_is_less
  w_divisor : FnT K mg "_law_divisor" s_w_divisor
  w_low : FnT K mg "_law_low" s_w_low
  w_minus : FnT K mg "_law_minus" s_w_minus
  w_seed : FnT K mg "_law_seed" s_w_seed
  divisor : FnT K mg "divisor" s_divisor
  lowest : FnT K mg "lowest" s_lowest
  less_by : FnT K mg "less_by" s_less_by
  differences : FnT K mg "differences" s_differences
  is_less : FnT K mg "is_less" s_is_less
  is_integer : FnT K mg "is_integer" s_is_integer
  value_of : FnT K mg "value_of" s_value_of
  values_of : FnT K mg "values_of" s_values_of
  is_kind : FnT K mg "is_kind" s_is_kind
  multiplied : FnT K mg "multiplied" s_multiplied
  is_pair : FnT K mg "is_pair" s_is_pair
  is_value : FnT K mg "is_value" s_is_value
  is_seen : FnT K mg "is_seen" s_is_seen
  is_sequence : FnT K mg "is_sequence" s_is_sequence
  need_seen : FnT K mg "need_seen" s_need_seen
  Table_init : FnM K Table.C "__init__" "Table.__init__" s_Table_init
  mk_Table : Mk K Table.C Table_init.f
  quotient : FnT K mg "quotient" s_quotient
  Table_turn : FnM K Table.C "turn" "Table.turn" s_Table_turn
  Table_clear : FnM K Table.C "clear" "Table.clear" s_Table_clear
  added : FnT K mg "added" s_added
  summed : FnT K mg "summed" s_summed
  Table_costs_left : FnM K Table.C "costs_left" "Table.costs_left" s_Table_costs_left
  Table_counts_of : FnM K Table.C "counts_of" "Table.counts_of" s_Table_counts_of
  Table_place_for : FnM K Table.C "place_for" "Table.place_for" s_Table_place_for
  Table_lower : FnM K Table.C "lower" "Table.lower" s_Table_lower
  Table_values_now : FnM K Table.C "values_now" "Table.values_now" s_Table_values_now
  Table_way_of : FnM K Table.C "way_of" "Table.way_of" s_Table_way_of
  row_told : FnT K mg "row_told" s_row_told
  product_to : FnT K mg "product_to" s_product_to
  ways_to_choose : FnT K mg "ways_to_choose" s_ways_to_choose
  unit_row : FnT K mg "unit_row" s_unit_row
  factors_of : FnT K mg "factors_of" s_factors_of
  row_of : FnT K mg "row_of" s_row_of
  power_row : FnT K mg "power_row" s_power_row
  unit_rows : FnT K mg "unit_rows" s_unit_rows
  solved : FnT K mg "solved" s_solved
  row_paper : FnT K mg "row_paper" s_row_paper
  row_least : FnT K mg "row_least" s_row_least
  row_greatest : FnT K mg "row_greatest" s_row_greatest
  row_kernel : FnT K mg "row_kernel" s_row_kernel
  row_refuting : FnT K mg "row_refuting" s_row_refuting
  row_never_below : FnT K mg "row_never_below" s_row_never_below
  are_values : FnT K mg "are_values" s_are_values
  are_counts : FnT K mg "are_counts" s_are_counts
  is_row : FnT K mg "is_row" s_is_row
  worth_of : FnT K mg "worth_of" s_worth_of
  row_paper_holds : FnT K mg "row_paper_holds" s_row_paper_holds
  law : FnT K mg "law" s_law
  MINUS : CoT K mg "MINUS" c_MINUS
  NOUGHT : CoT K mg "NOUGHT" c_NOUGHT
  ONE : CoT K mg "ONE" c_ONE
  abs : mg "abs" = none
  all : mg "all" = none
  any : mg "any" = none
  bool : mg "bool" = none
  enumerate : mg "enumerate" = none
  int : mg "int" = none
  isinstance : mg "isinstance" = none
  len : mg "len" = none
  list : mg "list" = none
  max : mg "max" = none
  min : mg "min" = none
  range : mg "range" = none
  str : mg "str" = none
  tuple : mg "tuple" = none
  zip : mg "zip" = none
section
variable {P : Program} {w : World} {K : PySem.W.Frag} {mg : PySem.Str → Option Value} {base : Heap}
theorem sc_w_choose : FnScope nm_w_choose pm_w_choose (defScope s_w_choose) := ⟨rfl, rfl, rfl, by decide +kernel, rfl, by decide +kernel, by decide +kernel⟩
theorem len1 {α : Type} {us : List α} (hl : us.length = 1) : ∃ a0, us = [a0] := match us, hl with | [a0], _ => ⟨a0, rfl⟩
theorem len2 {α : Type} {us : List α} (hl : us.length = 2) : ∃ a0 a1, us = [a0, a1] := match us, hl with | [a0, a1], _ => ⟨a0, a1, rfl⟩
theorem len3 {α : Type} {us : List α} (hl : us.length = 3) : ∃ a0 a1 a2, us = [a0, a1, a2] := match us, hl with | [a0, a1, a2], _ => ⟨a0, a1, a2, rfl⟩
theorem len4 {α : Type} {us : List α} (hl : us.length = 4) : ∃ a0 a1 a2 a3, us = [a0, a1, a2, a3] := match us, hl with | [a0, a1, a2, a3], _ => ⟨a0, a1, a2, a3, rfl⟩
theorem len5 {α : Type} {us : List α} (hl : us.length = 5) : ∃ a0 a1 a2 a3 a4, us = [a0, a1, a2, a3, a4] := match us, hl with | [a0, a1, a2, a3, a4], _ => ⟨a0, a1, a2, a3, a4, rfl⟩
theorem bi_w_choose (T : Txt K mg) : Binds K T.w_choose.fd pm_w_choose [] := T.w_choose.F.binds fun _ _ _ _ _ _ us hl => by obtain ⟨_, _, rfl⟩ := len2 hl; rfl
theorem ok_w_choose (T : Txt K mg) : FnOk P w K mg base CX0 1 T.w_choose.f T.w_choose.fd pm_w_choose (spB K r_w_choose) := by
  have nd := sc_w_choose.nd
  refine data_B T.w_choose.F sc_w_choose fun cdv A outer s H E hr => ?_
  refine ⟨_, (pss_cons (ps_if (pt_cmpR op_gt (pe_ix (kix (K := K) rfl) (pv 0) pe_int (fun _ _ => rfl)) pe_int (nomark _)) (pss_cons (ps_set (i := 2) nd rfl (Or.inl rfl) (pe_op op_modA (pe_callTy cr_int (by rfl) T.int (by decide +kernel) (pa_cons (pe_ix (kix (K := K) rfl) (pv 0) pe_int (fun _ _ => rfl)) pa_nil)) (pv 1)))
    (pss_cons (ps_asg (pe_op op_fdivA (pe_ix (kix (K := K) rfl) (pv 0) pe_int (fun _ _ => rfl)) (pv 1)) (pg_sub (pv 0) pe_int set_list))
    (pss_one (ps_ret (pv 2))))) pss_nil)
    (pss_cons (ps_set (i := 3) nd rfl (Or.inl rfl) (pe_op op_modA (pe_callTy cr_int (by rfl) T.int (by decide +kernel) (pa_cons (pe_op (kop_addB (K := K) rfl) (pe_op op_mulA (pe_ix (kix (K := K) rfl) (pv 0) pe_int (fun _ _ => rfl)) pe_int) pe_int) pa_nil)) pe_int))
    (pss_cons (ps_asg (pe_op (kop_addB (K := K) rfl) (pe_op op_modA (pe_callTy cr_int (by rfl) T.int (by decide +kernel) (pa_cons (pe_op (kop_addB (K := K) rfl) (pe_op op_mulA (pv 3) pe_int) pe_int) pa_nil)) pe_int) pe_int) (pg_sub (pv 0) pe_int set_list))
    (pss_one (ps_ret (pe_op op_modA (pe_callTy cr_int (by rfl) T.int (by decide +kernel) (pa_cons (pe_op op_fdivA (pe_op (kop_addB (K := K) rfl) (pe_op op_mulA (pv 3) pe_int) (pe_ix (kix (K := K) rfl) (pv 0) pe_int (fun _ _ => rfl))) pe_int) pa_nil)) (pv 1))))))), ?_⟩
  exact ((sk_seq (sk_if (tk_test (gk_op od_gt (gk_by (gk_ixv gk_int) (gk_op od_ix gk_var gk_int)) gk_int)) (sk_seq (sk_set (gk_op od_mod (gk_cb cd_int (ak_cons (gk_by (gk_ixv gk_int) (gk_op od_ix gk_var gk_int)) ak_nil)) gk_var))
    (sk_seq (sk_put (gk_op od_fdiv (gk_by (gk_ixv gk_int) (gk_op od_ix gk_var gk_int)) gk_var) gk_int)
    (sk_ret gk_mv))) sk_next)
    (sk_seq (sk_set (gk_op od_mod (gk_cb cd_int (ak_cons (gk_op od_addB (gk_op od_mul (gk_by (gk_ixv gk_int) (gk_op od_ix gk_var gk_int)) gk_int) gk_int) ak_nil)) gk_int))
    (sk_seq (sk_put (gk_op od_addB (gk_op od_mod (gk_cb cd_int (ak_cons (gk_op od_addB (gk_op od_mul gk_var gk_int) gk_int) ak_nil)) gk_int) gk_int) gk_int)
    (sk_ret (gk_op od_mod (gk_cb cd_int (ak_cons (gk_op od_fdiv (gk_op od_addB (gk_op od_mul gk_var gk_int) (gk_by (gk_ixv gk_int) (gk_op od_ix gk_var gk_int))) gk_int) ak_nil)) gk_var))))) : SOk K _ b_w_choose)
theorem sc_w_is_less : FnScope nm_w_is_less pm_w_is_less (defScope s_w_is_less) := ⟨rfl, rfl, rfl, by decide +kernel, rfl, by decide +kernel, by decide +kernel⟩
theorem bi_w_is_less (T : Txt K mg) : Binds K T.w_is_less.fd pm_w_is_less [] := T.w_is_less.F.binds fun _ _ _ _ _ _ us hl => by obtain ⟨_, _, rfl⟩ := len2 hl; rfl
theorem ok_w_is_less (T : Txt K mg) : FnOk P w K mg base CX0 1 T.w_is_less.f T.w_is_less.fd pm_w_is_less (spF K r_w_is_less) := by
  have nd := sc_w_is_less.nd
  refine data_F T.w_is_less.F sc_w_is_less fun cdv A outer s H E hr => ?_
  refine ⟨_, (pss_one (ps_ret (pe_cmpR op_lt (pe_op op_mulA (pe_ix (kix (K := K) rfl) (pv 0) pe_int (fun _ _ => rfl)) (pe_ix (kix (K := K) rfl) (pv 1) pe_int (fun _ _ => rfl))) (pe_op op_mulA (pe_ix (kix (K := K) rfl) (pv 1) pe_int (fun _ _ => rfl)) (pe_ix (kix (K := K) rfl) (pv 0) pe_int (fun _ _ => rfl))) (nomark _)))), ?_⟩
  exact ((sk_ret (gk_op od_lt (gk_op od_mul (gk_op od_ix gk_var gk_int) (gk_op od_ix gk_var gk_int)) (gk_op od_mul (gk_op od_ix gk_var gk_int) (gk_op od_ix gk_var gk_int)))) : SOk K _ b_w_is_less)
theorem sc_w_divisor : FnScope nm_w_divisor pm_w_divisor (defScope s_w_divisor) := ⟨rfl, rfl, rfl, by decide +kernel, rfl, by decide +kernel, by decide +kernel⟩
theorem bi_w_divisor (T : Txt K mg) : Binds K T.w_divisor.fd pm_w_divisor [] := T.w_divisor.F.binds fun _ _ _ _ _ _ us hl => by obtain ⟨_, _, rfl⟩ := len2 hl; rfl
theorem ok_w_divisor (T : Txt K mg) : FnOk P w K mg base CX0 1 T.w_divisor.f T.w_divisor.fd pm_w_divisor (spF K r_w_divisor) := by
  have nd := sc_w_divisor.nd
  refine data_F T.w_divisor.F sc_w_divisor fun cdv A outer s H E hr => ?_
  refine ⟨_, (pss_cons (ps_par (i := 0) (j := 1) rfl nd rfl rfl (by decide) rfl rfl (pa_cons (pe_callB cr_abs (by rfl) T.abs (by decide +kernel) (pa_cons (pv 0) pa_nil)) (pa_cons (pe_callB cr_abs (by rfl) T.abs (by decide +kernel) (pa_cons (pv 1) pa_nil)) pa_nil)) (by rfl))
    (pss_cons (ps_while PassesOwn.never (pt_cmpR (kop_ne (K := K) rfl hr.units) (pv 1) pe_int (nomark _)) (pss_one (ps_par (i := 0) (j := 1) rfl nd rfl rfl (by decide) rfl rfl (pa_cons (pv 1) (pa_cons (pe_op op_modA (pe_callTy cr_int (by rfl) T.int (by decide +kernel) (pa_cons (pv 0) pa_nil)) (pv 1)) pa_nil)) (by rfl))))
    (pss_one (ps_ret (pv 0))))), ?_⟩
  exact ((sk_seq (sk_ypar (yk_cons (gk_cb cd_abs (ak_cons gk_var ak_nil)) (yk_cons (gk_cb cd_abs (ak_cons gk_var ak_nil)) yk_nil)))
    (sk_seq (sk_while (fuelI 1) (tk_test (gk_op od_ne gk_var gk_int)) ((sk_ypar (yk_cons gk_var (yk_cons (gk_op od_mod (gk_cb cd_int (ak_cons gk_var ak_nil)) gk_var) yk_nil))) : SOk K _ b_w_divisor_1))
    (sk_ret gk_mv))) : SOk K _ b_w_divisor)
theorem sc_w_low : FnScope nm_w_low pm_w_low (defScope s_w_low) := ⟨rfl, rfl, rfl, by decide +kernel, rfl, by decide +kernel, by decide +kernel⟩
theorem bi_w_low (T : Txt K mg) : Binds K T.w_low.fd pm_w_low [] := T.w_low.F.binds fun _ _ _ _ _ _ us hl => by obtain ⟨_, _, rfl⟩ := len2 hl; rfl
theorem ok_w_low (T : Txt K mg) : FnOk P w K mg base CX0 2 T.w_low.f T.w_low.fd pm_w_low (spF K r_w_low) := by
  have nd := sc_w_low.nd
  refine data_F T.w_low.F sc_w_low fun cdv A outer s H E hr => ?_
  refine ⟨_, (pss_cons (ps_set (i := 2) nd rfl (Or.inl rfl) (pe_op op_mulA (pe_call (ok_w_divisor T) (hr.mono (by decide)) rfl T.w_divisor.m T.w_divisor.F.kp (bi_w_divisor T) .nil pass0 (pa_cons (pv 0) (pa_cons (pv 1) pa_nil))) (pe_ifExp (pt_cmpR op_gt (pv 1) pe_int (nomark _)) pe_int (pe_op op_subA pe_int pe_int))))
    (pss_one (ps_ret (pe_tup (pa_cons (pe_op op_fdivA (pv 0) (pv 2)) (pa_cons (pe_op op_fdivA (pv 1) (pv 2)) pa_nil)))))), ?_⟩
  exact ((sk_seq (sk_set (gk_op od_mul (gk_call (ak_cons gk_var (ak_cons gk_var ak_nil))) (gk_if (tk_test (gk_op od_gt gk_var gk_int)) gk_int (gk_op od_sub gk_int gk_int))))
    (sk_ret (gk_tup (ak_cons (gk_op od_fdiv gk_var gk_var) (ak_cons (gk_op od_fdiv gk_var gk_var) ak_nil))))) : SOk K _ b_w_low)
theorem sc_w_minus : FnScope nm_w_minus pm_w_minus (defScope s_w_minus) := ⟨rfl, rfl, rfl, by decide +kernel, rfl, by decide +kernel, by decide +kernel⟩
theorem bi_w_minus (T : Txt K mg) : Binds K T.w_minus.fd pm_w_minus [] := T.w_minus.F.binds fun _ _ _ _ _ _ us hl => by obtain ⟨_, _, rfl⟩ := len2 hl; rfl
theorem ok_w_minus (T : Txt K mg) : FnOk P w K mg base CX0 3 T.w_minus.f T.w_minus.fd pm_w_minus (spF K r_w_minus) := by
  have nd := sc_w_minus.nd
  refine data_F T.w_minus.F sc_w_minus fun cdv A outer s H E hr => ?_
  refine ⟨_, (pss_one (ps_ret (pe_call (ok_w_low T) (hr.mono (by decide)) rfl T.w_low.m T.w_low.F.kp (bi_w_low T) .nil pass0 (pa_cons (pe_op op_subA (pe_op op_mulA (pe_ix (kix (K := K) rfl) (pv 0) pe_int (fun _ _ => rfl)) (pe_ix (kix (K := K) rfl) (pv 1) pe_int (fun _ _ => rfl))) (pe_op op_mulA (pe_ix (kix (K := K) rfl) (pv 1) pe_int (fun _ _ => rfl)) (pe_ix (kix (K := K) rfl) (pv 0) pe_int (fun _ _ => rfl)))) (pa_cons (pe_op op_mulA (pe_ix (kix (K := K) rfl) (pv 0) pe_int (fun _ _ => rfl)) (pe_ix (kix (K := K) rfl) (pv 1) pe_int (fun _ _ => rfl))) pa_nil))))), ?_⟩
  exact ((sk_ret (gk_call (ak_cons (gk_op od_sub (gk_op od_mul (gk_op od_ix gk_var gk_int) (gk_op od_ix gk_var gk_int)) (gk_op od_mul (gk_op od_ix gk_var gk_int) (gk_op od_ix gk_var gk_int))) (ak_cons (gk_op od_mul (gk_op od_ix gk_var gk_int) (gk_op od_ix gk_var gk_int)) ak_nil)))) : SOk K _ b_w_minus)
theorem sc_w_seed : FnScope nm_w_seed pm_w_seed (defScope s_w_seed) := ⟨rfl, rfl, rfl, by decide +kernel, rfl, by decide +kernel, by decide +kernel⟩
theorem bi_w_seed (T : Txt K mg) : Binds K T.w_seed.fd pm_w_seed [] := T.w_seed.F.binds fun _ _ _ _ _ _ us hl => by obtain ⟨_, _, rfl⟩ := len2 hl; rfl
theorem ok_w_seed (T : Txt K mg) : FnOk P w K mg base CX0 1 T.w_seed.f T.w_seed.fd pm_w_seed (spF K r_w_seed) := by
  have nd := sc_w_seed.nd
  refine data_F T.w_seed.F sc_w_seed fun cdv A outer s H E hr => ?_
  refine ⟨_, (pss_cons (ps_set (i := 2) nd rfl (Or.inl rfl) (pe_op (kop_addB (K := K) rfl) (pe_op op_mulA pe_int (pv 1)) pe_int))
    (pss_cons (ps_if (pt_cmpR op_lt (pv 1) (pe_callB (kcr_len (K := K) rfl) (by rfl) T.len (by decide +kernel) (pa_cons (pv 0) pa_nil)) (nomark _)) (pss_one (ps_set (i := 2) nd rfl (Or.inl rfl) (pe_callB cr_abs (by rfl) T.abs (by decide +kernel) (pa_cons (pe_ix (kix (K := K) rfl) (pv 0) (pv 1) (fun _ _ => rfl)) pa_nil)))) (pss_one (ps_if (pt_cmpR op_gt (pe_callB (kcr_len (K := K) rfl) (by rfl) T.len (by decide +kernel) (pa_cons (pv 0) pa_nil)) pe_int (nomark _)) (pss_one (ps_set (i := 2) nd rfl (Or.inl rfl) (pe_op (kop_addB (K := K) rfl) (pv 2) (pe_op op_mulA (pe_op op_modA (pe_callTy cr_int (by rfl) T.int (by decide +kernel) (pa_cons (pe_callB cr_abs (by rfl) T.abs (by decide +kernel) (pa_cons (pe_ix (kix (K := K) rfl) (pv 0) (pe_op op_modA (pe_callTy cr_int (by rfl) T.int (by decide +kernel) (pa_cons (pv 1) pa_nil)) (pe_callB (kcr_len (K := K) rfl) (by rfl) T.len (by decide +kernel) (pa_cons (pv 0) pa_nil))) (fun _ _ => rfl)) pa_nil)) pa_nil)) pe_int) pe_int)))) pss_nil)))
    (pss_cons (ps_set (i := 3) nd rfl (Or.inl rfl) (pe_ifExp (pt_cmpR op_ge (pv 2) (pe_op op_powA pe_int pe_int) (nomark _)) (pv 2) pe_int))
    (pss_one (ps_ret (pe_lst (pa_cons (pv 3) (pa_cons (pe_op (kop_addB (K := K) rfl) (pe_op op_modA (pe_callTy cr_int (by rfl) T.int (by decide +kernel) (pa_cons (pe_op (kop_addB (K := K) rfl) (pe_op op_mulA (pe_op op_modA (pe_callTy cr_int (by rfl) T.int (by decide +kernel) (pa_cons (pv 2) pa_nil)) pe_int) pe_int) (pe_op op_mulA pe_int (pv 1))) pa_nil)) pe_int) pe_int) pa_nil)))))))), ?_⟩
  exact ((sk_seq (sk_set (gk_op od_addB (gk_op od_mul gk_int gk_var) gk_int))
    (sk_seq (sk_if (tk_test (gk_op od_lt gk_var (gk_cb cd_len (ak_cons gk_var ak_nil)))) (sk_set (gk_cb cd_abs (ak_cons (gk_op od_ix gk_var gk_var) ak_nil))) (sk_if (tk_test (gk_op od_gt (gk_cb cd_len (ak_cons gk_var ak_nil)) gk_int)) (sk_set (gk_op od_addB gk_var (gk_op od_mul (gk_op od_mod (gk_cb cd_int (ak_cons (gk_cb cd_abs (ak_cons (gk_op od_ix gk_var (gk_op od_mod (gk_cb cd_int (ak_cons gk_var ak_nil)) (gk_cb cd_len (ak_cons gk_var ak_nil)))) ak_nil)) ak_nil)) gk_int) gk_int))) sk_next))
    (sk_seq (sk_set (gk_if (tk_test (gk_op od_ge gk_var (gk_op od_pow gk_int gk_int))) gk_var gk_int))
    (sk_ret (gk_lst (ak_cons gk_var (ak_cons (gk_op od_addB (gk_op od_mod (gk_cb cd_int (ak_cons (gk_op od_addB (gk_op od_mul (gk_op od_mod (gk_cb cd_int (ak_cons gk_var ak_nil)) gk_int) gk_int) (gk_op od_mul gk_int gk_var)) ak_nil)) gk_int) gk_int) ak_nil))))))) : SOk K _ b_w_seed)
theorem sc_divisor : FnScope nm_divisor pm_divisor (defScope s_divisor) := ⟨rfl, rfl, rfl, by decide +kernel, rfl, by decide +kernel, by decide +kernel⟩
theorem bi_divisor (T : Txt K mg) : Binds K T.divisor.fd pm_divisor [] := T.divisor.F.binds fun _ _ _ _ _ _ us hl => by obtain ⟨_, _, rfl⟩ := len2 hl; rfl
theorem ok_divisor (T : Txt K mg) : FnOk P w K mg base CX0 1 T.divisor.f T.divisor.fd pm_divisor (spF K r_divisor) := by
  have nd := sc_divisor.nd
  refine data_F T.divisor.F sc_divisor fun cdv A outer s H E hr => ?_
  refine ⟨_, (pss_cons (ps_par (i := 0) (j := 1) rfl nd rfl rfl (by decide) rfl rfl (pa_cons (pe_callB cr_abs (by rfl) T.abs (by decide +kernel) (pa_cons (pv 0) pa_nil)) (pa_cons (pe_callB cr_abs (by rfl) T.abs (by decide +kernel) (pa_cons (pv 1) pa_nil)) pa_nil)) (by rfl))
    (pss_cons (ps_while PassesOwn.never (pt_cmpR (kop_ne (K := K) rfl hr.units) (pv 1) pe_int (nomark _)) (pss_one (ps_par (i := 0) (j := 1) rfl nd rfl rfl (by decide) rfl rfl (pa_cons (pv 1) (pa_cons (pe_op op_modA (pv 0) (pv 1)) pa_nil)) (by rfl))))
    (pss_one (ps_ret (pv 0))))), ?_⟩
  exact ((sk_seq (sk_ypar (yk_cons (gk_cb cd_abs (ak_cons gk_var ak_nil)) (yk_cons (gk_cb cd_abs (ak_cons gk_var ak_nil)) yk_nil)))
    (sk_seq (sk_while (fuelI 1) (tk_test (gk_op od_ne gk_var gk_int)) ((sk_ypar (yk_cons gk_var (yk_cons (gk_op od_mod gk_var gk_var) yk_nil))) : SOk K _ b_divisor_1))
    (sk_ret gk_mv))) : SOk K _ b_divisor)
theorem sc_lowest : FnScope nm_lowest pm_lowest (defScope s_lowest) := ⟨rfl, rfl, rfl, by decide +kernel, rfl, by decide +kernel, by decide +kernel⟩
theorem bi_lowest (T : Txt K mg) : Binds K T.lowest.fd pm_lowest [] := T.lowest.F.binds fun _ _ _ _ _ _ us hl => by obtain ⟨_, _, rfl⟩ := len2 hl; rfl
theorem ok_lowest (T : Txt K mg) : FnOk P w K mg base CX0 2 T.lowest.f T.lowest.fd pm_lowest (spF K r_lowest) := by
  have nd := sc_lowest.nd
  refine data_F T.lowest.F sc_lowest fun cdv A outer s H E hr => ?_
  refine ⟨_, (pss_cons (ps_set (i := 2) nd rfl (Or.inl rfl) (pe_call (ok_divisor T) (hr.mono (by decide)) rfl T.divisor.m T.divisor.F.kp (bi_divisor T) .nil pass0 (pa_cons (pv 0) (pa_cons (pv 1) pa_nil))))
    (pss_cons (ps_set (i := 2) nd rfl (Or.inl rfl) (pe_ifExp (pt_cmpR op_lt (pv 1) pe_int (nomark _)) (pe_un un_neg (pv 2)) (pv 2)))
    (pss_one (ps_ret (pe_tup (pa_cons (pe_op op_fdivA (pv 0) (pv 2)) (pa_cons (pe_op op_fdivA (pv 1) (pv 2)) pa_nil))))))), ?_⟩
  exact ((sk_seq (sk_set (gk_call (ak_cons gk_var (ak_cons gk_var ak_nil))))
    (sk_seq (sk_set (gk_if (tk_test (gk_op od_lt gk_var gk_int)) (gk_un ud_neg gk_var) gk_var))
    (sk_ret (gk_tup (ak_cons (gk_op od_fdiv gk_var gk_var) (ak_cons (gk_op od_fdiv gk_var gk_var) ak_nil)))))) : SOk K _ b_lowest)
theorem sc_less_by : FnScope nm_less_by pm_less_by (defScope s_less_by) := ⟨rfl, rfl, rfl, by decide +kernel, rfl, by decide +kernel, by decide +kernel⟩
theorem bi_less_by (T : Txt K mg) : Binds K T.less_by.fd pm_less_by [] := T.less_by.F.binds fun _ _ _ _ _ _ us hl => by obtain ⟨_, _, rfl⟩ := len2 hl; rfl
theorem ok_less_by (T : Txt K mg) : FnOk P w K mg base CX0 3 T.less_by.f T.less_by.fd pm_less_by (spF K r_less_by) := by
  have nd := sc_less_by.nd
  refine data_F T.less_by.F sc_less_by fun cdv A outer s H E hr => ?_
  refine ⟨_, (pss_one (ps_ret (pe_call (ok_lowest T) (hr.mono (by decide)) rfl T.lowest.m T.lowest.F.kp (bi_lowest T) .nil pass0 (pa_cons (pe_op op_subA (pe_op op_mulA (pe_ix (kix (K := K) rfl) (pv 0) pe_int (fun _ _ => rfl)) (pe_ix (kix (K := K) rfl) (pv 1) pe_int (fun _ _ => rfl))) (pe_op op_mulA (pe_ix (kix (K := K) rfl) (pv 1) pe_int (fun _ _ => rfl)) (pe_ix (kix (K := K) rfl) (pv 0) pe_int (fun _ _ => rfl)))) (pa_cons (pe_op op_mulA (pe_ix (kix (K := K) rfl) (pv 0) pe_int (fun _ _ => rfl)) (pe_ix (kix (K := K) rfl) (pv 1) pe_int (fun _ _ => rfl))) pa_nil))))), ?_⟩
  exact ((sk_ret (gk_call (ak_cons (gk_op od_sub (gk_op od_mul (gk_op od_ix gk_var gk_int) (gk_op od_ix gk_var gk_int)) (gk_op od_mul (gk_op od_ix gk_var gk_int) (gk_op od_ix gk_var gk_int))) (ak_cons (gk_op od_mul (gk_op od_ix gk_var gk_int) (gk_op od_ix gk_var gk_int)) ak_nil)))) : SOk K _ b_less_by)
theorem sc_differences : FnScope nm_differences pm_differences (defScope s_differences) := ⟨rfl, rfl, rfl, by decide +kernel, rfl, by decide +kernel, by decide +kernel⟩
theorem bi_differences (T : Txt K mg) : Binds K T.differences.fd pm_differences [] := T.differences.F.binds fun _ _ _ _ _ _ us hl => by obtain ⟨_, _, rfl⟩ := len2 hl; rfl
theorem ok_differences (T : Txt K mg) : FnOk P w K mg base CX0 4 T.differences.f T.differences.fd pm_differences (spF K r_differences) := by
  have nd := sc_differences.nd
  refine data_F T.differences.F sc_differences fun cdv A outer s H E hr => ?_
  refine ⟨_, (pss_cons (ps_for PassesOwn.never rfl (pi_range1 rfl T.range (pa_cons (pv 1) pa_nil)) (pg_name (i := 2) nd rfl (Or.inl rfl)) (pss_one (ps_setLc (i := 0) (own := [("here", 3), ("there", 4)]) rfl nd rfl rfl (sw_true rfl rfl rfl (by decide +kernel)) (kpi_zipA (K := K) rfl rfl T.zip (pa_cons (pv 0) (pa_cons (pe_slice (ksl_B (K := K) rfl) (pv 0) (po_some pe_int) po_none) pa_nil))) (blkOk_by (N := nm_differences) (sc := defScope s_differences) (by decide +kernel)) (fun _ _ _ _ _ => (kpg_tup (K := K) (n := 2) rfl rfl (pgs_cons (pg_name (i := 3) nd rfl (Or.inl rfl)) (pgs_cons (pg_name (i := 4) nd rfl (Or.inl rfl)) pgs_nil)))) (fun _ _ _ _ _ => pts_nil) (fun _ _ _ _ _ => (pe_call (ok_less_by T) (hr.mono (by decide)) rfl T.less_by.m T.less_by.F.kp (bi_less_by T) .nil pass0 (pa_cons (pv 4) (pa_cons (pv 3) pa_nil)))))))
    (pss_one (ps_ret (pv 0)))), ?_⟩
  exact ((sk_seq (sk_for (ik_range1 (ak_cons gk_var ak_nil)) gt_name ((sk_set (gk_lc (ik_zipA (ak_cons gk_var (ak_cons (gk_sl sd_B gk_var (pk_some gk_int) pk_none) ak_nil))) (gt_tup (gts_cons gt_name (gts_cons gt_name gts_nil))) tk_yes (gk_call (ak_cons gk_var (ak_cons gk_var ak_nil))) (by decide))) : SOk K _ b_differences_1))
    (sk_ret gk_mv)) : SOk K _ b_differences)
theorem sc_is_less : FnScope nm_is_less pm_is_less (defScope s_is_less) := ⟨rfl, rfl, rfl, by decide +kernel, rfl, by decide +kernel, by decide +kernel⟩
theorem bi_is_less (T : Txt K mg) : Binds K T.is_less.fd pm_is_less [] := T.is_less.F.binds fun _ _ _ _ _ _ us hl => by obtain ⟨_, _, rfl⟩ := len2 hl; rfl
theorem ok_is_less (T : Txt K mg) : FnOk P w K mg base CX0 1 T.is_less.f T.is_less.fd pm_is_less (spF K r_is_less) := by
  have nd := sc_is_less.nd
  refine data_F T.is_less.F sc_is_less fun cdv A outer s H E hr => ?_
  refine ⟨_, (pss_one (ps_ret (pe_cmpR op_lt (pe_op op_mulA (pe_ix (kix (K := K) rfl) (pv 0) pe_int (fun _ _ => rfl)) (pe_ix (kix (K := K) rfl) (pv 1) pe_int (fun _ _ => rfl))) (pe_op op_mulA (pe_ix (kix (K := K) rfl) (pv 1) pe_int (fun _ _ => rfl)) (pe_ix (kix (K := K) rfl) (pv 0) pe_int (fun _ _ => rfl))) (nomark _)))), ?_⟩
  exact ((sk_ret (gk_op od_lt (gk_op od_mul (gk_op od_ix gk_var gk_int) (gk_op od_ix gk_var gk_int)) (gk_op od_mul (gk_op od_ix gk_var gk_int) (gk_op od_ix gk_var gk_int)))) : SOk K _ b_is_less)
theorem sc_is_integer : FnScope nm_is_integer pm_is_integer (defScope s_is_integer) := ⟨rfl, rfl, rfl, by decide +kernel, rfl, by decide +kernel, by decide +kernel⟩
theorem bi_is_integer (T : Txt K mg) : Binds K T.is_integer.fd pm_is_integer [] := T.is_integer.F.binds fun _ _ _ _ _ _ us hl => by obtain ⟨_, rfl⟩ := len1 hl; rfl
theorem ok_is_integer (T : Txt K mg) : FnOk P w K mg base CX0 1 T.is_integer.f T.is_integer.fd pm_is_integer (spF K r_is_integer) := by
  have nd := sc_is_integer.nd
  refine data_F T.is_integer.F sc_is_integer fun cdv A outer s H E hr => ?_
  refine ⟨_, (pss_one (ps_ret (pe_and (pe_callB (kcr_isi (K := K) rfl) (by rfl) T.isinstance (by decide +kernel) (pa_cons (pv 0) (pa_cons (pe_bltn (v := .ty "int") (u := .type "int") (by rfl) T.int (by decide +kernel) rfl) pa_nil))) (pe_one (pe_not (pe_callB (kcr_isi (K := K) rfl) (by rfl) T.isinstance (by decide +kernel) (pa_cons (pv 0) (pa_cons (pe_bltn (v := .ty "bool") (u := .type "bool") (by rfl) T.bool (by decide +kernel) rfl) pa_nil)))))))), ?_⟩
  exact ((sk_ret (gk_vand (gk_cb cd_isi (ak_cons gk_var (ak_cons (gk_c fun _ => .ty _) ak_nil))) (gk_vnot (gk_cb cd_isi (ak_cons gk_var (ak_cons (gk_c fun _ => .ty _) ak_nil)))))) : SOk K _ b_is_integer)
theorem sc_value_of : FnScope nm_value_of pm_value_of (defScope s_value_of) := ⟨rfl, rfl, rfl, by decide +kernel, rfl, by decide +kernel, by decide +kernel⟩
theorem bi_value_of (T : Txt K mg) : Binds K T.value_of.fd pm_value_of [] := T.value_of.F.binds fun _ _ _ _ _ _ us hl => by obtain ⟨_, rfl⟩ := len1 hl; rfl
theorem ok_value_of (T : Txt K mg) : FnOk P w K mg base CX0 2 T.value_of.f T.value_of.fd pm_value_of (spF K r_value_of) := by
  have nd := sc_value_of.nd
  refine data_F T.value_of.F sc_value_of fun cdv A outer s H E hr => ?_
  refine ⟨_, (pss_one (ps_ret (pe_ifExp (kpt_tru (K := K) rfl (pe_call (ok_is_integer T) (hr.mono (by decide)) rfl T.is_integer.m T.is_integer.F.kp (bi_is_integer T) .nil pass0 (pa_cons (pv 0) pa_nil)) (by intro _; rfl)) (pe_tup (pa_cons (pv 0) (pa_cons pe_int pa_nil))) (pv 0)))), ?_⟩
  exact ((sk_ret (gk_if (tk_truK (gk_call (ak_cons gk_var ak_nil))) (gk_tup (ak_cons gk_var (ak_cons gk_int ak_nil))) gk_var)) : SOk K _ b_value_of)
theorem sc_values_of : FnScope nm_values_of pm_values_of (defScope s_values_of) := ⟨rfl, rfl, rfl, by decide +kernel, rfl, by decide +kernel, by decide +kernel⟩
theorem bi_values_of (T : Txt K mg) : Binds K T.values_of.fd pm_values_of [] := T.values_of.F.binds fun _ _ _ _ _ _ us hl => by obtain ⟨_, rfl⟩ := len1 hl; rfl
theorem ok_values_of (T : Txt K mg) : FnOk P w K mg base CX0 3 T.values_of.f T.values_of.fd pm_values_of (spF K r_values_of) := by
  have nd := sc_values_of.nd
  refine data_F T.values_of.F sc_values_of fun cdv A outer s H E hr => ?_
  refine ⟨_, (pss_one (ps_ret (pe_lc (own := [("one", 1)]) rfl nd (kpi_seq (K := K) rfl (pv 0)) (blkOk_by (N := nm_values_of) (sc := defScope s_values_of) (by decide +kernel)) (fun _ _ _ _ _ => (pg_name (i := 1) nd rfl (Or.inl rfl))) (fun _ _ _ _ _ => pts_nil) (fun _ _ _ _ _ => (pe_call (ok_value_of T) (hr.mono (by decide)) rfl T.value_of.m T.value_of.F.kp (bi_value_of T) .nil pass0 (pa_cons (pv 1) pa_nil)))))), ?_⟩
  exact ((sk_ret (gk_lc (ik_seq gk_var) gt_name tk_yes (gk_call (ak_cons gk_var ak_nil)) (by decide))) : SOk K _ b_values_of)
theorem sc_is_kind : FnScope nm_is_kind pm_is_kind (defScope s_is_kind) := ⟨rfl, rfl, rfl, by decide +kernel, rfl, by decide +kernel, by decide +kernel⟩
theorem bi_is_kind (T : Txt K mg) : Binds K T.is_kind.fd pm_is_kind [] := T.is_kind.F.binds fun _ _ _ _ _ _ us hl => by obtain ⟨_, _, rfl⟩ := len2 hl; rfl
theorem ok_is_kind (T : Txt K mg) : FnOk P w K mg base CX0 5 T.is_kind.f T.is_kind.fd pm_is_kind (spF K r_is_kind) := by
  have nd := sc_is_kind.nd
  refine data_F T.is_kind.F sc_is_kind fun cdv A outer s H E hr => ?_
  refine ⟨_, (pss_one (ps_ret (pe_not (pe_callB (kcr_any (K := K) rfl rfl) (by rfl) T.any (by decide +kernel) (pa_cons (pe_lc (own := [("one", 2)]) rfl nd (kpi_seq (K := K) rfl (pe_call (ok_differences T) (hr.mono (by decide)) rfl T.differences.m T.differences.F.kp (bi_differences T) .nil pass0 (pa_cons (pe_call (ok_values_of T) (hr.mono (by decide)) rfl T.values_of.m T.values_of.F.kp (bi_values_of T) .nil pass0 (pa_cons (pv 0) pa_nil)) (pa_cons (pv 1) pa_nil)))) (blkOk_by (N := nm_is_kind) (sc := defScope s_is_kind) (by decide +kernel)) (fun _ _ _ _ _ => (pg_name (i := 2) nd rfl (Or.inl rfl))) (fun _ _ _ _ _ => pts_nil) (fun _ _ _ _ _ => (pe_call (ok_is_less T) (hr.mono (by decide)) rfl T.is_less.m T.is_less.F.kp (bi_is_less T) .nil pass0 (pa_cons (pv 2) (pa_cons (pe_glob rfl T.NOUGHT.m T.NOUGHT.r) pa_nil))))) pa_nil))))), ?_⟩
  exact ((sk_ret (gk_vnot (gk_cb cd_any (ak_cons (gk_lc (ik_seq (gk_call (ak_cons (gk_call (ak_cons gk_var ak_nil)) (ak_cons gk_var ak_nil)))) gt_name tk_yes (gk_call (ak_cons gk_var (ak_cons (gk_c T.NOUGHT.d) ak_nil))) (by decide)) ak_nil)))) : SOk K _ b_is_kind)
theorem sc_multiplied : FnScope nm_multiplied pm_multiplied (defScope s_multiplied) := ⟨rfl, rfl, rfl, by decide +kernel, rfl, by decide +kernel, by decide +kernel⟩
theorem bi_multiplied (T : Txt K mg) : Binds K T.multiplied.fd pm_multiplied [] := T.multiplied.F.binds fun _ _ _ _ _ _ us hl => by obtain ⟨_, _, rfl⟩ := len2 hl; rfl
theorem ok_multiplied (T : Txt K mg) : FnOk P w K mg base CX0 3 T.multiplied.f T.multiplied.fd pm_multiplied (spF K r_multiplied) := by
  have nd := sc_multiplied.nd
  refine data_F T.multiplied.F sc_multiplied fun cdv A outer s H E hr => ?_
  refine ⟨_, (pss_one (ps_ret (pe_call (ok_lowest T) (hr.mono (by decide)) rfl T.lowest.m T.lowest.F.kp (bi_lowest T) .nil pass0 (pa_cons (pe_op op_mulA (pe_ix (kix (K := K) rfl) (pv 0) pe_int (fun _ _ => rfl)) (pe_ix (kix (K := K) rfl) (pv 1) pe_int (fun _ _ => rfl))) (pa_cons (pe_op op_mulA (pe_ix (kix (K := K) rfl) (pv 0) pe_int (fun _ _ => rfl)) (pe_ix (kix (K := K) rfl) (pv 1) pe_int (fun _ _ => rfl))) pa_nil))))), ?_⟩
  exact ((sk_ret (gk_call (ak_cons (gk_op od_mul (gk_op od_ix gk_var gk_int) (gk_op od_ix gk_var gk_int)) (ak_cons (gk_op od_mul (gk_op od_ix gk_var gk_int) (gk_op od_ix gk_var gk_int)) ak_nil)))) : SOk K _ b_multiplied)
theorem sc_is_pair : FnScope nm_is_pair pm_is_pair (defScope s_is_pair) := ⟨rfl, rfl, rfl, by decide +kernel, rfl, by decide +kernel, by decide +kernel⟩
theorem bi_is_pair (T : Txt K mg) : Binds K T.is_pair.fd pm_is_pair [] := T.is_pair.F.binds fun _ _ _ _ _ _ us hl => by obtain ⟨_, rfl⟩ := len1 hl; rfl
theorem ok_is_pair (T : Txt K mg) : FnOk P w K mg base CX0 2 T.is_pair.f T.is_pair.fd pm_is_pair (spF K r_is_pair) := by
  have nd := sc_is_pair.nd
  refine data_F T.is_pair.F sc_is_pair fun cdv A outer s H E hr => ?_
  refine ⟨_, (pss_cons (ps_if (PW.pt (pw_or (pt_not (kpt_tru (K := K) rfl (pe_callB (kcr_isi (K := K) rfl) (by rfl) T.isinstance (by decide +kernel) (pa_cons (pv 0) (pa_cons (pe_bltn (v := .ty "tuple") (u := .type "tuple") (by rfl) T.tuple (by decide +kernel) rfl) pa_nil))) (by intro _; rfl))) (pw_or (pt_cmpR (kop_ne (K := K) rfl hr.units) (pe_callB (kcr_len (K := K) rfl) (by rfl) T.len (by decide +kernel) (pa_cons (pv 0) pa_nil)) pe_int (nomark _)) (pw_or1 (pt_not (kpt_tru (K := K) rfl (pe_callB (kcr_all (K := K) rfl rfl) (by rfl) T.all (by decide +kernel) (pa_cons (pe_lc (own := [("one", 1)]) rfl nd (kpi_seq (K := K) rfl (pv 0)) (blkOk_by (N := nm_is_pair) (sc := defScope s_is_pair) (by decide +kernel)) (fun _ _ _ _ _ => (pg_name (i := 1) nd rfl (Or.inl rfl))) (fun _ _ _ _ _ => pts_nil) (fun _ _ _ _ _ => (pe_call (ok_is_integer T) (hr.mono (by decide)) rfl T.is_integer.m T.is_integer.F.kp (bi_is_integer T) .nil pass0 (pa_cons (pv 1) pa_nil)))) pa_nil)) (by intro _; rfl))))))) (pss_one (ps_ret pe_bl)) pss_nil)
    (pss_one (ps_ret (pe_and (pe_cmpR op_gt (pe_ix (kix (K := K) rfl) (pv 0) pe_int (fun _ _ => rfl)) pe_int (nomark _)) (pe_one (pe_cmpR (kop_eq (K := K) rfl hr.units) (pe_call (ok_divisor T) (hr.mono (by decide)) rfl T.divisor.m T.divisor.F.kp (bi_divisor T) .nil pass0 (pa_cons (pe_ix (kix (K := K) rfl) (pv 0) pe_int (fun _ _ => rfl)) (pa_cons (pe_ix (kix (K := K) rfl) (pv 0) pe_int (fun _ _ => rfl)) pa_nil))) pe_int (nomark _))))))), ?_⟩
  exact ((sk_seq (sk_if (tk_or (tk_not (tk_truK (gk_cb cd_isi (ak_cons gk_var (ak_cons (gk_c fun _ => .ty _) ak_nil))))) (tk_or (tk_test (gk_op od_ne (gk_cb cd_len (ak_cons gk_var ak_nil)) gk_int)) (tk_not (tk_truK (gk_cb cd_all (ak_cons (gk_lc (ik_seq gk_var) gt_name tk_yes (gk_call (ak_cons gk_var ak_nil)) (by decide)) ak_nil)))))) (sk_ret gk_bl) sk_next)
    (sk_ret (gk_vand (gk_op od_gt (gk_op od_ix gk_var gk_int) gk_int) (gk_op od_eq (gk_call (ak_cons (gk_op od_ix gk_var gk_int) (ak_cons (gk_op od_ix gk_var gk_int) ak_nil))) gk_int)))) : SOk K _ b_is_pair)
theorem sc_is_value : FnScope nm_is_value pm_is_value (defScope s_is_value) := ⟨rfl, rfl, rfl, by decide +kernel, rfl, by decide +kernel, by decide +kernel⟩
theorem bi_is_value (T : Txt K mg) : Binds K T.is_value.fd pm_is_value [] := T.is_value.F.binds fun _ _ _ _ _ _ us hl => by obtain ⟨_, rfl⟩ := len1 hl; rfl
theorem ok_is_value (T : Txt K mg) : FnOk P w K mg base CX0 3 T.is_value.f T.is_value.fd pm_is_value (spF K r_is_value) := by
  have nd := sc_is_value.nd
  refine data_F T.is_value.F sc_is_value fun cdv A outer s H E hr => ?_
  refine ⟨_, (pss_one (ps_ret (pe_or (pe_call (ok_is_integer T) (hr.mono (by decide)) rfl T.is_integer.m T.is_integer.F.kp (bi_is_integer T) .nil pass0 (pa_cons (pv 0) pa_nil)) (pe_one (pe_call (ok_is_pair T) (hr.mono (by decide)) rfl T.is_pair.m T.is_pair.F.kp (bi_is_pair T) .nil pass0 (pa_cons (pv 0) pa_nil)))))), ?_⟩
  exact ((sk_ret (gk_vor (gk_call (ak_cons gk_var ak_nil)) (gk_call (ak_cons gk_var ak_nil)))) : SOk K _ b_is_value)
theorem sc_is_seen : FnScope nm_is_seen pm_is_seen (defScope s_is_seen) := ⟨rfl, rfl, rfl, by decide +kernel, rfl, by decide +kernel, by decide +kernel⟩
theorem bi_is_seen (T : Txt K mg) : Binds K T.is_seen.fd pm_is_seen [] := T.is_seen.F.binds fun _ _ _ _ _ _ us hl => by obtain ⟨_, _, _, rfl⟩ := len3 hl; rfl
theorem ok_is_seen (T : Txt K mg) : FnOk P w K mg base CX0 4 T.is_seen.f T.is_seen.fd pm_is_seen (spF K r_is_seen) := by
  have nd := sc_is_seen.nd
  refine data_F T.is_seen.F sc_is_seen fun cdv A outer s H E hr => ?_
  refine ⟨_, (pss_cons (ps_if (PW.pt (pw_or (pt_not (kpt_tru (K := K) rfl (pe_callB (kcr_isi (K := K) rfl) (by rfl) T.isinstance (by decide +kernel) (pa_cons (pv 0) (pa_cons (pe_bltn (v := .ty "tuple") (u := .type "tuple") (by rfl) T.tuple (by decide +kernel) rfl) pa_nil))) (by intro _; rfl))) (pw_or (pt_cmpR (kop_ne (K := K) rfl hr.units) (pe_callB (kcr_len (K := K) rfl) (by rfl) T.len (by decide +kernel) (pa_cons (pv 0) pa_nil)) pe_int (nomark _)) (pw_or1 (pt_not (kpt_tru (K := K) rfl (pe_call (ok_is_integer T) (hr.mono (by decide)) rfl T.is_integer.m T.is_integer.F.kp (bi_is_integer T) .nil pass0 (pa_cons (pe_ix (kix (K := K) rfl) (pv 0) pe_int (fun _ _ => rfl)) pa_nil)) (by intro _; rfl))))))) (pss_one (ps_ret pe_bl)) pss_nil)
    (pss_one (ps_ret (pe_and (pe_chain op_le op_lt (pv 2) (pe_ix (kix (K := K) rfl) (pv 0) pe_int (fun _ _ => rfl)) (pv 1)) (pe_one (pe_call (ok_is_value T) (hr.mono (by decide)) rfl T.is_value.m T.is_value.F.kp (bi_is_value T) .nil pass0 (pa_cons (pe_ix (kix (K := K) rfl) (pv 0) pe_int (fun _ _ => rfl)) pa_nil))))))), ?_⟩
  exact ((sk_seq (sk_if (tk_or (tk_not (tk_truK (gk_cb cd_isi (ak_cons gk_var (ak_cons (gk_c fun _ => .ty _) ak_nil))))) (tk_or (tk_test (gk_op od_ne (gk_cb cd_len (ak_cons gk_var ak_nil)) gk_int)) (tk_not (tk_truK (gk_call (ak_cons (gk_op od_ix gk_var gk_int) ak_nil)))))) (sk_ret gk_bl) sk_next)
    (sk_ret (gk_vand (gk_chain od_le od_lt gk_var (gk_op od_ix gk_var gk_int) gk_var) (gk_call (ak_cons (gk_op od_ix gk_var gk_int) ak_nil))))) : SOk K _ b_is_seen)
theorem sc_is_sequence : FnScope nm_is_sequence pm_is_sequence (defScope s_is_sequence) := ⟨rfl, rfl, rfl, by decide +kernel, rfl, by decide +kernel, by decide +kernel⟩
theorem bi_is_sequence (T : Txt K mg) : Binds K T.is_sequence.fd pm_is_sequence [] := T.is_sequence.F.binds fun _ _ _ _ _ _ us hl => by obtain ⟨_, rfl⟩ := len1 hl; rfl
theorem ok_is_sequence (T : Txt K mg) : FnOk P w K mg base CX0 1 T.is_sequence.f T.is_sequence.fd pm_is_sequence (spF K r_is_sequence) := by
  have nd := sc_is_sequence.nd
  refine data_F T.is_sequence.F sc_is_sequence fun cdv A outer s H E hr => ?_
  refine ⟨_, (pss_one (ps_ret (pe_callB (kcr_isiS (K := K) rfl) (by rfl) T.isinstance (by decide +kernel) (pa_cons (pv 0) (pa_cons (pe_tup (pa_cons (pe_bltn (v := .ty "list") (u := .type "list") (by rfl) T.list (by decide +kernel) rfl) (pa_cons (pe_bltn (v := .ty "tuple") (u := .type "tuple") (by rfl) T.tuple (by decide +kernel) rfl) pa_nil))) pa_nil))))), ?_⟩
  exact ((sk_ret (gk_cb cd_isiS (ak_cons gk_var (ak_cons (gk_tup (ak_cons (gk_c fun _ => .ty _) (ak_cons (gk_c fun _ => .ty _) ak_nil))) ak_nil)))) : SOk K _ b_is_sequence)
theorem sc_need_seen : FnScope nm_need_seen pm_need_seen (defScope s_need_seen) := ⟨rfl, rfl, rfl, by decide +kernel, rfl, by decide +kernel, by decide +kernel⟩
theorem bi_need_seen (T : Txt K mg) : Binds K T.need_seen.fd pm_need_seen [] := T.need_seen.F.binds fun _ _ _ _ _ _ us hl => by obtain ⟨_, _, rfl⟩ := len2 hl; rfl
theorem ok_need_seen (T : Txt K mg) : FnOk P w K mg base CX0 5 T.need_seen.f T.need_seen.fd pm_need_seen (spF K r_need_seen) := by
  have nd := sc_need_seen.nd
  refine data_F T.need_seen.F sc_need_seen fun cdv A outer s H E hr => ?_
  refine ⟨_, (pss_cons (ps_if (pt_not (kpt_tru (K := K) rfl (pe_call (ok_is_sequence T) (hr.mono (by decide)) rfl T.is_sequence.m T.is_sequence.F.kp (bi_is_sequence T) .nil pass0 (pa_cons (pv 0) pa_nil)) (by intro _; rfl))) (pss_one ps_never) pss_nil)
    (pss_cons (ps_par (i := 2) (j := 3) rfl nd rfl rfl (by decide) rfl rfl (pa_cons (pe_lst pa_nil) (pa_cons pe_int pa_nil)) (by rfl))
    (pss_cons (ps_for PassesOwn.never rfl (kpi_enumA (K := K) rfl rfl T.enumerate (pa_cons (pv 0) pa_nil)) (kpg_tup (K := K) (n := 2) rfl rfl (pgs_cons (pg_name (i := 4) nd rfl (Or.inl rfl)) (pgs_cons (pg_name (i := 5) nd rfl (Or.inl rfl)) pgs_nil))) (pss_cons (ps_if (pt_not (kpt_tru (K := K) rfl (pe_call (ok_is_seen T) (hr.mono (by decide)) rfl T.is_seen.m T.is_seen.F.kp (bi_is_seen T) .nil pass0 (pa_cons (pv 5) (pa_cons (pv 1) (pa_cons (pv 3) pa_nil)))) (by intro _; rfl))) (pss_one ps_never) pss_nil)
    (pss_cons (ps_expr (kpe_app (K := K) rfl (pv 2) (pe_tup (pa_cons (pe_ix (kix (K := K) rfl) (pv 5) pe_int (fun _ _ => rfl)) (pa_cons (pe_call (ok_value_of T) (hr.mono (by decide)) rfl T.value_of.m T.value_of.F.kp (bi_value_of T) .nil pass0 (pa_cons (pe_ix (kix (K := K) rfl) (pv 5) pe_int (fun _ _ => rfl)) pa_nil)) pa_nil)))))
    (pss_one (ps_set (i := 3) nd rfl (Or.inl rfl) (pe_op (kop_addB (K := K) rfl) (pe_ix (kix (K := K) rfl) (pv 5) pe_int (fun _ _ => rfl)) pe_int))))))
    (pss_one (ps_ret (pv 2)))))), ?_⟩
  exact ((sk_seq (sk_if (tk_not (tk_truK (gk_call (ak_cons gk_var ak_nil)))) sk_never sk_next)
    (sk_seq (sk_ypar (yk_cons (gk_lst ak_nil) (yk_cons gk_int yk_nil)))
    (sk_seq (sk_for (ik_enumA (ak_cons gk_var ak_nil)) (gt_tup (gts_cons gt_name (gts_cons gt_name gts_nil))) ((sk_seq (sk_if (tk_not (tk_truK (gk_call (ak_cons gk_var (ak_cons gk_var (ak_cons gk_var ak_nil)))))) sk_never sk_next)
    (sk_seq (sk_app (gk_tup (ak_cons (gk_op od_ix gk_var gk_int) (ak_cons (gk_call (ak_cons (gk_op od_ix gk_var gk_int) ak_nil)) ak_nil))))
    (sk_set (gk_op od_addB (gk_op od_ix gk_var gk_int) gk_int)))) : SOk K _ b_need_seen_1))
    (sk_ret gk_mv)))) : SOk K _ b_need_seen)
theorem sc_Table_init : FnScope nm_Table_init pm_Table_init (defScope s_Table_init) := ⟨rfl, rfl, rfl, by decide +kernel, rfl, by decide +kernel, by decide +kernel⟩
theorem bi_Table_init (T : Txt K mg) : Binds K T.Table_init.fd pm_Table_init [] := T.Table_init.F.binds fun _ _ _ _ _ _ us hl => by obtain ⟨_, _, _, rfl⟩ := len3 hl; rfl
theorem ok_Table_init (T : Txt K mg) : FnOk P w K mg base CX0 4 T.Table_init.f T.Table_init.fd pm_Table_init (spN K T.Table.C r_Table_init) := by
  have nd := sc_Table_init.nd
  refine data_N (T := T.Table) T.Table_init.F sc_Table_init fun cdv A outer s H E hr => ?_
  refine ⟨_, (pss_cons (kps_fld (K := K) rfl (pv 0) (pe_callB (kcr_len (K := K) rfl) (by rfl) T.len (by decide +kernel) (pa_cons (pv 1) pa_nil)) rfl)
    (pss_cons (kps_fld (K := K) rfl (pv 0) (pe_callB (kcr_len (K := K) rfl) (by rfl) T.len (by decide +kernel) (pa_cons (pv 2) pa_nil)) rfl)
    (pss_cons (kps_fld (K := K) rfl (pv 0) (pe_lc (own := [("one", 4)]) rfl nd (kpi_seq (K := K) rfl (pv 2)) (blkOk_by (N := nm_Table_init) (sc := defScope s_Table_init) (by decide +kernel)) (fun _ _ _ _ _ => (pg_name (i := 4) nd rfl (Or.inl rfl))) (fun _ _ _ _ _ => pts_nil) (fun _ _ _ _ _ => (pe_ifExp (kpt_tru (K := K) rfl (pe_call (ok_is_less T) (hr.mono (by decide)) rfl T.is_less.m T.is_less.F.kp (bi_is_less T) .nil pass0 (pa_cons (pv 4) (pa_cons (pe_glob rfl T.NOUGHT.m T.NOUGHT.r) pa_nil))) (by intro _; rfl)) (pe_glob rfl T.MINUS.m T.MINUS.r) (pe_glob rfl T.ONE.m T.ONE.r)))) rfl)
    (pss_cons (kps_fld (K := K) rfl (pv 0) (pe_lst pa_nil) rfl)
    (pss_cons (ps_for PassesOwn.never rfl (kpi_enumA (K := K) rfl rfl T.enumerate (pa_cons (pv 2) pa_nil)) (kpg_tup (K := K) (n := 2) rfl rfl (pgs_cons (pg_name (i := 3) nd rfl (Or.inr rfl)) (pgs_cons (pg_name (i := 4) nd rfl (Or.inl rfl)) pgs_nil))) (pss_cons (ps_setLc (i := 5) (own := [("column", 6)]) rfl nd rfl rfl (sw_true rfl rfl rfl (by decide +kernel)) (kpi_seq (K := K) rfl (pv 1)) (blkOk_by (N := nm_Table_init) (sc := defScope s_Table_init) (by decide +kernel)) (fun _ _ _ _ _ => (pg_name (i := 6) nd rfl (Or.inl rfl))) (fun _ _ _ _ _ => pts_nil) (fun _ _ _ _ _ => (pe_call (ok_multiplied T) (hr.mono (by decide)) rfl T.multiplied.m T.multiplied.F.kp (bi_multiplied T) .nil pass0 (pa_cons (pe_ix (kix (K := K) rfl) (kpe_fld (K := K) rfl (pv 0) rfl) (pv 3) (fun _ _ => rfl)) (pa_cons (pe_ix (kix (K := K) rfl) (pv 6) (pv 3) (fun _ _ => rfl)) pa_nil)))))
    (pss_cons (ps_expr (kpe_bm (K := K) (r := rExtend) rfl PySem.F.plainAttrs_list PySem.F.slot_list_extend PySem.F.type_list_extend mt_extend (pv 5) (pa_cons (pe_lc (own := [("spot", 7)]) rfl nd (pi_range1 rfl T.range (pa_cons (kpe_fld (K := K) rfl (pv 0) rfl) pa_nil)) (blkOk_by (N := nm_Table_init) (sc := defScope s_Table_init) (by decide +kernel)) (fun _ _ _ _ _ => (pg_name (i := 7) nd rfl (Or.inl rfl))) (fun _ _ _ _ _ => pts_nil) (fun _ _ _ _ _ => (pe_ifExp (pt_cmpR (kop_eq (K := K) rfl hr.units) (pv 7) (pv 3) (nomark _)) (pe_glob rfl T.ONE.m T.ONE.r) (pe_glob rfl T.NOUGHT.m T.NOUGHT.r)))) pa_nil)))
    (pss_one (ps_expr (kpe_app (K := K) rfl (kpe_fld (K := K) rfl (pv 0) rfl) (pe_lst (kpa_star (K := K) rfl (pv 5) (pa_cons (pe_call (ok_multiplied T) (hr.mono (by decide)) rfl T.multiplied.m T.multiplied.F.kp (bi_multiplied T) .nil pass0 (pa_cons (pe_ix (kix (K := K) rfl) (kpe_fld (K := K) rfl (pv 0) rfl) (pv 3) (fun _ _ => rfl)) (pa_cons (pv 4) pa_nil))) pa_nil)))))))))
    (pss_one (kps_fld (K := K) rfl (pv 0) (pe_lc (own := [("at", 3)]) rfl nd (pi_range1 rfl T.range (pa_cons (kpe_fld (K := K) rfl (pv 0) rfl) pa_nil)) (blkOk_by (N := nm_Table_init) (sc := defScope s_Table_init) (by decide +kernel)) (fun _ _ _ _ _ => (pg_name (i := 3) nd rfl (Or.inl rfl))) (fun _ _ _ _ _ => pts_nil) (fun _ _ _ _ _ => (pe_op (kop_addB (K := K) rfl) (kpe_fld (K := K) rfl (pv 0) rfl) (pv 3)))) rfl))))))), ?_⟩
  exact ((nk_seq (sk_setf T.Table rfl (gk_cb cd_len (ak_cons gk_var ak_nil)))
    (nk_seq (sk_setf T.Table rfl (gk_cb cd_len (ak_cons gk_var ak_nil)))
    (nk_seq (sk_setf T.Table rfl (gk_lc (ik_seq gk_var) gt_name tk_yes (gk_if (tk_truK (gk_call (ak_cons gk_var (ak_cons (gk_c T.NOUGHT.d) ak_nil)))) (gk_c T.MINUS.d) (gk_c T.ONE.d)) (by decide)))
    (nk_new (T := T.Table) (n := 3) rfl (by decide +kernel) rfl (gk_lst ak_nil)
    (sk_seqV (sk_forV (IOk.v (ik_enumA (ak_cons gk_var ak_nil))) (gt_tup (gts_cons gt_name (gts_cons gt_name gts_nil))) ((sk_seqV (sk_setV (j := 5) (gk_lend9 (T := T.Table) (gk_lc (ik_seq gk_var) gt_name tk_yes (gk_call (ak_cons (gk_op od_ix (gk_fld T.Table rfl gk_var) gk_var) (ak_cons (gk_op od_ix gk_var gk_var) ak_nil))) (by decide))))
    (sk_seqV (sk_dropV (gk_lend9 (T := T.Table) (gk_mut md_ext (ak_cons (gk_lc (ik_range1 (ak_cons (gk_fld T.Table rfl gk_var) ak_nil)) gt_name tk_yes (gk_if (tk_test (gk_op od_eq gk_var gk_var)) (gk_c T.ONE.d) (gk_c T.NOUGHT.d)) (by decide)) ak_nil))))
    (sk_bappV (T := T.Table) (n := 3) rfl (gk_lend9 (T := T.Table) (gk_lst (ak_star gk_var (ak_cons (gk_call (ak_cons (gk_op od_ix (gk_fld T.Table rfl gk_var) gk_var) (ak_cons gk_var ak_nil))) ak_nil))))))) : SOkV K T.Table.C 0 _ b_Table_init_1))
    (sk_newV (T := T.Table) (n := 3) rfl (by decide +kernel) rfl (gk_lend9 (T := T.Table) (gk_lc (ik_range1 (ak_cons (gk_fld T.Table rfl gk_var) ak_nil)) gt_name tk_yes (gk_op od_addB (gk_fld T.Table rfl gk_var) gk_var) (by decide))))))))) : NOk K T.Table.C _ b_Table_init)
theorem sc_quotient : FnScope nm_quotient pm_quotient (defScope s_quotient) := ⟨rfl, rfl, rfl, by decide +kernel, rfl, by decide +kernel, by decide +kernel⟩
theorem bi_quotient (T : Txt K mg) : Binds K T.quotient.fd pm_quotient [] := T.quotient.F.binds fun _ _ _ _ _ _ us hl => by obtain ⟨_, _, rfl⟩ := len2 hl; rfl
theorem ok_quotient (T : Txt K mg) : FnOk P w K mg base CX0 3 T.quotient.f T.quotient.fd pm_quotient (spF K r_quotient) := by
  have nd := sc_quotient.nd
  refine data_F T.quotient.F sc_quotient fun cdv A outer s H E hr => ?_
  refine ⟨_, (pss_one (ps_ret (pe_call (ok_lowest T) (hr.mono (by decide)) rfl T.lowest.m T.lowest.F.kp (bi_lowest T) .nil pass0 (pa_cons (pe_op op_mulA (pe_ix (kix (K := K) rfl) (pv 0) pe_int (fun _ _ => rfl)) (pe_ix (kix (K := K) rfl) (pv 1) pe_int (fun _ _ => rfl))) (pa_cons (pe_op op_mulA (pe_ix (kix (K := K) rfl) (pv 0) pe_int (fun _ _ => rfl)) (pe_ix (kix (K := K) rfl) (pv 1) pe_int (fun _ _ => rfl))) pa_nil))))), ?_⟩
  exact ((sk_ret (gk_call (ak_cons (gk_op od_mul (gk_op od_ix gk_var gk_int) (gk_op od_ix gk_var gk_int)) (ak_cons (gk_op od_mul (gk_op od_ix gk_var gk_int) (gk_op od_ix gk_var gk_int)) ak_nil)))) : SOk K _ b_quotient)
theorem sc_Table_turn : FnScope nm_Table_turn pm_Table_turn (defScope s_Table_turn) := ⟨rfl, rfl, rfl, by decide +kernel, rfl, by decide +kernel, by decide +kernel⟩
theorem bi_Table_turn (T : Txt K mg) : Binds K T.Table_turn.fd pm_Table_turn [] := T.Table_turn.F.binds fun _ _ _ _ _ _ us hl => by obtain ⟨_, _, _, rfl⟩ := len3 hl; rfl
theorem ok_Table_turn (T : Txt K mg) : FnOk P w K mg base CX0 4 T.Table_turn.f T.Table_turn.fd pm_Table_turn (spV K T.Table.C r_Table_turn) := by
  have nd := sc_Table_turn.nd
  refine data_V T.Table_turn.F sc_Table_turn fun cdv A outer s H E hr => ?_
  refine ⟨_, (pss_cons (ps_set (i := 3) nd rfl (Or.inr rfl) (pe_ix (kix (K := K) rfl) (pe_ix (kix (K := K) rfl) (kpe_fld (K := K) rfl (pv 0) rfl) (pv 1) (fun _ _ => rfl)) (pv 2) (fun _ _ => rfl)))
    (pss_cons (ps_par (i := 4) (j := 5) rfl nd rfl rfl (by decide) rfl rfl (pa_cons (pe_lc (own := [("one", 9)]) rfl nd (kpi_seq (K := K) rfl (pe_ix (kix (K := K) rfl) (kpe_fld (K := K) rfl (pv 0) rfl) (pv 1) (fun _ _ => rfl))) (blkOk_by (N := nm_Table_turn) (sc := defScope s_Table_turn) (by decide +kernel)) (fun _ _ _ _ _ => (pg_name (i := 9) nd rfl (Or.inl rfl))) (fun _ _ _ _ _ => pts_nil) (fun _ _ _ _ _ => (pe_call (ok_quotient T) (hr.mono (by decide)) rfl T.quotient.m T.quotient.F.kp (bi_quotient T) .nil pass0 (pa_cons (pv 9) (pa_cons (pv 3) pa_nil))))) (pa_cons (pe_lst pa_nil) pa_nil)) (by rfl))
    (pss_cons (ps_for PassesOwn.never rfl (kpi_enumA (K := K) rfl rfl T.enumerate (pa_cons (kpe_fld (K := K) rfl (pv 0) rfl) pa_nil)) (kpg_tup (K := K) (n := 2) rfl rfl (pgs_cons (pg_name (i := 6) nd rfl (Or.inl rfl)) (pgs_cons (pg_name (i := 7) nd rfl (Or.inl rfl)) pgs_nil))) (pss_cons (ps_set (i := 8) nd rfl (Or.inr rfl) (pe_ix (kix (K := K) rfl) (pv 7) (pv 2) (fun _ _ => rfl)))
    (pss_one (ps_if (pt_cmpR (kop_eq (K := K) rfl hr.units) (pv 6) (pv 1) (nomark _)) (pss_one (ps_expr (kpe_app (K := K) rfl (pv 5) (pv 4)))) (pss_one (ps_expr (kpe_app (K := K) rfl (pv 5) (pe_lc (own := [("one", 9), ("other", 10)]) rfl nd (kpi_zipA (K := K) rfl rfl T.zip (pa_cons (pv 7) (pa_cons (pv 4) pa_nil))) (blkOk_by (N := nm_Table_turn) (sc := defScope s_Table_turn) (by decide +kernel)) (fun _ _ _ _ _ => (kpg_tup (K := K) (n := 2) rfl rfl (pgs_cons (pg_name (i := 9) nd rfl (Or.inl rfl)) (pgs_cons (pg_name (i := 10) nd rfl (Or.inl rfl)) pgs_nil)))) (fun _ _ _ _ _ => pts_nil) (fun _ _ _ _ _ => (pe_call (ok_less_by T) (hr.mono (by decide)) rfl T.less_by.m T.less_by.F.kp (bi_less_by T) .nil pass0 (pa_cons (pv 9) (pa_cons (pe_call (ok_multiplied T) (hr.mono (by decide)) rfl T.multiplied.m T.multiplied.F.kp (bi_multiplied T) .nil pass0 (pa_cons (pv 8) (pa_cons (pv 10) pa_nil))) pa_nil))))))))))))
    (pss_cons (kps_fld (K := K) rfl (pv 0) (pv 5) rfl)
    (pss_one (ps_asg (pv 2) (pg_sub (kpe_fld (K := K) rfl (pv 0) rfl) (pv 1) set_list))))))), ?_⟩
  exact ((sk_seqV (sk_setV (j := 3) (gk_vfz (gk_lend9 (T := T.Table) (gk_op od_ix (gk_op od_ix (gk_fld T.Table rfl gk_var) gk_var) gk_var))))
    (sk_seqV (sk_parV (j := 4) (k := 5) (gk_lend9 (T := T.Table) (gk_lc (ik_seq (gk_op od_ix (gk_fld T.Table rfl gk_var) gk_var)) gt_name tk_yes (gk_call (ak_cons gk_var (ak_cons gk_var ak_nil))) (by decide))) (GOk.v (gk_lst ak_nil)))
    (sk_seqV (sk_forV (ik_enumV (gk_vat (T := T.Table) (k := 3) rfl)) (gt_tup (gts_cons gt_name (gts_cons gt_name gts_nil))) ((sk_seqV (sk_setV (j := 8) (gk_vfz (GOk.v (gk_op od_ix gk_var gk_var))))
    (sk_ifV (TOk.v (tk_test (gk_op od_eq gk_var gk_var))) (SOk.v (sk_app gk_var) pin_drop) (SOk.v (sk_app (gk_lc (ik_zipA (ak_cons gk_var (ak_cons gk_var ak_nil))) (gt_tup (gts_cons gt_name (gts_cons gt_name gts_nil))) tk_yes (gk_call (ak_cons gk_var (ak_cons (gk_call (ak_cons gk_var (ak_cons gk_var ak_nil))) ak_nil))) (by decide))) pin_drop))) : SOkV K T.Table.C 0 _ b_Table_turn_1))
    (sk_seqV (sk_fldV (T := T.Table) (k := 3) rfl (GOk.v gk_var))
    (sk_bputV (T := T.Table) (n := 4) rfl (GOk.v gk_var) (GOk.v gk_var)))))) : SOkV K T.Table.C 0 _ b_Table_turn)
theorem sc_Table_clear : FnScope nm_Table_clear pm_Table_clear (defScope s_Table_clear) := ⟨rfl, rfl, rfl, by decide +kernel, rfl, by decide +kernel, by decide +kernel⟩
theorem bi_Table_clear (T : Txt K mg) : Binds K T.Table_clear.fd pm_Table_clear [] := T.Table_clear.F.binds fun _ _ _ _ _ _ us hl => by obtain ⟨_, rfl⟩ := len1 hl; rfl
theorem ok_Table_clear (T : Txt K mg) : FnOk P w K mg base CX0 5 T.Table_clear.f T.Table_clear.fd pm_Table_clear (spV K T.Table.C r_Table_clear) := by
  have nd := sc_Table_clear.nd
  refine data_V T.Table_clear.F sc_Table_clear fun cdv A outer s H E hr => ?_
  refine ⟨_, (pss_one (ps_for PassesOwn.never rfl (pi_range1 rfl T.range (pa_cons (kpe_fld (K := K) rfl (pv 0) rfl) pa_nil)) (pg_name (i := 1) nd rfl (Or.inr rfl)) (pss_one (ps_if (pt_cmpR op_ge (pe_ix (kix (K := K) rfl) (kpe_fld (K := K) rfl (pv 0) rfl) (pv 1) (fun _ _ => rfl)) (kpe_fld (K := K) rfl (pv 0) rfl) (nomark _)) (pss_cons (ps_set (i := 2) nd rfl (Or.inl rfl) (pe_ix (kix (K := K) rfl) (pe_lc (own := [("spot", 3)]) rfl nd (pi_range1 rfl T.range (pa_cons (kpe_fld (K := K) rfl (pv 0) rfl) pa_nil)) (blkOk_by (N := nm_Table_clear) (sc := defScope s_Table_clear) (by decide +kernel)) (fun _ _ _ _ _ => (pg_name (i := 3) nd rfl (Or.inl rfl))) (fun _ _ _ _ _ => (pts_one (pt_cmpR (kop_ne (K := K) rfl hr.units) (pe_ix (kix (K := K) rfl) (pe_ix (kix (K := K) rfl) (kpe_fld (K := K) rfl (pv 0) rfl) (pv 1) (fun _ _ => rfl)) (pv 3) (fun _ _ => rfl)) (pe_glob rfl T.NOUGHT.m T.NOUGHT.r) (nomark _)))) (fun _ _ _ _ _ => (pv 3))) pe_int (fun _ _ => rfl)))
    (pss_one (ps_expr (pe_meth (pv 0) T.Table.cls T.Table_turn.m (ok_Table_turn T) (hr.mono (by decide)) (bi_Table_turn T) .nil pass0 (pa_cons (pv 1) (pa_cons (pv 2) pa_nil)))))) pss_nil)))), ?_⟩
  exact ((sk_forV (ik_rangeV (gk_vat (T := T.Table) (k := 1) rfl)) gt_name ((sk_ifV (tk_lend9 (T := T.Table) (tk_test (gk_op od_ge (gk_op od_ix (gk_fld T.Table rfl gk_var) gk_var) (gk_fld T.Table rfl gk_var)))) (sk_seqV (sk_setV (j := 2) (gk_vfz (gk_lend9 (T := T.Table) (gk_op od_ix (gk_lc (ik_range1 (ak_cons (gk_fld T.Table rfl gk_var) ak_nil)) gt_name (tk_test (gk_op od_ne (gk_op od_ix (gk_op od_ix (gk_fld T.Table rfl gk_var) gk_var) gk_var) (gk_c T.NOUGHT.d))) gk_var (by decide)) gk_int))))
    (sk_dropW (gk_methW (nm := "turn") (T := T.Table) (by decide +kernel) (ak_consV (GOk.v gk_var) (ak_consV (GOk.v gk_var) (AOk.v ak_nil)))))) sk_nextV) : SOkV K T.Table.C 0 _ b_Table_clear_1)) : SOkV K T.Table.C 0 _ b_Table_clear)
theorem sc_added : FnScope nm_added pm_added (defScope s_added) := ⟨rfl, rfl, rfl, by decide +kernel, rfl, by decide +kernel, by decide +kernel⟩
theorem bi_added (T : Txt K mg) : Binds K T.added.fd pm_added [] := T.added.F.binds fun _ _ _ _ _ _ us hl => by obtain ⟨_, _, rfl⟩ := len2 hl; rfl
theorem ok_added (T : Txt K mg) : FnOk P w K mg base CX0 3 T.added.f T.added.fd pm_added (spF K r_added) := by
  have nd := sc_added.nd
  refine data_F T.added.F sc_added fun cdv A outer s H E hr => ?_
  refine ⟨_, (pss_one (ps_ret (pe_call (ok_lowest T) (hr.mono (by decide)) rfl T.lowest.m T.lowest.F.kp (bi_lowest T) .nil pass0 (pa_cons (pe_op (kop_addB (K := K) rfl) (pe_op op_mulA (pe_ix (kix (K := K) rfl) (pv 0) pe_int (fun _ _ => rfl)) (pe_ix (kix (K := K) rfl) (pv 1) pe_int (fun _ _ => rfl))) (pe_op op_mulA (pe_ix (kix (K := K) rfl) (pv 1) pe_int (fun _ _ => rfl)) (pe_ix (kix (K := K) rfl) (pv 0) pe_int (fun _ _ => rfl)))) (pa_cons (pe_op op_mulA (pe_ix (kix (K := K) rfl) (pv 0) pe_int (fun _ _ => rfl)) (pe_ix (kix (K := K) rfl) (pv 1) pe_int (fun _ _ => rfl))) pa_nil))))), ?_⟩
  exact ((sk_ret (gk_call (ak_cons (gk_op od_addB (gk_op od_mul (gk_op od_ix gk_var gk_int) (gk_op od_ix gk_var gk_int)) (gk_op od_mul (gk_op od_ix gk_var gk_int) (gk_op od_ix gk_var gk_int))) (ak_cons (gk_op od_mul (gk_op od_ix gk_var gk_int) (gk_op od_ix gk_var gk_int)) ak_nil)))) : SOk K _ b_added)
theorem sc_summed : FnScope nm_summed pm_summed (defScope s_summed) := ⟨rfl, rfl, rfl, by decide +kernel, rfl, by decide +kernel, by decide +kernel⟩
theorem bi_summed (T : Txt K mg) : Binds K T.summed.fd pm_summed [] := T.summed.F.binds fun _ _ _ _ _ _ us hl => by obtain ⟨_, rfl⟩ := len1 hl; rfl
theorem ok_summed (T : Txt K mg) : FnOk P w K mg base CX0 4 T.summed.f T.summed.fd pm_summed (spF K r_summed) := by
  have nd := sc_summed.nd
  refine data_F T.summed.F sc_summed fun cdv A outer s H E hr => ?_
  refine ⟨_, (pss_cons (ps_set (i := 1) nd rfl (Or.inl rfl) (pe_glob rfl T.NOUGHT.m T.NOUGHT.r))
    (pss_cons (ps_for PassesOwn.never rfl (kpi_seq (K := K) rfl (pv 0)) (pg_name (i := 2) nd rfl (Or.inl rfl)) (pss_one (ps_set (i := 1) nd rfl (Or.inl rfl) (pe_call (ok_added T) (hr.mono (by decide)) rfl T.added.m T.added.F.kp (bi_added T) .nil pass0 (pa_cons (pv 1) (pa_cons (pv 2) pa_nil))))))
    (pss_one (ps_ret (pv 1))))), ?_⟩
  exact ((sk_seq (sk_set (gk_c T.NOUGHT.d))
    (sk_seq (sk_for (ik_seq gk_var) gt_name ((sk_set (gk_call (ak_cons gk_var (ak_cons gk_var ak_nil)))) : SOk K _ b_summed_1))
    (sk_ret gk_mv))) : SOk K _ b_summed)
theorem sc_Table_costs_left : FnScope nm_Table_costs_left pm_Table_costs_left (defScope s_Table_costs_left) := ⟨rfl, rfl, rfl, by decide +kernel, rfl, by decide +kernel, by decide +kernel⟩
theorem bi_Table_costs_left (T : Txt K mg) : Binds K T.Table_costs_left.fd pm_Table_costs_left [] := T.Table_costs_left.F.binds fun _ _ _ _ _ _ us hl => by obtain ⟨_, _, rfl⟩ := len2 hl; rfl
theorem ok_Table_costs_left (T : Txt K mg) : FnOk P w K mg base CX0 5 T.Table_costs_left.f T.Table_costs_left.fd pm_Table_costs_left (spF K r_Table_costs_left) := by
  have nd := sc_Table_costs_left.nd
  refine data_F T.Table_costs_left.F sc_Table_costs_left fun cdv A outer s H E hr => ?_
  refine ⟨_, (pss_cons (ps_set (i := 2) nd rfl (Or.inl rfl) (pe_lst pa_nil))
    (pss_cons (ps_for PassesOwn.never rfl (pi_range1 rfl T.range (pa_cons (pe_op (kop_addB (K := K) rfl) (kpe_fld (K := K) rfl (pv 0) rfl) (kpe_fld (K := K) rfl (pv 0) rfl)) pa_nil)) (pg_name (i := 3) nd rfl (Or.inr rfl)) (pss_cons (ps_set (i := 4) nd rfl (Or.inl rfl) (pe_call (ok_summed T) (hr.mono (by decide)) rfl T.summed.m T.summed.F.kp (bi_summed T) .nil pass0 (pa_cons (pe_lc (own := [("spot", 5), ("line", 6)]) rfl nd (kpi_zipA (K := K) rfl rfl T.zip (pa_cons (kpe_fld (K := K) rfl (pv 0) rfl) (pa_cons (kpe_fld (K := K) rfl (pv 0) rfl) pa_nil))) (blkOk_by (N := nm_Table_costs_left) (sc := defScope s_Table_costs_left) (by decide +kernel)) (fun _ _ _ _ _ => (kpg_tup (K := K) (n := 2) rfl rfl (pgs_cons (pg_name (i := 5) nd rfl (Or.inl rfl)) (pgs_cons (pg_name (i := 6) nd rfl (Or.inl rfl)) pgs_nil)))) (fun _ _ _ _ _ => pts_nil) (fun _ _ _ _ _ => (pe_call (ok_multiplied T) (hr.mono (by decide)) rfl T.multiplied.m T.multiplied.F.kp (bi_multiplied T) .nil pass0 (pa_cons (pe_ix (kix (K := K) rfl) (pv 1) (pv 5) (fun _ _ => rfl)) (pa_cons (pe_ix (kix (K := K) rfl) (pv 6) (pv 3) (fun _ _ => rfl)) pa_nil))))) pa_nil)))
    (pss_one (ps_expr (kpe_app (K := K) rfl (pv 2) (pe_call (ok_less_by T) (hr.mono (by decide)) rfl T.less_by.m T.less_by.F.kp (bi_less_by T) .nil pass0 (pa_cons (pe_ix (kix (K := K) rfl) (pv 1) (pv 3) (fun _ _ => rfl)) (pa_cons (pv 4) pa_nil))))))))
    (pss_one (ps_ret (pv 2))))), ?_⟩
  exact ((sk_seq (sk_set (gk_lst ak_nil))
    (sk_seq (sk_for (ik_range1 (ak_cons (gk_op od_addB (gk_fld T.Table rfl gk_var) (gk_fld T.Table rfl gk_var)) ak_nil)) gt_name ((sk_seq (sk_set (gk_call (ak_cons (gk_lc (ik_zipA (ak_cons (gk_fld T.Table rfl gk_var) (ak_cons (gk_fld T.Table rfl gk_var) ak_nil))) (gt_tup (gts_cons gt_name (gts_cons gt_name gts_nil))) tk_yes (gk_call (ak_cons (gk_op od_ix gk_var gk_var) (ak_cons (gk_op od_ix gk_var gk_var) ak_nil))) (by decide)) ak_nil)))
    (sk_app (gk_call (ak_cons (gk_op od_ix gk_var gk_var) (ak_cons gk_var ak_nil))))) : SOk K _ b_Table_costs_left_1))
    (sk_ret gk_mv))) : SOk K _ b_Table_costs_left)
theorem sc_Table_counts_of : FnScope nm_Table_counts_of pm_Table_counts_of (defScope s_Table_counts_of) := ⟨rfl, rfl, rfl, by decide +kernel, rfl, by decide +kernel, by decide +kernel⟩
theorem bi_Table_counts_of (T : Txt K mg) : Binds K T.Table_counts_of.fd pm_Table_counts_of [] := T.Table_counts_of.F.binds fun _ _ _ _ _ _ us hl => by obtain ⟨_, _, rfl⟩ := len2 hl; rfl
theorem ok_Table_counts_of (T : Txt K mg) : FnOk P w K mg base CX0 6 T.Table_counts_of.f T.Table_counts_of.fd pm_Table_counts_of (spF K r_Table_counts_of) := by
  have nd := sc_Table_counts_of.nd
  refine data_F T.Table_counts_of.F sc_Table_counts_of fun cdv A outer s H E hr => ?_
  refine ⟨_, (pss_cons (ps_set (i := 2) nd rfl (Or.inl rfl) (pe_slice (ksl_B (K := K) rfl) (pe_meth (pv 0) T.Table.cls T.Table_costs_left.m (ok_Table_costs_left T) (hr.mono (by decide)) (bi_Table_costs_left T) .nil pass0 (pa_cons (pv 1) pa_nil)) (po_some (kpe_fld (K := K) rfl (pv 0) rfl)) po_none))
    (pss_cons (ps_set (i := 3) nd rfl (Or.inl rfl) (pe_slice (ksl_B (K := K) rfl) (pv 1) (po_some (kpe_fld (K := K) rfl (pv 0) rfl)) po_none))
    (pss_one (ps_ret (pe_callTy (kcr_tuple (K := K) rfl) (by rfl) T.tuple (by decide +kernel) (pa_cons (pe_lc (own := [("sign", 4), ("cost", 5), ("one", 6)]) rfl nd (kpi_zip3 (K := K) rfl rfl T.zip (pa_cons (kpe_fld (K := K) rfl (pv 0) rfl) (pa_cons (pv 3) (pa_cons (pv 2) pa_nil)))) (blkOk_by (N := nm_Table_counts_of) (sc := defScope s_Table_counts_of) (by decide +kernel)) (fun _ _ _ _ _ => (kpg_tup (K := K) (n := 3) rfl rfl (pgs_cons (pg_name (i := 4) nd rfl (Or.inl rfl)) (pgs_cons (pg_name (i := 5) nd rfl (Or.inl rfl)) (pgs_cons (pg_name (i := 6) nd rfl (Or.inl rfl)) pgs_nil))))) (fun _ _ _ _ _ => pts_nil) (fun _ _ _ _ _ => (pe_call (ok_multiplied T) (hr.mono (by decide)) rfl T.multiplied.m T.multiplied.F.kp (bi_multiplied T) .nil pass0 (pa_cons (pv 4) (pa_cons (pe_call (ok_less_by T) (hr.mono (by decide)) rfl T.less_by.m T.less_by.F.kp (bi_less_by T) .nil pass0 (pa_cons (pv 5) (pa_cons (pv 6) pa_nil))) pa_nil))))) pa_nil)))))), ?_⟩
  exact ((sk_seq (sk_set (gk_sl sd_B (gk_meth (nm := "costs_left") T.Table (by decide +kernel) (fun _ => .nil) gk_var (ak_cons gk_var ak_nil)) (pk_some (gk_fld T.Table rfl gk_var)) pk_none))
    (sk_seq (sk_set (gk_sl sd_B gk_var (pk_some (gk_fld T.Table rfl gk_var)) pk_none))
    (sk_ret (gk_cb cd_tuple (ak_cons (gk_lc (ik_zip3 (ak_cons (gk_fld T.Table rfl gk_var) (ak_cons gk_var (ak_cons gk_var ak_nil)))) (gt_tup (gts_cons gt_name (gts_cons gt_name (gts_cons gt_name gts_nil)))) tk_yes (gk_call (ak_cons gk_var (ak_cons (gk_call (ak_cons gk_var (ak_cons gk_var ak_nil))) ak_nil))) (by decide)) ak_nil))))) : SOk K _ b_Table_counts_of)
theorem sc_Table_place_for : FnScope nm_Table_place_for pm_Table_place_for (defScope s_Table_place_for) := ⟨rfl, rfl, rfl, by decide +kernel, rfl, by decide +kernel, by decide +kernel⟩
theorem bi_Table_place_for (T : Txt K mg) : Binds K T.Table_place_for.fd pm_Table_place_for [] := T.Table_place_for.F.binds fun _ _ _ _ _ _ us hl => by obtain ⟨_, _, rfl⟩ := len2 hl; rfl
theorem ok_Table_place_for (T : Txt K mg) : FnOk P w K mg base CX0 4 T.Table_place_for.f T.Table_place_for.fd pm_Table_place_for (spF K r_Table_place_for) := by
  have nd := sc_Table_place_for.nd
  refine data_F T.Table_place_for.F sc_Table_place_for fun cdv A outer s H E hr => ?_
  refine ⟨_, (pss_cons (ps_asg (pe_tup (pa_cons pe_non (pa_cons pe_non pa_nil))) (kpg_tup (K := K) (n := 2) rfl rfl (pgs_cons (pg_name (i := 2) nd rfl (Or.inl rfl)) (pgs_cons (pg_name (i := 3) nd rfl (Or.inl rfl)) pgs_nil))))
    (pss_cons (ps_for PassesOwn.never rfl (kpi_enumA (K := K) rfl rfl T.enumerate (pa_cons (kpe_fld (K := K) rfl (pv 0) rfl) pa_nil)) (kpg_tup (K := K) (n := 2) rfl rfl (pgs_cons (pg_name (i := 4) nd rfl (Or.inl rfl)) (pgs_cons (pg_name (i := 5) nd rfl (Or.inl rfl)) pgs_nil))) (pss_one (ps_if (kpt_tru (K := K) rfl (pe_call (ok_is_less T) (hr.mono (by decide)) rfl T.is_less.m T.is_less.F.kp (bi_is_less T) .nil pass0 (pa_cons (pe_glob rfl T.NOUGHT.m T.NOUGHT.r) (pa_cons (pe_ix (kix (K := K) rfl) (pv 5) (pv 1) (fun _ _ => rfl)) pa_nil))) (by intro _; rfl)) (pss_cons (ps_set (i := 6) nd rfl (Or.inl rfl) (pe_call (ok_quotient T) (hr.mono (by decide)) rfl T.quotient.m T.quotient.F.kp (bi_quotient T) .nil pass0 (pa_cons (pe_ix (kix (K := K) rfl) (pv 5) (pe_un un_neg pe_int) (fun _ _ => rfl)) (pa_cons (pe_ix (kix (K := K) rfl) (pv 5) (pv 1) (fun _ _ => rfl)) pa_nil))))
    (pss_cons (ps_set (i := 7) nd rfl (Or.inl rfl) (pe_or (pe_cmpR op_isA (pv 2) pe_non (nomark _)) (pe_one (pe_call (ok_is_less T) (hr.mono (by decide)) rfl T.is_less.m T.is_less.F.kp (bi_is_less T) .nil pass0 (pa_cons (pv 6) (pa_cons (pv 3) pa_nil))))))
    (pss_one (ps_if (PW.pt (pw_or (kpt_tru (K := K) rfl (pv 7) (by intro _; rfl)) (pw_or1 (PW.pt (pw_and (pt_cmpR (kop_eq (K := K) rfl hr.units) (pv 6) (pv 3) (nomark _)) (pw_and1 (pt_cmpR op_lt (pe_ix (kix (K := K) rfl) (kpe_fld (K := K) rfl (pv 0) rfl) (pv 4) (fun _ _ => rfl)) (pe_ix (kix (K := K) rfl) (kpe_fld (K := K) rfl (pv 0) rfl) (pv 2) (fun _ _ => rfl)) (nomark _)))))))) (pss_one (ps_par (i := 2) (j := 3) rfl nd rfl rfl (by decide) rfl rfl (pa_cons (pv 4) (pa_cons (pv 6) pa_nil)) (by rfl))) pss_nil)))) pss_nil)))
    (pss_one (ps_ret (pv 2))))), ?_⟩
  exact ((sk_seq (sk_asg (gk_tup (ak_cons gk_non (ak_cons gk_non ak_nil))) (gt_tup (gts_cons gt_name (gts_cons gt_name gts_nil))))
    (sk_seq (sk_for (ik_enumA (ak_cons (gk_fld T.Table rfl gk_var) ak_nil)) (gt_tup (gts_cons gt_name (gts_cons gt_name gts_nil))) ((sk_if (tk_truK (gk_call (ak_cons (gk_c T.NOUGHT.d) (ak_cons (gk_op od_ix gk_var gk_var) ak_nil)))) (sk_seq (sk_set (gk_call (ak_cons (gk_op od_ix gk_var (gk_un ud_neg gk_int)) (ak_cons (gk_op od_ix gk_var gk_var) ak_nil))))
    (sk_seq (sk_set (gk_vor (gk_op od_is gk_var gk_non) (gk_call (ak_cons gk_var (ak_cons gk_var ak_nil)))))
    (sk_if (tk_or (tk_truK gk_var) (tk_and (tk_test (gk_op od_eq gk_var gk_var)) (tk_test (gk_op od_lt (gk_op od_ix (gk_fld T.Table rfl gk_var) gk_var) (gk_op od_ix (gk_fld T.Table rfl gk_var) gk_var))))) (sk_ypar (yk_cons gk_var (yk_cons gk_var yk_nil))) sk_next))) sk_next) : SOk K _ b_Table_place_for_1))
    (sk_ret gk_mv))) : SOk K _ b_Table_place_for)
theorem sc_Table_lower : FnScope nm_Table_lower pm_Table_lower (defScope s_Table_lower) := ⟨rfl, rfl, rfl, by decide +kernel, rfl, by decide +kernel, by decide +kernel⟩
theorem bi_Table_lower (T : Txt K mg) : Binds K T.Table_lower.fd pm_Table_lower [] := T.Table_lower.F.binds fun _ _ _ _ _ _ us hl => by obtain ⟨_, _, _, rfl⟩ := len3 hl; rfl
theorem ok_Table_lower (T : Txt K mg) : FnOk P w K mg base CX0 6 T.Table_lower.f T.Table_lower.fd pm_Table_lower (spV K T.Table.C r_Table_lower) := by
  have nd := sc_Table_lower.nd
  refine data_V T.Table_lower.F sc_Table_lower fun cdv A outer s H E hr => ?_
  refine ⟨_, (pss_one (ps_while PassesOwn.never (kpt_tru (K := K) rfl pe_bl (by intro _; rfl)) (pss_cons (ps_set (i := 3) nd rfl (Or.inr rfl) (pe_meth (pv 0) T.Table.cls T.Table_costs_left.m (ok_Table_costs_left T) (hr.mono (by decide)) (bi_Table_costs_left T) .nil pass0 (pa_cons (pv 1) pa_nil)))
    (pss_cons (ps_setLc (i := 4) (own := [("at", 6)]) rfl nd rfl rfl (sw_true rfl rfl rfl (by decide +kernel)) (pi_range1 rfl T.range (pa_cons (pv 2) pa_nil)) (blkOk_by (N := nm_Table_lower) (sc := defScope s_Table_lower) (by decide +kernel)) (fun _ _ _ _ _ => (pg_name (i := 6) nd rfl (Or.inl rfl))) (fun _ _ _ _ _ => (pts_one (kpt_tru (K := K) rfl (pe_call (ok_is_less T) (hr.mono (by decide)) rfl T.is_less.m T.is_less.F.kp (bi_is_less T) .nil pass0 (pa_cons (pe_ix (kix (K := K) rfl) (pv 3) (pv 6) (fun _ _ => rfl)) (pa_cons (pe_glob rfl T.NOUGHT.m T.NOUGHT.r) pa_nil))) (by intro _; rfl)))) (fun _ _ _ _ _ => (pv 6)))
    (pss_cons (ps_if (pt_cmpR (kop_eq (K := K) rfl hr.units) (pe_callB (kcr_len (K := K) rfl) (by rfl) T.len (by decide +kernel) (pa_cons (pv 4) pa_nil)) pe_int (nomark _)) (pss_one (ps_ret pe_non)) pss_nil)
    (pss_cons (ps_set (i := 5) nd rfl (Or.inl rfl) (pe_meth (pv 0) T.Table.cls T.Table_place_for.m (ok_Table_place_for T) (hr.mono (by decide)) (bi_Table_place_for T) .nil pass0 (pa_cons (pe_ix (kix (K := K) rfl) (pv 4) pe_int (fun _ _ => rfl)) pa_nil)))
    (pss_cons (ps_if (pt_cmpR op_isA (pv 5) pe_non (nomark _)) (pss_one (ps_ret (pe_ix (kix (K := K) rfl) (pv 4) pe_int (fun _ _ => rfl)))) pss_nil)
    (pss_one (ps_expr (pe_meth (pv 0) T.Table.cls T.Table_turn.m (ok_Table_turn T) (hr.mono (by decide)) (bi_Table_turn T) .nil pass0 (pa_cons (pv 5) (pa_cons (pe_ix (kix (K := K) rfl) (pv 4) pe_int (fun _ _ => rfl)) pa_nil)))))))))))), ?_⟩
  exact ((sk_whileV 1000000 (TOk.v (tk_truK gk_bl)) ((sk_seqV (sk_setV (j := 3) (gk_vfz (gk_lend9 (T := T.Table) (gk_meth (nm := "costs_left") T.Table (by decide +kernel) (fun _ => .nil) gk_var (ak_cons gk_var ak_nil)))))
    (sk_seqV (sk_setV (j := 4) (gk_vfz (GOk.v (gk_lc (ik_range1 (ak_cons gk_var ak_nil)) gt_name (tk_truK (gk_call (ak_cons (gk_op od_ix gk_var gk_var) (ak_cons (gk_c T.NOUGHT.d) ak_nil)))) gk_var (by decide)))))
    (sk_seqV (sk_ifV (TOk.v (tk_test (gk_op od_eq (gk_cb cd_len (ak_cons gk_var ak_nil)) gk_int))) (sk_retV (GOk.v gk_non)) sk_nextV)
    (sk_seqV (sk_setV (j := 5) (gk_vfz (gk_lend9 (T := T.Table) (gk_meth (nm := "place_for") T.Table (by decide +kernel) (fun _ => .nil) gk_var (ak_cons (gk_op od_ix gk_var gk_int) ak_nil)))))
    (sk_seqV (sk_ifV (TOk.v (tk_test (gk_op od_is gk_var gk_non))) (sk_retV (GOk.v (gk_op od_ix gk_var gk_int))) sk_nextV)
    (sk_dropW (gk_methW (nm := "turn") (T := T.Table) (by decide +kernel) (ak_consV (GOk.v gk_var) (ak_consV (GOk.v (gk_op od_ix gk_var gk_int)) (AOk.v ak_nil)))))))))) : SOkV K T.Table.C 0 _ b_Table_lower_1)) : SOkV K T.Table.C 0 _ b_Table_lower)
theorem sc_Table_values_now : FnScope nm_Table_values_now pm_Table_values_now (defScope s_Table_values_now) := ⟨rfl, rfl, rfl, by decide +kernel, rfl, by decide +kernel, by decide +kernel⟩
theorem bi_Table_values_now (T : Txt K mg) : Binds K T.Table_values_now.fd pm_Table_values_now [] := T.Table_values_now.F.binds fun _ _ _ _ _ _ us hl => by obtain ⟨_, rfl⟩ := len1 hl; rfl
theorem ok_Table_values_now (T : Txt K mg) : FnOk P w K mg base CX0 1 T.Table_values_now.f T.Table_values_now.fd pm_Table_values_now (spF K r_Table_values_now) := by
  have nd := sc_Table_values_now.nd
  refine data_F T.Table_values_now.F sc_Table_values_now fun cdv A outer s H E hr => ?_
  refine ⟨_, (pss_cons (ps_set (i := 1) nd rfl (Or.inl rfl) (pe_op op_mulA (pe_lst (pa_cons (pe_glob rfl T.NOUGHT.m T.NOUGHT.r) pa_nil)) (pe_op (kop_addB (K := K) rfl) (kpe_fld (K := K) rfl (pv 0) rfl) (kpe_fld (K := K) rfl (pv 0) rfl))))
    (pss_cons (ps_for PassesOwn.never rfl (kpi_enumA (K := K) rfl rfl T.enumerate (pa_cons (kpe_fld (K := K) rfl (pv 0) rfl) pa_nil)) (kpg_tup (K := K) (n := 2) rfl rfl (pgs_cons (pg_name (i := 2) nd rfl (Or.inl rfl)) (pgs_cons (pg_name (i := 3) nd rfl (Or.inl rfl)) pgs_nil))) (pss_one (ps_asg (pe_ix (kix (K := K) rfl) (pe_ix (kix (K := K) rfl) (kpe_fld (K := K) rfl (pv 0) rfl) (pv 2) (fun _ _ => rfl)) (pe_un un_neg pe_int) (fun _ _ => rfl)) (pg_sub (pv 1) (pv 3) set_list))))
    (pss_one (ps_ret (pe_slice (ksl_B (K := K) rfl) (pv 1) po_none (po_some (kpe_fld (K := K) rfl (pv 0) rfl))))))), ?_⟩
  exact ((sk_seq (sk_set (gk_op od_mul (gk_lst (ak_cons (gk_c T.NOUGHT.d) ak_nil)) (gk_op od_addB (gk_fld T.Table rfl gk_var) (gk_fld T.Table rfl gk_var))))
    (sk_seq (sk_for (ik_enumA (ak_cons (gk_fld T.Table rfl gk_var) ak_nil)) (gt_tup (gts_cons gt_name (gts_cons gt_name gts_nil))) ((sk_put (gk_op od_ix (gk_op od_ix (gk_fld T.Table rfl gk_var) gk_var) (gk_un ud_neg gk_int)) gk_var) : SOk K _ b_Table_values_now_1))
    (sk_ret (gk_sl sd_B gk_var pk_none (pk_some (gk_fld T.Table rfl gk_var)))))) : SOk K _ b_Table_values_now)
theorem sc_Table_way_of : FnScope nm_Table_way_of pm_Table_way_of (defScope s_Table_way_of) := ⟨rfl, rfl, rfl, by decide +kernel, rfl, by decide +kernel, by decide +kernel⟩
theorem bi_Table_way_of (T : Txt K mg) : Binds K T.Table_way_of.fd pm_Table_way_of [] := T.Table_way_of.F.binds fun _ _ _ _ _ _ us hl => by obtain ⟨_, _, rfl⟩ := len2 hl; rfl
theorem ok_Table_way_of (T : Txt K mg) : FnOk P w K mg base CX0 4 T.Table_way_of.f T.Table_way_of.fd pm_Table_way_of (spF K r_Table_way_of) := by
  have nd := sc_Table_way_of.nd
  refine data_F T.Table_way_of.F sc_Table_way_of fun cdv A outer s H E hr => ?_
  refine ⟨_, (pss_cons (ps_set (i := 2) nd rfl (Or.inl rfl) (pe_op op_mulA (pe_lst (pa_cons (pe_glob rfl T.NOUGHT.m T.NOUGHT.r) pa_nil)) (pe_op (kop_addB (K := K) rfl) (kpe_fld (K := K) rfl (pv 0) rfl) (kpe_fld (K := K) rfl (pv 0) rfl))))
    (pss_cons (ps_asg (pe_glob rfl T.ONE.m T.ONE.r) (pg_sub (pv 2) (pv 1) set_list))
    (pss_cons (ps_for PassesOwn.never rfl (kpi_enumA (K := K) rfl rfl T.enumerate (pa_cons (kpe_fld (K := K) rfl (pv 0) rfl) pa_nil)) (kpg_tup (K := K) (n := 2) rfl rfl (pgs_cons (pg_name (i := 3) nd rfl (Or.inl rfl)) (pgs_cons (pg_name (i := 4) nd rfl (Or.inl rfl)) pgs_nil))) (pss_one (ps_asg (pe_call (ok_multiplied T) (hr.mono (by decide)) rfl T.multiplied.m T.multiplied.F.kp (bi_multiplied T) .nil pass0 (pa_cons (pe_glob rfl T.MINUS.m T.MINUS.r) (pa_cons (pe_ix (kix (K := K) rfl) (pe_ix (kix (K := K) rfl) (kpe_fld (K := K) rfl (pv 0) rfl) (pv 3) (fun _ _ => rfl)) (pv 1) (fun _ _ => rfl)) pa_nil))) (pg_sub (pv 2) (pv 4) set_list))))
    (pss_one (ps_ret (pe_slice (ksl_B (K := K) rfl) (pv 2) po_none (po_some (kpe_fld (K := K) rfl (pv 0) rfl)))))))), ?_⟩
  exact ((sk_seq (sk_set (gk_op od_mul (gk_lst (ak_cons (gk_c T.NOUGHT.d) ak_nil)) (gk_op od_addB (gk_fld T.Table rfl gk_var) (gk_fld T.Table rfl gk_var))))
    (sk_seq (sk_put (gk_c T.ONE.d) gk_var)
    (sk_seq (sk_for (ik_enumA (ak_cons (gk_fld T.Table rfl gk_var) ak_nil)) (gt_tup (gts_cons gt_name (gts_cons gt_name gts_nil))) ((sk_put (gk_call (ak_cons (gk_c T.MINUS.d) (ak_cons (gk_op od_ix (gk_op od_ix (gk_fld T.Table rfl gk_var) gk_var) gk_var) ak_nil))) gk_var) : SOk K _ b_Table_way_of_1))
    (sk_ret (gk_sl sd_B gk_var pk_none (pk_some (gk_fld T.Table rfl gk_var))))))) : SOk K _ b_Table_way_of)
theorem sc_row_told : FnScope nm_row_told pm_row_told (defScope s_row_told) := ⟨rfl, rfl, rfl, by decide +kernel, rfl, by decide +kernel, by decide +kernel⟩
theorem bi_row_told (T : Txt K mg) : Binds K T.row_told.fd pm_row_told [] := T.row_told.F.binds fun _ _ _ _ _ _ us hl => by obtain ⟨_, _, rfl⟩ := len2 hl; rfl
theorem ok_row_told (T : Txt K mg) : FnOk P w K mg base CX0 5 T.row_told.f T.row_told.fd pm_row_told (spF K r_row_told) := by
  have nd := sc_row_told.nd
  refine data_F T.row_told.F sc_row_told fun cdv A outer s H E hr => ?_
  refine ⟨_, (pss_one (ps_ret (pe_call (ok_summed T) (hr.mono (by decide)) rfl T.summed.m T.summed.F.kp (bi_summed T) .nil pass0 (pa_cons (pe_lc (own := [("weight", 2), ("one", 3)]) rfl nd (kpi_zipA (K := K) rfl rfl T.zip (pa_cons (pe_call (ok_values_of T) (hr.mono (by decide)) rfl T.values_of.m T.values_of.F.kp (bi_values_of T) .nil pass0 (pa_cons (pv 0) pa_nil)) (pa_cons (pe_call (ok_values_of T) (hr.mono (by decide)) rfl T.values_of.m T.values_of.F.kp (bi_values_of T) .nil pass0 (pa_cons (pv 1) pa_nil)) pa_nil))) (blkOk_by (N := nm_row_told) (sc := defScope s_row_told) (by decide +kernel)) (fun _ _ _ _ _ => (kpg_tup (K := K) (n := 2) rfl rfl (pgs_cons (pg_name (i := 2) nd rfl (Or.inl rfl)) (pgs_cons (pg_name (i := 3) nd rfl (Or.inl rfl)) pgs_nil)))) (fun _ _ _ _ _ => pts_nil) (fun _ _ _ _ _ => (pe_call (ok_multiplied T) (hr.mono (by decide)) rfl T.multiplied.m T.multiplied.F.kp (bi_multiplied T) .nil pass0 (pa_cons (pv 2) (pa_cons (pv 3) pa_nil))))) pa_nil)))), ?_⟩
  exact ((sk_ret (gk_call (ak_cons (gk_lc (ik_zipA (ak_cons (gk_call (ak_cons gk_var ak_nil)) (ak_cons (gk_call (ak_cons gk_var ak_nil)) ak_nil))) (gt_tup (gts_cons gt_name (gts_cons gt_name gts_nil))) tk_yes (gk_call (ak_cons gk_var (ak_cons gk_var ak_nil))) (by decide)) ak_nil))) : SOk K _ b_row_told)
theorem sc_product_to : FnScope nm_product_to pm_product_to (defScope s_product_to) := ⟨rfl, rfl, rfl, by decide +kernel, rfl, by decide +kernel, by decide +kernel⟩
theorem bi_product_to (T : Txt K mg) : Binds K T.product_to.fd pm_product_to [] := T.product_to.F.binds fun _ _ _ _ _ _ us hl => by obtain ⟨_, rfl⟩ := len1 hl; rfl
theorem ok_product_to (T : Txt K mg) : FnOk P w K mg base CX0 1 T.product_to.f T.product_to.fd pm_product_to (spF K r_product_to) := by
  have nd := sc_product_to.nd
  refine data_F T.product_to.F sc_product_to fun cdv A outer s H E hr => ?_
  refine ⟨_, (pss_cons (ps_set (i := 1) nd rfl (Or.inl rfl) pe_int)
    (pss_cons (ps_for PassesOwn.never rfl (pi_range2 rfl T.range (pa_cons pe_int (pa_cons (pe_op (kop_addB (K := K) rfl) (pv 0) pe_int) pa_nil))) (pg_name (i := 2) nd rfl (Or.inl rfl)) (pss_one (ps_aug (i := 1) nd rfl (Or.inl rfl) (pv 2) iop_mulA)))
    (pss_one (ps_ret (pv 1))))), ?_⟩
  exact ((sk_seq (sk_set gk_int)
    (sk_seq (sk_for (ik_range2 (ak_cons gk_int (ak_cons (gk_op od_addB gk_var gk_int) ak_nil))) gt_name ((sk_aug od_mulI gk_var) : SOk K _ b_product_to_1))
    (sk_ret gk_mv))) : SOk K _ b_product_to)
theorem sc_ways_to_choose : FnScope nm_ways_to_choose pm_ways_to_choose (defScope s_ways_to_choose) := ⟨rfl, rfl, rfl, by decide +kernel, rfl, by decide +kernel, by decide +kernel⟩
theorem bi_ways_to_choose (T : Txt K mg) : Binds K T.ways_to_choose.fd pm_ways_to_choose [] := T.ways_to_choose.F.binds fun _ _ _ _ _ _ us hl => by obtain ⟨_, _, rfl⟩ := len2 hl; rfl
theorem ok_ways_to_choose (T : Txt K mg) : FnOk P w K mg base CX0 2 T.ways_to_choose.f T.ways_to_choose.fd pm_ways_to_choose (spF K r_ways_to_choose) := by
  have nd := sc_ways_to_choose.nd
  refine data_F T.ways_to_choose.F sc_ways_to_choose fun cdv A outer s H E hr => ?_
  refine ⟨_, (pss_cons (ps_if (PW.pt (pw_or (pt_cmpR op_lt (pv 1) pe_int (nomark _)) (pw_or1 (pt_cmpR op_lt (pv 0) (pv 1) (nomark _))))) (pss_one (ps_ret pe_int)) pss_nil)
    (pss_one (ps_ret (pe_op op_fdivA (pe_call (ok_product_to T) (hr.mono (by decide)) rfl T.product_to.m T.product_to.F.kp (bi_product_to T) .nil pass0 (pa_cons (pv 0) pa_nil)) (pe_op op_mulA (pe_call (ok_product_to T) (hr.mono (by decide)) rfl T.product_to.m T.product_to.F.kp (bi_product_to T) .nil pass0 (pa_cons (pv 1) pa_nil)) (pe_call (ok_product_to T) (hr.mono (by decide)) rfl T.product_to.m T.product_to.F.kp (bi_product_to T) .nil pass0 (pa_cons (pe_op op_subA (pv 0) (pv 1)) pa_nil))))))), ?_⟩
  exact ((sk_seq (sk_if (tk_or (tk_test (gk_op od_lt gk_var gk_int)) (tk_test (gk_op od_lt gk_var gk_var))) (sk_ret gk_int) sk_next)
    (sk_ret (gk_op od_fdiv (gk_call (ak_cons gk_var ak_nil)) (gk_op od_mul (gk_call (ak_cons gk_var ak_nil)) (gk_call (ak_cons (gk_op od_sub gk_var gk_var) ak_nil)))))) : SOk K _ b_ways_to_choose)
theorem sc_unit_row : FnScope nm_unit_row pm_unit_row (defScope s_unit_row) := ⟨rfl, rfl, rfl, by decide +kernel, rfl, by decide +kernel, by decide +kernel⟩
theorem bi_unit_row (T : Txt K mg) : Binds K T.unit_row.fd pm_unit_row [] := T.unit_row.F.binds fun _ _ _ _ _ _ us hl => by obtain ⟨_, _, _, rfl⟩ := len3 hl; rfl
theorem ok_unit_row (T : Txt K mg) : FnOk P w K mg base CX0 3 T.unit_row.f T.unit_row.fd pm_unit_row (spF K r_unit_row) := by
  have nd := sc_unit_row.nd
  refine data_F T.unit_row.F sc_unit_row fun cdv A outer s H E hr => ?_
  refine ⟨_, (pss_cons (ps_if (pt_cmpR (kop_eq (K := K) rfl hr.units) (pv 1) pe_int (nomark _)) (pss_one (ps_ret (pe_lc (own := [("at", 3)]) rfl nd (pi_range1 rfl T.range (pa_cons (pv 0) pa_nil)) (blkOk_by (N := nm_unit_row) (sc := defScope s_unit_row) (by decide +kernel)) (fun _ _ _ _ _ => (pg_name (i := 3) nd rfl (Or.inl rfl))) (fun _ _ _ _ _ => pts_nil) (fun _ _ _ _ _ => (pe_callTy cr_int (by rfl) T.int (by decide +kernel) (pa_cons (pe_cmpR (kop_eq (K := K) rfl hr.units) (pv 3) (pv 2) (nomark _)) pa_nil)))))) pss_nil)
    (pss_one (ps_ret (pe_lc (own := [("at", 3)]) rfl nd (pi_range1 rfl T.range (pa_cons (pv 0) pa_nil)) (blkOk_by (N := nm_unit_row) (sc := defScope s_unit_row) (by decide +kernel)) (fun _ _ _ _ _ => (pg_name (i := 3) nd rfl (Or.inl rfl))) (fun _ _ _ _ _ => pts_nil) (fun _ _ _ _ _ => (pe_call (ok_ways_to_choose T) (hr.mono (by decide)) rfl T.ways_to_choose.m T.ways_to_choose.F.kp (bi_ways_to_choose T) .nil pass0 (pa_cons (pe_op op_subA (pe_op op_subA (pv 3) (pv 2)) pe_int) (pa_cons (pe_op op_subA (pv 1) pe_int) pa_nil)))))))), ?_⟩
  exact ((sk_seq (sk_if (tk_test (gk_op od_eq gk_var gk_int)) (sk_ret (gk_lc (ik_range1 (ak_cons gk_var ak_nil)) gt_name tk_yes (gk_cb cd_int (ak_cons (gk_op od_eq gk_var gk_var) ak_nil)) (by decide))) sk_next)
    (sk_ret (gk_lc (ik_range1 (ak_cons gk_var ak_nil)) gt_name tk_yes (gk_call (ak_cons (gk_op od_sub (gk_op od_sub gk_var gk_var) gk_int) (ak_cons (gk_op od_sub gk_var gk_int) ak_nil))) (by decide)))) : SOk K _ b_unit_row)
theorem sc_factors_of : FnScope nm_factors_of pm_factors_of (defScope s_factors_of) := ⟨rfl, rfl, rfl, by decide +kernel, rfl, by decide +kernel, by decide +kernel⟩
theorem bi_factors_of (T : Txt K mg) : Binds K T.factors_of.fd pm_factors_of [] := T.factors_of.F.binds fun _ _ _ _ _ _ us hl => by obtain ⟨_, _, _, _, rfl⟩ := len4 hl; rfl
theorem ok_factors_of (T : Txt K mg) : FnOk P w K mg base CX0 6 T.factors_of.f T.factors_of.fd pm_factors_of (spF K r_factors_of) := by
  have nd := sc_factors_of.nd
  refine data_F T.factors_of.F sc_factors_of fun cdv A outer s H E hr => ?_
  refine ⟨_, (pss_cons (ps_parO (i := 4) (j := 5) rfl nd rfl rfl (Or.inr rfl) (Or.inr rfl) (pa_cons (pe_callB (kcr_len (K := K) rfl) (by rfl) T.len (by decide +kernel) (pa_cons (pv 0) pa_nil)) (pa_cons (pe_callTy (kcr_list (K := K) rfl) (by rfl) T.list (by decide +kernel) (pa_cons (pe_call (ok_values_of T) (hr.mono (by decide)) rfl T.values_of.m T.values_of.F.kp (bi_values_of T) .nil pass0 (pa_cons (pv 0) pa_nil)) pa_nil)) pa_nil)) (by rfl))
    (pss_cons (ps_for PassesOwn.never rfl (kpi_zipA (K := K) rfl rfl T.zip (pa_cons (pv 2) (pa_cons (pv 3) pa_nil))) (kpg_tup (K := K) (n := 2) rfl rfl (pgs_cons (kpg_tup (K := K) (n := 2) rfl rfl (pgs_cons (pg_name (i := 6) nd rfl (Or.inl rfl)) (pgs_cons (pg_name (i := 7) nd rfl (Or.inl rfl)) pgs_nil))) (pgs_cons (pg_name (i := 8) nd rfl (Or.inl rfl)) pgs_nil))) (pss_one (ps_asg (pe_call (ok_less_by T) (hr.mono (by decide)) rfl T.less_by.m T.less_by.F.kp (bi_less_by T) .nil pass0 (pa_cons (pe_ix (kix (K := K) rfl) (pv 5) (pv 6) (fun _ _ => rfl)) (pa_cons (pv 8) pa_nil))) (pg_sub (pv 5) (pv 6) set_list))))
    (pss_one (ps_ret (pe_callTy (kcr_tuple (K := K) rfl) (by rfl) T.tuple (by decide +kernel) (pa_cons (pe_lc (own := [("k", 9)]) rfl nd (pi_range1 rfl T.range (pa_cons (pe_op op_subA (pv 4) (pv 1)) pa_nil)) (blkOk_by (N := nm_factors_of) (sc := defScope s_factors_of) (by decide +kernel)) (fun _ _ _ _ _ => (pg_name (i := 9) nd rfl (Or.inl rfl))) (fun _ _ _ _ _ => pts_nil) (fun _ _ _ _ _ => (pe_call (ok_row_told T) (hr.mono (by decide)) rfl T.row_told.m T.row_told.F.kp (bi_row_told T) .nil pass0 (pa_cons (pv 5) (pa_cons (pe_call (ok_unit_row T) (hr.mono (by decide)) rfl T.unit_row.m T.unit_row.F.kp (bi_unit_row T) .nil pass0 (pa_cons (pv 4) (pa_cons (pv 1) (pa_cons (pv 9) pa_nil)))) pa_nil))))) pa_nil)))))), ?_⟩
  exact ((sk_seq (sk_ypar (yk_cons (gk_cb cd_len (ak_cons gk_var ak_nil)) (yk_cons (gk_cb cd_list (ak_cons (gk_call (ak_cons gk_var ak_nil)) ak_nil)) yk_nil)))
    (sk_seq (sk_for (ik_zipA (ak_cons gk_var (ak_cons gk_var ak_nil))) (gt_tup (gts_cons (gt_tup (gts_cons gt_name (gts_cons gt_name gts_nil))) (gts_cons gt_name gts_nil))) ((sk_put (gk_call (ak_cons (gk_by (gk_ixv gk_var) (gk_op od_ix gk_var gk_var)) (ak_cons gk_var ak_nil))) gk_var) : SOk K _ b_factors_of_1))
    (sk_ret (gk_cb cd_tuple (ak_cons (gk_lc (ik_range1 (ak_cons (gk_op od_sub gk_var gk_var) ak_nil)) gt_name tk_yes (gk_call (ak_cons gk_var (ak_cons (gk_call (ak_cons gk_var (ak_cons gk_var (ak_cons gk_var ak_nil)))) ak_nil))) (by decide)) ak_nil))))) : SOk K _ b_factors_of)
theorem sc_row_of : FnScope nm_row_of pm_row_of (defScope s_row_of) := ⟨rfl, rfl, rfl, by decide +kernel, rfl, by decide +kernel, by decide +kernel⟩
theorem bi_row_of (T : Txt K mg) : Binds K T.row_of.fd pm_row_of [] := T.row_of.F.binds fun _ _ _ _ _ _ us hl => by obtain ⟨_, _, _, rfl⟩ := len3 hl; rfl
theorem ok_row_of (T : Txt K mg) : FnOk P w K mg base CX0 5 T.row_of.f T.row_of.fd pm_row_of (spF K r_row_of) := by
  have nd := sc_row_of.nd
  refine data_F T.row_of.F sc_row_of fun cdv A outer s H E hr => ?_
  refine ⟨_, (pss_cons (ps_set (i := 3) nd rfl (Or.inl rfl) (pe_lst pa_nil))
    (pss_cons (ps_for PassesOwn.never rfl (pi_range1 rfl T.range (pa_cons (pv 2) pa_nil)) (pg_name (i := 4) nd rfl (Or.inr rfl)) (pss_one (ps_expr (kpe_app (K := K) rfl (pv 3) (pe_call (ok_summed T) (hr.mono (by decide)) rfl T.summed.m T.summed.F.kp (bi_summed T) .nil pass0 (pa_cons (pe_lc (own := [("count", 5), ("unit", 6)]) rfl nd (kpi_zipA (K := K) rfl rfl T.zip (pa_cons (pv 1) (pa_cons (pv 0) pa_nil))) (blkOk_by (N := nm_row_of) (sc := defScope s_row_of) (by decide +kernel)) (fun _ _ _ _ _ => (kpg_tup (K := K) (n := 2) rfl rfl (pgs_cons (pg_name (i := 5) nd rfl (Or.inl rfl)) (pgs_cons (pg_name (i := 6) nd rfl (Or.inl rfl)) pgs_nil)))) (fun _ _ _ _ _ => pts_nil) (fun _ _ _ _ _ => (pe_call (ok_multiplied T) (hr.mono (by decide)) rfl T.multiplied.m T.multiplied.F.kp (bi_multiplied T) .nil pass0 (pa_cons (pv 5) (pa_cons (pe_ix (kix (K := K) rfl) (pv 6) (pv 4) (fun _ _ => rfl)) pa_nil))))) pa_nil))))))
    (pss_one (ps_ret (pe_callTy (kcr_tuple (K := K) rfl) (by rfl) T.tuple (by decide +kernel) (pa_cons (pv 3) pa_nil)))))), ?_⟩
  exact ((sk_seq (sk_set (gk_lst ak_nil))
    (sk_seq (sk_for (ik_range1 (ak_cons gk_var ak_nil)) gt_name ((sk_app (gk_call (ak_cons (gk_lc (ik_zipA (ak_cons gk_var (ak_cons gk_var ak_nil))) (gt_tup (gts_cons gt_name (gts_cons gt_name gts_nil))) tk_yes (gk_call (ak_cons gk_var (ak_cons (gk_op od_ix gk_var gk_var) ak_nil))) (by decide)) ak_nil))) : SOk K _ b_row_of_1))
    (sk_ret (gk_cb cd_tuple (ak_cons gk_var ak_nil))))) : SOk K _ b_row_of)
theorem sc_power_row : FnScope nm_power_row pm_power_row (defScope s_power_row) := ⟨rfl, rfl, rfl, by decide +kernel, rfl, by decide +kernel, by decide +kernel⟩
theorem bi_power_row (T : Txt K mg) : Binds K T.power_row.fd pm_power_row [] := T.power_row.F.binds fun _ _ _ _ _ _ us hl => by obtain ⟨_, _, rfl⟩ := len2 hl; rfl
theorem ok_power_row (T : Txt K mg) : FnOk P w K mg base CX0 3 T.power_row.f T.power_row.fd pm_power_row (spF K r_power_row) := by
  have nd := sc_power_row.nd
  refine data_F T.power_row.F sc_power_row fun cdv A outer s H E hr => ?_
  refine ⟨_, (pss_one (ps_ret (pe_lc (own := [("at", 2)]) rfl nd (pi_range1 rfl T.range (pa_cons (pv 0) pa_nil)) (blkOk_by (N := nm_power_row) (sc := defScope s_power_row) (by decide +kernel)) (fun _ _ _ _ _ => (pg_name (i := 2) nd rfl (Or.inl rfl))) (fun _ _ _ _ _ => pts_nil) (fun _ _ _ _ _ => (pe_call (ok_ways_to_choose T) (hr.mono (by decide)) rfl T.ways_to_choose.m T.ways_to_choose.F.kp (bi_ways_to_choose T) .nil pass0 (pa_cons (pv 2) (pa_cons (pv 1) pa_nil))))))), ?_⟩
  exact ((sk_ret (gk_lc (ik_range1 (ak_cons gk_var ak_nil)) gt_name tk_yes (gk_call (ak_cons gk_var (ak_cons gk_var ak_nil))) (by decide))) : SOk K _ b_power_row)
theorem sc_unit_rows : FnScope nm_unit_rows pm_unit_rows (defScope s_unit_rows) := ⟨rfl, rfl, rfl, by decide +kernel, rfl, by decide +kernel, by decide +kernel⟩
theorem bi_unit_rows (T : Txt K mg) : Binds K T.unit_rows.fd pm_unit_rows [] := T.unit_rows.F.binds fun _ _ _ _ _ _ us hl => by obtain ⟨_, _, rfl⟩ := len2 hl; rfl
theorem ok_unit_rows (T : Txt K mg) : FnOk P w K mg base CX0 4 T.unit_rows.f T.unit_rows.fd pm_unit_rows (spF K r_unit_rows) := by
  have nd := sc_unit_rows.nd
  refine data_F T.unit_rows.F sc_unit_rows fun cdv A outer s H E hr => ?_
  refine ⟨_, (pss_cons (ps_set (i := 2) nd rfl (Or.inl rfl) (pe_lst pa_nil))
    (pss_cons (ps_for PassesOwn.never rfl (pi_range1 rfl T.range (pa_cons (pe_callB (cr_min2 rfl) (by rfl) T.min (by decide +kernel) (pa_cons (pv 1) (pa_cons (pv 0) pa_nil))) pa_nil)) (pg_name (i := 3) nd rfl (Or.inl rfl)) (pss_cons (ps_set (i := 4) nd rfl (Or.inl rfl) (pe_call (ok_values_of T) (hr.mono (by decide)) rfl T.values_of.m T.values_of.F.kp (bi_values_of T) .nil pass0 (pa_cons (pe_call (ok_power_row T) (hr.mono (by decide)) rfl T.power_row.m T.power_row.F.kp (bi_power_row T) .nil pass0 (pa_cons (pv 0) (pa_cons (pv 3) pa_nil))) pa_nil)))
    (pss_one (ps_expr (kpe_bm (K := K) (r := rExtend) rfl PySem.F.plainAttrs_list PySem.F.slot_list_extend PySem.F.type_list_extend mt_extend (pv 2) (pa_cons (pe_lst (pa_cons (pv 4) (pa_cons (pe_lc (own := [("one", 5)]) rfl nd (kpi_seq (K := K) rfl (pv 4)) (blkOk_by (N := nm_unit_rows) (sc := defScope s_unit_rows) (by decide +kernel)) (fun _ _ _ _ _ => (pg_name (i := 5) nd rfl (Or.inl rfl))) (fun _ _ _ _ _ => pts_nil) (fun _ _ _ _ _ => (pe_call (ok_multiplied T) (hr.mono (by decide)) rfl T.multiplied.m T.multiplied.F.kp (bi_multiplied T) .nil pass0 (pa_cons (pe_glob rfl T.MINUS.m T.MINUS.r) (pa_cons (pv 5) pa_nil))))) pa_nil))) pa_nil))))))
    (pss_one (ps_ret (pe_op (kop_addB (K := K) rfl) (pv 2) (pe_lc (own := [("k", 6)]) rfl nd (pi_range1 rfl T.range (pa_cons (pe_op op_subA (pv 0) (pv 1)) pa_nil)) (blkOk_by (N := nm_unit_rows) (sc := defScope s_unit_rows) (by decide +kernel)) (fun _ _ _ _ _ => (pg_name (i := 6) nd rfl (Or.inl rfl))) (fun _ _ _ _ _ => pts_nil) (fun _ _ _ _ _ => (pe_call (ok_values_of T) (hr.mono (by decide)) rfl T.values_of.m T.values_of.F.kp (bi_values_of T) .nil pass0 (pa_cons (pe_call (ok_unit_row T) (hr.mono (by decide)) rfl T.unit_row.m T.unit_row.F.kp (bi_unit_row T) .nil pass0 (pa_cons (pv 0) (pa_cons (pv 1) (pa_cons (pv 6) pa_nil)))) pa_nil))))))))), ?_⟩
  exact ((sk_seq (sk_set (gk_lst ak_nil))
    (sk_seq (sk_for (ik_range1 (ak_cons (gk_cb cd_min2 (ak_cons gk_var (ak_cons gk_var ak_nil))) ak_nil)) gt_name ((sk_seq (sk_set (gk_call (ak_cons (gk_call (ak_cons gk_var (ak_cons gk_var ak_nil))) ak_nil)))
    (sk_drop (gk_mut md_ext (ak_cons (gk_lst (ak_cons gk_var (ak_cons (gk_lc (ik_seq gk_var) gt_name tk_yes (gk_call (ak_cons (gk_c T.MINUS.d) (ak_cons gk_var ak_nil))) (by decide)) ak_nil))) ak_nil)))) : SOk K _ b_unit_rows_1))
    (sk_ret (gk_op od_addB gk_var (gk_lc (ik_range1 (ak_cons (gk_op od_sub gk_var gk_var) ak_nil)) gt_name tk_yes (gk_call (ak_cons (gk_call (ak_cons gk_var (ak_cons gk_var (ak_cons gk_var ak_nil)))) ak_nil)) (by decide)))))) : SOk K _ b_unit_rows)
theorem sc_solved : FnScope nm_solved pm_solved (defScope s_solved) := ⟨rfl, rfl, rfl, by decide +kernel, rfl, by decide +kernel, by decide +kernel⟩
theorem bi_solved (T : Txt K mg) : Binds K T.solved.fd pm_solved [] := T.solved.F.binds fun _ _ _ _ _ _ us hl => by obtain ⟨_, _, _, rfl⟩ := len3 hl; rfl
theorem ok_solved (T : Txt K mg) : FnOk P w K mg base CX0 7 T.solved.f T.solved.fd pm_solved (spF K r_solved) := by
  have nd := sc_solved.nd
  refine data_F T.solved.F sc_solved fun cdv A outer s H E hr => ?_
  refine ⟨_, (pss_cons (ps_set (i := 3) nd rfl (Or.inl rfl) (pe_callB (kcr_len (K := K) rfl) (by rfl) T.len (by decide +kernel) (pa_cons (pv 0) pa_nil)))
    (pss_cons (ps_set (i := 4) nd rfl (Or.inl rfl) (pe_call (ok_unit_rows T) (hr.mono (by decide)) rfl T.unit_rows.m T.unit_rows.F.kp (bi_unit_rows T) .nil pass0 (pa_cons (pv 3) (pa_cons (pv 1) pa_nil))))
    (pss_cons (ps_set (i := 5) nd rfl (Or.inl rfl) (pe_make T.mk_Table (ok_Table_init T) (hr.mono (by decide)) rfl T.Table.mg (bi_Table_init T) .nil pass0 (pa_cons (pe_lc (own := [("unit", 12)]) rfl nd (kpi_seq (K := K) rfl (pv 4)) (blkOk_by (N := nm_solved) (sc := defScope s_solved) (by decide +kernel)) (fun _ _ _ _ _ => (pg_name (i := 12) nd rfl (Or.inr rfl))) (fun _ _ _ _ _ => pts_nil) (fun _ _ _ _ _ => (pe_lc (own := [("place", 13), ("one", 14)]) rfl nd (kpi_seq (K := K) rfl (pv 2)) (blkOk_by (by rfl)) (fun _ _ _ _ _ => (kpg_tup (K := K) (n := 2) rfl rfl (pgs_cons (pg_name (i := 13) nd rfl (Or.inl rfl)) (pgs_cons (pg_name (i := 14) nd rfl (Or.inl rfl)) pgs_nil)))) (fun _ _ _ _ _ => pts_nil) (fun _ _ _ _ _ => (pe_ix (kix (K := K) rfl) (pv 12) (pv 13) (fun _ _ => rfl)))))) (pa_cons (pe_lc (own := [("place", 13), ("one", 14)]) rfl nd (kpi_seq (K := K) rfl (pv 2)) (blkOk_by (N := nm_solved) (sc := defScope s_solved) (by decide +kernel)) (fun _ _ _ _ _ => (kpg_tup (K := K) (n := 2) rfl rfl (pgs_cons (pg_name (i := 13) nd rfl (Or.inl rfl)) (pgs_cons (pg_name (i := 14) nd rfl (Or.inl rfl)) pgs_nil)))) (fun _ _ _ _ _ => pts_nil) (fun _ _ _ _ _ => (pv 14))) pa_nil))))
    (pss_cons (ps_set (i := 6) nd rfl (Or.inl rfl) (pe_op (kop_addB (K := K) rfl) (pe_op op_mulA (pe_lst (pa_cons (pe_glob rfl T.NOUGHT.m T.NOUGHT.r) pa_nil)) (pe_callB (kcr_len (K := K) rfl) (by rfl) T.len (by decide +kernel) (pa_cons (pv 4) pa_nil))) (pe_op op_mulA (pe_lst (pa_cons (pe_glob rfl T.ONE.m T.ONE.r) pa_nil)) (pe_callB (kcr_len (K := K) rfl) (by rfl) T.len (by decide +kernel) (pa_cons (pv 2) pa_nil)))))
    (pss_cons (ps_expr (pe_meth (pv 5) T.Table.cls T.Table_lower.m (ok_Table_lower T) (hr.mono (by decide)) (bi_Table_lower T) .nil pass0 (pa_cons (pv 6) (pa_cons (pe_callB (kcr_len (K := K) rfl) (by rfl) T.len (by decide +kernel) (pa_cons (pv 4) pa_nil)) pa_nil))))
    (pss_cons (ps_set (i := 7) nd rfl (Or.inl rfl) (pe_meth (pv 5) T.Table.cls T.Table_counts_of.m (ok_Table_counts_of T) (hr.mono (by decide)) (bi_Table_counts_of T) .nil pass0 (pa_cons (pv 6) pa_nil)))
    (pss_cons (ps_set (i := 8) nd rfl (Or.inl rfl) (pe_call (ok_summed T) (hr.mono (by decide)) rfl T.summed.m T.summed.F.kp (bi_summed T) .nil pass0 (pa_cons (pe_lc (own := [("count", 15), ("place", 13), ("one", 14)]) rfl nd (kpi_zipA (K := K) rfl rfl T.zip (pa_cons (pv 7) (pa_cons (pv 2) pa_nil))) (blkOk_by (N := nm_solved) (sc := defScope s_solved) (by decide +kernel)) (fun _ _ _ _ _ => (kpg_tup (K := K) (n := 2) rfl rfl (pgs_cons (pg_name (i := 15) nd rfl (Or.inl rfl)) (pgs_cons (kpg_tup (K := K) (n := 2) rfl rfl (pgs_cons (pg_name (i := 13) nd rfl (Or.inl rfl)) (pgs_cons (pg_name (i := 14) nd rfl (Or.inl rfl)) pgs_nil))) pgs_nil)))) (fun _ _ _ _ _ => pts_nil) (fun _ _ _ _ _ => (pe_call (ok_multiplied T) (hr.mono (by decide)) rfl T.multiplied.m T.multiplied.F.kp (bi_multiplied T) .nil pass0 (pa_cons (pv 15) (pa_cons (pv 14) pa_nil))))) pa_nil)))
    (pss_cons (ps_if (pt_cmpR (kop_ne (K := K) rfl hr.units) (pv 8) (pe_glob rfl T.NOUGHT.m T.NOUGHT.r) (nomark _)) (pss_one (ps_ret (pe_tup (pa_cons pe_str (pa_cons (pv 7) (pa_cons (pe_call (ok_factors_of T) (hr.mono (by decide)) rfl T.factors_of.m T.factors_of.F.kp (bi_factors_of T) .nil pass0 (pa_cons (pe_op op_mulA (pe_lst (pa_cons pe_int pa_nil)) (pv 3)) (pa_cons (pv 1) (pa_cons (pv 2) (pa_cons (pv 7) pa_nil))))) pa_nil)))))) pss_nil)
    (pss_cons (ps_expr (pe_meth0 (pv 5) T.Table.cls T.Table_clear.m (ok_Table_clear T) (hr.mono (by decide)) (bi_Table_clear T) .nil pass0))
    (pss_cons (ps_set (i := 9) nd rfl (Or.inl rfl) (pe_op (kop_addB (K := K) rfl) (pe_lc (own := [("unit", 12)]) rfl nd (kpi_seq (K := K) rfl (pv 4)) (blkOk_by (N := nm_solved) (sc := defScope s_solved) (by decide +kernel)) (fun _ _ _ _ _ => (pg_name (i := 12) nd rfl (Or.inl rfl))) (fun _ _ _ _ _ => pts_nil) (fun _ _ _ _ _ => (pe_call (ok_row_told T) (hr.mono (by decide)) rfl T.row_told.m T.row_told.F.kp (bi_row_told T) .nil pass0 (pa_cons (pv 0) (pa_cons (pv 12) pa_nil))))) (pe_op op_mulA (pe_lst (pa_cons (pe_glob rfl T.NOUGHT.m T.NOUGHT.r) pa_nil)) (pe_callB (kcr_len (K := K) rfl) (by rfl) T.len (by decide +kernel) (pa_cons (pv 2) pa_nil)))))
    (pss_cons (ps_set (i := 10) nd rfl (Or.inl rfl) (pe_meth (pv 5) T.Table.cls T.Table_lower.m (ok_Table_lower T) (hr.mono (by decide)) (bi_Table_lower T) .nil pass0 (pa_cons (pv 9) (pa_cons (pe_callB (kcr_len (K := K) rfl) (by rfl) T.len (by decide +kernel) (pa_cons (pv 4) pa_nil)) pa_nil))))
    (pss_cons (ps_set (i := 11) nd rfl (Or.inl rfl) (pe_call (ok_row_of T) (hr.mono (by decide)) rfl T.row_of.m T.row_of.F.kp (bi_row_of T) .nil pass0 (pa_cons (pv 4) (pa_cons (pe_meth0 (pv 5) T.Table.cls T.Table_values_now.m (ok_Table_values_now T) (hr.mono (by decide)) (bi_Table_values_now T) .nil pass0) (pa_cons (pv 3) pa_nil)))))
    (pss_cons (ps_if (pt_cmpR op_isNotA (pv 10) pe_non (nomark _)) (pss_one (ps_ret (pe_tup (pa_cons pe_str (pa_cons (pv 11) (pa_cons (pe_call (ok_row_of T) (hr.mono (by decide)) rfl T.row_of.m T.row_of.F.kp (bi_row_of T) .nil pass0 (pa_cons (pv 4) (pa_cons (pe_meth (pv 5) T.Table.cls T.Table_way_of.m (ok_Table_way_of T) (hr.mono (by decide)) (bi_Table_way_of T) .nil pass0 (pa_cons (pv 10) pa_nil)) (pa_cons (pv 3) pa_nil)))) pa_nil)))))) pss_nil)
    (pss_cons (ps_set (i := 7) nd rfl (Or.inl rfl) (pe_meth (pv 5) T.Table.cls T.Table_counts_of.m (ok_Table_counts_of T) (hr.mono (by decide)) (bi_Table_counts_of T) .nil pass0 (pa_cons (pv 9) pa_nil)))
    (pss_one (ps_ret (pe_tup (pa_cons pe_str (pa_cons (pv 11) (pa_cons (pv 7) (pa_cons (pe_call (ok_factors_of T) (hr.mono (by decide)) rfl T.factors_of.m T.factors_of.F.kp (bi_factors_of T) .nil pass0 (pa_cons (pv 0) (pa_cons (pv 1) (pa_cons (pv 2) (pa_cons (pv 7) pa_nil))))) pa_nil))))))))))))))))))))), ?_⟩
  exact ((sk_seq (sk_set (gk_cb cd_len (ak_cons gk_var ak_nil)))
    (sk_seq (sk_set (gk_call (ak_cons gk_var (ak_cons gk_var ak_nil))))
    (sk_makeV (T := T.Table) (j := 5) (ak_cons (gk_lc (ik_seq gk_var) gt_name tk_yes (gk_lc (ik_seq gk_var) (gt_tup (gts_cons gt_name (gts_cons gt_name gts_nil))) tk_yes (gk_op od_ix gk_var gk_var) (by decide)) (by decide)) (ak_cons (gk_lc (ik_seq gk_var) (gt_tup (gts_cons gt_name (gts_cons gt_name gts_nil))) tk_yes gk_var (by decide)) ak_nil))
    (sk_seqV (sk_setV (j := 6) (gk_vfz (GOk.v (gk_op od_addB (gk_op od_mul (gk_lst (ak_cons (gk_c T.NOUGHT.d) ak_nil)) (gk_cb cd_len (ak_cons gk_var ak_nil))) (gk_op od_mul (gk_lst (ak_cons (gk_c T.ONE.d) ak_nil)) (gk_cb cd_len (ak_cons gk_var ak_nil)))))))
    (sk_seqV (sk_dropW (gk_methW (nm := "lower") (T := T.Table) (by decide +kernel) (ak_consV (GOk.v gk_var) (ak_consV (GOk.v (gk_cb cd_len (ak_cons gk_var ak_nil))) (AOk.v ak_nil)))))
    (sk_seqV (sk_setV (j := 7) (gk_vfz (gk_lend9 (T := T.Table) (gk_meth (nm := "counts_of") T.Table (by decide +kernel) (fun _ => .nil) gk_var (ak_cons gk_var ak_nil)))))
    (sk_seqV (sk_setV (j := 8) (gk_vfz (GOk.v (gk_call (ak_cons (gk_lc (ik_zipA (ak_cons gk_var (ak_cons gk_var ak_nil))) (gt_tup (gts_cons gt_name (gts_cons (gt_tup (gts_cons gt_name (gts_cons gt_name gts_nil))) gts_nil))) tk_yes (gk_call (ak_cons gk_var (ak_cons gk_var ak_nil))) (by decide)) ak_nil)))))
    (sk_seqV (sk_ifV (TOk.v (tk_test (gk_op od_ne gk_var (gk_c T.NOUGHT.d)))) (sk_retV (GOk.v (gk_tup (ak_cons gk_str (ak_cons gk_var (ak_cons (gk_call (ak_cons (gk_op od_mul (gk_lst (ak_cons gk_int ak_nil)) gk_var) (ak_cons gk_var (ak_cons gk_var (ak_cons gk_var ak_nil))))) ak_nil)))))) sk_nextV)
    (sk_seqV (sk_dropW (gk_methW (nm := "clear") (T := T.Table) (by decide +kernel) (AOk.v ak_nil)))
    (sk_seqV (sk_setV (j := 9) (gk_vfz (GOk.v (gk_op od_addB (gk_lc (ik_seq gk_var) gt_name tk_yes (gk_call (ak_cons gk_var (ak_cons gk_var ak_nil))) (by decide)) (gk_op od_mul (gk_lst (ak_cons (gk_c T.NOUGHT.d) ak_nil)) (gk_cb cd_len (ak_cons gk_var ak_nil)))))))
    (sk_seqV (sk_setW (j := 10) (gk_methW (nm := "lower") (T := T.Table) (by decide +kernel) (ak_consV (GOk.v gk_var) (ak_consV (GOk.v (gk_cb cd_len (ak_cons gk_var ak_nil))) (AOk.v ak_nil)))))
    (sk_seqV (sk_setV (j := 11) (gk_vfz (gk_callV (ak_consV (GOk.v gk_var) (ak_consV (gk_lend9 (T := T.Table) (gk_meth (nm := "values_now") T.Table (by decide +kernel) (fun _ => .nil) gk_var ak_nil)) (ak_consV (GOk.v gk_var) (AOk.v ak_nil)))))))
    (sk_seqV (sk_ifV (TOk.v (tk_test (gk_op od_isNot gk_var gk_non))) (sk_retV (gk_tupV (ak_consV (GOk.v gk_str) (ak_consV (GOk.v gk_var) (ak_consV (gk_callV (ak_consV (GOk.v gk_var) (ak_consV (gk_lend9 (T := T.Table) (gk_meth (nm := "way_of") T.Table (by decide +kernel) (fun _ => .nil) gk_var (ak_cons gk_var ak_nil))) (ak_consV (GOk.v gk_var) (AOk.v ak_nil))))) (AOk.v ak_nil)))))) sk_nextV)
    (sk_seqV (sk_setV (j := 7) (gk_vfz (gk_lend9 (T := T.Table) (gk_meth (nm := "counts_of") T.Table (by decide +kernel) (fun _ => .nil) gk_var (ak_cons gk_var ak_nil)))))
    (sk_retV (GOk.v (gk_tup (ak_cons gk_str (ak_cons gk_var (ak_cons gk_var (ak_cons (gk_call (ak_cons gk_var (ak_cons gk_var (ak_cons gk_var (ak_cons gk_var ak_nil))))) ak_nil))))))))))))))))))))) : SOk K _ b_solved)
theorem sc_row_paper : FnScope nm_row_paper pm_row_paper (defScope s_row_paper) := ⟨rfl, rfl, rfl, by decide +kernel, rfl, by decide +kernel, by decide +kernel⟩
theorem bi_row_paper (T : Txt K mg) : Binds K T.row_paper.fd pm_row_paper [] := T.row_paper.F.binds fun _ _ _ _ _ _ us hl => by obtain ⟨_, _, _, rfl⟩ := len3 hl; rfl
theorem ok_row_paper (T : Txt K mg) : FnOk P w K mg base CX0 8 T.row_paper.f T.row_paper.fd pm_row_paper (spF K r_row_paper) := by
  have nd := sc_row_paper.nd
  refine data_F T.row_paper.F sc_row_paper fun cdv A outer s H E hr => ?_
  refine ⟨_, (pss_one (ps_ret (pe_call (ok_solved T) (hr.mono (by decide)) rfl T.solved.m T.solved.F.kp (bi_solved T) .nil pass0 (pa_cons (pv 0) (pa_cons (pv 1) (pa_cons (pe_call (ok_need_seen T) (hr.mono (by decide)) rfl T.need_seen.m T.need_seen.F.kp (bi_need_seen T) .nil pass0 (pa_cons (pv 2) (pa_cons (pe_callB (kcr_len (K := K) rfl) (by rfl) T.len (by decide +kernel) (pa_cons (pv 0) pa_nil)) pa_nil))) pa_nil)))))), ?_⟩
  exact ((sk_ret (gk_call (ak_cons gk_var (ak_cons gk_var (ak_cons (gk_call (ak_cons gk_var (ak_cons (gk_cb cd_len (ak_cons gk_var ak_nil)) ak_nil))) ak_nil))))) : SOk K _ b_row_paper)
theorem sc_row_least : FnScope nm_row_least pm_row_least (defScope s_row_least) := ⟨rfl, rfl, rfl, by decide +kernel, rfl, by decide +kernel, by decide +kernel⟩
theorem bi_row_least (T : Txt K mg) : Binds K T.row_least.fd pm_row_least [] := T.row_least.F.binds fun _ _ _ _ _ _ us hl => by obtain ⟨_, _, _, rfl⟩ := len3 hl; rfl
theorem ok_row_least (T : Txt K mg) : FnOk P w K mg base CX0 9 T.row_least.f T.row_least.fd pm_row_least (spF K r_row_least) := by
  have nd := sc_row_least.nd
  refine data_F T.row_least.F sc_row_least fun cdv A outer s H E hr => ?_
  refine ⟨_, (pss_cons (ps_set (i := 3) nd rfl (Or.inl rfl) (pe_call (ok_row_paper T) (hr.mono (by decide)) rfl T.row_paper.m T.row_paper.F.kp (bi_row_paper T) .nil pass0 (pa_cons (pv 0) (pa_cons (pv 1) (pa_cons (pv 2) pa_nil)))))
    (pss_one (ps_ret (pe_ifExp (pt_cmpR (kop_eq (K := K) rfl hr.units) (pe_ix (kix (K := K) rfl) (pv 3) pe_int (fun _ _ => rfl)) pe_str (nomark _)) (pe_call (ok_row_told T) (hr.mono (by decide)) rfl T.row_told.m T.row_told.F.kp (bi_row_told T) .nil pass0 (pa_cons (pv 0) (pa_cons (pe_ix (kix (K := K) rfl) (pv 3) pe_int (fun _ _ => rfl)) pa_nil))) (pe_ix (kix (K := K) rfl) (pv 3) pe_int (fun _ _ => rfl)))))), ?_⟩
  exact ((sk_seq (sk_set (gk_call (ak_cons gk_var (ak_cons gk_var (ak_cons gk_var ak_nil)))))
    (sk_ret (gk_if (tk_test (gk_op od_eq (gk_op od_ix gk_var gk_int) gk_str)) (gk_call (ak_cons gk_var (ak_cons (gk_op od_ix gk_var gk_int) ak_nil))) (gk_op od_ix gk_var gk_int)))) : SOk K _ b_row_least)
theorem sc_row_greatest : FnScope nm_row_greatest pm_row_greatest (defScope s_row_greatest) := ⟨rfl, rfl, rfl, by decide +kernel, rfl, by decide +kernel, by decide +kernel⟩
theorem bi_row_greatest (T : Txt K mg) : Binds K T.row_greatest.fd pm_row_greatest [] := T.row_greatest.F.binds fun _ _ _ _ _ _ us hl => by obtain ⟨_, _, _, rfl⟩ := len3 hl; rfl
theorem ok_row_greatest (T : Txt K mg) : FnOk P w K mg base CX0 10 T.row_greatest.f T.row_greatest.fd pm_row_greatest (spF K r_row_greatest) := by
  have nd := sc_row_greatest.nd
  refine data_F T.row_greatest.F sc_row_greatest fun cdv A outer s H E hr => ?_
  refine ⟨_, (pss_cons (ps_set (i := 3) nd rfl (Or.inl rfl) (pe_call (ok_row_least T) (hr.mono (by decide)) rfl T.row_least.m T.row_least.F.kp (bi_row_least T) .nil pass0 (pa_cons (pe_lc (own := [("one", 4)]) rfl nd (kpi_seq (K := K) rfl (pe_call (ok_values_of T) (hr.mono (by decide)) rfl T.values_of.m T.values_of.F.kp (bi_values_of T) .nil pass0 (pa_cons (pv 0) pa_nil))) (blkOk_by (N := nm_row_greatest) (sc := defScope s_row_greatest) (by decide +kernel)) (fun _ _ _ _ _ => (pg_name (i := 4) nd rfl (Or.inl rfl))) (fun _ _ _ _ _ => pts_nil) (fun _ _ _ _ _ => (pe_call (ok_multiplied T) (hr.mono (by decide)) rfl T.multiplied.m T.multiplied.F.kp (bi_multiplied T) .nil pass0 (pa_cons (pe_glob rfl T.MINUS.m T.MINUS.r) (pa_cons (pv 4) pa_nil))))) (pa_cons (pv 1) (pa_cons (pv 2) pa_nil)))))
    (pss_one (ps_ret (pe_ifExp (kpt_tru (K := K) rfl (pe_callB (kcr_isi (K := K) rfl) (by rfl) T.isinstance (by decide +kernel) (pa_cons (pv 3) (pa_cons (pe_bltn (v := .ty "str") (u := .type "str") (by rfl) T.str (by decide +kernel) rfl) pa_nil))) (by intro _; rfl)) (pv 3) (pe_call (ok_multiplied T) (hr.mono (by decide)) rfl T.multiplied.m T.multiplied.F.kp (bi_multiplied T) .nil pass0 (pa_cons (pe_glob rfl T.MINUS.m T.MINUS.r) (pa_cons (pv 3) pa_nil))))))), ?_⟩
  exact ((sk_seq (sk_set (gk_call (ak_cons (gk_lc (ik_seq (gk_call (ak_cons gk_var ak_nil))) gt_name tk_yes (gk_call (ak_cons (gk_c T.MINUS.d) (ak_cons gk_var ak_nil))) (by decide)) (ak_cons gk_var (ak_cons gk_var ak_nil)))))
    (sk_ret (gk_if (tk_truK (gk_cb cd_isi (ak_cons gk_var (ak_cons (gk_c fun _ => .ty _) ak_nil)))) gk_var (gk_call (ak_cons (gk_c T.MINUS.d) (ak_cons gk_var ak_nil)))))) : SOk K _ b_row_greatest)
theorem sc_row_kernel : FnScope nm_row_kernel pm_row_kernel (defScope s_row_kernel) := ⟨rfl, rfl, rfl, by decide +kernel, rfl, by decide +kernel, by decide +kernel⟩
theorem bi_row_kernel (T : Txt K mg) : Binds K T.row_kernel.fd pm_row_kernel [] := T.row_kernel.F.binds fun _ _ _ _ _ _ us hl => by obtain ⟨_, _, rfl⟩ := len2 hl; rfl
theorem ok_row_kernel (T : Txt K mg) : FnOk P w K mg base CX0 6 T.row_kernel.f T.row_kernel.fd pm_row_kernel (spF K r_row_kernel) := by
  have nd := sc_row_kernel.nd
  refine data_F T.row_kernel.F sc_row_kernel fun cdv A outer s H E hr => ?_
  refine ⟨_, (pss_cons (ps_set (i := 2) nd rfl (Or.inr rfl) (pe_callB (kcr_len (K := K) rfl) (by rfl) T.len (by decide +kernel) (pa_cons (pv 0) pa_nil)))
    (pss_one (ps_ret (pe_callTy (kcr_tuple (K := K) rfl) (by rfl) T.tuple (by decide +kernel) (pa_cons (pe_lc (own := [("k", 3)]) rfl nd (pi_range1 rfl T.range (pa_cons (pe_op op_subA (pv 2) (pv 1)) pa_nil)) (blkOk_by (N := nm_row_kernel) (sc := defScope s_row_kernel) (by decide +kernel)) (fun _ _ _ _ _ => (pg_name (i := 3) nd rfl (Or.inl rfl))) (fun _ _ _ _ _ => pts_nil) (fun _ _ _ _ _ => (pe_call (ok_row_told T) (hr.mono (by decide)) rfl T.row_told.m T.row_told.F.kp (bi_row_told T) .nil pass0 (pa_cons (pv 0) (pa_cons (pe_call (ok_unit_row T) (hr.mono (by decide)) rfl T.unit_row.m T.unit_row.F.kp (bi_unit_row T) .nil pass0 (pa_cons (pv 2) (pa_cons (pv 1) (pa_cons (pv 3) pa_nil)))) pa_nil))))) pa_nil))))), ?_⟩
  exact ((sk_seq (sk_set (gk_cb cd_len (ak_cons gk_var ak_nil)))
    (sk_ret (gk_cb cd_tuple (ak_cons (gk_lc (ik_range1 (ak_cons (gk_op od_sub gk_var gk_var) ak_nil)) gt_name tk_yes (gk_call (ak_cons gk_var (ak_cons (gk_call (ak_cons gk_var (ak_cons gk_var (ak_cons gk_var ak_nil)))) ak_nil))) (by decide)) ak_nil)))) : SOk K _ b_row_kernel)
theorem sc_row_refuting : FnScope nm_row_refuting pm_row_refuting (defScope s_row_refuting) := ⟨rfl, rfl, rfl, by decide +kernel, rfl, by decide +kernel, by decide +kernel⟩
theorem bi_row_refuting (T : Txt K mg) : Binds K T.row_refuting.fd pm_row_refuting [] := T.row_refuting.F.binds fun _ _ _ _ _ _ us hl => by obtain ⟨_, _, rfl⟩ := len2 hl; rfl
theorem ok_row_refuting (T : Txt K mg) : FnOk P w K mg base CX0 7 T.row_refuting.f T.row_refuting.fd pm_row_refuting (spF K r_row_refuting) := by
  have nd := sc_row_refuting.nd
  refine data_F T.row_refuting.F sc_row_refuting fun cdv A outer s H E hr => ?_
  refine ⟨_, (pss_cons (ps_set (i := 2) nd rfl (Or.inl rfl) (pe_callB (kcr_len (K := K) rfl) (by rfl) T.len (by decide +kernel) (pa_cons (pv 0) pa_nil)))
    (pss_cons (ps_for PassesOwn.never rfl (pi_range1 rfl T.range (pa_cons (pe_callB (cr_min2 rfl) (by rfl) T.min (by decide +kernel) (pa_cons (pv 1) (pa_cons (pv 2) pa_nil))) pa_nil)) (pg_name (i := 3) nd rfl (Or.inl rfl)) (pss_cons (ps_set (i := 4) nd rfl (Or.inl rfl) (pe_call (ok_power_row T) (hr.mono (by decide)) rfl T.power_row.m T.power_row.F.kp (bi_power_row T) .nil pass0 (pa_cons (pv 2) (pa_cons (pv 3) pa_nil))))
    (pss_cons (ps_set (i := 5) nd rfl (Or.inl rfl) (pe_call (ok_row_told T) (hr.mono (by decide)) rfl T.row_told.m T.row_told.F.kp (bi_row_told T) .nil pass0 (pa_cons (pv 0) (pa_cons (pv 4) pa_nil))))
    (pss_one (ps_if (pt_cmpR (kop_ne (K := K) rfl hr.units) (pv 5) (pe_glob rfl T.NOUGHT.m T.NOUGHT.r) (nomark _)) (pss_cons (ps_set (i := 6) nd rfl (Or.inr rfl) (pe_ifExp (kpt_tru (K := K) rfl (pe_call (ok_is_less T) (hr.mono (by decide)) rfl T.is_less.m T.is_less.F.kp (bi_is_less T) .nil pass0 (pa_cons (pv 5) (pa_cons (pe_glob rfl T.NOUGHT.m T.NOUGHT.r) pa_nil))) (by intro _; rfl)) pe_int (pe_un un_neg pe_int)))
    (pss_one (ps_ret (pe_callTy (kcr_tuple (K := K) rfl) (by rfl) T.tuple (by decide +kernel) (pa_cons (pe_lc (own := [("one", 8)]) rfl nd (kpi_seq (K := K) rfl (pv 4)) (blkOk_by (N := nm_row_refuting) (sc := defScope s_row_refuting) (by decide +kernel)) (fun _ _ _ _ _ => (pg_name (i := 8) nd rfl (Or.inl rfl))) (fun _ _ _ _ _ => pts_nil) (fun _ _ _ _ _ => (pe_tup (pa_cons (pe_op op_mulA (pv 6) (pv 8)) (pa_cons pe_int pa_nil))))) pa_nil))))) pss_nil)))))
    (pss_cons (ps_for PassesOwn.never rfl (kpi_enumA (K := K) rfl rfl T.enumerate (pa_cons (pe_call (ok_row_kernel T) (hr.mono (by decide)) rfl T.row_kernel.m T.row_kernel.F.kp (bi_row_kernel T) .nil pass0 (pa_cons (pv 0) (pa_cons (pv 1) pa_nil))) pa_nil)) (kpg_tup (K := K) (n := 2) rfl rfl (pgs_cons (pg_name (i := 7) nd rfl (Or.inl rfl)) (pgs_cons (pg_name (i := 8) nd rfl (Or.inl rfl)) pgs_nil))) (pss_one (ps_if (kpt_tru (K := K) rfl (pe_call (ok_is_less T) (hr.mono (by decide)) rfl T.is_less.m T.is_less.F.kp (bi_is_less T) .nil pass0 (pa_cons (pv 8) (pa_cons (pe_glob rfl T.NOUGHT.m T.NOUGHT.r) pa_nil))) (by intro _; rfl)) (pss_one (ps_ret (pe_callTy (kcr_tuple (K := K) rfl) (by rfl) T.tuple (by decide +kernel) (pa_cons (pe_call (ok_values_of T) (hr.mono (by decide)) rfl T.values_of.m T.values_of.F.kp (bi_values_of T) .nil pass0 (pa_cons (pe_call (ok_unit_row T) (hr.mono (by decide)) rfl T.unit_row.m T.unit_row.F.kp (bi_unit_row T) .nil pass0 (pa_cons (pv 2) (pa_cons (pv 1) (pa_cons (pv 7) pa_nil)))) pa_nil)) pa_nil)))) pss_nil)))
    (pss_one (ps_ret pe_non))))), ?_⟩
  exact ((sk_seq (sk_set (gk_cb cd_len (ak_cons gk_var ak_nil)))
    (sk_seq (sk_for (ik_range1 (ak_cons (gk_cb cd_min2 (ak_cons gk_var (ak_cons gk_var ak_nil))) ak_nil)) gt_name ((sk_seq (sk_set (gk_call (ak_cons gk_var (ak_cons gk_var ak_nil))))
    (sk_seq (sk_set (gk_call (ak_cons gk_var (ak_cons gk_var ak_nil))))
    (sk_if (tk_test (gk_op od_ne gk_var (gk_c T.NOUGHT.d))) (sk_seq (sk_set (gk_if (tk_truK (gk_call (ak_cons gk_var (ak_cons (gk_c T.NOUGHT.d) ak_nil)))) gk_int (gk_un ud_neg gk_int)))
    (sk_ret (gk_cb cd_tuple (ak_cons (gk_lc (ik_seq gk_var) gt_name tk_yes (gk_tup (ak_cons (gk_op od_mul gk_var gk_var) (ak_cons gk_int ak_nil))) (by decide)) ak_nil)))) sk_next))) : SOk K _ b_row_refuting_1))
    (sk_seq (sk_for (ik_enumA (ak_cons (gk_call (ak_cons gk_var (ak_cons gk_var ak_nil))) ak_nil)) (gt_tup (gts_cons gt_name (gts_cons gt_name gts_nil))) ((sk_if (tk_truK (gk_call (ak_cons gk_var (ak_cons (gk_c T.NOUGHT.d) ak_nil)))) (sk_ret (gk_cb cd_tuple (ak_cons (gk_call (ak_cons (gk_call (ak_cons gk_var (ak_cons gk_var (ak_cons gk_var ak_nil)))) ak_nil)) ak_nil))) sk_next) : SOk K _ b_row_refuting_2))
    (sk_ret gk_non)))) : SOk K _ b_row_refuting)
theorem sc_row_never_below : FnScope nm_row_never_below pm_row_never_below (defScope s_row_never_below) := ⟨rfl, rfl, rfl, by decide +kernel, rfl, by decide +kernel, by decide +kernel⟩
theorem bi_row_never_below (T : Txt K mg) : Binds K T.row_never_below.fd pm_row_never_below [] := T.row_never_below.F.binds fun _ _ _ _ _ _ us hl => by obtain ⟨_, _, rfl⟩ := len2 hl; rfl
theorem ok_row_never_below (T : Txt K mg) : FnOk P w K mg base CX0 8 T.row_never_below.f T.row_never_below.fd pm_row_never_below (spF K r_row_never_below) := by
  have nd := sc_row_never_below.nd
  refine data_F T.row_never_below.F sc_row_never_below fun cdv A outer s H E hr => ?_
  refine ⟨_, (pss_one (ps_ret (pe_cmpR op_isA (pe_call (ok_row_refuting T) (hr.mono (by decide)) rfl T.row_refuting.m T.row_refuting.F.kp (bi_row_refuting T) .nil pass0 (pa_cons (pv 0) (pa_cons (pv 1) pa_nil))) pe_non (nomark _)))), ?_⟩
  exact ((sk_ret (gk_op od_is (gk_call (ak_cons gk_var (ak_cons gk_var ak_nil))) gk_non)) : SOk K _ b_row_never_below)
theorem sc_are_values : FnScope nm_are_values pm_are_values (defScope s_are_values) := ⟨rfl, rfl, rfl, by decide +kernel, rfl, by decide +kernel, by decide +kernel⟩
theorem bi_are_values (T : Txt K mg) : Binds K T.are_values.fd pm_are_values [] := T.are_values.F.binds fun _ _ _ _ _ _ us hl => by obtain ⟨_, _, rfl⟩ := len2 hl; rfl
theorem ok_are_values (T : Txt K mg) : FnOk P w K mg base CX0 4 T.are_values.f T.are_values.fd pm_are_values (spF K r_are_values) := by
  have nd := sc_are_values.nd
  refine data_F T.are_values.F sc_are_values fun cdv A outer s H E hr => ?_
  refine ⟨_, (pss_one (ps_ret (pe_and (pe_callB (kcr_isi (K := K) rfl) (by rfl) T.isinstance (by decide +kernel) (pa_cons (pv 0) (pa_cons (pe_bltn (v := .ty "tuple") (u := .type "tuple") (by rfl) T.tuple (by decide +kernel) rfl) pa_nil))) (pe_and (pe_cmpR (kop_eq (K := K) rfl hr.units) (pe_callB (kcr_len (K := K) rfl) (by rfl) T.len (by decide +kernel) (pa_cons (pv 0) pa_nil)) (pv 1) (nomark _)) (pe_one (pe_callB (kcr_all (K := K) rfl rfl) (by rfl) T.all (by decide +kernel) (pa_cons (pe_lc (own := [("one", 2)]) rfl nd (kpi_seq (K := K) rfl (pv 0)) (blkOk_by (N := nm_are_values) (sc := defScope s_are_values) (by decide +kernel)) (fun _ _ _ _ _ => (pg_name (i := 2) nd rfl (Or.inl rfl))) (fun _ _ _ _ _ => pts_nil) (fun _ _ _ _ _ => (pe_call (ok_is_value T) (hr.mono (by decide)) rfl T.is_value.m T.is_value.F.kp (bi_is_value T) .nil pass0 (pa_cons (pv 2) pa_nil)))) pa_nil))))))), ?_⟩
  exact ((sk_ret (gk_vand (gk_cb cd_isi (ak_cons gk_var (ak_cons (gk_c fun _ => .ty _) ak_nil))) (gk_vand (gk_op od_eq (gk_cb cd_len (ak_cons gk_var ak_nil)) gk_var) (gk_cb cd_all (ak_cons (gk_lc (ik_seq gk_var) gt_name tk_yes (gk_call (ak_cons gk_var ak_nil)) (by decide)) ak_nil))))) : SOk K _ b_are_values)
theorem sc_are_counts : FnScope nm_are_counts pm_are_counts (defScope s_are_counts) := ⟨rfl, rfl, rfl, by decide +kernel, rfl, by decide +kernel, by decide +kernel⟩
theorem bi_are_counts (T : Txt K mg) : Binds K T.are_counts.fd pm_are_counts [] := T.are_counts.F.binds fun _ _ _ _ _ _ us hl => by obtain ⟨_, _, _, _, _, rfl⟩ := len5 hl; rfl
theorem ok_are_counts (T : Txt K mg) : FnOk P w K mg base CX0 5 T.are_counts.f T.are_counts.fd pm_are_counts (spF K r_are_counts) := by
  have nd := sc_are_counts.nd
  refine data_F T.are_counts.F sc_are_counts fun cdv A outer s H E hr => ?_
  refine ⟨_, (pss_cons (ps_set (i := 5) nd rfl (Or.inl rfl) (pe_callB (kcr_len (K := K) rfl) (by rfl) T.len (by decide +kernel) (pa_cons (pv 2) pa_nil)))
    (pss_cons (ps_if (PW.pt (pw_or (pt_not (kpt_tru (K := K) rfl (pe_call (ok_are_values T) (hr.mono (by decide)) rfl T.are_values.m T.are_values.F.kp (bi_are_values T) .nil pass0 (pa_cons (pv 0) (pa_cons (pe_callB (kcr_len (K := K) rfl) (by rfl) T.len (by decide +kernel) (pa_cons (pv 4) pa_nil)) pa_nil))) (by intro _; rfl))) (pw_or1 (pt_not (kpt_tru (K := K) rfl (pe_call (ok_are_values T) (hr.mono (by decide)) rfl T.are_values.m T.are_values.F.kp (bi_are_values T) .nil pass0 (pa_cons (pv 1) (pa_cons (pe_callB (cr_max2 rfl) (by rfl) T.max (by decide +kernel) (pa_cons pe_int (pa_cons (pe_op op_subA (pv 5) (pv 3)) pa_nil))) pa_nil))) (by intro _; rfl)))))) (pss_one (ps_ret pe_bl)) pss_nil)
    (pss_cons (ps_if (kpt_tru (K := K) rfl (pe_callB (kcr_any (K := K) rfl rfl) (by rfl) T.any (by decide +kernel) (pa_cons (pe_lc (own := [("one", 10)]) rfl nd (kpi_seq (K := K) rfl (pv 1)) (blkOk_by (N := nm_are_counts) (sc := defScope s_are_counts) (by decide +kernel)) (fun _ _ _ _ _ => (pg_name (i := 10) nd rfl (Or.inl rfl))) (fun _ _ _ _ _ => pts_nil) (fun _ _ _ _ _ => (pe_call (ok_is_less T) (hr.mono (by decide)) rfl T.is_less.m T.is_less.F.kp (bi_is_less T) .nil pass0 (pa_cons (pe_call (ok_value_of T) (hr.mono (by decide)) rfl T.value_of.m T.value_of.F.kp (bi_value_of T) .nil pass0 (pa_cons (pv 10) pa_nil)) (pa_cons (pe_glob rfl T.NOUGHT.m T.NOUGHT.r) pa_nil))))) pa_nil)) (by intro _; rfl)) (pss_one (ps_ret pe_bl)) pss_nil)
    (pss_cons (ps_for PassesOwn.never rfl (pi_range1 rfl T.range (pa_cons (pv 5) pa_nil)) (pg_name (i := 6) nd rfl (Or.inr rfl)) (pss_cons (ps_set (i := 7) nd rfl (Or.inr rfl) (pe_lc (own := [("at", 11)]) rfl nd (pi_range1 rfl T.range (pa_cons (pv 5) pa_nil)) (blkOk_by (N := nm_are_counts) (sc := defScope s_are_counts) (by decide +kernel)) (fun _ _ _ _ _ => (pg_name (i := 11) nd rfl (Or.inl rfl))) (fun _ _ _ _ _ => pts_nil) (fun _ _ _ _ _ => (pe_callTy cr_int (by rfl) T.int (by decide +kernel) (pa_cons (pe_cmpR (kop_eq (K := K) rfl hr.units) (pv 11) (pv 6) (nomark _)) pa_nil)))))
    (pss_cons (ps_setLc (i := 8) (own := [("count", 12), ("place", 13), ("one", 10)]) rfl nd rfl rfl (sw_true rfl rfl rfl (by decide +kernel)) (kpi_zipA (K := K) rfl rfl T.zip (pa_cons (pv 0) (pa_cons (pv 4) pa_nil))) (blkOk_by (N := nm_are_counts) (sc := defScope s_are_counts) (by decide +kernel)) (fun _ _ _ _ _ => (kpg_tup (K := K) (n := 2) rfl rfl (pgs_cons (pg_name (i := 12) nd rfl (Or.inl rfl)) (pgs_cons (kpg_tup (K := K) (n := 2) rfl rfl (pgs_cons (pg_name (i := 13) nd rfl (Or.inl rfl)) (pgs_cons (pg_name (i := 10) nd rfl (Or.inl rfl)) pgs_nil))) pgs_nil)))) (fun _ _ _ _ _ => pts_nil) (fun _ _ _ _ _ => (pe_call (ok_multiplied T) (hr.mono (by decide)) rfl T.multiplied.m T.multiplied.F.kp (bi_multiplied T) .nil pass0 (pa_cons (pe_call (ok_value_of T) (hr.mono (by decide)) rfl T.value_of.m T.value_of.F.kp (bi_value_of T) .nil pass0 (pa_cons (pv 12) pa_nil)) (pa_cons (pe_call (ok_value_of T) (hr.mono (by decide)) rfl T.value_of.m T.value_of.F.kp (bi_value_of T) .nil pass0 (pa_cons (pe_ix (kix (K := K) rfl) (pv 7) (pv 13) (fun _ _ => rfl)) pa_nil)) pa_nil)))))
    (pss_cons (ps_set (i := 9) nd rfl (Or.inl rfl) (pe_call (ok_differences T) (hr.mono (by decide)) rfl T.differences.m T.differences.F.kp (bi_differences T) .nil pass0 (pa_cons (pe_call (ok_values_of T) (hr.mono (by decide)) rfl T.values_of.m T.values_of.F.kp (bi_values_of T) .nil pass0 (pa_cons (pv 7) pa_nil)) (pa_cons (pv 3) pa_nil))))
    (pss_cons (ps_expr (kpe_bm (K := K) (r := rExtend) rfl PySem.F.plainAttrs_list PySem.F.slot_list_extend PySem.F.type_list_extend mt_extend (pv 8) (pa_cons (pe_lc (own := [("factor", 14), ("move", 15)]) rfl nd (kpi_zipA (K := K) rfl rfl T.zip (pa_cons (pv 1) (pa_cons (pv 9) pa_nil))) (blkOk_by (N := nm_are_counts) (sc := defScope s_are_counts) (by decide +kernel)) (fun _ _ _ _ _ => (kpg_tup (K := K) (n := 2) rfl rfl (pgs_cons (pg_name (i := 14) nd rfl (Or.inl rfl)) (pgs_cons (pg_name (i := 15) nd rfl (Or.inl rfl)) pgs_nil)))) (fun _ _ _ _ _ => pts_nil) (fun _ _ _ _ _ => (pe_call (ok_multiplied T) (hr.mono (by decide)) rfl T.multiplied.m T.multiplied.F.kp (bi_multiplied T) .nil pass0 (pa_cons (pe_call (ok_value_of T) (hr.mono (by decide)) rfl T.value_of.m T.value_of.F.kp (bi_value_of T) .nil pass0 (pa_cons (pv 14) pa_nil)) (pa_cons (pv 15) pa_nil))))) pa_nil)))
    (pss_one (ps_if (pt_cmpR (kop_ne (K := K) rfl hr.units) (pe_call (ok_summed T) (hr.mono (by decide)) rfl T.summed.m T.summed.F.kp (bi_summed T) .nil pass0 (pa_cons (pv 8) pa_nil)) (pe_call (ok_value_of T) (hr.mono (by decide)) rfl T.value_of.m T.value_of.F.kp (bi_value_of T) .nil pass0 (pa_cons (pe_ix (kix (K := K) rfl) (pv 2) (pv 6) (fun _ _ => rfl)) pa_nil)) (nomark _)) (pss_one (ps_ret pe_bl)) pss_nil)))))))
    (pss_one (ps_ret pe_bl)))))), ?_⟩
  exact ((sk_seq (sk_set (gk_cb cd_len (ak_cons gk_var ak_nil)))
    (sk_seq (sk_if (tk_or (tk_not (tk_truK (gk_call (ak_cons gk_var (ak_cons (gk_cb cd_len (ak_cons gk_var ak_nil)) ak_nil))))) (tk_not (tk_truK (gk_call (ak_cons gk_var (ak_cons (gk_cb cd_max2 (ak_cons gk_int (ak_cons (gk_op od_sub gk_var gk_var) ak_nil))) ak_nil)))))) (sk_ret gk_bl) sk_next)
    (sk_seq (sk_if (tk_truK (gk_cb cd_any (ak_cons (gk_lc (ik_seq gk_var) gt_name tk_yes (gk_call (ak_cons (gk_call (ak_cons gk_var ak_nil)) (ak_cons (gk_c T.NOUGHT.d) ak_nil))) (by decide)) ak_nil))) (sk_ret gk_bl) sk_next)
    (sk_seq (sk_for (ik_range1 (ak_cons gk_var ak_nil)) gt_name ((sk_seq (sk_set (gk_lc (ik_range1 (ak_cons gk_var ak_nil)) gt_name tk_yes (gk_cb cd_int (ak_cons (gk_op od_eq gk_var gk_var) ak_nil)) (by decide)))
    (sk_seq (sk_set (gk_lc (ik_zipA (ak_cons gk_var (ak_cons gk_var ak_nil))) (gt_tup (gts_cons gt_name (gts_cons (gt_tup (gts_cons gt_name (gts_cons gt_name gts_nil))) gts_nil))) tk_yes (gk_call (ak_cons (gk_call (ak_cons gk_var ak_nil)) (ak_cons (gk_call (ak_cons (gk_op od_ix gk_var gk_var) ak_nil)) ak_nil))) (by decide)))
    (sk_seq (sk_set (gk_call (ak_cons (gk_call (ak_cons gk_var ak_nil)) (ak_cons gk_var ak_nil))))
    (sk_seq (sk_drop (gk_mut md_ext (ak_cons (gk_lc (ik_zipA (ak_cons gk_var (ak_cons gk_var ak_nil))) (gt_tup (gts_cons gt_name (gts_cons gt_name gts_nil))) tk_yes (gk_call (ak_cons (gk_call (ak_cons gk_var ak_nil)) (ak_cons gk_var ak_nil))) (by decide)) ak_nil)))
    (sk_if (tk_test (gk_op od_ne (gk_call (ak_cons gk_var ak_nil)) (gk_call (ak_cons (gk_op od_ix gk_var gk_var) ak_nil)))) (sk_ret gk_bl) sk_next))))) : SOk K _ b_are_counts_1))
    (sk_ret gk_bl))))) : SOk K _ b_are_counts)
theorem sc_is_row : FnScope nm_is_row pm_is_row (defScope s_is_row) := ⟨rfl, rfl, rfl, by decide +kernel, rfl, by decide +kernel, by decide +kernel⟩
theorem bi_is_row (T : Txt K mg) : Binds K T.is_row.fd pm_is_row [] := T.is_row.F.binds fun _ _ _ _ _ _ us hl => by obtain ⟨_, _, _, _, rfl⟩ := len4 hl; rfl
theorem ok_is_row (T : Txt K mg) : FnOk P w K mg base CX0 6 T.is_row.f T.is_row.fd pm_is_row (spF K r_is_row) := by
  have nd := sc_is_row.nd
  refine data_F T.is_row.F sc_is_row fun cdv A outer s H E hr => ?_
  refine ⟨_, (pss_cons (ps_if (PW.pt (pw_or (pt_not (kpt_tru (K := K) rfl (pe_call (ok_are_values T) (hr.mono (by decide)) rfl T.are_values.m T.are_values.F.kp (bi_are_values T) .nil pass0 (pa_cons (pv 0) (pa_cons (pv 1) pa_nil))) (by intro _; rfl))) (pw_or1 (pt_not (kpt_tru (K := K) rfl (pe_call (ok_is_kind T) (hr.mono (by decide)) rfl T.is_kind.m T.is_kind.F.kp (bi_is_kind T) .nil pass0 (pa_cons (pv 0) (pa_cons (pv 2) pa_nil))) (by intro _; rfl)))))) (pss_one (ps_ret pe_bl)) pss_nil)
    (pss_one (ps_ret (pe_callB (kcr_all (K := K) rfl rfl) (by rfl) T.all (by decide +kernel) (pa_cons (pe_lc (own := [("place", 4), ("one", 5)]) rfl nd (kpi_seq (K := K) rfl (pv 3)) (blkOk_by (N := nm_is_row) (sc := defScope s_is_row) (by decide +kernel)) (fun _ _ _ _ _ => (kpg_tup (K := K) (n := 2) rfl rfl (pgs_cons (pg_name (i := 4) nd rfl (Or.inl rfl)) (pgs_cons (pg_name (i := 5) nd rfl (Or.inl rfl)) pgs_nil)))) (fun _ _ _ _ _ => pts_nil) (fun _ _ _ _ _ => (pe_cmpR (kop_eq (K := K) rfl hr.units) (pe_call (ok_value_of T) (hr.mono (by decide)) rfl T.value_of.m T.value_of.F.kp (bi_value_of T) .nil pass0 (pa_cons (pe_ix (kix (K := K) rfl) (pv 0) (pv 4) (fun _ _ => rfl)) pa_nil)) (pv 5) (nomark _)))) pa_nil))))), ?_⟩
  exact ((sk_seq (sk_if (tk_or (tk_not (tk_truK (gk_call (ak_cons gk_var (ak_cons gk_var ak_nil))))) (tk_not (tk_truK (gk_call (ak_cons gk_var (ak_cons gk_var ak_nil)))))) (sk_ret gk_bl) sk_next)
    (sk_ret (gk_cb cd_all (ak_cons (gk_lc (ik_seq gk_var) (gt_tup (gts_cons gt_name (gts_cons gt_name gts_nil))) tk_yes (gk_op od_eq (gk_call (ak_cons (gk_op od_ix gk_var gk_var) ak_nil)) gk_var) (by decide)) ak_nil)))) : SOk K _ b_is_row)
theorem sc_worth_of : FnScope nm_worth_of pm_worth_of (defScope s_worth_of) := ⟨rfl, rfl, rfl, by decide +kernel, rfl, by decide +kernel, by decide +kernel⟩
theorem bi_worth_of (T : Txt K mg) : Binds K T.worth_of.fd pm_worth_of [] := T.worth_of.F.binds fun _ _ _ _ _ _ us hl => by obtain ⟨_, _, rfl⟩ := len2 hl; rfl
theorem ok_worth_of (T : Txt K mg) : FnOk P w K mg base CX0 5 T.worth_of.f T.worth_of.fd pm_worth_of (spF K r_worth_of) := by
  have nd := sc_worth_of.nd
  refine data_F T.worth_of.F sc_worth_of fun cdv A outer s H E hr => ?_
  refine ⟨_, (pss_one (ps_ret (pe_call (ok_summed T) (hr.mono (by decide)) rfl T.summed.m T.summed.F.kp (bi_summed T) .nil pass0 (pa_cons (pe_lc (own := [("count", 2), ("place", 3), ("one", 4)]) rfl nd (kpi_zipA (K := K) rfl rfl T.zip (pa_cons (pv 0) (pa_cons (pv 1) pa_nil))) (blkOk_by (N := nm_worth_of) (sc := defScope s_worth_of) (by decide +kernel)) (fun _ _ _ _ _ => (kpg_tup (K := K) (n := 2) rfl rfl (pgs_cons (pg_name (i := 2) nd rfl (Or.inl rfl)) (pgs_cons (kpg_tup (K := K) (n := 2) rfl rfl (pgs_cons (pg_name (i := 3) nd rfl (Or.inl rfl)) (pgs_cons (pg_name (i := 4) nd rfl (Or.inl rfl)) pgs_nil))) pgs_nil)))) (fun _ _ _ _ _ => pts_nil) (fun _ _ _ _ _ => (pe_call (ok_multiplied T) (hr.mono (by decide)) rfl T.multiplied.m T.multiplied.F.kp (bi_multiplied T) .nil pass0 (pa_cons (pe_call (ok_value_of T) (hr.mono (by decide)) rfl T.value_of.m T.value_of.F.kp (bi_value_of T) .nil pass0 (pa_cons (pv 2) pa_nil)) (pa_cons (pv 4) pa_nil))))) pa_nil)))), ?_⟩
  exact ((sk_ret (gk_call (ak_cons (gk_lc (ik_zipA (ak_cons gk_var (ak_cons gk_var ak_nil))) (gt_tup (gts_cons gt_name (gts_cons (gt_tup (gts_cons gt_name (gts_cons gt_name gts_nil))) gts_nil))) tk_yes (gk_call (ak_cons (gk_call (ak_cons gk_var ak_nil)) (ak_cons gk_var ak_nil))) (by decide)) ak_nil))) : SOk K _ b_worth_of)
theorem sc_row_paper_holds : FnScope nm_row_paper_holds pm_row_paper_holds (defScope s_row_paper_holds) := ⟨rfl, rfl, rfl, by decide +kernel, rfl, by decide +kernel, by decide +kernel⟩
theorem bi_row_paper_holds (T : Txt K mg) : Binds K T.row_paper_holds.fd pm_row_paper_holds [] := T.row_paper_holds.F.binds fun _ _ _ _ _ _ us hl => by obtain ⟨_, _, _, _, rfl⟩ := len4 hl; rfl
theorem ok_row_paper_holds (T : Txt K mg) : FnOk P w K mg base CX0 7 T.row_paper_holds.f T.row_paper_holds.fd pm_row_paper_holds (spF K r_row_paper_holds) := by
  have nd := sc_row_paper_holds.nd
  refine data_F T.row_paper_holds.F sc_row_paper_holds fun cdv A outer s H E hr => ?_
  refine ⟨_, (pss_cons (ps_par (i := 4) (j := 5) rfl nd rfl rfl (by decide) rfl rfl (pa_cons (pe_call (ok_need_seen T) (hr.mono (by decide)) rfl T.need_seen.m T.need_seen.F.kp (bi_need_seen T) .nil pass0 (pa_cons (pv 2) (pa_cons (pe_callB (kcr_len (K := K) rfl) (by rfl) T.len (by decide +kernel) (pa_cons (pv 0) pa_nil)) pa_nil))) (pa_cons (pe_callB (kcr_len (K := K) rfl) (by rfl) T.len (by decide +kernel) (pa_cons (pv 0) pa_nil)) pa_nil)) (by rfl))
    (pss_cons (ps_if (PW.pt (pw_or (pt_not (kpt_tru (K := K) rfl (pe_callB (kcr_isi (K := K) rfl) (by rfl) T.isinstance (by decide +kernel) (pa_cons (pv 3) (pa_cons (pe_bltn (v := .ty "tuple") (u := .type "tuple") (by rfl) T.tuple (by decide +kernel) rfl) pa_nil))) (by intro _; rfl))) (pw_or (pt_cmpR (kop_notInB (K := K) rfl (r70 hr)) (pe_callB (kcr_len (K := K) rfl) (by rfl) T.len (by decide +kernel) (pa_cons (pv 3) pa_nil)) (pe_tup (pa_cons pe_int (pa_cons pe_int pa_nil))) (by rfl)) (pw_or1 (pt_not (kpt_tru (K := K) rfl (pe_callB (kcr_isi (K := K) rfl) (by rfl) T.isinstance (by decide +kernel) (pa_cons (pe_ix (kix (K := K) rfl) (pv 3) pe_int (fun _ _ => rfl)) (pa_cons (pe_bltn (v := .ty "str") (u := .type "str") (by rfl) T.str (by decide +kernel) rfl) pa_nil))) (by intro _; rfl))))))) (pss_one (ps_ret pe_bl)) pss_nil)
    (pss_cons (ps_if (PW.pt (pw_and (pt_cmpR (kop_eq (K := K) rfl hr.units) (pe_ix (kix (K := K) rfl) (pv 3) pe_int (fun _ _ => rfl)) pe_str (nomark _)) (pw_and1 (pt_cmpR (kop_eq (K := K) rfl hr.units) (pe_callB (kcr_len (K := K) rfl) (by rfl) T.len (by decide +kernel) (pa_cons (pv 3) pa_nil)) pe_int (nomark _))))) (pss_cons (ps_if (PW.pt (pw_or (pt_not (kpt_tru (K := K) rfl (pe_call (ok_is_row T) (hr.mono (by decide)) rfl T.is_row.m T.is_row.F.kp (bi_is_row T) .nil pass0 (pa_cons (pe_ix (kix (K := K) rfl) (pv 3) pe_int (fun _ _ => rfl)) (pa_cons (pv 5) (pa_cons (pv 1) (pa_cons (pv 4) pa_nil))))) (by intro _; rfl))) (pw_or1 (pt_not (kpt_tru (K := K) rfl (pe_call (ok_are_counts T) (hr.mono (by decide)) rfl T.are_counts.m T.are_counts.F.kp (bi_are_counts T) .nil pass0 (pa_cons (pe_ix (kix (K := K) rfl) (pv 3) pe_int (fun _ _ => rfl)) (pa_cons (pe_ix (kix (K := K) rfl) (pv 3) pe_int (fun _ _ => rfl)) (pa_cons (pv 0) (pa_cons (pv 1) (pa_cons (pv 4) pa_nil)))))) (by intro _; rfl)))))) (pss_one (ps_ret pe_bl)) pss_nil)
    (pss_one (ps_ret (pe_cmpR (kop_eq (K := K) rfl hr.units) (pe_call (ok_row_told T) (hr.mono (by decide)) rfl T.row_told.m T.row_told.F.kp (bi_row_told T) .nil pass0 (pa_cons (pv 0) (pa_cons (pe_ix (kix (K := K) rfl) (pv 3) pe_int (fun _ _ => rfl)) pa_nil))) (pe_call (ok_worth_of T) (hr.mono (by decide)) rfl T.worth_of.m T.worth_of.F.kp (bi_worth_of T) .nil pass0 (pa_cons (pe_ix (kix (K := K) rfl) (pv 3) pe_int (fun _ _ => rfl)) (pa_cons (pv 4) pa_nil))) (nomark _))))) pss_nil)
    (pss_cons (ps_if (PW.pt (pw_and (pt_cmpR (kop_eq (K := K) rfl hr.units) (pe_ix (kix (K := K) rfl) (pv 3) pe_int (fun _ _ => rfl)) pe_str (nomark _)) (pw_and1 (pt_cmpR (kop_eq (K := K) rfl hr.units) (pe_callB (kcr_len (K := K) rfl) (by rfl) T.len (by decide +kernel) (pa_cons (pv 3) pa_nil)) pe_int (nomark _))))) (pss_one (ps_ret (pe_and (pe_call (ok_are_counts T) (hr.mono (by decide)) rfl T.are_counts.m T.are_counts.F.kp (bi_are_counts T) .nil pass0 (pa_cons (pe_ix (kix (K := K) rfl) (pv 3) pe_int (fun _ _ => rfl)) (pa_cons (pe_ix (kix (K := K) rfl) (pv 3) pe_int (fun _ _ => rfl)) (pa_cons (pe_op op_mulA (pe_lst (pa_cons pe_int pa_nil)) (pv 5)) (pa_cons (pv 1) (pa_cons (pv 4) pa_nil)))))) (pe_one (pe_call (ok_is_less T) (hr.mono (by decide)) rfl T.is_less.m T.is_less.F.kp (bi_is_less T) .nil pass0 (pa_cons (pe_glob rfl T.NOUGHT.m T.NOUGHT.r) (pa_cons (pe_call (ok_worth_of T) (hr.mono (by decide)) rfl T.worth_of.m T.worth_of.F.kp (bi_worth_of T) .nil pass0 (pa_cons (pe_ix (kix (K := K) rfl) (pv 3) pe_int (fun _ _ => rfl)) (pa_cons (pv 4) pa_nil))) pa_nil))))))) pss_nil)
    (pss_cons (ps_if (PW.pt (pw_and (pt_cmpR (kop_eq (K := K) rfl hr.units) (pe_ix (kix (K := K) rfl) (pv 3) pe_int (fun _ _ => rfl)) pe_str (nomark _)) (pw_and1 (pt_cmpR (kop_eq (K := K) rfl hr.units) (pe_callB (kcr_len (K := K) rfl) (by rfl) T.len (by decide +kernel) (pa_cons (pv 3) pa_nil)) pe_int (nomark _))))) (pss_cons (ps_setLc (i := 6) (own := [("place", 7), ("one", 8)]) rfl nd rfl rfl (sw_true rfl rfl rfl (by decide +kernel)) (kpi_seq (K := K) rfl (pv 4)) (blkOk_by (N := nm_row_paper_holds) (sc := defScope s_row_paper_holds) (by decide +kernel)) (fun _ _ _ _ _ => (kpg_tup (K := K) (n := 2) rfl rfl (pgs_cons (pg_name (i := 7) nd rfl (Or.inl rfl)) (pgs_cons (pg_name (i := 8) nd rfl (Or.inl rfl)) pgs_nil)))) (fun _ _ _ _ _ => pts_nil) (fun _ _ _ _ _ => (pe_tup (pa_cons (pv 7) (pa_cons (pe_glob rfl T.NOUGHT.m T.NOUGHT.r) pa_nil)))))
    (pss_cons (ps_if (PW.pt (pw_or (pt_not (kpt_tru (K := K) rfl (pe_call (ok_is_row T) (hr.mono (by decide)) rfl T.is_row.m T.is_row.F.kp (bi_is_row T) .nil pass0 (pa_cons (pe_ix (kix (K := K) rfl) (pv 3) pe_int (fun _ _ => rfl)) (pa_cons (pv 5) (pa_cons (pv 1) (pa_cons (pv 4) pa_nil))))) (by intro _; rfl))) (pw_or1 (pt_not (kpt_tru (K := K) rfl (pe_call (ok_is_row T) (hr.mono (by decide)) rfl T.is_row.m T.is_row.F.kp (bi_is_row T) .nil pass0 (pa_cons (pe_ix (kix (K := K) rfl) (pv 3) pe_int (fun _ _ => rfl)) (pa_cons (pv 5) (pa_cons (pv 1) (pa_cons (pv 6) pa_nil))))) (by intro _; rfl)))))) (pss_one (ps_ret pe_bl)) pss_nil)
    (pss_one (ps_ret (pe_call (ok_is_less T) (hr.mono (by decide)) rfl T.is_less.m T.is_less.F.kp (bi_is_less T) .nil pass0 (pa_cons (pe_call (ok_row_told T) (hr.mono (by decide)) rfl T.row_told.m T.row_told.F.kp (bi_row_told T) .nil pass0 (pa_cons (pv 0) (pa_cons (pe_ix (kix (K := K) rfl) (pv 3) pe_int (fun _ _ => rfl)) pa_nil))) (pa_cons (pe_glob rfl T.NOUGHT.m T.NOUGHT.r) pa_nil))))))) pss_nil)
    (pss_one (ps_ret pe_bl))))))), ?_⟩
  exact ((sk_seq (sk_ypar (yk_cons (gk_call (ak_cons gk_var (ak_cons (gk_cb cd_len (ak_cons gk_var ak_nil)) ak_nil))) (yk_cons (gk_cb cd_len (ak_cons gk_var ak_nil)) yk_nil)))
    (sk_seq (sk_if (tk_or (tk_not (tk_truK (gk_cb cd_isi (ak_cons gk_var (ak_cons (gk_c fun _ => .ty _) ak_nil))))) (tk_or (tk_test (gk_op od_inB (gk_cb cd_len (ak_cons gk_var ak_nil)) (gk_tup (ak_cons gk_int (ak_cons gk_int ak_nil))))) (tk_not (tk_truK (gk_cb cd_isi (ak_cons (gk_op od_ix gk_var gk_int) (ak_cons (gk_c fun _ => .ty _) ak_nil))))))) (sk_ret gk_bl) sk_next)
    (sk_seq (sk_if (tk_and (tk_test (gk_op od_eq (gk_op od_ix gk_var gk_int) gk_str)) (tk_test (gk_op od_eq (gk_cb cd_len (ak_cons gk_var ak_nil)) gk_int))) (sk_seq (sk_if (tk_or (tk_not (tk_truK (gk_call (ak_cons (gk_op od_ix gk_var gk_int) (ak_cons gk_var (ak_cons gk_var (ak_cons gk_var ak_nil))))))) (tk_not (tk_truK (gk_call (ak_cons (gk_op od_ix gk_var gk_int) (ak_cons (gk_op od_ix gk_var gk_int) (ak_cons gk_var (ak_cons gk_var (ak_cons gk_var ak_nil))))))))) (sk_ret gk_bl) sk_next)
    (sk_ret (gk_op od_eq (gk_call (ak_cons gk_var (ak_cons (gk_op od_ix gk_var gk_int) ak_nil))) (gk_call (ak_cons (gk_op od_ix gk_var gk_int) (ak_cons gk_var ak_nil)))))) sk_next)
    (sk_seq (sk_if (tk_and (tk_test (gk_op od_eq (gk_op od_ix gk_var gk_int) gk_str)) (tk_test (gk_op od_eq (gk_cb cd_len (ak_cons gk_var ak_nil)) gk_int))) (sk_ret (gk_vand (gk_call (ak_cons (gk_op od_ix gk_var gk_int) (ak_cons (gk_op od_ix gk_var gk_int) (ak_cons (gk_op od_mul (gk_lst (ak_cons gk_int ak_nil)) gk_var) (ak_cons gk_var (ak_cons gk_var ak_nil)))))) (gk_call (ak_cons (gk_c T.NOUGHT.d) (ak_cons (gk_call (ak_cons (gk_op od_ix gk_var gk_int) (ak_cons gk_var ak_nil))) ak_nil))))) sk_next)
    (sk_seq (sk_if (tk_and (tk_test (gk_op od_eq (gk_op od_ix gk_var gk_int) gk_str)) (tk_test (gk_op od_eq (gk_cb cd_len (ak_cons gk_var ak_nil)) gk_int))) (sk_seq (sk_set (gk_lc (ik_seq gk_var) (gt_tup (gts_cons gt_name (gts_cons gt_name gts_nil))) tk_yes (gk_tup (ak_cons gk_var (ak_cons (gk_c T.NOUGHT.d) ak_nil))) (by decide)))
    (sk_seq (sk_if (tk_or (tk_not (tk_truK (gk_call (ak_cons (gk_op od_ix gk_var gk_int) (ak_cons gk_var (ak_cons gk_var (ak_cons gk_var ak_nil))))))) (tk_not (tk_truK (gk_call (ak_cons (gk_op od_ix gk_var gk_int) (ak_cons gk_var (ak_cons gk_var (ak_cons gk_var ak_nil)))))))) (sk_ret gk_bl) sk_next)
    (sk_ret (gk_call (ak_cons (gk_call (ak_cons gk_var (ak_cons (gk_op od_ix gk_var gk_int) ak_nil))) (ak_cons (gk_c T.NOUGHT.d) ak_nil)))))) sk_next)
    (sk_ret gk_bl)))))) : SOk K _ b_row_paper_holds)
theorem sc_law : FnScope nm_law pm_law (defScope s_law) := ⟨rfl, rfl, rfl, by decide +kernel, rfl, by decide +kernel, by decide +kernel⟩
theorem ok_law (T : Txt K mg) {s : Shared} {H : Hp} {a : Addr} {Q : VK} (e0 : Env0 P w K mg base callerA [] s H) (bd0 : BindsTo s T.law.fd ⟨[.ref a], []⟩ [("_law_script", .ref a)]) (q : spF K r_law [.ref a] H Q E0) :
    codeAny (model P w) callerA (.call (.ref T.law.f) ⟨[.ref a], []⟩) (CR CX0 [] P w H s Q E0) s := by
  have nd := sc_law.nd
  refine call_law (k := 10) T.law.F sc_law ⟨rfl, by decide, by decide⟩ (fun cdv s H E hg hr => ?_) e0 bd0 q
  refine ⟨_, (pss_cons (ps_for PassesOwn.never rfl (pi_range1 rfl T.range (pa_cons (pe_callB (cr_max2 rfl) (by rfl) T.max (by decide +kernel) (pa_cons pe_int (pa_cons (pe_callB (cr_min2 rfl) (by rfl) T.min (by decide +kernel) (pa_cons pe_int (pa_cons (pe_callB (kcr_len (K := K) rfl) (by rfl) T.len (by decide +kernel) (pa_cons (pv 0) pa_nil)) pa_nil))) pa_nil))) pa_nil)) (pg_name (i := 1) nd rfl (Or.inl rfl)) (pss_cons (ps_set (i := 2) nd rfl (Or.inr rfl) (pe_call (ok_w_seed T) (hr.mono (by decide)) rfl T.w_seed.m T.w_seed.F.kp (bi_w_seed T) .nil pass0 (pa_cons (pv 0) (pa_cons (pv 1) pa_nil))))
    (pss_one (ps_for PassesOwn.never rfl (pi_range1 rfl T.range (pa_cons pe_int pa_nil)) (pg_name (i := 3) nd rfl (Or.inl rfl)) (pss_cons (ps_par (i := 4) (j := 5) rfl nd rfl rfl (by decide) rfl rfl (pa_cons (pe_op (kop_addB (K := K) rfl) pe_int (pe_call (ok_w_choose T) (hr.mono (by decide)) rfl T.w_choose.m T.w_choose.F.kp (bi_w_choose T) .nil pass0 (pa_cons (pv 2) (pa_cons pe_int pa_nil)))) (pa_cons (pe_call (ok_w_choose T) (hr.mono (by decide)) rfl T.w_choose.m T.w_choose.F.kp (bi_w_choose T) .nil pass0 (pa_cons (pv 2) (pa_cons pe_int pa_nil))) pa_nil)) (by rfl))
    (pss_cons (ps_setLc (i := 6) (own := [("_law_place", 16)]) rfl nd rfl rfl (sw_true rfl rfl rfl (by decide +kernel)) (pi_range1 rfl T.range (pa_cons (pv 4) pa_nil)) (blkOk_by (N := nm_law) (sc := defScope s_law) (by decide +kernel)) (fun _ _ _ _ _ => (pg_name (i := 16) nd rfl (Or.inl rfl))) (fun _ _ _ _ _ => pts_nil) (fun _ _ _ _ _ => (pe_tup (pa_cons (pe_op op_subA (pe_call (ok_w_choose T) (hr.mono (by decide)) rfl T.w_choose.m T.w_choose.F.kp (bi_w_choose T) .nil pass0 (pa_cons (pv 2) (pa_cons pe_int pa_nil))) pe_int) (pa_cons pe_int pa_nil)))))
    (pss_cons (ps_if (pt_cmpR (kop_ne (K := K) rfl hr.units) (pe_call (ok_row_least T) (hr.mono (by decide)) rfl T.row_least.m T.row_least.F.kp (bi_row_least T) .nil pass0 (pa_cons (pv 6) (pa_cons (pv 5) (pa_cons (pe_lst pa_nil) pa_nil)))) (pe_ifExp (kpt_tru (K := K) rfl (pe_call (ok_row_never_below T) (hr.mono (by decide)) rfl T.row_never_below.m T.row_never_below.F.kp (bi_row_never_below T) .nil pass0 (pa_cons (pv 6) (pa_cons (pv 5) pa_nil))) (by intro _; rfl)) (pe_tup (pa_cons pe_int (pa_cons pe_int pa_nil))) pe_str) (nomark _)) (pss_one (ps_ret pe_bl)) pss_nil)
    (pss_cons (ps_setLc (i := 7) (own := [("_law_place", 16)]) rfl nd rfl rfl (sw_true rfl rfl rfl (by decide +kernel)) (pi_range1 rfl T.range (pa_cons (pv 4) pa_nil)) (blkOk_by (N := nm_law) (sc := defScope s_law) (by decide +kernel)) (fun _ _ _ _ _ => (pg_name (i := 16) nd rfl (Or.inl rfl))) (fun _ _ _ _ _ => pts_nil) (fun _ _ _ _ _ => (pe_tup (pa_cons (pe_op op_subA (pe_call (ok_w_choose T) (hr.mono (by decide)) rfl T.w_choose.m T.w_choose.F.kp (bi_w_choose T) .nil pass0 (pa_cons (pv 2) (pa_cons pe_int pa_nil))) pe_int) (pa_cons pe_int pa_nil)))))
    (pss_cons (ps_setLc (i := 8) (own := [("_law_place", 16), ("_law_value", 17)]) rfl nd rfl rfl (sw_true rfl rfl rfl (by decide +kernel)) (kpi_enumA (K := K) rfl rfl T.enumerate (pa_cons (pv 7) pa_nil)) (blkOk_by (N := nm_law) (sc := defScope s_law) (by decide +kernel)) (fun _ _ _ _ _ => (kpg_tup (K := K) (n := 2) rfl rfl (pgs_cons (pg_name (i := 16) nd rfl (Or.inl rfl)) (pgs_cons (pg_name (i := 17) nd rfl (Or.inl rfl)) pgs_nil)))) (fun _ _ _ _ _ => pts_nil) (fun _ _ _ _ _ => (pe_tup (pa_cons (pv 16) (pa_cons (pv 17) pa_nil)))))
    (pss_cons (ps_set (i := 9) nd rfl (Or.inl rfl) (pe_ifExp (kpt_tru (K := K) rfl (pe_call (ok_is_kind T) (hr.mono (by decide)) rfl T.is_kind.m T.is_kind.F.kp (bi_is_kind T) .nil pass0 (pa_cons (pv 7) (pa_cons (pv 5) pa_nil))) (by intro _; rfl)) (pe_call (ok_row_told T) (hr.mono (by decide)) rfl T.row_told.m T.row_told.F.kp (bi_row_told T) .nil pass0 (pa_cons (pv 6) (pa_cons (pv 7) pa_nil))) pe_str))
    (pss_cons (ps_if (pt_cmpR (kop_ne (K := K) rfl hr.units) (pe_call (ok_row_least T) (hr.mono (by decide)) rfl T.row_least.m T.row_least.F.kp (bi_row_least T) .nil pass0 (pa_cons (pv 6) (pa_cons (pv 5) (pa_cons (pv 8) pa_nil)))) (pv 9) (nomark _)) (pss_one (ps_ret pe_bl)) pss_nil)
    (pss_cons (ps_if (pt_cmpR (kop_ne (K := K) rfl hr.units) (pe_call (ok_row_greatest T) (hr.mono (by decide)) rfl T.row_greatest.m T.row_greatest.F.kp (bi_row_greatest T) .nil pass0 (pa_cons (pv 6) (pa_cons (pv 5) (pa_cons (pv 8) pa_nil)))) (pv 9) (nomark _)) (pss_one (ps_ret pe_bl)) pss_nil)
    (pss_cons (ps_setLc (i := 10) (own := [("_law_one", 18)]) rfl nd rfl rfl (sw_true rfl rfl rfl (by decide +kernel)) (kpi_seq (K := K) rfl (pv 8)) (blkOk_by (N := nm_law) (sc := defScope s_law) (by decide +kernel)) (fun _ _ _ _ _ => (pg_name (i := 18) nd rfl (Or.inl rfl))) (fun _ _ _ _ _ => (pts_one (pt_cmpR (kop_eq (K := K) rfl hr.units) (pe_call (ok_w_choose T) (hr.mono (by decide)) rfl T.w_choose.m T.w_choose.F.kp (bi_w_choose T) .nil pass0 (pa_cons (pv 2) (pa_cons pe_int pa_nil))) pe_int (nomark _)))) (fun _ _ _ _ _ => (pv 18)))
    (pss_cons (ps_setLc (i := 11) (own := [("_law_weight", 19)]) rfl nd rfl rfl (sw_true rfl rfl rfl (by decide +kernel)) (kpi_seq (K := K) rfl (pv 6)) (blkOk_by (N := nm_law) (sc := defScope s_law) (by decide +kernel)) (fun _ _ _ _ _ => (pg_name (i := 19) nd rfl (Or.inl rfl))) (fun _ _ _ _ _ => pts_nil) (fun _ _ _ _ _ => (pe_call (ok_w_minus T) (hr.mono (by decide)) rfl T.w_minus.m T.w_minus.F.kp (bi_w_minus T) .nil pass0 (pa_cons (pe_tup (pa_cons pe_int (pa_cons pe_int pa_nil))) (pa_cons (pv 19) pa_nil)))))
    (pss_cons (ps_par (i := 12) (j := 13) rfl nd rfl rfl (by decide) rfl rfl (pa_cons (pe_call (ok_row_least T) (hr.mono (by decide)) rfl T.row_least.m T.row_least.F.kp (bi_row_least T) .nil pass0 (pa_cons (pv 6) (pa_cons (pv 5) (pa_cons (pv 10) pa_nil)))) (pa_cons (pe_call (ok_row_greatest T) (hr.mono (by decide)) rfl T.row_greatest.m T.row_greatest.F.kp (bi_row_greatest T) .nil pass0 (pa_cons (pv 6) (pa_cons (pv 5) (pa_cons (pv 10) pa_nil)))) pa_nil)) (by rfl))
    (pss_cons (ps_set (i := 14) nd rfl (Or.inl rfl) (pe_call (ok_row_least T) (hr.mono (by decide)) rfl T.row_least.m T.row_least.F.kp (bi_row_least T) .nil pass0 (pa_cons (pv 11) (pa_cons (pv 5) (pa_cons (pv 10) pa_nil)))))
    (pss_cons (ps_if (pt_cmpR (kop_ne (K := K) rfl hr.units) (pv 13) (pe_ifExp (kpt_tru (K := K) rfl (pe_callB (kcr_isi (K := K) rfl) (by rfl) T.isinstance (by decide +kernel) (pa_cons (pv 14) (pa_cons (pe_bltn (v := .ty "str") (u := .type "str") (by rfl) T.str (by decide +kernel) rfl) pa_nil))) (by intro _; rfl)) (pv 14) (pe_call (ok_w_minus T) (hr.mono (by decide)) rfl T.w_minus.m T.w_minus.F.kp (bi_w_minus T) .nil pass0 (pa_cons (pe_tup (pa_cons pe_int (pa_cons pe_int pa_nil))) (pa_cons (pv 14) pa_nil)))) (nomark _)) (pss_one (ps_ret pe_bl)) pss_nil)
    (pss_cons (ps_if (PW.pt (pw_and (kpt_tru (K := K) rfl (pe_call (ok_is_kind T) (hr.mono (by decide)) rfl T.is_kind.m T.is_kind.F.kp (bi_is_kind T) .nil pass0 (pa_cons (pv 7) (pa_cons (pv 5) pa_nil))) (by intro _; rfl)) (pw_and1 (PW.pt (pw_or (pt_cmpR (kop_eq (K := K) rfl hr.units) (pv 12) pe_str (nomark _)) (pw_or1 (pt_cmpR (kop_eq (K := K) rfl hr.units) (pv 13) pe_str (nomark _)))))))) (pss_one (ps_ret pe_bl)) pss_nil)
    (pss_cons (ps_if (PW.pt (pw_and (kpt_tru (K := K) rfl (pe_call (ok_is_kind T) (hr.mono (by decide)) rfl T.is_kind.m T.is_kind.F.kp (bi_is_kind T) .nil pass0 (pa_cons (pv 7) (pa_cons (pv 5) pa_nil))) (by intro _; rfl)) (pw_and (pt_not (kpt_tru (K := K) rfl (pe_callB (kcr_isi (K := K) rfl) (by rfl) T.isinstance (by decide +kernel) (pa_cons (pv 12) (pa_cons (pe_bltn (v := .ty "str") (u := .type "str") (by rfl) T.str (by decide +kernel) rfl) pa_nil))) (by intro _; rfl))) (pw_and1 (kpt_tru (K := K) rfl (pe_call (ok_w_is_less T) (hr.mono (by decide)) rfl T.w_is_less.m T.w_is_less.F.kp (bi_w_is_less T) .nil pass0 (pa_cons (pe_call (ok_row_told T) (hr.mono (by decide)) rfl T.row_told.m T.row_told.F.kp (bi_row_told T) .nil pass0 (pa_cons (pv 6) (pa_cons (pv 7) pa_nil))) (pa_cons (pv 12) pa_nil))) (by intro _; rfl)))))) (pss_one (ps_ret pe_bl)) pss_nil)
    (pss_cons (ps_set (i := 15) nd rfl (Or.inl rfl) (pe_call (ok_row_paper T) (hr.mono (by decide)) rfl T.row_paper.m T.row_paper.F.kp (bi_row_paper T) .nil pass0 (pa_cons (pv 6) (pa_cons (pv 5) (pa_cons (pv 10) pa_nil)))))
    (pss_cons (ps_if (pt_cmpR op_isNotA (pe_call (ok_row_paper_holds T) (hr.mono (by decide)) rfl T.row_paper_holds.m T.row_paper_holds.F.kp (bi_row_paper_holds T) .nil pass0 (pa_cons (pv 6) (pa_cons (pv 5) (pa_cons (pv 10) (pa_cons (pv 15) pa_nil))))) pe_bl (nomark _)) (pss_one (ps_ret pe_bl)) pss_nil)
    (pss_one (ps_if (pt_cmpR (kop_ne (K := K) rfl hr.units) (pe_ix (kix (K := K) rfl) (pv 15) pe_int (fun _ _ => rfl)) (pe_ifExp (kpt_tru (K := K) rfl (pe_callB (kcr_isi (K := K) rfl) (by rfl) T.isinstance (by decide +kernel) (pa_cons (pv 12) (pa_cons (pe_bltn (v := .ty "str") (u := .type "str") (by rfl) T.str (by decide +kernel) rfl) pa_nil))) (by intro _; rfl)) (pv 12) pe_str) (nomark _)) (pss_one (ps_ret pe_bl)) pss_nil)))))))))))))))))))))))
    (pss_one (ps_ret pe_bl))), ?_⟩
  exact ((sk_seq (sk_for (ik_range1 (ak_cons (gk_cb cd_max2 (ak_cons gk_int (ak_cons (gk_cb cd_min2 (ak_cons gk_int (ak_cons (gk_cb cd_len (ak_cons gk_var ak_nil)) ak_nil))) ak_nil))) ak_nil)) gt_name ((sk_seq (sk_set (gk_call (ak_cons gk_var (ak_cons gk_var ak_nil))))
    (sk_for (ik_range1 (ak_cons gk_int ak_nil)) gt_name ((sk_seq (sk_ypar (yk_cons (gk_op od_addB gk_int (gk_callB (ak_cons gk_int ak_nil))) (yk_cons (gk_callB (ak_cons gk_int ak_nil)) yk_nil)))
    (sk_seq (sk_set (gk_lc (ik_range1 (ak_cons gk_var ak_nil)) gt_name tk_yes (gk_tup (ak_cons (gk_op od_sub (gk_callB (ak_cons gk_int ak_nil)) gk_int) (ak_cons gk_int ak_nil))) (by decide)))
    (sk_seq (sk_if (tk_test (gk_op od_ne (gk_call (ak_cons gk_var (ak_cons gk_var (ak_cons (gk_lst ak_nil) ak_nil)))) (gk_if (tk_truK (gk_call (ak_cons gk_var (ak_cons gk_var ak_nil)))) (gk_tup (ak_cons gk_int (ak_cons gk_int ak_nil))) gk_str))) (sk_ret gk_bl) sk_next)
    (sk_seq (sk_set (gk_lc (ik_range1 (ak_cons gk_var ak_nil)) gt_name tk_yes (gk_tup (ak_cons (gk_op od_sub (gk_callB (ak_cons gk_int ak_nil)) gk_int) (ak_cons gk_int ak_nil))) (by decide)))
    (sk_seq (sk_set (gk_lc (ik_enumA (ak_cons gk_var ak_nil)) (gt_tup (gts_cons gt_name (gts_cons gt_name gts_nil))) tk_yes (gk_tup (ak_cons gk_var (ak_cons gk_var ak_nil))) (by decide)))
    (sk_seq (sk_set (gk_if (tk_truK (gk_call (ak_cons gk_var (ak_cons gk_var ak_nil)))) (gk_call (ak_cons gk_var (ak_cons gk_var ak_nil))) gk_str))
    (sk_seq (sk_if (tk_test (gk_op od_ne (gk_call (ak_cons gk_var (ak_cons gk_var (ak_cons gk_var ak_nil)))) gk_var)) (sk_ret gk_bl) sk_next)
    (sk_seq (sk_if (tk_test (gk_op od_ne (gk_call (ak_cons gk_var (ak_cons gk_var (ak_cons gk_var ak_nil)))) gk_var)) (sk_ret gk_bl) sk_next)
    (sk_seq (sk_set (gk_lc (ik_seq gk_var) gt_name (tk_test (gk_op od_eq (gk_callB (ak_cons gk_int ak_nil)) gk_int)) gk_var (by decide)))
    (sk_seq (sk_set (gk_lc (ik_seq gk_var) gt_name tk_yes (gk_call (ak_cons (gk_tup (ak_cons gk_int (ak_cons gk_int ak_nil))) (ak_cons gk_var ak_nil))) (by decide)))
    (sk_seq (sk_ypar (yk_cons (gk_call (ak_cons gk_var (ak_cons gk_var (ak_cons gk_var ak_nil)))) (yk_cons (gk_call (ak_cons gk_var (ak_cons gk_var (ak_cons gk_var ak_nil)))) yk_nil)))
    (sk_seq (sk_set (gk_call (ak_cons gk_var (ak_cons gk_var (ak_cons gk_var ak_nil)))))
    (sk_seq (sk_if (tk_test (gk_op od_ne gk_var (gk_if (tk_truK (gk_cb cd_isi (ak_cons gk_var (ak_cons (gk_c fun _ => .ty _) ak_nil)))) gk_var (gk_call (ak_cons (gk_tup (ak_cons gk_int (ak_cons gk_int ak_nil))) (ak_cons gk_var ak_nil)))))) (sk_ret gk_bl) sk_next)
    (sk_seq (sk_if (tk_and (tk_truK (gk_call (ak_cons gk_var (ak_cons gk_var ak_nil)))) (tk_or (tk_test (gk_op od_eq gk_var gk_str)) (tk_test (gk_op od_eq gk_var gk_str)))) (sk_ret gk_bl) sk_next)
    (sk_seq (sk_if (tk_and (tk_truK (gk_call (ak_cons gk_var (ak_cons gk_var ak_nil)))) (tk_and (tk_not (tk_truK (gk_cb cd_isi (ak_cons gk_var (ak_cons (gk_c fun _ => .ty _) ak_nil))))) (tk_truK (gk_call (ak_cons (gk_call (ak_cons gk_var (ak_cons gk_var ak_nil))) (ak_cons gk_var ak_nil)))))) (sk_ret gk_bl) sk_next)
    (sk_seq (sk_set (gk_call (ak_cons gk_var (ak_cons gk_var (ak_cons gk_var ak_nil)))))
    (sk_seq (sk_if (tk_test (gk_op od_isNot (gk_call (ak_cons gk_var (ak_cons gk_var (ak_cons gk_var (ak_cons gk_var ak_nil))))) gk_bl)) (sk_ret gk_bl) sk_next)
    (sk_if (tk_test (gk_op od_ne (gk_op od_ix gk_var gk_int) (gk_if (tk_truK (gk_cb cd_isi (ak_cons gk_var (ak_cons (gk_c fun _ => .ty _) ak_nil)))) gk_var gk_str))) (sk_ret gk_bl) sk_next)))))))))))))))))) : SOk K _ b_law_1))) : SOk K _ b_law_2))
    (sk_ret gk_bl)) : SOk K _ b_law)
end
end Bk
namespace Bk
open PySem L2
theorem runF_eq {k n : Nat} {b : MS} {ds : List D} (h : ds.length = k) : runF k n b ds = outF (b (pad n ds)) := if_pos h
theorem xseq_nx {s t : MS} {G G1 : Gam} (h : s G = some (.nx, G1)) : xseq s t G = t G1 := by
  unfold xseq
  rw [h]
theorem xseq_rt {s t : MS} {G G1 : Gam} {r : R} (h : s G = some (.rt r, G1)) : xseq s t G = some (.rt r, G1) := by
  unfold xseq
  rw [h]
theorem xset_ok {i : Nat} {a : M R} {G G1 : Gam} {r : R} (h : a G = some (r, G1)) : xset i a G = some (.nx, G1.set i r.ent) := by
  unfold xset
  rw [h]
  rfl
theorem xset_e {i : Nat} {a : M R} {G G1 G2 : Gam} {r : R} (h : a G = some (r, G1)) (e : G1.set i r.ent = G2) : xset i a G = some (.nx, G2) := e ▸ xset_ok h
theorem xret_ok {a : M R} {G G1 : Gam} {r : R} (h : a G = some (r, G1)) : xret a G = some (.rt r, G1) := by
  unfold xret
  rw [h]
  rfl
theorem xcall_ok {m : List D → Option R} {a : M (List D)} {G G1 : Gam} {xs : List D} {r : R} (h : a G = some (xs, G1)) (hm : m xs = some r) : xcall m a G = some (r, G1) := by
  unfold xcall
  rw [h]
  simp only [bd_some, hm]
theorem xcons_ok {a : M R} {b : M (List D)} {G G1 G2 : Gam} {r : R} {xs : List D} (h : a G = some (r, G1)) (hb : b G1 = some (xs, G2)) : xcons a b G = some (r.d :: xs, G2) := by
  unfold xcons
  rw [h]
  simp only [bd_some, hb]
theorem xnil_ok {G : Gam} : xnil G = some ([], G) := rfl
theorem runF_st {k n : Nat} {b : MS} {ds : List D} {o : Option R} (hl : ds.length = k) (h : outF (b (pad n ds)) = o) : runF k n b ds = o := (runF_eq hl).trans h
theorem st_nx {s t : MS} {G G1 : Gam} {o : Option R} (h : s G = some (.nx, G1)) (k : outF (t G1) = o) : outF (xseq s t G) = o := (congrArg outF (xseq_nx h)).trans k
theorem st_ret {a : M R} {G G1 : Gam} {r : R} (h : a G = some (r, G1)) : outF (xret a G) = some r := congrArg outF (xret_ok h)
theorem runB_st {k n : Nat} {b : MS} {bs : Mob} {ds : List D} {o : Option (R × Mob)} (hl : ds.length + 1 = k) (h : outB (b (.bx bs :: pad (n - 1) ds)) = o) : runB k n b bs ds = o := (if_pos hl).trans h
theorem sb_nx {s t : MS} {G G1 : Gam} {o : Option (R × Mob)} (h : s G = some (.nx, G1)) (k : outB (t G1) = o) : outB (xseq s t G) = o := (congrArg outB (xseq_nx h)).trans k
theorem sb_rt {s t : MS} {G G1 : Gam} {r : R} {o : Option (R × Mob)} (h : s G = some (.rt r, G1)) (k : outB (some (.rt r, G1)) = o) : outB (xseq s t G) = o := (congrArg outB (xseq_rt h)).trans k
theorem st_rt {s t : MS} {G G1 : Gam} {r : R} (h : s G = some (.rt r, G1)) : outF (xseq s t G) = some r := congrArg outF (xseq_rt h)
theorem sb_ret {a : M R} {G G1 : Gam} {r : R} {bs' : Mob} (h : a G = some (r, .bx bs' :: G1)) : outB (xret a G) = some (r, bs') := congrArg outB (xret_ok h)
theorem xop_ok {o : D → D → Option R} {a b : M R} {G G1 G2 : Gam} {x y r : R} (ha : a G = some (x, G1)) (hb : b G1 = some (y, G2)) (h : o x.d y.d = some r) : xop o a b G = some (r, G2) := by
  unfold xop
  rw [ha]
  simp only [bd_some, hb, h]
theorem xc1 {a : M R} {b : M (List D)} {G G1 G2 : Gam} {d : D} {xs : List D} (h : a G = some (.im d, G1)) (hb : b G1 = some (xs, G2)) : xcons a b G = some (d :: xs, G2) := xcons_ok h hb
theorem xcw {a : M R} {b : M (List D)} {G G1 G2 : Gam} {ds : List D} {xs : List D} (h : a G = some (.ol ds, G1)) (hb : b G1 = some (xs, G2)) : xcons a b G = some (.lst ds :: xs, G2) := xcons_ok h hb
theorem xo2 {o : D → D → Option R} {a b : M R} {G G1 G2 : Gam} {x y : D} {r : R} (ha : a G = some (.im x, G1)) (hb : b G1 = some (.im y, G2)) (h : o x y = some r) : xop o a b G = some (r, G2) := xop_ok ha hb h
theorem xlst_ok {a : M (List D)} {G G1 : Gam} {xs : List D} (h : a G = some (xs, G1)) (hf : few xs.length = true) : xlst a G = some (.ol xs, G1) := by
  unfold xlst
  rw [h]
  simp only [bd_some, hf]
  rfl
theorem xcallB_ok {m : Mob → List D → Option (R × Mob)} {i : Nat} {a : M (List D)} {G G1 G2 : Gam} {xs : List D} {bs bs' : Mob} {e : Ent} {r : R} (h0 : isMu G i = true) (h : a G = some (xs, G1)) (hi : G1[i]? = some e) (he : e.mu = some bs) (hm : m bs xs = some (r, bs')) (e2 : G1.set i (e.with bs') = G2) : xcallB m i a G = some (r, G2) := by
  unfold xcallB
  rw [if_pos h0, h]
  simp only [bd_some]
  unfold callB
  simp only [hi, he, hm, e2]
theorem xapp_ok {i : Nat} {a : M R} {G G1 G2 : Gam} {r : R} {bs : List D} {e : Ent} (h0 : isLst G i = true) (h : a G = some (r, G1)) (hi : G1[i]? = some e) (he : e.mu = some (.l bs)) (hf : bs.length ≤ 100000) (e2 : G1.set i (e.with (.l (bs ++ [r.d]))) = G2) : xapp i a G = some (.nx, G2) := by
  unfold xapp
  rw [if_pos h0, h]
  simp only [bd_some]
  unfold app
  simp only [hi, he]
  rw [if_pos (show few bs.length = true from decide_eq_true (Nat.le_trans hf (by decide))), e2]
theorem xif_ok {t : M Bool} {a b : M R} {G G1 : Gam} {k : Bool} (h : t G = some (k, G1)) : xif t a b G = if k then a G1 else b G1 := by
  unfold xif
  rw [h]
  rfl
theorem xvand_t {a b : M R} {G G1 : Gam} {o : Option (R × Gam)} (h : a G = some (.im (.bl true), G1)) (h2 : b G1 = o) : xvand a b G = o := by
  unfold xvand
  rw [h]
  exact h2
theorem xtest_ok {a : M R} {G G1 : Gam} {k : Bool} (h : a G = some (.im (.bl k), G1)) : xtest a G = some (k, G1) := by
  unfold xtest
  rw [h]
  rfl
theorem atI_ok {α : Type} {xs : List α} {i : Int} (h : 0 ≤ i) (h1 : i < xs.length) : ∃ x, atI xs i = some x ∧ x ∈ xs := by
  have h2 : i.toNat < xs.length := by omega
  refine ⟨xs[i.toNat], ?_, List.getElem_mem h2⟩
  unfold atI ixN
  rw [if_pos h, if_pos h1]
  exact List.getElem?_eq_getElem h2
theorem xcb_ok {o : List D → Option R} {a : M (List D)} {G G1 : Gam} {xs : List D} {r : R} (h : a G = some (xs, G1)) (ho : o xs = some r) : xcb o a G = some (r, G1) := by
  unfold xcb
  rw [h]
  simp only [bd_some, ho]
theorem xtup_ok {a : M (List D)} {G G1 : Gam} {xs : List D} (h : a G = some (xs, G1)) (hf : few xs.length = true) : xtup a G = some (.im (.tup xs), G1) := by
  unfold xtup
  rw [h]
  simp only [bd_some, hf]
  rfl
theorem xifs_ok {t : M Bool} {a b : MS} {G G1 : Gam} {k : Bool} (h : t G = some (k, G1)) : xifs t a b G = if k then a G1 else b G1 := by
  unfold xifs
  rw [h]
  rfl
theorem xforL_nx {tg : D → Gam → Option Gam} {b : MS} {d : D} {ds : List D} {G G1 G2 : Gam} (h1 : tg d G = some G1) (h2 : b G1 = some (.nx, G2)) : xforL tg b (d :: ds) G = xforL tg b ds G2 := by
  conv => lhs; unfold xforL
  rw [h1]
  simp only [h2]
/-- a loop whose turns keep a word -/
theorem xforL_inv {tg : D → Gam → Option Gam} {b : MS} (Inv : Gam → Prop) : ∀ {ds : List D} {G : Gam}, Inv G → (∀ d ∈ ds, ∀ G, Inv G → ∃ G1 G2, tg d G = some G1 ∧ (b G1 = some (.nx, G2) ∨ b G1 = some (.ct, G2)) ∧ Inv G2) →
    ∃ G', xforL tg b ds G = some (.nx, G') ∧ Inv G'
  | [], G, h, _ => ⟨G, rfl, h⟩
  | d :: ds, G, h, step => by
    obtain ⟨G1, G2, h1, h2, h3⟩ := step d List.mem_cons_self G h
    obtain ⟨G', h4, h5⟩ := xforL_inv Inv h3 fun e he => step e (List.mem_cons_of_mem _ he)
    refine ⟨G', ?_, h5⟩
    unfold xforL
    rw [h1]
    rcases h2 with h2 | h2
    · simp only [h2]; exact h4
    · simp only [h2]; exact h4
/-- a comprehension without a test, whose turns change nothing else -/
theorem xlcL_map {tg : D → Gam → Option Gam} {e : M R} {vs : List Nat} {G : Gam} (f : D → D) : ∀ {ds : List D}, (∀ d ∈ ds, ∃ G1 r G2, tg d G = some G1 ∧ e G1 = some (r, G2) ∧ r.d = f d ∧ wipeG G2 vs = G) → xlcL tg xtyes e vs ds G = some (ds.map f, G)
  | [], _ => rfl
  | d :: ds, h => by
    obtain ⟨G1, r, G2, h1, h2, h3, h4⟩ := h d List.mem_cons_self
    unfold xlcL
    rw [h1]
    simp only [xtyes, bd_some, h2, h4]
    rw [if_pos True.intro, xlcL_map f fun e he => h e (List.mem_cons_of_mem _ he)]
    simp only [bd_some, h3, List.map_cons]
theorem rng_mem {lo : Int} {n : Nat} {d : D} (h : d ∈ rng lo n) : ∃ i : Nat, i < n ∧ d = .int (lo + (i : Int)) := by
  obtain ⟨i, hi, rfl⟩ := List.mem_map.mp h
  exact ⟨i, List.mem_range.mp hi, rfl⟩
theorem rng_ln {lo : Int} {n : Nat} : (rng lo n).length = n := by simp [rng]
theorem okR_of {m : Int} (h : -1000000 < m) (h1 : m < 1000000) : okR m = true := by
  unfold okR
  rw [Bool.and_eq_true]
  exact ⟨decide_eq_true (by omega), decide_eq_true (by omega)⟩
theorem xlc_ok {it : M (List D)} {tg : D → Gam → Option Gam} {t : M Bool} {e : M R} {vs : List Nat} {G G1 G2 : Gam} {ds out : List D} (h1 : it G = some (ds, G1)) (h2 : noMu G1 vs = true) (h3 : xlcL tg t e vs ds (wipeG G1 vs) = some (out, G2)) (h4 : few out.length = true) :
    xlc it tg t e vs G = some (.ol out, unw G1 G2 vs) := by
  unfold xlc
  rw [h1]
  simp only [bd_some]
  rw [if_pos h2, h3]
  simp only [bd_some, h4]
  rfl
theorem o_mul {i j : Int} (h : okMul i j = true) : opMul (.int i) (.int j) = some (.im (.int (i * j))) := if_pos h
theorem o_div {i j : Int} (h : okDiv j = true) : opFdiv (.int i) (.int j) = some (.im (.int (i.fdiv j))) := if_pos h
theorem o_mod {i j : Int} (h : j ≠ 0) : opMod (.int i) (.int j) = some (.im (.int (i.fmod j))) := if_pos (decide_eq_true h)
theorem o_pow {i j : Int} (h : okPow i j = true) : opPow (.int i) (.int j) = some (.im (.int (i ^ j.toNat))) := if_pos h
def Sm (i : Int) (k : Nat) : Prop := i.natAbs < 2 ^ k
theorem Sm.up {i : Int} {k l : Nat} (h : Sm i k) (hk : k ≤ l) : Sm i l := Nat.lt_of_lt_of_le h (Nat.pow_le_pow_right (by decide) hk)
theorem Sm.mul {i j : Int} {k l : Nat} (h : Sm i k) (h' : Sm j l) : Sm (i * j) (k + l) := by
  unfold Sm
  rw [Int.natAbs_mul, Nat.pow_add]
  exact Nat.mul_lt_mul'' h h'
theorem Sm.add {i j : Int} {k : Nat} (h : Sm i k) (h' : Sm j k) : Sm (i + j) (k + 1) := by
  unfold Sm at *
  rw [Nat.pow_succ]
  have := Int.natAbs_add_le i j
  omega
theorem Sm.sub {i j : Int} {k : Nat} (h : Sm i k) (h' : Sm j k) : Sm (i - j) (k + 1) := by
  unfold Sm at *
  rw [Nat.pow_succ]
  have := Int.natAbs_sub_le i j
  omega
theorem Sm.log {i : Int} {k : Nat} (h : Sm i k) (hk : 0 < k) : i.natAbs.log2 < k := by
  by_cases z : i.natAbs = 0
  · rw [z]; exact hk
  · exact (Nat.log2_lt z).mpr h
theorem Sm.okMul {i j : Int} {k l : Nat} (h : Sm i k) (h' : Sm j l) (hk : k + l ≤ 900000) : okMul i j = true := by
  have h1 := (h.up (Nat.le_succ k)).log (Nat.succ_pos k)
  have h2 := (h'.up (Nat.le_succ l)).log (Nat.succ_pos l)
  unfold Bk.okMul
  exact decide_eq_true (by omega)
theorem Sm.okDiv {i : Int} {k : Nat} (h : Sm i k) (h0 : i ≠ 0) (hk : k < 9000) : okDiv i = true := by
  have h1 := (h.up (Nat.le_succ k)).log (Nat.succ_pos k)
  unfold Bk.okDiv
  rw [Bool.and_eq_true]
  exact ⟨decide_eq_true h0, decide_eq_true (by omega)⟩
theorem div_loop (c : M Bool) (b : MS) (hc : ∀ x y : Nat, c [.im (.int x), .im (.int y)] = some (!decide ((y : Int) = 0), [.im (.int x), .im (.int y)]))
    (hb : ∀ x y : Nat, 0 < y → b [.im (.int x), .im (.int y)] = some (.nx, [.im (.int y), .im (.int ((x % y : Nat) : Int))])) :
    ∀ (n x y : Nat), y < n → xwhileN c b n [.im (.int x), .im (.int y)] = some (.nx, [.im (.int (Nat.gcd x y : Nat)), .im (.int 0)])
  | 0, _, _, h => absurd h (Nat.not_lt_zero _)
  | n + 1, x, y, h => by
    unfold xwhileN
    rw [hc]
    simp only [bd_some]
    by_cases z : y = 0
    · subst z
      simp
    · have z' : ¬ (y : Int) = 0 := by omega
      rw [decide_eq_false z']
      rw [hb x y (by omega)]
      simp only [Bool.not_false, if_true]
      have hl : x % y < y := Nat.mod_lt _ (by omega)
      rw [div_loop c b hc hb n y (x % y) (by omega), Nat.gcd_comm x y, Nat.gcd_rec y x, Nat.gcd_comm]
theorem abs_nat (i : Int) : (if i < 0 then -i else i) = (i.natAbs : Int) := by
  split <;> omega
theorem fmod_nat (x y : Nat) : (x : Int).fmod (y : Int) = ((x % y : Nat) : Int) := by
  rw [Int.fmod_eq_emod_of_nonneg _ (Int.natCast_nonneg y)]
  rfl
def vq (q : Rat) : D := .tup [.int q.num, .int (q.den : Int)]
/-- numerator and denominator -/
def Ht (q : Rat) (k : Nat) : Prop := Sm q.num k ∧ Sm (q.den : Int) k
theorem Ht.up {q : Rat} {k l : Nat} (h : Ht q k) (hk : k ≤ l) : Ht q l := ⟨h.1.up hk, h.2.up hk⟩
theorem natAbs_ediv_le {n g : Int} (hd : g ∣ n) : (n / g).natAbs ≤ n.natAbs := by
  obtain ⟨c, rfl⟩ := hd
  by_cases z : g = 0
  · subst z; simp
  · rw [Int.mul_ediv_cancel_left c z, Int.natAbs_mul]
    exact Nat.le_mul_of_pos_left _ (by omega)
theorem ht_divInt {n d : Int} {k : Nat} (hd : d ≠ 0) (hn : Sm n k) (hk : Sm d k) : Ht (Rat.divInt n d) k := by
  constructor
  · rw [Rat.num_divInt]
    refine Nat.lt_of_le_of_lt (natAbs_ediv_le ?_) ?_
    · exact Int.dvd_trans (Int.gcd_dvd_right d n) (Int.dvd_mul_left _ _)
    · rw [Int.natAbs_mul]
      have : d.sign.natAbs = 1 := by
        rcases Int.lt_or_gt_of_ne hd with h | h
        · rw [Int.sign_eq_neg_one_of_neg h]; rfl
        · rw [Int.sign_eq_one_of_pos h]; rfl
      rw [this, Nat.one_mul]
      exact hn
  · rw [Rat.den_divInt, if_neg hd]
    unfold Sm at *
    rw [Int.natAbs_natCast]
    exact Nat.lt_of_le_of_lt (Nat.div_le_self _ _) hk
/-- what lowest reckons -/
theorem low_num {n d : Int} (hd : d ≠ 0) : n.fdiv (if d < 0 then -((Nat.gcd n.natAbs d.natAbs : Nat) : Int) else ((Nat.gcd n.natAbs d.natAbs : Nat) : Int)) = (Rat.divInt n d).num := by
  have e : (Nat.gcd n.natAbs d.natAbs) = d.gcd n := by rw [Nat.gcd_comm]; rfl
  have hdv : ((d.gcd n : Nat) : Int) ∣ n := Int.gcd_dvd_right d n
  rw [Rat.num_divInt, e]
  split
  · rename_i h
    rw [Int.fdiv_eq_ediv_of_dvd (Int.neg_dvd.mpr hdv), Int.sign_eq_neg_one_of_neg h, Int.ediv_neg, Int.neg_mul, Int.one_mul, Int.neg_ediv_of_dvd hdv]
  · rename_i h
    have h : 0 < d := by omega
    rw [Int.fdiv_eq_ediv_of_dvd hdv, Int.sign_eq_one_of_pos h, Int.one_mul]
theorem low_den {n d : Int} (hd : d ≠ 0) : d.fdiv (if d < 0 then -((Nat.gcd n.natAbs d.natAbs : Nat) : Int) else ((Nat.gcd n.natAbs d.natAbs : Nat) : Int)) = ((Rat.divInt n d).den : Int) := by
  have e : (Nat.gcd n.natAbs d.natAbs) = d.gcd n := by rw [Nat.gcd_comm]; rfl
  have hdv : ((d.gcd n : Nat) : Int) ∣ d := Int.gcd_dvd_left d n
  rw [Rat.den_divInt, if_neg hd, e, Int.natCast_ediv]
  split
  · rename_i h
    rw [Int.fdiv_eq_ediv_of_dvd (Int.neg_dvd.mpr hdv), Int.ediv_neg, ← Int.neg_ediv_of_dvd hdv]
    congr 1
    omega
  · rename_i h
    rw [Int.fdiv_eq_ediv_of_dvd hdv]
    congr 1
    omega
theorem divInt_self (q : Rat) : Rat.divInt q.num (q.den : Int) = q := by
  rw [Rat.divInt_ofNat]
  exact Rat.mkRat_self q
theorem den_ne (q : Rat) : (q.den : Int) ≠ 0 := by
  have := q.den_nz
  omega
theorem add_divInt (a b : Rat) : Rat.divInt (a.num * b.den + b.num * a.den) (a.den * b.den) = a + b := by
  rw [← Rat.divInt_add_divInt _ _ (den_ne a) (den_ne b), divInt_self, divInt_self]
theorem mul_divInt (a b : Rat) : Rat.divInt (a.num * b.num) (a.den * b.den) = a * b := by
  rw [← Rat.divInt_mul_divInt, divInt_self, divInt_self]
theorem sub_divInt (a b : Rat) : Rat.divInt (a.num * b.den - b.num * a.den) (a.den * b.den) = a - b := by
  rw [← Rat.divInt_sub_divInt _ _ (den_ne a) (den_ne b), divInt_self, divInt_self]
theorem Ht.mul {a b : Rat} {k l : Nat} (h : Ht a k) (h' : Ht b l) : Ht (a * b) (k + l) := by
  rw [← mul_divInt]
  exact ht_divInt (Int.mul_ne_zero (den_ne a) (den_ne b)) (h.1.mul h'.1) (h.2.mul h'.2)
theorem Ht.add {a b : Rat} {k l : Nat} (h : Ht a k) (h' : Ht b l) : Ht (a + b) (k + l + 1) := by
  rw [← add_divInt]
  have h1 := h.1.mul h'.2
  have h2 := h'.1.mul h.2
  rw [Nat.add_comm l k] at h2
  exact ht_divInt (Int.mul_ne_zero (den_ne a) (den_ne b)) (h1.add h2) ((h.2.mul h'.2).up (Nat.le_succ _))
theorem Ht.sub {a b : Rat} {k l : Nat} (h : Ht a k) (h' : Ht b l) : Ht (a - b) (k + l + 1) := by
  rw [← sub_divInt]
  have h1 := h.1.mul h'.2
  have h2 := h'.1.mul h.2
  rw [Nat.add_comm l k] at h2
  exact ht_divInt (Int.mul_ne_zero (den_ne a) (den_ne b)) (h1.sub h2) ((h.2.mul h'.2).up (Nat.le_succ _))
theorem Ht.int {i : Int} {k : Nat} (h : Sm i k) (hk : 0 < k) : Ht (i : Rat) k := ⟨h, by
  show (1 : Int).natAbs < 2 ^ k
  exact Nat.one_lt_two_pow (by omega)⟩
/-- a number or a pair -/
def IsV (d : D) (q : Rat) : Prop := (∃ i : Int, d = .int i ∧ q = (i : Rat)) ∨ d = vq q
end Bk
namespace Bk
open PySem L2
theorem xfor_ok {it : M (List D)} {tg : D → Gam → Option Gam} {b : MS} {G G1 : Gam} {ds : List D} {o : Option (Fl × Gam)} (h : it G = some (ds, G1)) (h2 : xforL tg b ds G1 = o) : xfor it tg b G = o := by
  unfold xfor
  rw [h]
  exact h2
theorem xseqI_ok {a : M R} {G G1 : Gam} {d : D} {ds : List D} (h : a G = some (.im d, G1)) (hd : seqD d = some ds) : xseqI a G = some (ds, G1) := by
  unfold xseqI
  rw [h]
  simp only [bd_some, R.d, hd]
theorem xzip_ok {a : M (List D)} {G G1 : Gam} {x y : D} {ds es : List D} (h : a G = some ([x, y], G1)) (h1 : seqD x = some ds) (h2 : seqD y = some es) : xzipA a G = some ((ds.zip es).map fun p => .tup [p.1, p.2], G1) := by
  unfold xzipA
  rw [h]
  simp only [bd_some, h1, h2]
theorem xrange1_ok {a : M (List D)} {G G1 : Gam} {n : Int} (h : a G = some ([.int n], G1)) (h1 : okR n = true) : xrange1 a G = some (rng 0 n.toNat, G1) := by
  unfold xrange1
  rw [h]
  simp only [bd_some]
  rw [if_pos h1]
def valQ : D → Rat
  | .int i => (i : Rat)
  | .tup [.int n, .int d] => Rat.divInt n d
  | _ => 0
theorem valQ_vq (q : Rat) : valQ (vq q) = q := divInt_self q
def IsV1 (d : D) : Prop := (∃ i, d = .int i) ∨ ∃ q, d = vq q
theorem IsV1.isV {d : D} (h : IsV1 d) : IsV d (valQ d) := by
  rcases h with ⟨i, rfl⟩ | ⟨q, rfl⟩
  · exact .inl ⟨i, rfl, rfl⟩
  · rw [valQ_vq]; exact .inr rfl
def sumQ (qs : List Rat) : Rat := qs.foldl (· + ·) 0
def dotQ (as bs : List D) : Rat := sumQ ((as.zip bs).map fun p => valQ p.1 * valQ p.2)
theorem ht0 : Ht 0 1 := by
  constructor
  · show (0 : Int).natAbs < 2 ^ 1; decide
  · show (1 : Int).natAbs < 2 ^ 1; decide
theorem foldl_ht {k : Nat} : ∀ (qs : List Rat) (a : Rat) (l : Nat), Ht a l → (∀ q ∈ qs, Ht q k) → Ht (qs.foldl (· + ·) a) (l + qs.length * (k + 1))
  | [], a, l, h, _ => by simpa using h
  | q :: qs, a, l, h, hq => by
    have h1 := foldl_ht qs (a + q) (l + k + 1) (h.add (hq q List.mem_cons_self)) fun r hr => hq r (List.mem_cons_of_mem _ hr)
    rw [List.foldl_cons]
    refine h1.up ?_
    rw [List.length_cons, Nat.add_mul]
    omega
theorem sumQ_ht {k : Nat} {qs : List Rat} (hq : ∀ q ∈ qs, Ht q k) : Ht (sumQ qs) (1 + qs.length * (k + 1)) := foldl_ht qs 0 1 ht0 hq
abbrev AddOk (m : List D → Option R) : Prop := ∀ (a b : Rat) (k l : Nat), Ht a k → Ht b l → k + l < 8990 → m [vq a, vq b] = some (.im (vq (a + b)))
theorem sum_loop {m : List D → Option R} (hm : AddOk m) {x0 : Ent} {k : Nat} : ∀ (qs : List Rat) (a : Rat) (l : Nat) (e : Ent), Ht a l → (∀ q ∈ qs, Ht q k) → l + qs.length * (k + 1) + k < 8990 →
    ∃ e', xforL (tgn 2) (xset 1 (xcall m (xcons (xv 1) (xcons (xv 2) xnil)))) (qs.map vq) [x0, .im (vq a), e] = some (.nx, [x0, .im (vq (qs.foldl (· + ·) a)), e'])
  | [], a, l, e, _, _, _ => ⟨e, rfl⟩
  | q :: qs, a, l, e, h, hq, h9 => by
    have hq0 := hq q List.mem_cons_self
    rw [List.length_cons, Nat.add_mul] at h9
    obtain ⟨e', h1⟩ := sum_loop hm qs (a + q) (l + k + 1) (.im (vq q)) (h.add hq0) (fun r hr => hq r (List.mem_cons_of_mem _ hr)) (by omega)
    refine ⟨e', ?_⟩
    rw [List.map_cons, List.foldl_cons, ← h1]
    exact xforL_nx rfl (xset_e (xcall_ok (xc1 rfl (xc1 rfl xnil_ok)) (hm a q l k h hq0 (by omega))) rfl)
/-- two rows, item by item, a value made of each two -/
def f2 (g : Rat → Rat → Rat) : D → D
  | .tup [x, y] => vq (g (valQ x) (valQ y))
  | d => d
theorem zip_f2 (g : Rat → Rat → Rat) (as bs : List D) : ((as.zip bs).map fun p => D.tup [p.1, p.2]).map (f2 g) = ((as.zip bs).map fun p => g (valQ p.1) (valQ p.2)).map vq := by
  rw [List.map_map, List.map_map]
  rfl
theorem zip_val (as bs : List D) : ((as.map fun x => vq (valQ x)).zip (bs.map fun x => vq (valQ x))).map (fun p => valQ p.1 * valQ p.2) = (as.zip bs).map fun p => valQ p.1 * valQ p.2 := by
  rw [List.zip_map, List.map_map]
  apply List.map_congr_left
  intro p _
  show valQ (vq (valQ p.1)) * valQ (vq (valQ p.2)) = _
  rw [valQ_vq, valQ_vq]
theorem zip_len (as bs : List D) : ((as.zip bs).map fun p => valQ p.1 * valQ p.2).length ≤ as.length := by
  rw [List.length_map, List.length_zip]
  omega
theorem dot_ht {as bs : List D} {k l : Nat} (ha : ∀ a ∈ as, Ht (valQ a) k) (hb : ∀ b ∈ bs, Ht (valQ b) l) : ∀ q ∈ (as.zip bs).map (fun p => valQ p.1 * valQ p.2), Ht q (k + l) := fun q hq => by
  obtain ⟨p, hp, rfl⟩ := List.mem_map.mp hq
  obtain ⟨h1, h2⟩ := List.of_mem_zip hp
  exact (ha _ h1).mul (hb _ h2)
theorem few_le {n : Nat} (h : n ≤ 100000) : few n = true := decide_eq_true (Nat.le_trans h (by decide))
def isVb : D → Bool
  | .int _ => true
  | .tup [.int n, .int d] => decide (0 < d) && decide (Nat.gcd n.natAbs d.natAbs = 1)
  | _ => false
theorem isVb_ok {d : D} (h : isVb d = true) : IsV1 d := by
  unfold isVb at h
  split at h
  · exact .inl ⟨_, rfl⟩
  · rename_i n k
    rw [Bool.and_eq_true] at h
    have h1 := of_decide_eq_true h.1
    have h2 := of_decide_eq_true h.2
    refine .inr ⟨⟨n, k.toNat, by omega, ?_⟩, ?_⟩
    · have : k.toNat = k.natAbs := by omega
      rw [this]; exact h2
    · show D.tup [.int n, .int k] = .tup [.int n, .int ((k.toNat : Nat) : Int)]
      rw [Int.toNat_of_nonneg (by omega)]
  · cases h
def smb (k : Nat) (d : D) : Bool := decide ((valQ d).num.natAbs < 2 ^ k) && decide (((valQ d).den : Int).natAbs < 2 ^ k)
theorem smb_ok {k : Nat} {d : D} (h : smb k d = true) : Ht (valQ d) k := by
  unfold smb at h
  rw [Bool.and_eq_true] at h
  exact ⟨by simpa [Sm] using h.1, by simpa [Sm] using h.2⟩
def pyq (q : Rat) : PyData := .tuple [.int q.num, .int (q.den : Int)]
def Bx (bs : Mob) : Prop := ∃ g r : Int, bs = .l [.int g, .int r] ∧ 0 ≤ r ∧ r < 4294967296
theorem fmod_lt (a : Int) {b : Int} (h : 0 < b) : 0 ≤ a.fmod b ∧ a.fmod b < b := ⟨Int.fmod_nonneg_of_pos a h, Int.fmod_lt_of_pos a h⟩
def Ln (k : Nat) (out : List D) : Prop := ∀ x ∈ out, IsV1 x ∧ Ht (valQ x) k
theorem Ln.nil {k : Nat} : Ln k [] := fun _ h => nomatch h
theorem Ln.push {k : Nat} {out : List D} {d : D} (h : Ln k out) (hd : IsV1 d ∧ Ht (valQ d) k) : Ln k (out ++ [d]) := fun x hx => by
  rcases List.mem_append.mp hx with h1 | h1
  · exact h x h1
  · rw [List.mem_singleton.mp h1]; exact hd
theorem Ln.len {k : Nat} {ds : List D} (h : Ln k ds) : ∀ x ∈ ds, IsV1 x := fun x hx => (h x hx).1
end Bk
namespace Bk
open PySem L2
theorem ycons_ok {a : M R} {b : M (List R)} {G G1 G2 : Gam} {r : R} {xs : List R} (h : a G = some (r, G1)) (hb : b G1 = some (xs, G2)) : ycons a b G = some (r :: xs, G2) := by
  unfold ycons
  rw [h]
  simp only [bd_some, hb]
theorem ypar_ok {i j : Nat} {a : M (List R)} {G G1 : Gam} {x y : R} (h : a G = some ([x, y], G1)) : ypar i j a G = some (.nx, (G1.set i x.ent).set j y.ent) := by
  unfold ypar
  rw [h]
  rfl
theorem xvor_f {a b : M R} {G G1 : Gam} (h : a G = some (.im (.bl false), G1)) : xvor a b G = b G1 := by
  unfold xvor
  rw [h]
  rfl
theorem xvnot_ok {a : M R} {G G1 : Gam} {k : Bool} (h : a G = some (.im (.bl k), G1)) : xvnot a G = some (.im (.bl (!k)), G1) := by
  unfold xvnot
  rw [h]
  rfl
theorem xtru_ok {a : M R} {G G1 : Gam} {k : Bool} {x : R} (h : a G = some (x, G1)) (ht : truth x.d = some k) : xtru a G = some (k, G1) := by
  unfold xtru
  rw [h]
  simp only [bd_some, ht]
theorem xtrub {a : M R} {G G1 : Gam} {k : Bool} (h : a G = some (.im (.bl k), G1)) : xtru a G = some (k, G1) := xtru_ok h rfl
theorem xtnot_ok {a : M Bool} {G G1 : Gam} {k : Bool} (h : a G = some (k, G1)) : xtnot a G = some (!k, G1) := by
  unfold xtnot
  rw [h]
  rfl
theorem xtand_t {a b : M Bool} {G G1 : Gam} (h : a G = some (true, G1)) : xtand a b G = b G1 := by
  unfold xtand
  rw [h]
  rfl
theorem xtand_f {a b : M Bool} {G G1 : Gam} (h : a G = some (false, G1)) : xtand a b G = some (false, G1) := by
  unfold xtand
  rw [h]
  rfl
theorem xtor_t {a b : M Bool} {G G1 : Gam} (h : a G = some (true, G1)) : xtor a b G = some (true, G1) := by
  unfold xtor
  rw [h]
  rfl
theorem xtor_f {a b : M Bool} {G G1 : Gam} (h : a G = some (false, G1)) : xtor a b G = b G1 := by
  unfold xtor
  rw [h]
  rfl
theorem xtor_b {a b : M Bool} {G : Gam} {k l : Bool} (h : a G = some (k, G)) (h' : b G = some (l, G)) : xtor a b G = some (k || l, G) := by
  cases k
  · rw [xtor_f h, h']; rfl
  · exact xtor_t h
theorem xlcL_en {β : Type} {tg : D → Gam → Option Gam} {e : M R} {vs : List Nat} {G : Gam} {en : β → D} (f : β → D) : ∀ {xs : List β}, (∀ x ∈ xs, ∃ G1 r G2, tg (en x) G = some G1 ∧ e G1 = some (r, G2) ∧ r.d = f x ∧ wipeG G2 vs = G) →
    xlcL tg xtyes e vs (xs.map en) G = some (xs.map f, G)
  | [], _ => rfl
  | x :: xs, h => by
    obtain ⟨G1, r, G2, h1, h2, h3, h4⟩ := h x List.mem_cons_self
    have ih := xlcL_en f (xs := xs) (fun y hy => h y (List.mem_cons_of_mem _ hy))
    show xlcL tg xtyes e vs (en x :: xs.map en) G = _
    unfold xlcL
    rw [h1]
    simp only [bd_some, xtyes, if_true, h2, h4]
    rw [ih]
    simp only [bd_some, h3, List.map_cons]
/-- a comprehension over names that are not set yet -/
theorem xlc_un {it : M (List D)} {tg : D → Gam → Option Gam} {t : M Bool} {e : M R} {vs : List Nat} {G0 G : Gam} {ds out : List D} (h1 : it G0 = some (ds, G)) (h2 : noMu G vs = true) (hw : wipeG G vs = G) (hu : unw G G vs = G)
    (h3 : xlcL tg t e vs ds G = some (out, G)) (hf : out.length ≤ 100000) : xlc it tg t e vs G0 = some (.ol out, G) := by
  have h3' : xlcL tg t e vs ds (wipeG G vs) = some (out, G) := by rw [hw]; exact h3
  have := xlc_ok h1 h2 h3' (decide_eq_true (Nat.le_trans hf (by decide)))
  rw [hu] at this
  exact this
theorem atI_nat {α : Type} (xs : List α) (i : Nat) (h : i < xs.length) : atI xs (i : Int) = xs[i]? := by
  unfold atI ixN
  rw [if_pos (by omega), if_pos (by omega), Int.toNat_natCast]
  rfl
theorem fewl {n : Nat} (h : n ≤ 100000) : few n = true := decide_eq_true (Nat.le_trans h (by decide))
/-- tests asked of values alone -/
theorem div_divInt (a b : Rat) : Rat.divInt (a.num * b.den) (a.den * b.num) = a / b := by
  rw [← Rat.divInt_mul_divInt, divInt_self, Rat.div_def, Rat.inv_def]
theorem Ht.div {a b : Rat} {k l : Nat} (h : Ht a k) (h' : Ht b l) (h0 : b ≠ 0) : Ht (a / b) (k + l) := by
  rw [← div_divInt]
  exact ht_divInt (Int.mul_ne_zero (den_ne a) (fun h => h0 (Rat.num_eq_zero.mp h))) (h.1.mul h'.2) (h.2.mul h'.1)
end Bk
namespace Bk
open PySem L2
def dd : Option Rat → List Rat → List Rat
  | _, [] => []
  | p, x :: xs => if p = some x then dd (some x) xs else x :: dd (some x) xs
theorem eqv_vq (a b : Rat) : eqD (vq a) (vq b) = some (decide (a = b)) := by
  have e : eqD (vq a) (vq b) = some (PyData.eqv (pyq a) (pyq b)) := rfl
  rw [e]
  have : PyData.eqv (pyq a) (pyq b) = (decide (a.num = b.num) && decide ((a.den : Int) = b.den)) := by
    simp [pyq, PyData.eqv, PyData.eqvAll]
    rfl
  rw [this]
  congr 1
  by_cases h : a = b
  · subst h; simp
  · rw [decide_eq_false h]
    by_cases h1 : a.num = b.num
    · have h2 : ¬ (a.den : Int) = b.den := fun z => h (Rat.ext h1 (by omega))
      rw [decide_eq_false h2, Bool.and_false]
    · rw [decide_eq_false h1, Bool.false_and]
theorem ne_vq (a b : Rat) : opNe (vq a) (vq b) = some (.im (.bl (!decide (a = b)))) := by
  unfold opNe
  rw [eqv_vq]
end Bk
namespace Bk
open PySem L2
abbrev Wt := Rat × Rat
abbrev Sh := Rat × Rat × Rat
theorem foldl_add (l : List Rat) : ∀ a : Rat, l.foldl (· + ·) a = a + sumQ l := by
  induction l with
  | nil => intro a; show a = a + 0; grind
  | cons x l ih =>
    intro a
    show l.foldl (· + ·) (a + x) = a + l.foldl (· + ·) (0 + x)
    rw [ih, ih (0 + x)]
    grind
theorem sumQ_nil : sumQ [] = 0 := rfl
theorem sumQ_cons (x : Rat) (l : List Rat) : sumQ (x :: l) = x + sumQ l := by
  show l.foldl (· + ·) (0 + x) = _
  rw [foldl_add]
  grind
theorem sumQ_app (a b : List Rat) : sumQ (a ++ b) = sumQ a + sumQ b := by
  induction a with
  | nil => rw [List.nil_append, sumQ_nil]; grind
  | cons x a ih => rw [List.cons_append, sumQ_cons, ih, sumQ_cons]; grind
def sumM {α : Type} (l : List α) (f : α → Rat) : Rat := sumQ (l.map f)
theorem sumM_cons {α : Type} (x : α) (l : List α) (f : α → Rat) : sumM (x :: l) f = f x + sumM l f := sumQ_cons _ _
theorem sumM_app {α : Type} (a b : List α) (f : α → Rat) : sumM (a ++ b) f = sumM a f + sumM b f := by
  unfold sumM
  rw [List.map_append, sumQ_app]
theorem sumM_add {α : Type} (l : List α) (f g : α → Rat) : sumM l (fun x => f x + g x) = sumM l f + sumM l g := by
  induction l with
  | nil => show (0 : Rat) = 0 + 0; grind
  | cons x l ih => rw [sumM_cons, sumM_cons, sumM_cons, ih]; grind
theorem sumM_zero {α : Type} (l : List α) : sumM l (fun _ => 0) = 0 := by
  induction l with
  | nil => rfl
  | cons x l ih => rw [sumM_cons, ih]; grind
theorem sumM_mul {α : Type} (l : List α) (f : α → Rat) (c : Rat) : sumM l (fun x => c * f x) = c * sumM l f := by
  induction l with
  | nil => show (0 : Rat) = c * 0; grind
  | cons x l ih => rw [sumM_cons, sumM_cons, ih]; grind
theorem sumM_congr {α : Type} {l : List α} {f g : α → Rat} (h : ∀ x ∈ l, f x = g x) : sumM l f = sumM l g := by
  unfold sumM
  rw [List.map_congr_left h]
theorem sumM_map {α β : Type} (l : List α) (g : α → β) (f : β → Rat) : sumM (l.map g) f = sumM l fun x => f (g x) := by
  unfold sumM
  rw [List.map_map]
  rfl
def wval (f : Rat → Rat) (ws : List Wt) : Rat := sumM ws fun w => w.2 * f w.1
def sval (F : Rat → Rat) (ss : List Sh) : Rat := sumM ss fun s => s.2.2 * (F s.2.1 - F s.1)
end Bk
namespace Bk
theorem isV_vq (q : Rat) : IsV (vq q) q := .inr rfl
theorem isV_int (i : Int) : IsV (.int i) (i : Rat) := .inl ⟨i, rfl, rfl⟩
end Bk
namespace Bk
open PySem L2
theorem xsl_ok {o : D → Option Int → Option Int → Option R} {a : M R} {l h : MO} {G G1 G2 G3 : Gam} {x r : R} {i j : Option Int} (ha : a G = some (x, G1)) (hl : l G1 = some (i, G2)) (hh : h G2 = some (j, G3)) (ho : o x.d i j = some r) : xsl o a l h G = some (r, G3) := by
  unfold xsl
  rw [ha]
  simp only [bd_some, hl, hh, ho]
theorem cut_tail (xs : List D) : cutD xs (some 1) none = xs.tail := by
  unfold cutD
  rw [HT.sIx_none]
  have e : HT.sIx xs.length 0 (some 1) = min 1 xs.length := HT.sIx_nat _ _ 1
  rw [e]
  cases xs with
  | nil => rfl
  | cons x xs =>
    have : min 1 (x :: xs).length = 1 := by rw [List.length_cons]; omega
    rw [this, List.drop_one, List.tail_cons, List.length_cons, Nat.add_sub_cancel, List.take_length]
end Bk
namespace Bk
open PySem L2
theorem xfld_ok {c i : Nat} {a : M R} {G G1 : Gam} {ds : List D} {d : D} {r : R} (h : a G = some (r, G1)) (hr : r.d = .obj c ds) (hd : ds[i]? = some d) : xfld c i a G = some (.im d, G1) := by
  unfold xfld
  rw [h]
  simp only [bd_some, hr, if_true, hd]
theorem bools_true {α : Type} : ∀ l : List α, bools (l.map fun _ => D.bl true) = some (l.map fun _ => true)
  | [] => rfl
  | x :: l => by
    show bools (D.bl true :: l.map fun _ => D.bl true) = _
    unfold bools
    rw [bools_true l]
    rfl
theorem all_true {α : Type} (l : List α) : cbAll [.lst (l.map fun _ => D.bl true)] = some (.im (.bl true)) := by
  show (bools (l.map fun _ => D.bl true)).map (fun bs => R.im (.bl (bs.all id))) = _
  rw [bools_true]
  have : (l.map fun _ => true).all id = true := by simp
  show some (R.im (.bl ((l.map fun _ => true).all id))) = _
  rw [this]
/-- d holds a list or a tuple of ds -/
def isSq (d : D) (ds : List D) : Prop := d = .lst ds ∨ d = .tup ds ∨ d = .frz ds
theorem isSq.seq {d : D} {ds : List D} (h : isSq d ds) : seqD d = some ds := by
  rcases h with rfl | rfl | rfl <;> rfl
def hor (cs : List Rat) (x : Rat) : Rat := cs.foldr (fun c a => a * x + c) 0
def apow : Nat → List Rat → List Rat
  | _, [] => []
  | i, c :: cs => c / (((i : Int) + 1 : Int) : Rat) :: apow (i + 1) cs
def areaP (cs : List Rat) : List Rat := 0 :: apow 0 cs
def tol (ws : List Wt) (ss : List Sh) (cs : List Rat) : Rat := wval (hor cs) ws + sval (hor (areaP cs)) ss
theorem apow_len : ∀ (i : Nat) (cs : List Rat), (apow i cs).length = cs.length
  | _, [] => rfl
  | i, c :: cs => by show (apow (i + 1) cs).length + 1 = _; rw [apow_len (i + 1) cs]; rfl
end Bk
namespace Bk
def fac (n : Nat) : Nat := (List.range n).foldl (fun a i => a * (i + 1)) 1
end Bk
namespace Bk
open PySem L2
def rpow (q : Rat) : Nat → Rat
  | 0 => 1
  | n + 1 => rpow q n * q
def mono (n : Nat) : List Rat := List.replicate n 0 ++ [1]
theorem xby_mu {i : Nat} {a b : M R} {G : Gam} {o : Option (R × Gam)} (h : isMu G i = true) (h2 : a G = o) : xby i a b G = o := by
  unfold xby
  rw [if_pos h, h2]
theorem xdrop_ok {a : M R} {G G1 : Gam} {r : R} (h : a G = some (r, G1)) : xdrop a G = some (.nx, G1) := by
  unfold xdrop
  rw [h]
  rfl
/-- turns that draw: each leaves a word to stand, and gives a thing that is as asked -/
theorem xlcL_ex {tg : D → Gam → Option Gam} {e : M R} {vs : List Nat} (Inv : Gam → Prop) (Qd : D → Prop) : ∀ {ds : List D} {G : Gam}, Inv G → (∀ d ∈ ds, ∀ G, Inv G → ∃ G1 r G2, tg d G = some G1 ∧ e G1 = some (r, G2) ∧ Qd r.d ∧ Inv (wipeG G2 vs)) →
    ∃ out G', xlcL tg xtyes e vs ds G = some (out, G') ∧ Inv G' ∧ (∀ d ∈ out, Qd d) ∧ out.length = ds.length
  | [], G, h, _ => ⟨[], G, rfl, h, (by simp), rfl⟩
  | d :: ds, G, h, hs => by
    obtain ⟨G1, r, G2, h1, h2, h3, h4⟩ := hs d List.mem_cons_self G h
    obtain ⟨out, G', i1, i2, i3, i4⟩ := xlcL_ex (tg := tg) (e := e) (vs := vs) Inv Qd h4 fun z hz => hs z (List.mem_cons_of_mem _ hz)
    refine ⟨r.d :: out, G', ?_, i2, fun z hz => ?_, by rw [List.length_cons, i4, List.length_cons]⟩
    · unfold xlcL
      rw [h1]
      simp only [bd_some, xtyes, if_true, h2]
      have i1' := i1
      unfold xtyes at i1'
      first
        | rw [i1']; rfl
        | rw [i1]; rfl
    · rcases List.mem_cons.mp hz with rfl | hz
      · exact h3
      · exact i3 z hz
theorem enc_of {α : Type} {en : α → D} {P : α → Prop} : ∀ {out : List D}, (∀ d ∈ out, ∃ x, d = en x ∧ P x) → ∃ xs : List α, out = xs.map en ∧ ∀ x ∈ xs, P x
  | [], _ => ⟨[], rfl, by simp⟩
  | d :: out, h => by
    obtain ⟨x, hx, px⟩ := h d List.mem_cons_self
    obtain ⟨xs, e, p⟩ := enc_of (out := out) fun z hz => h z (List.mem_cons_of_mem _ hz)
    refine ⟨x :: xs, by rw [hx, e]; rfl, fun y hy => ?_⟩
    rcases List.mem_cons.mp hy with rfl | hy
    · exact px
    · exact p y hy
end Bk
namespace Bk
open PySem L2
theorem v_w_choose {bs : Mob} {m : Int} (hb : Bx bs) (hm : 0 < m) (hm9 : m < 1000000) : ∃ d bs', r_w_choose bs [.int m] = some (.im (.int d), bs') ∧ 0 ≤ d ∧ d < m ∧ Bx bs' := by
  obtain ⟨g, r, rfl, hr, hr9⟩ := hb
  have om : okDiv m = true := Sm.okDiv (k := 20) (by unfold Sm; omega) (by omega) (by decide)
  have nm : decide (m ≠ 0) = true := decide_eq_true (by omega)
  by_cases hg : 0 < g
  · refine ⟨g.fmod m, .l [.int (g.fdiv m), .int r], ?_, (fmod_lt g hm).1, (fmod_lt g hm).2, ⟨_, _, rfl, hr, hr9⟩⟩
    have e1 : xtest (xop opGt (xby 0 (xixv 0 (xc (.int 0))) (xop opIx (xv 0) (xc (.int 0)))) (xc (.int 0))) [.bl [.int g, .int r], .im (.int m), .un, .un] = some (true, [.bl [.int g, .int r], .im (.int m), .un, .un]) := by
      rw [← decide_eq_true hg]
      rfl
    have e2 : xput 0 (xop opFdiv (xby 0 (xixv 0 (xc (.int 0))) (xop opIx (xv 0) (xc (.int 0)))) (xv 1)) (xc (.int 0)) [.bl [.int g, .int r], .im (.int m), .im (.int (g.fmod m)), .un] = some (.nx, [.bl [.int (g.fdiv m), .int r], .im (.int m), .im (.int (g.fmod m)), .un]) := by
      unfold xput
      rw [xo2 rfl rfl (if_pos om)]
      rfl
    refine runB_st rfl ?_
    refine sb_rt (by exact (xifs_ok e1).trans (by exact (xseq_nx (xset_e (xo2 rfl rfl (if_pos nm)) rfl)).trans ((xseq_nx e2).trans rfl))) rfl
  · have e1 : xtest (xop opGt (xby 0 (xixv 0 (xc (.int 0))) (xop opIx (xv 0) (xc (.int 0)))) (xc (.int 0))) [.bl [.int g, .int r], .im (.int m), .un, .un] = some (false, [.bl [.int g, .int r], .im (.int m), .un, .un]) := by
      rw [← decide_eq_false hg]
      rfl
    have o1 : okMul r 40014 = true := Sm.okMul (k := 33) (l := 17) (by unfold Sm; omega) (by unfold Sm; decide) (by decide)
    have b1 := fmod_lt (r * 40014 + 67) (b := 2147483563) (by decide)
    generalize h1 : (r * 40014 + 67).fmod 2147483563 = w at b1
    have o2 : okMul w 40692 = true := Sm.okMul (k := 33) (l := 17) (by unfold Sm; omega) (by unfold Sm; decide) (by decide)
    have b2 := fmod_lt (w * 40692 + 5099) (b := 2147483629) (by decide)
    generalize h2 : (w * 40692 + 5099).fmod 2147483629 = u at b2
    have o3 : okMul w 2147483647 = true := Sm.okMul (k := 33) (l := 33) (by unfold Sm; omega) (by unfold Sm; decide) (by decide)
    have o4 : okDiv 8191 = true := Sm.okDiv (k := 20) (by unfold Sm; decide) (by decide) (by decide)
    refine ⟨((w * 2147483647 + (u + 1)).fdiv 8191).fmod m, .l [.int g, .int (u + 1)], ?_, (fmod_lt _ hm).1, (fmod_lt _ hm).2, ⟨_, _, rfl, by omega, by omega⟩⟩
    refine runB_st rfl ?_
    refine sb_nx (by exact (xifs_ok e1).trans rfl) ?_
    refine sb_nx (G1 := [.bl [.int g, .int r], .im (.int m), .un, .im (.int w)]) (by
      rw [← h1]
      exact xset_e (xo2 (xcb_ok (xc1 (xo2 (xo2 rfl rfl (if_pos o1)) rfl rfl) xnil_ok) rfl) rfl rfl) rfl) ?_
    refine sb_nx (G1 := [.bl [.int g, .int (u + 1)], .im (.int m), .un, .im (.int w)]) ?_ ?_
    · unfold xput
      have e4 : xop opAddB (xop opMod (xcb cbInt (xcons (xop opAddB (xop opMul (xv 3) (xc (.int 40692))) (xc (.int 5099))) xnil)) (xc (.int 2147483629))) (xc (.int 1)) [.bl [.int g, .int r], .im (.int m), .un, .im (.int w)] = some (.im (.int (u + 1)), [.bl [.int g, .int r], .im (.int m), .un, .im (.int w)]) := by
        rw [← h2]
        exact xo2 (xo2 (xcb_ok (xc1 (xo2 (xo2 rfl rfl (if_pos o2)) rfl rfl) xnil_ok) rfl) rfl rfl) rfl rfl
      rw [e4]
      rfl
    · exact sb_ret (G1 := [.im (.int m), .un, .im (.int w)]) (by exact xo2 (xcb_ok (xc1 (xo2 (xo2 (xo2 rfl rfl (if_pos o3)) rfl rfl) rfl (o_div o4)) xnil_ok) rfl) rfl (if_pos nm))
theorem v_w_is_less {a b : Rat} {k l : Nat} (ha : Ht a k) (hb : Ht b l) (h9 : k + l < 8990) : r_w_is_less [vq a, vq b] = some (.im (.bl (decide (a < b)))) := by
  have e : decide (a < b) = decide (a.num * b.den < b.num * a.den) := decide_eq_decide.mpr (Rat.lt_iff a b)
  rw [e]
  exact runF_st rfl (st_ret (xo2 (xo2 rfl rfl (if_pos (ha.1.okMul hb.2 (by omega)))) (xo2 rfl rfl (if_pos (hb.1.okMul ha.2 (by omega)))) rfl))
theorem v_w_divisor (a b : Int) : r_w_divisor [.int a, .int b] = some (.im (.int (Nat.gcd a.natAbs b.natAbs : Nat))) := by
  have key := div_loop (xtest (xop opNe (xv 1) (xc (.int 0)))) b_w_divisor_1 (fun x y => rfl) (fun x y hy => by
    have h0 : decide ((y : Int) ≠ 0) = true := decide_eq_true (by omega)
    have e : xop opMod (xcb cbInt (xcons (xv 0) xnil)) (xv 1) [.im (.int x), .im (.int y)] = some (.im (.int ((x : Int).fmod y)), [.im (.int x), .im (.int y)]) := xop_ok rfl rfl (if_pos h0)
    rw [fmod_nat] at e
    have e2 : ycons (xv 1) (ycons (xop opMod (xcb cbInt (xcons (xv 0) xnil)) (xv 1)) ynil) [.im (.int x), .im (.int y)] = some ([.im (.int y), .im (.int ((x % y : Nat) : Int))], [.im (.int x), .im (.int y)]) := ycons_ok rfl (ycons_ok e rfl)
    exact ypar_ok e2) (b.natAbs + 1) a.natAbs b.natAbs (Nat.lt_succ_self _)
  have e1 : ypar 0 1 (ycons (xcb cbAbs (xcons (xv 0) xnil)) (ycons (xcb cbAbs (xcons (xv 1) xnil)) ynil)) [.im (.int a), .im (.int b)] = some (.nx, [.im (.int a.natAbs), .im (.int b.natAbs)]) := by
    rw [← abs_nat a, ← abs_nat b]
    rfl
  refine runF_st rfl ?_
  unfold b_w_divisor
  refine st_nx (by exact e1) ?_
  refine st_nx (by exact key) ?_
  exact st_ret rfl
theorem v_w_low {a b : Int} {k : Nat} (hb : b ≠ 0) (hk : Sm b k) (h9 : k < 9000) : r_w_low [.int a, .int b] = some (.im (vq (Rat.divInt a b))) := by
  have e3 : xif (xtest (xop opGt (xv 1) (xc (.int 0)))) (xc (.int 1)) (xop opSub (xc (.int 0)) (xc (.int 1))) [.im (.int a), .im (.int b), .un] =
      some (.im (.int (if b < 0 then -1 else 1)), [.im (.int a), .im (.int b), .un]) := by
    unfold xif
    rw [show xtest (xop opGt (xv 1) (xc (.int 0))) [.im (.int a), .im (.int b), .un] = some (decide (0 < b), [.im (.int a), .im (.int b), .un]) from rfl]
    simp only [bd_some]
    by_cases h : b < 0
    · rw [if_pos h, decide_eq_false (by omega)]; rfl
    · rw [if_neg h, decide_eq_true (by omega)]; rfl
  have eg : ((Nat.gcd a.natAbs b.natAbs : Nat) : Int) * (if b < 0 then -1 else 1) = (if b < 0 then -((Nat.gcd a.natAbs b.natAbs : Nat) : Int) else ((Nat.gcd a.natAbs b.natAbs : Nat) : Int)) := by
    split <;> omega
  have g0 : Nat.gcd a.natAbs b.natAbs ≠ 0 := by
    intro z
    have := Nat.eq_zero_of_gcd_eq_zero_right z
    omega
  have gle : Nat.gcd a.natAbs b.natAbs ≤ b.natAbs := Nat.gcd_le_right _ (by omega)
  have gs1 : Sm ((Nat.gcd a.natAbs b.natAbs : Nat) : Int) k := by
    unfold Sm at *
    omega
  have om : okMul ((Nat.gcd a.natAbs b.natAbs : Nat) : Int) (if b < 0 then -1 else 1) = true := gs1.okMul (l := 2) (by unfold Sm; split <;> decide) (by omega)
  have n1 := low_num (n := a) hb
  have n2 := low_den (n := a) hb
  have gs : Sm (if b < 0 then -((Nat.gcd a.natAbs b.natAbs : Nat) : Int) else ((Nat.gcd a.natAbs b.natAbs : Nat) : Int)) k := by
    unfold Sm at *
    split <;> omega
  have gn : (if b < 0 then -((Nat.gcd a.natAbs b.natAbs : Nat) : Int) else ((Nat.gcd a.natAbs b.natAbs : Nat) : Int)) ≠ 0 := by split <;> omega
  have ok := gs.okDiv gn h9
  rw [vq, ← n1, ← n2]
  rw [← eg] at ok ⊢
  refine runF_st rfl ?_
  refine st_nx (by exact xset_e (xop_ok (xcall_ok (xc1 rfl (xc1 rfl xnil_ok)) (v_w_divisor a b)) e3 (if_pos om)) rfl) ?_
  exact st_ret (by exact xtup_ok (xc1 (xo2 rfl rfl (if_pos ok)) (xc1 (xo2 rfl rfl (if_pos ok)) xnil_ok)) rfl)
theorem v_w_minus {a b : Rat} {k l : Nat} (ha : Ht a k) (hb : Ht b l) (h9 : k + l < 8990) : r_w_minus [vq a, vq b] = some (.im (vq (a - b))) := by
  rw [← sub_divInt]
  exact runF_st rfl (st_ret (xcall_ok (xc1 (xo2 (xo2 rfl rfl (if_pos (ha.1.okMul hb.2 (by omega)))) (xo2 rfl rfl (if_pos (hb.1.okMul ha.2 (by omega)))) rfl) (xc1 (xo2 rfl rfl (if_pos (ha.2.okMul hb.2 (by omega)))) xnil_ok)) (v_w_low (Int.mul_ne_zero (den_ne a) (den_ne b)) (ha.2.mul hb.2) (by omega))))
theorem v_w_seed {ns : List Int} {k : Int} (hk : 0 ≤ k) (h9 : k < 64) : ∃ bs, r_w_seed [.frz (ns.map .int), .int k] = some (.ow bs) ∧ Bx bs := by
  have tail : ∀ c : Int, ∃ bs : Mob, Bx bs ∧ outF ((xseq (xset 3 (xif (xtest (xop opGe (xv 2) (xop opPow (xc (.int 10)) (xc (.int 18))))) (xv 2) (xc (.int 0))))
  (xret (xlst (xcons (xv 3) (xcons (xop opAddB (xop opMod (xcb cbInt (xcons (xop opAddB (xop opMul (xop opMod (xcb cbInt (xcons (xv 2) xnil)) (xc (.int 2147483629))) (xc (.int 48271))) (xop opMul (xc (.int 44017)) (xv 1))) xnil)) (xc (.int 2147483629))) (xc (.int 1))) xnil))))) [.im (.frz (ns.map .int)), .im (.int k), .im (.int c), .un]) = some (.ow bs) := fun c => by
    have b1 := fmod_lt c (b := 2147483629) (by decide)
    generalize h1 : c.fmod 2147483629 = w at b1
    have o1 : okMul w 48271 = true := Sm.okMul (k := 33) (l := 17) (by unfold Sm; omega) (by unfold Sm; decide) (by decide)
    have o2 : okMul 44017 k = true := Sm.okMul (k := 17) (l := 7) (by unfold Sm; decide) (by unfold Sm; omega) (by decide)
    have b2 := fmod_lt (w * 48271 + 44017 * k) (b := 2147483629) (by decide)
    generalize h2 : (w * 48271 + 44017 * k).fmod 2147483629 = u at b2
    have e3 : xset 3 (xif (xtest (xop opGe (xv 2) (xop opPow (xc (.int 10)) (xc (.int 18))))) (xv 2) (xc (.int 0))) [.im (.frz (ns.map .int)), .im (.int k), .im (.int c), .un] = some (.nx, [.im (.frz (ns.map .int)), .im (.int k), .im (.int c), .im (.int (if 10 ^ 18 ≤ c then c else 0))]) := by
      have t : xtest (xop opGe (xv 2) (xop opPow (xc (.int 10)) (xc (.int 18)))) [.im (.frz (ns.map .int)), .im (.int k), .im (.int c), .un] = some (decide ((10 : Int) ^ 18 ≤ c), [.im (.frz (ns.map .int)), .im (.int k), .im (.int c), .un]) := xtest_ok (xo2 rfl (xo2 rfl rfl (o_pow (by decide))) rfl)
      by_cases h : (10 : Int) ^ 18 ≤ c
      · rw [decide_eq_true h] at t
        rw [if_pos h]
        exact xset_e ((xif_ok t).trans rfl) rfl
      · rw [decide_eq_false h] at t
        rw [if_neg h]
        exact xset_e ((xif_ok t).trans rfl) rfl
    refine ⟨.l [.int (if 10 ^ 18 ≤ c then c else 0), .int (u + 1)], ⟨_, _, rfl, by omega, by omega⟩, ?_⟩
    refine st_nx e3 ?_
    have e4 : xop opAddB (xop opMod (xcb cbInt (xcons (xop opAddB (xop opMul (xop opMod (xcb cbInt (xcons (xv 2) xnil)) (xc (.int 2147483629))) (xc (.int 48271))) (xop opMul (xc (.int 44017)) (xv 1))) xnil)) (xc (.int 2147483629))) (xc (.int 1)) [.im (.frz (ns.map .int)), .im (.int k), .im (.int c), .im (.int (if 10 ^ 18 ≤ c then c else 0))] = some (.im (.int (u + 1)), [.im (.frz (ns.map .int)), .im (.int k), .im (.int c), .im (.int (if 10 ^ 18 ≤ c then c else 0))]) := by
      rw [← h2]
      have e5 : xop opMod (xcb cbInt (xcons (xv 2) xnil)) (xc (.int 2147483629)) [.im (.frz (ns.map .int)), .im (.int k), .im (.int c), .im (.int (if 10 ^ 18 ≤ c then c else 0))] = some (.im (.int w), [.im (.frz (ns.map .int)), .im (.int k), .im (.int c), .im (.int (if 10 ^ 18 ≤ c then c else 0))]) := by
        rw [← h1]
        exact xo2 (xcb_ok (xc1 rfl xnil_ok) rfl) rfl (o_mod (by decide))
      exact xo2 (xo2 (xcb_ok (xc1 (xo2 (xo2 e5 rfl (o_mul o1)) (xo2 rfl rfl (o_mul o2)) rfl) xnil_ok) rfl) rfl (o_mod (by decide))) rfl rfl
    exact st_ret (xlst_ok (xc1 rfl (xc1 e4 xnil_ok)) rfl)
  have cell : ∀ i : Int, 0 ≤ i → i < (ns.length : Int) → ∃ c : Int, opIx (.frz (ns.map .int)) (.int i) = some (.im (.int c)) := fun i h0 h1 => by
    obtain ⟨x, hx, hm⟩ := atI_ok (xs := ns.map D.int) (i := i) h0 (by rw [List.length_map]; exact h1)
    obtain ⟨c, _, rfl⟩ := List.mem_map.mp hm
    refine ⟨c, ?_⟩
    show (atI (ns.map D.int) i).map R.im = _
    rw [hx]
    rfl
  have hlen : cbLen [.frz (ns.map .int)] = some (.im (.int ns.length)) := by
    show some (R.im (.int (((ns.map D.int).length : Nat) : Int))) = _
    rw [List.length_map]
  have om : okMul 8837 k = true := Sm.okMul (k := 15) (l := 7) (by unfold Sm; decide) (by unfold Sm; omega) (by decide)
  have e1 : xset 2 (xop opAddB (xop opMul (xc (.int 8837)) (xv 1)) (xc (.int 71))) [.im (.frz (ns.map .int)), .im (.int k), .un, .un] = some (.nx, [.im (.frz (ns.map .int)), .im (.int k), .im (.int (8837 * k + 71)), .un]) := xset_e (xo2 (xo2 rfl rfl (o_mul om)) rfl rfl) rfl
  have t1 : xtest (xop opLt (xv 1) (xcb cbLen (xcons (xv 0) xnil))) [.im (.frz (ns.map .int)), .im (.int k), .im (.int (8837 * k + 71)), .un] = some (decide (k < (ns.length : Int)), [.im (.frz (ns.map .int)), .im (.int k), .im (.int (8837 * k + 71)), .un]) := xtest_ok (xo2 rfl (xcb_ok (xc1 rfl xnil_ok) hlen) rfl)
  have t2 : xtest (xop opGt (xcb cbLen (xcons (xv 0) xnil)) (xc (.int 0))) [.im (.frz (ns.map .int)), .im (.int k), .im (.int (8837 * k + 71)), .un] = some (decide (0 < (ns.length : Int)), [.im (.frz (ns.map .int)), .im (.int k), .im (.int (8837 * k + 71)), .un]) := xtest_ok (xo2 (xcb_ok (xc1 rfl xnil_ok) hlen) rfl rfl)
  by_cases h : k < (ns.length : Int)
  · rw [decide_eq_true h] at t1
    obtain ⟨c, hc⟩ := cell k hk h
    obtain ⟨bs, hb, ht⟩ := tail (if c < 0 then -c else c)
    exact ⟨bs, runF_st rfl (st_nx (by exact e1) (st_nx (by exact (xifs_ok t1).trans (xset_e (xcb_ok (xc1 (xo2 rfl rfl hc) xnil_ok) rfl) rfl)) ht)), hb⟩
  · rw [decide_eq_false h] at t1
    by_cases h2 : 0 < (ns.length : Int)
    · rw [decide_eq_true h2] at t2
      obtain ⟨f1, f2⟩ := fmod_lt k h2
      obtain ⟨c, hc⟩ := cell (k.fmod ns.length) f1 f2
      have b1 := fmod_lt (if c < 0 then -c else c) (b := 2147483629) (by decide)
      have o1 : okMul ((if c < 0 then -c else c).fmod 2147483629) 46021 = true := Sm.okMul (k := 33) (l := 17) (by unfold Sm; omega) (by unfold Sm; decide) (by decide)
      obtain ⟨bs, hb, ht⟩ := tail (8837 * k + 71 + (if c < 0 then -c else c).fmod 2147483629 * 46021)
      refine ⟨bs, runF_st rfl (st_nx (by exact e1) (st_nx (by exact (xifs_ok t1).trans ((xifs_ok t2).trans (xset_e (xo2 rfl (xo2 (xo2 (xcb_ok (xc1 (xcb_ok (xc1 (xo2 rfl (xo2 (xcb_ok (xc1 rfl xnil_ok) rfl) (xcb_ok (xc1 rfl xnil_ok) hlen) (o_mod (by omega))) hc) xnil_ok) rfl) xnil_ok) rfl) rfl (o_mod (by decide))) rfl (o_mul o1)) rfl) rfl))) ht)), hb⟩
    · rw [decide_eq_false h2] at t2
      obtain ⟨bs, hb, ht⟩ := tail (8837 * k + 71)
      exact ⟨bs, runF_st rfl (st_nx (by exact e1) (st_nx (by exact (xifs_ok t1).trans ((xifs_ok t2).trans rfl)) ht)), hb⟩
theorem v_divisor (a b : Int) : r_divisor [.int a, .int b] = some (.im (.int (Nat.gcd a.natAbs b.natAbs : Nat))) := by
  have key := div_loop (xtest (xop opNe (xv 1) (xc (.int 0)))) b_divisor_1 (fun x y => rfl) (fun x y hy => by
    have h0 : decide ((y : Int) ≠ 0) = true := decide_eq_true (by omega)
    have e : xop opMod (xv 0) (xv 1) [.im (.int x), .im (.int y)] = some (.im (.int ((x : Int).fmod y)), [.im (.int x), .im (.int y)]) := xo2 rfl rfl (if_pos h0)
    rw [fmod_nat] at e
    have e2 : ycons (xv 1) (ycons (xop opMod (xv 0) (xv 1)) ynil) [.im (.int x), .im (.int y)] = some ([.im (.int y), .im (.int ((x % y : Nat) : Int))], [.im (.int x), .im (.int y)]) := ycons_ok rfl (ycons_ok e rfl)
    exact ypar_ok e2) (b.natAbs + 1) a.natAbs b.natAbs (Nat.lt_succ_self _)
  have e1 : ypar 0 1 (ycons (xcb cbAbs (xcons (xv 0) xnil)) (ycons (xcb cbAbs (xcons (xv 1) xnil)) ynil)) [.im (.int a), .im (.int b)] = some (.nx, [.im (.int a.natAbs), .im (.int b.natAbs)]) := by
    rw [← abs_nat a, ← abs_nat b]
    rfl
  refine runF_st rfl ?_
  unfold b_divisor
  refine st_nx (by exact e1) ?_
  refine st_nx (by exact key) ?_
  exact st_ret rfl
theorem v_lowest {a b : Int} {k : Nat} (hb : b ≠ 0) (hk : Sm b k) (h9 : k < 9000) : r_lowest [.int a, .int b] = some (.im (vq (Rat.divInt a b))) := by
  have e3 : xif (xtest (xop opLt (xv 1) (xc (.int 0)))) (xun unNeg (xv 2)) (xv 2) [.im (.int a), .im (.int b), .im (.int (Nat.gcd a.natAbs b.natAbs : Nat))] =
      some (.im (.int (if b < 0 then -((Nat.gcd a.natAbs b.natAbs : Nat) : Int) else ((Nat.gcd a.natAbs b.natAbs : Nat) : Int))), [.im (.int a), .im (.int b), .im (.int (Nat.gcd a.natAbs b.natAbs : Nat))]) := by
    unfold xif
    rw [show xtest (xop opLt (xv 1) (xc (.int 0))) [.im (.int a), .im (.int b), .im (.int (Nat.gcd a.natAbs b.natAbs : Nat))] = some (decide (b < 0), [.im (.int a), .im (.int b), .im (.int (Nat.gcd a.natAbs b.natAbs : Nat))]) from rfl]
    simp only [bd_some]
    by_cases h : b < 0
    · rw [if_pos h, decide_eq_true h]; rfl
    · rw [if_neg h, decide_eq_false h]; rfl
  generalize hg : (if b < 0 then -((Nat.gcd a.natAbs b.natAbs : Nat) : Int) else ((Nat.gcd a.natAbs b.natAbs : Nat) : Int)) = g at e3
  have g0 : Nat.gcd a.natAbs b.natAbs ≠ 0 := by
    intro z
    have := Nat.eq_zero_of_gcd_eq_zero_right z
    omega
  have gle : Nat.gcd a.natAbs b.natAbs ≤ b.natAbs := Nat.gcd_le_right _ (by omega)
  have gs : Sm g k := by
    unfold Sm at *
    rw [← hg]
    split <;> omega
  have gn : g ≠ 0 := by rw [← hg]; split <;> omega
  have ok := gs.okDiv gn h9
  have n1 := low_num (n := a) hb
  have n2 := low_den (n := a) hb
  rw [hg] at n1 n2
  rw [vq, ← n1, ← n2]
  refine runF_st rfl ?_
  unfold b_lowest
  refine st_nx (by exact xset_ok (xcall_ok (xc1 rfl (xc1 rfl xnil_ok)) (v_divisor a b))) ?_
  refine st_nx (by exact xset_ok e3) ?_
  exact st_ret (xtup_ok (xc1 (xo2 rfl rfl (if_pos ok)) (xc1 (xo2 rfl rfl (if_pos ok)) xnil_ok)) rfl)
theorem v_less_by {a b : Rat} {k l : Nat} (ha : Ht a k) (hb : Ht b l) (h9 : k + l < 8990) : r_less_by [vq a, vq b] = some (.im (vq (a - b))) := by
  rw [← sub_divInt]
  exact runF_st rfl (st_ret (xcall_ok (xc1 (xo2 (xo2 rfl rfl (if_pos (ha.1.okMul hb.2 (by omega)))) (xo2 rfl rfl (if_pos (hb.1.okMul ha.2 (by omega)))) rfl) (xc1 (xo2 rfl rfl (if_pos (ha.2.okMul hb.2 (by omega)))) xnil_ok)) (v_lowest (Int.mul_ne_zero (den_ne a) (den_ne b)) (ha.2.mul hb.2) (by omega))))
theorem v_is_less {a b : Rat} {k l : Nat} (ha : Ht a k) (hb : Ht b l) (h9 : k + l < 8990) : r_is_less [vq a, vq b] = some (.im (.bl (decide (a < b)))) := by
  have e : decide (a < b) = decide (a.num * b.den < b.num * a.den) := decide_eq_decide.mpr (Rat.lt_iff a b)
  rw [e]
  exact runF_st rfl (st_ret (xo2 (xo2 rfl rfl (if_pos (ha.1.okMul hb.2 (by omega)))) (xo2 rfl rfl (if_pos (hb.1.okMul ha.2 (by omega)))) rfl))
theorem v_is_integer_q (q : Rat) : r_is_integer [vq q] = some (.im (.bl false)) := by rfl
theorem v_value_of {d : D} {q : Rat} (h : IsV d q) : r_value_of [d] = some (.im (vq q)) := by
  rcases h with ⟨i, rfl, rfl⟩ | rfl
  · rfl
  · rfl
theorem v_values_of {d : D} {ds : List D} (hd : seqD d = some ds) (h : ∀ x ∈ ds, IsV1 x) (hf : ds.length ≤ 100000) : r_values_of [d] = some (.ol (ds.map fun x => vq (valQ x))) := by
  refine runF_st rfl ?_
  refine st_ret (by exact xlc_ok (xseqI_ok rfl hd) rfl (xlcL_map (fun x => vq (valQ x)) fun x hx => ⟨_, _, _, rfl, xcall_ok (xc1 rfl xnil_ok) (v_value_of (h x hx).isV), rfl, rfl⟩) (few_le (by rw [List.length_map]; exact hf)))
theorem v_multiplied {a b : Rat} {k l : Nat} (ha : Ht a k) (hb : Ht b l) (h9 : k + l < 8990) : r_multiplied [vq a, vq b] = some (.im (vq (a * b))) := by
  rw [← mul_divInt]
  exact runF_st rfl (st_ret (xcall_ok (xc1 (xo2 rfl rfl (if_pos (ha.1.okMul hb.1 (by omega)))) (xc1 (xo2 rfl rfl (if_pos (ha.2.okMul hb.2 (by omega)))) xnil_ok)) (v_lowest (Int.mul_ne_zero (den_ne a) (den_ne b)) (ha.2.mul hb.2) (by omega))))
theorem v_is_pair (q : Rat) : r_is_pair [vq q] = some (.im (.bl true)) := by
  have h1 : decide ((0 : Int) < (q.den : Int)) = true := decide_eq_true (by have := q.den_pos; omega)
  have h2 : Nat.gcd q.num.natAbs ((q.den : Int)).natAbs = 1 := by
    rw [Int.natAbs_natCast]; exact q.reduced
  refine runF_st rfl ?_
  unfold b_is_pair
  refine st_nx (G1 := [.im (vq q), .un]) (by rfl) ?_
  refine st_ret (by exact xvand_t (G1 := [.im (vq q), .un]) (by rw [← h1]; rfl) (xo2 (xcall_ok (xc1 (xo2 (x := vq q) (y := .int 0) rfl rfl rfl) (xc1 (xo2 (x := vq q) (y := .int 1) rfl rfl rfl) xnil_ok)) (v_divisor _ _)) rfl (by rw [h2]; rfl)))
theorem v_is_value {d : D} {q : Rat} (h : IsV d q) : r_is_value [d] = some (.im (.bl true)) := by
  rcases h with ⟨i, rfl, rfl⟩ | rfl
  · rfl
  · refine runF_st rfl (st_ret (G1 := [.im (vq q)]) ?_)
    exact (xvor_f (by exact xcall_ok (xc1 rfl xnil_ok) (v_is_integer_q q))).trans (xcall_ok (xc1 rfl xnil_ok) (v_is_pair q))
theorem v_is_sequence {d : D} {ds : List D} (h : isSq d ds) : r_is_sequence [d] = some (.im (.bl true)) := by
  rcases h with rfl | rfl | rfl <;> rfl
theorem v_quotient {a b : Rat} {k l : Nat} (ha : Ht a k) (hb : Ht b l) (h0 : b ≠ 0) (h9 : k + l < 8990) : r_quotient [vq a, vq b] = some (.im (vq (a / b))) := by
  rw [← div_divInt]
  exact runF_st rfl (st_ret (xcall_ok (xc1 (xo2 rfl rfl (if_pos (ha.1.okMul hb.2 (by omega)))) (xc1 (xo2 rfl rfl (if_pos (ha.2.okMul hb.1 (by omega)))) xnil_ok)) (v_lowest (Int.mul_ne_zero (den_ne a) (fun h => h0 (Rat.num_eq_zero.mp h))) (ha.2.mul hb.1) (by omega))))
theorem v_added {a b : Rat} {k l : Nat} (ha : Ht a k) (hb : Ht b l) (h9 : k + l < 8990) : r_added [vq a, vq b] = some (.im (vq (a + b))) := by
  rw [← add_divInt]
  exact runF_st rfl (st_ret (xcall_ok (xc1 (xo2 (xo2 rfl rfl (if_pos (ha.1.okMul hb.2 (by omega)))) (xo2 rfl rfl (if_pos (hb.1.okMul ha.2 (by omega)))) rfl) (xc1 (xo2 rfl rfl (if_pos (ha.2.okMul hb.2 (by omega)))) xnil_ok)) (v_lowest (Int.mul_ne_zero (den_ne a) (den_ne b)) (ha.2.mul hb.2) (by omega))))
theorem v_summed {d : D} {qs : List Rat} {k : Nat} (hd : seqD d = some (qs.map vq)) (hq : ∀ q ∈ qs, Ht q k) (h9 : 1 + qs.length * (k + 1) + k < 8990) : r_summed [d] = some (.im (vq (sumQ qs))) := by
  obtain ⟨e', h1⟩ := sum_loop (m := r_added) (fun a b k l ha hb h => v_added ha hb h) (x0 := .im d) qs 0 1 .un ht0 hq h9
  refine runF_st rfl ?_
  refine st_nx (G1 := [.im d, .im (vq 0), .un]) (by rfl) ?_
  refine st_nx (by exact xfor_ok (xseqI_ok rfl hd) h1) ?_
  exact st_ret rfl
def dot : List Rat → List Rat → Rat
  | a :: as, b :: bs => a * b + dot as bs
  | _, _ => 0
theorem dot_sum : ∀ (as bs : List Rat), sumQ (List.zipWith (· * ·) as bs) = dot as bs
  | [], _ => by rw [List.zipWith_nil_left]; rfl
  | _ :: _, [] => rfl
  | a :: as, b :: bs => by
    rw [List.zipWith_cons_cons, sumQ_cons, dot_sum as bs]
    rfl
theorem dotQ_dot (as bs : List D) : dotQ as bs = dot (as.map valQ) (bs.map valQ) := by
  rw [← dot_sum]
  unfold dotQ
  rw [List.zipWith_map, List.zip, List.map_zipWith]
/-- a loop that looks for one: each turn ends the walk or goes on -/
theorem xforL_find {tg : D → Gam → Option Gam} {b : MS} (Inv : Gam → Prop) (Miss : D → Prop) (Hit : D → R → Prop) : ∀ {ds : List D} {G : Gam}, Inv G →
    (∀ d ∈ ds, ∀ G, Inv G → ∃ G1, tg d G = some G1 ∧ ((∃ G2, b G1 = some (.nx, G2) ∧ Inv G2 ∧ Miss d) ∨ (∃ r G2, b G1 = some (.rt r, G2) ∧ Hit d r))) →
    (∃ G', xforL tg b ds G = some (.nx, G') ∧ Inv G' ∧ ∀ d ∈ ds, Miss d) ∨ (∃ d ∈ ds, ∃ r G', xforL tg b ds G = some (.rt r, G') ∧ Hit d r)
  | [], G, h, _ => .inl ⟨G, rfl, h, fun _ z => nomatch z⟩
  | d :: ds, G, h, step => by
    obtain ⟨G1, h1, h2⟩ := step d List.mem_cons_self G h
    rcases h2 with ⟨G2, h2, h3, h4⟩ | ⟨r, G2, h2, h3⟩
    · rcases xforL_find Inv Miss Hit h3 (fun e he => step e (List.mem_cons_of_mem _ he)) with ⟨G', k1, k2, k3⟩ | ⟨e, he, r, G', k1, k2⟩
      · refine .inl ⟨G', (xforL_nx h1 h2).trans k1, k2, fun e he => ?_⟩
        rcases List.mem_cons.mp he with rfl | he
        · exact h4
        · exact k3 e he
      · exact .inr ⟨e, List.mem_cons_of_mem _ he, r, G', (xforL_nx h1 h2).trans k1, k2⟩
    · refine .inr ⟨d, List.mem_cons_self, r, G2, ?_, h3⟩
      unfold xforL
      rw [h1]
      simp only [h2]
theorem v_row_told {d e : D} {as bs : List D} {k l : Nat} (hd : seqD d = some as) (he : seqD e = some bs) (h1 : ∀ x ∈ as, IsV1 x ∧ Ht (valQ x) k) (h2 : ∀ x ∈ bs, IsV1 x ∧ Ht (valQ x) l) (hf : as.length ≤ 100000) (hg : bs.length ≤ 100000)
    (h9 : 1 + as.length * (k + l + 1) + (k + l) < 8990) : r_row_told [d, e] = some (.im (vq (dotQ as bs))) := by
  have hz := zip_f2 (· * ·) (as.map fun x => vq (valQ x)) (bs.map fun x => vq (valQ x))
  rw [zip_val] at hz
  have hl := zip_len as bs
  have hm := dot_ht (fun a ha => (h1 a ha).2) (fun b hb => (h2 b hb).2)
  have hm9 : 1 + ((as.zip bs).map fun p => valQ p.1 * valQ p.2).length * (k + l + 1) + (k + l) < 8990 := by
    have := Nat.mul_le_mul hl (Nat.le_refl (k + l + 1))
    omega
  have hi : ∀ x ∈ ((as.map fun x => vq (valQ x)).zip (bs.map fun x => vq (valQ x))).map (fun p => D.tup [p.1, p.2]), ∃ G1 r G2, tgt [tgn 2, tgn 3] x [.im d, .im e, .un, .un] = some G1 ∧ xcall r_multiplied (xcons (xv 2) (xcons (xv 3) xnil)) G1 = some (r, G2) ∧ r.d = f2 (· * ·) x ∧ wipeG G2 [2, 3] = [.im d, .im e, .un, .un] := fun x hx => by
    obtain ⟨p, hp, rfl⟩ := List.mem_map.mp hx
    obtain ⟨hp1, hp2⟩ := List.of_mem_zip hp
    obtain ⟨a, ha, e1⟩ := List.mem_map.mp hp1
    obtain ⟨b, hb, e2⟩ := List.mem_map.mp hp2
    rw [← e1, ← e2]
    refine ⟨_, _, _, rfl, xcall_ok (xc1 rfl (xc1 rfl xnil_ok)) (v_multiplied (h1 a ha).2 (h2 b hb).2 (by omega)), ?_, rfl⟩
    show vq _ = vq (valQ (vq (valQ a)) * valQ (vq (valQ b)))
    rw [valQ_vq, valQ_vq]
  exact runF_st rfl (st_ret (by exact xcall_ok (xcw (xlc_ok (xzip_ok (xcw (xcall_ok (xc1 rfl xnil_ok) (v_values_of hd (fun x hx => (h1 x hx).1) hf)) (xcw (xcall_ok (xc1 rfl xnil_ok) (v_values_of he (fun x hx => (h2 x hx).1) hg)) xnil_ok)) rfl rfl) rfl
    ((xlcL_map (f2 (· * ·)) hi).trans (congrArg some (congrArg (Prod.mk · _) hz))) (few_le (by rw [List.length_map]; omega))) xnil_ok) (v_summed (d := .lst _) rfl hm hm9)))
def outL : Option R → List D
  | some r => (asL r.d).getD []
  | none => []
def isOw : Option R → Bool
  | some (.ow (.l _)) => true
  | _ => false
theorem isOw_ok {o : Option R} (h : isOw o = true) : o = some (.ol (outL o)) := by
  unfold isOw at h
  split at h
  · rfl
  · cases h
def rwU (m n k : Nat) : List D := outL (r_unit_row [.int m, .int n, .int k])
def goodR (m : Nat) (xs : List D) : Bool := decide (xs.length = m) && xs.all fun x => isVb x && smb 8 x
theorem good_ok {m : Nat} {xs : List D} (h : goodR m xs = true) : xs.length = m ∧ Ln 8 xs := by
  unfold goodR at h
  rw [Bool.and_eq_true] at h
  refine ⟨of_decide_eq_true h.1, fun x hx => ?_⟩
  have h2 := List.all_eq_true.mp h.2 x hx
  rw [Bool.and_eq_true] at h2
  exact ⟨isVb_ok h2.1, smb_ok h2.2⟩
def chkU (m n k : Nat) : Bool := isOw (r_unit_row [.int m, .int n, .int k]) && goodR m (rwU m n k)
theorem unitsU : ((List.range 9).all fun m => (List.range 7).all fun n => (List.range (m - n)).all fun k => chkU m n k) = true := by decide +kernel
theorem unit_u {m n k : Nat} (hm : m < 9) (hn : n < 7) (hk : k < m - n) : r_unit_row [.int m, .int n, .int k] = some (.ol (rwU m n k)) ∧ (rwU m n k).length = m ∧ Ln 8 (rwU m n k) := by
  have h := List.all_eq_true.mp unitsU m (List.mem_range.mpr hm)
  have h := List.all_eq_true.mp h n (List.mem_range.mpr hn)
  have h := List.all_eq_true.mp h k (List.mem_range.mpr hk)
  unfold chkU at h
  rw [Bool.and_eq_true] at h
  exact ⟨isOw_ok h.1, good_ok h.2⟩
def rKQ (as : List D) (n : Nat) : List Rat := (List.range (as.length - n)).map fun k => dotQ as (rwU as.length n k)
theorem len_any {d : D} {as : List D} (hd : d = .lst as ∨ d = .tup as) : lenD d = some as.length ∧ seqD d = some as := by
  rcases hd with rfl | rfl <;> exact ⟨rfl, rfl⟩
theorem room8 {m kk : Nat} (hm : m < 9) (hk : kk ≤ 300) : 1 + m * (kk + 8 + 1) + (kk + 8) < 3000 := by
  have := Nat.mul_le_mul (Nat.le_of_lt_succ hm) (show kk + 8 + 1 ≤ 309 by omega)
  omega
theorem v_row_kernel {d : D} {as : List D} {n kk : Nat} (hd : d = .lst as ∨ d = .tup as) (hl : Ln kk as) (hk : kk ≤ 300) (hm : as.length < 9) (hn : n < 7) : r_row_kernel [d, .int n] = some (.im (.tup ((rKQ as n).map vq))) := by
  obtain ⟨h1, h2⟩ := len_any hd
  have e0 : cbLen [d] = some (.im (.int as.length)) := by
    rcases hd with rfl | rfl <;> rfl
  let f : D → D := fun d => match d with
    | .int k => vq (dotQ as (rwU as.length n k.toNat))
    | d => d
  have hf : (rng 0 ((as.length : Int) - (n : Int)).toNat).map f = (rKQ as n).map vq := by
    unfold rng rKQ
    rw [List.map_map, List.map_map, show ((as.length : Int) - (n : Int)).toNat = as.length - n by omega]
    apply List.map_congr_left
    intro i _
    show vq (dotQ as (rwU as.length n ((0 + (i : Int)).toNat))) = _
    rw [Int.zero_add, Int.toNat_natCast]
    rfl
  have hi : ∀ x ∈ rng 0 ((as.length : Int) - (n : Int)).toNat, ∃ G1 r G2, tgn 3 x [.im d, .im (.int n), .im (.int as.length), .un] = some G1 ∧
      xcall r_row_told (xcons (xv 0) (xcons (xcall r_unit_row (xcons (xv 2) (xcons (xv 1) (xcons (xv 3) xnil)))) xnil)) G1 = some (r, G2) ∧ r.d = f x ∧ wipeG G2 [3] = [.im d, .im (.int n), .im (.int as.length), .un] := fun x hx => by
    obtain ⟨i, hi, rfl⟩ := rng_mem hx
    rw [Int.zero_add]
    obtain ⟨u1, u3⟩ := unit_u hm hn (k := i) (by omega)
    refine ⟨_, _, _, rfl, xcall_ok (xc1 rfl (xcw (xcall_ok (xc1 rfl (xc1 rfl (xc1 rfl xnil_ok))) u1) xnil_ok)) (v_row_told (k := kk) (l := 8) h2 rfl hl u3.2 (by omega) (by omega) (Nat.lt_of_lt_of_le (room8 hm hk) (by decide))), ?_, rfl⟩
    rfl
  refine runF_st rfl ?_
  refine st_nx (by exact xset_e (xcb_ok (xc1 rfl xnil_ok) e0) rfl) ?_
  exact st_ret (by exact xcb_ok (xcw (xlc_ok (xrange1_ok (xc1 (xo2 rfl rfl rfl) xnil_ok) (okR_of (by omega) (by omega))) rfl ((xlcL_map f hi).trans (congrArg some (congrArg (Prod.mk · _) hf))) (few_le (by rw [List.length_map]; unfold rKQ; rw [List.length_map, List.length_range]; omega))) xnil_ok) rfl)
theorem KQ_len {as : List D} {n : Nat} : (rKQ as n).length = as.length - n := by
  unfold rKQ
  rw [List.length_map, List.length_range]
def rwP (m j : Nat) : List D := outL (r_power_row [.int m, .int j])
def isI : D → Bool
  | .int _ => true
  | _ => false
theorem isI_ok {d : D} (h : isI d = true) : ∃ i, d = .int i := by
  unfold isI at h
  split at h
  · exact ⟨_, rfl⟩
  · cases h
/-- a row with a sign -/
def sgW (s : Int) (xs : List D) : List D := xs.map fun x => match x with
  | .int i => .tup [.int (s * i), .int 1]
  | d => d
def negV (xs : List D) : List Rat := xs.map fun x => -valQ x
def chkP (m j : Nat) : Bool := isOw (r_power_row [.int m, .int j]) && goodR m (rwP m j) && (rwP m j).all isI && goodR m (sgW 1 (rwP m j)) && goodR m (sgW (-1) (rwP m j)) && decide ((sgW 1 (rwP m j)).map valQ = (rwP m j).map valQ) && decide ((sgW (-1) (rwP m j)).map valQ = negV (rwP m j))
theorem powersP : ((List.range 9).all fun m => (List.range (min 6 m)).all fun j => chkP m j) = true := by decide +kernel
theorem power_p {m j : Nat} (hm : m < 9) (hj : j < min 6 m) : r_power_row [.int m, .int j] = some (.ol (rwP m j)) ∧ ((rwP m j).length = m ∧ Ln 8 (rwP m j)) ∧ (∀ x ∈ rwP m j, ∃ i, x = .int i) ∧ ((sgW 1 (rwP m j)).length = m ∧ Ln 8 (sgW 1 (rwP m j))) ∧ ((sgW (-1) (rwP m j)).length = m ∧ Ln 8 (sgW (-1) (rwP m j))) ∧
    (sgW 1 (rwP m j)).map valQ = (rwP m j).map valQ ∧ (sgW (-1) (rwP m j)).map valQ = negV (rwP m j) := by
  have h := List.all_eq_true.mp powersP m (List.mem_range.mpr hm)
  have h := List.all_eq_true.mp h j (List.mem_range.mpr hj)
  unfold chkP at h
  simp only [Bool.and_eq_true] at h
  obtain ⟨⟨⟨⟨⟨⟨h1, h2⟩, h3⟩, h4⟩, h5⟩, h6⟩, h7⟩ := h
  exact ⟨isOw_ok h1, good_ok h2, fun x hx => isI_ok (List.all_eq_true.mp h3 x hx), good_ok h4, good_ok h5, of_decide_eq_true h6, of_decide_eq_true h7⟩
def rPQ (as : List D) (j : Nat) : Rat := dotQ as (rwP as.length j)
def sgnR (q : Rat) : Int := if q < 0 then 1 else -1
/-- what the row that refutes is -/
def RefR (as : List D) (n : Nat) (r : D) : Prop :=
  (∃ j, j < min n as.length ∧ rPQ as j ≠ 0 ∧ r = .tup (sgW (sgnR (rPQ as j)) (rwP as.length j))) ∨
  ((∀ j, j < min n as.length → rPQ as j = 0) ∧ ((∃ k, k < as.length - n ∧ dotQ as (rwU as.length n k) < 0 ∧ r = .tup ((rwU as.length n k).map fun x => vq (valQ x))) ∨
    ((∀ k, k < as.length - n → ¬ dotQ as (rwU as.length n k) < 0) ∧ r = .non)))
theorem dq_ht {as bs : List D} {kk : Nat} (hl : Ln kk as) (hk : kk ≤ 300) (hb : Ln 8 bs) (hm : as.length < 9) : Ht (dotQ as bs) 2600 := by
  have h := sumQ_ht (dot_ht (fun a ha => (hl a ha).2) (fun b hb' => (hb b hb').2))
  have hz := zip_len as bs
  refine h.up ?_
  have := Nat.mul_le_mul (Nat.le_trans hz (Nat.le_of_lt_succ hm)) (show kk + 8 + 1 ≤ 309 by omega)
  omega
theorem v_row_refuting {d : D} {as : List D} {n kk : Nat} (hd : d = .lst as ∨ d = .tup as) (hl : Ln kk as) (hkk : kk ≤ 300) (hm : as.length < 9) (hn : n < 7) : ∃ r, r_row_refuting [d, .int n] = some (.im r) ∧ RefR as n r := by
  obtain ⟨hd1, hd2⟩ := len_any hd
  have e0 : cbLen [d] = some (.im (.int as.length)) := by
    rcases hd with rfl | rfl <;> rfl
  have emin : (if (as.length : Int) < (n : Int) then (as.length : Int) else (n : Int)) = ((min n as.length : Nat) : Int) := by
    split <;> omega
  let b1 : MS := (xseq (xset 4 (xcall r_power_row (xcons (xv 2) (xcons (xv 3) xnil))))
  (xseq (xset 5 (xcall r_row_told (xcons (xv 0) (xcons (xv 4) xnil))))
  (xifs (xtest (xop opNe (xv 5) (xc c_NOUGHT))) (xseq (xset 6 (xif (xtru (xcall r_is_less (xcons (xv 5) (xcons (xc c_NOUGHT) xnil)))) (xc (.int 1)) (xun unNeg (xc (.int 1)))))
  (xret (xcb cbTuple (xcons (xlc (xseqI (xv 4)) (tgn 8) xtyes (xtup (xcons (xop opMul (xv 6) (xv 8)) (xcons (xc (.int 1)) xnil))) [8]) xnil)))) xnext)))
  have first := xforL_find (tg := tgn 3) (b := b1) (fun G => ∃ x3 x4 x5 x6, G = [.im d, .im (.int n), .im (.int as.length), x3, x4, x5, x6, .un, .un])
    (fun e => ∃ j : Nat, e = .int j ∧ rPQ as j = 0) (fun e r => ∃ j : Nat, e = .int j ∧ rPQ as j ≠ 0 ∧ r = .im (.tup (sgW (sgnR (rPQ as j)) (rwP as.length j)))) (ds := rng 0 (min n as.length)) (G := [.im d, .im (.int n), .im (.int as.length), .un, .un, .un, .un, .un, .un]) ⟨_, _, _, _, rfl⟩ (fun e he G hG => by
      obtain ⟨x3, x4, x5, x6, rfl⟩ := hG
      obtain ⟨j, hj, rfl⟩ := rng_mem he
      rw [Int.zero_add]
      obtain ⟨p1, p2, p3, -⟩ := power_p hm (j := j) (by omega)
      refine ⟨_, rfl, ?_⟩
      have told : r_row_told [d, .lst (rwP as.length j)] = some (.im (vq (rPQ as j))) := v_row_told (k := kk) (l := 8) hd2 rfl hl p2.2 (by omega) (by omega) (Nat.lt_of_lt_of_le (room8 hm hkk) (by decide))
      have ht : Ht (rPQ as j) 2600 := dq_ht hl hkk p2.2 hm
      have s4 : xset 4 (xcall r_power_row (xcons (xv 2) (xcons (xv 3) xnil))) [.im d, .im (.int n), .im (.int as.length), .im (.int j), x4, x5, x6, .un, .un] = some (.nx, [.im d, .im (.int n), .im (.int as.length), .im (.int j), .ol (rwP as.length j), x5, x6, .un, .un]) := xset_e (xcall_ok (xc1 rfl (xc1 rfl xnil_ok)) p1) rfl
      have s5 : xset 5 (xcall r_row_told (xcons (xv 0) (xcons (xv 4) xnil))) [.im d, .im (.int n), .im (.int as.length), .im (.int j), .ol (rwP as.length j), x5, x6, .un, .un] = some (.nx, [.im d, .im (.int n), .im (.int as.length), .im (.int j), .im (.lst (rwP as.length j)), .im (vq (rPQ as j)), x6, .un, .un]) := xset_e (xcall_ok (xc1 rfl (xc1 rfl xnil_ok)) told) rfl
      have t6 : xtest (xop opNe (xv 5) (xc c_NOUGHT)) [.im d, .im (.int n), .im (.int as.length), .im (.int j), .im (.lst (rwP as.length j)), .im (vq (rPQ as j)), x6, .un, .un] = some (!decide (rPQ as j = 0), [.im d, .im (.int n), .im (.int as.length), .im (.int j), .im (.lst (rwP as.length j)), .im (vq (rPQ as j)), x6, .un, .un]) :=
        xtest_ok (xo2 (y := vq 0) rfl rfl (ne_vq _ _))
      by_cases z : rPQ as j = 0
      · rw [decide_eq_true z] at t6
        exact .inl ⟨_, (xseq_nx s4).trans ((xseq_nx s5).trans ((xifs_ok t6).trans rfl)), ⟨_, _, _, _, rfl⟩, j, rfl, z⟩
      · rw [decide_eq_false z] at t6
        have t7 : xtru (xcall r_is_less (xcons (xv 5) (xcons (xc c_NOUGHT) xnil))) [.im d, .im (.int n), .im (.int as.length), .im (.int j), .im (.lst (rwP as.length j)), .im (vq (rPQ as j)), x6, .un, .un] = some (decide (rPQ as j < 0), [.im d, .im (.int n), .im (.int as.length), .im (.int j), .im (.lst (rwP as.length j)), .im (vq (rPQ as j)), x6, .un, .un]) := by
          unfold xtru
          rw [xcall_ok (xc1 rfl (xc1 (d := vq 0) rfl xnil_ok)) (v_is_less ht ht0 (by decide))]
          rfl
        have s6 : xset 6 (xif (xtru (xcall r_is_less (xcons (xv 5) (xcons (xc c_NOUGHT) xnil)))) (xc (.int 1)) (xun unNeg (xc (.int 1)))) [.im d, .im (.int n), .im (.int as.length), .im (.int j), .im (.lst (rwP as.length j)), .im (vq (rPQ as j)), x6, .un, .un] = some (.nx, [.im d, .im (.int n), .im (.int as.length), .im (.int j), .im (.lst (rwP as.length j)), .im (vq (rPQ as j)), .im (.int (sgnR (rPQ as j))), .un, .un]) := by
          unfold sgnR
          by_cases hlt : rPQ as j < 0
          · rw [decide_eq_true hlt] at t7
            rw [if_pos hlt]
            exact xset_e ((xif_ok t7).trans rfl) rfl
          · rw [decide_eq_false hlt] at t7
            rw [if_neg hlt]
            exact xset_e ((xif_ok t7).trans rfl) rfl
        have hsg : Sm (sgnR (rPQ as j)) 2 := by
          unfold sgnR Sm
          split <;> decide
        have hi : ∀ x ∈ rwP as.length j, ∃ G1 r G2, tgn 8 x [.im d, .im (.int n), .im (.int as.length), .im (.int j), .im (.lst (rwP as.length j)), .im (vq (rPQ as j)), .im (.int (sgnR (rPQ as j))), .un, .un] = some G1 ∧
            xtup (xcons (xop opMul (xv 6) (xv 8)) (xcons (xc (.int 1)) xnil)) G1 = some (r, G2) ∧ r.d = (match x with | .int i => .tup [.int (sgnR (rPQ as j) * i), .int 1] | d => d) ∧ wipeG G2 [8] = [.im d, .im (.int n), .im (.int as.length), .im (.int j), .im (.lst (rwP as.length j)), .im (vq (rPQ as j)), .im (.int (sgnR (rPQ as j))), .un, .un] := fun x hx => by
          obtain ⟨i, rfl⟩ := p3 x hx
          have h8 : Sm i 8 := (p2.2 _ hx).2.1
          exact ⟨_, _, _, rfl, xtup_ok (xc1 (xo2 rfl rfl (o_mul (hsg.okMul h8 (by decide)))) (xc1 rfl xnil_ok)) rfl, rfl, rfl⟩
        refine .inr ⟨_, _, (xseq_nx s4).trans ((xseq_nx s5).trans ((xifs_ok t6).trans ((xseq_nx s6).trans (xret_ok (xcb_ok (xcw (xlc_ok (xseqI_ok rfl rfl) rfl (xlcL_map _ hi) (few_le (by rw [List.length_map]; omega))) xnil_ok) rfl))))), j, rfl, z, rfl⟩)
  have emr : xrange1 (xcons (xcb cbMin2 (xcons (xv 1) (xcons (xv 2) xnil))) xnil) [.im d, .im (.int n), .im (.int as.length), .un, .un, .un, .un, .un, .un] = some (rng 0 (min n as.length), [.im d, .im (.int n), .im (.int as.length), .un, .un, .un, .un, .un, .un]) := by
    have h := xrange1_ok (a := xcons (xcb cbMin2 (xcons (xv 1) (xcons (xv 2) xnil))) xnil) (G := [.im d, .im (.int n), .im (.int as.length), .un, .un, .un, .un, .un, .un]) (n := ((min n as.length : Nat) : Int)) (by rw [← emin]; exact xc1 (xcb_ok (xc1 rfl (xc1 rfl xnil_ok)) rfl) xnil_ok) (okR_of (by omega) (by omega))
    rw [Int.toNat_natCast] at h
    exact h
  have s2 : xset 2 (xcb cbLen (xcons (xv 0) xnil)) [.im d, .im (.int n), .un, .un, .un, .un, .un, .un, .un] = some (.nx, [.im d, .im (.int n), .im (.int as.length), .un, .un, .un, .un, .un, .un]) := xset_e (xcb_ok (xc1 rfl xnil_ok) e0) rfl
  rcases first with ⟨G', g1, ⟨x3, x4, x5, x6, rfl⟩, miss⟩ | ⟨e, he, r, G', g1, j, rfl, g2, rfl⟩
  · have all0 : ∀ j, j < min n as.length → rPQ as j = 0 := fun j hj => by
      obtain ⟨i, e1, e2⟩ := miss (.int (0 + (j : Int))) (List.mem_map.mpr ⟨j, List.mem_range.mpr hj, rfl⟩)
      have : j = i := by injection e1 with e1; omega
      rw [this]; exact e2
    have second := xforL_find (tg := tgt [(tgn 7), (tgn 8)]) (b := (xifs (xtru (xcall r_is_less (xcons (xv 8) (xcons (xc c_NOUGHT) xnil)))) (xret (xcb cbTuple (xcons (xcall r_values_of (xcons (xcall r_unit_row (xcons (xv 2) (xcons (xv 1) (xcons (xv 7) xnil)))) xnil)) xnil))) xnext))
      (fun G => ∃ x7 x8, G = [.im d, .im (.int n), .im (.int as.length), x3, x4, x5, x6, x7, x8]) (fun e => ∃ k : Nat, e = .tup [.int k, vq (dotQ as (rwU as.length n k))] ∧ ¬ dotQ as (rwU as.length n k) < 0)
      (fun e r => ∃ k : Nat, k < as.length - n ∧ dotQ as (rwU as.length n k) < 0 ∧ r = .im (.tup ((rwU as.length n k).map fun x => vq (valQ x)))) (ds := enumD 0 ((rKQ as n).map vq)) (G := [.im d, .im (.int n), .im (.int as.length), x3, x4, x5, x6, .un, .un]) ⟨_, _, rfl⟩ (fun e he G hG => by
        obtain ⟨x7, x8, rfl⟩ := hG
        obtain ⟨k, hk, ek⟩ := List.mem_iff_getElem.mp he
        rw [enum_len, List.length_map, KQ_len] at hk
        have eg : (rKQ as n)[k]'(by rw [KQ_len]; exact hk) = dotQ as (rwU as.length n k) := by simp [rKQ]
        have e2 : (enumD 0 ((rKQ as n).map vq))[k]? = some (.tup [.int ((0 + k : Nat) : Int), vq (dotQ as (rwU as.length n k))]) := enum_get (by rw [List.getElem?_map, List.getElem?_eq_getElem (by rw [KQ_len]; exact hk), eg]; rfl)
        rw [List.getElem?_eq_getElem (by rw [enum_len, List.length_map, KQ_len]; exact hk), ek, Nat.zero_add] at e2
        have e2 := Option.some.inj e2
        subst e2
        obtain ⟨u1, u2⟩ := unit_u hm hn hk
        refine ⟨_, rfl, ?_⟩
        have t7 : xtru (xcall r_is_less (xcons (xv 8) (xcons (xc c_NOUGHT) xnil))) [.im d, .im (.int n), .im (.int as.length), x3, x4, x5, x6, .im (.int k), .im (vq (dotQ as (rwU as.length n k)))] = some (decide (dotQ as (rwU as.length n k) < 0), [.im d, .im (.int n), .im (.int as.length), x3, x4, x5, x6, .im (.int k), .im (vq (dotQ as (rwU as.length n k)))]) := by
          unfold xtru
          rw [xcall_ok (xc1 rfl (xc1 (d := vq 0) rfl xnil_ok)) (v_is_less (dq_ht hl hkk u2.2 hm) ht0 (by decide))]
          rfl
        by_cases z : dotQ as (rwU as.length n k) < 0
        · rw [decide_eq_true z] at t7
          exact .inr ⟨_, _, (xifs_ok t7).trans (xret_ok (xcb_ok (xcw (xcall_ok (xcw (xcall_ok (xc1 rfl (xc1 rfl (xc1 rfl xnil_ok))) u1) xnil_ok) (v_values_of (d := .lst _) rfl (fun x hx => (u2.2 x hx).1) (by omega))) xnil_ok) rfl)), k, hk, z, rfl⟩
        · rw [decide_eq_false z] at t7
          exact .inl ⟨_, (xifs_ok t7).trans rfl, ⟨_, _, rfl⟩, k, rfl, z⟩)
    have en : xenumA (xcons (xcall r_row_kernel (xcons (xv 0) (xcons (xv 1) xnil))) xnil) [.im d, .im (.int n), .im (.int as.length), x3, x4, x5, x6, .un, .un] = some (enumD 0 ((rKQ as n).map vq), [.im d, .im (.int n), .im (.int as.length), x3, x4, x5, x6, .un, .un]) := by
      unfold xenumA
      rw [xc1 (xcall_ok (xc1 rfl (xc1 rfl xnil_ok)) (v_row_kernel hd hl hkk hm hn)) xnil_ok]
      rfl
    rcases second with ⟨G'', k1, -, miss2⟩ | ⟨e, he, r, G'', k1, k, k2, k3, rfl⟩
    · refine ⟨.non, runF_st rfl (st_nx (by exact s2) (st_nx (by exact xfor_ok emr g1) (st_nx (by exact xfor_ok en k1) (st_ret rfl)))), .inr ⟨all0, .inr ⟨fun k hk => ?_, rfl⟩⟩⟩
      have eg : (rKQ as n)[k]'(by rw [KQ_len]; exact hk) = dotQ as (rwU as.length n k) := by simp [rKQ]
      have e2 : (enumD 0 ((rKQ as n).map vq))[k]? = some (.tup [.int ((0 + k : Nat) : Int), vq (dotQ as (rwU as.length n k))]) := enum_get (by rw [List.getElem?_map, List.getElem?_eq_getElem (by rw [KQ_len]; exact hk), eg]; rfl)
      obtain ⟨i, e3, e4⟩ := miss2 _ (List.mem_of_getElem? e2)
      have : k = i := by injection e3 with e3; injection e3 with e3 _; injection e3 with e3; omega
      rw [this]; exact e4
    · exact ⟨_, runF_st rfl (st_nx (by exact s2) (st_nx (by exact xfor_ok emr g1) (st_rt (by exact xfor_ok en k1)))), .inr ⟨all0, .inl ⟨k, k2, k3, rfl⟩⟩⟩
  · refine ⟨_, runF_st rfl (st_nx (by exact s2) (st_rt (by exact xfor_ok emr g1))), .inl ⟨j, ?_, g2, rfl⟩⟩
    obtain ⟨i, hi, e1⟩ := rng_mem he
    injection e1 with e1
    omega
theorem RefR.none {as : List D} {n : Nat} {r : D} (h : RefR as n r) : isN r = true ↔ ((∀ j, j < min n as.length → rPQ as j = 0) ∧ ∀ k, k < as.length - n → ¬ dotQ as (rwU as.length n k) < 0) := by
  rcases h with ⟨j, h1, h2, rfl⟩ | ⟨h0, ⟨k, h1, h2, rfl⟩ | ⟨h1, rfl⟩⟩
  · exact ⟨fun z => (nomatch z), fun z => absurd (z.1 j h1) h2⟩
  · exact ⟨fun z => (nomatch z), fun z => absurd h2 (z.2 k h1)⟩
  · exact ⟨fun _ => ⟨h0, h1⟩, fun _ => rfl⟩
theorem v_row_never_below {d : D} {n : Nat} {r : D} (h : r_row_refuting [d, .int n] = some (.im r)) : r_row_never_below [d, .int n] = some (.im (.bl (isN r))) := by
  have e : opIs r .non = some (.im (.bl (isN r))) := by
    unfold opIs
    have : isD r .non = some (isN r) := by cases r <;> rfl
    rw [this]
  exact runF_st rfl (st_ret (xo2 (xcall_ok (xc1 rfl (xc1 rfl xnil_ok)) h) rfl e))
end Bk
namespace Bk
open PySem L2
def kk (n : Nat) (t x : Rat) : Rat := if t < x then rpow (x - t) n else 0
def Dv (D B : Nat) (q : Rat) : Prop := D ≠ 0 ∧ ∃ z : Int, q * ((D : Int) : Rat) = (z : Rat) ∧ z.natAbs ≤ B
theorem natR_ne {D : Nat} (h : D ≠ 0) : ((D : Int) : Rat) ≠ 0 := fun z => h (by have := Rat.intCast_eq_zero_iff.mp z; omega)
theorem natR_mul (D E : Nat) : (((D * E : Nat) : Int) : Rat) = ((D : Int) : Rat) * ((E : Int) : Rat) := by rw [Int.natCast_mul, Rat.intCast_mul]
theorem Dv.up {D B B' : Nat} {q : Rat} (h : Dv D B q) (hb : B ≤ B') : Dv D B' q := by
  obtain ⟨hd, z, e, hz⟩ := h
  exact ⟨hd, z, e, by omega⟩
theorem Dv.add {D B C : Nat} {a b : Rat} (h : Dv D B a) (h' : Dv D C b) : Dv D (B + C) (a + b) := by
  obtain ⟨hd, z, e, hz⟩ := h
  obtain ⟨_, w, f, hw⟩ := h'
  refine ⟨hd, z + w, ?_, by omega⟩
  rw [Rat.intCast_add, ← e, ← f]
  grind
theorem Dv.neg {D B : Nat} {a : Rat} (h : Dv D B a) : Dv D B (-a) := by
  obtain ⟨hd, z, e, hz⟩ := h
  refine ⟨hd, -z, ?_, by omega⟩
  rw [Rat.intCast_neg, ← e]
  grind
theorem Dv.sub {D B C : Nat} {a b : Rat} (h : Dv D B a) (h' : Dv D C b) : Dv D (B + C) (a - b) := by
  rw [show a - b = a + -b by grind]
  exact h.add h'.neg
theorem Dv.mul {D E B C : Nat} {a b : Rat} (h : Dv D B a) (h' : Dv E C b) : Dv (D * E) (B * C) (a * b) := by
  obtain ⟨hd, z, e, hz⟩ := h
  obtain ⟨he, w, f, hw⟩ := h'
  refine ⟨Nat.mul_ne_zero hd he, z * w, ?_, by rw [Int.natAbs_mul]; exact Nat.mul_le_mul hz hw⟩
  rw [natR_mul, Rat.intCast_mul, ← e, ← f]
  grind
theorem Dv.one : Dv 1 1 1 := ⟨by decide, 1, by decide +kernel, by decide⟩
theorem Dv.scale {D B : Nat} {q : Rat} (h : Dv D B q) {m : Nat} (hm : m ≠ 0) : Dv (D * m) (B * m) q := by
  obtain ⟨hd, z, e, hz⟩ := h
  refine ⟨Nat.mul_ne_zero hd hm, z * (m : Int), ?_, by rw [Int.natAbs_mul, Int.natAbs_natCast]; exact Nat.mul_le_mul hz (Nat.le_refl m)⟩
  rw [natR_mul, Rat.intCast_mul, ← e]
  grind
theorem Dv.part {D B : Nat} {q : Rat} (h : Dv D B q) {M : Nat} (hM : M ≠ 0) {m : Int} (hm : m ≠ 0) (hd : m ∣ (M : Int)) : Dv (D * M) (B * M) (q / (m : Rat)) := by
  obtain ⟨hD, z, e, hz⟩ := h
  obtain ⟨k, hk⟩ := hd
  have hmr : (m : Rat) ≠ 0 := fun z => hm (Rat.intCast_eq_zero_iff.mp z)
  refine ⟨Nat.mul_ne_zero hD hM, z * k, ?_, ?_⟩
  · have e2 : ((M : Int) : Rat) = (m : Rat) * (k : Rat) := by rw [hk, Rat.intCast_mul]
    rw [natR_mul, e2, Rat.intCast_mul, ← e]
    generalize (m : Rat) = y at hmr
    have : q / y * y = q := Rat.div_mul_cancel hmr
    rw [show q / y * (((D : Int) : Rat) * (y * (k : Rat))) = (q / y * y) * ((D : Int) : Rat) * (k : Rat) by grind, this]
  · rw [Int.natAbs_mul]
    refine Nat.mul_le_mul hz ?_
    have h1 : (M : Int).natAbs = m.natAbs * k.natAbs := by rw [hk, Int.natAbs_mul]
    rw [Int.natAbs_natCast] at h1
    rw [h1]
    exact Nat.le_mul_of_pos_left _ (by omega)
end Bk
namespace Bk
open PySem L2
def SE (a b : List Sh) : Prop := ∀ F : Rat → Rat, sval F a = sval F b
def WE (a b : List Wt) : Prop := ∀ f : Rat → Rat, wval f a = wval f b
theorem SE.refl (a : List Sh) : SE a a := fun _ => rfl
theorem SE.symm {a b : List Sh} (h : SE a b) : SE b a := fun F => (h F).symm
theorem SE.trans {a b c : List Sh} (h : SE a b) (h' : SE b c) : SE a c := fun F => (h F).trans (h' F)
theorem WE.refl (a : List Wt) : WE a a := fun _ => rfl
theorem WE.symm {a b : List Wt} (h : WE a b) : WE b a := fun F => (h F).symm
theorem WE.trans {a b c : List Wt} (h : WE a b) (h' : WE b c) : WE a c := fun F => (h F).trans (h' F)
theorem wval_app (f : Rat → Rat) (a b : List Wt) : wval f (a ++ b) = wval f a + wval f b := sumM_app _ _ _
theorem sval_app (F : Rat → Rat) (a b : List Sh) : sval F (a ++ b) = sval F a + sval F b := sumM_app _ _ _
theorem WE.app {a b c d : List Wt} (h : WE a b) (h' : WE c d) : WE (a ++ c) (b ++ d) := fun f => by rw [wval_app, wval_app, h f, h' f]
theorem SE.app {a b c d : List Sh} (h : SE a b) (h' : SE c d) : SE (a ++ c) (b ++ d) := fun f => by rw [sval_app, sval_app, h f, h' f]
/-- points and weights led by functions -/
theorem WE.map {a b : List Wt} (h : WE a b) (g : Rat → Rat) (k : Rat) : WE (a.map fun w => (g w.1, k * w.2)) (b.map fun w => (g w.1, k * w.2)) := fun f => by
  have e : ∀ l : List Wt, wval f (l.map fun w => (g w.1, k * w.2)) = wval (fun x => k * f (g x)) l := fun l => by
    unfold wval
    rw [sumM_map]
    exact sumM_congr fun w _ => by show k * w.2 * f (g w.1) = w.2 * (k * f (g w.1)); grind
  rw [e, e, h]
theorem SE.map {a b : List Sh} (h : SE a b) (g : Rat → Rat) (k : Rat) : SE (a.map fun s => (g s.1, g s.2.1, k * s.2.2)) (b.map fun s => (g s.1, g s.2.1, k * s.2.2)) := fun f => by
  have e : ∀ l : List Sh, sval f (l.map fun s => (g s.1, g s.2.1, k * s.2.2)) = sval (fun x => k * f (g x)) l := fun l => by
    unfold sval
    rw [sumM_map]
    exact sumM_congr fun s _ => by show k * s.2.2 * (f (g s.2.1) - f (g s.1)) = s.2.2 * (k * f (g s.2.1) - k * f (g s.1)); grind
  rw [e, e, h]
/-- turned about -/
theorem SE.turn {a b : List Sh} (h : SE a b) (g : Rat → Rat) : SE (a.map fun s => (g s.2.1, g s.1, s.2.2)) (b.map fun s => (g s.2.1, g s.1, s.2.2)) := fun f => by
  have e : ∀ l : List Sh, sval f (l.map fun s => (g s.2.1, g s.1, s.2.2)) = sval (fun x => -f (g x)) l := fun l => by
    unfold sval
    rw [sumM_map]
    exact sumM_congr fun s _ => by show s.2.2 * (f (g s.1) - f (g s.2.1)) = s.2.2 * (-f (g s.2.1) - -f (g s.1)); grind
  rw [e, e, h]
inductive Can : List Sh → Prop
  | nil : Can []
  | cons {s : Sh} {r : List Sh} : s.1 < s.2.1 → s.2.2 ≠ 0 → (∀ t ∈ r, s.2.1 ≤ t.1) → (∀ t ∈ r, s.2.1 = t.1 → s.2.2 ≠ t.2.2) → Can r → Can (s :: r)
theorem Can.le {l : List Sh} (h : Can l) : ∀ s ∈ l, s.1 ≤ s.2.1 := by
  induction h with
  | nil => simp
  | cons a b c d e ih =>
    intro s hs
    rcases List.mem_cons.mp hs with rfl | hs
    · exact Rat.le_of_lt a
    · exact ih s hs
/-- what stands at x, to the right -/
def dn (x : Rat) (l : List Sh) : Rat := sval (fun y => if x < y then 1 else 0) l
/-- a rule's parts, and their sizes -/
structure Rl (lo hi : Rat) (ws : List Wt) (ss : List Sh) (k n : Nat) : Prop where
  l : Ht lo k
  h : Ht hi k
  lt : lo < hi
  w : ∀ w ∈ ws, Ht w.1 k ∧ Ht w.2 k ∧ lo ≤ w.1 ∧ w.1 ≤ hi
  s : ∀ s ∈ ss, Ht s.1 k ∧ Ht s.2.1 k ∧ Ht s.2.2 k ∧ lo ≤ s.1 ∧ s.1 < s.2.1 ∧ s.2.1 ≤ hi
  wl : ws.length ≤ n
  sl : ss.length ≤ n
theorem Rl.le {lo hi : Rat} {ws : List Wt} {ss : List Sh} {k n : Nat} (r : Rl lo hi ws ss k n) : ∀ s ∈ ss, s.1 ≤ s.2.1 := fun s hs => Rat.le_of_lt (r.s s hs).2.2.2.2.1
theorem Rl.up {lo hi : Rat} {ws : List Wt} {ss : List Sh} {k n k' n' : Nat} (r : Rl lo hi ws ss k n) (hk : k ≤ k') (hn : n ≤ n') : Rl lo hi ws ss k' n' :=
  ⟨r.l.up hk, r.h.up hk, r.lt, fun w hw => ⟨(r.w w hw).1.up hk, (r.w w hw).2.1.up hk, (r.w w hw).2.2⟩, fun s hs => ⟨(r.s s hs).1.up hk, (r.s s hs).2.1.up hk, (r.s s hs).2.2.1.up hk, (r.s s hs).2.2.2⟩, Nat.le_trans r.wl hn, Nat.le_trans r.sl hn⟩
end Bk
namespace Bk
open PySem L2
theorem xmeth_ok {c : Nat} {m : List D → Option R} {dds : List D} {a : M R} {as : M (List D)} {G G1 G2 : Gam} {r r2 : R} {ds xs : List D} (h : a G = some (r, G1)) (hr : r.d = .obj c ds) (h2 : as G1 = some (xs, G2)) (hm : m (.obj c ds :: (xs ++ dds)) = some r2) : xmeth c m dds a as G = some (r2, G2) := by
  unfold xmeth
  rw [h]
  simp only [bd_some, hr, if_true, h2, hm]
theorem Can.lt {l : List Sh} (h : Can l) : ∀ s ∈ l, s.1 < s.2.1 := by
  induction h with
  | nil => simp
  | cons a b c d e ih => intro s hs; rcases List.mem_cons.mp hs with rfl | hs; exact a; exact ih s hs
theorem Dv.le {D B : Nat} {q : Rat} (h : Dv D B q) : D ≠ 0 := h.1
structure Rw (lo hi : Rat) (ws : List Wt) (ss : List Sh) (DP BP DW BW n m : Nat) : Prop where
  lt : lo < hi
  l : Dv DP BP lo
  h : Dv DP BP hi
  w : ∀ w ∈ ws, Dv DP BP w.1 ∧ Dv DW BW w.2 ∧ lo ≤ w.1 ∧ w.1 ≤ hi
  s : ∀ s ∈ ss, Dv DP BP s.1 ∧ Dv DP BP s.2.1 ∧ Dv DW BW s.2.2 ∧ lo ≤ s.1 ∧ s.1 < s.2.1 ∧ s.2.1 ≤ hi
  wl : ws.length ≤ n
  sl : ss.length ≤ m
  dw : DW ≠ 0
section
variable {lo hi : Rat} {ws ws' : List Wt} {ss ss' : List Sh} {DP BP DW BW n m n' m' : Nat}
theorem Rw.le (r : Rw lo hi ws ss DP BP DW BW n m) : ∀ s ∈ ss, s.1 ≤ s.2.1 := fun s hs => Rat.le_of_lt (r.s s hs).2.2.2.2.1
theorem Rw.up (r : Rw lo hi ws ss DP BP DW BW n m) {BP' BW' N M : Nat} (h1 : BP ≤ BP') (h2 : BW ≤ BW') (h3 : n ≤ N) (h4 : m ≤ M) : Rw lo hi ws ss DP BP' DW BW' N M :=
  ⟨r.lt, r.l.up h1, r.h.up h1, fun w hw => ⟨(r.w w hw).1.up h1, (r.w w hw).2.1.up h2, (r.w w hw).2.2⟩, fun s hs => by
    obtain ⟨a, b, c, d⟩ := r.s s hs
    exact ⟨a.up h1, b.up h1, c.up h2, d⟩, Nat.le_trans r.wl h3, Nat.le_trans r.sl h4, r.dw⟩
theorem Rw.nil (h : lo < hi) (h1 : Dv DP BP lo) (h2 : Dv DP BP hi) (h3 : DW ≠ 0) : Rw lo hi [] [] DP BP DW BW 0 0 := ⟨h, h1, h2, by simp, by simp, Nat.le_refl _, Nat.le_refl _, h3⟩
theorem Rw.app (r : Rw lo hi ws ss DP BP DW BW n m) (r' : Rw lo hi ws' ss' DP BP DW BW n' m') : Rw lo hi (ws ++ ws') (ss ++ ss') DP BP DW BW (n + n') (m + m') :=
  ⟨r.lt, r.l, r.h, fun w hw => (List.mem_append.mp hw).elim (r.w w) (r'.w w), fun s hs => (List.mem_append.mp hs).elim (r.s s) (r'.s s), by rw [List.length_append]; exact Nat.add_le_add r.wl r'.wl, by rw [List.length_append]; exact Nat.add_le_add r.sl r'.sl, r.dw⟩
def scW (f : Rat) (ws : List Wt) : List Wt := ws.map fun w => (w.1, w.2 * f)
def scS (f : Rat) (ss : List Sh) : List Sh := ss.map fun s => (s.1, s.2.1, s.2.2 * f)
theorem Rw.sc (r : Rw lo hi ws ss DP BP DW BW n m) {F G : Nat} {f : Rat} (hf : Dv F G f) : Rw lo hi (scW f ws) (scS f ss) DP BP (DW * F) (BW * G) n m := by
  refine ⟨r.lt, r.l, r.h, fun w hw => ?_, fun s hs => ?_, by unfold scW; rw [List.length_map]; exact r.wl, by unfold scS; rw [List.length_map]; exact r.sl, Nat.mul_ne_zero r.dw hf.1⟩
  · obtain ⟨v, hv, rfl⟩ := List.mem_map.mp hw
    exact ⟨(r.w v hv).1, (r.w v hv).2.1.mul hf, (r.w v hv).2.2⟩
  · obtain ⟨v, hv, rfl⟩ := List.mem_map.mp hs
    obtain ⟨a, b, c, d⟩ := r.s v hv
    exact ⟨a, b, c.mul hf, d⟩
theorem WE.sc {a b : List Wt} (h : WE a b) (f : Rat) : WE (scW f a) (scW f b) := by
  have := h.map (fun x => x) f
  have e : ∀ l : List Wt, (l.map fun w => (w.1, f * w.2)) = scW f l := fun l => by
    unfold scW
    refine List.map_congr_left fun w _ => ?_
    rw [Rat.mul_comm]
  rw [e, e] at this
  exact this
theorem SE.sc {a b : List Sh} (h : SE a b) (f : Rat) : SE (scS f a) (scS f b) := by
  have := h.map (fun x => x) f
  have e : ∀ l : List Sh, (l.map fun s => (s.1, s.2.1, f * s.2.2)) = scS f l := fun l => by
    unfold scS
    refine List.map_congr_left fun w _ => ?_
    rw [Rat.mul_comm]
  rw [e, e] at this
  exact this
def lpt (lo fi q p : Rat) : Rat := fi + (p - lo) * q
def ldW (lo fi q : Rat) (ws : List Wt) : List Wt := ws.map fun w => (lpt lo fi q w.1, w.2)
def ldS (lo fi q : Rat) (ss : List Sh) : List Sh := ss.map fun s => (lpt lo fi q s.1, lpt lo fi q s.2.1, s.2.2 / q)
theorem WE.ld {a b : List Wt} (h : WE a b) (lo fi q : Rat) : WE (ldW lo fi q a) (ldW lo fi q b) := by
  have := h.map (lpt lo fi q) 1
  have e : ∀ l : List Wt, (l.map fun w => (lpt lo fi q w.1, 1 * w.2)) = ldW lo fi q l := fun l => by
    unfold ldW
    refine List.map_congr_left fun w _ => ?_
    rw [Rat.one_mul]
  rw [e, e] at this
  exact this
theorem SE.ld {a b : List Sh} (h : SE a b) (lo fi q : Rat) : SE (ldS lo fi q a) (ldS lo fi q b) := by
  have := h.map (lpt lo fi q) q⁻¹
  have e : ∀ l : List Sh, (l.map fun s => (lpt lo fi q s.1, lpt lo fi q s.2.1, q⁻¹ * s.2.2)) = ldS lo fi q l := fun l => by
    unfold ldS
    refine List.map_congr_left fun w _ => ?_
    rw [Rat.div_def, Rat.mul_comm]
  rw [e, e] at this
  exact this
theorem lpt_lt {lo fi q a b : Rat} (hq : 0 < q) (h : a < b) : lpt lo fi q a < lpt lo fi q b := by
  unfold lpt
  have : 0 < (b - a) * q := Rat.mul_pos (by grind) hq
  grind
theorem lpt_le {lo fi q a b : Rat} (hq : 0 < q) (h : a ≤ b) : lpt lo fi q a ≤ lpt lo fi q b := by
  unfold lpt
  have : 0 ≤ (b - a) * q := Rat.mul_nonneg (by grind) (Rat.le_of_lt hq)
  grind
/-- one of so many -/
def qM (M : Nat) : Rat := 1 / ((M : Int) : Rat)
theorem mne {M : Nat} (h : 0 < M) : ((M : Int) : Rat) ≠ 0 := natR_ne (by omega)
theorem qM_pos {M : Nat} (h : 0 < M) : 0 < qM M := by
  unfold qM
  rw [Rat.div_def, Rat.one_mul]
  exact Rat.inv_pos.mpr (Rat.intCast_lt_intCast.mpr (by omega : (0 : Int) < (M : Int)))
theorem qM_mul {M : Nat} (h : 0 < M) : qM M * ((M : Int) : Rat) = 1 := by
  unfold qM
  exact Rat.div_mul_cancel (mne h)
theorem div_qM {M : Nat} (h : 0 < M) (x : Rat) : x / qM M = x * ((M : Int) : Rat) := by
  have h1 := qM_mul h
  have h2 : qM M ≠ 0 := by have := qM_pos h; grind
  have h3 := Rat.div_mul_cancel (a := x) h2
  have : x / qM M * (qM M * ((M : Int) : Rat)) = x * ((M : Int) : Rat) := by rw [← Rat.mul_assoc, h3]
  rw [h1, Rat.mul_one] at this
  exact this
theorem div_M {M : Nat} (x : Rat) : x / ((M : Int) : Rat) = x * qM M := by
  unfold qM
  rw [Rat.div_def, Rat.div_def, Rat.one_mul]
def wide (lo hi : Rat) (M : Nat) : Rat := (hi - lo) / ((M : Int) : Rat)
def stt (lo hi : Rat) (M i : Nat) : Rat := lo + wide lo hi M * ((i : Int) : Rat)
theorem wide_eq (lo hi : Rat) (M : Nat) : wide lo hi M = (hi - lo) * qM M := div_M _
theorem wide_all {M : Nat} (h : 0 < M) (lo hi : Rat) : wide lo hi M * ((M : Int) : Rat) = hi - lo := by
  rw [wide_eq, Rat.mul_assoc, qM_mul h, Rat.mul_one]
theorem wide_pos {M : Nat} (h : lo < hi) (hM : 0 < M) : 0 < wide lo hi M := by
  rw [wide_eq]
  exact Rat.mul_pos (by grind) (qM_pos hM)
theorem stt_in {M i : Nat} (h : lo < hi) (hM : 0 < M) (hi' : i < M) : lo ≤ stt lo hi M i ∧ stt lo hi M i + wide lo hi M ≤ hi := by
  have w0 := wide_pos h hM
  have wa := wide_all hM lo hi
  unfold stt
  have i0 : 0 ≤ wide lo hi M * ((i : Int) : Rat) := Rat.mul_nonneg (Rat.le_of_lt w0) (Rat.intCast_le_intCast.mpr (by omega : (0 : Int) ≤ (i : Int)))
  have i1 : 0 ≤ wide lo hi M * (((M : Int) : Rat) - (((i : Int) : Rat) + 1)) := by
    refine Rat.mul_nonneg (Rat.le_of_lt w0) ?_
    have : (((i : Int) + 1 : Int) : Rat) ≤ ((M : Int) : Rat) := Rat.intCast_le_intCast.mpr (by omega)
    rw [Rat.intCast_add] at this
    have e : ((1 : Int) : Rat) = 1 := rfl
    rw [e] at this
    grind
  constructor
  · grind
  · grind
def pW (lo hi : Rat) (M : Nat) (ws : List Wt) (i : Nat) : List Wt := ldW lo (stt lo hi M i) (qM M) ws
def pS (lo hi : Rat) (M : Nat) (ss : List Sh) (i : Nat) : List Sh := ldS lo (stt lo hi M i) (qM M) ss
def gW (lo hi : Rat) (M : Nat) (ws : List Wt) : Nat → List Wt
  | 0 => []
  | j + 1 => gW lo hi M ws j ++ pW lo hi M ws j
def gS (lo hi : Rat) (M : Nat) (ss : List Sh) : Nat → List Sh
  | 0 => []
  | j + 1 => gS lo hi M ss j ++ pS lo hi M ss j
def fW (lo hi : Rat) (M : Nat) (ws : List Wt) : List Wt := scW (qM M) (gW lo hi M ws M)
def fS (lo hi : Rat) (M : Nat) (ss : List Sh) : List Sh := scS (qM M) (gS lo hi M ss M)
theorem WE.g {a b : List Wt} (h : WE a b) (lo hi : Rat) (M : Nat) : ∀ j : Nat, WE (gW lo hi M a j) (gW lo hi M b j)
  | 0 => WE.refl _
  | j + 1 => (WE.g h lo hi M j).app (h.ld _ _ _)
theorem SE.g {a b : List Sh} (h : SE a b) (lo hi : Rat) (M : Nat) : ∀ j : Nat, SE (gS lo hi M a j) (gS lo hi M b j)
  | 0 => SE.refl _
  | j + 1 => (SE.g h lo hi M j).app (h.ld _ _ _)
theorem WE.f {a b : List Wt} (h : WE a b) (lo hi : Rat) (M : Nat) : WE (fW lo hi M a) (fW lo hi M b) := (h.g lo hi M M).sc _
theorem SE.f {a b : List Sh} (h : SE a b) (lo hi : Rat) (M : Nat) : SE (fS lo hi M a) (fS lo hi M b) := (h.g lo hi M M).sc _
theorem dvd60 {M : Nat} (h : 0 < M) (h6 : M ≤ 6) : (M : Int) ∣ ((60 : Nat) : Int) := by
  have : M = 1 ∨ M = 2 ∨ M = 3 ∨ M = 4 ∨ M = 5 ∨ M = 6 := by omega
  rcases this with rfl | rfl | rfl | rfl | rfl | rfl <;> decide
theorem Dv.intm {D B : Nat} {q : Rat} (h : Dv D B q) (i : Nat) {I : Nat} (hi : i ≤ I) : Dv D (B * I) (q * ((i : Int) : Rat)) := by
  have : Dv 1 I ((i : Int) : Rat) := ⟨by decide, i, by rw [show (((1 : Nat) : Int) : Rat) = 1 from rfl, Rat.mul_one], by omega⟩
  have := h.mul this
  rwa [Nat.mul_one] at this
theorem Rw.pt (r : Rw lo hi ws ss DP BP DW BW n m) {M i : Nat} (hM : 0 < M) (h6 : M ≤ 6) (hi' : i < M) {p : Rat} (hp : Dv DP BP p) : Dv (DP * 60) (BP * 900) (lpt lo (stt lo hi M i) (qM M) p) := by
  have e : lpt lo (stt lo hi M i) (qM M) p = lo + ((hi - lo) * ((i : Int) : Rat) + (p - lo)) / ((M : Int) : Rat) := by
    unfold lpt stt
    rw [wide_eq, div_M]
    grind
  have a := ((((r.h.sub r.l).intm i (I := 6) (by omega)).add (hp.sub r.l)).part (M := 60) (by decide) (m := (M : Int)) (by omega) (dvd60 hM h6))
  have b := r.l.scale (m := 60) (by decide)
  rw [e]
  refine (b.add a).up ?_
  omega
theorem Rw.p (r : Rw lo hi ws ss DP BP DW BW n m) {M i : Nat} (hM : 0 < M) (h6 : M ≤ 6) (hi' : i < M) : Rw lo hi (pW lo hi M ws i) (pS lo hi M ss i) (DP * 60) (BP * 900) DW (BW * 6) n m := by
  have q0 := qM_pos hM
  obtain ⟨s1, s2⟩ := stt_in r.lt hM hi'
  have elo : lpt lo (stt lo hi M i) (qM M) lo = stt lo hi M i := by unfold lpt; grind
  have ehi : lpt lo (stt lo hi M i) (qM M) hi = stt lo hi M i + wide lo hi M := by unfold lpt; rw [wide_eq]
  have inn : ∀ p, lo ≤ p → p ≤ hi → lo ≤ lpt lo (stt lo hi M i) (qM M) p ∧ lpt lo (stt lo hi M i) (qM M) p ≤ hi := fun p h1 h2 => by
    have a := lpt_le (lo := lo) (fi := stt lo hi M i) q0 h1
    have b := lpt_le (lo := lo) (fi := stt lo hi M i) q0 h2
    rw [elo] at a
    rw [ehi] at b
    constructor <;> grind
  refine ⟨r.lt, (r.l.scale (m := 60) (by decide)).up (by omega), (r.h.scale (m := 60) (by decide)).up (by omega), fun w hw => ?_, fun s hs => ?_, by unfold pW ldW; rw [List.length_map]; exact r.wl, by unfold pS ldS; rw [List.length_map]; exact r.sl, r.dw⟩
  · obtain ⟨v, hv, rfl⟩ := List.mem_map.mp hw
    obtain ⟨a, b, c, d⟩ := r.w v hv
    exact ⟨r.pt hM h6 hi' a, b.up (by omega), inn _ c d⟩
  · obtain ⟨v, hv, rfl⟩ := List.mem_map.mp hs
    obtain ⟨a, b, c, d, e, f⟩ := r.s v hv
    refine ⟨r.pt hM h6 hi' a, r.pt hM h6 hi' b, ?_, (inn _ d (by grind)).1, lpt_lt q0 e, (inn _ (by grind) f).2⟩
    show Dv DW (BW * 6) (v.2.2 / qM M)
    rw [div_qM hM]
    exact c.intm M h6
theorem Rw.g (r : Rw lo hi ws ss DP BP DW BW n m) {M : Nat} (hM : 0 < M) (h6 : M ≤ 6) : ∀ j : Nat, j ≤ M → Rw lo hi (gW lo hi M ws j) (gS lo hi M ss j) (DP * 60) (BP * 900) DW (BW * 6) (n * j) (m * j)
  | 0, _ => Rw.nil r.lt ((r.l.scale (m := 60) (by decide)).up (by omega)) ((r.h.scale (m := 60) (by decide)).up (by omega)) r.dw
  | j + 1, h => (r.g hM h6 j (by omega)).app (r.p hM h6 (by omega))
theorem Dv.q {M : Nat} (hM : 0 < M) (h6 : M ≤ 6) : Dv 60 60 (qM M) := by
  have := Dv.one.part (M := 60) (by decide) (m := (M : Int)) (by omega) (dvd60 hM h6)
  exact this
theorem Rw.f (r : Rw lo hi ws ss DP BP DW BW n m) {M : Nat} (hM : 0 < M) (h6 : M ≤ 6) : Rw lo hi (fW lo hi M ws) (fS lo hi M ss) (DP * 60) (BP * 900) (DW * 60) (BW * 6 * 60) (n * M) (m * M) := (r.g hM h6 M (Nat.le_refl _)).sc (Dv.q hM h6)
end
/-- the factor of one number of parts -/
def fct (m o : Nat) : Rat := Rat.divInt ((m : Int) * (m : Int)) ((m : Int) * (m : Int) - (o : Int) * (o : Int))
def facs (m : Nat) : Rat → List Nat → Rat
  | a, [] => a
  | a, o :: os => facs m (if o = m then a else a * fct m o) os
end Bk
namespace Bk
def pD0 (i : Nat) : List Rat → List Rat
  | [] => []
  | c :: l => c * ((i : Int) : Rat) :: pD0 (i + 1) l
def pDv : List Rat → List Rat
  | [] => []
  | _ :: l => pD0 1 l
def pAdd : List Rat → List Rat → List Rat
  | a :: A, b :: B => (a + b) :: pAdd A B
  | [], B => B
  | A, [] => A
theorem horC (c : Rat) (l : List Rat) (x : Rat) : hor (c :: l) x = hor l x * x + c := rfl
theorem pAdd_nilR (A : List Rat) : pAdd A [] = A := by cases A <;> rfl
theorem hor_pAdd (x : Rat) : ∀ A B : List Rat, hor (pAdd A B) x = hor A x + hor B x
  | a :: A, b :: B => by
    show hor (pAdd A B) x * x + (a + b) = (hor A x * x + a) + (hor B x * x + b)
    rw [hor_pAdd x A B]
    grind
  | [], B => by show hor B x = 0 + hor B x; grind
  | a :: A, [] => by show hor (a :: A) x = hor (a :: A) x + 0; grind
theorem pD0_add : ∀ (A B : List Rat) (i : Nat), pD0 i (pAdd A B) = pAdd (pD0 i A) (pD0 i B)
  | a :: A, b :: B, i => by
    show (a + b) * _ :: pD0 (i + 1) (pAdd A B) = (a * _ + b * _) :: pAdd (pD0 (i + 1) A) (pD0 (i + 1) B)
    rw [pD0_add A B (i + 1)]
    congr 1
    grind
  | [], B, i => rfl
  | a :: A, [], i => by
    show pD0 i (a :: A) = pAdd (pD0 i (a :: A)) []
    rw [pAdd_nilR]
theorem hor_pD0 (x : Rat) : ∀ (l : List Rat) (i : Nat), hor (pD0 (i + 1) l) x = hor (pD0 i l) x + hor l x
  | [], i => by show (0 : Rat) = 0 + 0; grind
  | c :: l, i => by
    show hor (pD0 (i + 1 + 1) l) x * x + c * (((i + 1 : Nat) : Int) : Rat) = (hor (pD0 (i + 1) l) x * x + c * ((i : Int) : Rat)) + (hor l x * x + c)
    rw [hor_pD0 x l (i + 1), Int.natCast_add, Rat.intCast_add]
    show _ + c * (((i : Int) : Rat) + 1) = _
    grind
theorem hor_pD0_0 (x : Rat) : ∀ l : List Rat, hor (pD0 0 l) x = hor (pDv l) x * x
  | [] => by show (0 : Rat) = 0 * x; grind
  | c :: l => by
    show hor (pD0 1 l) x * x + c * (((0 : Nat) : Int) : Rat) = hor (pD0 1 l) x * x
    rw [show (((0 : Nat) : Int) : Rat) = 0 from rfl]
    grind
theorem hor_pD1 (x : Rat) (l : List Rat) : hor (pD0 1 l) x = hor l x + hor (pDv l) x * x := by
  rw [hor_pD0 x l 0, hor_pD0_0]
  grind
theorem hor_map (z x : Rat) : ∀ l : List Rat, hor (l.map fun a => z * a) x = z * hor l x
  | [] => by show (0 : Rat) = z * 0; grind
  | c :: l => by
    show hor (l.map fun a => z * a) x * x + z * c = z * (hor l x * x + c)
    rw [hor_map z x l]
    grind
theorem pD0_map (z : Rat) : ∀ (l : List Rat) (i : Nat), pD0 i (l.map fun a => z * a) = (pD0 i l).map fun a => z * a
  | [], i => rfl
  | c :: l, i => by
    show z * c * _ :: pD0 (i + 1) (l.map fun a => z * a) = z * (c * _) :: (pD0 (i + 1) l).map fun a => z * a
    rw [pD0_map z l (i + 1)]
    congr 1
    grind
theorem pD0_len : ∀ (l : List Rat) (i : Nat), (pD0 i l).length = l.length
  | [], _ => rfl
  | c :: l, i => by show (pD0 (i + 1) l).length + 1 = _; rw [pD0_len l (i + 1)]; rfl
theorem pDv_len (l : List Rat) : (pDv l).length = l.length - 1 := by
  cases l with
  | nil => rfl
  | cons c l => show (pD0 1 l).length = _; rw [pD0_len]; simp
theorem area_pDv (x : Rat) : ∀ F : List Rat, hor (areaP (pDv F)) x = hor F x - hor F 0
  | [] => by show (0 : Rat) * x + 0 = 0 - 0; grind
  | c :: l => by
    have key : ∀ (l : List Rat) (i : Nat), apow i (pD0 (i + 1) l) = l := fun l => by
      induction l with
      | nil => intro i; rfl
      | cons a l ih =>
        intro i
        show a * (((i + 1 : Nat) : Int) : Rat) / (((i : Int) + 1 : Int) : Rat) :: apow (i + 1) (pD0 (i + 1 + 1) l) = a :: l
        rw [ih (i + 1)]
        congr 1
        exact Rat.mul_div_cancel (natR_ne (by omega))
    show hor (apow 0 (pD0 1 l)) x * x + 0 = (hor l x * x + c) - (hor l 0 * 0 + c)
    rw [key l 0]
    grind
def mom (W : List Wt) (S : List Sh) (d : Nat) : Rat := tol W S (List.replicate d 0 ++ [1])
theorem tol_zeros (W : List Wt) (S : List Sh) : ∀ d : Nat, tol W S (List.replicate d 0) = 0 := fun d => by
  have h0 : ∀ (d : Nat) (x : Rat), hor (List.replicate d 0) x = 0 := fun d x => by
    induction d with
    | zero => rfl
    | succ d ih => show hor (List.replicate d 0) x * x + 0 = 0; rw [ih]; grind
  have h1 : ∀ (d i : Nat), apow i (List.replicate d 0) = List.replicate d 0 := fun d => by
    induction d with
    | zero => intro i; rfl
    | succ d ih =>
      intro i
      show (0 : Rat) / _ :: apow (i + 1) (List.replicate d 0) = 0 :: List.replicate d 0
      rw [ih, Rat.div_def, Rat.zero_mul]
  have h2 : ∀ x : Rat, hor (areaP (List.replicate d 0)) x = 0 := fun x => by
    show hor (apow 0 (List.replicate d 0)) x * x + 0 = 0
    rw [h1, h0]
    grind
  unfold tol wval sval
  rw [show (sumM W fun w => w.2 * hor (List.replicate d 0) w.1) = sumM W fun _ => 0 from sumM_congr fun w _ => by rw [h0]; grind, show (sumM S fun s => s.2.2 * (hor (areaP (List.replicate d 0)) s.2.1 - hor (areaP (List.replicate d 0)) s.1)) = sumM S fun _ => 0 from sumM_congr fun s _ => by rw [h2, h2]; grind, sumM_zero, sumM_zero]
  grind
theorem apow_add : ∀ (A B : List Rat) (i : Nat), apow i (pAdd A B) = pAdd (apow i A) (apow i B)
  | a :: A, b :: B, i => by
    show (a + b) / _ :: apow (i + 1) (pAdd A B) = (a / _ + b / _) :: pAdd (apow (i + 1) A) (apow (i + 1) B)
    rw [apow_add A B (i + 1)]
    congr 1
    rw [Rat.div_def, Rat.div_def, Rat.div_def]
    grind
  | [], B, i => rfl
  | a :: A, [], i => by
    show apow i (a :: A) = pAdd (apow i (a :: A)) []
    rw [pAdd_nilR]
theorem tol_add (W : List Wt) (S : List Sh) (A B : List Rat) : tol W S (pAdd A B) = tol W S A + tol W S B := by
  have h : ∀ x : Rat, hor (areaP (pAdd A B)) x = hor (areaP A) x + hor (areaP B) x := fun x => by
    show hor (apow 0 (pAdd A B)) x * x + 0 = (hor (apow 0 A) x * x + 0) + (hor (apow 0 B) x * x + 0)
    rw [apow_add, hor_pAdd]
    grind
  unfold tol wval sval
  rw [show (sumM W fun w => w.2 * hor (pAdd A B) w.1) = sumM W fun w => w.2 * hor A w.1 + w.2 * hor B w.1 from sumM_congr fun w _ => by rw [hor_pAdd]; grind, show (sumM S fun s => s.2.2 * (hor (areaP (pAdd A B)) s.2.1 - hor (areaP (pAdd A B)) s.1)) = sumM S fun s => s.2.2 * (hor (areaP A) s.2.1 - hor (areaP A) s.1) + s.2.2 * (hor (areaP B) s.2.1 - hor (areaP B) s.1) from sumM_congr fun s _ => by rw [h, h]; grind, sumM_add, sumM_add]
  grind
theorem apow_map (z : Rat) : ∀ (l : List Rat) (i : Nat), apow i (l.map fun a => z * a) = (apow i l).map fun a => z * a
  | [], i => rfl
  | c :: l, i => by
    show z * c / _ :: apow (i + 1) (l.map fun a => z * a) = z * (c / _) :: (apow (i + 1) l).map fun a => z * a
    rw [apow_map z l (i + 1)]
    congr 1
    rw [Rat.div_def, Rat.div_def]
    grind
theorem tol_map (W : List Wt) (S : List Sh) (z : Rat) (A : List Rat) : tol W S (A.map fun a => z * a) = z * tol W S A := by
  have h : ∀ x : Rat, hor (areaP (A.map fun a => z * a)) x = z * hor (areaP A) x := fun x => by
    show hor (apow 0 (A.map fun a => z * a)) x * x + 0 = z * (hor (apow 0 A) x * x + 0)
    rw [apow_map, hor_map]
    grind
  unfold tol wval sval
  rw [show (sumM W fun w => w.2 * hor (A.map fun a => z * a) w.1) = sumM W fun w => z * (w.2 * hor A w.1) from sumM_congr fun w _ => by rw [hor_map]; grind, show (sumM S fun s => s.2.2 * (hor (areaP (A.map fun a => z * a)) s.2.1 - hor (areaP (A.map fun a => z * a)) s.1)) = sumM S fun s => z * (s.2.2 * (hor (areaP A) s.2.1 - hor (areaP A) s.1)) from sumM_congr fun s _ => by rw [h, h]; grind, sumM_mul, sumM_mul]
  grind
/-- a polynomial is told by its powers -/
theorem tol_pow (W : List Wt) (S : List Sh) {D : Nat} (h : ∀ d, d < D → mom W S d = 0) : ∀ (l : List Rat) (i : Nat), i + l.length ≤ D → tol W S (List.replicate i 0 ++ l) = 0
  | [], i, _ => by rw [List.append_nil]; exact tol_zeros W S i
  | c :: l, i, hl => by
    rw [List.length_cons] at hl
    have ih := tol_pow W S h l (i + 1) (by omega)
    have e : List.replicate i 0 ++ c :: l = pAdd ((List.replicate i (0 : Rat) ++ [1]).map fun a => c * a) (List.replicate (i + 1) 0 ++ l) := by
      have key : ∀ i : Nat, pAdd ((List.replicate i (0 : Rat) ++ [1]).map fun a => c * a) (List.replicate (i + 1) 0 ++ l) = List.replicate i 0 ++ c :: l := fun i => by
        induction i with
        | zero =>
          show (c * 1 + 0) :: l = c :: l
          congr 1
          grind
        | succ i ih =>
          show (c * 0 + 0) :: pAdd ((List.replicate i (0 : Rat) ++ [1]).map fun a => c * a) (List.replicate (i + 1) 0 ++ l) = 0 :: (List.replicate i 0 ++ c :: l)
          rw [ih]
          congr 1
          grind
      exact (key i).symm
    rw [e, tol_add, tol_map, ih]
    have := h i (by omega)
    unfold mom at this
    rw [this]
    grind
end Bk
namespace Bk
open PySem L2
theorem pAdd_le : ∀ {A B : List Rat} {n : Nat}, A.length ≤ n → B.length ≤ n → (pAdd A B).length ≤ n
  | a :: A, b :: B, n, h, h' => by
    rw [List.length_cons] at h h'
    obtain ⟨m, rfl⟩ : ∃ m, n = m + 1 := ⟨n - 1, by omega⟩
    have := pAdd_le (A := A) (B := B) (n := m) (by omega) (by omega)
    show (pAdd A B).length + 1 ≤ m + 1
    omega
  | [], B, n, _, h' => h'
  | a :: A, [], n, h, _ => by rw [pAdd_nilR]; exact h
theorem hor_dAdd (x : Rat) (A B : List Rat) : hor (pDv (pAdd A B)) x = hor (pDv A) x + hor (pDv B) x := by
  cases A with
  | nil => show hor (pDv B) x = 0 + _; grind
  | cons a A =>
    cases B with
    | nil => rw [pAdd_nilR]; show _ = _ + 0; grind
    | cons b B =>
      show hor (pD0 1 (pAdd A B)) x = hor (pD0 1 A) x + hor (pD0 1 B) x
      rw [pD0_add, hor_pAdd]
theorem hor_dMap (z x : Rat) (L : List Rat) : hor (pDv (L.map fun a => z * a)) x = z * hor (pDv L) x := by
  cases L with
  | nil => show (0 : Rat) = z * 0; grind
  | cons a l =>
    show hor (pD0 1 (l.map fun a => z * a)) x = z * hor (pD0 1 l) x
    rw [pD0_map, hor_map]
def pCo (f b : Rat) : List Rat → List Rat
  | [] => []
  | c :: l => pAdd [c] (pAdd ((0 :: pCo f b l).map fun a => f * a) ((pCo f b l).map fun a => b * a))
theorem pCo_len (f b : Rat) : ∀ l : List Rat, (pCo f b l).length ≤ l.length
  | [] => Nat.le_refl _
  | c :: l => by
    have := pCo_len f b l
    exact pAdd_le (by simp) (pAdd_le (by simp; omega) (by simp; omega))
theorem hor_pCo (f b x : Rat) : ∀ l : List Rat, hor (pCo f b l) x = hor l (f * x + b)
  | [] => rfl
  | c :: l => by
    show hor (pAdd [c] (pAdd ((0 :: pCo f b l).map fun a => f * a) ((pCo f b l).map fun a => b * a))) x = hor l (f * x + b) * (f * x + b) + c
    have e0 : hor (0 :: pCo f b l) x = hor l (f * x + b) * x + 0 := by rw [horC, hor_pCo f b x l]
    rw [hor_pAdd, hor_pAdd, hor_map, hor_map, e0, hor_pCo f b x l]
    show (0 * x + c) + _ = _
    grind
theorem hor_dCo (f b x : Rat) : ∀ l : List Rat, hor (pDv (pCo f b l)) x = f * hor (pDv l) (f * x + b)
  | [] => by show (0 : Rat) = f * 0; grind
  | c :: l => by
    show hor (pDv (pAdd [c] (pAdd ((0 :: pCo f b l).map fun a => f * a) ((pCo f b l).map fun a => b * a)))) x = f * hor (pD0 1 l) (f * x + b)
    rw [hor_dAdd, hor_dAdd, hor_dMap, hor_dMap, hor_dCo f b x l, hor_pD1]
    show (0 : Rat) + (f * hor (pD0 1 (pCo f b l)) x + _) = _
    rw [hor_pD1, hor_dCo f b x l, hor_pCo]
    grind
theorem pD0_apow : ∀ (l : List Rat) (i : Nat), pD0 (i + 1) (apow i l) = l
  | [], _ => rfl
  | c :: l, i => by
    show c / (((i : Int) + 1 : Int) : Rat) * (((i + 1 : Nat) : Int) : Rat) :: pD0 (i + 1 + 1) (apow (i + 1) l) = c :: l
    rw [pD0_apow l (i + 1)]
    congr 1
    exact Rat.div_mul_cancel (natR_ne (D := i + 1) (by omega))
theorem hor_areaMap (z x : Rat) (A : List Rat) : hor (areaP (A.map fun a => z * a)) x = z * hor (areaP A) x := by
  show hor (apow 0 (A.map fun a => z * a)) x * x + 0 = z * (hor (apow 0 A) x * x + 0)
  rw [apow_map, hor_map]
  grind
/-- a polynomial of f x + b -/
theorem tol_aff {f b : Rat} (hf : f ≠ 0) (ws : List Wt) (ss : List Sh) (cs : List Rat) : ∃ cs' : List Rat, cs'.length ≤ cs.length ∧
    tol ws ss cs' = wval (fun x => hor cs (f * x + b)) ws + sumM ss fun s => s.2.2 / f * (hor (areaP cs) (f * s.2.1 + b) - hor (areaP cs) (f * s.1 + b)) := by
  refine ⟨(pDv (pCo f b (areaP cs))).map fun a => f⁻¹ * a, ?_, ?_⟩
  · rw [List.length_map, pDv_len]
    have h1 := pCo_len f b (areaP cs)
    have h2 : (areaP cs).length = cs.length + 1 := by show (apow 0 cs).length + 1 = _; rw [apow_len]
    omega
  · have hi : f⁻¹ * f = 1 := Rat.inv_mul_cancel f hf
    have e1 : ∀ x, hor ((pDv (pCo f b (areaP cs))).map fun a => f⁻¹ * a) x = hor cs (f * x + b) := fun x => by
      rw [hor_map, hor_dCo, ← Rat.mul_assoc, hi, Rat.one_mul]
      show hor (pD0 1 (apow 0 cs)) _ = _
      rw [pD0_apow]
    have e2 : ∀ x, hor (areaP ((pDv (pCo f b (areaP cs))).map fun a => f⁻¹ * a)) x = f⁻¹ * (hor (areaP cs) (f * x + b) - hor (pCo f b (areaP cs)) 0) := fun x => by
      rw [hor_areaMap, area_pDv, hor_pCo]
    unfold tol
    congr 1
    · exact sumM_congr fun w _ => by rw [e1]
    · refine sumM_congr fun s _ => ?_
      rw [e2, e2, Rat.div_def]
      grind
def Zt (n : Nat) (ws : List Wt) (ss : List Sh) : Prop := ∀ e, e < n → mom ws ss e = 0
theorem Zt.t0 {n : Nat} {ws : List Wt} {ss : List Sh} (h : Zt n ws ss) {cs : List Rat} (hl : cs.length ≤ n) : tol ws ss cs = 0 := tol_pow ws ss h cs 0 (by omega)
theorem Zt.of {n : Nat} {ws : List Wt} {ss : List Sh} (h : ∀ cs : List Rat, cs.length ≤ n → tol ws ss cs = 0) : Zt n ws ss := fun e he => h _ (by
  rw [List.length_append, List.length_replicate]
  show e + 1 ≤ n
  omega)
theorem Zt.le {n m : Nat} {ws : List Wt} {ss : List Sh} (h : Zt n ws ss) (hm : m ≤ n) : Zt m ws ss := fun e he => h e (by omega)
theorem tol_app (ws ws' : List Wt) (ss ss' : List Sh) (cs : List Rat) : tol (ws ++ ws') (ss ++ ss') cs = tol ws ss cs + tol ws' ss' cs := by
  unfold tol
  rw [wval_app, sval_app]
  grind
theorem wval_sc (F : Rat → Rat) (f : Rat) (a : List Wt) : wval F (scW f a) = f * wval F a := by
  unfold wval scW
  rw [sumM_map, ← sumM_mul]
  exact sumM_congr fun s _ => by grind
theorem sval_sc (F : Rat → Rat) (f : Rat) (c : List Sh) : sval F (scS f c) = f * sval F c := by
  unfold sval scS
  rw [sumM_map, ← sumM_mul]
  exact sumM_congr fun s _ => by grind
theorem tol_sc (f : Rat) (ws : List Wt) (ss : List Sh) (cs : List Rat) : tol (scW f ws) (scS f ss) cs = f * tol ws ss cs := by
  unfold tol
  rw [wval_sc, sval_sc]
  grind
theorem wval_ld (F : Rat → Rat) (lo st q : Rat) (ws : List Wt) : wval F (ldW lo st q ws) = sumM ws fun w => w.2 * F (lpt lo st q w.1) := by
  unfold wval ldW
  rw [sumM_map]
theorem sval_ld (F : Rat → Rat) (lo st q : Rat) (ss : List Sh) : sval F (ldS lo st q ss) = sumM ss fun s => s.2.2 / q * (F (lpt lo st q s.2.1) - F (lpt lo st q s.1)) := by
  unfold sval ldS
  rw [sumM_map]
section
variable {n : Nat} {ws ws' : List Wt} {ss ss' : List Sh}
theorem Zt.ld (h : Zt n ws ss) {lo fi q : Rat} (hq : q ≠ 0) : Zt n (ldW lo fi q ws) (ldS lo fi q ss) := Zt.of fun cs hl => by
  obtain ⟨cs', h1, h2⟩ := tol_aff (b := fi - lo * q) hq ws ss cs
  have e : ∀ x, lpt lo fi q x = q * x + (fi - lo * q) := fun x => by unfold lpt; grind
  have : tol (ldW lo fi q ws) (ldS lo fi q ss) cs = tol ws ss cs' := by
    rw [h2]
    unfold tol
    rw [wval_ld, sval_ld]
    congr 1
    · exact sumM_congr fun w _ => by rw [e]
    · exact sumM_congr fun w _ => by rw [e, e]
  rw [this]
  exact h.t0 (by omega)
theorem Zt.sc (h : Zt n ws ss) (f : Rat) : Zt n (scW f ws) (scS f ss) := Zt.of fun cs hl => by
  rw [tol_sc, h.t0 hl, Rat.mul_zero]
theorem Zt.app (h : Zt n ws ss) (h' : Zt n ws' ss') : Zt n (ws ++ ws') (ss ++ ss') := Zt.of fun cs hl => by
  rw [tol_app, h.t0 hl, h'.t0 hl, Rat.add_zero]
end
end Bk
namespace Bk
def PE (p q : List Rat) : Prop := ∀ x, hor p x = hor q x
def pM : List Rat → List Rat → List Rat
  | [], _ => []
  | a :: p, q => pAdd (q.map fun b => a * b) (0 :: pM p q)
theorem hor_pM (x : Rat) : ∀ p q : List Rat, hor (pM p q) x = hor p x * hor q x
  | [], q => by show (0 : Rat) = 0 * _; grind
  | a :: p, q => by
    show hor (pAdd (q.map fun b => a * b) (0 :: pM p q)) x = (hor p x * x + a) * hor q x
    rw [hor_pAdd, hor_map, horC, hor_pM x p q]
    grind
/-- without zeros behind -/
def tr : List Rat → List Rat
  | [] => []
  | a :: l => if tr l = [] then (if a = 0 then [] else [a]) else a :: tr l
/-- degree and 1; 0 for nothing -/
def dl (p : List Rat) : Nat := (tr p).length
theorem PE.symm {p q : List Rat} (h : PE p q) : PE q p := fun x => (h x).symm
theorem PE.trans {p q r : List Rat} (h : PE p q) (h' : PE q r) : PE p r := fun x => (h x).trans (h' x)
def Nz (p : List Rat) : Prop := ∃ x, hor p x ≠ 0
def Dvd (d p : List Rat) : Prop := ∃ q, ∀ x, hor p x = hor d x * hor q x
theorem Dvd.refl (p : List Rat) : Dvd p p := ⟨[1], fun x => by rw [horC]; show _ = hor p x * (0 * x + 1); grind⟩
theorem Dvd.trans {a b c : List Rat} (h : Dvd a b) (h' : Dvd b c) : Dvd a c := by
  obtain ⟨q, hq⟩ := h
  obtain ⟨r, hr⟩ := h'
  exact ⟨pM q r, fun x => by rw [hr, hq, hor_pM]; grind⟩
theorem Dvd.of {d p q : List Rat} (h : ∀ x, hor p x = hor d x * hor q x) : Dvd d p := ⟨q, h⟩
end Bk
namespace Bk
theorem rle_total (a b : Rat) : a ≤ b ∨ b ≤ a := Rat.le_total
theorem rlt_or_le (a b : Rat) : a < b ∨ b ≤ a := by
  by_cases h : a < b
  · exact .inl h
  · exact .inr (Rat.not_lt.mp h)
def Bt (M y : Rat) : Prop := -M ≤ y ∧ y ≤ M
theorem Bt.up {M N y : Rat} (h : Bt M y) (hn : M ≤ N) : Bt N y := ⟨by have := h.1; grind, by have := h.2; grind⟩
theorem Bt.mul {M N y z : Rat} (h : Bt M y) (h' : Bt N z) : Bt (M * N) (y * z) := by
  obtain ⟨a, b⟩ := h
  obtain ⟨c, d⟩ := h'
  have h1 := Rat.mul_nonneg (show 0 ≤ M - y by grind) (show 0 ≤ N - z by grind)
  have h2 := Rat.mul_nonneg (show 0 ≤ M + y by grind) (show 0 ≤ N + z by grind)
  have h3 := Rat.mul_nonneg (show 0 ≤ M - y by grind) (show 0 ≤ N + z by grind)
  have h4 := Rat.mul_nonneg (show 0 ≤ M + y by grind) (show 0 ≤ N - z by grind)
  exact ⟨by grind, by grind⟩
theorem Bt.add {M N y z : Rat} (h : Bt M y) (h' : Bt N z) : Bt (M + N) (y + z) := ⟨by have := h.1; have := h'.1; grind, by have := h.2; have := h'.2; grind⟩
theorem bt_self (a : Rat) : ∃ M, 0 ≤ M ∧ Bt M a := by
  rcases rle_total 0 a with h | h
  · exact ⟨a, h, by unfold Bt; constructor <;> grind⟩
  · exact ⟨-a, by grind, by unfold Bt; constructor <;> grind⟩
theorem bd_ex (B : Rat) (hB : 0 ≤ B) : ∀ p : List Rat, ∃ M, 0 ≤ M ∧ ∀ x, Bt B x → Bt M (hor p x)
  | [] => ⟨0, Rat.le_refl, fun x _ => by show Bt 0 0; unfold Bt; constructor <;> grind⟩
  | a :: l => by
    obtain ⟨M, h0, h⟩ := bd_ex B hB l
    obtain ⟨A, a0, ha⟩ := bt_self a
    refine ⟨M * B + A, by have := Rat.mul_nonneg h0 hB; grind, fun x hx => ?_⟩
    rw [horC]
    exact ((h x hx).mul hx).add ha
theorem lip_ex (B : Rat) (hB : 0 ≤ B) : ∀ p : List Rat, ∃ L, 0 ≤ L ∧ ∀ x y, Bt B x → Bt B y → ∃ q, hor p y - hor p x = (y - x) * q ∧ Bt L q
  | [] => ⟨0, Rat.le_refl, fun x y _ _ => ⟨0, by show (0 : Rat) - 0 = _; grind, by unfold Bt; constructor <;> grind⟩⟩
  | a :: l => by
    obtain ⟨L, h0, h⟩ := lip_ex B hB l
    obtain ⟨M, m0, hm⟩ := bd_ex B hB l
    refine ⟨L * B + M, by have := Rat.mul_nonneg h0 hB; grind, fun x y hx hy => ?_⟩
    obtain ⟨q, e, hq⟩ := h x y hx hy
    refine ⟨q * y + hor l x, ?_, (hq.mul hy).add (hm x hx)⟩
    rw [horC, horC]
    have : hor l y = hor l x + (y - x) * q := by grind
    rw [this]
    grind
/-- a small enough number -/
theorem small_ex {L η : Rat} (hL : 0 ≤ L) (hη : 0 < η) : ∃ δ, 0 < δ ∧ ∀ t, 0 ≤ t → t ≤ δ → L * t ≤ η := by
  have h1 : 0 < L + 1 := by grind
  have e : η / (L + 1) * (L + 1) = η := Rat.div_mul_cancel (by grind)
  have d0 : 0 < η / (L + 1) := by
    rcases rlt_or_le 0 (η / (L + 1)) with h | h
    · exact h
    · have := Rat.mul_nonneg (show 0 ≤ -(η / (L + 1)) by grind) (Rat.le_of_lt h1)
      grind
  refine ⟨η / (L + 1), d0, fun t h0 ht => ?_⟩
  generalize η / (L + 1) = d at e d0 ht
  have h2 := Rat.mul_nonneg hL (show 0 ≤ d - t by grind)
  grind
theorem min_ex {a b : Rat} (ha : 0 < a) (hb : 0 < b) : ∃ c, 0 < c ∧ c ≤ a ∧ c ≤ b := by
  rcases rle_total a b with h | h
  · exact ⟨a, ha, Rat.le_refl, h⟩
  · exact ⟨b, hb, h, Rat.le_refl⟩
theorem opp_bt {η u v : Rat} (h : Bt η (v - u)) (huv : u * v ≤ 0) : Bt η u ∧ Bt η v := by
  obtain ⟨a, b⟩ := h
  have key : (0 ≤ u ∧ v ≤ 0) ∨ (u ≤ 0 ∧ 0 ≤ v) := by
    rcases rle_total 0 u with h1 | h1 <;> rcases rle_total 0 v with h2 | h2
    · rcases rlt_or_le 0 u with h3 | h3
      · rcases rlt_or_le 0 v with h4 | h4
        · have := Rat.mul_pos h3 h4
          grind
        · exact .inl ⟨h1, h4⟩
      · exact .inr ⟨h3, h2⟩
    · exact .inl ⟨h1, h2⟩
    · exact .inr ⟨h1, h2⟩
    · rcases rlt_or_le u 0 with h3 | h3
      · rcases rlt_or_le v 0 with h4 | h4
        · have := Rat.mul_pos (show 0 < -u by grind) (show 0 < -v by grind)
          grind
        · exact .inr ⟨h1, h4⟩
      · exact .inl ⟨h3, h2⟩
  unfold Bt
  rcases key with ⟨h1, h2⟩ | ⟨h1, h2⟩ <;> refine ⟨⟨?_, ?_⟩, ?_, ?_⟩ <;> grind
/-- what is prime to something small is not small -/
theorem far {a b p q Ma Mb η c : Rat} (e : a * p + b * q = 1) (ha : Bt Ma a) (hb : Bt Mb b) (hq : Bt η q) (h1 : Mb * η ≤ 1 / 4) (h2 : Ma * c ≤ 1 / 4) : ¬ Bt c p := fun hp => by
  have h3 := (ha.mul hp).2
  have h4 := (hb.mul hq).2
  grind
theorem not_bt {c p : Rat} (h : ¬ Bt c p) (h0 : 0 ≤ c) : c < p ∨ p < -c := by
  rcases rlt_or_le c p with h1 | h1
  · exact .inl h1
  · rcases rlt_or_le p (-c) with h2 | h2
    · exact .inr h2
    · exact absurd ⟨h2, h1⟩ h
theorem lip_bt {L d q δ η : Rat} (hq : Bt L q) (hd : Bt δ d) (h : L * δ ≤ η) : Bt η (d * q) := ((hd.mul hq).up (by grind))
def Cst (p : List Rat) : Prop := ∃ c : Rat, c ≠ 0 ∧ ∀ x, hor p x = c
inductive Chn : List (List Rat) → Prop
  | one {p} (h : Cst p) : Chn [p]
  | two {p q} (h : Cst q) : Chn [p, q]
  | cons {p q r l} {u : List Rat} {α β : Rat} (hα : 0 < α) (hβ : 0 < β) (e : ∀ x, α * hor p x = hor u x * hor q x - β * hor r x) (h : Chn (q :: r :: l)) : Chn (p :: q :: r :: l)
theorem Chn.co : ∀ {l : List (List Rat)} {p q : List Rat}, Chn (p :: q :: l) → ∃ a b : List Rat, ∀ x, hor a x * hor p x + hor b x * hor q x = 1
  | [], p, q, h => by
    cases h with
    | two h =>
      obtain ⟨c, c0, hc⟩ := h
      refine ⟨[], [1 / c], fun x => ?_⟩
      rw [hc]
      show (0 : Rat) * _ + (0 * x + 1 / c) * c = 1
      have := Rat.div_mul_cancel (a := 1) c0
      grind
  | r :: l, p, q, h => by
    cases h with
    | @cons _ _ _ _ u α β hα hβ e h =>
      obtain ⟨a, b, hab⟩ := Chn.co h
      refine ⟨b.map fun c => -(α / β) * c, pAdd a (pM (b.map fun c => (1 / β) * c) u), fun x => ?_⟩
      rw [hor_map, hor_pAdd, hor_pM, hor_map]
      have h1 := e x
      have h2 := hab x
      have h3 : (1 / β) * β = 1 := Rat.div_mul_cancel (by grind)
      have h4 : α / β = (1 / β) * α := by rw [Rat.div_def, Rat.div_def]; grind
      rw [h4]
      generalize 1 / β = i at h3 ⊢
      have h5 : hor r x = i * (hor u x * hor q x - α * hor p x) := by
        have : β * hor r x = hor u x * hor q x - α * hor p x := by grind
        rw [← this]
        grind
      rw [h5] at h2
      grind
/-- steps that are short for all triples -/
def Uc (B δ : Rat) : List (List Rat) → Prop
  | p :: q :: r :: l => (∀ x y, Bt B x → Bt B y → Bt δ (y - x) → hor q x * hor q y ≤ 0 → hor p x * hor r x < 0 ∧ 0 < hor p x * hor p y ∧ 0 < hor r x * hor r y) ∧ Uc B δ (q :: r :: l)
  | _ => True
theorem Uc.le {B δ δ' : Rat} (hd : δ' ≤ δ) : ∀ {l : List (List Rat)}, Uc B δ l → Uc B δ' l
  | [], _ => trivial
  | [_], _ => trivial
  | [_, _], _ => trivial
  | p :: q :: r :: l, h => ⟨fun x y hx hy hxy => h.1 x y hx hy (hxy.up hd), Uc.le (l := q :: r :: l) hd h.2⟩
def Cop (q r : List Rat) : Prop := ∃ a b : List Rat, ∀ x, hor a x * hor q x + hor b x * hor r x = 1
/-- what is prime to a part keeps its sign where the part is near 0 -/
theorem keep {q r : List Rat} (h : Cop q r) {B : Rat} (hB : 0 ≤ B) : ∃ η, 0 < η ∧ ∀ u v, Bt B u → Bt B v → Bt η (v - u) → hor q u * hor q v ≤ 0 → 0 < hor r u * hor r v := by
  obtain ⟨b, a, co⟩ := h
  obtain ⟨Ma, a0, hMa⟩ := bd_ex B hB a
  obtain ⟨Mb, b0, hMb⟩ := bd_ex B hB b
  obtain ⟨Lq, q0, hLq⟩ := lip_ex B hB q
  obtain ⟨Lr, r0, hLr⟩ := lip_ex B hB r
  obtain ⟨c, c0, hc⟩ := small_ex a0 (show (0 : Rat) < 1 / 4 by decide +kernel)
  obtain ⟨η, g3, k1⟩ := small_ex b0 (show (0 : Rat) < 1 / 4 by decide +kernel)
  obtain ⟨δ1, d1, m1⟩ := small_ex q0 g3
  obtain ⟨δ2, d2, m2⟩ := small_ex r0 c0
  obtain ⟨δ, d3, n1, n2⟩ := min_ex d1 d2
  have fac : Ma * c ≤ 1 / 4 := hc c (Rat.le_of_lt c0) Rat.le_refl
  have fb : Mb * η ≤ 1 / 4 := k1 η (Rat.le_of_lt g3) Rat.le_refl
  have fq : Lq * δ ≤ η := m1 δ (Rat.le_of_lt d3) n1
  have fr : Lr * δ ≤ c := m2 δ (Rat.le_of_lt d3) n2
  refine ⟨δ, d3, fun u v hu hv hd hq => ?_⟩
  obtain ⟨s, es, hs⟩ := hLq u v hu hv
  have hqq : Bt η (hor q v - hor q u) := by rw [es]; exact lip_bt hs hd fq
  obtain ⟨qu, qv⟩ := opp_bt hqq hq
  have cu : hor a u * hor r u + hor b u * hor q u = 1 := by have := co u; grind
  have ru := not_bt (far cu (hMa u hu) (hMb u hu) qu fb fac) (Rat.le_of_lt c0)
  obtain ⟨t, et, ht⟩ := hLr u v hu hv
  have hrr : Bt c (hor r v - hor r u) := by rw [et]; exact lip_bt ht hd fr
  generalize hor r u = R at *
  generalize hor r v = R' at *
  rcases ru with ru | ru
  · exact Rat.mul_pos (show 0 < R by grind) (show 0 < R' by have := hrr.1; grind)
  · have := Rat.mul_pos (show 0 < -R by grind) (show 0 < -R' by have := hrr.2; grind)
    grind
end Bk
namespace Bk
theorem mul_ne9 {a b : Rat} (ha : a ≠ 0) (hb : b ≠ 0) : a * b ≠ 0 := fun h => (Rat.mul_eq_zero.mp h).elim ha hb
theorem Nz.scale {p q : List Rat} {c : Rat} (h : Nz p) (hc : c ≠ 0) (e : ∀ x, c * hor p x = hor q x) : Nz q := by
  obtain ⟨x, hx⟩ := h
  exact ⟨x, by rw [← e]; exact mul_ne9 hc hx⟩
end Bk
namespace Bk
def ci (l : List Int) (i : Nat) : Int := l.getD i 0
theorem ci_mem {l : List Int} {a : Int} (h : a ∈ l) : ∃ i, i < l.length ∧ ci l i = a := by
  obtain ⟨i, hi⟩ := List.mem_iff_getElem?.mp h
  refine ⟨i, (List.getElem?_eq_some_iff.mp hi).1, ?_⟩
  unfold ci
  rw [List.getD_eq_getElem?_getD, hi]
  rfl
/-- sizes -/
def AllS (k : Nat) (l : List Int) : Prop := ∀ a ∈ l, a.natAbs < 2 ^ k
theorem AllS.up {k m : Nat} {l : List Int} (h : AllS k l) (hk : k ≤ m) : AllS m l := fun a ha => Nat.lt_of_lt_of_le (h a ha) (Nat.pow_le_pow_right (by decide) hk)
end Bk
namespace Bk
def DvA (π : Nat) (l : List Int) : Prop := ∀ i, (π : Int) ∣ ci l i
theorem DvA.all {π : Nat} {l : List Int} (h : DvA π l) : ∀ a ∈ l, (π : Int) ∣ a := fun a ha => by
  obtain ⟨i, _, rfl⟩ := ci_mem ha
  exact h i
end Bk
namespace Bk
open PySem L2
theorem xchain_ok {o o' : D → D → Option R} {a b c : M R} {G G1 G2 G3 : Gam} {x y z r : R} (ha : a G = some (x, G1)) (hb : b G1 = some (y, G2)) (h : o x.d y.d = some (.im (.bl true))) (hc : c G2 = some (z, G3)) (h' : o' y.d z.d = some r) : xchain o o' a b c G = some (r, G3) := by
  unfold xchain
  rw [ha]
  show bd (b G1) _ = _
  rw [hb]
  show (match o x.d y.d with
    | some (.im (.bl k)) => if k then bd (c G2) fun z G3 => (match o' y.d z.d with | some r => some (r, G3) | none => none) else some (.im (.bl false), G2)
    | _ => none) = _
  rw [h]
  show bd (c G2) _ = _
  rw [hc]
  show (match o' y.d z.d with | some r => some (r, G3) | none => none) = _
  rw [h']
end Bk
namespace Bk
open PySem L2
abbrev iD (l : List Int) : D := .tup (l.map .int)
abbrev iL (l : List Int) : D := .lst (l.map .int)
/-- a list or a tuple -/
def SqD (d : D) (l : List Int) : Prop := d = iL l ∨ d = iD l
theorem SqD.len {d : D} {l : List Int} (h : SqD d l) : cbLen [d] = some (.im (.int (l.length : Int))) := by
  rcases h with rfl | rfl
  · show some (R.im (.int (((l.map D.int).length : Nat) : Int))) = _
    rw [List.length_map]
  · show some (R.im (.int (((l.map D.int).length : Nat) : Int))) = _
    rw [List.length_map]
theorem SqD.seq {d : D} {l : List Int} (h : SqD d l) : seqD d = some (l.map .int) := by
  rcases h with rfl | rfl <;> rfl
end Bk
namespace Bk
namespace Lp
def sg : Nat → (Nat → Rat) → Rat
  | 0, _ => 0
  | n + 1, f => sg n f + f n
theorem sg_congr {n : Nat} {f g : Nat → Rat} (h : ∀ i, i < n → f i = g i) : sg n f = sg n g := by
  induction n with
  | zero => rfl
  | succ n ih =>
    show sg n f + f n = sg n g + g n
    rw [ih fun i hi => h i (by omega), h n (by omega)]
theorem sg_zero {n : Nat} {f : Nat → Rat} (h : ∀ i, i < n → f i = 0) : sg n f = 0 := by
  induction n with
  | zero => rfl
  | succ n ih =>
    show sg n f + f n = 0
    rw [ih fun i hi => h i (by omega), h n (by omega)]
    grind
theorem sg_add (n : Nat) (f g : Nat → Rat) : sg n (fun i => f i + g i) = sg n f + sg n g := by
  induction n with
  | zero => show (0 : Rat) = 0 + 0; grind
  | succ n ih =>
    show sg n (fun i => f i + g i) + (f n + g n) = (sg n f + f n) + (sg n g + g n)
    rw [ih]
    grind
theorem sg_sub (n : Nat) (f g : Nat → Rat) : sg n (fun i => f i - g i) = sg n f - sg n g := by
  induction n with
  | zero => show (0 : Rat) = 0 - 0; grind
  | succ n ih =>
    show sg n (fun i => f i - g i) + (f n - g n) = (sg n f + f n) - (sg n g + g n)
    rw [ih]
    grind
theorem sg_mul (n : Nat) (c : Rat) (f : Nat → Rat) : sg n (fun i => c * f i) = c * sg n f := by
  induction n with
  | zero => show (0 : Rat) = c * 0; grind
  | succ n ih =>
    show sg n (fun i => c * f i) + c * f n = c * (sg n f + f n)
    rw [ih]
    grind
theorem sg_mulr (n : Nat) (c : Rat) (f : Nat → Rat) : sg n (fun i => f i * c) = sg n f * c := by
  rw [sg_congr (g := fun i => c * f i) fun i _ => by grind, sg_mul]
  grind
theorem sg_swap (n m : Nat) (f : Nat → Nat → Rat) : sg n (fun i => sg m (fun j => f i j)) = sg m (fun j => sg n (fun i => f i j)) := by
  induction n with
  | zero => exact (sg_zero fun _ _ => rfl).symm
  | succ n ih =>
    show sg n (fun i => sg m (fun j => f i j)) + sg m (fun j => f n j) = _
    rw [ih, ← sg_add]
    rfl
theorem sg_one {n k : Nat} (hk : k < n) {f : Nat → Rat} (h : ∀ i, i < n → i ≠ k → f i = 0) : sg n f = f k := by
  induction n with
  | zero => omega
  | succ n ih =>
    show sg n f + f n = f k
    by_cases z : k = n
    · subst z
      rw [sg_zero fun i hi => h i (by omega) (by omega)]
      grind
    · rw [ih (by omega) fun i hi => h i (by omega), h n (by omega) (Ne.symm z)]
      grind
/-- one summand apart -/
theorem sg_off {n k : Nat} (hk : k < n) (f : Nat → Rat) : sg n f = sg n (fun i => if i = k then 0 else f i) + f k := by
  have : sg n (fun i => f i - (if i = k then 0 else f i)) = f k := by
    rw [sg_one hk fun i _ hi => by rw [if_neg hi]; grind, if_pos rfl]
    grind
  rw [sg_sub] at this
  grind
theorem sg_nonneg {n : Nat} {f : Nat → Rat} (h : ∀ i, i < n → 0 ≤ f i) : 0 ≤ sg n f := by
  induction n with
  | zero => exact Rat.le_refl
  | succ n ih =>
    have := ih fun i hi => h i (by omega)
    have := h n (by omega)
    show 0 ≤ sg n f + f n
    grind
theorem sg_some_pos {n : Nat} {f : Nat → Rat} (h : 0 < sg n f) : ∃ i, i < n ∧ 0 < f i := by
  induction n with
  | zero => exact absurd h (by show ¬ (0 : Rat) < 0; grind)
  | succ n ih =>
    have h : 0 < sg n f + f n := h
    by_cases z : 0 < f n
    · exact ⟨n, by omega, z⟩
    · obtain ⟨i, hi, hf⟩ := ih (by grind)
      exact ⟨i, by omega, hf⟩
/-- the rows, the columns that stand in them -/
structure St where
  L : Nat → Nat → Rat
  b : Nat → Nat
/-- the column c comes in the row p -/
def turn (s : St) (p c : Nat) : St where
  L := fun i j => if i = p then s.L p j / s.L p c else s.L i j - s.L i c * (s.L p j / s.L p c)
  b := fun i => if i = p then c else s.b i
/-- r equations A, m columns of variables (the last r of them the equations' own), then the values -/
structure Inv (A : Nat → Nat → Rat) (r m : Nat) (s : St) : Prop where
  lt : ∀ i, i < r → s.b i < m
  ab : ∀ i j, i < r → j ≤ m → A i j = sg r fun k => A i (s.b k) * s.L k j
  id : ∀ k k', k < r → k' < r → s.L k (s.b k') = if k = k' then 1 else 0
  la : ∀ k j, k < r → j ≤ m → s.L k j = sg r fun i => s.L k (m - r + i) * A i j
theorem Inv.turn {A : Nat → Nat → Rat} {r m : Nat} {s : St} (h : Inv A r m s) {p c : Nat} (hp : p < r) (hc : c < m) (h0 : s.L p c ≠ 0) : Inv A r m (turn s p c) where
  lt := fun i hi => by
    show (if i = p then c else s.b i) < m
    split
    · exact hc
    · exact h.lt i hi
  ab := fun i j hi hj => by
    have e1 := h.ab i j hi hj
    have e2 := h.ab i c hi (by omega)
    have e : sg r (fun k => A i ((Lp.turn s p c).b k) * (Lp.turn s p c).L k j) = sg r (fun k => if k = p then 0 else A i (s.b k) * (s.L k j - s.L k c * (s.L p j / s.L p c))) + A i c * (s.L p j / s.L p c) := by
      rw [sg_off hp]
      have : (fun k => if k = p then 0 else A i ((Lp.turn s p c).b k) * (Lp.turn s p c).L k j) = fun k => if k = p then 0 else A i (s.b k) * (s.L k j - s.L k c * (s.L p j / s.L p c)) := by
        funext k
        split
        · rfl
        · rename_i hk
          show A i (if k = p then c else s.b k) * (if k = p then _ else _) = _
          rw [if_neg hk, if_neg hk]
      rw [this]
      show _ + A i (if p = p then c else s.b p) * (if p = p then _ else _) = _
      rw [if_pos rfl, if_pos rfl]
    rw [e]
    have f1 : sg r (fun k => A i (s.b k) * (s.L k j - s.L k c * (s.L p j / s.L p c))) = A i j - A i c * (s.L p j / s.L p c) := by
      have : (fun k => A i (s.b k) * (s.L k j - s.L k c * (s.L p j / s.L p c))) = fun k => A i (s.b k) * s.L k j - (A i (s.b k) * s.L k c) * (s.L p j / s.L p c) := by
        funext k
        grind
      rw [this, sg_sub, sg_mulr, ← e1, ← e2]
    have f2 := sg_off hp (fun k => A i (s.b k) * (s.L k j - s.L k c * (s.L p j / s.L p c)))
    have z : s.L p j - s.L p c * (s.L p j / s.L p c) = 0 := by
      rw [Rat.div_def]
      have := Rat.mul_inv_cancel _ h0
      grind
    rw [z] at f2
    rw [f1] at f2
    grind
  id := fun k k' hk hk' => by
    have hpp := h.id p
    show (if k = p then s.L p (if k' = p then c else s.b k') / s.L p c else s.L k (if k' = p then c else s.b k') - s.L k c * (s.L p (if k' = p then c else s.b k') / s.L p c)) = _
    have inv := Rat.mul_inv_cancel _ h0
    by_cases z : k' = p
    · rw [if_pos z]
      by_cases y : k = p
      · rw [if_pos y, if_pos (y.trans z.symm), Rat.div_def]
        exact inv
      · have ne : ¬ k = k' := fun w => y (w.trans z)
        rw [if_neg y, if_neg ne, Rat.div_def]
        grind
    · have ne : ¬ p = k' := fun w => z w.symm
      rw [if_neg z, h.id p k' hp hk', if_neg ne]
      by_cases y : k = p
      · subst y
        rw [if_pos rfl, if_neg ne, Rat.div_def]
        grind
      · rw [if_neg y, h.id k k' hk hk', Rat.div_def]
        grind
  la := fun k j hk hj => by
    have e1 := h.la p j hp hj
    have e2 := h.la k j hk hj
    by_cases y : k = p
    · have e : ∀ q, (Lp.turn s p c).L k q = s.L p q / s.L p c := fun q => if_pos y
      rw [e]
      have : (fun i => (Lp.turn s p c).L k (m - r + i) * A i j) = fun i => (s.L p (m - r + i) * A i j) * (s.L p c)⁻¹ := by
        funext i
        rw [e, Rat.div_def]
        grind
      rw [this, sg_mulr, ← e1, Rat.div_def]
    · have e : ∀ q, (Lp.turn s p c).L k q = s.L k q - s.L k c * (s.L p q / s.L p c) := fun q => if_neg y
      rw [e]
      have : (fun i => (Lp.turn s p c).L k (m - r + i) * A i j) = fun i => s.L k (m - r + i) * A i j - (s.L k c * (s.L p c)⁻¹) * (s.L p (m - r + i) * A i j) := by
        funext i
        rw [e, Rat.div_def]
        grind
      rw [this, sg_sub, sg_mul, ← e1, ← e2, Rat.div_def]
      grind
end Lp
end Bk
namespace Bk
open PySem L2
theorem pigeon (m : Nat) : ∀ (f : Nat → Nat) (n : Nat), (∀ i, i < n → f i < m) → m < n → ∃ i j, i < j ∧ j < n ∧ f i = f j := by
  induction m with
  | zero => intro f n h hn; exact absurd (h 0 hn) (Nat.not_lt_zero _)
  | succ m ih =>
    intro f n h hn
    by_cases c : ∃ i, i < n - 1 ∧ f i = f (n - 1)
    · obtain ⟨i, hi, e⟩ := c
      exact ⟨i, n - 1, hi, by omega, e⟩
    · have c' : ∀ i, i < n - 1 → f i ≠ f (n - 1) := fun i hi e => c ⟨i, hi, e⟩
      have hl := h (n - 1) (by omega)
      obtain ⟨i, j, h1, h2, h3⟩ := ih (fun i => if f (n - 1) < f i then f i - 1 else f i) (n - 1) (fun i hi => by
        have := h i (by omega)
        have := c' i hi
        show (if f (n - 1) < f i then f i - 1 else f i) < m
        split <;> omega) (by omega)
      refine ⟨i, j, h1, by omega, ?_⟩
      have a := c' i (by omega)
      have b := c' j h2
      have h3 : (if f (n - 1) < f i then f i - 1 else f i) = (if f (n - 1) < f j then f j - 1 else f j) := h3
      split at h3 <;> split at h3 <;> omega
/-- digits -/
def dgs (b : Nat) : Nat → Nat → List Nat
  | 0, _ => []
  | m + 1, i => i % b :: dgs b m (i / b)
def cod (b : Nat) : List Nat → Nat
  | [] => 0
  | v :: vs => v + b * cod b vs
theorem dgs_len (b : Nat) : ∀ m i, (dgs b m i).length = m
  | 0, _ => rfl
  | m + 1, i => by
    show (dgs b m (i / b)).length + 1 = _
    rw [dgs_len b m]
theorem dgs_lt {b : Nat} (hb : 0 < b) : ∀ m i, ∀ v ∈ dgs b m i, v < b
  | 0, _, v, h => absurd h List.not_mem_nil
  | m + 1, i, v, h => by
    rcases List.mem_cons.mp h with rfl | h
    · exact Nat.mod_lt _ hb
    · exact dgs_lt hb m _ v h
theorem cod_dgs {b : Nat} (hb : 0 < b) : ∀ m i, i < b ^ m → cod b (dgs b m i) = i
  | 0, i, h => by
    rw [Nat.pow_zero] at h
    show 0 = i
    omega
  | m + 1, i, h => by
    show i % b + b * cod b (dgs b m (i / b)) = i
    rw [cod_dgs hb m (i / b) (by
      rw [Nat.pow_succ] at h
      exact Nat.div_lt_of_lt_mul (by rw [Nat.mul_comm]; exact h))]
    exact Nat.mod_add_div i b
theorem cod_lt {b : Nat} (hb : 0 < b) : ∀ vs : List Nat, (∀ v ∈ vs, v < b) → cod b vs < b ^ vs.length
  | [], _ => by show 0 < 1; omega
  | v :: vs, h => by
    have h1 := h v List.mem_cons_self
    have h2 := cod_lt hb vs fun w hw => h w (List.mem_cons_of_mem _ hw)
    show v + b * cod b vs < b ^ (vs.length + 1)
    rw [Nat.pow_succ, Nat.mul_comm (b ^ vs.length)]
    have : b * (cod b vs + 1) ≤ b * b ^ vs.length := Nat.mul_le_mul (Nat.le_refl _) h2
    rw [Nat.mul_add] at this
    omega
theorem cod_inj {b : Nat} (hb : 0 < b) : ∀ {us vs : List Nat}, us.length = vs.length → (∀ v ∈ us, v < b) → (∀ v ∈ vs, v < b) → cod b us = cod b vs → us = vs
  | [], [], _, _, _, _ => rfl
  | [], v :: vs, h, _, _, _ => by simp at h
  | u :: us, [], h, _, _, _ => by simp at h
  | u :: us, v :: vs, h, hu, hv, e => by
    have e : u + b * cod b us = v + b * cod b vs := e
    have u1 := hu u List.mem_cons_self
    have v1 := hv v List.mem_cons_self
    have e1 : u = v := by
      have := congrArg (· % b) e
      simp only [Nat.add_mul_mod_self_left] at this
      rwa [Nat.mod_eq_of_lt u1, Nat.mod_eq_of_lt v1] at this
    subst e1
    have e2 : cod b us = cod b vs := Nat.eq_of_mul_eq_mul_left hb (by omega)
    rw [cod_inj hb (by simpa using h) (fun w hw => hu w (List.mem_cons_of_mem _ hw)) (fun w hw => hv w (List.mem_cons_of_mem _ hw)) e2]
def dotI : List Int → List Int → Int
  | c :: cs, v :: vs => c * v + dotI cs vs
  | _, _ => 0
theorem dotI_bd {H N : Nat} : ∀ {cs vs : List Int}, (∀ c ∈ cs, c.natAbs ≤ H) → (∀ v ∈ vs, v.natAbs ≤ N) → (dotI cs vs).natAbs ≤ vs.length * (H * N)
  | [], vs, _, _ => by show (0 : Int).natAbs ≤ _; simp
  | c :: cs, [], _, _ => by show (0 : Int).natAbs ≤ _; simp
  | c :: cs, v :: vs, hc, hv => by
    have h1 := dotI_bd (cs := cs) (vs := vs) (fun x hx => hc x (List.mem_cons_of_mem _ hx)) fun x hx => hv x (List.mem_cons_of_mem _ hx)
    have h2 : (c * v).natAbs ≤ H * N := by
      rw [Int.natAbs_mul]
      exact Nat.mul_le_mul (hc c List.mem_cons_self) (hv v List.mem_cons_self)
    show (c * v + dotI cs vs).natAbs ≤ (vs.length + 1) * (H * N)
    rw [Nat.add_mul, Nat.one_mul]
    omega
theorem dotI_sub : ∀ (cs us vs : List Int), us.length = vs.length → dotI cs (List.zipWith (· - ·) us vs) = dotI cs us - dotI cs vs
  | [], us, vs, _ => by simp [dotI]
  | c :: cs, [], [], _ => by simp [dotI]
  | c :: cs, [], v :: vs, h => by simp at h
  | c :: cs, u :: us, [], h => by simp at h
  | c :: cs, u :: us, v :: vs, h => by
    show c * (u - v) + dotI cs (List.zipWith (· - ·) us vs) = (c * u + dotI cs us) - (c * v + dotI cs vs)
    rw [dotI_sub cs us vs (by simpa using h), Int.mul_sub]
    omega
theorem zip_ne : ∀ {us vs : List Int}, us.length = vs.length → us ≠ vs → ∃ d ∈ List.zipWith (· - ·) us vs, d ≠ 0
  | [], [], _, h => absurd rfl h
  | [], v :: vs, h, _ => by simp at h
  | u :: us, [], h, _ => by simp at h
  | u :: us, v :: vs, h, hn => by
    by_cases c : u = v
    · subst c
      obtain ⟨d, h1, h2⟩ := zip_ne (us := us) (vs := vs) (by simpa using h) fun e => hn (by rw [e])
      exact ⟨d, List.mem_cons_of_mem _ h1, h2⟩
    · exact ⟨u - v, List.mem_cons_self, by omega⟩
theorem zip_bd {N : Nat} : ∀ {us vs : List Nat}, (∀ u ∈ us, u ≤ N) → (∀ v ∈ vs, v ≤ N) → ∀ d ∈ List.zipWith (· - ·) (us.map Int.ofNat) (vs.map Int.ofNat), d.natAbs ≤ N
  | [], _, _, _, d, h => by simp at h
  | u :: us, [], _, _, d, h => by simp at h
  | u :: us, v :: vs, hu, hv, d, h => by
    have h : d ∈ (Int.ofNat u - Int.ofNat v) :: List.zipWith (· - ·) (us.map Int.ofNat) (vs.map Int.ofNat) := h
    have u1 := hu u List.mem_cons_self
    have v1 := hv v List.mem_cons_self
    rcases List.mem_cons.mp h with rfl | h
    · show ((u : Int) - (v : Int)).natAbs ≤ N
      omega
    · exact zip_bd (fun x hx => hu x (List.mem_cons_of_mem _ hx)) (fun x hx => hv x (List.mem_cons_of_mem _ hx)) d h
/-- more unknowns than forms: a small vector that all forms tell 0 -/
theorem siegel {H m : Nat} (fs : List (List Int)) (hr : fs.length < m) (hH : 0 < H) (hf : ∀ f ∈ fs, ∀ c ∈ f, c.natAbs ≤ H) :
    ∃ v : List Int, v.length = m ∧ (∃ x ∈ v, x ≠ 0) ∧ (∀ x ∈ v, x.natAbs ≤ (2 * (H * m)) ^ fs.length) ∧ ∀ f ∈ fs, dotI f v = 0 := by
  obtain ⟨N, hN⟩ : ∃ N, N = (2 * (H * m)) ^ fs.length := ⟨_, rfl⟩
  obtain ⟨Z, hZ⟩ : ∃ Z, Z = m * (H * N) := ⟨_, rfl⟩
  obtain ⟨Q, hQ⟩ : ∃ Q, Q = 2 * Z + 1 := ⟨_, rfl⟩
  rw [← hN]
  let dv : Nat → List Int := fun i => (dgs (N + 1) m i).map Int.ofNat
  have dl : ∀ i, (dv i).length = m := fun i => by show ((dgs (N + 1) m i).map Int.ofNat).length = m; rw [List.length_map, dgs_len]
  have db : ∀ i, ∀ x ∈ dv i, x.natAbs ≤ N := fun i x hx => by
    obtain ⟨y, hy, rfl⟩ := List.mem_map.mp hx
    have := dgs_lt (Nat.succ_pos N) m i y hy
    show ((y : Int)).natAbs ≤ N
    omega
  let vals : Nat → List Nat := fun i => fs.map fun f => (dotI f (dv i) + (Z : Int)).toNat
  have bd : ∀ f ∈ fs, ∀ i, (dotI f (dv i)).natAbs ≤ Z := fun f hf' i => by
    have := dotI_bd (hf f hf') (db i)
    rw [dl] at this
    rw [hZ]
    exact this
  have vq : ∀ i, ∀ v ∈ vals i, v < Q := fun i v hv => by
    obtain ⟨f, hf', rfl⟩ := List.mem_map.mp hv
    have := bd f hf' i
    omega
  have vl : ∀ i, (vals i).length = fs.length := fun i => List.length_map _
  have hm : 0 < m := by omega
  have hlt : Q ^ fs.length < (N + 1) ^ m := by
    have q1 : Q ≤ 2 * (H * m) * (N + 1) := by
      have e : 2 * (H * m) * (N + 1) = 2 * Z + 2 * (H * m) := by
        rw [hZ, Nat.mul_add, Nat.mul_one, Nat.mul_assoc 2, Nat.mul_comm H m, Nat.mul_assoc m H N]
      have : 0 < H * m := Nat.mul_pos hH hm
      omega
    have q2 : Q ^ fs.length ≤ N * (N + 1) ^ fs.length := by
      refine Nat.le_trans (Nat.pow_le_pow_left q1 _) ?_
      rw [Nat.mul_pow, ← hN]
      exact Nat.le_refl _
    have q3 : N * (N + 1) ^ fs.length < (N + 1) ^ (fs.length + 1) := by
      rw [Nat.pow_succ, Nat.mul_comm ((N + 1) ^ fs.length)]
      exact Nat.mul_lt_mul_of_pos_right (Nat.lt_succ_self N) (Nat.pow_pos (Nat.succ_pos N))
    exact Nat.lt_of_le_of_lt q2 (Nat.lt_of_lt_of_le q3 (Nat.pow_le_pow_right (Nat.succ_pos N) hr))
  obtain ⟨i, j, hij, hj, e⟩ := pigeon (Q ^ fs.length) (fun i => cod Q (vals i)) ((N + 1) ^ m) (fun i _ => by
    have := cod_lt (by omega : 0 < Q) (vals i) (vq i)
    rwa [vl] at this) hlt
  have ev : vals i = vals j := cod_inj (by omega : 0 < Q) (by rw [vl, vl]) (vq i) (vq j) e
  refine ⟨List.zipWith (· - ·) (dv i) (dv j), by rw [List.length_zipWith, dl, dl, Nat.min_self], zip_ne (by rw [dl, dl]) fun z => ?_, fun x hx => zip_bd (fun u hu => by have := dgs_lt (Nat.succ_pos N) m i u hu; omega) (fun u hu => by have := dgs_lt (Nat.succ_pos N) m j u hu; omega) x hx, fun f hf' => ?_⟩
  · have z2 : dgs (N + 1) m i = dgs (N + 1) m j := by
      have := congrArg (List.map Int.toNat) z
      show _ = _
      rw [show List.map Int.toNat (dv i) = dgs (N + 1) m i by show List.map Int.toNat ((dgs (N + 1) m i).map Int.ofNat) = _; rw [List.map_map]; exact (List.map_congr_left fun y _ => rfl).trans (List.map_id _), show List.map Int.toNat (dv j) = dgs (N + 1) m j by show List.map Int.toNat ((dgs (N + 1) m j).map Int.ofNat) = _; rw [List.map_map]; exact (List.map_congr_left fun y _ => rfl).trans (List.map_id _)] at this
      exact this
    have a := cod_dgs (Nat.succ_pos N) m i (Nat.lt_trans hij hj)
    have b := cod_dgs (Nat.succ_pos N) m j hj
    rw [z2, b] at a
    omega
  · rw [dotI_sub f _ _ (by rw [dl, dl])]
    obtain ⟨k, hk⟩ := List.getElem?_of_mem hf'
    have h1 : (vals i)[k]? = some (dotI f (dv i) + (Z : Int)).toNat := by show (fs.map _)[k]? = _; rw [List.getElem?_map, hk]; rfl
    have h2 : (vals j)[k]? = some (dotI f (dv j) + (Z : Int)).toNat := by show (fs.map _)[k]? = _; rw [List.getElem?_map, hk]; rfl
    rw [ev, h2] at h1
    have := Option.some.inj h1
    have b1 := bd f hf' i
    have b2 := bd f hf' j
    omega
end Bk
namespace Bk
namespace Lp
section
variable {A : Nat → Nat → Rat} {r m n0 : Nat} {c : Nat → Rat}
/-- two tables of the same equations, one column by the other's base -/
theorem Inv.mix {s s' : St} (h : Inv A r m s) (h' : Inv A r m s') {k j : Nat} (hk : k < r) (hj : j ≤ m) : (sg r fun i => s'.L k (s.b i) * s.L i j) = s'.L k j := by
  have e1 : (sg r fun i => s'.L k (s.b i) * s.L i j) = sg r fun i => sg r fun t => s'.L k (m - r + t) * A t (s.b i) * s.L i j := sg_congr fun i hi => by
    rw [h'.la k (s.b i) hk (Nat.le_of_lt (h.lt i hi)), ← sg_mulr]
  rw [e1, sg_swap]
  have e2 : (sg r fun t => sg r fun i => s'.L k (m - r + t) * A t (s.b i) * s.L i j) = sg r fun t => s'.L k (m - r + t) * A t j := sg_congr fun t ht => by
    rw [h.ab t j ht hj, ← sg_mul]
    exact sg_congr fun i _ => by grind
  rw [e2, ← h'.la k j hk hj]
theorem Inv.same {s s' : St} (h : Inv A r m s) (h' : Inv A r m s') (e : ∀ i, i < r → s.b i = s'.b i) {k j : Nat} (hk : k < r) (hj : j ≤ m) : s.L k j = s'.L k j := by
  have := h'.mix h hk hj
  rw [← this, sg_one hk fun i hi hne => by rw [← e i hi, h.id k i hk hi, if_neg (Ne.symm hne)]; grind, ← e k hk, h.id k k hk hk, if_pos rfl]
  grind
/-- what a column costs, less what it saves -/
def red (r : Nat) (c : Nat → Rat) (s : St) (j : Nat) : Rat := c j - sg r fun k => c (s.b k) * s.L k j
theorem Inv.red0 {s : St} (h : Inv A r m s) {k : Nat} (hk : k < r) : red r c s (s.b k) = 0 := by
  unfold red
  rw [sg_one hk fun i hi hne => by rw [h.id i k hi hk, if_neg hne]; grind, h.id k k hk hk, if_pos rfl]
  grind
theorem Inv.inj {s : St} (h : Inv A r m s) {i k : Nat} (hi : i < r) (hk : k < r) (e : s.b i = s.b k) : i = k := by
  have h1 := h.id i i hi hi
  rw [e, h.id i k hi hk, if_pos rfl] at h1
  by_cases z : i = k
  · exact z
  · rw [if_neg z] at h1
    exact absurd h1 (by decide +kernel)
/-- both tables' costs -/
theorem red_mix {s s' : St} (h : Inv A r m s) (h' : Inv A r m s') {j : Nat} (hj : j ≤ m) : red r c s' j - (sg r fun i => red r c s' (s.b i) * s.L i j) = red r c s j := by
  have e1 : (sg r fun i => red r c s' (s.b i) * s.L i j) = (sg r fun i => c (s.b i) * s.L i j) - sg r fun k => c (s'.b k) * s'.L k j := by
    have : (fun i => red r c s' (s.b i) * s.L i j) = fun i => c (s.b i) * s.L i j - (sg r fun k => c (s'.b k) * s'.L k (s.b i)) * s.L i j := by
      funext i
      unfold red
      grind
    rw [this, sg_sub]
    congr 1
    have e2 : (sg r fun i => (sg r fun k => c (s'.b k) * s'.L k (s.b i)) * s.L i j) = sg r fun i => sg r fun k => c (s'.b k) * s'.L k (s.b i) * s.L i j := sg_congr fun i _ => (sg_mulr _ _ _).symm
    rw [e2, sg_swap]
    refine sg_congr fun k hk => ?_
    rw [← h.mix h' hk hj, ← sg_mul]
    exact sg_congr fun i _ => by grind
  rw [e1]
  unfold red
  grind
/-- a step: the first column that falls, the first row among the nearest -/
structure Step (r m n0 : Nat) (c : Nat → Rat) (s : St) (p e : Nat) : Prop where
  en : e < n0
  neg : red r c s e < 0
  fst : ∀ j, j < e → 0 ≤ red r c s j
  pr : p < r
  pos : 0 < s.L p e
  near : ∀ k, k < r → 0 < s.L k e → s.L p m / s.L p e ≤ s.L k m / s.L k e
  tie : ∀ k, k < r → 0 < s.L k e → s.L p m / s.L p e = s.L k m / s.L k e → s.b p ≤ s.b k
def worth (r m : Nat) (c : Nat → Rat) (s : St) : Rat := sg r fun k => c (s.b k) * s.L k m
theorem worth_turn {s : St} {p e : Nat} (hp : p < r) (h0 : s.L p e ≠ 0) : worth r m c (turn s p e) = worth r m c s + (s.L p m / s.L p e) * red r c s e := by
  have inv := Rat.mul_inv_cancel _ h0
  have e1 : worth r m c (turn s p e) = (sg r fun k => if k = p then 0 else c (s.b k) * (s.L k m - s.L k e * (s.L p m / s.L p e))) + c e * (s.L p m / s.L p e) := by
    unfold worth
    rw [sg_off hp]
    have : (fun k => if k = p then 0 else c ((turn s p e).b k) * (turn s p e).L k m) = fun k => if k = p then 0 else c (s.b k) * (s.L k m - s.L k e * (s.L p m / s.L p e)) := by
      funext k
      split
      · rfl
      · rename_i hk
        show c (if k = p then e else s.b k) * (if k = p then _ else _) = _
        rw [if_neg hk, if_neg hk]
    rw [this]
    show _ + c (if p = p then e else s.b p) * (if p = p then _ else _) = _
    rw [if_pos rfl, if_pos rfl]
  have f2 := sg_off hp (fun k => c (s.b k) * (s.L k m - s.L k e * (s.L p m / s.L p e)))
  have z : s.L p m - s.L p e * (s.L p m / s.L p e) = 0 := by
    rw [Rat.div_def]
    grind
  rw [z] at f2
  have f1 : (sg r fun k => c (s.b k) * (s.L k m - s.L k e * (s.L p m / s.L p e))) = worth r m c s - (sg r fun k => c (s.b k) * s.L k e) * (s.L p m / s.L p e) := by
    have : (fun k => c (s.b k) * (s.L k m - s.L k e * (s.L p m / s.L p e))) = fun k => c (s.b k) * s.L k m - (c (s.b k) * s.L k e) * (s.L p m / s.L p e) := by
      funext k
      grind
    rw [this, sg_sub, sg_mulr]
    rfl
  rw [f1] at f2
  rw [e1]
  unfold red
  grind
/-- the values stay from 0 on -/
theorem feas_turn {s : St} {p e : Nat} (st : Step r m n0 c s p e) (hf : ∀ k, k < r → 0 ≤ s.L k m) : ∀ k, k < r → 0 ≤ (turn s p e).L k m := fun k hk => by
  have hp := hf p st.pr
  have pos := st.pos
  have ip : 0 < (s.L p e)⁻¹ := Rat.inv_pos.mpr pos
  have b0 : 0 ≤ s.L p m / s.L p e := by
    rw [Rat.div_def]
    exact Rat.mul_nonneg hp (Rat.le_of_lt ip)
  show 0 ≤ (if k = p then s.L p m / s.L p e else s.L k m - s.L k e * (s.L p m / s.L p e))
  split
  · exact b0
  · by_cases z : 0 < s.L k e
    · have n := st.near k hk z
      have : s.L k e * (s.L p m / s.L p e) ≤ s.L k e * (s.L k m / s.L k e) := Rat.mul_le_mul_of_nonneg_left n (Rat.le_of_lt z)
      have i2 : s.L k e * (s.L k m / s.L k e) = s.L k m := by
        rw [Rat.div_def]
        have := Rat.mul_inv_cancel (s.L k e) (by grind)
        grind
      grind
    · have h1 : s.L k e ≤ 0 := by grind
      have : s.L k e * (s.L p m / s.L p e) ≤ 0 := by
        have := Rat.mul_nonneg (a := -s.L k e) (b := s.L p m / s.L p e) (by grind) b0
        grind
      have := hf k hk
      grind
structure Run (A : Nat → Nat → Rat) (r m n0 : Nat) (c : Nat → Rat) (f : Nat → St) (p e : Nat → Nat) (N : Nat) : Prop where
  inv : ∀ t, t ≤ N → Inv A r m (f t)
  feas : ∀ t, t ≤ N → ∀ k, k < r → 0 ≤ (f t).L k m
  step : ∀ t, t < N → Step r m n0 c (f t) (p t) (e t)
  next : ∀ t, t < N → f (t + 1) = turn (f t) (p t) (e t)
/-- between not and is there is a step -/
theorem between {P : Nat → Prop} {a b : Nat} (h : a ≤ b) (ha : ¬ P a) (hb : P b) : ∃ s, a ≤ s ∧ s < b ∧ ¬ P s ∧ P (s + 1) := by
  induction b with
  | zero =>
    have : a = 0 := by omega
    subst this
    exact absurd hb ha
  | succ b ih =>
    by_cases z : P b
    · by_cases y : a ≤ b
      · obtain ⟨s, s1, s2, s3, s4⟩ := ih y z
        exact ⟨s, s1, by omega, s3, s4⟩
      · have : a = b + 1 := by omega
        subst this
        exact absurd hb ha
    · by_cases y : a ≤ b
      · exact ⟨b, y, by omega, z, hb⟩
      · have : a = b + 1 := by omega
        subst this
        exact absurd hb ha
/-- the greatest number met -/
theorem most (f : Nat → Nat) (a : Nat) : ∀ q, a < q → ∃ t, a ≤ t ∧ t < q ∧ ∀ s, a ≤ s → s < q → f s ≤ f t := fun q => by
  induction q with
  | zero => intro h; omega
  | succ q ih =>
    intro h
    by_cases z : a < q
    · obtain ⟨t, t1, t2, t3⟩ := ih z
      by_cases y : f t ≤ f q
      · refine ⟨q, by omega, by omega, fun s s1 s2 => ?_⟩
        by_cases w : s = q
        · rw [w]; exact Nat.le_refl _
        · exact Nat.le_trans (t3 s s1 (by omega)) y
      · refine ⟨t, t1, by omega, fun s s1 s2 => ?_⟩
        by_cases w : s = q
        · rw [w]; omega
        · exact t3 s s1 (by omega)
    · refine ⟨a, Nat.le_refl _, h, fun s s1 s2 => ?_⟩
      have : s = a := by omega
      rw [this]
      exact Nat.le_refl _
theorem no_cycle {f : Nat → St} {p e : Nat → Nat} {N : Nat} (R : Run A r m n0 c f p e N) (hm : n0 ≤ m) {a q : Nat} (haq : a < q) (hq : q ≤ N) (hb : ∀ i, i < r → (f a).b i = (f q).b i) : False := by
  have ne0 : ∀ t, t < N → (f t).L (p t) (e t) ≠ 0 := fun t ht z => by
    have := (R.step t ht).pos
    rw [z] at this
    exact absurd this Rat.lt_irrefl
  have bnd : ∀ t, t < N → 0 ≤ (f t).L (p t) m / (f t).L (p t) (e t) := fun t ht => by
    rw [Rat.div_def]
    exact Rat.mul_nonneg (R.feas t (Nat.le_of_lt ht) _ (R.step t ht).pr) (Rat.le_of_lt (Rat.inv_pos.mpr (R.step t ht).pos))
  have dn : ∀ t, t < N → worth r m c (f (t + 1)) ≤ worth r m c (f t) := fun t ht => by
    rw [R.next t ht, worth_turn (R.step t ht).pr (ne0 t ht)]
    have := Rat.mul_nonneg (bnd t ht) (show (0 : Rat) ≤ -red r c (f t) (e t) by have := (R.step t ht).neg; grind)
    grind
  have mono : ∀ k t, t + k ≤ N → worth r m c (f (t + k)) ≤ worth r m c (f t) := fun k => by
    induction k with
    | zero => exact fun t _ => Rat.le_refl
    | succ k ih =>
      intro t ht
      exact Rat.le_trans (dn (t + k) (by omega)) (ih t (by omega))
  have wq : worth r m c (f q) = worth r m c (f a) := by
    unfold worth
    refine sg_congr fun k hk => ?_
    rw [← hb k hk, (R.inv q hq).same (R.inv a (by omega)) (fun i hi => (hb i hi).symm) hk (Nat.le_refl _)]
  -- each bound is 0
  have b0 : ∀ t, a ≤ t → t < q → (f t).L (p t) m = 0 := fun t h1 h2 => by
    have ht : t < N := by omega
    have g1 := mono (t - a) a (by omega)
    rw [show a + (t - a) = t by omega] at g1
    have g2 := mono (q - (t + 1)) (t + 1) (by omega)
    rw [show t + 1 + (q - (t + 1)) = q by omega] at g2
    have g3 := worth_turn (c := c) (m := m) (R.step t ht).pr (ne0 t ht)
    rw [← R.next t ht] at g3
    have g4 := dn t ht
    have ng := (R.step t ht).neg
    have z : (f t).L (p t) m / (f t).L (p t) (e t) * red r c (f t) (e t) = 0 := by grind
    rcases Rat.mul_eq_zero.mp z with z | z
    · rw [Rat.div_def] at z
      rcases Rat.mul_eq_zero.mp z with z | z
      · exact z
      · have := Rat.inv_pos.mpr (R.step t ht).pos
        rw [z] at this
        exact absurd this Rat.lt_irrefl
    · rw [z] at ng
      exact absurd ng Rat.lt_irrefl
  have beta : ∀ t, a ≤ t → t < q → (f t).L (p t) m / (f t).L (p t) (e t) = 0 := fun t h1 h2 => by
    rw [b0 t h1 h2, Rat.div_def]
    grind
  have stay : ∀ t, a ≤ t → t < q → ∀ k, (f (t + 1)).L k m = (f t).L k m := fun t h1 h2 k => by
    rw [R.next t (by omega)]
    show (if k = p t then _ else _) = _
    split
    · rename_i hk
      rw [beta t h1 h2, hk, b0 t h1 h2]
    · rw [beta t h1 h2]
      grind
  have val : ∀ k d t, a ≤ t → t + d ≤ q → (f (t + d)).L k m = (f t).L k m := fun k d => by
    induction d with
    | zero => exact fun _ _ _ => rfl
    | succ d ih =>
      intro t h1 h2
      rw [← ih t h1 (by omega)]
      exact stay (t + d) (by omega) (by omega) k
  have valq : ∀ k t s, a ≤ t → t ≤ q → a ≤ s → s ≤ q → (f t).L k m = (f s).L k m := fun k t s h1 h2 h3 h4 => by
    have g1 := val k (t - a) a (Nat.le_refl _) (by omega)
    have g2 := val k (s - a) a (Nat.le_refl _) (by omega)
    rw [show a + (t - a) = t by omega] at g1
    rw [show a + (s - a) = s by omega] at g2
    rw [g1, g2]
  -- what changes in a row comes there
  have chg : ∀ s i, s < N → (f (s + 1)).b i ≠ (f s).b i → i = p s ∧ (f (s + 1)).b i = e s := fun s i hs h => by
    rw [R.next s hs] at h ⊢
    have h : (if i = p s then e s else (f s).b i) ≠ (f s).b i := h
    show i = p s ∧ (if i = p s then e s else (f s).b i) = e s
    split at h
    · rename_i hi
      exact ⟨hi, if_pos hi⟩
    · exact absurd rfl h
  obtain ⟨ts, ts1, ts2, big⟩ := most e a q haq
  have htsN : ts < N := by omega
  have notin : ∀ i, i < r → (f ts).b i ≠ e ts := fun i hi z => by
    have g := (R.step ts htsN).neg
    rw [← z, (R.inv ts (by omega)).red0 hi] at g
    exact absurd g Rat.lt_irrefl
  -- the greatest one leaves, too
  obtain ⟨tl, tl1, tl2, hl⟩ : ∃ tl, a ≤ tl ∧ tl < q ∧ (f tl).b (p tl) = e ts := by
    have hi0 : p ts < r := (R.step ts htsN).pr
    have aft : (f (ts + 1)).b (p ts) = e ts := by
      rw [R.next ts htsN]
      exact if_pos rfl
    by_cases z : (f q).b (p ts) = e ts
    · have za : (f a).b (p ts) = e ts := (hb _ hi0).trans z
      obtain ⟨s, s1, s2, s3, s4⟩ := between (P := fun s => ¬ (f s).b (p ts) = e ts) ts1 (fun y => y za) (notin _ hi0)
      have s3 : (f s).b (p ts) = e ts := Classical.not_not.mp s3
      obtain ⟨g1, g2⟩ := chg s (p ts) (by omega) (fun y => s4 (y.trans s3))
      exact ⟨s, s1, by omega, by rw [← g1]; exact s3⟩
    · obtain ⟨s, s1, s2, s3, s4⟩ := between (P := fun s => ¬ (f s).b (p ts) = e ts) (show ts + 1 ≤ q by omega) (fun y => y aft) z
      have s3 : (f s).b (p ts) = e ts := Classical.not_not.mp s3
      obtain ⟨g1, g2⟩ := chg s (p ts) (by omega) (fun y => s4 (y.trans s3))
      exact ⟨s, by omega, s2, by rw [← g1]; exact s3⟩
  have htlN : tl < N := by omega
  have SL := R.step tl htlN
  have SS := R.step ts htsN
  have IL := R.inv tl (by omega)
  have IS := R.inv ts (by omega)
  have le : e tl ≤ e ts := big tl tl1 tl2
  have ne : e tl ≠ e ts := fun z => by
    have g := SL.neg
    rw [z, ← hl, IL.red0 SL.pr] at g
    exact absurd g Rat.lt_irrefl
  have rs : 0 ≤ red r c (f ts) (e tl) := SS.fst _ (by omega)
  have mix := red_mix (c := c) IL IS (j := e tl) (by have := SL.en; omega)
  have ng := SL.neg
  obtain ⟨i, hi, hpos⟩ := sg_some_pos (n := r) (f := fun i => red r c (f ts) ((f tl).b i) * (f tl).L i (e tl)) (by grind)
  have u0 : red r c (f ts) ((f tl).b i) ≠ 0 := fun z => by
    simp only [z] at hpos
    grind
  have nin : ∀ k, k < r → (f ts).b k ≠ (f tl).b i := fun k hk z => u0 (by rw [← z]; exact IS.red0 hk)
  by_cases hip : i = p tl
  · have hpos : 0 < red r c (f ts) ((f tl).b i) * (f tl).L i (e tl) := hpos
    rw [hip, hl] at hpos
    have h1 := SS.neg
    have h2 := SL.pos
    have := Rat.mul_pos (show (0 : Rat) < -red r c (f ts) (e ts) by grind) h2
    grind
  · -- a time at which it comes
    obtain ⟨s, s1, s2, s3⟩ : ∃ s, a ≤ s ∧ s < q ∧ p s = i ∧ e s = (f tl).b i := by
      by_cases z : (f a).b i = (f tl).b i
      · have zq : (f q).b i = (f tl).b i := (hb i hi).symm.trans z
        obtain ⟨s, s1, s2, s3, s4⟩ := between (P := fun s => (f s).b i = (f tl).b i) (Nat.le_of_lt ts2) (nin i hi) zq
        obtain ⟨g1, g2⟩ := chg s i (by omega) (fun y => s3 (y.symm.trans s4))
        exact ⟨s, by omega, s2, g1.symm, g2.symm.trans s4⟩
      · obtain ⟨s, s1, s2, s3, s4⟩ := between (P := fun s => (f s).b i = (f tl).b i) tl1 z rfl
        obtain ⟨g1, g2⟩ := chg s i (by omega) (fun y => s3 (y.symm.trans s4))
        exact ⟨s, s1, by omega, g1.symm, g2.symm.trans s4⟩
    have ule : (f tl).b i ≤ e ts := by
      rw [← s3.2]
      exact big s s1 s2
    have une : (f tl).b i ≠ e ts := fun z => hip (IL.inj hi SL.pr (z.trans hl.symm))
    have un : 0 ≤ red r c (f ts) ((f tl).b i) := SS.fst _ (by omega)
    have up : 0 < (f tl).L i (e tl) := by
      have hpos : 0 < red r c (f ts) ((f tl).b i) * (f tl).L i (e tl) := hpos
      by_cases y : 0 < (f tl).L i (e tl)
      · exact y
      · have := Rat.mul_nonneg un (show (0 : Rat) ≤ -(f tl).L i (e tl) by grind)
        grind
    have v0 : (f tl).L i m = 0 := by
      rw [valq i tl s tl1 (by omega) s1 (by omega), ← s3.1]
      exact b0 s s1 s2
    have tie := SL.tie i hi up (by
      rw [beta tl tl1 tl2, v0, Rat.div_def]
      grind)
    rw [hl] at tie
    omega
/-- no run is longer than there are bases -/
theorem run_le {f : Nat → St} {p e : Nat → Nat} {N : Nat} (R : Run A r m n0 c f p e N) (hm : n0 ≤ m) (hr : 0 < m) : N < m ^ r := by
  by_cases z : N < m ^ r
  · exact z
  · exfalso
    have lt : ∀ t, t ≤ N → ∀ v ∈ (List.range r).map (f t).b, v < m := fun t ht v hv => by
      obtain ⟨i, hi, rfl⟩ := List.mem_map.mp hv
      exact (R.inv t ht).lt i (List.mem_range.mp hi)
    obtain ⟨a, q, h1, h2, h3⟩ := pigeon (m ^ r) (fun t => if t ≤ N then cod m ((List.range r).map (f t).b) else 0) (N + 1) (fun t ht => by
      show (if t ≤ N then _ else _) < _
      rw [if_pos (by omega)]
      have := cod_lt hr _ (lt t (by omega))
      rwa [List.length_map, List.length_range] at this) (by omega)
    have h3 : (if a ≤ N then cod m ((List.range r).map (f a).b) else 0) = if q ≤ N then cod m ((List.range r).map (f q).b) else 0 := h3
    rw [if_pos (by omega), if_pos (by omega)] at h3
    have e := cod_inj hr (by simp) (lt a (by omega)) (lt q (by omega)) h3
    exact no_cycle R hm h1 (by omega) fun i hi => by
      have g := congrArg (fun l => l[i]?) e
      simp only [List.getElem?_map, List.getElem?_range hi, Option.map_some] at g
      exact Option.some.inj g
end
end Lp
end Bk
namespace Bk
namespace Lp
theorem sg_front (n : Nat) (f : Nat → Rat) : sg (n + 1) f = f 0 + sg n fun i => f (i + 1) := by
  induction n with
  | zero => show (0 : Rat) + f 0 = f 0 + 0; grind
  | succ n ih =>
    show sg (n + 1) f + f (n + 1) = f 0 + (sg n (fun i => f (i + 1)) + f (n + 1))
    rw [ih]
    grind
theorem dot_sg : ∀ (v : List Int) (g : Nat → Int) (k : Nat), ((dotI ((List.range' k v.length).map g) v : Int) : Rat) = sg v.length fun i => ((g (k + i) : Int) : Rat) * ((v.getD i 0 : Int) : Rat)
  | [], g, k => rfl
  | x :: v, g, k => by
    have ih := dot_sg v g (k + 1)
    have e : dotI ((List.range' k (x :: v).length).map g) (x :: v) = g k * x + dotI ((List.range' (k + 1) v.length).map g) v := by
      rw [List.length_cons, List.range'_succ]
      rfl
    rw [e, Rat.intCast_add, Rat.intCast_mul, ih, List.length_cons, sg_front]
    refine congrArg (_ + ·) (sg_congr fun i _ => ?_)
    rw [show k + 1 + i = k + (i + 1) by omega]
    rfl
section
variable {A : Nat → Nat → Rat} {r m : Nat}
/-- a small common denominator for a column -/
theorem Inv.small {s : St} (h : Inv A r m s) {H : Nat} (hH : 0 < H) {z : Nat → Nat → Int} (hz : ∀ i j, i < r → j < m → A i j = (z i j : Rat) ∧ (z i j).natAbs ≤ H) {j : Nat} (hj : j ≤ m) {D : Int} {y : Nat → Int} (hy : ∀ i, i < r → A i j * (D : Rat) = (y i : Rat) ∧ (y i).natAbs ≤ H) :
    ∃ d : Int, d ≠ 0 ∧ d.natAbs ≤ (2 * (H * (r + 1))) ^ r ∧ ∀ k, k < r → ∃ w : Int, w.natAbs ≤ (2 * (H * (r + 1))) ^ r ∧ s.L k j * (D : Rat) * (d : Rat) = (w : Rat) := by
  let g : Nat → Nat → Int := fun i k => if k < r then z i (s.b k) else -(y i)
  let fs : List (List Int) := (List.range r).map fun i => (List.range' 0 (r + 1)).map (g i)
  have fl : fs.length = r := by show ((List.range r).map _).length = r; rw [List.length_map, List.length_range]
  obtain ⟨v, v1, v2, v3, v4⟩ := siegel (H := H) (m := r + 1) fs (by omega) hH fun f hf c hc => by
    obtain ⟨i, hi, rfl⟩ := List.mem_map.mp hf
    obtain ⟨k, hk, rfl⟩ := List.mem_map.mp hc
    have hi := List.mem_range.mp hi
    show (if k < r then z i (s.b k) else -(y i)).natAbs ≤ H
    split
    · rename_i hk
      exact (hz i (s.b k) hi (h.lt k hk)).2
    · rw [Int.natAbs_neg]
      exact (hy i hi).2
  rw [fl] at v3
  let w : Nat → Int := fun k => v.getD k 0
  have wb : ∀ k, (w k).natAbs ≤ (2 * (H * (r + 1))) ^ r := fun k => by
    show (v.getD k 0).natAbs ≤ _
    rw [List.getD_eq_getElem?_getD]
    cases e : v[k]? with
    | none => exact Nat.zero_le _
    | some x => exact v3 x (List.mem_of_getElem? e)
  have eq : ∀ i, i < r → (sg r fun k => A i (s.b k) * ((w k : Int) : Rat)) = A i j * (D : Rat) * ((w r : Int) : Rat) := fun i hi => by
    have e := v4 ((List.range' 0 (r + 1)).map (g i)) (List.mem_map.mpr ⟨i, List.mem_range.mpr hi, rfl⟩)
    have e2 := dot_sg v (g i) 0
    rw [v1, e] at e2
    have e3 : (sg (r + 1) fun k => ((g i (0 + k) : Int) : Rat) * ((v.getD k 0 : Int) : Rat)) = (sg r fun k => A i (s.b k) * ((w k : Int) : Rat)) + (-(y i : Rat)) * ((w r : Int) : Rat) := by
      show (sg r fun k => ((g i (0 + k) : Int) : Rat) * ((v.getD k 0 : Int) : Rat)) + ((g i (0 + r) : Int) : Rat) * ((v.getD r 0 : Int) : Rat) = _
      have e4 : g i (0 + r) = -(y i) := by show (if 0 + r < r then _ else _) = _; rw [if_neg (by omega)]
      rw [e4, Rat.intCast_neg]
      refine congrArg (· + _) (sg_congr fun k hk => ?_)
      have e5 : g i (0 + k) = z i (s.b k) := by show (if 0 + k < r then z i (s.b (0 + k)) else _) = _; rw [if_pos (by omega), Nat.zero_add]
      rw [e5, (hz i (s.b k) hi (h.lt k hk)).1]
    rw [e3] at e2
    rw [(hy i hi).1]
    have : ((0 : Int) : Rat) = 0 := rfl
    grind
  have sol : ∀ k, k < r → s.L k j * (D : Rat) * ((w r : Int) : Rat) = ((w k : Int) : Rat) := fun k hk => by
    have e1 : (sg r fun t => s.L k (m - r + t) * (sg r fun k' => A t (s.b k') * ((w k' : Int) : Rat))) = ((w k : Int) : Rat) := by
      have : (sg r fun t => s.L k (m - r + t) * (sg r fun k' => A t (s.b k') * ((w k' : Int) : Rat))) = sg r fun t => sg r fun k' => s.L k (m - r + t) * A t (s.b k') * ((w k' : Int) : Rat) := sg_congr fun t _ => by
        rw [← sg_mul]
        exact sg_congr fun k' _ => by grind
      rw [this, sg_swap, sg_congr (g := fun k' => s.L k (s.b k') * ((w k' : Int) : Rat)) fun k' hk' => by
        rw [sg_mulr, ← h.la k (s.b k') hk (Nat.le_of_lt (h.lt k' hk'))]]
      rw [sg_one hk fun i hi hne => by rw [h.id k i hk hi, if_neg (Ne.symm hne)]; grind, h.id k k hk hk, if_pos rfl]
      grind
    rw [← e1, sg_congr (g := fun t => s.L k (m - r + t) * A t j * ((D : Rat) * ((w r : Int) : Rat))) fun t ht => by rw [eq t ht]; grind, sg_mulr, ← h.la k j hk hj]
    grind
  refine ⟨w r, fun z0 => ?_, wb r, fun k hk => ⟨w k, wb k, sol k hk⟩⟩
  obtain ⟨x, hx, x0⟩ := v2
  obtain ⟨k, hk, rfl⟩ := List.mem_iff_getElem.mp hx
  have wk : w k = v[k] := by show v.getD k 0 = _; rw [List.getD_eq_getElem?_getD, List.getElem?_eq_getElem hk]; rfl
  by_cases kr : k < r
  · have := sol k kr
    rw [z0] at this
    have c0 : ((0 : Int) : Rat) = 0 := rfl
    have : ((w k : Int) : Rat) = 0 := by rw [← this, c0]; grind
    exact x0 (wk.symm.trans (Rat.intCast_eq_zero_iff.mp this))
  · have : k = r := by omega
    subst this
    exact x0 (wk.symm.trans z0)
variable {c : Nat → Rat}
/-- what each equation is worth -/
def dual (r m : Nat) (c : Nat → Rat) (s : St) (i : Nat) : Rat := sg r fun k => c (s.b k) * s.L k (m - r + i)
theorem Inv.red_dual {s : St} (h : Inv A r m s) {j : Nat} (hj : j ≤ m) : red r c s j = c j - sg r fun i => dual r m c s i * A i j := by
  unfold red
  congr 1
  have e : (sg r fun k => c (s.b k) * s.L k j) = sg r fun k => sg r fun i => c (s.b k) * s.L k (m - r + i) * A i j := sg_congr fun k hk => by
    rw [h.la k j hk hj, ← sg_mul]
    exact sg_congr fun i _ => by grind
  rw [e, sg_swap]
  refine sg_congr fun i _ => ?_
  rw [sg_mulr]
  rfl
theorem Inv.worth_dual {s : St} (h : Inv A r m s) : worth r m c s = sg r fun i => dual r m c s i * A i m := by
  have e : worth r m c s = sg r fun k => sg r fun i => c (s.b k) * s.L k (m - r + i) * A i m := sg_congr fun k hk => by
    rw [h.la k m hk (Nat.le_refl _), ← sg_mul]
    exact sg_congr fun i _ => by grind
  rw [e, sg_swap]
  refine sg_congr fun i _ => ?_
  rw [sg_mulr]
  rfl
/-- the values of the columns -/
def vals (r m : Nat) (s : St) (j : Nat) : Rat := sg r fun k => if s.b k = j then s.L k m else 0
/-- how the columns change if one grows by 1 -/
def way (r : Nat) (s : St) (e : Nat) (j : Nat) : Rat := (if j = e then 1 else 0) - sg r fun k => if s.b k = j then s.L k e else 0
theorem pick {n : Nat} (f : Nat → Rat) {t : Nat} (ht : t < n) (x : Rat) : (sg n fun j => f j * (if t = j then x else 0)) = f t * x := by
  rw [sg_one ht fun i _ hi => by rw [if_neg (Ne.symm hi)]; grind, if_pos rfl]
theorem sum_base {s : St} (h : ∀ k, k < r → s.b k < m) (f : Nat → Rat) (g : Nat → Rat) : (sg m fun j => f j * (sg r fun k => if s.b k = j then g k else 0)) = sg r fun k => f (s.b k) * g k := by
  have e : (sg m fun j => f j * (sg r fun k => if s.b k = j then g k else 0)) = sg m fun j => sg r fun k => f j * (if s.b k = j then g k else 0) := sg_congr fun j _ => (sg_mul _ _ _).symm
  rw [e, sg_swap]
  exact sg_congr fun k hk => pick f (h k hk) (g k)
theorem Inv.vals_eq {s : St} (h : Inv A r m s) {i : Nat} (hi : i < r) : (sg m fun j => A i j * vals r m s j) = A i m := by
  unfold vals
  rw [sum_base h.lt, ← h.ab i m hi (Nat.le_refl _)]
theorem Inv.vals_worth {s : St} (h : Inv A r m s) : (sg m fun j => c j * vals r m s j) = worth r m c s := sum_base h.lt _ _
theorem Inv.way_eq {s : St} (h : Inv A r m s) {e : Nat} (he : e < m) {i : Nat} (hi : i < r) : (sg m fun j => A i j * way r s e j) = 0 := by
  unfold way
  have : (fun j => A i j * ((if j = e then 1 else 0) - sg r fun k => if s.b k = j then s.L k e else 0)) = fun j => A i j * (if e = j then 1 else 0) - A i j * (sg r fun k => if s.b k = j then s.L k e else 0) := by
    funext j
    by_cases z : j = e
    · rw [if_pos z, if_pos z.symm]; grind
    · rw [if_neg z, if_neg (Ne.symm z)]; grind
  rw [this, sg_sub, pick _ he, sum_base h.lt, ← h.ab i e hi (Nat.le_of_lt he)]
  grind
theorem Inv.way_cost {s : St} (h : Inv A r m s) {e : Nat} (he : e < m) : (sg m fun j => c j * way r s e j) = red r c s e := by
  unfold way red
  have : (fun j => c j * ((if j = e then 1 else 0) - sg r fun k => if s.b k = j then s.L k e else 0)) = fun j => c j * (if e = j then 1 else 0) - c j * (sg r fun k => if s.b k = j then s.L k e else 0) := by
    funext j
    by_cases z : j = e
    · rw [if_pos z, if_pos z.symm]; grind
    · rw [if_neg z, if_neg (Ne.symm z)]; grind
  rw [this, sg_sub, pick _ he, sum_base h.lt]
  grind
theorem vals_nonneg {s : St} (hf : ∀ k, k < r → 0 ≤ s.L k m) (j : Nat) : 0 ≤ vals r m s j := sg_nonneg fun k hk => by
  split
  · exact hf k hk
  · exact Rat.le_refl
theorem vals_off {s : St} {j : Nat} (h : ∀ k, k < r → s.b k ≠ j) : vals r m s j = 0 := sg_zero fun k hk => if_neg (h k hk)
theorem way_off {s : St} {e j : Nat} (h : ∀ k, k < r → s.b k ≠ j) (ne : j ≠ e) : way r s e j = 0 := by
  unfold way
  rw [if_neg ne, sg_zero fun k hk => if_neg (h k hk)]
  grind
theorem way_nonneg {s : St} {e : Nat} (hf : ∀ k, k < r → s.L k e ≤ 0) (j : Nat) : 0 ≤ way r s e j := by
  have : (sg r fun k => if s.b k = j then s.L k e else 0) = -(sg r fun k => if s.b k = j then -s.L k e else 0) := by
    have : (fun k => if s.b k = j then s.L k e else 0) = fun k => (-1) * (if s.b k = j then -s.L k e else 0) := by
      funext k
      split <;> grind
    rw [this, sg_mul]
    grind
  have n : 0 ≤ sg r fun k => if s.b k = j then -s.L k e else 0 := sg_nonneg fun k hk => by
    split
    · have := hf k hk; grind
    · exact Rat.le_refl
  unfold way
  rw [this]
  split <;> grind
end
end Lp
end Bk
namespace Bk
namespace Lp
theorem sg_zero_each {n : Nat} {f : Nat → Rat} (h : ∀ i, i < n → 0 ≤ f i) (z : sg n f = 0) : ∀ i, i < n → f i = 0 := by
  induction n with
  | zero => intro i hi; omega
  | succ n ih =>
    have e : sg n f + f n = 0 := z
    have h1 := sg_nonneg fun i (hi : i < n) => h i (by omega)
    have h2 := h n (by omega)
    have z1 : sg n f = 0 := by grind
    intro i hi
    by_cases y : i = n
    · rw [y]; grind
    · exact ih (fun i hi => h i (by omega)) z1 i (by omega)
theorem sg_at {n t : Nat} (ht : t < n) (f : Nat → Rat) : (sg n fun s => f s * (if s = t then 1 else 0)) = f t := by
  rw [sg_one ht fun i _ hi => by rw [if_neg hi]; grind, if_pos rfl]
  grind
/-- units of rows of a kind: q with both signs, w with one difference; dE the differences of a row with one 1 -/
structure Units (m q w : Nat) (U dE : Nat → Nat → Rat) : Prop where
  neg : ∀ j, j < q → ∀ t, t < m → U (2 * j + 1) t = -U (2 * j) t
  ex : ∀ t, t < m → ∃ a : Nat → Rat, ∀ s, s < m → (if s = t then 1 else 0) = sg q (fun j => a j * U (2 * j) s) + sg w (fun k => dE k t * U (2 * q + k) s)
  kd : ∀ c, c < 2 * q + w → ∀ k, k < w → 0 ≤ sg m fun t => dE k t * U c t
section
variable {m q w r : Nat} {U dE : Nat → Nat → Rat} {p : Nat → Nat} {v W : Nat → Rat}
theorem Units.pw (u : Units m q w U dE) {z : Nat → Rat} (h : ∀ c, c < 2 * q + w → 0 ≤ sg m fun s => z s * U c s) {j : Nat} (hj : j < q) : (sg m fun s => z s * U (2 * j) s) = 0 := by
  have h1 := h (2 * j) (by omega)
  have h2 := h (2 * j + 1) (by omega)
  have e : (sg m fun s => z s * U (2 * j + 1) s) = -(sg m fun s => z s * U (2 * j) s) := by
    rw [sg_congr (g := fun s => (-1) * (z s * U (2 * j) s)) fun s hs => by rw [u.neg j hj s hs]; grind, sg_mul]
    grind
  rw [e] at h2
  grind
theorem Units.fac (u : Units m q w U dE) {z : Nat → Rat} (h : ∀ c, c < 2 * q + w → 0 ≤ sg m fun s => z s * U c s) {t : Nat} (ht : t < m) : z t = sg w fun k => (sg m fun s => z s * U (2 * q + k) s) * dE k t := by
  obtain ⟨a, ha⟩ := u.ex t ht
  have e0 : z t = sg m fun s => sg q (fun j => a j * (z s * U (2 * j) s)) + sg w (fun k => dE k t * (z s * U (2 * q + k) s)) := by
    rw [← sg_at ht z]
    refine sg_congr fun s hs => ?_
    rw [ha s hs]
    have e1 : sg q (fun j => a j * (z s * U (2 * j) s)) = z s * sg q (fun j => a j * U (2 * j) s) := by
      rw [← sg_mul]
      exact sg_congr fun j _ => by grind
    have e2 : sg w (fun k => dE k t * (z s * U (2 * q + k) s)) = z s * sg w (fun k => dE k t * U (2 * q + k) s) := by
      rw [← sg_mul]
      exact sg_congr fun j _ => by grind
    rw [e1, e2]
    grind
  rw [e0, sg_add, sg_swap, sg_swap m w]
  have z1 : (sg q fun j => sg m fun s => a j * (z s * U (2 * j) s)) = 0 := sg_zero fun j hj => by
    rw [sg_mul, u.pw h hj]
    grind
  rw [z1]
  have : (sg w fun k => sg m fun s => dE k t * (z s * U (2 * q + k) s)) = sg w fun k => (sg m fun s => z s * U (2 * q + k) s) * dE k t := sg_congr fun k _ => by
    rw [sg_mul]
    grind
  rw [this]
  grind
theorem Units.none (u : Units m q w U dE) {z : Nat → Rat} (h : ∀ c, c < 2 * q + w → (sg m fun s => z s * U c s) = 0) {t : Nat} (ht : t < m) : z t = 0 := by
  rw [u.fac (z := z) (fun c hc => by rw [h c hc]; exact Rat.le_refl) ht]
  exact sg_zero fun k hk => by rw [h _ (by omega)]; grind
/-- counts at places, as weights -/
def spot (r : Nat) (p : Nat → Nat) (y : Nat → Rat) (t : Nat) : Rat := sg r fun i => if p i = t then y i else 0
theorem spot_told (hp : ∀ i, i < r → p i < m) (y f : Nat → Rat) : (sg m fun t => spot r p y t * f t) = sg r fun i => y i * f (p i) := by
  have e : (sg m fun t => spot r p y t * f t) = sg m fun t => sg r fun i => f t * (if p i = t then y i else 0) := sg_congr fun t _ => by
    unfold spot
    rw [← sg_mulr]
    exact sg_congr fun i _ => by grind
  rw [e, sg_swap]
  refine sg_congr fun i hi => ?_
  rw [pick _ (hp i hi)]
  grind
theorem spot_at (inj : ∀ i k, i < r → k < r → p i = p k → i = k) (y : Nat → Rat) {i : Nat} (hi : i < r) : spot r p y (p i) = y i := by
  unfold spot
  rw [sg_one hi fun k hk hne => if_neg fun z => hne (inj k i hk hi z), if_pos rfl]
/-- a difference of a row -/
def dif (m : Nat) (dE : Nat → Nat → Rat) (x : Nat → Rat) (k : Nat) : Rat := sg m fun t => dE k t * x t
structure RowOk (m w r : Nat) (dE : Nat → Nat → Rat) (p : Nat → Nat) (v x : Nat → Rat) : Prop where
  kd : ∀ k, k < w → 0 ≤ dif m dE x k
  at_ : ∀ i, i < r → x (p i) = v i
structure CtsOk (m w r : Nat) (dE : Nat → Nat → Rat) (p : Nat → Nat) (W y f : Nat → Rat) : Prop where
  pos : ∀ k, k < w → 0 ≤ f k
  eq : ∀ t, t < m → spot r p y t + (sg w fun k => f k * dE k t) = W t
/-- what counts tell of a row -/
theorem CtsOk.told {y f x : Nat → Rat} (h : CtsOk m w r dE p W y f) (hp : ∀ i, i < r → p i < m) : (sg m fun t => W t * x t) = (sg r fun i => y i * x (p i)) + sg w fun k => f k * dif m dE x k := by
  have e : (sg m fun t => W t * x t) = sg m fun t => spot r p y t * x t + sg w fun k => f k * (dE k t * x t) := sg_congr fun t ht => by
    rw [← h.eq t ht]
    have : (sg w fun k => f k * (dE k t * x t)) = (sg w fun k => f k * dE k t) * x t := by
      rw [← sg_mulr]
      exact sg_congr fun k _ => by grind
    rw [this]
    grind
  rw [e, sg_add, spot_told hp, sg_swap]
  congr 1
  refine sg_congr fun k _ => ?_
  unfold dif
  rw [← sg_mul]
/-- weak duality -/
theorem CtsOk.le {y f x : Nat → Rat} (h : CtsOk m w r dE p W y f) (hp : ∀ i, i < r → p i < m) (hx : RowOk m w r dE p v x) : (sg r fun i => y i * v i) ≤ sg m fun t => W t * x t := by
  rw [h.told hp]
  have e : (sg r fun i => y i * x (p i)) = sg r fun i => y i * v i := sg_congr fun i hi => by rw [hx.at_ i hi]
  have n : 0 ≤ sg w fun k => f k * dif m dE x k := sg_nonneg fun k hk => Rat.mul_nonneg (h.pos k hk) (hx.kd k hk)
  rw [e]
  grind
/-- a sum of units -/
def mix (M : Nat) (U : Nat → Nat → Rat) (x : Nat → Rat) (t : Nat) : Rat := sg M fun c => x c * U c t
theorem mix_told (M : Nat) (f x : Nat → Rat) : (sg m fun t => f t * mix M U x t) = sg M fun c => (sg m fun t => f t * U c t) * x c := by
  have e : (sg m fun t => f t * mix M U x t) = sg m fun t => sg M fun c => f t * U c t * x c := sg_congr fun t _ => by
    unfold mix
    rw [← sg_mul]
    exact sg_congr fun c _ => by grind
  rw [e, sg_swap]
  exact sg_congr fun c _ => by rw [sg_mulr]
theorem Units.mix_kd (u : Units m q w U dE) {x : Nat → Rat} (hx : ∀ c, c < 2 * q + w → 0 ≤ x c) : ∀ k, k < w → 0 ≤ dif m dE (mix (2 * q + w) U x) k := fun k hk => by
  unfold dif
  rw [mix_told]
  exact sg_nonneg fun c hc => Rat.mul_nonneg (u.kd c hc k hk) (hx c hc)
/-- a row of the kind is never below where all units are not -/
theorem Units.all (u : Units m q w U dE) {x : Nat → Rat} (hW : ∀ c, c < 2 * q + w → 0 ≤ sg m fun s => W s * U c s) (hx : ∀ k, k < w → 0 ≤ dif m dE x k) : 0 ≤ sg m fun t => W t * x t := by
  have e : (sg m fun t => W t * x t) = sg m fun t => sg w fun k => (sg m fun s => W s * U (2 * q + k) s) * (dE k t * x t) := sg_congr fun t ht => by
    rw [u.fac hW ht, ← sg_mulr]
    exact sg_congr fun k _ => by grind
  rw [e, sg_swap]
  refine sg_nonneg fun k hk => ?_
  rw [sg_mul]
  exact Rat.mul_nonneg (hW _ (by omega)) (hx k hk)
end
end Lp
def tab0 (M r : Nat) (sn v : Nat → Rat) (a : Nat → Nat → Rat) : Lp.St where
  L := fun i j => if j < M then sn i * a i j else if j < M + r then (if j - M = i then 1 else 0) else sn i * v i
  b := fun i => M + i
def sg0 (v : Nat → Rat) (i : Nat) : Rat := if v i < 0 then -1 else 1
theorem sg0_sq (v : Nat → Rat) (i : Nat) : sg0 v i * sg0 v i = 1 := by
  unfold sg0
  split <;> grind
namespace Lp
section
variable {M m q w r : Nat} {U dE : Nat → Nat → Rat} {p : Nat → Nat} {v W : Nat → Rat} {a : Nat → Nat → Rat} {sn : Nat → Rat}
theorem tab0_lo {i j : Nat} (hj : j < M) : (tab0 M r sn v a).L i j = sn i * a i j := if_pos hj
theorem tab0_own {i k : Nat} (hk : k < r) : (tab0 M r sn v a).L i (M + k) = if k = i then 1 else 0 := by
  show (if M + k < M then _ else if M + k < M + r then (if M + k - M = i then 1 else 0) else _) = _
  rw [if_neg (by omega), if_pos (by omega), Nat.add_sub_cancel_left]
theorem tab0_val {i : Nat} : (tab0 M r sn v a).L i (M + r) = sn i * v i := by
  show (if M + r < M then _ else if M + r < M + r then _ else _) = _
  rw [if_neg (by omega), if_neg (by omega)]
theorem tab0_inv : Inv (tab0 M r sn v a).L r (M + r) (tab0 M r sn v a) where
  lt := fun i hi => by show M + i < M + r; omega
  ab := fun i j hi hj => by
    show _ = sg r fun k => (tab0 M r sn v a).L i (M + k) * (tab0 M r sn v a).L k j
    rw [sg_one hi fun k hk hne => by rw [tab0_own hk, if_neg hne]; grind, tab0_own hi, if_pos rfl]
    grind
  id := fun k k' hk hk' => by
    show (tab0 M r sn v a).L k (M + k') = _
    rw [tab0_own hk']
    by_cases z : k = k'
    · rw [if_pos z, if_pos z.symm]
    · rw [if_neg z, if_neg (Ne.symm z)]
  la := fun k j hk hj => by
    rw [show M + r - r = M by omega, sg_one hk fun i hi hne => by rw [tab0_own hi, if_neg hne]; grind, tab0_own hk, if_pos rfl]
    grind
theorem tab0_feas {i : Nat} : 0 ≤ (tab0 M r (sg0 v) v a).L i (M + r) := by
  rw [tab0_val]
  unfold sg0
  split <;> grind
/-- the table for seen places -/
abbrev T0 (q w r : Nat) (U : Nat → Nat → Rat) (p : Nat → Nat) (v : Nat → Rat) : St := tab0 (2 * q + w) r (sg0 v) v fun i c => U c (p i)
def yy (q w r : Nat) (v c : Nat → Rat) (s : St) (i : Nat) : Rat := sg0 v i * dual r (2 * q + w + r) c s i
theorem red_y {c : Nat → Rat} {s : St} (h : Inv (T0 q w r U p v).L r (2 * q + w + r) s) {j : Nat} (hj : j < 2 * q + w) : red r c s j = c j - sg r fun i => yy q w r v c s i * U j (p i) := by
  rw [h.red_dual (by omega)]
  congr 1
  refine sg_congr fun i _ => ?_
  rw [tab0_lo hj]
  unfold yy
  grind
theorem worth_y {c : Nat → Rat} {s : St} (h : Inv (T0 q w r U p v).L r (2 * q + w + r) s) : worth r (2 * q + w + r) c s = sg r fun i => yy q w r v c s i * v i := by
  rw [h.worth_dual]
  refine sg_congr fun i _ => ?_
  rw [tab0_val]
  unfold yy
  grind
/-- what is left of weights -/
def left (r : Nat) (p : Nat → Nat) (W y : Nat → Rat) (t : Nat) : Rat := W t - spot r p y t
theorem left_told (hp : ∀ i, i < r → p i < m) (y f : Nat → Rat) : (sg m fun t => left r p W y t * f t) = (sg m fun t => W t * f t) - sg r fun i => y i * f (p i) := by
  rw [← spot_told hp, ← sg_sub]
  exact sg_congr fun t _ => by unfold left; grind
def facs (m q r : Nat) (U : Nat → Nat → Rat) (p : Nat → Nat) (W y : Nat → Rat) (k : Nat) : Rat := sg m fun t => left r p W y t * U (2 * q + k) t
theorem cts_of (u : Units m q w U dE) (hp : ∀ i, i < r → p i < m) {c : Nat → Rat} (hc : ∀ j, j < 2 * q + w → c j = sg m fun t => W t * U j t) {s : St} (h : Inv (T0 q w r U p v).L r (2 * q + w + r) s) (hr : ∀ j, j < 2 * q + w → 0 ≤ red r c s j) :
    CtsOk m w r dE p W (yy q w r v c s) (facs m q r U p W (yy q w r v c s)) := by
  have hl : ∀ j, j < 2 * q + w → 0 ≤ sg m fun t => left r p W (yy q w r v c s) t * U j t := fun j hj => by
    rw [left_told hp, ← hc j hj, ← red_y h hj]
    exact hr j hj
  refine ⟨fun k hk => hl _ (by omega), fun t ht => ?_⟩
  have := u.fac hl ht
  unfold facs
  rw [← this]
  unfold left
  grind
theorem no_fall {c : Nat → Rat} {A : Nat → Nat → Rat} {s : St} (h : Inv A r m s) (hc : ∀ j, j < m → 0 ≤ c j) {e : Nat} (he : e < m) (hf : ∀ i, i < r → s.L i e ≤ 0) : ¬ red r c s e < 0 := fun z => by
  have := h.way_cost (c := c) he
  have n : 0 ≤ sg m fun j => c j * way r s e j := sg_nonneg fun j hj => Rat.mul_nonneg (hc j hj) (way_nonneg hf j)
  grind
/-- costs of the first way down -/
def c1 (M j : Nat) : Rat := if j < M then 0 else 1
theorem worth1 {A : Nat → Nat → Rat} {s : St} (h : Inv A r m s) (hf : ∀ i, i < r → 0 ≤ s.L i m) : 0 ≤ worth r m (c1 M) s ∧ (worth r m (c1 M) s = 0 → ∀ i, i < r → s.b i < M ∨ s.L i m = 0) := by
  have t : ∀ k, k < r → 0 ≤ c1 M (s.b k) * s.L k m := fun k hk => Rat.mul_nonneg (by unfold c1; split <;> grind) (hf k hk)
  refine ⟨sg_nonneg t, fun z i hi => ?_⟩
  have := sg_zero_each t z i hi
  unfold c1 at this
  split at this
  · rename_i y; exact .inl y
  · exact .inr (by grind)
theorem indep_tab (u : Units m q w U dE) (hp : ∀ i, i < r → p i < m) (inj : ∀ i k, i < r → k < r → p i = p k → i = k) {y : Nat → Rat} (h : ∀ j, j < 2 * q + w → (sg r fun i => y i * (T0 q w r U p v).L i j) = 0) : ∀ i, i < r → y i = 0 := fun i hi => by
  have z := u.none (z := spot r p fun i => y i * sg0 v i) (fun c hc => by
    rw [spot_told hp, ← h c hc]
    refine sg_congr fun i _ => ?_
    rw [tab0_lo hc]
    grind) (hp i hi)
  rw [spot_at inj _ hi] at z
  have := sg0_sq v i
  grind
theorem sum_lo {f : Nat → Rat} (h : ∀ k, k < r → f (M + k) = 0) : sg (M + r) f = sg M f := by
  induction r with
  | zero => rfl
  | succ r ih =>
    show sg (M + r) f + f (M + r) = _
    rw [ih fun k hk => h k (by omega), h r (by omega)]
    grind
theorem row_vals (u : Units m q w U dE) (hp : ∀ i, i < r → p i < m) {s : St} (h : Inv (T0 q w r U p v).L r (2 * q + w + r) s) (hf : ∀ i, i < r → 0 ≤ s.L i (2 * q + w + r)) (hb : ∀ i, i < r → s.b i < 2 * q + w) :
    RowOk m w r dE p v (mix (2 * q + w) U (vals r (2 * q + w + r) s)) := by
  refine ⟨u.mix_kd fun c _ => vals_nonneg hf c, fun i hi => ?_⟩
  have e := h.vals_eq hi
  rw [tab0_val, sum_lo fun k hk => by rw [vals_off fun t ht => by have := hb t ht; omega]; grind] at e
  have e2 : (sg (2 * q + w) fun j => (T0 q w r U p v).L i j * vals r (2 * q + w + r) s j) = sg0 v i * mix (2 * q + w) U (vals r (2 * q + w + r) s) (p i) := by
    unfold mix
    rw [← sg_mul]
    refine sg_congr fun j hj => ?_
    rw [tab0_lo hj]
    grind
  rw [e2] at e
  have := sg0_sq v i
  grind
theorem row_way (u : Units m q w U dE) (hp : ∀ i, i < r → p i < m) {s : St} (h : Inv (T0 q w r U p v).L r (2 * q + w + r) s) {e : Nat} (he : e < 2 * q + w) (hf : ∀ i, i < r → s.L i e ≤ 0) (hb : ∀ i, i < r → s.b i < 2 * q + w) :
    RowOk m w r dE p (fun _ => 0) (mix (2 * q + w) U (way r s e)) := by
  refine ⟨u.mix_kd fun c _ => way_nonneg hf c, fun i hi => ?_⟩
  have e1 := h.way_eq (show e < 2 * q + w + r by omega) hi
  rw [sum_lo fun k hk => by rw [way_off (fun t ht => by have := hb t ht; omega) (by omega)]; grind] at e1
  have e2 : (sg (2 * q + w) fun j => (T0 q w r U p v).L i j * way r s e j) = sg0 v i * mix (2 * q + w) U (way r s e) (p i) := by
    unfold mix
    rw [← sg_mul]
    refine sg_congr fun j hj => ?_
    rw [tab0_lo hj]
    grind
  rw [e2] at e1
  have := sg0_sq v i
  grind
theorem told_vals {c : Nat → Rat} (hc : ∀ j, j < 2 * q + w → c j = sg m fun t => W t * U j t) {s : St} (h : Inv (T0 q w r U p v).L r (2 * q + w + r) s) (hb : ∀ i, i < r → s.b i < 2 * q + w) : (sg m fun t => W t * mix (2 * q + w) U (vals r (2 * q + w + r) s) t) = sg r fun i => yy q w r v c s i * v i := by
  rw [mix_told, ← worth_y h, ← h.vals_worth, sum_lo (M := 2 * q + w) (r := r) fun k hk => by rw [vals_off fun t ht => by have := hb t ht; omega]; grind]
  exact sg_congr fun j hj => by rw [hc j hj]
theorem told_way {c : Nat → Rat} (hc : ∀ j, j < 2 * q + w → c j = sg m fun t => W t * U j t) {s : St} (h : Inv (T0 q w r U p v).L r (2 * q + w + r) s) (hb : ∀ i, i < r → s.b i < 2 * q + w) {e : Nat} (he : e < 2 * q + w) : (sg m fun t => W t * mix (2 * q + w) U (way r s e) t) = red r c s e := by
  rw [mix_told, ← h.way_cost (c := c) (show e < 2 * q + w + r by omega), sum_lo (M := 2 * q + w) (r := r) fun k hk => by rw [way_off (fun t ht => by have := hb t ht; omega) (by omega)]; grind]
  exact sg_congr fun j hj => by rw [hc j hj]
end
end Lp
end Bk
namespace Bk
open PySem L2
open Lp in
def rgD (n : Nat) (f : Nat → D) : List D := (List.range n).map f
theorem rgD_len (n : Nat) (f : Nat → D) : (rgD n f).length = n := by unfold rgD; rw [List.length_map, List.length_range]
theorem rgD_get {n : Nat} (f : Nat → D) {i : Nat} (h : i < n) : (rgD n f)[i]? = some (f i) := by
  unfold rgD
  rw [List.getElem?_map, List.getElem?_range h]
  rfl
theorem rgD_at {n : Nat} (f : Nat → D) {i : Nat} (h : i < n) : atI (rgD n f) (i : Int) = some (f i) := by
  rw [atI_nat _ _ (by rw [rgD_len]; exact h)]
  exact rgD_get f h
theorem rgD_ix {n : Nat} (f : Nat → D) {i : Nat} (h : i < n) : opIx (.lst (rgD n f)) (.int (i : Int)) = some (.im (f i)) := by
  show (atI (rgD n f) (i : Int)).map R.im = _
  rw [rgD_at f h]
  rfl
theorem rgD_last (n : Nat) (f : Nat → D) : opIx (.lst (rgD (n + 1) f)) (.int (-1)) = some (.im (f n)) := by
  have e : atI (rgD (n + 1) f) (-1) = some (f n) := by
    unfold atI ixN
    rw [rgD_len, if_neg (by decide), if_pos (by omega)]
    show (rgD (n + 1) f)[((-1 : Int) + ((n + 1 : Nat) : Int)).toNat]? = _
    rw [show ((-1 : Int) + ((n + 1 : Nat) : Int)).toNat = n by omega]
    exact rgD_get f (Nat.lt_succ_self n)
  show (atI (rgD (n + 1) f) (-1)).map R.im = _
  rw [e]
  rfl
theorem rgD_zip (n : Nat) (f g : Nat → D) : ((rgD n f).zip (rgD n g)).map (fun p => D.tup [p.1, p.2]) = (List.range n).map fun i => D.tup [f i, g i] := by
  unfold rgD
  rw [List.zip_map', List.map_map]
  rfl
theorem sumQ_rg (n : Nat) (f : Nat → Rat) : sumQ ((List.range n).map f) = Lp.sg n f := by
  induction n with
  | zero => rfl
  | succ n ih =>
    rw [List.range_succ, List.map_append, sumQ_app, ih]
    show _ + sumQ [f n] = Lp.sg n f + f n
    rw [sumQ_cons, sumQ_nil]
    grind
def LD (r m : Nat) (s : Lp.St) : D := .lst (rgD r fun i => .lst (rgD (m + 1) fun j => vq (s.L i j)))
def BD (r : Nat) (s : Lp.St) : List D := rgD r fun i => .int (s.b i)
def TD (M r m : Nat) (sn : Nat → Rat) (s : Lp.St) : List D := [.int (M : Int), .int (r : Int), .lst (rgD r fun i => vq (sn i)), LD r m s]
def TT9 (M r m : Nat) (sn : Nat → Rat) (s : Lp.St) : D := tabD (TD M r m sn s) (BD r s)
def CD (m : Nat) (c : Nat → Rat) : D := .lst (rgD m fun j => vq (c j))
/-- sizes of a table and of costs -/
structure TOk9 (r m k : Nat) (s : Lp.St) : Prop where
  h : ∀ i j, i < r → j ≤ m → Ht (s.L i j) k
  b : ∀ i, i < r → s.b i < m
section
variable {M r m k l : Nat} {sn : Nat → Rat} {s : Lp.St} {c : Nat → Rat}
theorem xforL_app9 {tg : D → Gam → Option Gam} {b : MS} {f g : Nat → D} (St : List D → Gam → Prop) : ∀ {n : Nat} {G : Gam}, St [] G → (∀ i G, i < n → St (rgD i g) G → ∃ G1 G2, tg (f i) G = some G1 ∧ b G1 = some (.nx, G2) ∧ St (rgD (i + 1) g) G2) → ∃ G', xforL tg b (rgD n f) G = some (.nx, G') ∧ St (rgD n g) G' := fun {n} => by
  have key : ∀ (d a : Nat) (G : Gam), a + d = n → St (rgD a g) G → (∀ i G, i < n → St (rgD i g) G → ∃ G1 G2, tg (f i) G = some G1 ∧ b G1 = some (.nx, G2) ∧ St (rgD (i + 1) g) G2) → ∃ G', xforL tg b ((List.range' a d).map f) G = some (.nx, G') ∧ St (rgD n g) G' := fun d => by
    induction d with
    | zero =>
      intro a G e h _
      have : a = n := by omega
      subst this
      exact ⟨G, rfl, h⟩
    | succ d ih =>
      intro a G e h st
      obtain ⟨G1, G2, h1, h2, h3⟩ := st a G (by omega) h
      obtain ⟨G', h4, h5⟩ := ih (a + 1) G2 (by omega) h3 st
      refine ⟨G', ?_, h5⟩
      rw [List.range'_succ, List.map_cons]
      exact (xforL_nx h1 h2).trans h4
  intro G h st
  obtain ⟨G', h1, h2⟩ := key n 0 G (by omega) h st
  refine ⟨G', ?_, h2⟩
  unfold rgD
  rw [List.range_eq_range']
  exact h1
theorem rng_rgD (n : Nat) : rng 0 n = rgD n fun i => .int (i : Int) := by
  unfold rng rgD
  refine List.map_congr_left fun i _ => ?_
  rw [Int.zero_add]
theorem rgD_snoc (n : Nat) (g : Nat → D) : rgD n g ++ [g n] = rgD (n + 1) g := by
  unfold rgD
  rw [List.range_succ, List.map_append]
  rfl
theorem v_costs_left (t : TOk9 r m k s) (hm : m = M + r) (hc : ∀ j, j < m → Ht (c j) l) (m9 : m ≤ 1000) (r9 : r ≤ 20) (kl : k + l ≤ 300) : r_Table_costs_left [TT9 M r m sn s, CD m c] = some (.ol (rgD m fun j => vq (Lp.red r c s j))) := by
  have saved : ∀ j, j < m → Ht (Lp.sg r fun i => c (s.b i) * s.L i j) (1 + r * (l + k + 1)) := fun j hj => by
    rw [← sumQ_rg]
    have := sumQ_ht (k := l + k) (qs := (List.range r).map fun i => c (s.b i) * s.L i j) fun q hq => by
      obtain ⟨i, hi, rfl⟩ := List.mem_map.mp hq
      have hi := List.mem_range.mp hi
      exact (hc _ (t.b i hi)).mul (t.h i j hi (Nat.le_of_lt hj))
    rwa [List.length_map, List.length_range] at this
  have rb : r * (l + k + 1) ≤ 20 * 301 := Nat.mul_le_mul r9 (by omega)
  obtain ⟨T, hT⟩ : ∃ T, T = TT9 M r m sn s := ⟨_, rfl⟩
  have f4 : ∀ {G : Gam}, G[0]? = some (.im T) → xfld 5 4 (xv 0) G = some (.im (.lst (BD r s)), G) := fun {G} h => by
    refine xfld_ok (r := .im T) (by unfold xv; rw [h]) (by rw [hT]; rfl) rfl
  have f3 : ∀ {G : Gam}, G[0]? = some (.im T) → xfld 5 3 (xv 0) G = some (.im (LD r m s), G) := fun {G} h => xfld_ok (r := .im T) (by unfold xv; rw [h]) (by rw [hT]; rfl) rfl
  have f1 : ∀ {G : Gam}, G[0]? = some (.im T) → xfld 5 1 (xv 0) G = some (.im (.int (r : Int)), G) := fun {G} h => xfld_ok (r := .im T) (by unfold xv; rw [h]) (by rw [hT]; rfl) rfl
  have f0 : ∀ {G : Gam}, G[0]? = some (.im T) → xfld 5 0 (xv 0) G = some (.im (.int (M : Int)), G) := fun {G} h => xfld_ok (r := .im T) (by unfold xv; rw [h]) (by rw [hT]; rfl) rfl
  rw [← hT]
  have row : ∀ (j : Nat) (x4 : Ent) (out : List D), j < m → (x4 = .un ∨ ∃ d, x4 = .im d) → ∃ d4, b_Table_costs_left_1 [.im T, .im (CD m c), .ol out, .im (.int (j : Int)), x4, .un, .un] = some (.nx, [.im T, .im (CD m c), .ol (out ++ [vq (Lp.red r c s j)]), .im (.int (j : Int)), .im d4, .un, .un]) ∨ 100000 < out.length := fun j x4 out hj hx4 => by
    by_cases ho : 100000 < out.length
    · exact ⟨.non, .inr ho⟩
    refine ⟨vq (Lp.sg r fun i => c (s.b i) * s.L i j), .inl ?_⟩
    have lc : xlc (xzipA (xcons (xfld 5 4 (xv 0)) (xcons (xfld 5 3 (xv 0)) xnil))) (tgt [(tgn 5), (tgn 6)]) xtyes (xcall r_multiplied (xcons (xop opIx (xv 1) (xv 5)) (xcons (xop opIx (xv 6) (xv 3)) xnil))) [5, 6] [.im T, .im (CD m c), .ol out, .im (.int (j : Int)), x4, .un, .un] = some (.ol ((List.range r).map fun i => vq (c (s.b i) * s.L i j)), [.im T, .im (CD m c), .ol out, .im (.int (j : Int)), x4, .un, .un]) := by
      refine xlc_un (xzip_ok (xc1 (f4 rfl) (xc1 (f3 rfl) xnil_ok)) rfl rfl) rfl rfl rfl ?_ (by rw [List.length_map, List.length_range]; omega)
      unfold BD
      rw [rgD_zip]
      refine xlcL_en (fun i => vq (c (s.b i) * s.L i j)) fun i hi => ?_
      have hi := List.mem_range.mp hi
      exact ⟨_, _, _, rfl, xcall_ok (xc1 (xo2 rfl rfl (rgD_ix _ (t.b i hi))) (xc1 (xo2 rfl rfl (rgD_ix _ (by omega))) xnil_ok)) (v_multiplied (hc _ (t.b i hi)) (t.h i j hi (Nat.le_of_lt hj)) (by omega)), rfl, rfl⟩
    have sm : r_summed [.lst ((List.range r).map fun i => vq (c (s.b i) * s.L i j))] = some (.im (vq (Lp.sg r fun i => c (s.b i) * s.L i j))) := by
      have := v_summed (d := .lst ((List.range r).map fun i => vq (c (s.b i) * s.L i j))) (qs := (List.range r).map fun i => c (s.b i) * s.L i j) (k := l + k) (by rw [List.map_map]; rfl) (fun q hq => by
        obtain ⟨i, hi, rfl⟩ := List.mem_map.mp hq
        have hi := List.mem_range.mp hi
        exact (hc _ (t.b i hi)).mul (t.h i j hi (Nat.le_of_lt hj))) (by rw [List.length_map, List.length_range]; omega)
      rw [sumQ_rg] at this
      exact this
    have s4 : (xset 4 (xcall r_summed (xcons (xlc (xzipA (xcons (xfld 5 4 (xv 0)) (xcons (xfld 5 3 (xv 0)) xnil))) (tgt [(tgn 5), (tgn 6)]) xtyes (xcall r_multiplied (xcons (xop opIx (xv 1) (xv 5)) (xcons (xop opIx (xv 6) (xv 3)) xnil))) [5, 6]) xnil))) [.im T, .im (CD m c), .ol out, .im (.int (j : Int)), x4, .un, .un] = some (.nx, [.im T, .im (CD m c), .ol out, .im (.int (j : Int)), .im (vq (Lp.sg r fun i => c (s.b i) * s.L i j)), .un, .un]) := xset_e (xcall_ok (xcw lc xnil_ok) sm) rfl
    unfold b_Table_costs_left_1
    rw [xseq_nx s4]
    exact xapp_ok (bs := out) rfl (xcall_ok (xc1 (xo2 rfl rfl (rgD_ix _ hj)) (xc1 rfl xnil_ok)) (v_less_by (hc j hj) (saved j hj) (by omega))) rfl rfl (by omega) rfl
  obtain ⟨G', g1, x3, x4, _, rfl⟩ := xforL_app9 (tg := tgn 3) (b := b_Table_costs_left_1) (f := fun j => .int (j : Int)) (g := fun j => vq (Lp.red r c s j)) (fun out G => ∃ x3 x4, (x4 = .un ∨ ∃ d, x4 = .im d) ∧ G = [Ent.im T, .im (CD m c), .ol out, x3, x4, .un, .un]) (n := m) (G := [.im T, .im (CD m c), .ol [], .un, .un, .un, .un]) ⟨_, _, .inl rfl, rfl⟩ (fun j G hj hG => by
    obtain ⟨x3, x4, hx4, rfl⟩ := hG
    obtain ⟨d4, h | h⟩ := row j x4 _ hj hx4
    · rw [rgD_snoc j fun j => vq (Lp.red r c s j)] at h
      exact ⟨_, _, rfl, h, _, _, .inr ⟨_, rfl⟩, rfl⟩
    · rw [rgD_len] at h
      omega)
  refine runF_st rfl ?_
  refine st_nx (G1 := [.im T, .im (CD m c), .ol [], .un, .un, .un, .un]) (xset_e (xlst_ok xnil_ok rfl) rfl) ?_
  refine st_nx (by
    refine xfor_ok (xrange1_ok (n := ((M + r : Nat) : Int)) (xc1 (xo2 (x := .int (M : Int)) (y := .int (r : Int)) (f0 rfl) (f1 rfl) rfl) xnil_ok) (okR_of (by omega) (by omega))) ?_
    rw [show (((M + r : Nat) : Int)).toNat = m by omega, rng_rgD]
    exact g1) ?_
  exact st_ret rfl
end
end Bk
namespace Bk
open PySem L2
section
variable {M r m k l : Nat} {sn : Nat → Rat} {s : Lp.St} {c : Nat → Rat}
theorem enumD_rg (n : Nat) (f : Nat → D) : enumD 0 (rgD n f) = rgD n fun i => .tup [.int (i : Int), f i] := by
  have key : ∀ (d a : Nat), enumD a ((List.range' a d).map f) = (List.range' a d).map fun i => .tup [.int (i : Int), f i] := fun d => by
    induction d with
    | zero => exact fun _ => rfl
    | succ d ih =>
      intro a
      rw [List.range'_succ, List.map_cons, List.map_cons, ← ih (a + 1)]
      rfl
  unfold rgD
  rw [List.range_eq_range']
  exact key n 0
/-- what place_for gives -/
def PlR (r m : Nat) (s : Lp.St) (e n : Nat) (d : D) : Prop := (d = .non ∧ ∀ i, i < n → s.L i e ≤ 0) ∨ ∃ p : Nat, d = .int (p : Int) ∧ p < n ∧ 0 < s.L p e ∧ (∀ i, i < n → 0 < s.L i e → s.L p m / s.L p e ≤ s.L i m / s.L i e) ∧ ∀ i, i < n → 0 < s.L i e → s.L p m / s.L p e = s.L i m / s.L i e → s.b p ≤ s.b i
theorem eq_vq9 (a b : Rat) : opEq (vq a) (vq b) = some (.im (.bl (decide (a = b)))) := by
  unfold opEq
  rw [eqv_vq]
theorem v_place_for (t : TOk9 r m k s) {e : Nat} (he : e ≤ m) (r9 : r ≤ 20) (hk : k ≤ 300) : ∃ d, r_Table_place_for [TT9 M r m sn s, .int (e : Int)] = some (.im d) ∧ PlR r m s e r d := by
  obtain ⟨T, hT⟩ : ∃ T, T = TT9 M r m sn s := ⟨_, rfl⟩
  have f4 : ∀ {G : Gam}, G[0]? = some (.im T) → xfld 5 4 (xv 0) G = some (.im (.lst (BD r s)), G) := fun {G} h => xfld_ok (r := .im T) (by unfold xv; rw [h]) (by rw [hT]; rfl) rfl
  have f3 : ∀ {G : Gam}, G[0]? = some (.im T) → xfld 5 3 (xv 0) G = some (.im (LD r m s), G) := fun {G} h => xfld_ok (r := .im T) (by unfold xv; rw [h]) (by rw [hT]; rfl) rfl
  rw [← hT]
  let line : Nat → D := fun i => .lst (rgD (m + 1) fun j => vq (s.L i j))
  let St : Nat → Gam → Prop := fun n G => ∃ d x3 x4 x5 x6 x7, PlR r m s e n d ∧ (∀ p : Nat, d = .int (p : Int) → x3 = vq (s.L p m / s.L p e)) ∧ G = [Ent.im T, .im (.int (e : Int)), .im d, .im x3, x4, x5, x6, x7]
  have step : ∀ i G, i < r → St i G → ∃ G1 G2, tgt [(tgn 4), (tgn 5)] (.tup [.int (i : Int), line i]) G = some G1 ∧ b_Table_place_for_1 G1 = some (.nx, G2) ∧ St (i + 1) G2 := fun i G hi hG => by
    obtain ⟨d, x3, x4, x5, x6, x7, hd, h3, rfl⟩ := hG
    have hle := t.h i e hi he
    have hlm := t.h i m hi (Nat.le_refl _)
    have te : xtru (xcall r_is_less (xcons (xc c_NOUGHT) (xcons (xop opIx (xv 5) (xv 1)) xnil))) [.im T, .im (.int (e : Int)), .im d, .im x3, .im (.int (i : Int)), .im (line i), x6, x7] = some (decide (0 < s.L i e), [.im T, .im (.int (e : Int)), .im d, .im x3, .im (.int (i : Int)), .im (line i), x6, x7]) :=
      xtrub (xcall_ok (xc1 (d := vq 0) rfl (xc1 (xo2 rfl rfl (rgD_ix _ (by omega))) xnil_ok)) (v_is_less ht0 hle (by omega)))
    refine ⟨[.im T, .im (.int (e : Int)), .im d, .im x3, .im (.int (i : Int)), .im (line i), x6, x7], ?_⟩
    by_cases pos : 0 < s.L i e
    case neg =>
      rw [decide_eq_false pos] at te
      refine ⟨_, rfl, (xifs_ok te).trans rfl, d, x3, _, _, _, _, ?_, h3, rfl⟩
      rcases hd with ⟨h1, h2⟩ | ⟨p, h1, h2, h4, h5, h6⟩
      · refine .inl ⟨h1, fun j hj => ?_⟩
        by_cases z : j = i
        · rw [z]; exact Rat.not_lt.mp pos
        · exact h2 j (by omega)
      · refine .inr ⟨p, h1, by omega, h4, fun j hj h => ?_, fun j hj h => ?_⟩
        · by_cases z : j = i
          · rw [z] at h; exact absurd h pos
          · exact h5 j (by omega) h
        · by_cases z : j = i
          · rw [z] at h; exact absurd h pos
          · exact h6 j (by omega) h
    case pos =>
      rw [decide_eq_true pos] at te
      have ne : s.L i e ≠ 0 := fun z => by rw [z] at pos; exact absurd pos Rat.lt_irrefl
      obtain ⟨β, hβ⟩ : ∃ β, β = s.L i m / s.L i e := ⟨_, rfl⟩
      have hb : Ht β (k + k) := by rw [hβ]; exact hlm.div hle ne
      have s6 : (xset 6 (xcall r_quotient (xcons (xop opIx (xv 5) (xun unNeg (xc (.int 1)))) (xcons (xop opIx (xv 5) (xv 1)) xnil)))) [.im T, .im (.int (e : Int)), .im d, .im x3, .im (.int (i : Int)), .im (line i), x6, x7] = some (.nx, [.im T, .im (.int (e : Int)), .im d, .im x3, .im (.int (i : Int)), .im (line i), .im (vq β), x7]) := by
        rw [hβ]
        exact xset_e (xcall_ok (xc1 (xo2 (y := .int (-1)) rfl rfl (rgD_last _ _)) (xc1 (xo2 rfl rfl (rgD_ix _ (by omega))) xnil_ok)) (v_quotient hlm hle ne (by omega))) rfl
      -- the one found so far
      have near : ∃ x7' b9, (xset 7 (xvor (xop opIs (xv 2) (xc .non)) (xcall r_is_less (xcons (xv 6) (xcons (xv 3) xnil))))) [.im T, .im (.int (e : Int)), .im d, .im x3, .im (.int (i : Int)), .im (line i), .im (vq β), x7] = some (.nx, [.im T, .im (.int (e : Int)), .im d, .im x3, .im (.int (i : Int)), .im (line i), .im (vq β), .im (.bl x7')]) ∧ (xtor (xtru (xv 7)) (xtand (xtest (xop opEq (xv 6) (xv 3))) (xtest (xop opLt (xop opIx (xfld 5 4 (xv 0)) (xv 4)) (xop opIx (xfld 5 4 (xv 0)) (xv 2)))))) [.im T, .im (.int (e : Int)), .im d, .im x3, .im (.int (i : Int)), .im (line i), .im (vq β), .im (.bl x7')] = some (b9, [.im T, .im (.int (e : Int)), .im d, .im x3, .im (.int (i : Int)), .im (line i), .im (vq β), .im (.bl x7')]) ∧ ((b9 = true ∧ PlR r m s e (i + 1) (.int (i : Int))) ∨ (b9 = false ∧ PlR r m s e (i + 1) d)) := by
        rcases hd with ⟨rfl, h2⟩ | ⟨p, rfl, h2, h4, h5, h6⟩
        · refine ⟨true, true, xset_e (by rfl) rfl, by rfl, .inl ⟨rfl, .inr ⟨i, rfl, by omega, pos, fun j hj h => ?_, fun j hj h _ => ?_⟩⟩⟩
          · by_cases z : j = i
            · rw [z]; exact Rat.le_refl
            · exact absurd h (Rat.not_lt.mpr (h2 j (by omega)))
          · by_cases z : j = i
            · rw [z]; exact Nat.le_refl _
            · exact absurd h (Rat.not_lt.mpr (h2 j (by omega)))
        · have e3 := h3 p rfl
          subst e3
          have np : s.L p e ≠ 0 := fun z => by rw [z] at h4; exact absurd h4 Rat.lt_irrefl
          obtain ⟨α, hα⟩ : ∃ α, α = s.L p m / s.L p e := ⟨_, rfl⟩
          have ha : Ht α (k + k) := by rw [hα]; exact (t.h p m (by omega) (Nat.le_refl _)).div (t.h p e (by omega) he) np
          rw [← hα]
          have w7 : (xset 7 (xvor (xop opIs (xv 2) (xc .non)) (xcall r_is_less (xcons (xv 6) (xcons (xv 3) xnil))))) [.im T, .im (.int (e : Int)), .im (.int (p : Int)), .im (vq α), .im (.int (i : Int)), .im (line i), .im (vq β), x7] = some (.nx, [.im T, .im (.int (e : Int)), .im (.int (p : Int)), .im (vq α), .im (.int (i : Int)), .im (line i), .im (vq β), .im (.bl (decide (β < α)))]) := by
            have v : xvor (xop opIs (xv 2) (xc .non)) (xcall r_is_less (xcons (xv 6) (xcons (xv 3) xnil))) [.im T, .im (.int (e : Int)), .im (.int (p : Int)), .im (vq α), .im (.int (i : Int)), .im (line i), .im (vq β), x7] = some (.im (.bl (decide (β < α))), [.im T, .im (.int (e : Int)), .im (.int (p : Int)), .im (vq α), .im (.int (i : Int)), .im (line i), .im (vq β), x7]) := by
              unfold xvor
              rw [show (xop opIs (xv 2) (xc .non)) [.im T, .im (.int (e : Int)), .im (.int (p : Int)), .im (vq α), .im (.int (i : Int)), .im (line i), .im (vq β), x7] = some (.im (.bl false), [.im T, .im (.int (e : Int)), .im (.int (p : Int)), .im (vq α), .im (.int (i : Int)), .im (line i), .im (vq β), x7]) from rfl]
              show xcall r_is_less (xcons (xv 6) (xcons (xv 3) xnil)) [.im T, .im (.int (e : Int)), .im (.int (p : Int)), .im (vq α), .im (.int (i : Int)), .im (line i), .im (vq β), x7] = _
              exact xcall_ok (xc1 (d := vq β) rfl (xc1 (d := vq α) rfl xnil_ok)) (v_is_less hb ha (by omega))
            exact xset_e v rfl
          have w8 : (xtand (xtest (xop opEq (xv 6) (xv 3))) (xtest (xop opLt (xop opIx (xfld 5 4 (xv 0)) (xv 4)) (xop opIx (xfld 5 4 (xv 0)) (xv 2))))) [.im T, .im (.int (e : Int)), .im (.int (p : Int)), .im (vq α), .im (.int (i : Int)), .im (line i), .im (vq β), .im (.bl (decide (β < α)))] = some (decide (β = α) && decide (s.b i < s.b p), [.im T, .im (.int (e : Int)), .im (.int (p : Int)), .im (vq α), .im (.int (i : Int)), .im (line i), .im (vq β), .im (.bl (decide (β < α)))]) := by
            have l1 : xtest (xop opLt (xop opIx (xfld 5 4 (xv 0)) (xv 4)) (xop opIx (xfld 5 4 (xv 0)) (xv 2))) [.im T, .im (.int (e : Int)), .im (.int (p : Int)), .im (vq α), .im (.int (i : Int)), .im (line i), .im (vq β), .im (.bl (decide (β < α)))] = some (decide (s.b i < s.b p), [.im T, .im (.int (e : Int)), .im (.int (p : Int)), .im (vq α), .im (.int (i : Int)), .im (line i), .im (vq β), .im (.bl (decide (β < α)))]) := by
              refine xtest_ok (xo2 (x := .int (s.b i : Int)) (y := .int (s.b p : Int)) (xo2 (f4 rfl) rfl (rgD_ix _ hi)) (xo2 (f4 rfl) rfl (rgD_ix _ (by omega))) ?_)
              show some (R.im (.bl (decide ((s.b i : Int) < (s.b p : Int))))) = _
              rw [show decide ((s.b i : Int) < (s.b p : Int)) = decide (s.b i < s.b p) from decide_eq_decide.mpr (by omega)]
            unfold xtand
            rw [xtest_ok (xo2 (x := vq β) (y := vq α) rfl rfl (eq_vq9 β α))]
            by_cases z : β = α
            · rw [decide_eq_true z]
              exact l1
            · rw [decide_eq_false z]
              rfl
          have w9 := xtor_b (k := decide (β < α)) (l := decide (β = α) && decide (s.b i < s.b p)) (a := xtru (xv 7)) (by rfl) w8
          refine ⟨decide (β < α), _, w7, w9, ?_⟩
          by_cases z : β < α
          · refine .inl ⟨by rw [decide_eq_true z]; rfl, .inr ⟨i, rfl, by omega, pos, fun j hj h => ?_, fun j hj h q => ?_⟩⟩
            · rw [← hβ]
              by_cases y : j = i
              · rw [y, ← hβ]; exact Rat.le_refl
              · have := h5 j (by omega) h
                rw [← hα] at this
                grind
            · by_cases y : j = i
              · rw [y]; exact Nat.le_refl _
              · have := h5 j (by omega) h
                rw [← hα, ← q, ← hβ] at this
                grind
          · by_cases w : β = α ∧ s.b i < s.b p
            · refine .inl ⟨by rw [decide_eq_true w.1, decide_eq_true w.2]; cases decide (β < α) <;> rfl, .inr ⟨i, rfl, by omega, pos, fun j hj h => ?_, fun j hj h q => ?_⟩⟩
              · rw [← hβ, w.1, hα]
                by_cases y : j = i
                · rw [y, ← hβ, w.1, hα]; exact Rat.le_refl
                · exact h5 j (by omega) h
              · by_cases y : j = i
                · rw [y]; exact Nat.le_refl _
                · have := h6 j (by omega) h (by rw [← hα, ← w.1, hβ]; exact q)
                  omega
            · refine .inr ⟨?_, .inr ⟨p, rfl, by omega, h4, fun j hj h => ?_, fun j hj h q => ?_⟩⟩
              · rw [decide_eq_false z, Bool.false_or]
                by_cases y : β = α
                · rw [decide_eq_true y, decide_eq_false fun v => w ⟨y, v⟩]; rfl
                · rw [decide_eq_false y]; rfl
              · by_cases y : j = i
                · rw [y, ← hβ, ← hα]; grind
                · exact h5 j (by omega) h
              · by_cases y : j = i
                · rw [y, ← hβ, ← hα] at q
                  rw [y]
                  exact Nat.le_of_not_lt fun v => w ⟨q.symm, v⟩
                · exact h6 j (by omega) h q
      obtain ⟨x7', b9, n1, n2, n3⟩ := near
      rcases n3 with ⟨rfl, n3⟩ | ⟨rfl, n3⟩
      · refine ⟨_, rfl, ((xifs_ok te).trans ?_ : _ = some (Fl.nx, [.im T, .im (.int (e : Int)), .im (.int (i : Int)), .im (vq β), .im (.int (i : Int)), .im (line i), .im (vq β), .im (.bl x7')])), .int (i : Int), vq β, _, _, _, _, n3, fun q hq => ?_, rfl⟩
        · exact (if_pos rfl).trans ((xseq_nx s6).trans ((xseq_nx n1).trans ((xifs_ok n2).trans rfl)))
        · have : q = i := by injection hq with hq; omega
          rw [this, hβ]
      · refine ⟨_, rfl, ((xifs_ok te).trans ?_ : _ = some (Fl.nx, [.im T, .im (.int (e : Int)), .im d, .im x3, .im (.int (i : Int)), .im (line i), .im (vq β), .im (.bl x7')])), d, x3, _, _, _, _, n3, h3, rfl⟩
        exact (if_pos rfl).trans ((xseq_nx s6).trans ((xseq_nx n1).trans ((xifs_ok n2).trans rfl)))
  obtain ⟨G', g1, d, x3, x4, x5, x6, x7, hd, _, rfl⟩ := xforL_app9 (tg := tgt [(tgn 4), (tgn 5)]) (b := b_Table_place_for_1) (f := fun i => .tup [.int (i : Int), line i]) (g := fun _ => .non) (fun out G => St out.length G) (n := r) (G := [.im T, .im (.int (e : Int)), .im .non, .im .non, .un, .un, .un, .un]) ⟨.non, .non, _, _, _, _, .inl ⟨rfl, fun j hj => absurd hj (Nat.not_lt_zero _)⟩, (fun p (hp : D.non = D.int (p : Int)) => by cases hp), rfl⟩ (fun i G hi hG => by
    have hG : St (rgD i _).length G := hG
    rw [rgD_len] at hG
    obtain ⟨G1, G2, h1, h2, h3⟩ := step i G hi hG
    refine ⟨G1, G2, h1, h2, ?_⟩
    show St (rgD (i + 1) _).length G2
    rw [rgD_len]
    exact h3)
  rw [rgD_len] at hd
  refine ⟨d, ?_, hd⟩
  refine runF_st rfl ?_
  refine st_nx (G1 := [.im T, .im (.int (e : Int)), .im .non, .im .non, .un, .un, .un, .un]) (by rfl) ?_
  refine st_nx (by
    refine xfor_ok (G1 := [.im T, .im (.int (e : Int)), .im .non, .im .non, .un, .un, .un, .un]) (ds := rgD r fun i => .tup [.int (i : Int), line i]) ?_ g1
    unfold xenumA
    rw [xc1 (f3 rfl) xnil_ok]
    show some (enumD 0 (rgD r line), _) = _
    rw [enumD_rg]) ?_
  exact st_ret rfl
end
end Bk
namespace Bk
open PySem L2
theorem vseq_e {a c : MSV} {ds bs ds1 bs1 : List D} {G G1 : Gam} (h : a ds bs G = some (.nx, ds1, bs1, G1)) : vseq a c ds bs G = c ds1 bs1 G1 := by
  unfold vseq
  rw [h]
theorem vset_ok9 {j : Nat} {a : MV R} {ds bs : List D} {G G1 G2 : Gam} {r : R} (h : a ds bs G = some (r, G1)) (e : G1.set j r.ent = G2) : vset j a ds bs G = some (.nx, ds, bs, G2) := by
  subst e
  unfold vset
  rw [h]
theorem vfz_ok9 {a : MV R} {ds bs : List D} {G G1 : Gam} {r : R} {d : D} (h : a ds bs G = some (r, G1)) (e : r.d = d) : vfz a ds bs G = some (.im d, G1) := by
  subst e
  unfold vfz
  rw [h]
theorem lf_ok9 {α : Type} {i : Nat} {f : M α} {ds bs : List D} {G G1 : Gam} {r : α} (h : f G = some (r, G1)) (u : isUn9 G1 i = true) : lf i f ds bs G = some (r, G1) := by
  unfold lf
  rw [h]
  simp only [u, if_true]
theorem bkG_self (bs : List D) : ∀ {G : Gam}, (∀ e ∈ G, e.mu = none) → bkG bs G G = G
  | [], _ => rfl
  | e :: G, h => by
    have ih := bkG_self bs (G := G) fun x hx => h x (List.mem_cons_of_mem _ hx)
    have h1 := h e List.mem_cons_self
    show bk1 bs e e :: bkG bs G G = e :: G
    rw [ih]
    cases e with
    | un => rfl
    | im d => rfl
    | ow m => cases h1
    | bx m => cases h1
theorem set_un9 {G : Gam} {i : Nat} (h : isUn9 G i = true) (T : Ent) : (G.set i T).set i .un = G := by
  rw [List.set_set]
  refine List.ext_getElem? fun j => ?_
  by_cases z : i = j
  · subst z
    have := isUn9_ok h
    rw [List.getElem?_set_self (List.getElem?_eq_some_iff.mp this).1, this]
  · rw [List.getElem?_set_ne z]
theorem lend_ok9 {α : Type} {i : Nat} {ok : List D → α → Bool} {f : M α} {ds bs : List D} {G : Gam} {r : α} (u : isUn9 G i = true) (h : f (G.set i (.im (tabD ds bs))) = some (r, G.set i (.im (tabD ds bs)))) (hk : ok bs r = true) (hm : ∀ e ∈ G, e.mu = none) : lend9 i ok f ds bs G = some (r, G) := by
  unfold lend9
  rw [h]
  simp only [hk, if_true]
  rw [set_un9 u, bkG_self bs hm]
theorem vpar_ok9 {j k : Nat} {a c : MV R} {ds bs : List D} {G G1 G2 G3 : Gam} {r r2 : R} (h : a ds bs G = some (r, G1)) (h2 : c ds bs G1 = some (r2, G2)) (e : (G2.set j (.im r.d)).set k r2.ent = G3) : vpar j k a c ds bs G = some (.nx, ds, bs, G3) := by
  subst e
  unfold vpar
  rw [h]
  simp only [h2]
theorem vifs_ok9 {t : MV Bool} {a c : MSV} {ds bs : List D} {G G1 : Gam} {k : Bool} (h : t ds bs G = some (k, G1)) : vifs t a c ds bs G = if k then a ds bs G1 else c ds bs G1 := by
  unfold vifs
  rw [h]
theorem vret_ok9 {a : MV R} {ds bs : List D} {G G1 : Gam} {r : R} (h : a ds bs G = some (r, G1)) : vret a ds bs G = some (.rt r, ds, bs, G1) := by
  unfold vret
  rw [h]
theorem vcons_ok9 {a : MV R} {c : MV (List D)} {ds bs : List D} {G G1 G2 : Gam} {r : R} {d : D} {xs : List D} (h : a ds bs G = some (r, G1)) (e : r.d = d) (h2 : c ds bs G1 = some (xs, G2)) : vcons a c ds bs G = some (d :: xs, G2) := by
  subst e
  unfold vcons
  rw [h]
  simp only [h2]
theorem vcall_ok9 {m : List D → Option R} {a : MV (List D)} {ds bs : List D} {G G1 : Gam} {xs : List D} {r : R} (h : a ds bs G = some (xs, G1)) (hm : m xs = some r) : vcall m a ds bs G = some (r, G1) := by
  unfold vcall
  rw [h]
  simp only [hm]
theorem vtup_ok9 {a : MV (List D)} {ds bs : List D} {G G1 : Gam} {xs : List D} (h : a ds bs G = some (xs, G1)) (hf : few xs.length = true) : vtup a ds bs G = some (.im (.tup xs), G1) := by
  unfold vtup
  rw [h]
  simp only [hf, if_true]
theorem wmeth_ok9 {m : List D → List D → List D → Option (D × List D × List D)} {a : MV (List D)} {ds bs ds' bs' : List D} {G G1 : Gam} {xs : List D} {r : D} (h : a ds bs G = some (xs, G1)) (hm : m ds bs xs = some (r, ds', bs')) : wmeth m a ds bs G = some (r, ds', bs', G1) := by
  unfold wmeth
  rw [h]
  simp only [hm]
theorem vdropW_ok9 {f : MW} {ds bs ds' bs' : List D} {G G1 : Gam} {r : D} (h : f ds bs G = some (r, ds', bs', G1)) : vdropW f ds bs G = some (.nx, ds', bs', G1) := by
  unfold vdropW
  rw [h]
theorem vsetW_ok9 {j : Nat} {f : MW} {ds bs ds' bs' : List D} {G G1 G2 : Gam} {r : D} (h : f ds bs G = some (r, ds', bs', G1)) (e : G1.set j (.im r) = G2) : vsetW j f ds bs G = some (.nx, ds', bs', G2) := by
  subst e
  unfold vsetW
  rw [h]
theorem lfS_ok9 {i : Nat} {f : MS} {ds bs : List D} {G G1 : Gam} (h : f G = some (.nx, G1)) (u : isUn9 G1 i = true) : lfS i f ds bs G = some (.nx, ds, bs, G1) := by
  unfold lfS
  rw [h]
  simp only [u, if_true]
theorem vfor_ok9 {i : Nat} {it : MV (List D)} {tg : D → Gam → Option Gam} {a : MSV} {ds bs es : List D} {G G1 : Gam} {o : Option (Fl × List D × List D × Gam)} (h : it ds bs G = some (es, G1)) (h2 : vforL i tg a es ds bs G1 = o) : vfor i it tg a ds bs G = o := by
  unfold vfor
  rw [h]
  exact h2
theorem vforL_nx9 {i : Nat} {tg : D → Gam → Option Gam} {a : MSV} {d : D} {es ds bs ds1 bs1 : List D} {G G1 G2 : Gam} (h1 : tg d G = some G1) (u : isUn9 G1 i = true) (h2 : a ds bs G1 = some (.nx, ds1, bs1, G2)) : vforL i tg a (d :: es) ds bs G = vforL i tg a es ds1 bs1 G2 := by
  show (match tg d G with | none => none | some G1 => if isUn9 G1 i then (match a ds bs G1 with
      | some (.nx, ds2, bs2, G2) => vforL i tg a es ds2 bs2 G2
      | some (.ct, ds2, bs2, G2) => vforL i tg a es ds2 bs2 G2
      | some (.bk, ds2, bs2, G2) => some (.nx, ds2, bs2, G2)
      | some (.rt r, ds2, bs2, G2) => some (.rt r, ds2, bs2, G2)
      | none => none) else none) = _
  rw [h1]
  simp only [u, if_true, h2]
/-- a loop over places, what holds after so many -/
theorem vforL_inv9 {i : Nat} {tg : D → Gam → Option Gam} {a : MSV} {f : Nat → D} (St : Nat → List D → List D → Gam → Prop) {n : Nat} {ds bs : List D} {G : Gam} (h : St 0 ds bs G) (step : ∀ k ds bs G, k < n → St k ds bs G → ∃ G1 ds2 bs2 G2, tg (f k) G = some G1 ∧ isUn9 G1 i = true ∧ a ds bs G1 = some (.nx, ds2, bs2, G2) ∧ St (k + 1) ds2 bs2 G2) :
    ∃ ds' bs' G', vforL i tg a (rgD n f) ds bs G = some (.nx, ds', bs', G') ∧ St n ds' bs' G' := by
  have key : ∀ (d k : Nat) (ds bs : List D) (G : Gam), k + d = n → St k ds bs G → ∃ ds' bs' G', vforL i tg a ((List.range' k d).map f) ds bs G = some (.nx, ds', bs', G') ∧ St n ds' bs' G' := fun d => by
    induction d with
    | zero =>
      intro k ds bs G e h
      have : k = n := by omega
      subst this
      exact ⟨ds, bs, G, rfl, h⟩
    | succ d ih =>
      intro k ds bs G e h
      obtain ⟨G1, ds2, bs2, G2, h1, h2, h3, h4⟩ := step k ds bs G (by omega) h
      obtain ⟨ds', bs', G', h5, h6⟩ := ih (k + 1) ds2 bs2 G2 (by omega) h4
      refine ⟨ds', bs', G', ?_, h6⟩
      rw [List.range'_succ, List.map_cons]
      exact (vforL_nx9 h1 h2 h3).trans h5
  unfold rgD
  rw [List.range_eq_range']
  exact key n 0 ds bs G (by omega) h
theorem vat_ok9 {k : Nat} {ds bs : List D} {G : Gam} {d : D} (h : ds[k]? = some d) : vat k ds bs G = some (.im d, G) := by
  unfold vat
  rw [h]
theorem nb1_int (bs : List D) (i : Int) : nb1 bs (.int i) = true := rfl
theorem nb1_non (bs : List D) : nb1 bs .non = true := rfl
theorem flat_rg (bs : List D) (n : Nat) (f : Nat → Rat) : flatR bs (.ol (rgD n fun i => vq (f i))) = true := by
  show (rgD n fun i => vq (f i)).all (nb1 bs) = true
  unfold rgD
  rw [List.all_eq_true]
  intro d hd
  obtain ⟨i, _, rfl⟩ := List.mem_map.mp hd
  rfl
section
variable {M r m k l : Nat} {sn : Nat → Rat} {s : Lp.St} {c : Nat → Rat}
theorem rgD_set (n : Nat) (f : Nat → D) (p : Nat) (d : D) : (rgD n f).set p d = rgD n fun i => if i = p then d else f i := by
  refine List.ext_getElem? fun j => ?_
  by_cases hj : j < n
  · rw [rgD_get _ hj]
    by_cases z : p = j
    · subst z
      rw [List.getElem?_set_self (by rw [rgD_len]; exact hj), if_pos rfl]
    · rw [List.getElem?_set_ne z, rgD_get _ hj, if_neg (Ne.symm z)]
  · rw [List.getElem?_eq_none (by rw [List.length_set, rgD_len]; omega), List.getElem?_eq_none (by rw [rgD_len]; omega)]
theorem BD_turn (p e : Nat) : (BD r s).set p (.int (e : Int)) = BD r (Lp.turn s p e) := by
  unfold BD
  rw [rgD_set]
  unfold rgD
  refine List.map_congr_left fun i _ => ?_
  show (if i = p then D.int (e : Int) else .int (s.b i : Int)) = .int ((if i = p then e else s.b i : Nat) : Int)
  split <;> rfl
theorem v_turn (t : TOk9 r m k s) {p e : Nat} (hp : p < r) (he : e < m) (h0 : s.L p e ≠ 0) (m9 : m ≤ 1000) (r9 : r ≤ 20) (hk : k ≤ 300) : r_Table_turn (TD M r m sn s) (BD r s) [.int (p : Int), .int (e : Int)] = some (.non, TD M r m sn (Lp.turn s p e), BD r (Lp.turn s p e)) := by
  obtain ⟨ds, hds⟩ : ∃ ds, ds = TD M r m sn s := ⟨_, rfl⟩
  obtain ⟨bs, hbs⟩ : ∃ bs, bs = BD r s := ⟨_, rfl⟩
  have l3 : ds[3]? = some (LD r m s) := by rw [hds]; rfl
  have fld : ∀ {G : Gam}, G[0]? = some (.im (tabD ds bs)) → xfld 5 3 (xv 0) G = some (.im (LD r m s), G) := fun {G} h => xfld_ok (r := .im (tabD ds bs)) (by unfold xv; rw [h]) rfl (by rw [hds]; rfl)
  have hpe := t.h p e hp (Nat.le_of_lt he)
  let head : Nat → Rat := fun j => s.L p j / s.L p e
  have hh : ∀ j, j ≤ m → Ht (head j) (k + k) := fun j hj => (t.h p j hp hj).div hpe h0
  have c3 : (vset 3 (vfz (lend9 0 flatR (xop opIx (xop opIx (xfld 5 3 (xv 0)) (xv 1)) (xv 2))))) ds bs [.un, .im (.int (p : Int)), .im (.int (e : Int)), .un, .un, .un, .un, .un, .un, .un, .un] = some (.nx, ds, bs, [.un, .im (.int (p : Int)), .im (.int (e : Int)), .im (vq (s.L p e)), .un, .un, .un, .un, .un, .un, .un]) := by
    refine vset_ok9 (r := .im (vq (s.L p e))) (vfz_ok9 (r := .im (vq (s.L p e))) (lend_ok9 (r := .im (vq (s.L p e))) rfl (xo2 (xo2 (fld rfl) rfl (rgD_ix _ hp)) rfl (rgD_ix _ (by omega))) rfl (by simp [Ent.mu])) rfl) rfl
  have hd4 : lend9 0 flatR (xlc (xseqI (xop opIx (xfld 5 3 (xv 0)) (xv 1))) (tgn 9) xtyes (xcall r_quotient (xcons (xv 9) (xcons (xv 3) xnil))) [9]) ds bs [.un, .im (.int (p : Int)), .im (.int (e : Int)), .im (vq (s.L p e)), .un, .un, .un, .un, .un, .un, .un] = some (.ol (rgD (m + 1) fun j => vq (head j)), [.un, .im (.int (p : Int)), .im (.int (e : Int)), .im (vq (s.L p e)), .un, .un, .un, .un, .un, .un, .un]) := by
    refine lend_ok9 rfl (xlc_un (xseqI_ok (xo2 (fld rfl) rfl (rgD_ix _ hp)) rfl) rfl rfl rfl ?_ (by rw [rgD_len]; omega)) (flat_rg _ _ _) (by simp [Ent.mu])
    unfold rgD
    refine xlcL_en (fun j => vq (head j)) fun j hj => ?_
    have hj := List.mem_range.mp hj
    exact ⟨_, _, _, rfl, xcall_ok (xc1 rfl (xc1 rfl xnil_ok)) (v_quotient (t.h p j hp (by omega)) hpe h0 (by omega)), rfl, rfl⟩
  have c4 : (vpar 4 5 (lend9 0 flatR (xlc (xseqI (xop opIx (xfld 5 3 (xv 0)) (xv 1))) (tgn 9) xtyes (xcall r_quotient (xcons (xv 9) (xcons (xv 3) xnil))) [9])) (lf 0 (xlst xnil))) ds bs [.un, .im (.int (p : Int)), .im (.int (e : Int)), .im (vq (s.L p e)), .un, .un, .un, .un, .un, .un, .un] = some (.nx, ds, bs, [.un, .im (.int (p : Int)), .im (.int (e : Int)), .im (vq (s.L p e)), .im (.lst (rgD (m + 1) fun j => vq (head j))), .ol [], .un, .un, .un, .un, .un]) :=
    vpar_ok9 hd4 (lf_ok9 (xlst_ok xnil_ok rfl) rfl) rfl
  let line : Nat → D := fun i => .lst (rgD (m + 1) fun j => vq (s.L i j))
  let out : Nat → D := fun i => .lst (rgD (m + 1) fun j => vq ((Lp.turn s p e).L i j))
  obtain ⟨ds', bs', G', g1, rfl, rfl, x6, x7, x8, x9, x10, x4, n6, rfl, _⟩ := vforL_inv9 (i := 0) (tg := tgt [(tgn 6), (tgn 7)]) (a := b_Table_turn_1) (f := fun i => .tup [.int (i : Int), line i]) (n := r) (fun n ds1 bs1 G => ds1 = ds ∧ bs1 = bs ∧ ∃ x6 x7 x8 x9 x10 x4, (x8 = Ent.un ∨ ∃ d, x8 = .im d) ∧ G = [Ent.un, .im (.int (p : Int)), .im (.int (e : Int)), .im (vq (s.L p e)), .im (.lst (rgD (m + 1) fun j => vq (head j))), .ol (rgD n out), x6, x7, x8, x9, x10] ∧ x9 = .un ∧ x10 = .un ∧ x4 = Ent.un) (ds := ds) (bs := bs)
    (G := [.un, .im (.int (p : Int)), .im (.int (e : Int)), .im (vq (s.L p e)), .im (.lst (rgD (m + 1) fun j => vq (head j))), .ol [], .un, .un, .un, .un, .un]) ⟨rfl, rfl, _, _, _, _, _, .un, .inl rfl, rfl, rfl, rfl, rfl⟩ (fun i ds1 bs1 G hi hG => by
      obtain ⟨rfl, rfl, x6, x7, x8, x9, x10, x4, h8, rfl, rfl, rfl, _⟩ := hG
      refine ⟨[.un, .im (.int (p : Int)), .im (.int (e : Int)), .im (vq (s.L p e)), .im (.lst (rgD (m + 1) fun j => vq (head j))), .ol (rgD i out), .im (.int (i : Int)), .im (line i), x8, .un, .un], ds1, bs1, [.un, .im (.int (p : Int)), .im (.int (e : Int)), .im (vq (s.L p e)), .im (.lst (rgD (m + 1) fun j => vq (head j))), .ol (rgD (i + 1) out), .im (.int (i : Int)), .im (line i), .im (vq (s.L i e)), .un, .un], rfl, rfl, ?_, rfl, rfl, _, _, _, _, _, .un, .inr ⟨_, rfl⟩, rfl, rfl, rfl, rfl⟩
      have c8 : (vset 8 (vfz (lf 0 (xop opIx (xv 7) (xv 2))))) ds1 bs1 [.un, .im (.int (p : Int)), .im (.int (e : Int)), .im (vq (s.L p e)), .im (.lst (rgD (m + 1) fun j => vq (head j))), .ol (rgD i out), .im (.int (i : Int)), .im (line i), x8, .un, .un] = some (.nx, ds1, bs1, [.un, .im (.int (p : Int)), .im (.int (e : Int)), .im (vq (s.L p e)), .im (.lst (rgD (m + 1) fun j => vq (head j))), .ol (rgD i out), .im (.int (i : Int)), .im (line i), .im (vq (s.L i e)), .un, .un]) :=
        vset_ok9 (r := .im (vq (s.L i e))) (vfz_ok9 (r := .im (vq (s.L i e))) (lf_ok9 (xo2 rfl rfl (rgD_ix _ (by omega))) rfl) rfl) rfl
      have te : lf 0 (xtest (xop opEq (xv 6) (xv 1))) ds1 bs1 [.un, .im (.int (p : Int)), .im (.int (e : Int)), .im (vq (s.L p e)), .im (.lst (rgD (m + 1) fun j => vq (head j))), .ol (rgD i out), .im (.int (i : Int)), .im (line i), .im (vq (s.L i e)), .un, .un] = some (decide (i = p), [.un, .im (.int (p : Int)), .im (.int (e : Int)), .im (vq (s.L p e)), .im (.lst (rgD (m + 1) fun j => vq (head j))), .ol (rgD i out), .im (.int (i : Int)), .im (line i), .im (vq (s.L i e)), .un, .un]) := by
        refine lf_ok9 (xtest_ok (xo2 (x := .int (i : Int)) (y := .int (p : Int)) rfl rfl ?_)) rfl
        show some (R.im (.bl (decide ((i : Int) = (p : Int))))) = _
        rw [show decide ((i : Int) = (p : Int)) = decide (i = p) from decide_eq_decide.mpr (by omega)]
      unfold b_Table_turn_1
      rw [vseq_e c8, vifs_ok9 te, ← rgD_snoc i out]
      by_cases z : i = p
      · rw [decide_eq_true z, if_pos rfl]
        refine lfS_ok9 (xapp_ok (r := .im (.lst (rgD (m + 1) fun j => vq (head j)))) (bs := rgD i out) rfl rfl rfl rfl (by rw [rgD_len]; omega) ?_) rfl
        have : out i = .lst (rgD (m + 1) fun j => vq (head j)) := by
          refine congrArg D.lst (List.map_congr_left fun j _ => ?_)
          show vq (if i = p then s.L p j / s.L p e else s.L i j - s.L i e * (s.L p j / s.L p e)) = vq (s.L p j / s.L p e)
          rw [if_pos z]
        rw [this]
        rfl
      · rw [decide_eq_false z, if_neg Bool.false_ne_true]
        have lc : xlc (xzipA (xcons (xv 7) (xcons (xv 4) xnil))) (tgt [(tgn 9), (tgn 10)]) xtyes (xcall r_less_by (xcons (xv 9) (xcons (xcall r_multiplied (xcons (xv 8) (xcons (xv 10) xnil))) xnil))) [9, 10] [.un, .im (.int (p : Int)), .im (.int (e : Int)), .im (vq (s.L p e)), .im (.lst (rgD (m + 1) fun j => vq (head j))), .ol (rgD i out), .im (.int (i : Int)), .im (line i), .im (vq (s.L i e)), .un, .un] = some (.ol ((List.range (m + 1)).map fun j => vq (s.L i j - s.L i e * head j)), [.un, .im (.int (p : Int)), .im (.int (e : Int)), .im (vq (s.L p e)), .im (.lst (rgD (m + 1) fun j => vq (head j))), .ol (rgD i out), .im (.int (i : Int)), .im (line i), .im (vq (s.L i e)), .un, .un]) := by
          refine xlc_un (xzip_ok (xc1 rfl (xc1 rfl xnil_ok)) rfl rfl) rfl rfl rfl ?_ (by rw [List.length_map, List.length_range]; omega)
          rw [rgD_zip]
          refine xlcL_en (fun j => vq (s.L i j - s.L i e * head j)) fun j hj => ?_
          have hj := List.mem_range.mp hj
          exact ⟨_, _, _, rfl, xcall_ok (xc1 rfl (xc1 (xcall_ok (xc1 rfl (xc1 rfl xnil_ok)) (v_multiplied (t.h i e hi (Nat.le_of_lt he)) (hh j (by omega)) (by omega))) xnil_ok)) (v_less_by (t.h i j hi (by omega)) ((t.h i e hi (Nat.le_of_lt he)).mul (hh j (by omega))) (by omega)), rfl, rfl⟩
        refine lfS_ok9 (xapp_ok (bs := rgD i out) rfl lc rfl rfl (by rw [rgD_len]; omega) ?_) rfl
        have : out i = .lst ((List.range (m + 1)).map fun j => vq (s.L i j - s.L i e * head j)) := by
          refine congrArg D.lst (List.map_congr_left fun j _ => ?_)
          show vq (if i = p then s.L p j / s.L p e else s.L i j - s.L i e * (s.L p j / s.L p e)) = vq (s.L i j - s.L i e * (s.L p j / s.L p e))
          rw [if_neg z]
        rw [this]
        rfl)
  have c5 : (vfor 0 (venum (vat 3)) (tgt [(tgn 6), (tgn 7)]) b_Table_turn_1) ds' bs' [.un, .im (.int (p : Int)), .im (.int (e : Int)), .im (vq (s.L p e)), .im (.lst (rgD (m + 1) fun j => vq (head j))), .ol [], .un, .un, .un, .un, .un] = some (.nx, ds', bs', [.un, .im (.int (p : Int)), .im (.int (e : Int)), .im (vq (s.L p e)), .im (.lst (rgD (m + 1) fun j => vq (head j))), .ol (rgD r out), x6, x7, x8, x9, x10]) := by
    refine vfor_ok9 (es := rgD r fun i => .tup [.int (i : Int), line i]) ?_ g1
    unfold venum
    rw [vat_ok9 l3]
    show some (enumD 0 (rgD r line), _) = _
    rw [enumD_rg]
  have dl : ds'.length = 4 := by rw [hds]; rfl
  have c6 : (vfld 3 (lf 0 (xv 5))) ds' bs' [.un, .im (.int (p : Int)), .im (.int (e : Int)), .im (vq (s.L p e)), .im (.lst (rgD (m + 1) fun j => vq (head j))), .ol (rgD r out), x6, x7, x8, x9, x10] = some (.nx, ds'.set 3 (.lst (rgD r out)), bs', [.un, .im (.int (p : Int)), .im (.int (e : Int)), .im (vq (s.L p e)), .im (.lst (rgD (m + 1) fun j => vq (head j))), .im (.lst (rgD r out)), x6, x7, x8, x9, x10]) := by
    unfold vfld
    rw [lf_ok9 (r := .im (.lst (rgD r out))) (G1 := [.un, .im (.int (p : Int)), .im (.int (e : Int)), .im (vq (s.L p e)), .im (.lst (rgD (m + 1) fun j => vq (head j))), .im (.lst (rgD r out)), x6, x7, x8, x9, x10]) rfl rfl]
    simp only [dl]
    rfl
  have c7 : (vbput 4 (lf 0 (xv 2)) (lf 0 (xv 1))) (ds'.set 3 (.lst (rgD r out))) bs' [.un, .im (.int (p : Int)), .im (.int (e : Int)), .im (vq (s.L p e)), .im (.lst (rgD (m + 1) fun j => vq (head j))), .im (.lst (rgD r out)), x6, x7, x8, x9, x10] = some (.nx, ds'.set 3 (.lst (rgD r out)), bs'.set p (.int (e : Int)), [.un, .im (.int (p : Int)), .im (.int (e : Int)), .im (vq (s.L p e)), .im (.lst (rgD (m + 1) fun j => vq (head j))), .im (.lst (rgD r out)), x6, x7, x8, x9, x10]) := by
    have ix : ixN bs'.length (p : Int) = some p := by
      unfold ixN
      rw [hbs, show (BD r s).length = r from rgD_len _ _, if_pos (by omega), if_pos (by omega), Int.toNat_natCast]
    unfold vbput
    rw [lf_ok9 (r := .im (.int (e : Int))) (G1 := [.un, .im (.int (p : Int)), .im (.int (e : Int)), .im (vq (s.L p e)), .im (.lst (rgD (m + 1) fun j => vq (head j))), .im (.lst (rgD r out)), x6, x7, x8, x9, x10]) rfl rfl]
    simp only
    rw [lf_ok9 (r := .im (.int (p : Int))) (G1 := [.un, .im (.int (p : Int)), .im (.int (e : Int)), .im (vq (s.L p e)), .im (.lst (rgD (m + 1) fun j => vq (head j))), .im (.lst (rgD r out)), x6, x7, x8, x9, x10]) rfl rfl]
    simp only [R.d, ix, List.length_set, dl, if_true]
  have run : b_Table_turn ds' bs' [.un, .im (.int (p : Int)), .im (.int (e : Int)), .un, .un, .un, .un, .un, .un, .un, .un] = some (.nx, ds'.set 3 (.lst (rgD r out)), bs'.set p (.int (e : Int)), [.un, .im (.int (p : Int)), .im (.int (e : Int)), .im (vq (s.L p e)), .im (.lst (rgD (m + 1) fun j => vq (head j))), .im (.lst (rgD r out)), x6, x7, x8, x9, x10]) := by
    unfold b_Table_turn
    rw [vseq_e c3, vseq_e c4, vseq_e c5, vseq_e c6]
    exact c7
  rw [← hds, ← hbs]
  have fin : r_Table_turn ds' bs' [.int (p : Int), .int (e : Int)] = outV (b_Table_turn ds' bs' [.un, .im (.int (p : Int)), .im (.int (e : Int)), .un, .un, .un, .un, .un, .un, .un, .un]) := rfl
  rw [fin, run, hbs, BD_turn, hds]
  rfl
end
end Bk
namespace Bk
open PySem L2
theorem xlcL_fil9 {tg : D → Gam → Option Gam} {tt : M Bool} {e : M R} {vs : List Nat} {G : Gam} {p : Nat → Bool} {f : Nat → D} : ∀ {xs : List Nat}, (∀ x ∈ xs, ∃ G1, tg (f x) G = some G1 ∧ tt G1 = some (p x, G1) ∧ e G1 = some (.im (f x), G1) ∧ wipeG G1 vs = G) → xlcL tg tt e vs (xs.map f) G = some ((xs.filter p).map f, G)
  | [], _ => rfl
  | x :: xs, h => by
    obtain ⟨G1, h1, h2, h3, h4⟩ := h x List.mem_cons_self
    have ih := xlcL_fil9 (xs := xs) (p := p) (f := f) fun y hy => h y (List.mem_cons_of_mem _ hy)
    show xlcL tg tt e vs (f x :: xs.map f) G = _
    unfold xlcL
    rw [h1]
    simp only [bd_some, h2]
    cases hp : p x with
    | true => simp only [if_true, h3, bd_some, h4, ih, List.filter_cons, hp, List.map_cons, R.d]
    | false => simp only [Bool.false_eq_true, if_false, h4, ih, List.filter_cons, hp]
section
variable {M r m k l n0 : Nat} {sn : Nat → Rat} {s : Lp.St} {c : Nat → Rat} {A : Nat → Nat → Rat}
theorem fst_of {p : Nat → Bool} {n e : Nat} {t : List Nat} (h : (List.range n).filter p = e :: t) : e < n ∧ p e = true ∧ ∀ j, j < e → p j = false := by
  obtain ⟨l1, l2, h1, h2, h3, _⟩ := List.filter_eq_cons_iff.mp h
  have le : l1.length < n := by
    have := congrArg List.length h1
    rw [List.length_range, List.length_append, List.length_cons] at this
    omega
  have g : ∀ j, j < n → (List.range n)[j]? = some j := fun j hj => List.getElem?_range hj
  have ee : l1.length = e := by
    have e1 := g l1.length le
    rw [h1, List.getElem?_append_right (Nat.le_refl _), Nat.sub_self] at e1
    exact (Option.some.inj e1).symm
  refine ⟨by omega, h3, fun j hj => ?_⟩
  have e2 := g j (by omega)
  rw [h1, List.getElem?_append_left (by omega)] at e2
  have := h2 j (List.mem_of_getElem? e2)
  simpa using this
theorem vifs_no9 {t : MV Bool} {a : MSV} {ds bs : List D} {G G1 : Gam} (h : t ds bs G = some (false, G1)) : vifs t a vnext ds bs G = some (.nx, ds, bs, G1) := by
  rw [vifs_ok9 h, if_neg Bool.false_ne_true]
  rfl
theorem vifs_ye9 {t : MV Bool} {a c : MSV} {ds bs : List D} {G G1 : Gam} (h : t ds bs G = some (true, G1)) : vifs t a c ds bs G = a ds bs G1 := by
  rw [vifs_ok9 h, if_pos rfl]
theorem mu7' {d1 d2 : D} {x3 x4 x5 : Ent} (h3 : x3.mu = none) (h4 : x4.mu = none) (h5 : x5.mu = none) : ∀ e ∈ [Ent.un, .im d1, .im d2, x3, x4, x5, .un], e.mu = none := by
  intro e he
  simp only [List.mem_cons, List.not_mem_nil, or_false] at he
  rcases he with rfl | rfl | rfl | rfl | rfl | rfl | rfl <;> first | assumption | rfl
theorem mu7 {d1 d2 d3 d4 : D} {x5 : Ent} (h5 : x5.mu = none) : ∀ e ∈ [Ent.un, .im d1, .im d2, .im d3, .im d4, x5, .un], e.mu = none := mu7' rfl rfl h5
def redN (r : Nat) (c : Nat → Rat) (s : Lp.St) (j : Nat) : Bool := decide (Lp.red r c s j < 0)
/-- one turn of the loop -/
theorem low_body (t : TOk9 r m k s) (hm : m = M + r) (hn : n0 ≤ M) (hc : ∀ j, j < m → Ht (c j) l) (m9 : m ≤ 1000) (r9 : r ≤ 20) (kl : k + l ≤ 300) {x3 x4 x5 : Ent} (h3 : x3.mu = none) (h4 : x4.mu = none) (h5 : x5.mu = none) :
    ((∃ G', b_Table_lower_1 (TD M r m sn s) (BD r s) [.un, .im (CD m c), .im (.int (n0 : Int)), x3, x4, x5, .un] = some (.rt (.im .non), TD M r m sn s, BD r s, G')) ∧ ∀ j, j < n0 → 0 ≤ Lp.red r c s j) ∨
    (∃ e G', b_Table_lower_1 (TD M r m sn s) (BD r s) [.un, .im (CD m c), .im (.int (n0 : Int)), x3, x4, x5, .un] = some (.rt (.im (.int ((e : Nat) : Int))), TD M r m sn s, BD r s, G') ∧ e < n0 ∧ Lp.red r c s e < 0 ∧ ∀ i, i < r → s.L i e ≤ 0) ∨
    ∃ p e y3 y4 y5, b_Table_lower_1 (TD M r m sn s) (BD r s) [.un, .im (CD m c), .im (.int (n0 : Int)), x3, x4, x5, .un] = some (.nx, TD M r m sn (Lp.turn s p e), BD r (Lp.turn s p e), [.un, .im (CD m c), .im (.int (n0 : Int)), .im y3, .im y4, .im y5, .un]) ∧ Lp.Step r m n0 c s p e := by
  have rdH : ∀ j, j < m → Ht (Lp.red r c s j) (l + (1 + r * (l + k + 1)) + 1) := fun j hj => by
    have := sumQ_ht (k := l + k) (qs := (List.range r).map fun i => c (s.b i) * s.L i j) fun q hq => by
      obtain ⟨i, hi, rfl⟩ := List.mem_map.mp hq
      have hi := List.mem_range.mp hi
      exact (hc _ (t.b i hi)).mul (t.h i j hi (Nat.le_of_lt hj))
    rw [List.length_map, List.length_range, sumQ_rg] at this
    exact (hc j hj).sub this
  have rb : r * (l + k + 1) ≤ 20 * 301 := Nat.mul_le_mul r9 (by omega)
  obtain ⟨ds, hds⟩ : ∃ ds, ds = TD M r m sn s := ⟨_, rfl⟩
  obtain ⟨bs, hbs⟩ : ∃ bs, bs = BD r s := ⟨_, rfl⟩
  have tab : tabD ds bs = TT9 M r m sn s := by rw [hds, hbs]; rfl
  obtain ⟨ys, hys⟩ : ∃ ys, ys = rgD m fun j => vq (Lp.red r c s j) := ⟨_, rfl⟩
  obtain ⟨fl, hfl⟩ : ∃ fl, fl = (List.range n0).filter (redN r c s) := ⟨_, rfl⟩
  rw [← hds, ← hbs]
  have c3 : (vset 3 (vfz (lend9 0 flatR (xmeth 5 r_Table_costs_left [] (xv 0) (xcons (xv 1) xnil))))) ds bs [.un, .im (CD m c), .im (.int (n0 : Int)), x3, x4, x5, .un] = some (.nx, ds, bs, [.un, .im (CD m c), .im (.int (n0 : Int)), .im (.lst ys), x4, x5, .un]) := by
    refine vset_ok9 (r := .im (.lst ys)) (vfz_ok9 (r := .ol ys) (lend_ok9 (r := .ol ys) rfl (xmeth_ok (r := .im (tabD ds bs)) rfl rfl (xc1 rfl xnil_ok) ?_) ?_ ?_) rfl) rfl
    · rw [hys]
      show r_Table_costs_left [tabD ds bs, CD m c] = _
      rw [tab]
      exact v_costs_left t hm hc m9 r9 kl
    · rw [hys]; exact flat_rg _ _ _
    · exact mu7' h3 h4 h5
  have lc : xlc (xrange1 (xcons (xv 2) xnil)) (tgn 6) (xtru (xcall r_is_less (xcons (xop opIx (xv 3) (xv 6)) (xcons (xc c_NOUGHT) xnil)))) (xv 6) [6] [.un, .im (CD m c), .im (.int (n0 : Int)), .im (.lst ys), x4, x5, .un] = some (.ol (fl.map fun (j : Nat) => D.int (j : Int)), [.un, .im (CD m c), .im (.int (n0 : Int)), .im (.lst ys), x4, x5, .un]) := by
    refine xlc_un (ds := (List.range n0).map fun (j : Nat) => D.int (j : Int)) (by
      refine (xrange1_ok (n := (n0 : Int)) (xc1 rfl xnil_ok) (okR_of (by omega) (by omega))).trans ?_
      rw [Int.toNat_natCast, rng_rgD]
      rfl) rfl rfl rfl ?_ (by
      rw [List.length_map, hfl]
      refine Nat.le_trans (List.length_filter_le _ _) ?_
      rw [List.length_range]; omega)
    rw [hfl]
    refine xlcL_fil9 fun j hj => ?_
    have hj := List.mem_range.mp hj
    refine ⟨_, rfl, xtrub (xcall_ok (xc1 (d := vq (Lp.red r c s j)) (xo2 rfl rfl ?_) (xc1 (d := vq 0) rfl xnil_ok)) (v_is_less (rdH j (by omega)) ht0 (by omega))), rfl, rfl⟩
    rw [hys]
    exact rgD_ix _ (by omega)
  have c4 : (vset 4 (vfz (lf 0 (xlc (xrange1 (xcons (xv 2) xnil)) (tgn 6) (xtru (xcall r_is_less (xcons (xop opIx (xv 3) (xv 6)) (xcons (xc c_NOUGHT) xnil)))) (xv 6) [6])))) ds bs [.un, .im (CD m c), .im (.int (n0 : Int)), .im (.lst ys), x4, x5, .un] = some (.nx, ds, bs, [.un, .im (CD m c), .im (.int (n0 : Int)), .im (.lst ys), .im (.lst (fl.map fun (j : Nat) => D.int (j : Int))), x5, .un]) :=
    vset_ok9 (r := .im (.lst (fl.map fun (j : Nat) => D.int (j : Int)))) (vfz_ok9 (r := .ol (fl.map fun (j : Nat) => D.int (j : Int))) (lf_ok9 lc rfl) rfl) rfl
  have te : lf 0 (xtest (xop opEq (xcb cbLen (xcons (xv 4) xnil)) (xc (.int 0)))) ds bs [.un, .im (CD m c), .im (.int (n0 : Int)), .im (.lst ys), .im (.lst (fl.map fun (j : Nat) => D.int (j : Int))), x5, .un] = some (decide ((((fl.map fun (j : Nat) => D.int (j : Int)).length : Nat) : Int) = 0), [.un, .im (CD m c), .im (.int (n0 : Int)), .im (.lst ys), .im (.lst (fl.map fun (j : Nat) => D.int (j : Int))), x5, .un]) :=
    lf_ok9 (xtest_ok (xo2 (xcb_ok (xc1 rfl xnil_ok) rfl) rfl rfl)) rfl
  cases hf : fl with
  | nil =>
    left
    rw [hf] at te c4
    refine ⟨⟨[.un, .im (CD m c), .im (.int (n0 : Int)), .im (.lst ys), .im (.lst []), x5, .un], ?_⟩, fun j hj => ?_⟩
    · unfold b_Table_lower_1
      rw [vseq_e c3, vseq_e c4]
      unfold vseq
      rw [vifs_ok9 te]
      simp only [List.map_nil, List.length_nil]
      rw [if_pos (by rfl), vret_ok9 (lf_ok9 (r := .im .non) (G1 := [.un, .im (CD m c), .im (.int (n0 : Int)), .im (.lst ys), .im (.lst []), x5, .un]) rfl rfl)]
    · by_cases z : Lp.red r c s j < 0
      · have : j ∈ fl := by
          rw [hfl]
          exact List.mem_filter.mpr ⟨List.mem_range.mpr hj, decide_eq_true z⟩
        rw [hf] at this
        cases this
      · exact Rat.not_lt.mp z
  | cons e rest =>
    right
    obtain ⟨en, eneg, efst⟩ := fst_of (hfl.symm.trans hf)
    have eneg : Lp.red r c s e < 0 := of_decide_eq_true eneg
    rw [hf] at te c4
    obtain ⟨fs, hfs⟩ : ∃ fs, fs = (e :: rest).map fun (j : Nat) => D.int (j : Int) := ⟨_, rfl⟩
    have f0 : opIx (.lst fs) (.int 0) = some (.im (.int (e : Int))) := by
      rw [hfs]
      show (atI ((e :: rest).map fun (j : Nat) => D.int (j : Int)) (0 : Int)).map R.im = _
      have := atI_nat ((e :: rest).map fun (j : Nat) => D.int (j : Int)) 0 (by simp)
      rw [show ((0 : Nat) : Int) = 0 from rfl] at this
      rw [this]
      rfl
    have fpos : ¬ ((fs.length : Nat) : Int) = 0 := by
      rw [hfs, List.length_map, List.length_cons]
      omega
    rw [← hfs] at te c4
    rw [decide_eq_false fpos] at te
    have c5 : ∀ d, r_Table_place_for [TT9 M r m sn s, .int (e : Int)] = some (.im d) → nb1 bs d = true → (vset 5 (vfz (lend9 0 flatR (xmeth 5 r_Table_place_for [] (xv 0) (xcons (xop opIx (xv 4) (xc (.int 0))) xnil))))) ds bs [.un, .im (CD m c), .im (.int (n0 : Int)), .im (.lst ys), .im (.lst fs), x5, .un] = some (.nx, ds, bs, [.un, .im (CD m c), .im (.int (n0 : Int)), .im (.lst ys), .im (.lst fs), .im d, .un]) := fun d hd hnb => by
      refine vset_ok9 (r := .im d) (vfz_ok9 (r := .im d) (lend_ok9 (r := .im d) rfl (xmeth_ok (r := .im (tabD ds bs)) rfl rfl (xc1 (xo2 rfl rfl f0) xnil_ok) ?_) hnb ?_) rfl) rfl
      · show r_Table_place_for [tabD ds bs, .int (e : Int)] = _
        rw [tab]
        exact hd
      · exact mu7 h5
    obtain ⟨d, hd, pl⟩ := v_place_for (M := M) (sn := sn) t (e := e) (by omega) r9 (by omega)
    rcases pl with ⟨rfl, hle⟩ | ⟨p, rfl, hp, pos, near, tie⟩
    · left
      refine ⟨e, [.un, .im (CD m c), .im (.int (n0 : Int)), .im (.lst ys), .im (.lst fs), .im .non, .un], ?_, en, eneg, hle⟩
      unfold b_Table_lower_1
      rw [vseq_e c3, vseq_e c4, vseq_e (vifs_no9 te), vseq_e (c5 .non hd (nb1_non bs))]
      unfold vseq
      rw [vifs_ok9 (k := true) (lf_ok9 (G1 := [.un, .im (CD m c), .im (.int (n0 : Int)), .im (.lst ys), .im (.lst fs), .im .non, .un]) (xtest_ok (xo2 rfl rfl rfl)) rfl), if_pos rfl, vret_ok9 (lf_ok9 (r := .im (.int (e : Int))) (G1 := [.un, .im (CD m c), .im (.int (n0 : Int)), .im (.lst ys), .im (.lst fs), .im .non, .un]) (xo2 rfl rfl f0) rfl)]
    · right
      have ne0 : s.L p e ≠ 0 := fun z => by rw [z] at pos; exact absurd pos Rat.lt_irrefl
      refine ⟨p, e, .lst ys, .lst fs, .int (p : Int), ?_, ⟨en, eneg, fun j hj => ?_, hp, pos, near, tie⟩⟩
      · unfold b_Table_lower_1
        rw [vseq_e c3, vseq_e c4, vseq_e (vifs_no9 te), vseq_e (c5 (.int (p : Int)) hd (nb1_int bs _)), vseq_e (vifs_no9 (lf_ok9 (G1 := [.un, .im (CD m c), .im (.int (n0 : Int)), .im (.lst ys), .im (.lst fs), .im (.int (p : Int)), .un]) (xtest_ok (xo2 rfl rfl rfl)) rfl))]
        refine vdropW_ok9 (r := .non) (wmeth_ok9 (xs := [.int (p : Int), .int (e : Int)]) (vcons_ok9 (lf_ok9 (r := .im (.int (p : Int))) rfl rfl) rfl (vcons_ok9 (lf_ok9 (r := .im (.int (e : Int))) (xo2 rfl rfl f0) rfl) rfl (lf_ok9 xnil_ok rfl))) ?_)
        rw [hds, hbs]
        exact v_turn t hp (by omega) ne0 m9 r9 (by omega)
      · have := efst j hj
        unfold redN at this
        exact Rat.not_lt.mp (of_decide_eq_false this)
end
end Bk
namespace Bk
open PySem L2
namespace Lp
theorem Run.snoc {A : Nat → Nat → Rat} {r m n0 : Nat} {c : Nat → Rat} {f : Nat → St} {p e : Nat → Nat} {N : Nat} (R : Run A r m n0 c f p e N) {p9 e9 : Nat} (st : Step r m n0 c (f N) p9 e9) (i9 : Inv A r m (turn (f N) p9 e9)) (f9 : ∀ k, k < r → 0 ≤ (turn (f N) p9 e9).L k m) : Run A r m n0 c (fun t => if t = N + 1 then turn (f N) p9 e9 else f t) (fun t => if t = N then p9 else p t) (fun t => if t = N then e9 else e t) (N + 1) where
  inv := fun t ht => by
    show Inv A r m (if t = N + 1 then _ else _)
    split
    · exact i9
    · exact R.inv t (by omega)
  feas := fun t ht k hk => by
    show 0 ≤ (if t = N + 1 then turn (f N) p9 e9 else f t).L k m
    split
    · exact f9 k hk
    · exact R.feas t (by omega) k hk
  step := fun t ht => by
    show Step r m n0 c (if t = N + 1 then turn (f N) p9 e9 else f t) (if t = N then p9 else p t) (if t = N then e9 else e t)
    rw [if_neg (by omega)]
    by_cases z : t = N
    · rw [if_pos z, if_pos z, z]; exact st
    · rw [if_neg z, if_neg z]; exact R.step t (by omega)
  next := fun t ht => by
    show (if t + 1 = N + 1 then turn (f N) p9 e9 else f (t + 1)) = turn (if t = N + 1 then turn (f N) p9 e9 else f t) (if t = N then p9 else p t) (if t = N then e9 else e t)
    rw [if_neg (show ¬ t = N + 1 by omega)]
    by_cases z : t = N
    · rw [if_pos (by omega), if_pos z, if_pos z, z]
    · rw [if_neg (by omega), if_neg z, if_neg z]; exact R.next t (by omega)
end Lp
section
variable {M r m k l n0 : Nat} {sn : Nat → Rat} {c : Nat → Rat} {A : Nat → Nat → Rat}
theorem vwhile_rt {t : MV Bool} {a : MSV} {n : Nat} {ds bs ds1 bs1 : List D} {G G1 G2 : Gam} {x : R} (h : t ds bs G = some (true, G1)) (h2 : a ds bs G1 = some (.rt x, ds1, bs1, G2)) : vwhileN t a (n + 1) ds bs G = some (.rt x, ds1, bs1, G2) := by
  unfold vwhileN
  rw [h]
  simp only [if_true, h2]
theorem vwhile_nx {t : MV Bool} {a : MSV} {n : Nat} {ds bs ds1 bs1 : List D} {G G1 G2 : Gam} (h : t ds bs G = some (true, G1)) (h2 : a ds bs G1 = some (.nx, ds1, bs1, G2)) : vwhileN t a (n + 1) ds bs G = vwhileN t a n ds1 bs1 G2 := by
  show (match t ds bs G with
    | none => none
    | some (k, G1) => if k then (match a ds bs G1 with
      | some (.nx, ds2, bs2, G2) => vwhileN t a n ds2 bs2 G2
      | some (.ct, ds2, bs2, G2) => vwhileN t a n ds2 bs2 G2
      | some (.bk, ds2, bs2, G2) => some (.nx, ds2, bs2, G2)
      | some (.rt r, ds2, bs2, G2) => some (.rt r, ds2, bs2, G2)
      | none => none) else some (.nx, ds, bs, G1)) = _
  rw [h]
  simp only [if_true, h2]
/-- how going down ends -/
def LowE (A : Nat → Nat → Rat) (r m n0 : Nat) (c : Nat → Rat) (P : Lp.St → Prop) (s' : Lp.St) (d : D) : Prop := Lp.Inv A r m s' ∧ (∀ i, i < r → 0 ≤ s'.L i m) ∧ P s' ∧ ((d = .non ∧ ∀ j, j < n0 → 0 ≤ Lp.red r c s' j) ∨ ∃ e : Nat, d = .int (e : Int) ∧ e < n0 ∧ Lp.red r c s' e < 0 ∧ ∀ i, i < r → s'.L i e ≤ 0)
theorem lower_go (P : Lp.St → Prop) (keep : ∀ s p e, Lp.Inv A r m s → Lp.Step r m n0 c s p e → P s → P (Lp.turn s p e)) (sz : ∀ s, Lp.Inv A r m s → TOk9 r m k s) (hm : m = M + r) (hn : n0 ≤ M) (hc : ∀ j, j < m → Ht (c j) l) (m9 : m ≤ 1000) (r9 : r ≤ 20) (kl : k + l ≤ 300) (m0 : 0 < m) : ∀ (n N : Nat) (f : Nat → Lp.St) (p e : Nat → Nat) (x3 x4 x5 : Ent), Lp.Run A r m n0 c f p e N → m ^ r ≤ N + n → P (f N) → x3.mu = none → x4.mu = none → x5.mu = none →
    ∃ s' d G', vwhileN (lf 0 (xtru (xc (.bl true)))) b_Table_lower_1 n (TD M r m sn (f N)) (BD r (f N)) [.un, .im (CD m c), .im (.int (n0 : Int)), x3, x4, x5, .un] = some (.rt (.im d), TD M r m sn s', BD r s', G') ∧ LowE A r m n0 c P s' d := fun n => by
  induction n with
  | zero =>
    intro N f p e x3 x4 x5 R big
    have := Lp.run_le R (by omega) m0
    omega
  | succ n ih =>
    intro N f p e x3 x4 x5 R big hP h3 h4 h5
    have iN := R.inv N (Nat.le_refl _)
    have fN := R.feas N (Nat.le_refl _)
    have te : lf 0 (xtru (xc (.bl true))) (TD M r m sn (f N)) (BD r (f N)) [.un, .im (CD m c), .im (.int (n0 : Int)), x3, x4, x5, .un] = some (true, [.un, .im (CD m c), .im (.int (n0 : Int)), x3, x4, x5, .un]) := lf_ok9 rfl rfl
    rcases low_body (M := M) (sn := sn) (sz _ iN) hm hn hc m9 r9 kl h3 h4 h5 with ⟨⟨G', h⟩, w⟩ | ⟨e9, G', h, w1, w2, w3⟩ | ⟨p9, e9, y3, y4, y5, h, st⟩
    · exact ⟨f N, .non, G', vwhile_rt te h, iN, fN, hP, .inl ⟨rfl, w⟩⟩
    · exact ⟨f N, _, G', vwhile_rt te h, iN, fN, hP, .inr ⟨e9, rfl, w1, w2, w3⟩⟩
    · have ne0 : (f N).L p9 e9 ≠ 0 := fun z => by
        have := st.pos
        rw [z] at this
        exact absurd this Rat.lt_irrefl
      have i9 := iN.turn st.pr (show e9 < m by have := st.en; omega) ne0
      have f9 := Lp.feas_turn st fN
      have R9 := R.snoc st i9 f9
      have := ih (N + 1) _ _ _ (.im y3) (.im y4) (.im y5) R9 (by omega) (by
        show P (if N + 1 = N + 1 then _ else _)
        rw [if_pos rfl]
        exact keep _ _ _ iN st hP) rfl rfl rfl
      simp only [if_true] at this
      obtain ⟨s', d, G', g1, g2⟩ := this
      exact ⟨s', d, G', (vwhile_nx te h).trans g1, g2⟩
theorem v_lower (P : Lp.St → Prop) (keep : ∀ s p e, Lp.Inv A r m s → Lp.Step r m n0 c s p e → P s → P (Lp.turn s p e)) (sz : ∀ s, Lp.Inv A r m s → TOk9 r m k s) (hm : m = M + r) (hn : n0 ≤ M) (hc : ∀ j, j < m → Ht (c j) l) (m9 : m ≤ 1000) (r9 : r ≤ 20) (kl : k + l ≤ 300) (m0 : 0 < m) (big : m ^ r ≤ 1000000) {s : Lp.St} (iv : Lp.Inv A r m s) (fs : ∀ i, i < r → 0 ≤ s.L i m) (hP : P s) :
    ∃ s' d, r_Table_lower (TD M r m sn s) (BD r s) [CD m c, .int (n0 : Int)] = some (d, TD M r m sn s', BD r s') ∧ LowE A r m n0 c P s' d := by
  have R : Lp.Run A r m n0 c (fun _ => s) (fun _ => 0) (fun _ => 0) 0 := ⟨fun _ _ => iv, fun _ _ => fs, fun t ht => absurd ht (Nat.not_lt_zero _), fun t ht => absurd ht (Nat.not_lt_zero _)⟩
  obtain ⟨s', d, G', h, w⟩ := lower_go (M := M) (sn := sn) P keep sz hm hn hc m9 r9 kl m0 1000000 0 _ _ _ .un .un .un R (by omega) hP rfl rfl rfl
  refine ⟨s', d, ?_, w⟩
  have fin : r_Table_lower (TD M r m sn s) (BD r s) [CD m c, .int (n0 : Int)] = outV (vwhileN (lf 0 (xtru (xc (.bl true)))) b_Table_lower_1 1000000 (TD M r m sn s) (BD r s) [.un, .im (CD m c), .im (.int (n0 : Int)), .un, .un, .un, .un]) := rfl
  rw [fin, h]
  rfl
end
end Bk
namespace Bk
open PySem L2
section
variable {M r m k l n0 : Nat} {sn : Nat → Rat} {c : Nat → Rat} {A : Nat → Nat → Rat}
theorem fst_mem {p : Nat → Bool} {n : Nat} (h : ∃ j, j < n ∧ p j = true) : ∃ e t, (List.range n).filter p = e :: t ∧ e < n ∧ p e = true := by
  cases hf : (List.range n).filter p with
  | nil =>
    obtain ⟨j, h1, h2⟩ := h
    have : j ∈ (List.range n).filter p := List.mem_filter.mpr ⟨List.mem_range.mpr h1, h2⟩
    rw [hf] at this
    cases this
  | cons e t =>
    obtain ⟨h1, h2, _⟩ := fst_of hf
    exact ⟨e, t, rfl, h1, h2⟩
/-- nothing but 0 is worth nothing -/
def Indep (A : Nat → Nat → Rat) (M r : Nat) : Prop := ∀ y : Nat → Rat, (∀ j, j < M → Lp.sg r (fun i => y i * A i j) = 0) → ∀ i, i < r → y i = 0
theorem own_col {s : Lp.St} (iv : Lp.Inv A r m s) (hm : m = M + r) (ind : Indep A M r) {i : Nat} (hi : i < r) (hb : M ≤ s.b i) : ∃ j, j < M ∧ s.L i j ≠ 0 := by
  refine Classical.byContradiction fun z => ?_
  have z0 : ∀ j, j < M → s.L i j = 0 := fun j hj => Classical.byContradiction fun w => z ⟨j, hj, w⟩
  have y0 := ind (fun t => s.L i (M + t)) fun j hj => by
    have := iv.la i j hi (by omega)
    rw [show m - r = M by omega] at this
    rw [← this]
    exact z0 j hj
  have lt := iv.lt i hi
  have := y0 (s.b i - M) (by omega)
  have e : M + (s.b i - M) = s.b i := by omega
  rw [e, iv.id i i hi hi, if_pos rfl] at this
  exact absurd this (by decide +kernel)
/-- what clear leaves -/
structure Clr (A : Nat → Nat → Rat) (M r m n : Nat) (s s' : Lp.St) : Prop where
  iv : Lp.Inv A r m s'
  va : ∀ i, i < r → s'.L i m = s.L i m
  ov : ∀ i, i < r → s'.b i < M ∨ s'.L i m = 0
  fr : ∀ i, i < n → s'.b i < M
def cl0 (s : Lp.St) (i : Nat) (j : Nat) : Bool := !decide (s.L i j = 0)
theorem cl_body {s : Lp.St} (t : TOk9 r m k s) (hm : m = M + r) (m9 : m ≤ 1000) (r9 : r ≤ 20) (hk : k ≤ 300) {i : Nat} (hi : i < r) {x2 : Ent} (h2 : x2.mu = none) (own : M ≤ s.b i → ∃ j, j < M ∧ s.L i j ≠ 0) :
    (s.b i < M ∧ b_Table_clear_1 (TD M r m sn s) (BD r s) [.un, .im (.int (i : Int)), x2, .un] = some (.nx, TD M r m sn s, BD r s, [.un, .im (.int (i : Int)), x2, .un])) ∨
    ∃ e, M ≤ s.b i ∧ e < M ∧ s.L i e ≠ 0 ∧ b_Table_clear_1 (TD M r m sn s) (BD r s) [.un, .im (.int (i : Int)), x2, .un] = some (.nx, TD M r m sn (Lp.turn s i e), BD r (Lp.turn s i e), [.un, .im (.int (i : Int)), .im (.int ((e : Nat) : Int)), .un]) := by
  obtain ⟨ds, hds⟩ : ∃ ds, ds = TD M r m sn s := ⟨_, rfl⟩
  obtain ⟨bs, hbs⟩ : ∃ bs, bs = BD r s := ⟨_, rfl⟩
  have f4 : ∀ {G : Gam}, G[0]? = some (.im (tabD ds bs)) → xfld 5 4 (xv 0) G = some (.im (.lst (BD r s)), G) := fun {G} h => xfld_ok (r := .im (tabD ds bs)) (by unfold xv; rw [h]) rfl (by rw [hds, hbs]; rfl)
  have f3 : ∀ {G : Gam}, G[0]? = some (.im (tabD ds bs)) → xfld 5 3 (xv 0) G = some (.im (LD r m s), G) := fun {G} h => xfld_ok (r := .im (tabD ds bs)) (by unfold xv; rw [h]) rfl (by rw [hds]; rfl)
  have f0 : ∀ {G : Gam}, G[0]? = some (.im (tabD ds bs)) → xfld 5 0 (xv 0) G = some (.im (.int (M : Int)), G) := fun {G} h => xfld_ok (r := .im (tabD ds bs)) (by unfold xv; rw [h]) rfl (by rw [hds]; rfl)
  rw [← hds, ← hbs]
  have mu : ∀ e ∈ [Ent.un, .im (.int (i : Int)), x2, .un], e.mu = none := by
    intro e he
    simp only [List.mem_cons, List.not_mem_nil, or_false] at he
    rcases he with rfl | rfl | rfl | rfl <;> first | assumption | rfl
  have te : lend9 0 (fun _ _ => true) (xtest (xop opGe (xop opIx (xfld 5 4 (xv 0)) (xv 1)) (xfld 5 0 (xv 0)))) ds bs [.un, .im (.int (i : Int)), x2, .un] = some (decide (M ≤ s.b i), [.un, .im (.int (i : Int)), x2, .un]) := by
    refine lend_ok9 rfl (xtest_ok (xo2 (x := .int (s.b i : Int)) (y := .int (M : Int)) (xo2 (f4 rfl) rfl (rgD_ix _ hi)) (f0 rfl) ?_)) rfl mu
    show some (R.im (.bl (decide ((M : Int) ≤ (s.b i : Int))))) = _
    rw [show decide ((M : Int) ≤ (s.b i : Int)) = decide (M ≤ s.b i) from decide_eq_decide.mpr (by omega)]
  by_cases z : M ≤ s.b i
  case neg =>
    rw [decide_eq_false z] at te
    exact .inl ⟨by omega, vifs_no9 te⟩
  case pos =>
    right
    rw [decide_eq_true z] at te
    obtain ⟨j, hj, hn⟩ := own z
    obtain ⟨e, tl, hf, he, hp⟩ := fst_mem (p := cl0 s i) (n := M) ⟨j, hj, by unfold cl0; rw [decide_eq_false hn]; rfl⟩
    have ne0 : s.L i e ≠ 0 := fun w => by
      unfold cl0 at hp
      rw [decide_eq_true w] at hp
      cases hp
    refine ⟨e, z, he, ne0, ?_⟩
    have lc : xlc (xrange1 (xcons (xfld 5 0 (xv 0)) xnil)) (tgn 3) (xtest (xop opNe (xop opIx (xop opIx (xfld 5 3 (xv 0)) (xv 1)) (xv 3)) (xc c_NOUGHT))) (xv 3) [3] [.im (tabD ds bs), .im (.int (i : Int)), x2, .un] = some (.ol ((e :: tl).map fun (j : Nat) => D.int (j : Int)), [.im (tabD ds bs), .im (.int (i : Int)), x2, .un]) := by
      refine xlc_un (ds := (List.range M).map fun (j : Nat) => D.int (j : Int)) (by
        refine (xrange1_ok (n := (M : Int)) (xc1 (f0 rfl) xnil_ok) (okR_of (by omega) (by omega))).trans ?_
        rw [Int.toNat_natCast, rng_rgD]
        rfl) rfl rfl rfl ?_ (by
        rw [List.length_map, ← hf]
        refine Nat.le_trans (List.length_filter_le _ _) ?_
        rw [List.length_range]; omega)
      rw [← hf]
      refine xlcL_fil9 fun j hj => ?_
      have hj := List.mem_range.mp hj
      exact ⟨_, rfl, xtest_ok (xo2 (x := vq (s.L i j)) (y := vq 0) (xo2 (xo2 (f3 rfl) rfl (rgD_ix _ hi)) rfl (rgD_ix _ (by omega))) rfl (ne_vq _ _)), rfl, rfl⟩
    have f0' : opIx (.lst ((e :: tl).map fun (j : Nat) => D.int (j : Int))) (.int 0) = some (.im (.int (e : Int))) := by
      show (atI ((e :: tl).map fun (j : Nat) => D.int (j : Int)) (0 : Int)).map R.im = _
      have := atI_nat ((e :: tl).map fun (j : Nat) => D.int (j : Int)) 0 (by simp)
      rw [show ((0 : Nat) : Int) = 0 from rfl] at this
      rw [this]
      rfl
    have c2 : (vset 2 (vfz (lend9 0 flatR (xop opIx (xlc (xrange1 (xcons (xfld 5 0 (xv 0)) xnil)) (tgn 3) (xtest (xop opNe (xop opIx (xop opIx (xfld 5 3 (xv 0)) (xv 1)) (xv 3)) (xc c_NOUGHT))) (xv 3) [3]) (xc (.int 0)))))) ds bs [.un, .im (.int (i : Int)), x2, .un] = some (.nx, ds, bs, [.un, .im (.int (i : Int)), .im (.int (e : Int)), .un]) :=
      vset_ok9 (r := .im (.int (e : Int))) (vfz_ok9 (r := .im (.int (e : Int))) (lend_ok9 (r := .im (.int (e : Int))) rfl (xop_ok (y := .im (.int 0)) lc rfl f0') (nb1_int bs (e : Int)) mu) rfl) rfl
    unfold b_Table_clear_1
    rw [vifs_ye9 te, vseq_e c2]
    refine vdropW_ok9 (r := .non) (wmeth_ok9 (xs := [.int (i : Int), .int (e : Int)]) (vcons_ok9 (lf_ok9 (r := .im (.int (i : Int))) rfl rfl) rfl (vcons_ok9 (lf_ok9 (r := .im (.int (e : Int))) rfl rfl) rfl (lf_ok9 xnil_ok rfl))) ?_)
    rw [hds, hbs]
    exact v_turn t hi (by omega) ne0 m9 r9 hk
theorem v_clear (sz : ∀ s, Lp.Inv A r m s → TOk9 r m k s) (hm : m = M + r) (m9 : m ≤ 1000) (r9 : r ≤ 20) (hk : k ≤ 300) (ind : Indep A M r) {s : Lp.St} (iv : Lp.Inv A r m s) (ov : ∀ i, i < r → s.b i < M ∨ s.L i m = 0) :
    ∃ s', r_Table_clear (TD M r m sn s) (BD r s) [] = some (.non, TD M r m sn s', BD r s') ∧ Clr A M r m r s s' := by
  obtain ⟨ds', bs', G', g1, s', rfl, rfl, hc, x1, x2, h1, h2, rfl⟩ := vforL_inv9 (i := 0) (tg := tgn 1) (a := b_Table_clear_1) (f := fun i => .int (i : Int)) (n := r) (fun n ds bs G => ∃ s', ds = TD M r m sn s' ∧ bs = BD r s' ∧ Clr A M r m n s s' ∧ ∃ x1 x2 : Ent, (x1 = .un ∨ ∃ d, x1 = .im d) ∧ x2.mu = none ∧ G = [Ent.un, x1, x2, .un]) (ds := TD M r m sn s) (bs := BD r s) (G := [.un, .un, .un, .un]) ⟨s, rfl, rfl, ⟨iv, fun _ _ => rfl, ov, fun i h => absurd h (Nat.not_lt_zero _)⟩, .un, .un, .inl rfl, rfl, rfl⟩ (fun n ds bs G hn hG => by
    obtain ⟨s1, rfl, rfl, hc, x1, x2, h1, h2, rfl⟩ := hG
    have tg : tgn 1 (.int (n : Int)) [Ent.un, x1, x2, .un] = some [.un, .im (.int (n : Int)), x2, .un] := by
      rcases h1 with rfl | ⟨d, rfl⟩ <;> rfl
    rcases cl_body (M := M) (sn := sn) (sz _ hc.iv) hm m9 r9 hk hn h2 (own_col hc.iv hm ind hn) with ⟨w1, w2⟩ | ⟨e, w1, w2, w3, w4⟩
    · refine ⟨_, _, _, _, tg, rfl, w2, s1, rfl, rfl, ⟨hc.iv, hc.va, hc.ov, fun i hi => ?_⟩, _, x2, .inr ⟨_, rfl⟩, h2, rfl⟩
      by_cases z : i = n
      · rw [z]; exact w1
      · exact hc.fr i (by omega)
    · refine ⟨_, _, _, _, tg, rfl, w4, Lp.turn s1 n e, rfl, rfl, ?_, _, _, .inr ⟨_, rfl⟩, rfl, rfl⟩
      have z0 : s1.L n m = 0 := by
        rcases hc.ov n hn with h | h
        · omega
        · exact h
      have same : ∀ i, (Lp.turn s1 n e).L i m = s1.L i m := fun i => by
        show (if i = n then s1.L n m / s1.L n e else s1.L i m - s1.L i e * (s1.L n m / s1.L n e)) = _
        split
        · rename_i y
          rw [y, z0, Rat.div_def]
          grind
        · rw [z0, Rat.div_def]
          grind
      refine ⟨hc.iv.turn hn (by omega) w3, fun i hi => (same i).trans (hc.va i hi), fun i hi => ?_, fun i hi => ?_⟩
      · rw [same]
        show (if i = n then e else s1.b i) < M ∨ _
        split
        · exact .inl w2
        · exact hc.ov i hi
      · show (if i = n then e else s1.b i) < M
        split
        · exact w2
        · exact hc.fr i (by omega))
  refine ⟨s', ?_, hc⟩
  have run : b_Table_clear (TD M r m sn s) (BD r s) [.un, .un, .un, .un] = some (.nx, TD M r m sn s', BD r s', [Ent.un, x1, x2, .un]) := by
    unfold b_Table_clear
    refine vfor_ok9 (es := rgD r fun i => .int (i : Int)) ?_ g1
    unfold vrange
    rw [vat_ok9 (d := .int (r : Int)) rfl]
    show (if okR (r : Int) then some (rng 0 ((r : Int)).toNat, _) else none) = _
    rw [if_pos (okR_of (by omega) (by omega)), Int.toNat_natCast, rng_rgD]
  have fin : r_Table_clear (TD M r m sn s) (BD r s) [] = outV (b_Table_clear (TD M r m sn s) (BD r s) [.un, .un, .un, .un]) := rfl
  rw [fin, run]
  rfl
end
end Bk
namespace Bk
open PySem L2
theorem htM : Ht (-1) 1 := by
  constructor
  · show (-1 : Int).natAbs < 2 ^ 1; decide
  · show (1 : Int).natAbs < 2 ^ 1; decide
theorem xput_ok {i : Nat} {a b : M R} {G G1 G2 G3 : Gam} {x y : R} {k : Int} {en : Ent} {ds : List D} {j : Nat} (h : a G = some (x, G1)) (h0 : isMu G1 i = true) (h' : b G1 = some (y, G2)) (hy : y.d = .int k) (hi : G2[i]? = some en) (hm : en.mu = some (.l ds)) (hj : ixN ds.length k = some j) (e3 : G2.set i (en.with (.l (ds.set j x.d))) = G3) :
    xput i a b G = some (.nx, G3) := by
  subst e3
  unfold xput
  rw [h]
  show (if isMu G1 i = true then bd (b G1) fun k G2 => put i x.d k.d G2 else none) = _
  rw [if_pos h0, h']
  show put i x.d y.d G2 = _
  unfold put
  rw [hy]
  simp only [hi, hm, hj]
section
variable {M r m k l n0 : Nat} {sn : Nat → Rat} {c : Nat → Rat} {A : Nat → Nat → Rat} {s : Lp.St}
theorem rep_rg (n : Nat) (d : D) : (List.replicate n [d]).flatten = rgD n fun _ => d := by
  rw [List.flatten_replicate_singleton]
  unfold rgD
  rw [List.map_const', List.length_range]
theorem mul_rg (n : Nat) (d : D) (h : n ≤ 90000) : opMul (.lst [d]) (.int (n : Int)) = some (.ol (rgD n fun _ => d)) := by
  show (if okR (n : Int) && few ([d].length * ((n : Int)).toNat) then some (R.ol (List.replicate ((n : Int)).toNat [d]).flatten) else none) = _
  rw [Int.toNat_natCast, rep_rg, okR_of (by omega) (by omega), if_pos]
  simp only [List.length_singleton, Nat.one_mul, Bool.true_and]
  exact fewl (by omega)
theorem cut_lo (M r : Nat) (f : Nat → D) : cutD (rgD (M + r) f) none (some (M : Int)) = rgD M f := by
  unfold cutD
  rw [rgD_len, HT.sIx_none, HT.sIx_nat, List.drop_zero, Nat.sub_zero, Nat.min_eq_left (by omega)]
  unfold rgD
  rw [← List.map_take, List.take_range, Nat.min_eq_left (by omega)]
theorem cut_hi9 (M r : Nat) (f : Nat → D) : cutD (rgD (M + r) f) (some (M : Int)) none = rgD r fun i => f (M + i) := by
  unfold cutD
  rw [rgD_len, HT.sIx_none, HT.sIx_nat, Nat.min_eq_left (by omega)]
  rw [List.take_of_length_le (by rw [List.length_drop, rgD_len]; omega)]
  unfold rgD
  refine List.ext_getElem? fun j => ?_
  rw [List.getElem?_drop, List.getElem?_map, List.getElem?_map]
  by_cases h : j < r
  · rw [List.getElem?_range (by omega), List.getElem?_range h]
    rfl
  · rw [List.getElem?_eq_none (by rw [List.length_range]; omega), List.getElem?_eq_none (by rw [List.length_range]; omega)]
    rfl
/-- written one after the other -/
def wrt (b : Nat → Nat) (g : Nat → Rat) (u : Nat → Rat) : Nat → Nat → Rat
  | 0, j => u j
  | n + 1, j => if j = b n then g n else wrt b g u n j
theorem wrt_eq {b : Nat → Nat} {g u : Nat → Rat} {j : Nat} : ∀ {n : Nat}, (∀ i k, i < n → k < n → b i = b k → i = k) → (∀ i, i < n → b i = j → u j = 0) → wrt b g u n j = u j + Lp.sg n fun i => if b i = j then g i else 0
  | 0, _, _ => by
    show u j = u j + 0
    grind
  | n + 1, inj, hu => by
    have ih := wrt_eq (b := b) (g := g) (u := u) (j := j) (n := n) (fun i k hi hk => inj i k (by omega) (by omega)) fun i hi => hu i (by omega)
    show (if j = b n then g n else wrt b g u n j) = u j + (Lp.sg n (fun i => if b i = j then g i else 0) + if b n = j then g n else 0)
    by_cases z : b n = j
    · rw [if_pos z.symm, if_pos z, hu n (by omega) z, Lp.sg_zero fun i hi => if_neg fun y => by
        have := inj i n (by omega) (by omega) (y.trans z.symm)
        omega]
      grind
    · rw [if_neg (Ne.symm z), if_neg z, ih]
      grind
theorem wrt_set (b : Nat → Nat) (g u : Nat → Rat) (m n : Nat) (hb : b n < m) : (rgD m fun j => vq (wrt b g u n j)).set (b n) (vq (g n)) = rgD m fun j => vq (wrt b g u (n + 1) j) := by
  rw [rgD_set]
  unfold rgD
  refine List.map_congr_left fun j _ => ?_
  show (if j = b n then vq (g n) else vq (wrt b g u n j)) = vq (if j = b n then g n else wrt b g u n j)
  split <;> rfl
theorem ix_rg {n : Nat} (f : Nat → D) {i : Nat} (h : i < n) : ixN (rgD n f).length (i : Int) = some i := by
  unfold ixN
  rw [rgD_len, if_pos (by omega), if_pos (by omega), Int.toNat_natCast]
theorem v_values_now (iv : Lp.Inv A r m s) (hm : m = M + r) (m9 : m ≤ 1000) : r_Table_values_now [TT9 M r m sn s] = some (.ol (rgD M fun j => vq (Lp.vals r m s j))) := by
  obtain ⟨T, hT⟩ : ∃ T, T = TT9 M r m sn s := ⟨_, rfl⟩
  have f4 : ∀ {G : Gam}, G[0]? = some (.im T) → xfld 5 4 (xv 0) G = some (.im (.lst (BD r s)), G) := fun {G} h => xfld_ok (r := .im T) (by unfold xv; rw [h]) (by rw [hT]; rfl) rfl
  have f3 : ∀ {G : Gam}, G[0]? = some (.im T) → xfld 5 3 (xv 0) G = some (.im (LD r m s), G) := fun {G} h => xfld_ok (r := .im T) (by unfold xv; rw [h]) (by rw [hT]; rfl) rfl
  have f1 : ∀ {G : Gam}, G[0]? = some (.im T) → xfld 5 1 (xv 0) G = some (.im (.int (r : Int)), G) := fun {G} h => xfld_ok (r := .im T) (by unfold xv; rw [h]) (by rw [hT]; rfl) rfl
  have f0 : ∀ {G : Gam}, G[0]? = some (.im T) → xfld 5 0 (xv 0) G = some (.im (.int (M : Int)), G) := fun {G} h => xfld_ok (r := .im T) (by unfold xv; rw [h]) (by rw [hT]; rfl) rfl
  rw [← hT]
  obtain ⟨w, hw⟩ : ∃ w, w = wrt s.b (fun i => s.L i m) (fun _ => 0) := ⟨_, rfl⟩
  obtain ⟨G', g1, x2, x3, _, _, rfl⟩ := xforL_app9 (tg := tgt [(tgn 2), (tgn 3)]) (b := b_Table_values_now_1) (f := fun i => .tup [.int (i : Int), .int (s.b i)]) (g := fun _ => .non) (fun out G => ∃ x2 x3 : Ent, (x2 = .un ∨ ∃ d, x2 = .im d) ∧ (x3 = .un ∨ ∃ d, x3 = .im d) ∧ G = [Ent.im T, .ol (rgD m fun j => vq (w out.length j)), x2, x3]) (n := r) (G := [.im T, .ol (rgD m fun _ => vq 0), .un, .un]) ⟨.un, .un, .inl rfl, .inl rfl, by rw [hw]; rfl⟩ (fun n G hn hG => by
    obtain ⟨x2, x3, h2, h3, rfl⟩ := hG
    rw [rgD_len]
    refine ⟨[.im T, .ol (rgD m fun j => vq (w n j)), .im (.int (n : Int)), .im (.int (s.b n))], [.im T, .ol (rgD m fun j => vq (w (n + 1) j)), .im (.int (n : Int)), .im (.int (s.b n))], ?_, ?_, _, _, .inr ⟨_, rfl⟩, .inr ⟨_, rfl⟩, by rw [rgD_len]⟩
    · rcases h2 with rfl | ⟨d2, rfl⟩ <;> rcases h3 with rfl | ⟨d3, rfl⟩ <;> rfl
    · refine xput_ok (x := .im (vq (s.L n m))) (y := .im (.int (s.b n))) (k := (s.b n : Int)) (ds := rgD m fun j => vq (w n j)) (j := s.b n) (en := .ol (rgD m fun j => vq (w n j))) (xo2 (y := .int (-1)) (xo2 (f3 rfl) rfl (rgD_ix _ hn)) rfl (rgD_last _ _)) rfl rfl rfl rfl rfl (ix_rg _ (iv.lt n hn)) ?_
      rw [hw]
      show [Ent.im T, .ol ((rgD m fun j => vq (wrt s.b (fun i => s.L i m) (fun _ => 0) n j)).set (s.b n) (vq (s.L n m))), .im (.int (n : Int)), .im (.int (s.b n))] = _
      rw [wrt_set s.b (fun i => s.L i m) (fun _ => 0) m n (iv.lt n hn)])
  rw [rgD_len] at g1
  have e : (rgD m fun j => vq (w r j)) = rgD m fun j => vq (Lp.vals r m s j) := by
    unfold rgD
    refine List.map_congr_left fun j _ => ?_
    rw [hw, wrt_eq (fun i k hi hk => iv.inj hi hk) fun _ _ _ => rfl]
    unfold Lp.vals
    congr 1
    grind
  rw [e] at g1
  refine runF_st rfl ?_
  refine st_nx (G1 := [.im T, .ol (rgD m fun _ => vq 0), .un, .un]) (xset_e (xop_ok (x := .ol [vq 0]) (y := .im (.int (m : Int))) (xlst_ok (xc1 rfl xnil_ok) rfl) (xo2 (x := .int (M : Int)) (y := .int (r : Int)) (f0 rfl) (f1 rfl) (by rw [hm]; rfl)) (mul_rg m (vq 0) (by omega))) rfl) ?_
  refine st_nx (xfor_ok (ds := rgD r fun i => .tup [.int (i : Int), .int (s.b i)]) (by
    unfold xenumA
    rw [xc1 (f4 rfl) xnil_ok]
    show some (enumD 0 (rgD r fun i => .int (s.b i)), _) = _
    rw [enumD_rg]) g1) ?_
  refine st_ret (G1 := [.im T, .im (.lst (rgD m fun j => vq (Lp.vals r m s j))), x2, x3]) ?_
  refine xsl_ok (x := .im (.lst (rgD m fun j => vq (Lp.vals r m s j)))) (i := none) (j := some (M : Int)) rfl rfl ?_ ?_
  · unfold xpart
    rw [f0 rfl]
    rfl
  · show some (R.ol (cutD (rgD m _) none (some (M : Int)))) = _
    rw [hm, cut_lo]
theorem v_way_of (iv : Lp.Inv A r m s) (t : TOk9 r m k s) (hk : k ≤ 300) (hm : m = M + r) (m9 : m ≤ 1000) {e : Nat} (he : e < m) (off : ∀ i, i < r → s.b i ≠ e) : r_Table_way_of [TT9 M r m sn s, .int (e : Int)] = some (.ol (rgD M fun j => vq (Lp.way r s e j))) := by
  obtain ⟨T, hT⟩ : ∃ T, T = TT9 M r m sn s := ⟨_, rfl⟩
  have f4 : ∀ {G : Gam}, G[0]? = some (.im T) → xfld 5 4 (xv 0) G = some (.im (.lst (BD r s)), G) := fun {G} h => xfld_ok (r := .im T) (by unfold xv; rw [h]) (by rw [hT]; rfl) rfl
  have f3 : ∀ {G : Gam}, G[0]? = some (.im T) → xfld 5 3 (xv 0) G = some (.im (LD r m s), G) := fun {G} h => xfld_ok (r := .im T) (by unfold xv; rw [h]) (by rw [hT]; rfl) rfl
  have f1 : ∀ {G : Gam}, G[0]? = some (.im T) → xfld 5 1 (xv 0) G = some (.im (.int (r : Int)), G) := fun {G} h => xfld_ok (r := .im T) (by unfold xv; rw [h]) (by rw [hT]; rfl) rfl
  have f0 : ∀ {G : Gam}, G[0]? = some (.im T) → xfld 5 0 (xv 0) G = some (.im (.int (M : Int)), G) := fun {G} h => xfld_ok (r := .im T) (by unfold xv; rw [h]) (by rw [hT]; rfl) rfl
  rw [← hT]
  obtain ⟨w, hw⟩ : ∃ w, w = wrt s.b (fun i => -1 * s.L i e) (fun j => if j = e then 1 else 0) := ⟨_, rfl⟩
  obtain ⟨G', g1, x2, x3, _, _, rfl⟩ := xforL_app9 (tg := tgt [(tgn 3), (tgn 4)]) (b := b_Table_way_of_1) (f := fun i => .tup [.int (i : Int), .int (s.b i)]) (g := fun _ => .non) (fun out G => ∃ x2 x3 : Ent, (x2 = .un ∨ ∃ d, x2 = .im d) ∧ (x3 = .un ∨ ∃ d, x3 = .im d) ∧ G = [Ent.im T, .im (.int (e : Int)), .ol (rgD m fun j => vq (w out.length j)), x2, x3]) (n := r) (G := [.im T, .im (.int (e : Int)), .ol (rgD m fun j => vq (w 0 j)), .un, .un]) ⟨.un, .un, .inl rfl, .inl rfl, rfl⟩ (fun n G hn hG => by
    obtain ⟨x2, x3, h2, h3, rfl⟩ := hG
    rw [rgD_len]
    refine ⟨[.im T, .im (.int (e : Int)), .ol (rgD m fun j => vq (w n j)), .im (.int (n : Int)), .im (.int (s.b n))], [.im T, .im (.int (e : Int)), .ol (rgD m fun j => vq (w (n + 1) j)), .im (.int (n : Int)), .im (.int (s.b n))], ?_, ?_, _, _, .inr ⟨_, rfl⟩, .inr ⟨_, rfl⟩, by rw [rgD_len]⟩
    · rcases h2 with rfl | ⟨d2, rfl⟩ <;> rcases h3 with rfl | ⟨d3, rfl⟩ <;> rfl
    · refine xput_ok (x := .im (vq (-1 * s.L n e))) (y := .im (.int (s.b n))) (k := (s.b n : Int)) (ds := rgD m fun j => vq (w n j)) (j := s.b n) (en := .ol (rgD m fun j => vq (w n j))) (xcall_ok (xc1 (d := vq (-1)) rfl (xc1 (xo2 (xo2 (f3 rfl) rfl (rgD_ix _ hn)) rfl (rgD_ix _ (by omega))) xnil_ok)) (v_multiplied htM (t.h n e hn (Nat.le_of_lt he)) (by omega))) rfl rfl rfl rfl rfl (ix_rg _ (iv.lt n hn)) ?_
      rw [hw]
      show [Ent.im T, .im (.int (e : Int)), .ol ((rgD m fun j => vq (wrt s.b (fun i => -1 * s.L i e) (fun j => if j = e then 1 else 0) n j)).set (s.b n) (vq (-1 * s.L n e))), .im (.int (n : Int)), .im (.int (s.b n))] = _
      rw [wrt_set s.b (fun i => -1 * s.L i e) (fun j => if j = e then 1 else 0) m n (iv.lt n hn)])
  rw [rgD_len] at g1
  have e9 : (rgD m fun j => vq (w r j)) = rgD m fun j => vq (Lp.way r s e j) := by
    unfold rgD
    refine List.map_congr_left fun j _ => ?_
    rw [hw, wrt_eq (fun i k hi hk => iv.inj hi hk) fun i hi z => if_neg fun y => off i hi (z.trans y)]
    unfold Lp.way
    have : (fun i => if s.b i = j then -1 * s.L i e else 0) = fun i => (-1) * (if s.b i = j then s.L i e else 0) := by
      funext i
      split <;> grind
    rw [this, Lp.sg_mul]
    congr 1
    grind
  rw [e9] at g1
  refine runF_st rfl ?_
  refine st_nx (G1 := [.im T, .im (.int (e : Int)), .ol (rgD m fun _ => vq 0), .un, .un]) (xset_e (xop_ok (x := .ol [vq 0]) (y := .im (.int (m : Int))) (xlst_ok (xc1 rfl xnil_ok) rfl) (xo2 (x := .int (M : Int)) (y := .int (r : Int)) (f0 rfl) (f1 rfl) (by rw [hm]; rfl)) (mul_rg m (vq 0) (by omega))) rfl) ?_
  refine st_nx (G1 := [.im T, .im (.int (e : Int)), .ol (rgD m fun j => vq (w 0 j)), .un, .un]) (xput_ok (x := .im (vq 1)) (y := .im (.int (e : Int))) (k := (e : Int)) (ds := rgD m fun _ => vq 0) (j := e) (en := .ol (rgD m fun _ => vq 0)) rfl rfl rfl rfl rfl rfl (ix_rg _ he) (by
    rw [hw]
    show [Ent.im T, .im (.int (e : Int)), .ol ((rgD m fun _ => vq 0).set e (vq 1)), .un, .un] = [Ent.im T, .im (.int (e : Int)), .ol (rgD m fun j => vq (if j = e then 1 else 0)), .un, .un]
    rw [rgD_set]
    congr 3
    unfold rgD
    congr 1
    refine List.map_congr_left fun j _ => ?_
    split <;> rfl)) ?_
  refine st_nx (xfor_ok (ds := rgD r fun i => .tup [.int (i : Int), .int (s.b i)]) (by
    unfold xenumA
    rw [xc1 (f4 rfl) xnil_ok]
    show some (enumD 0 (rgD r fun i => .int (s.b i)), _) = _
    rw [enumD_rg]) g1) ?_
  refine st_ret (G1 := [.im T, .im (.int (e : Int)), .im (.lst (rgD m fun j => vq (Lp.way r s e j))), x2, x3]) ?_
  refine xsl_ok (x := .im (.lst (rgD m fun j => vq (Lp.way r s e j)))) (i := none) (j := some (M : Int)) rfl rfl ?_ ?_
  · unfold xpart
    rw [f0 rfl]
    rfl
  · show some (R.ol (cutD (rgD m _) none (some (M : Int)))) = _
    rw [hm, cut_lo]
theorem zip3_rg (n : Nat) (f g h : Nat → D) : zip3 (rgD n f) (rgD n g) (rgD n h) = rgD n fun i => .tup [f i, g i, h i] := by
  unfold rgD
  induction (List.range n) with
  | nil => rfl
  | cons a t ih =>
    show D.tup [f a, g a, h a] :: zip3 (t.map f) (t.map g) (t.map h) = _
    rw [ih]
    rfl
/-- what each equation is worth, by signs -/
theorem v_counts_of (t : TOk9 r m k s) (hm : m = M + r) (hc : ∀ j, j < m → Ht (c j) l) (m9 : m ≤ 1000) (r9 : r ≤ 20) (kl : k + l ≤ 300) (hs : ∀ i, i < r → Ht (sn i) 1) : r_Table_counts_of [TT9 M r m sn s, CD m c] = some (.im (.tup (rgD r fun i => vq (sn i * Lp.dual r m c s i)))) := by
  have rdH : ∀ j, j < m → Ht (Lp.red r c s j) (l + (1 + r * (l + k + 1)) + 1) := fun j hj => by
    have := sumQ_ht (k := l + k) (qs := (List.range r).map fun i => c (s.b i) * s.L i j) fun q hq => by
      obtain ⟨i, hi, rfl⟩ := List.mem_map.mp hq
      have hi := List.mem_range.mp hi
      exact (hc _ (t.b i hi)).mul (t.h i j hi (Nat.le_of_lt hj))
    rw [List.length_map, List.length_range, sumQ_rg] at this
    exact (hc j hj).sub this
  have rb : r * (l + k + 1) ≤ 20 * 301 := Nat.mul_le_mul r9 (by omega)
  obtain ⟨T, hT⟩ : ∃ T, T = TT9 M r m sn s := ⟨_, rfl⟩
  have f2 : ∀ {G : Gam}, G[0]? = some (.im T) → xfld 5 2 (xv 0) G = some (.im (.lst (rgD r fun i => vq (sn i))), G) := fun {G} h => xfld_ok (r := .im T) (by unfold xv; rw [h]) (by rw [hT]; rfl) rfl
  have f0 : ∀ {G : Gam}, G[0]? = some (.im T) → xfld 5 0 (xv 0) G = some (.im (.int (M : Int)), G) := fun {G} h => xfld_ok (r := .im T) (by unfold xv; rw [h]) (by rw [hT]; rfl) rfl
  have cl := v_costs_left (sn := sn) t hm hc m9 r9 kl
  rw [← hT] at cl
  rw [← hT]
  refine runF_st rfl ?_
  refine st_nx (G1 := [.im T, .im (CD m c), .ol (rgD r fun i => vq (Lp.red r c s (M + i))), .un, .un, .un, .un]) (xset_e (r := .ol (rgD r fun i => vq (Lp.red r c s (M + i)))) (xsl_ok (x := .ol (rgD m fun j => vq (Lp.red r c s j))) (i := some (M : Int)) (j := none) (xmeth_ok (r := .im T) rfl (by rw [hT]; rfl) (xc1 rfl xnil_ok) (by
    show r_Table_costs_left [_, CD m c] = _
    rw [← cl, hT]
    rfl)) (by
    unfold xpart
    rw [f0 rfl]
    rfl) rfl (by
    show some (R.ol (cutD (rgD m fun j => vq (Lp.red r c s j)) (some (M : Int)) none)) = _
    rw [hm, cut_hi9])) rfl) ?_
  refine st_nx (G1 := [.im T, .im (CD m c), .ol (rgD r fun i => vq (Lp.red r c s (M + i))), .ol (rgD r fun i => vq (c (M + i))), .un, .un, .un]) (xset_e (r := .ol (rgD r fun i => vq (c (M + i)))) (xsl_ok (x := .im (CD m c)) (i := some (M : Int)) (j := none) rfl (by
    unfold xpart
    rw [f0 rfl]
    rfl) rfl (by
    show some (R.ol (cutD (rgD m fun j => vq (c j)) (some (M : Int)) none)) = _
    rw [hm, cut_hi9])) rfl) ?_
  refine st_ret (xcb_ok (xcw (ds := rgD r fun i => vq (sn i * Lp.dual r m c s i)) (G := [.im T, .im (CD m c), .ol (rgD r fun i => vq (Lp.red r c s (M + i))), .ol (rgD r fun i => vq (c (M + i))), .un, .un, .un]) (G1 := [.im T, .im (CD m c), .im (.lst (rgD r fun i => vq (Lp.red r c s (M + i)))), .im (.lst (rgD r fun i => vq (c (M + i)))), .un, .un, .un]) ?_ xnil_ok) ?_)
  · refine xlc_un (G := [.im T, .im (CD m c), .im (.lst (rgD r fun i => vq (Lp.red r c s (M + i)))), .im (.lst (rgD r fun i => vq (c (M + i)))), .un, .un, .un]) (ds := rgD r fun i => .tup [vq (sn i), vq (c (M + i)), vq (Lp.red r c s (M + i))]) ?_ rfl rfl rfl ?_ (by rw [rgD_len]; omega)
    · unfold xzip3
      rw [xc1 (f2 rfl) (xc1 rfl (xc1 rfl xnil_ok))]
      show some (zip3 (rgD r fun i => vq (sn i)) (rgD r fun i => vq (c (M + i))) (rgD r fun i => vq (Lp.red r c s (M + i))), _) = _
      rw [zip3_rg]
      rfl
    · unfold rgD
      refine xlcL_en (fun i => vq (sn i * Lp.dual r m c s i)) fun i hi => ?_
      have hi := List.mem_range.mp hi
      have e : Lp.dual r m c s i = c (M + i) - Lp.red r c s (M + i) := by
        unfold Lp.red Lp.dual
        rw [show m - r = M by omega]
        grind
      rw [e]
      exact ⟨_, _, _, rfl, xcall_ok (xc1 rfl (xc1 (xcall_ok (xc1 rfl (xc1 rfl xnil_ok)) (v_less_by (hc _ (by omega)) (rdH _ (by omega)) (by omega))) xnil_ok)) (v_multiplied (hs i hi) ((hc _ (by omega)).sub (rdH _ (by omega))) (by omega)), rfl, rfl⟩
  · rfl
end
end Bk
namespace Bk
open PySem L2
theorem xlc_un9 {it : M (List D)} {tg : D → Gam → Option Gam} {t : M Bool} {e : M R} {vs : List Nat} {G0 G W : Gam} {ds out : List D} (h1 : it G0 = some (ds, G)) (h2 : noMu G vs = true) (hw : wipeG G vs = W) (hu : unw G W vs = G)
    (h3 : xlcL tg t e vs ds W = some (out, W)) (hf : out.length ≤ 100000) : xlc it tg t e vs G0 = some (.ol out, G) := by
  have h3' : xlcL tg t e vs ds (wipeG G vs) = some (out, W) := by rw [hw]; exact h3
  have := xlc_ok h1 h2 h3' (decide_eq_true (Nat.le_trans hf (by decide)))
  rw [hu] at this
  exact this
theorem xif_e {t : M Bool} {a b : M R} {G G1 : Gam} {k : Bool} (h : t G = some (k, G1)) : xif t a b G = if k then a G1 else b G1 := by
  unfold xif
  rw [h]
  rfl
theorem lend_ch9 {α : Type} {i : Nat} {ok : List D → α → Bool} {f : M α} {ds bs : List D} {G G1 G2 : Gam} {r : α} (h : f (G.set i (.im (tabD ds bs))) = some (r, G1)) (hk : ok bs r = true) (e : bkG bs G (G1.set i .un) = G2) : lend9 i ok f ds bs G = some (r, G2) := by
  subst e
  unfold lend9
  rw [h]
  simp only [hk, if_true]
theorem rgD_app (a b : Nat) (f g : Nat → D) : rgD a f ++ rgD b g = rgD (a + b) fun j => if j < a then f j else g (j - a) := by
  refine List.ext_getElem? fun j => ?_
  by_cases h : j < a
  · rw [List.getElem?_append_left (by rw [rgD_len]; exact h), rgD_get _ h, rgD_get _ (by omega), if_pos h]
  · rw [List.getElem?_append_right (by rw [rgD_len]; omega), rgD_len]
    by_cases h' : j < a + b
    · rw [rgD_get _ (by omega), rgD_get _ h', if_neg h]
    · rw [List.getElem?_eq_none (by rw [rgD_len]; omega), List.getElem?_eq_none (by rw [rgD_len]; omega)]
theorem sg0_ht (v : Nat → Rat) (i : Nat) : Ht (sg0 v i) 1 := by
  unfold sg0
  split
  · exact htM
  · constructor
    · show (1 : Int).natAbs < 2 ^ 1; decide
    · show (1 : Int).natAbs < 2 ^ 1; decide
section
variable {M r k : Nat} {v : Nat → Rat} {a : Nat → Nat → Rat}
theorem line9 (i : Nat) : rgD M (fun j => vq (sg0 v i * a i j)) ++ rgD r (fun t => vq (if t = i then 1 else 0)) ++ [vq (sg0 v i * v i)] = rgD (M + r + 1) fun j => vq ((tab0 M r (sg0 v) v a).L i j) := by
  rw [rgD_app, show [vq (sg0 v i * v i)] = rgD 1 fun _ => vq (sg0 v i * v i) from rfl, rgD_app]
  unfold rgD
  refine List.map_congr_left fun j _ => ?_
  show (if j < M + r then (if j < M then vq _ else vq (if j - M = i then 1 else 0)) else vq _) = vq (if j < M then _ else if j < M + r then (if j - M = i then 1 else 0) else _)
  by_cases h : j < M
  · rw [if_pos (by omega), if_pos h, if_pos h]
  · rw [if_neg h, if_neg h]
    split <;> rfl
theorem v_Table_init (hv : ∀ i, i < r → Ht (v i) k) (ha : ∀ i j, i < r → j < M → Ht (a i j) k) (m9 : M + r ≤ 1000) (r9 : r ≤ 20) (hk : k ≤ 300) :
    r_Table_init [.lst (rgD M fun j => .lst (rgD r fun i => vq (a i j))), .lst (rgD r fun i => vq (v i))] = some (TD M r (M + r) (sg0 v) (tab0 M r (sg0 v) v a), BD r (tab0 M r (sg0 v) v a)) := by
  obtain ⟨cs, hcs⟩ : ∃ cs : List D, cs = rgD M fun j => .lst (rgD r fun i => vq (a i j)) := ⟨_, rfl⟩
  obtain ⟨vs, hvs⟩ : ∃ vs : List D, vs = rgD r fun i => vq (v i) := ⟨_, rfl⟩
  obtain ⟨s, hs⟩ : ∃ s, s = tab0 M r (sg0 v) v a := ⟨_, rfl⟩
  obtain ⟨si, hsi⟩ : ∃ si : List D, si = rgD r fun i => vq (sg0 v i) := ⟨_, rfl⟩
  obtain ⟨ds3, hd3⟩ : ∃ ds3 : List D, ds3 = [.int (M : Int), .int (r : Int), .lst si] := ⟨_, rfl⟩
  have cl : cs.length = M := by rw [hcs, rgD_len]
  have vl : vs.length = r := by rw [hvs, rgD_len]
  rw [← hcs, ← hvs, ← hs]
  have st0 : xsetf 0 5 0 (xcb cbLen (xcons (xv 1) xnil)) [.bx (.o 5 []), .im (.lst cs), .im (.lst vs), .un, .un, .un, .un, .un] = some (.nx, [.bx (.o 5 [.int (M : Int)]), .im (.lst cs), .im (.lst vs), .un, .un, .un, .un, .un]) := by
    unfold xsetf
    rw [xcb_ok (r := .im (.int (M : Int))) (xc1 rfl xnil_ok) (by show some (R.im (.int ((cs.length : Nat) : Int))) = _; rw [cl])]
    rfl
  have st1 : xsetf 0 5 1 (xcb cbLen (xcons (xv 2) xnil)) [.bx (.o 5 [.int (M : Int)]), .im (.lst cs), .im (.lst vs), .un, .un, .un, .un, .un] = some (.nx, [.bx (.o 5 [.int (M : Int), .int (r : Int)]), .im (.lst cs), .im (.lst vs), .un, .un, .un, .un, .un]) := by
    unfold xsetf
    rw [xcb_ok (r := .im (.int (r : Int))) (xc1 rfl xnil_ok) (by show some (R.im (.int ((vs.length : Nat) : Int))) = _; rw [vl])]
    rfl
  have lc2 : xlc (xseqI (xv 2)) (tgn 4) xtyes (xif (xtru (xcall r_is_less (xcons (xv 4) (xcons (xc c_NOUGHT) xnil)))) (xc c_MINUS) (xc c_ONE)) [4] [.bx (.o 5 [.int (M : Int), .int (r : Int)]), .im (.lst cs), .im (.lst vs), .un, .un, .un, .un, .un] = some (.ol si, [.bx (.o 5 [.int (M : Int), .int (r : Int)]), .im (.lst cs), .im (.lst vs), .un, .un, .un, .un, .un]) := by
    refine xlc_un (ds := vs) (xseqI_ok rfl rfl) rfl rfl rfl ?_ (by rw [hsi, rgD_len]; omega)
    rw [hvs, hsi]
    unfold rgD
    refine xlcL_en (fun i => vq (sg0 v i)) fun i hi => ?_
    have hi := List.mem_range.mp hi
    refine ⟨_, .im (vq (sg0 v i)), [.bx (.o 5 [.int (M : Int), .int (r : Int)]), .im (.lst cs), .im (.lst ((List.range r).map fun i => vq (v i))), .un, .im (vq (v i)), .un, .un, .un], rfl, ?_, rfl, rfl⟩
    have te : xtru (xcall r_is_less (xcons (xv 4) (xcons (xc c_NOUGHT) xnil))) [.bx (.o 5 [.int (M : Int), .int (r : Int)]), .im (.lst cs), .im (.lst ((List.range r).map fun i => vq (v i))), .un, .im (vq (v i)), .un, .un, .un] = some (decide (v i < 0), [.bx (.o 5 [.int (M : Int), .int (r : Int)]), .im (.lst cs), .im (.lst ((List.range r).map fun i => vq (v i))), .un, .im (vq (v i)), .un, .un, .un]) := xtrub (xcall_ok (xc1 (d := vq (v i)) rfl (xc1 (d := vq 0) rfl xnil_ok)) (v_is_less (hv i hi) ht0 (by omega)))
    refine (xif_e te).trans ?_
    unfold sg0
    by_cases z : v i < 0
    · rw [decide_eq_true z, if_pos z]; rfl
    · rw [decide_eq_false z, if_neg z]; rfl
  have st2 : xsetf 0 5 2 (xlc (xseqI (xv 2)) (tgn 4) xtyes (xif (xtru (xcall r_is_less (xcons (xv 4) (xcons (xc c_NOUGHT) xnil)))) (xc c_MINUS) (xc c_ONE)) [4]) [.bx (.o 5 [.int (M : Int), .int (r : Int)]), .im (.lst cs), .im (.lst vs), .un, .un, .un, .un, .un] = some (.nx, [.bx (.o 5 ds3), .im (.lst cs), .im (.lst vs), .un, .un, .un, .un, .un]) := by
    unfold xsetf
    rw [lc2, hd3]
    rfl
  let line : Nat → D := fun i => .lst (rgD (M + r + 1) fun j => vq (s.L i j))
  have f2 : ∀ {G : Gam} {bs : List D}, G[0]? = some (.im (tabD ds3 bs)) → xfld 5 2 (xv 0) G = some (.im (.lst si), G) := fun {G bs} h => xfld_ok (r := .im (tabD ds3 bs)) (by unfold xv; rw [h]) rfl (by rw [hd3]; rfl)
  have f1 : ∀ {G : Gam} {bs : List D}, G[0]? = some (.im (tabD ds3 bs)) → xfld 5 1 (xv 0) G = some (.im (.int (r : Int)), G) := fun {G bs} h => xfld_ok (r := .im (tabD ds3 bs)) (by unfold xv; rw [h]) rfl (by rw [hd3]; rfl)
  have f0 : ∀ {G : Gam} {bs : List D}, G[0]? = some (.im (tabD ds3 bs)) → xfld 5 0 (xv 0) G = some (.im (.int (M : Int)), G) := fun {G bs} h => xfld_ok (r := .im (tabD ds3 bs)) (by unfold xv; rw [h]) rfl (by rw [hd3]; rfl)
  have body : ∀ i (x5 : Ent), i < r → x5.mu = none → ∃ y5 : Ent, y5.mu = none ∧ b_Table_init_1 ds3 (rgD i line) [.un, .im (.lst cs), .im (.lst vs), .im (.int (i : Int)), .im (vq (v i)), x5, .un, .un] = some (.nx, ds3, rgD (i + 1) line, [.un, .im (.lst cs), .im (.lst vs), .im (.int (i : Int)), .im (vq (v i)), y5, .un, .un]) := fun i x5 hi h5 => by
    obtain ⟨bs, hbs⟩ : ∃ bs, bs = rgD i line := ⟨_, rfl⟩
    have mu : ∀ e ∈ [Ent.un, .im (.lst cs), .im (.lst vs), .im (.int (i : Int)), .im (vq (v i)), x5, .un, .un], e.mu = none := by
      intro e he
      simp only [List.mem_cons, List.not_mem_nil, or_false] at he
      rcases he with rfl | rfl | rfl | rfl | rfl | rfl | rfl | rfl <;> first | assumption | rfl
    have six : opIx (.lst si) (.int (i : Int)) = some (.im (vq (sg0 v i))) := by rw [hsi]; exact rgD_ix _ hi
    have c5 : (vset 5 (lend9 0 flatR (xlc (xseqI (xv 1)) (tgn 6) xtyes (xcall r_multiplied (xcons (xop opIx (xfld 5 2 (xv 0)) (xv 3)) (xcons (xop opIx (xv 6) (xv 3)) xnil))) [6]))) ds3 bs [.un, .im (.lst cs), .im (.lst vs), .im (.int (i : Int)), .im (vq (v i)), x5, .un, .un] = some (.nx, ds3, bs, [.un, .im (.lst cs), .im (.lst vs), .im (.int (i : Int)), .im (vq (v i)), .ol (rgD M fun j => vq (sg0 v i * a i j)), .un, .un]) := by
      refine vset_ok9 (r := .ol (rgD M fun j => vq (sg0 v i * a i j))) (lend_ok9 rfl (xlc_un (ds := cs) (xseqI_ok rfl rfl) rfl rfl rfl ?_ (by rw [rgD_len]; omega)) (flat_rg _ _ _) mu) rfl
      rw [hcs]
      unfold rgD
      refine xlcL_en (fun j => vq (sg0 v i * a i j)) fun j hj => ?_
      have hj := List.mem_range.mp hj
      exact ⟨_, _, _, rfl, xcall_ok (xc1 (xo2 (f2 (bs := bs) rfl) rfl six) (xc1 (xo2 rfl rfl (rgD_ix _ hi)) xnil_ok)) (v_multiplied (sg0_ht v i) (ha i j hi hj) (by omega)), rfl, rfl⟩
    have lc7 : xlc (xrange1 (xcons (xfld 5 1 (xv 0)) xnil)) (tgn 7) xtyes (xif (xtest (xop opEq (xv 7) (xv 3))) (xc c_ONE) (xc c_NOUGHT)) [7] [.im (tabD ds3 bs), .im (.lst cs), .im (.lst vs), .im (.int (i : Int)), .im (vq (v i)), .ol (rgD M fun j => vq (sg0 v i * a i j)), .un, .un] = some (.ol (rgD r fun t => vq (if t = i then 1 else 0)), [.im (tabD ds3 bs), .im (.lst cs), .im (.lst vs), .im (.int (i : Int)), .im (vq (v i)), .ol (rgD M fun j => vq (sg0 v i * a i j)), .un, .un]) := by
      refine xlc_un (ds := rgD r fun t => .int (t : Int)) (by
        refine (xrange1_ok (n := (r : Int)) (xc1 (f1 (bs := bs) rfl) xnil_ok) (okR_of (by omega) (by omega))).trans ?_
        rw [Int.toNat_natCast, rng_rgD]) rfl rfl rfl ?_ (by rw [rgD_len]; omega)
      unfold rgD
      refine xlcL_en (fun t => vq (if t = i then 1 else 0)) fun t ht => ?_
      refine ⟨_, .im (vq (if t = i then 1 else 0)), [.im (tabD ds3 bs), .im (.lst cs), .im (.lst vs), .im (.int (i : Int)), .im (vq (v i)), .ol ((List.range M).map fun j => vq (sg0 v i * a i j)), .un, .im (.int (t : Int))], rfl, ?_, rfl, rfl⟩
      have te := xtest_ok (xo2 (o := opEq) (a := xv 7) (b := xv 3) (x := .int (t : Int)) (y := .int (i : Int)) (G := [.im (tabD ds3 bs), .im (.lst cs), .im (.lst vs), .im (.int (i : Int)), .im (vq (v i)), .ol ((List.range M).map fun j => vq (sg0 v i * a i j)), .un, .im (.int (t : Int))]) rfl rfl (r := .im (.bl (decide (t = i)))) (by
        show some (R.im (.bl (decide ((t : Int) = (i : Int))))) = _
        rw [show decide ((t : Int) = (i : Int)) = decide (t = i) from decide_eq_decide.mpr (by omega)]))
      refine (xif_e te).trans ?_
      by_cases z : t = i
      · rw [decide_eq_true z, if_pos z]; rfl
      · rw [decide_eq_false z, if_neg z]; rfl
    have fl5 : flatM bs (.l (rgD M (fun j => vq (sg0 v i * a i j)) ++ rgD r fun t => vq (if t = i then 1 else 0))) = true := by
      show (_ ++ _ : List D).all (nb1 bs) = true
      rw [List.all_append]
      have h1 : (rgD M fun j => vq (sg0 v i * a i j)).all (nb1 bs) = true := flat_rg bs M fun j => sg0 v i * a i j
      have h2 : (rgD r fun t => vq (if t = i then 1 else 0)).all (nb1 bs) = true := flat_rg bs r fun t => if t = i then 1 else 0
      rw [h1, h2]
      rfl
    have c6 : (vdrop (lend9 0 flatR (xmut 5 muExt (xcons (xlc (xrange1 (xcons (xfld 5 1 (xv 0)) xnil)) (tgn 7) xtyes (xif (xtest (xop opEq (xv 7) (xv 3))) (xc c_ONE) (xc c_NOUGHT)) [7]) xnil)))) ds3 bs [.un, .im (.lst cs), .im (.lst vs), .im (.int (i : Int)), .im (vq (v i)), .ol (rgD M fun j => vq (sg0 v i * a i j)), .un, .un] = some (.nx, ds3, bs, [.un, .im (.lst cs), .im (.lst vs), .im (.int (i : Int)), .im (vq (v i)), .ol (rgD M (fun j => vq (sg0 v i * a i j)) ++ rgD r fun t => vq (if t = i then 1 else 0)), .un, .un]) := by
      have : xmut 5 muExt (xcons (xlc (xrange1 (xcons (xfld 5 1 (xv 0)) xnil)) (tgn 7) xtyes (xif (xtest (xop opEq (xv 7) (xv 3))) (xc c_ONE) (xc c_NOUGHT)) [7]) xnil) [.im (tabD ds3 bs), .im (.lst cs), .im (.lst vs), .im (.int (i : Int)), .im (vq (v i)), .ol (rgD M fun j => vq (sg0 v i * a i j)), .un, .un] = some (.im .non, [.im (tabD ds3 bs), .im (.lst cs), .im (.lst vs), .im (.int (i : Int)), .im (vq (v i)), .ol (rgD M (fun j => vq (sg0 v i * a i j)) ++ rgD r fun t => vq (if t = i then 1 else 0)), .un, .un]) := by
        unfold xmut
        rw [if_pos (by rfl), xcw lc7 xnil_ok]
        show (match muExt (rgD M fun j => vq (sg0 v i * a i j)) [.lst (rgD r fun t => vq (if t = i then 1 else 0))] with
          | some (d, ds') => some (R.im d, _)
          | none => none) = _
        have : muExt (rgD M fun j => vq (sg0 v i * a i j)) [.lst (rgD r fun t => vq (if t = i then 1 else 0))] = some (.non, rgD M (fun j => vq (sg0 v i * a i j)) ++ rgD r fun t => vq (if t = i then 1 else 0)) := by
          show (if few ((rgD M _).length + (rgD r _).length) then _ else _) = _
          rw [rgD_len, rgD_len, fewl (by omega), if_pos rfl]
        rw [this]
        rfl
      unfold vdrop
      rw [lend_ch9 (i := 0) (ds := ds3) (bs := bs) (G := [.un, .im (.lst cs), .im (.lst vs), .im (.int (i : Int)), .im (vq (v i)), .ol (rgD M fun j => vq (sg0 v i * a i j)), .un, .un]) this rfl (by
        show [Ent.un, .im (.lst cs), .im (.lst vs), .im (.int (i : Int)), .im (vq (v i)), if flatM bs (.l _) then Ent.ol _ else .un, .un, .un] = _
        rw [if_pos fl5])]
    have c7 : ∃ y5 : Ent, y5.mu = none ∧ (vbapp 3 (lend9 0 flatR (xlst (xstar (xv 5) (xcons (xcall r_multiplied (xcons (xop opIx (xfld 5 2 (xv 0)) (xv 3)) (xcons (xv 4) xnil))) xnil))))) ds3 bs [.un, .im (.lst cs), .im (.lst vs), .im (.int (i : Int)), .im (vq (v i)), .ol (rgD M (fun j => vq (sg0 v i * a i j)) ++ rgD r fun t => vq (if t = i then 1 else 0)), .un, .un] = some (.nx, ds3, bs ++ [line i], [.un, .im (.lst cs), .im (.lst vs), .im (.int (i : Int)), .im (vq (v i)), y5, .un, .un]) := by
      obtain ⟨xs, hxs⟩ : ∃ xs, xs = rgD M (fun j => vq (sg0 v i * a i j)) ++ rgD r fun t => vq (if t = i then 1 else 0) := ⟨_, rfl⟩
      have l9 := line9 (M := M) (r := r) (v := v) (a := a) i
      rw [← hxs, ← hs] at l9
      rw [← hxs]
      refine ⟨if nb1 bs (.lst xs) then .im (.lst xs) else .un, by split <;> rfl, ?_⟩
      have h : xlst (xstar (xv 5) (xcons (xcall r_multiplied (xcons (xop opIx (xfld 5 2 (xv 0)) (xv 3)) (xcons (xv 4) xnil))) xnil)) [.im (tabD ds3 bs), .im (.lst cs), .im (.lst vs), .im (.int (i : Int)), .im (vq (v i)), .ol xs, .un, .un] = some (.ol (rgD (M + r + 1) fun j => vq (s.L i j)), [.im (tabD ds3 bs), .im (.lst cs), .im (.lst vs), .im (.int (i : Int)), .im (vq (v i)), .im (.lst xs), .un, .un]) := by
        refine xlst_ok ?_ (by rw [rgD_len]; exact fewl (by omega))
        unfold xstar
        rw [show xv 5 [.im (tabD ds3 bs), .im (.lst cs), .im (.lst vs), .im (.int (i : Int)), .im (vq (v i)), .ol xs, .un, .un] = some (.im (.lst xs), [.im (tabD ds3 bs), .im (.lst cs), .im (.lst vs), .im (.int (i : Int)), .im (vq (v i)), .im (.lst xs), .un, .un]) from rfl]
        show bd ((xcons (xcall r_multiplied (xcons (xop opIx (xfld 5 2 (xv 0)) (xv 3)) (xcons (xv 4) xnil))) xnil) [.im (tabD ds3 bs), .im (.lst cs), .im (.lst vs), .im (.int (i : Int)), .im (vq (v i)), .im (.lst xs), .un, .un]) (fun es G2 => some (xs ++ es, G2)) = _
        rw [xc1 (d := vq (sg0 v i * v i)) (xcall_ok (xc1 (xo2 (f2 (bs := bs) rfl) rfl six) (xc1 rfl xnil_ok)) (v_multiplied (sg0_ht v i) (hv i hi) (by omega))) xnil_ok]
        show some (xs ++ [vq (sg0 v i * v i)], _) = _
        rw [l9]
      unfold vbapp
      rw [lend_ch9 (i := 0) (ok := flatR) (ds := ds3) (bs := bs) (G := [.un, .im (.lst cs), .im (.lst vs), .im (.int (i : Int)), .im (vq (v i)), .ol xs, .un, .un]) h (flat_rg _ _ _) rfl]
      have dl : ds3.length = 3 := by rw [hd3]; rfl
      have bl : few bs.length = true := by rw [hbs, rgD_len]; exact fewl (by omega)
      show (if ds3.length = 3 ∧ few bs.length = true then _ else _) = _
      rw [if_pos ⟨dl, bl⟩]
      rfl
    obtain ⟨y5, hy, c7⟩ := c7
    refine ⟨y5, hy, ?_⟩
    unfold b_Table_init_1
    rw [← hbs, vseq_e c5, vseq_e c6, c7, hbs, rgD_snoc i line]
  obtain ⟨ds', bs', G', g1, rfl, rfl, x3, x4, x5, h3, h4, h5, rfl⟩ := vforL_inv9 (i := 0) (tg := tgt [(tgn 3), (tgn 4)]) (a := b_Table_init_1) (f := fun i => .tup [.int (i : Int), vq (v i)]) (n := r) (fun n ds bs G => ds = ds3 ∧ bs = rgD n line ∧ ∃ x3 x4 x5 : Ent, (x3 = .un ∨ ∃ d, x3 = .im d) ∧ (x4 = .un ∨ ∃ d, x4 = .im d) ∧ x5.mu = none ∧ G = [Ent.un, .im (.lst cs), .im (.lst vs), x3, x4, x5, .un, .un]) (ds := ds3) (bs := []) (G := [.un, .im (.lst cs), .im (.lst vs), .un, .un, .un, .un, .un]) ⟨rfl, rfl, .un, .un, .un, .inl rfl, .inl rfl, rfl, rfl⟩ (fun n ds bs G hn hG => by
    obtain ⟨rfl, rfl, x3, x4, x5, h3, h4, h5, rfl⟩ := hG
    obtain ⟨y5, hy, hb⟩ := body n x5 hn h5
    refine ⟨_, _, _, _, ?_, rfl, hb, rfl, rfl, _, _, y5, .inr ⟨_, rfl⟩, .inr ⟨_, rfl⟩, hy, rfl⟩
    rcases h3 with rfl | ⟨d3, rfl⟩ <;> rcases h4 with rfl | ⟨d4, rfl⟩ <;> rfl)
  have mu : ∀ e ∈ [Ent.un, .im (.lst cs), .im (.lst vs), x3, x4, x5, .un, .un], e.mu = none := by
    intro e he
    simp only [List.mem_cons, List.not_mem_nil, or_false] at he
    rcases he with rfl | rfl | rfl | rfl | rfl | rfl | rfl | rfl
    · rfl
    · rfl
    · rfl
    · rcases h3 with rfl | ⟨d, rfl⟩ <;> rfl
    · rcases h4 with rfl | ⟨d, rfl⟩ <;> rfl
    · exact h5
    · rfl
    · rfl
  have last : (vnew 3 (lend9 0 flatR (xlc (xrange1 (xcons (xfld 5 1 (xv 0)) xnil)) (tgn 3) xtyes (xop opAddB (xfld 5 0 (xv 0)) (xv 3)) [3]))) ds' (rgD r line) [.un, .im (.lst cs), .im (.lst vs), x3, x4, x5, .un, .un] = some (.nx, ds' ++ [.lst (rgD r line)], BD r s, [.un, .im (.lst cs), .im (.lst vs), x3, x4, x5, .un, .un]) := by
    have lc : xlc (xrange1 (xcons (xfld 5 1 (xv 0)) xnil)) (tgn 3) xtyes (xop opAddB (xfld 5 0 (xv 0)) (xv 3)) [3] [.im (tabD ds' (rgD r line)), .im (.lst cs), .im (.lst vs), x3, x4, x5, .un, .un] = some (.ol (BD r s), [.im (tabD ds' (rgD r line)), .im (.lst cs), .im (.lst vs), x3, x4, x5, .un, .un]) := by
      refine xlc_un9 (W := [.im (tabD ds' (rgD r line)), .im (.lst cs), .im (.lst vs), .un, x4, x5, .un, .un]) (ds := rgD r fun t => .int (t : Int)) (by
        refine (xrange1_ok (n := (r : Int)) (xc1 (f1 (bs := rgD r line) rfl) xnil_ok) (okR_of (by omega) (by omega))).trans ?_
        rw [Int.toNat_natCast, rng_rgD]) (by rcases h3 with rfl | ⟨d, rfl⟩ <;> rfl) (by rcases h3 with rfl | ⟨d, rfl⟩ <;> rfl) (by rcases h3 with rfl | ⟨d, rfl⟩ <;> rfl) ?_ (by unfold BD; rw [rgD_len]; omega)
      unfold rgD BD
      refine xlcL_en (fun i => .int (s.b i : Int)) fun i hi => ?_
      refine ⟨_, .im (.int (s.b i : Int)), _, rfl, xo2 (x := .int (M : Int)) (y := .int (i : Int)) (f0 (bs := rgD r line) rfl) rfl ?_, rfl, rfl⟩
      rw [hs]
      show some (R.im (.int ((M : Int) + (i : Int)))) = some (R.im (.int ((M + i : Nat) : Int)))
      rw [Int.natCast_add]
    unfold vnew
    rw [lend_ok9 (i := 0) (ok := flatR) (r := .ol (BD r s)) rfl lc (by
      show (BD r s).all (nb1 _) = true
      unfold BD rgD
      rw [List.all_eq_true]
      intro d hd
      obtain ⟨i, _, rfl⟩ := List.mem_map.mp hd
      exact nb1_int _ _) mu]
    have dl : ds'.length = 3 := by rw [hd3]; rfl
    show (if ds'.length = 3 ∧ 3 < 4 then _ else _) = _
    rw [if_pos ⟨dl, by decide⟩]
  have run : b_Table_init [.bx (.o 5 []), .im (.lst cs), .im (.lst vs), .un, .un, .un, .un, .un] = some (ds' ++ [.lst (rgD r line)], BD r s, [.un, .im (.lst cs), .im (.lst vs), x3, x4, x5, .un, .un]) := by
    unfold b_Table_init nseq
    rw [st0]
    simp only []
    rw [st1]
    simp only []
    rw [st2]
    simp only []
    unfold nnew
    rw [xlst_ok xnil_ok rfl]
    have dl : ds'.length = 3 := by rw [hd3]; rfl
    show (if ds'.length = 3 ∧ 3 < 5 then _ else _) = _
    rw [if_pos ⟨dl, by decide⟩]
    have w : (vseq (vfor 0 (lf 0 (xenumA (xcons (xv 2) xnil))) (tgt [(tgn 3), (tgn 4)]) b_Table_init_1) (vnew 3 (lend9 0 flatR (xlc (xrange1 (xcons (xfld 5 1 (xv 0)) xnil)) (tgn 3) xtyes (xop opAddB (xfld 5 0 (xv 0)) (xv 3)) [3])))) ds' [] [.un, .im (.lst cs), .im (.lst vs), .un, .un, .un, .un, .un] = some (.nx, ds' ++ [.lst (rgD r line)], BD r s, [.un, .im (.lst cs), .im (.lst vs), x3, x4, x5, .un, .un]) := by
      refine (vseq_e (vfor_ok9 (es := rgD r fun i => .tup [.int (i : Int), vq (v i)]) (lf_ok9 (G1 := [.un, .im (.lst cs), .im (.lst vs), .un, .un, .un, .un, .un]) ?_ rfl) g1)).trans last
      unfold xenumA
      rw [xc1 (d := .lst vs) rfl xnil_ok]
      show some (enumD 0 vs, _) = _
      rw [hvs, enumD_rg]
    show (match (vseq (vfor 0 (lf 0 (xenumA (xcons (xv 2) xnil))) (tgt [(tgn 3), (tgn 4)]) b_Table_init_1) (vnew 3 (lend9 0 flatR (xlc (xrange1 (xcons (xfld 5 1 (xv 0)) xnil)) (tgn 3) xtyes (xop opAddB (xfld 5 0 (xv 0)) (xv 3)) [3])))) ds' [] [.un, .im (.lst cs), .im (.lst vs), .un, .un, .un, .un, .un] with
      | some (.nx, ds', bs', G2) => some (ds', bs', G2)
      | _ => none) = _
    rw [w]
  have fin : r_Table_init [.lst cs, .lst vs] = (match b_Table_init [.bx (.o 5 []), .im (.lst cs), .im (.lst vs), .un, .un, .un, .un, .un] with
    | some (ds, bs, _) => some (ds, bs)
    | none => none) := rfl
  rw [fin, run, hd3, hsi]
  rfl
end
end Bk
namespace Bk
open PySem L2
def df : Nat → (Nat → Rat) → Nat → Rat
  | 0, x, k => x k
  | n + 1, x, k => df n x (k + 1) - df n x k
def dfZ : Nat → (Nat → Int) → Nat → Int
  | 0, x, k => x k
  | n + 1, x, k => dfZ n x (k + 1) - dfZ n x k
theorem df_cast (x : Nat → Int) : ∀ n k, df n (fun t => (x t : Rat)) k = (dfZ n x k : Rat)
  | 0, _ => rfl
  | n + 1, k => by
    show df n _ (k + 1) - df n _ k = ((dfZ n x (k + 1) - dfZ n x k : Int) : Rat)
    rw [df_cast x n, df_cast x n, Rat.intCast_sub]
def e1 (t s : Nat) : Int := if s = t then 1 else 0
def dE (n k t : Nat) : Rat := (dfZ n (e1 t) k : Rat)
theorem df_sum {m : Nat} (x : Nat → Rat) : ∀ n k, k + n < m → df n x k = Lp.sg m fun t => dE n k t * x t
  | 0, k, h => by
    have : (fun t => dE 0 k t * x t) = fun t => x t * (if k = t then 1 else 0) := by
      funext t
      unfold dE
      show ((if k = t then (1 : Int) else 0 : Int) : Rat) * x t = _
      split <;> grind
    rw [this, Lp.pick _ (by omega)]
    show x k = _
    grind
  | n + 1, k, h => by
    show df n x (k + 1) - df n x k = _
    rw [df_sum (m := m) x n (k + 1) (by omega), df_sum (m := m) x n k (by omega), ← Lp.sg_sub]
    refine Lp.sg_congr fun t _ => ?_
    have : dE (n + 1) k t = dE n (k + 1) t - dE n k t := by
      unfold dE
      show ((dfZ n (e1 t) (k + 1) - dfZ n (e1 t) k : Int) : Rat) = _
      rw [Rat.intCast_sub]
    rw [this]
    grind
def sgZ : Nat → (Nat → Int) → Int
  | 0, _ => 0
  | n + 1, f => sgZ n f + f n
theorem sgZ_cast (n : Nat) (f : Nat → Int) : ((sgZ n f : Int) : Rat) = Lp.sg n fun i => (f i : Rat) := by
  induction n with
  | zero => rfl
  | succ n ih =>
    show ((sgZ n f + f n : Int) : Rat) = _
    rw [Rat.intCast_add, ih]
    rfl
def ivD (i : Int) : D := .tup [.int i, .int 1]
def intZ : D → Int
  | .tup [.int i, _] => i
  | .int i => i
  | _ => 0
def isIV : D → Bool
  | .tup [.int _, .int j] => decide (j = 1)
  | _ => false
theorem isIV_ok {d : D} (h : isIV d = true) : d = ivD (intZ d) := by
  unfold isIV at h
  split at h
  · rename_i i j
    rw [of_decide_eq_true h]
    rfl
  · cases h
theorem vq_int (i : Int) : vq (i : Rat) = ivD i := rfl
def rowZ : D → List Int
  | .lst xs => xs.map intZ
  | _ => []
def isRw (m : Nat) : D → Bool
  | .lst xs => decide (xs.length = m) && xs.all isIV
  | _ => false
theorem isRw_ok {m : Nat} {d : D} (h : isRw m d = true) : d = .lst (rgD m fun t => vq (((rowZ d).getD t 0 : Int) : Rat)) := by
  unfold isRw at h
  split at h
  · rename_i xs
    rw [Bool.and_eq_true] at h
    have hl := of_decide_eq_true h.1
    refine congrArg D.lst (List.ext_getElem? fun j => ?_)
    by_cases hj : j < m
    · rw [rgD_get _ hj, vq_int]
      have e : xs[j]? = some xs[j] := List.getElem?_eq_getElem (by omega)
      have g : ((rowZ (.lst xs)).getD j 0 : Int) = intZ xs[j] := by
        show ((xs.map intZ).getD j 0 : Int) = _
        rw [List.getD_eq_getElem?_getD, List.getElem?_map, e]
        rfl
      rw [g, e]
      exact congrArg some (isIV_ok (List.all_eq_true.mp h.2 _ (List.getElem_mem _)))
    · rw [List.getElem?_eq_none (by omega), List.getElem?_eq_none (by rw [rgD_len]; omega)]
  · cases h
def uL (m n : Nat) : List D := outL (r_unit_rows [.int m, .int n])
def uZ (m n c t : Nat) : Int := (((uL m n).map rowZ).getD c []).getD t 0
def uu (m n c t : Nat) : Rat := (uZ m n c t : Rat)
abbrev uN (m n : Nat) : Nat := 2 * min n m + (m - n)
def aZ (n j t : Nat) : Int := dfZ j (e1 t) 0
def chk1 (m n : Nat) : Bool := isOw (r_unit_rows [.int m, .int n]) && decide ((uL m n).length = uN m n) && (uL m n).all (isRw m)
def chk2 (m n : Nat) : Bool := ((List.range (min n m)).all fun j => (List.range m).all fun t => decide (uZ m n (2 * j + 1) t = -uZ m n (2 * j) t)) &&
  ((List.range m).all fun t => (List.range m).all fun s => decide (e1 t s = sgZ (min n m) (fun j => aZ n j t * uZ m n (2 * j) s) + sgZ (m - n) (fun k => dfZ n (e1 t) k * uZ m n (2 * min n m + k) s))) &&
  ((List.range (uN m n)).all fun c => (List.range (m - n)).all fun k => decide (0 ≤ sgZ m fun t => dfZ n (e1 t) k * uZ m n c t)) &&
  ((List.range (uN m n)).all fun c => (List.range m).all fun t => decide ((uZ m n c t).natAbs ≤ 3))
def chk3 (m n : Nat) : Bool := ((List.range (m - n)).all fun k => decide ((rwU m n k).map valQ = (List.range m).map (uu m n (2 * min n m + k)))) &&
  ((List.range (min n m)).all fun j => decide ((rwP m j).map valQ = (List.range m).map (uu m n (2 * j))))
def mB : Nat := 5
def nB : Nat := 4
theorem units_k : ((List.range mB).all fun m => (List.range nB).all fun n => chk1 m n && chk2 m n && chk3 m n) = true := by decide +kernel
theorem units_c {m n : Nat} (hm : m < mB) (hn : n < nB) : chk1 m n = true ∧ chk2 m n = true ∧ chk3 m n = true := by
  have h := List.all_eq_true.mp units_k m (List.mem_range.mpr hm)
  have h := List.all_eq_true.mp h n (List.mem_range.mpr hn)
  simp only [Bool.and_eq_true] at h
  exact ⟨h.1.1, h.1.2, h.2⟩
theorem v_unit_rows {m n : Nat} (hm : m < mB) (hn : n < nB) : r_unit_rows [.int m, .int n] = some (.ol (rgD (uN m n) fun c => .lst (rgD m fun t => vq (uu m n c t)))) := by
  have h := (units_c hm hn).1
  unfold chk1 at h
  simp only [Bool.and_eq_true] at h
  obtain ⟨⟨h1, h2⟩, h3⟩ := h
  have h2 := of_decide_eq_true h2
  rw [isOw_ok h1]
  congr 3
  refine List.ext_getElem? fun j => ?_
  by_cases hj : j < uN m n
  · have e : (uL m n)[j]? = some (uL m n)[j] := List.getElem?_eq_getElem (by omega)
    rw [rgD_get _ hj]
    refine e.trans (congrArg some ?_)
    refine (isRw_ok (List.all_eq_true.mp h3 _ (List.getElem_mem (by omega)))).trans (congrArg D.lst ?_)
    unfold rgD
    refine List.map_congr_left fun t _ => ?_
    unfold uu uZ
    rw [List.getD_eq_getElem?_getD (l := (uL m n).map rowZ), List.getElem?_map, e]
    rfl
  · rw [List.getElem?_eq_none (by rw [show (outL (r_unit_rows [.int m, .int n])).length = uN m n from h2]; omega), List.getElem?_eq_none (by rw [rgD_len]; omega)]
theorem units_of {m n : Nat} (hm : m < mB) (hn : n < nB) : Lp.Units m (min n m) (m - n) (uu m n) (dE n) := by
  have h := (units_c hm hn).2.1
  unfold chk2 at h
  simp only [Bool.and_eq_true] at h
  obtain ⟨⟨⟨h1, h2⟩, h3⟩, _⟩ := h
  refine ⟨fun j hj t ht => ?_, fun t ht => ⟨fun j => (aZ n j t : Rat), fun s hs => ?_⟩, fun c hc k hk => ?_⟩
  · have := of_decide_eq_true (List.all_eq_true.mp (List.all_eq_true.mp h1 j (List.mem_range.mpr hj)) t (List.mem_range.mpr ht))
    unfold uu
    rw [this, Rat.intCast_neg]
  · have := of_decide_eq_true (List.all_eq_true.mp (List.all_eq_true.mp h2 t (List.mem_range.mpr ht)) s (List.mem_range.mpr hs))
    have e : ((e1 t s : Int) : Rat) = if s = t then 1 else 0 := by
      unfold e1
      split <;> rfl
    rw [← e, this, Rat.intCast_add, sgZ_cast, sgZ_cast]
    congr 1
    · exact Lp.sg_congr fun j _ => by rw [Rat.intCast_mul]; rfl
    · exact Lp.sg_congr fun j _ => by rw [Rat.intCast_mul]; rfl
  · have := of_decide_eq_true (List.all_eq_true.mp (List.all_eq_true.mp h3 c (List.mem_range.mpr hc)) k (List.mem_range.mpr hk))
    have e : (Lp.sg m fun t => dE n k t * uu m n c t) = ((sgZ m fun t => dfZ n (e1 t) k * uZ m n c t : Int) : Rat) := by
      rw [sgZ_cast]
      exact Lp.sg_congr fun t _ => by rw [Rat.intCast_mul]; rfl
    rw [e]
    exact Rat.intCast_le_intCast.mpr this
theorem units_le {m n c t : Nat} (hm : m < mB) (hn : n < nB) (hc : c < uN m n) (ht : t < m) : (uZ m n c t).natAbs ≤ 3 := by
  have h := (units_c hm hn).2.1
  unfold chk2 at h
  simp only [Bool.and_eq_true] at h
  exact of_decide_eq_true (List.all_eq_true.mp (List.all_eq_true.mp h.2 c (List.mem_range.mpr hc)) t (List.mem_range.mpr ht))
theorem unit_val {m n k : Nat} (hm : m < mB) (hn : n < nB) (hk : k < m - n) : (rwU m n k).map valQ = (List.range m).map (uu m n (2 * min n m + k)) := by
  have h := (units_c hm hn).2.2
  unfold chk3 at h
  simp only [Bool.and_eq_true] at h
  exact of_decide_eq_true (List.all_eq_true.mp h.1 k (List.mem_range.mpr hk))
theorem power_val {m n j : Nat} (hm : m < mB) (hn : n < nB) (hj : j < min n m) : (rwP m j).map valQ = (List.range m).map (uu m n (2 * j)) := by
  have h := (units_c hm hn).2.2
  unfold chk3 at h
  simp only [Bool.and_eq_true] at h
  exact of_decide_eq_true (List.all_eq_true.mp h.2 j (List.mem_range.mpr hj))
end Bk
namespace Bk
open PySem L2
theorem told9 {m k l : Nat} {d e : D} {as bs : List D} {w x : Nat → Rat} (hd : seqD d = some as) (he : seqD e = some bs) (ha : as.map valQ = (List.range m).map w) (hb : bs.map valQ = (List.range m).map x) (la : Ln k as) (lb : Ln l bs) (hm : m ≤ 1000) (h9 : 1 + m * (k + l + 1) + (k + l) < 8990) : r_row_told [d, e] = some (.im (vq (Lp.sg m fun t => w t * x t))) := by
  have l1 : as.length = m := by have := congrArg List.length ha; rwa [List.length_map, List.length_map, List.length_range] at this
  have l2 : bs.length = m := by have := congrArg List.length hb; rwa [List.length_map, List.length_map, List.length_range] at this
  rw [v_row_told hd he la lb (by omega) (by omega) (by rw [l1]; exact h9)]
  congr 3
  rw [dotQ_dot, ha, hb, ← dot_sum, List.zipWith_map, List.zipWith_self, sumQ_rg]
theorem rgD_vals (m : Nat) (x : Nat → Rat) : (rgD m fun t => vq (x t)).map valQ = (List.range m).map x := by
  unfold rgD
  rw [List.map_map]
  refine List.map_congr_left fun t _ => ?_
  exact valQ_vq _
theorem rgD_ln {m k : Nat} {x : Nat → Rat} (h : ∀ t, t < m → Ht (x t) k) : Ln k (rgD m fun t => vq (x t)) := fun d hd => by
  obtain ⟨t, ht, rfl⟩ := List.mem_map.mp hd
  rw [valQ_vq]
  exact ⟨.inr ⟨_, rfl⟩, h t (List.mem_range.mp ht)⟩
theorem vals_rg {m : Nat} {as : List D} {w : Nat → Rat} (h : as.map valQ = (List.range m).map w) : (as.map fun x => vq (valQ x)) = rgD m fun t => vq (w t) := by
  rw [show (as.map fun x => vq (valQ x)) = (as.map valQ).map vq by rw [List.map_map]; rfl, h, List.map_map]
  rfl
theorem sg_ht {n k : Nat} {f : Nat → Rat} (h : ∀ i, i < n → Ht (f i) k) : Ht (Lp.sg n f) (1 + n * (k + 1)) := by
  have := sumQ_ht (k := k) (qs := (List.range n).map f) fun q hq => by
    obtain ⟨i, hi, rfl⟩ := List.mem_map.mp hq
    exact h i (List.mem_range.mp hi)
  rwa [List.length_map, List.length_range, sumQ_rg] at this
theorem xlcL_fst {β : Type} {tg : D → Gam → Option Gam} {e : M R} {vs : List Nat} {G G' : Gam} {en : β → D} (f : β → D) {xs : List β} (h : ∀ x ∈ xs, ∀ G9, G9 = G ∨ G9 = G' → ∃ G1 r G2, tg (en x) G9 = some G1 ∧ e G1 = some (r, G2) ∧ r.d = f x ∧ wipeG G2 vs = G') :
    ∃ G9, xlcL tg xtyes e vs (xs.map en) G = some (xs.map f, G9) ∧ (G9 = G ∨ G9 = G') := by
  cases xs with
  | nil => exact ⟨G, rfl, .inl rfl⟩
  | cons x xs =>
    obtain ⟨G1, r, G2, h1, h2, h3, h4⟩ := h x List.mem_cons_self G (.inl rfl)
    have ih := xlcL_en (tg := tg) (e := e) (vs := vs) (G := G') (en := en) f (xs := xs) fun y hy => h y (List.mem_cons_of_mem _ hy) G' (.inr rfl)
    refine ⟨G', ?_, .inr rfl⟩
    show xlcL tg xtyes e vs (en x :: xs.map en) G = _
    unfold xlcL
    rw [h1]
    simp only [bd_some, xtyes, if_true, h2, h4]
    rw [ih]
    simp only [bd_some, h3, List.map_cons]
def UD (M m : Nat) (U : Nat → Nat → Rat) : D := .lst (rgD M fun c => .lst (rgD m fun t => vq (U c t)))
theorem v_row_of {M m k l : Nat} {U : Nat → Nat → Rat} {x : Nat → Rat} (hU : ∀ c t, c < M → t < m → Ht (U c t) k) (hx : ∀ c, c < M → Ht (x c) l) (hm : m ≤ 1000) (hM : M ≤ 1000) (h9 : 1 + M * (k + l + 1) + (k + l) < 8990) :
    r_row_of [UD M m U, .lst (rgD M fun c => vq (x c)), .int (m : Int)] = some (.im (.tup (rgD m fun t => vq (Lp.mix M U x t)))) := by
  obtain ⟨us, hus⟩ : ∃ us, us = rgD M fun c => D.lst (rgD m fun t => vq (U c t)) := ⟨_, rfl⟩
  obtain ⟨xs, hxs⟩ : ∃ xs, xs = rgD M fun c => vq (x c) := ⟨_, rfl⟩
  have row : ∀ (t : Nat) (out : List D), t < m → out.length ≤ 100000 → b_row_of_1 [.im (.lst us), .im (.lst xs), .im (.int (m : Int)), .ol out, .im (.int (t : Int)), .un, .un] = some (.nx, [.im (.lst us), .im (.lst xs), .im (.int (m : Int)), .ol (out ++ [vq (Lp.mix M U x t)]), .im (.int (t : Int)), .un, .un]) := fun t out ht ho => by
    have lc : xlc (xzipA (xcons (xv 1) (xcons (xv 0) xnil))) (tgt [(tgn 5), (tgn 6)]) xtyes (xcall r_multiplied (xcons (xv 5) (xcons (xop opIx (xv 6) (xv 4)) xnil))) [5, 6] [.im (.lst us), .im (.lst xs), .im (.int (m : Int)), .ol out, .im (.int (t : Int)), .un, .un] = some (.ol ((List.range M).map fun c => vq (x c * U c t)), [.im (.lst us), .im (.lst xs), .im (.int (m : Int)), .ol out, .im (.int (t : Int)), .un, .un]) := by
      refine xlc_un (xzip_ok (xc1 rfl (xc1 rfl xnil_ok)) rfl rfl) rfl rfl rfl ?_ (by rw [List.length_map, List.length_range]; omega)
      rw [hxs, hus, rgD_zip]
      refine xlcL_en (fun c => vq (x c * U c t)) fun c hc => ?_
      have hc := List.mem_range.mp hc
      exact ⟨_, _, _, rfl, xcall_ok (xc1 rfl (xc1 (xo2 rfl rfl (rgD_ix _ ht)) xnil_ok)) (v_multiplied (hx c hc) (hU c t hc ht) (by omega)), rfl, rfl⟩
    have sm : r_summed [.lst ((List.range M).map fun c => vq (x c * U c t))] = some (.im (vq (Lp.mix M U x t))) := by
      have := v_summed (d := .lst ((List.range M).map fun c => vq (x c * U c t))) (qs := (List.range M).map fun c => x c * U c t) (k := l + k) (by rw [List.map_map]; rfl) (fun q hq => by
        obtain ⟨c, hc, rfl⟩ := List.mem_map.mp hq
        have hc := List.mem_range.mp hc
        exact (hx c hc).mul (hU c t hc ht)) (by rw [List.length_map, List.length_range, Nat.add_comm l k]; omega)
      rw [sumQ_rg] at this
      exact this
    exact xapp_ok (bs := out) rfl (xcall_ok (xcw lc xnil_ok) sm) rfl rfl ho rfl
  obtain ⟨G', g1, x4, _, rfl⟩ := xforL_app9 (tg := tgn 4) (b := b_row_of_1) (f := fun t => .int (t : Int)) (g := fun t => vq (Lp.mix M U x t)) (fun out G => ∃ x4 : Ent, (x4 = .un ∨ ∃ d, x4 = .im d) ∧ G = [Ent.im (.lst us), .im (.lst xs), .im (.int (m : Int)), .ol out, x4, .un, .un]) (n := m) (G := [.im (.lst us), .im (.lst xs), .im (.int (m : Int)), .ol [], .un, .un, .un]) ⟨.un, .inl rfl, rfl⟩ (fun t G ht hG => by
    obtain ⟨x4, h4, rfl⟩ := hG
    have h := row t (rgD t fun t => vq (Lp.mix M U x t)) ht (by rw [rgD_len]; omega)
    rw [rgD_snoc t fun t => vq (Lp.mix M U x t)] at h
    refine ⟨_, _, ?_, h, _, .inr ⟨_, rfl⟩, rfl⟩
    rcases h4 with rfl | ⟨d, rfl⟩ <;> rfl)
  unfold UD
  rw [← hus, ← hxs]
  refine runF_st rfl ?_
  refine st_nx (G1 := [.im (.lst us), .im (.lst xs), .im (.int (m : Int)), .ol [], .un, .un, .un]) (xset_e (xlst_ok xnil_ok rfl) rfl) ?_
  refine st_nx (by
    refine xfor_ok (xrange1_ok (n := (m : Int)) (xc1 rfl xnil_ok) (okR_of (by omega) (by omega))) ?_
    rw [Int.toNat_natCast, rng_rgD]
    exact g1) ?_
  exact st_ret (xcb_ok (xc1 (d := .lst _) rfl xnil_ok) rfl)
theorem xixv_ok9 {i : Nat} {b : M R} {G G1 : Gam} {k : Int} {en : Ent} {ds : List D} {d : D} (h0 : isMu G i = true) (h : b G = some (.im (.int k), G1)) (hi : G1[i]? = some en) (hm : en.mu = some (.l ds)) (hd : atI ds k = some d) : xixv i b G = some (.im d, G1) := by
  unfold xixv ixv
  rw [if_pos h0, h]
  simp only [bd_some, R.d, hi, hm, hd]
def SD (r : Nat) (p : Nat → Nat) (v : Nat → Rat) : D := .lst (rgD r fun i => .tup [.int (p i : Int), vq (v i)])
theorem spot_succ (n : Nat) (p : Nat → Nat) (y : Nat → Rat) (t : Nat) : Lp.spot (n + 1) p y t = Lp.spot n p y t + if p n = t then y n else 0 := rfl
theorem spot_ht {n k : Nat} {p : Nat → Nat} {y : Nat → Rat} (h : ∀ i, i < n → Ht (y i) k) (hk : 0 < k) (t : Nat) : Ht (Lp.spot n p y t) (1 + n * (k + 1)) := sg_ht fun i hi => by
  split
  · exact h i hi
  · exact ht0.up hk
theorem v_factors_of {m n r k l : Nat} {as : List D} {d : D} {W y v : Nat → Rat} {p : Nat → Nat} (hd : d = .lst as ∨ d = .tup as) (ha : as.map valQ = (List.range m).map W) (la : Ln k as) (hp : ∀ i, i < r → p i < m) (hy : ∀ i, i < r → Ht (y i) l) (hk : 0 < k) (hl : 0 < l)
    (hm : m < mB) (hn : n < nB) (r9 : r ≤ 4) (h9 : k + l ≤ 400) :
    r_factors_of [d, .int (n : Int), SD r p v, .tup (rgD r fun i => vq (y i))] = some (.im (.tup (rgD (m - n) fun k => vq (Lp.facs m (min n m) r (uu m n) p W y k)))) := by
  have m9 : m < 5 := hm
  have n9 : n < 4 := hn
  have al : as.length = m := by have := congrArg List.length ha; rwa [List.length_map, List.length_map, List.length_range] at this
  obtain ⟨h1, h2⟩ := len_any hd
  have hW : ∀ t, t < m → Ht (W t) k := fun t ht => by
    have : W t ∈ as.map valQ := by rw [ha]; exact List.mem_map.mpr ⟨t, List.mem_range.mpr ht, rfl⟩
    obtain ⟨x, hx, e⟩ := List.mem_map.mp this
    rw [← e]
    exact (la x hx).2
  have hL : ∀ i t, i ≤ r → t < m → Ht (Lp.left i p W y t) (k + (1 + 4 * (l + 1)) + 1) := fun i t hi ht => by
    have := (hW t ht).sub (spot_ht (n := i) (p := p) (fun j hj => hy j (by omega)) hl t)
    refine this.up ?_
    have := Nat.mul_le_mul_right (l + 1) (show i ≤ 4 by omega)
    omega
  obtain ⟨ss, hss⟩ : ∃ ss : List D, ss = rgD r fun i => .tup [.int (p i : Int), vq (v i)] := ⟨_, rfl⟩
  obtain ⟨ys, hys⟩ : ∃ ys : List D, ys = rgD r fun i => vq (y i) := ⟨_, rfl⟩
  have st1 : (ypar 4 5 (ycons (xcb cbLen (xcons (xv 0) xnil)) (ycons (xcb cbList (xcons (xcall r_values_of (xcons (xv 0) xnil)) xnil)) ynil))) [.im d, .im (.int (n : Int)), .im (.lst ss), .im (.tup ys), .un, .un, .un, .un, .un, .un] = some (.nx, [.im d, .im (.int (n : Int)), .im (.lst ss), .im (.tup ys), .im (.int (m : Int)), .ol (rgD m fun t => vq (Lp.left 0 p W y t)), .un, .un, .un, .un]) := by
    have e5 : (as.map fun x => vq (valQ x)) = rgD m fun t => vq (Lp.left 0 p W y t) := by
      rw [vals_rg ha]
      unfold rgD
      refine List.map_congr_left fun t _ => ?_
      congr 1
      show W t = W t - 0
      grind
    have a1 : xcb cbLen (xcons (xv 0) xnil) [.im d, .im (.int (n : Int)), .im (.lst ss), .im (.tup ys), .un, .un, .un, .un, .un, .un] = some (.im (.int (m : Int)), [.im d, .im (.int (n : Int)), .im (.lst ss), .im (.tup ys), .un, .un, .un, .un, .un, .un]) := xcb_ok (xc1 (d := d) rfl xnil_ok) (by rcases hd with rfl | rfl <;> exact congrArg (fun n : Nat => some (R.im (.int (n : Int)))) al)
    have a2 : xcb cbList (xcons (xcall r_values_of (xcons (xv 0) xnil)) xnil) [.im d, .im (.int (n : Int)), .im (.lst ss), .im (.tup ys), .un, .un, .un, .un, .un, .un] = some (.ol (rgD m fun t => vq (Lp.left 0 p W y t)), [.im d, .im (.int (n : Int)), .im (.lst ss), .im (.tup ys), .un, .un, .un, .un, .un, .un]) := by
      refine xcb_ok (xcw (xcall_ok (xc1 (d := d) rfl xnil_ok) (v_values_of h2 la.len (by omega))) xnil_ok) ?_
      rw [e5]
      rfl
    exact ypar_ok (ycons_ok a1 (ycons_ok (b := ynil) (xs := []) a2 rfl))
  let line : Nat → D := fun i => .tup [.tup [.int (p i : Int), vq (v i)], vq (y i)]
  obtain ⟨G', g1, x6, x7, x8, _, _, _, rfl⟩ := xforL_app9 (tg := tgt [(tgt [(tgn 6), (tgn 7)]), (tgn 8)]) (b := b_factors_of_1) (f := line) (g := fun _ => .non) (fun out G => ∃ x6 x7 x8 : Ent, (x6 = .un ∨ ∃ d, x6 = .im d) ∧ (x7 = .un ∨ ∃ d, x7 = .im d) ∧ (x8 = .un ∨ ∃ d, x8 = .im d) ∧ G = [Ent.im d, .im (.int (n : Int)), .im (.lst ss), .im (.tup ys), .im (.int (m : Int)), .ol (rgD m fun t => vq (Lp.left out.length p W y t)), x6, x7, x8, .un]) (n := r) (G := [.im d, .im (.int (n : Int)), .im (.lst ss), .im (.tup ys), .im (.int (m : Int)), .ol (rgD m fun t => vq (Lp.left 0 p W y t)), .un, .un, .un, .un]) ⟨_, _, _, .inl rfl, .inl rfl, .inl rfl, rfl⟩ (fun i G hi hG => by
    obtain ⟨x6, x7, x8, h6, h7, h8, rfl⟩ := hG
    rw [rgD_len]
    refine ⟨[.im d, .im (.int (n : Int)), .im (.lst ss), .im (.tup ys), .im (.int (m : Int)), .ol (rgD m fun t => vq (Lp.left i p W y t)), .im (.int (p i : Int)), .im (vq (v i)), .im (vq (y i)), .un], [.im d, .im (.int (n : Int)), .im (.lst ss), .im (.tup ys), .im (.int (m : Int)), .ol (rgD m fun t => vq (Lp.left (i + 1) p W y t)), .im (.int (p i : Int)), .im (vq (v i)), .im (vq (y i)), .un], ?_, ?_, _, _, _, .inr ⟨_, rfl⟩, .inr ⟨_, rfl⟩, .inr ⟨_, rfl⟩, by rw [rgD_len]⟩
    · rcases h6 with rfl | ⟨_, rfl⟩ <;> rcases h7 with rfl | ⟨_, rfl⟩ <;> rcases h8 with rfl | ⟨_, rfl⟩ <;> rfl
    · refine xput_ok (x := .im (vq (Lp.left i p W y (p i) - y i))) (y := .im (.int (p i))) (k := (p i : Int)) (ds := rgD m fun t => vq (Lp.left i p W y t)) (j := p i) (en := .ol (rgD m fun t => vq (Lp.left i p W y t))) (xcall_ok (xc1 (xby_mu rfl (xixv_ok9 (k := (p i : Int)) (en := .ol (rgD m fun t => vq (Lp.left i p W y t))) rfl rfl rfl rfl (rgD_at _ (hp i hi)))) (xc1 rfl xnil_ok)) (v_less_by (hL i (p i) (by omega) (hp i hi)) (hy i hi) (by omega))) rfl rfl rfl rfl rfl (ix_rg _ (hp i hi)) ?_
      show [Ent.im d, .im (.int (n : Int)), .im (.lst ss), .im (.tup ys), .im (.int (m : Int)), .ol ((rgD m fun t => vq (Lp.left i p W y t)).set (p i) (vq (Lp.left i p W y (p i) - y i))), .im (.int (p i : Int)), .im (vq (v i)), .im (vq (y i)), .un] = _
      rw [rgD_set]
      refine congrArg (fun xs : List D => [Ent.im d, .im (.int (n : Int)), .im (.lst ss), .im (.tup ys), .im (.int (m : Int)), .ol xs, .im (.int (p i : Int)), .im (vq (v i)), .im (vq (y i)), .un]) ?_
      unfold rgD
      refine List.map_congr_left fun t _ => ?_
      have : Lp.left (i + 1) p W y t = if t = p i then Lp.left i p W y (p i) - y i else Lp.left i p W y t := by
        show W t - Lp.spot (i + 1) p y t = _
        rw [spot_succ]
        by_cases z : t = p i
        · rw [if_pos z.symm, if_pos z]
          show W t - (Lp.spot i p y t + y i) = W (p i) - Lp.spot i p y (p i) - y i
          rw [z]
          grind
        · rw [if_neg (Ne.symm z), if_neg z]
          show W t - (Lp.spot i p y t + 0) = W t - Lp.spot i p y t
          grind
      rw [this]
      split <;> rfl)
  rw [rgD_len] at g1
  unfold SD
  rw [← hss, ← hys]
  refine runF_st rfl ?_
  refine st_nx st1 ?_
  refine st_nx (xfor_ok (ds := rgD r line) (by
    refine (xzip_ok (xc1 rfl (xc1 rfl xnil_ok)) rfl rfl).trans ?_
    rw [hss, hys, rgD_zip]
    rfl) g1) ?_
  obtain ⟨L, hL0⟩ : ∃ L, L = rgD m fun t => vq (Lp.left r p W y t) := ⟨_, rfl⟩
  rw [← hL0]
  have hL' : ∀ t, t < m → Ht (Lp.left r p W y t) (k + (1 + 4 * (l + 1)) + 1) := fun t ht => hL r t (Nat.le_refl _) ht
  obtain ⟨G9, g9, _⟩ := xlcL_fst (tg := tgn 9) (e := xcall r_row_told (xcons (xv 5) (xcons (xcall r_unit_row (xcons (xv 4) (xcons (xv 1) (xcons (xv 9) xnil)))) xnil))) (vs := [9]) (en := fun k => .int ((k : Nat) : Int)) (G := [.im d, .im (.int (n : Int)), .im (.lst ss), .im (.tup ys), .im (.int (m : Int)), .ol L, x6, x7, x8, .un]) (G' := [.im d, .im (.int (n : Int)), .im (.lst ss), .im (.tup ys), .im (.int (m : Int)), .im (.lst L), x6, x7, x8, .un]) (fun k => vq (Lp.facs m (min n m) r (uu m n) p W y k)) (xs := List.range (m - n)) (fun j hj G9 hG => by
    have hj := List.mem_range.mp hj
    obtain ⟨u1, u2, u3⟩ := unit_u (m := m) (n := n) (k := j) (by omega) (by omega) hj
    have tl := told9 (d := .lst L) (e := .lst (rwU m n j)) (as := L) (bs := rwU m n j) (m := m) (w := Lp.left r p W y) (x := uu m n (2 * min n m + j)) (k := k + (1 + 4 * (l + 1)) + 1) (l := 8) rfl rfl (by rw [hL0]; exact rgD_vals _ _) (unit_val hm hn hj) (by rw [hL0]; exact rgD_ln hL') u3 (by omega) (by
      have := Nat.mul_le_mul_right (k + (1 + 4 * (l + 1)) + 1 + 8 + 1) (show m ≤ 4 by omega)
      omega)
    have c9 : ∀ G9 : Gam, G9 = [.im d, .im (.int (n : Int)), .im (.lst ss), .im (.tup ys), .im (.int (m : Int)), .im (.lst L), x6, x7, x8, .im (.int (j : Int))] → xcall r_unit_row (xcons (xv 4) (xcons (xv 1) (xcons (xv 9) xnil))) G9 = some (.ol (rwU m n j), G9) := fun G9 h => by
      subst h
      exact xcall_ok (xc1 rfl (xc1 rfl (xc1 rfl xnil_ok))) u1
    refine ⟨G9.set 9 (.im (.int (j : Int))), .im (vq (Lp.facs m (min n m) r (uu m n) p W y j)), [.im d, .im (.int (n : Int)), .im (.lst ss), .im (.tup ys), .im (.int (m : Int)), .im (.lst L), x6, x7, x8, .im (.int (j : Int))], ?_, ?_, rfl, rfl⟩
    · rcases hG with rfl | rfl <;> rfl
    · rcases hG with rfl | rfl
      · exact xcall_ok (xc1 (d := .lst L) rfl (xcw (c9 _ rfl) xnil_ok)) tl
      · exact xcall_ok (xc1 (d := .lst L) rfl (xcw (c9 _ rfl) xnil_ok)) tl)
  have wp : ∃ G8, xlc (xrange1 (xcons (xop opSub (xv 4) (xv 1)) xnil)) (tgn 9) xtyes (xcall r_row_told (xcons (xv 5) (xcons (xcall r_unit_row (xcons (xv 4) (xcons (xv 1) (xcons (xv 9) xnil)))) xnil))) [9] [.im d, .im (.int (n : Int)), .im (.lst ss), .im (.tup ys), .im (.int (m : Int)), .ol L, x6, x7, x8, .un] = some (.ol (rgD (m - n) fun k => vq (Lp.facs m (min n m) r (uu m n) p W y k)), G8) := by
    refine ⟨_, xlc_ok (G1 := [.im d, .im (.int (n : Int)), .im (.lst ss), .im (.tup ys), .im (.int (m : Int)), .ol L, x6, x7, x8, .un]) (ds := (List.range (m - n)).map fun k => .int ((k : Nat) : Int)) ?_ rfl g9 (by show few (rgD (m - n) _).length = true; rw [rgD_len]; exact fewl (by omega))⟩
    refine (xrange1_ok (n := (m : Int) - (n : Int)) (xc1 (xo2 (x := .int (m : Int)) (y := .int (n : Int)) rfl rfl rfl) xnil_ok) ?_).trans ?_
    · exact okR_of (by omega) (by omega)
    · rw [show ((m : Int) - (n : Int)).toNat = m - n by omega, rng_rgD]
      rfl
  obtain ⟨G8, wp⟩ := wp
  exact st_ret (xcb_ok (xcw wp xnil_ok) rfl)
end Bk
namespace Bk
open PySem L2
/-- what is asked of solved -/
structure Sv (m n r : Nat) (d : D) (as : List D) (W : Nat → Rat) (p : Nat → Nat) (v : Nat → Rat) : Prop where
  m0 : 0 < m
  m5 : m < 5
  n4 : n < 4
  r4 : r ≤ 4
  hd : d = .lst as ∨ d = .tup as
  ha : as.map valQ = (List.range m).map W
  la : Ln 4 as
  hp : ∀ i, i < r → p i < m
  inj : ∀ i k, i < r → k < r → p i = p k → i = k
  hv : ∀ i, i < r → ∃ z : Int, v i = (z : Rat) ∧ z.natAbs ≤ 4
section
variable {m n r : Nat} {as : List D} {d : D} {W v : Nat → Rat} {p : Nat → Nat} {s : Lp.St}
abbrev sq (m n : Nat) : Nat := min n m
abbrev sw (m n : Nat) : Nat := m - n
abbrev sM (m n : Nat) : Nat := 2 * sq m n + sw m n
abbrev sT (m n r : Nat) (p : Nat → Nat) (v : Nat → Rat) : Lp.St := Lp.T0 (sq m n) (sw m n) r (uu m n) p v
theorem ht_int {i : Int} {k B : Nat} (h : i.natAbs ≤ B) (hB : B < 2 ^ k) (hk : 0 < k) : Ht (i : Rat) k := Ht.int (show i.natAbs < 2 ^ k by omega) hk
theorem Sv.v_ht (h : Sv m n r d as W p v) : ∀ i, i < r → Ht (v i) 3 := fun i hi => by
  obtain ⟨z, e, hz⟩ := h.hv i hi
  rw [e]
  exact ht_int hz (by decide) (by decide)
theorem Sv.u_ht (h : Sv m n r d as W p v) {c t : Nat} (hc : c < sM m n) (ht : t < m) : Ht (uu m n c t) 2 := by
  have := units_le (m := m) (n := n) h.m5 h.n4 hc ht
  exact ht_int this (by decide) (by decide)
theorem Sv.w_ht (h : Sv m n r d as W p v) : ∀ t, t < m → Ht (W t) 4 := fun t ht => by
  have : W t ∈ as.map valQ := by rw [h.ha]; exact List.mem_map.mpr ⟨t, List.mem_range.mpr ht, rfl⟩
  obtain ⟨x, hx, e⟩ := List.mem_map.mp this
  rw [← e]
  exact (h.la x hx).2
theorem Sv.small (h : Sv m n r d as W p v) (iv : Lp.Inv (sT m n r p v).L r (sM m n + r) s) : TOk9 r (sM m n + r) 50 s := by
  have sgz : ∀ i, ∃ z : Int, sg0 v i = (z : Rat) ∧ z.natAbs = 1 := fun i => by
    unfold sg0
    split
    · exact ⟨-1, rfl, rfl⟩
    · exact ⟨1, rfl, rfl⟩
  have ent : ∀ i j, i < r → j ≤ sM m n + r → ∃ z : Int, (sT m n r p v).L i j = (z : Rat) ∧ z.natAbs ≤ 4 := fun i j hi hj => by
    obtain ⟨g, e1, e2⟩ := sgz i
    by_cases h1 : j < sM m n
    · refine ⟨g * uZ m n j (p i), ?_, ?_⟩
      · rw [Lp.tab0_lo h1, e1, Rat.intCast_mul]
        rfl
      · rw [Int.natAbs_mul, e2, Nat.one_mul]
        exact Nat.le_trans (units_le h.m5 h.n4 h1 (h.hp i hi)) (by decide)
    · by_cases h2 : j < sM m n + r
      · obtain ⟨k, rfl⟩ : ∃ k, j = sM m n + k := ⟨j - sM m n, by omega⟩
        refine ⟨if k = i then 1 else 0, ?_, ?_⟩
        · rw [Lp.tab0_own (by omega)]
          split <;> rfl
        · split <;> decide
      · obtain rfl : j = sM m n + r := by omega
        obtain ⟨z, e3, e4⟩ := h.hv i hi
        refine ⟨g * z, ?_, ?_⟩
        · rw [Lp.tab0_val, e1, e3, Rat.intCast_mul]
        · rw [Int.natAbs_mul, e2, Nat.one_mul]
          exact e4
  refine ⟨fun i j hi hj => ?_, iv.lt⟩
  let z : Nat → Nat → Int := fun i j => if x : i < r ∧ j ≤ sM m n + r then Classical.choose (ent i j x.1 x.2) else 0
  have hz : ∀ i j, i < r → j ≤ sM m n + r → (sT m n r p v).L i j = (z i j : Rat) ∧ (z i j).natAbs ≤ 4 := fun i j hi hj => by
    have : z i j = Classical.choose (ent i j hi hj) := dif_pos ⟨hi, hj⟩
    rw [this]
    exact Classical.choose_spec (ent i j hi hj)
  obtain ⟨dd, d0, dB, hw⟩ := iv.small (H := 4) (by decide) (z := z) (fun i j hi hj => hz i j hi (Nat.le_of_lt hj)) hj (D := 1) (y := fun i => z i j) fun i hi => by
    have := hz i j hi hj
    refine ⟨?_, this.2⟩
    rw [this.1]
    grind
  obtain ⟨x, xB, e⟩ := hw i hi
  have B : (2 * (4 * (r + 1))) ^ r ≤ 40 ^ 4 := Nat.le_trans (Nat.pow_le_pow_left (show 2 * (4 * (r + 1)) ≤ 40 by have := h.r4; omega) r) (Nat.pow_le_pow_right (by decide) h.r4)
  have d0' : (dd : Rat) ≠ 0 := fun w => d0 (by exact_mod_cast w)
  have : s.L i j = (x : Rat) / (dd : Rat) := by
    rw [← e, Rat.div_def]
    have := Rat.mul_inv_cancel _ d0'
    grind
  rw [this]
  exact ((ht_int (k := 25) (Nat.le_trans xB B) (by decide) (by decide)).div (ht_int (k := 25) (Nat.le_trans dB B) (by decide) (by decide)) d0').up (by decide)
theorem Sv.own (h : Sv m n r d as W p v) : Indep (sT m n r p v).L (sM m n) r := fun y hy => Lp.indep_tab (units_of h.m5 h.n4) h.hp h.inj hy
theorem Sv.big (h : Sv m n r d as W p v) : (sM m n + r) ^ r ≤ 1000000 := by
  have h1 := h.m5
  have h2 := h.n4
  have h3 := h.r4
  exact Nat.le_trans (Nat.pow_le_pow_left (show sM m n + r ≤ 11 by unfold sM sq sw; omega) r) (Nat.le_trans (Nat.pow_le_pow_right (by decide) h3) (by decide))
theorem Sv.cols (h : Sv m n r d as W p v) : 0 < sM m n ∧ sM m n ≤ 7 := by
  have h1 := h.m5
  have h2 := h.n4
  have h3 := h.m0
  unfold sM sq sw
  omega
/-- numbers that a base shows -/
theorem pick_ht {k : Nat} (iv : Lp.Inv (sT m n r p v).L r (sM m n + r) s) (g : Nat → Rat) (hg : ∀ i, i < r → Ht (g i) k) (hk : 0 < k) (j : Nat) : Ht (Lp.sg r fun i => if s.b i = j then g i else 0) k := by
  by_cases z : ∃ i, i < r ∧ s.b i = j
  · obtain ⟨i, hi, e⟩ := z
    rw [Lp.sg_one hi fun t ht hne => if_neg fun y => hne (iv.inj ht hi (y.trans e.symm)), if_pos e]
    exact hg i hi
  · rw [Lp.sg_zero fun i hi => if_neg fun y => z ⟨i, hi, y⟩]
    exact ht0.up hk
theorem Sv.vals_ht (h : Sv m n r d as W p v) (iv : Lp.Inv (sT m n r p v).L r (sM m n + r) s) (j : Nat) : Ht (Lp.vals r (sM m n + r) s j) 50 := pick_ht iv _ (fun i hi => (h.small iv).h i _ hi (Nat.le_refl _)) (by decide) j
theorem Sv.way_ht (h : Sv m n r d as W p v) (iv : Lp.Inv (sT m n r p v).L r (sM m n + r) s) {e : Nat} (he : e ≤ sM m n + r) (j : Nat) : Ht (Lp.way r s e j) 52 := by
  have h1 := pick_ht iv (fun i => s.L i e) (fun i hi => (h.small iv).h i _ hi he) (by decide) j
  have h2 : Ht (if j = e then (1 : Rat) else 0) 1 := by
    split
    · exact ht_int (i := 1) (B := 1) (by decide) (by decide) (by decide)
    · exact ht0
  exact h2.sub h1
theorem Sv.red_ht (h : Sv m n r d as W p v) (iv : Lp.Inv (sT m n r p v).L r (sM m n + r) s) {c : Nat → Rat} (hc : ∀ j, j < sM m n + r → Ht (c j) 30) {j : Nat} (hj : j < sM m n + r) : Ht (Lp.red r c s j) 356 := by
  have t := h.small iv
  have h1 := sg_ht (n := r) (k := 80) (f := fun i => c (s.b i) * s.L i j) fun i hi => (hc _ (t.b i hi)).mul (t.h i j hi (Nat.le_of_lt hj))
  have h2 := (hc j hj).sub h1
  refine h2.up ?_
  have := Nat.mul_le_mul_right (80 + 1) h.r4
  omega
theorem Sv.dual_ht (h : Sv m n r d as W p v) (iv : Lp.Inv (sT m n r p v).L r (sM m n + r) s) {c : Nat → Rat} (hc : ∀ j, j < sM m n + r → Ht (c j) 30) {i : Nat} (hi : i < r) : Ht (Lp.yy (sq m n) (sw m n) r v c s i) 326 := by
  have t := h.small iv
  have h1 := sg_ht (n := r) (k := 80) (f := fun k => c (s.b k) * s.L k (sM m n + r - r + i)) fun k hk => (hc _ (t.b k hk)).mul (t.h k _ hk (by omega))
  have h2 := (sg0_ht v i).mul h1
  refine h2.up ?_
  have := Nat.mul_le_mul_right (80 + 1) h.r4
  omega
end
end Bk
namespace Bk
open PySem L2
abbrev LREST : MSV := (vseq (vifs (lf 5 (xtest (xop opIsNot (xv 10) (xc .non)))) (vret (vtup (vcons (lf 5 (xc (.str "endless"))) (vcons (lf 5 (xv 11)) (vcons (vcall r_row_of (vcons (lf 5 (xv 4)) (vcons (lend9 5 flatR (xmeth 5 r_Table_way_of [] (xv 5) (xcons (xv 10) xnil))) (vcons (lf 5 (xv 3)) (lf 5 xnil))))) (lf 5 xnil)))))) vnext)
  (vseq (vset 7 (vfz (lend9 5 flatR (xmeth 5 r_Table_counts_of [] (xv 5) (xcons (xv 9) xnil)))))
  (vret (lf 5 (xtup (xcons (xc (.str "least")) (xcons (xv 11) (xcons (xv 7) (xcons (xcall r_factors_of (xcons (xv 0) (xcons (xv 1) (xcons (xv 2) (xcons (xv 7) xnil))))) xnil)))))))))
abbrev SREST : MSV := (vseq (vdropW (wmeth r_Table_clear (lf 5 xnil)))
  (vseq (vset 9 (vfz (lf 5 (xop opAddB (xlc (xseqI (xv 4)) (tgn 12) xtyes (xcall r_row_told (xcons (xv 0) (xcons (xv 12) xnil))) [12]) (xop opMul (xlst (xcons (xc c_NOUGHT) xnil)) (xcb cbLen (xcons (xv 2) xnil)))))))
  (vseq (vsetW 10 (wmeth r_Table_lower (vcons (lf 5 (xv 9)) (vcons (lf 5 (xcb cbLen (xcons (xv 4) xnil))) (lf 5 xnil)))))
  (vseq (vset 11 (vfz (vcall r_row_of (vcons (lf 5 (xv 4)) (vcons (lend9 5 flatR (xmeth 5 r_Table_values_now [] (xv 5) xnil)) (vcons (lf 5 (xv 3)) (lf 5 xnil)))))))
  LREST))))
/-- what solved gives -/
inductive PapR (m n r : Nat) (W : Nat → Rat) (p : Nat → Nat) (v : Nat → Rat) : D → Prop where
  | none (y f : Nat → Rat) (c : Lp.CtsOk m (sw m n) r (dE n) p (fun _ => 0) y f) (pos : 0 < Lp.sg r fun i => y i * v i) (hy : ∀ i, i < r → Ht (y i) 326) (hf : ∀ k, k < sw m n → Ht (f k) 356) :
      PapR m n r W p v (.tup [.str "none", .tup (rgD r fun i => vq (y i)), .tup (rgD (sw m n) fun k => vq (f k))])
  | endless (x z : Nat → Rat) (hx : Lp.RowOk m (sw m n) r (dE n) p v x) (hz : Lp.RowOk m (sw m n) r (dE n) p (fun _ => 0) z) (neg : (Lp.sg m fun t => W t * z t) < 0) (sx : ∀ t, t < m → Ht (x t) 400) (sz : ∀ t, t < m → Ht (z t) 400) :
      PapR m n r W p v (.tup [.str "endless", .tup (rgD m fun t => vq (x t)), .tup (rgD m fun t => vq (z t))])
  | least (x y f : Nat → Rat) (hx : Lp.RowOk m (sw m n) r (dE n) p v x) (c : Lp.CtsOk m (sw m n) r (dE n) p W y f) (eq : (Lp.sg m fun t => W t * x t) = Lp.sg r fun i => y i * v i) (sx : ∀ t, t < m → Ht (x t) 400) (hy : ∀ i, i < r → Ht (y i) 326) (hf : ∀ k, k < sw m n → Ht (f k) 356) :
      PapR m n r W p v (.tup [.str "least", .tup (rgD m fun t => vq (x t)), .tup (rgD r fun i => vq (y i)), .tup (rgD (sw m n) fun k => vq (f k))])
theorem xnewV_ok {j : Nat} {mk : List D → Option (List D × List D)} {a : M (List D)} {c : MSV} {G G1 G2 : Gam} {xs ds bs ds' bs' : List D} {fl : Fl} (h : a G = some (xs, G1)) (hm : mk xs = some (ds, bs)) (hl : j < G1.length) (hc : c ds bs (G1.set j .un) = some (fl, ds', bs', G2)) : xnewV j mk a c G = some (fl, G2) := by
  unfold xnewV
  rw [h]
  simp only [hm, hl, if_true, hc]
abbrev GV (d : D) (n m : Nat) (S : D) (us : List D) (x6 x7 x8 x9 x10 x11 : Ent) : Gam := [.im d, .im (.int (n : Int)), .im S, .im (.int (m : Int)), .im (.lst us), .un, x6, x7, x8, x9, x10, x11, .un, .un, .un, .un]
theorem GV_mu {d S : D} {n m : Nat} {us : List D} {x6 x7 x8 x9 x10 x11 : Ent} (h6 : x6.mu = none) (h7 : x7.mu = none) (h8 : x8.mu = none) (h9 : x9.mu = none) (h10 : x10.mu = none) (h11 : x11.mu = none) : ∀ e ∈ GV d n m S us x6 x7 x8 x9 x10 x11, e.mu = none := by
  intro e he
  simp only [List.mem_cons, List.not_mem_nil, or_false] at he
  rcases he with rfl | rfl | rfl | rfl | rfl | rfl | rfl | rfl | rfl | rfl | rfl | rfl | rfl | rfl | rfl | rfl <;> first | assumption | rfl
theorem flats_rg {α : Type} (f : α → Rat) : ∀ l : List α, flats (l.map fun i => vq (f i)) = true
  | [] => rfl
  | a :: l => by
    show (flat (vq (f a)) && flats (l.map fun i => vq (f i))) = true
    rw [flats_rg f l]
    rfl
theorem nb1_tup (bs : List D) (n : Nat) (f : Nat → Rat) : nb1 bs (.tup (rgD n fun i => vq (f i))) = true := flats_rg f _
theorem add_rg (a b : Nat) (f g : Nat → D) (h : a + b ≤ 90000) : opAddB (.lst (rgD a f)) (.lst (rgD b g)) = some (.ol (rgD (a + b) fun j => if j < a then f j else g (j - a))) := by
  show (if few ((rgD a f).length + (rgD b g).length) then some (R.ol (rgD a f ++ rgD b g)) else none) = _
  rw [rgD_len, rgD_len, fewl (by omega), if_pos rfl, rgD_app]
section
variable {m n r : Nat} {as : List D} {d : D} {W v : Nat → Rat} {p : Nat → Nat}
theorem facs_red (h : Sv m n r d as W p v) {X c : Nat → Rat} {s : Lp.St} (iv : Lp.Inv (sT m n r p v).L r (sM m n + r) s) (hc : ∀ j, j < sM m n → c j = Lp.sg m fun t => X t * uu m n j t) {k : Nat} (hk : k < sw m n) : Lp.facs m (sq m n) r (uu m n) p X (Lp.yy (sq m n) (sw m n) r v c s) k = Lp.red r c s (2 * sq m n + k) := by
  unfold Lp.facs
  rw [Lp.left_told h.hp, ← hc _ (by unfold sM; omega), ← Lp.red_y iv (by omega)]
def c2 (m n : Nat) (W : Nat → Rat) (j : Nat) : Rat := if j < sM m n then Lp.sg m fun t => W t * uu m n j t else 0
theorem c1_ht (M j : Nat) : Ht (Lp.c1 M j) 30 := by
  unfold Lp.c1
  split
  · exact ht0.up (by decide)
  · exact ht_int (i := 1) (B := 1) (by decide) (by decide) (by decide)
theorem c2_ht (h : Sv m n r d as W p v) (j : Nat) : Ht (c2 m n W j) 30 := by
  unfold c2
  split
  · rename_i z
    have h1 := sg_ht (n := m) (k := 6) (f := fun t => W t * uu m n j t) fun t ht => (h.w_ht t ht).mul (h.u_ht z ht)
    refine h1.up ?_
    have := Nat.mul_le_mul_right (6 + 1) (show m ≤ 4 by have := h.m5; omega)
    omega
  · exact ht0.up (by decide)
theorem v_solved (h : Sv m n r d as W p v) : ∃ R, r_solved [d, .int (n : Int), SD r p v] = some (.im R) ∧ PapR m n r W p v R := by
  have m5 := h.m5
  have n4 := h.n4
  have r4 := h.r4
  obtain ⟨M0, M7⟩ := h.cols
  have U := units_of (m := m) (n := n) h.m5 h.n4
  obtain ⟨S, hS⟩ : ∃ S, S = SD r p v := ⟨_, rfl⟩
  obtain ⟨us, hus⟩ : ∃ us, us = rgD (sM m n) fun c => D.lst (rgD m fun t => vq (uu m n c t)) := ⟨_, rfl⟩
  have sz : ∀ s, Lp.Inv (sT m n r p v).L r (sM m n + r) s → TOk9 r (sM m n + r) 50 s := fun s iv => h.small iv
  have seqS : seqD S = some (rgD r fun i => .tup [.int (p i : Int), vq (v i)]) := by rw [hS]; rfl
  have usl : us.length = sM m n := by rw [hus, rgD_len]
  have lenS : cbLen [S] = some (.im (.int (r : Int))) := by
    rw [hS]
    show some (R.im (.int (((rgD r fun i => D.tup [.int (p i : Int), vq (v i)]).length : Nat) : Int))) = _
    rw [rgD_len]
  have lenU : cbLen [.lst us] = some (.im (.int (sM m n : Int))) := by
    show some (R.im (.int ((us.length : Nat) : Int))) = _
    rw [usl]
  have as_l : as.length = m := by have := congrArg List.length h.ha; rwa [List.length_map, List.length_map, List.length_range] at this
  have lenW : cbLen [d] = some (.im (.int (m : Int))) := by
    rcases h.hd with rfl | rfl <;> exact congrArg (fun n : Nat => some (R.im (.int (n : Int)))) as_l
  -- the columns and the values
  have args : (xcons (xlc (xseqI (xv 4)) (tgn 12) xtyes (xlc (xseqI (xv 2)) (tgt [(tgn 13), (tgn 14)]) xtyes (xop opIx (xv 12) (xv 13)) [13, 14]) [12]) (xcons (xlc (xseqI (xv 2)) (tgt [(tgn 13), (tgn 14)]) xtyes (xv 14) [13, 14]) xnil)) [.im d, .im (.int (n : Int)), .im S, .im (.int (m : Int)), .ol us, .un, .un, .un, .un, .un, .un, .un, .un, .un, .un, .un] = some ([.lst (rgD (sM m n) fun c => .lst (rgD r fun i => vq (uu m n c (p i)))), .lst (rgD r fun i => vq (v i))], GV d n m S us .un .un .un .un .un .un) := by
    have l1 : xlc (xseqI (xv 4)) (tgn 12) xtyes (xlc (xseqI (xv 2)) (tgt [(tgn 13), (tgn 14)]) xtyes (xop opIx (xv 12) (xv 13)) [13, 14]) [12] [.im d, .im (.int (n : Int)), .im S, .im (.int (m : Int)), .ol us, .un, .un, .un, .un, .un, .un, .un, .un, .un, .un, .un] = some (.ol (rgD (sM m n) fun c => .lst (rgD r fun i => vq (uu m n c (p i)))), GV d n m S us .un .un .un .un .un .un) := by
      refine xlc_un (G := GV d n m S us .un .un .un .un .un .un) (ds := us) (xseqI_ok (d := .lst us) rfl rfl) rfl rfl rfl ?_ (by rw [rgD_len]; omega)
      rw [hus]
      unfold rgD
      refine xlcL_en (fun c => .lst (rgD r fun i => vq (uu m n c (p i)))) fun c hc => ?_
      refine ⟨_, .ol (rgD r fun i => vq (uu m n c (p i))), _, rfl, xlc_un (xseqI_ok (d := S) rfl seqS) rfl rfl rfl ?_ (by rw [rgD_len]; omega), rfl, rfl⟩
      unfold rgD
      refine xlcL_en (fun i => vq (uu m n c (p i))) fun i hi => ?_
      exact ⟨_, _, _, rfl, xo2 rfl rfl (rgD_ix _ (h.hp i (List.mem_range.mp hi))), rfl, rfl⟩
    have l2 : xlc (xseqI (xv 2)) (tgt [(tgn 13), (tgn 14)]) xtyes (xv 14) [13, 14] (GV d n m S us .un .un .un .un .un .un) = some (.ol (rgD r fun i => vq (v i)), GV d n m S us .un .un .un .un .un .un) := by
      refine xlc_un (xseqI_ok (d := S) rfl seqS) rfl rfl rfl ?_ (by rw [rgD_len]; omega)
      unfold rgD
      exact xlcL_en (fun i => vq (v i)) fun i hi => ⟨_, _, _, rfl, rfl, rfl, rfl⟩
    exact xcw l1 (xcw l2 xnil_ok)
  have mk := v_Table_init (M := sM m n) (r := r) (k := 50) (v := v) (a := fun i c => uu m n c (p i)) (fun i hi => (h.v_ht i hi).up (by decide)) (fun i j hi hj => (h.u_ht hj (h.hp i hi)).up (by decide)) (by omega) (by omega) (by omega)
  -- down to the least sum of own columns
  obtain ⟨s1, d1, low1, iv1, fe1, _, en1⟩ := v_lower (M := sM m n) (n0 := sM m n) (sn := sg0 v) (c := Lp.c1 (sM m n)) (l := 30) (fun _ => True) (fun _ _ _ _ _ _ => trivial) sz rfl (Nat.le_refl _) (fun j _ => c1_ht _ j) (by omega) (by omega) (by omega) (by omega) h.big (s := sT m n r p v) Lp.tab0_inv (fun i _ => Lp.tab0_feas) trivial
  have c1p : ∀ j, 0 ≤ Lp.c1 (sM m n) j := fun j => by unfold Lp.c1; split <;> grind
  have rd1 : ∀ j, j < sM m n → 0 ≤ Lp.red r (Lp.c1 (sM m n)) s1 j := by
    rcases en1 with ⟨_, w⟩ | ⟨e, _, w1, w2, w3⟩
    · exact w
    · exact absurd w2 (Lp.no_fall iv1 (fun j _ => c1p j) (by omega) w3)
  obtain ⟨y1, hy1⟩ : ∃ y1, y1 = Lp.yy (sq m n) (sw m n) r v (Lp.c1 (sM m n)) s1 := ⟨_, rfl⟩
  have y1h : ∀ i, i < r → Ht (y1 i) 326 := fun i hi => by rw [hy1]; exact h.dual_ht iv1 (fun j _ => c1_ht _ j) hi
  have cts1 := v_counts_of (sn := sg0 v) (l := 30) (sz _ iv1) rfl (fun j _ => c1_ht (sM m n) j) (by omega) (by omega) (by omega) fun i _ => sg0_ht v i
  obtain ⟨wo, hwo⟩ : ∃ wo, wo = Lp.sg r fun i => y1 i * v i := ⟨_, rfl⟩
  have wor : Lp.worth r (sM m n + r) (Lp.c1 (sM m n)) s1 = wo := by rw [hwo, hy1]; exact Lp.worth_y iv1
  obtain ⟨wo0, woz⟩ := Lp.worth1 (M := sM m n) iv1 fe1
  rw [wor] at wo0 woz
  have k6 : (vset 6 (vfz (lf 5 (xop opAddB (xop opMul (xlst (xcons (xc c_NOUGHT) xnil)) (xcb cbLen (xcons (xv 4) xnil))) (xop opMul (xlst (xcons (xc c_ONE) xnil)) (xcb cbLen (xcons (xv 2) xnil))))))) (TD (sM m n) r (sM m n + r) (sg0 v) (sT m n r p v)) (BD r (sT m n r p v)) (GV d n m S us .un .un .un .un .un .un) = some (.nx, TD (sM m n) r (sM m n + r) (sg0 v) (sT m n r p v), BD r (sT m n r p v), GV d n m S us (.im (CD (sM m n + r) (Lp.c1 (sM m n)))) .un .un .un .un .un) := by
    refine vset_ok9 (r := .im (CD (sM m n + r) (Lp.c1 (sM m n)))) (vfz_ok9 (r := .ol (rgD (sM m n + r) fun j => vq (Lp.c1 (sM m n) j))) (lf_ok9 (G1 := GV d n m S us .un .un .un .un .un .un) (xop_ok (x := .ol (rgD (sM m n) fun _ => vq 0)) (y := .ol (rgD r fun _ => vq 1)) (xop_ok (x := .ol [vq 0]) (xlst_ok (xc1 rfl xnil_ok) rfl) (xcb_ok (xc1 rfl xnil_ok) lenU) (mul_rg _ _ (by omega))) (xop_ok (x := .ol [vq 1]) (xlst_ok (xc1 rfl xnil_ok) rfl) (xcb_ok (xc1 rfl xnil_ok) lenS) (mul_rg _ _ (by omega))) ?_) rfl) rfl) rfl
    refine (add_rg _ _ _ _ (by omega)).trans ?_
    refine congrArg (fun xs : List D => some (R.ol xs)) ?_
    unfold rgD
    refine List.map_congr_left fun j _ => ?_
    unfold Lp.c1
    split <;> rfl
  obtain ⟨C1, hC1⟩ : ∃ C1, C1 = CD (sM m n + r) (Lp.c1 (sM m n)) := ⟨_, rfl⟩
  rw [← hC1] at k6 low1 cts1
  have w1 : (vdropW (wmeth r_Table_lower (vcons (lf 5 (xv 6)) (vcons (lf 5 (xcb cbLen (xcons (xv 4) xnil))) (lf 5 xnil))))) (TD (sM m n) r (sM m n + r) (sg0 v) (sT m n r p v)) (BD r (sT m n r p v)) (GV d n m S us (.im C1) .un .un .un .un .un) = some (.nx, TD (sM m n) r (sM m n + r) (sg0 v) s1, BD r s1, GV d n m S us (.im C1) .un .un .un .un .un) := by
    have a1 : lf 5 (xv 6) (TD (sM m n) r (sM m n + r) (sg0 v) (sT m n r p v)) (BD r (sT m n r p v)) (GV d n m S us (.im C1) .un .un .un .un .un) = some (.im C1, GV d n m S us (.im C1) .un .un .un .un .un) := lf_ok9 rfl rfl
    have a2 : lf 5 (xcb cbLen (xcons (xv 4) xnil)) (TD (sM m n) r (sM m n + r) (sg0 v) (sT m n r p v)) (BD r (sT m n r p v)) (GV d n m S us (.im C1) .un .un .un .un .un) = some (.im (.int (sM m n : Int)), GV d n m S us (.im C1) .un .un .un .un .un) := lf_ok9 (xcb_ok (xc1 (d := .lst us) rfl xnil_ok) lenU) rfl
    exact vdropW_ok9 (wmeth_ok9 (vcons_ok9 a1 rfl (vcons_ok9 a2 rfl (lf_ok9 xnil_ok rfl))) low1)
  obtain ⟨ds1, hds1⟩ : ∃ ds1, ds1 = TD (sM m n) r (sM m n + r) (sg0 v) s1 := ⟨_, rfl⟩
  obtain ⟨bs1, hbs1⟩ : ∃ bs1, bs1 = BD r s1 := ⟨_, rfl⟩
  have tab1 : tabD ds1 bs1 = TT9 (sM m n) r (sM m n + r) (sg0 v) s1 := by rw [hds1, hbs1]; rfl
  obtain ⟨Y1, hY1⟩ : ∃ Y1 : D, Y1 = .tup (rgD r fun i => vq (y1 i)) := ⟨_, rfl⟩
  have cts1' : r_Table_counts_of [tabD ds1 bs1, C1] = some (.im Y1) := by
    rw [tab1, hY1, hy1]
    exact cts1
  have nbY (bs : List D) : nb1 bs Y1 = true := by rw [hY1]; exact nb1_tup _ _ _
  have k7 : (vset 7 (vfz (lend9 5 flatR (xmeth 5 r_Table_counts_of [] (xv 5) (xcons (xv 6) xnil))))) ds1 bs1 (GV d n m S us (.im C1) .un .un .un .un .un) = some (.nx, ds1, bs1, GV d n m S us (.im C1) (.im Y1) .un .un .un .un) := by
    refine vset_ok9 (r := .im Y1) (G1 := GV d n m S us (.im C1) .un .un .un .un .un) (vfz_ok9 (r := .im Y1) (lend_ok9 (r := R.im Y1) rfl ?_ (nbY bs1) (GV_mu rfl rfl rfl rfl rfl rfl)) rfl) rfl
    exact xmeth_ok (r := .im (tabD ds1 bs1)) rfl rfl (xc1 (d := C1) rfl xnil_ok) cts1'
  have k8 : (vset 8 (vfz (lf 5 (xcall r_summed (xcons (xlc (xzipA (xcons (xv 7) (xcons (xv 2) xnil))) (tgt [(tgn 15), (tgt [(tgn 13), (tgn 14)])]) xtyes (xcall r_multiplied (xcons (xv 15) (xcons (xv 14) xnil))) [15, 13, 14]) xnil))))) ds1 bs1 (GV d n m S us (.im C1) (.im Y1) .un .un .un .un) = some (.nx, ds1, bs1, GV d n m S us (.im C1) (.im Y1) (.im (vq wo)) .un .un .un) := by
    refine vset_ok9 (r := .im (vq wo)) (vfz_ok9 (r := .im (vq wo)) (lf_ok9 (G1 := GV d n m S us (.im C1) (.im Y1) .un .un .un .un) (xcall_ok (xcw (ds := (List.range r).map fun i => vq (y1 i * v i)) ?_ xnil_ok) ?_) rfl) rfl) rfl
    · refine xlc_un (G := GV d n m S us (.im C1) (.im Y1) .un .un .un .un) (xzip_ok (xc1 (d := Y1) rfl (xc1 (d := S) rfl xnil_ok)) (by rw [hY1]; rfl) seqS) rfl rfl rfl ?_ (by rw [List.length_map, List.length_range]; omega)
      rw [rgD_zip]
      refine xlcL_en (fun i => vq (y1 i * v i)) fun i hi => ?_
      have hi := List.mem_range.mp hi
      exact ⟨_, _, _, rfl, xcall_ok (xc1 rfl (xc1 rfl xnil_ok)) (v_multiplied (y1h i hi) (h.v_ht i hi) (by omega)), rfl, rfl⟩
    · have := v_summed (d := .lst ((List.range r).map fun i => vq (y1 i * v i))) (qs := (List.range r).map fun i => y1 i * v i) (k := 329) (by rw [List.map_map]; rfl) (fun q hq => by
        obtain ⟨i, hi, rfl⟩ := List.mem_map.mp hq
        have hi := List.mem_range.mp hi
        exact (y1h i hi).mul (h.v_ht i hi)) (by rw [List.length_map, List.length_range]; omega)
      rw [sumQ_rg, ← hwo] at this
      exact this
  have te8 : lf 5 (xtest (xop opNe (xv 8) (xc c_NOUGHT))) ds1 bs1 (GV d n m S us (.im C1) (.im Y1) (.im (vq wo)) .un .un .un) = some (!decide (wo = 0), GV d n m S us (.im C1) (.im Y1) (.im (vq wo)) .un .un .un) := lf_ok9 (xtest_ok (xo2 (y := vq 0) rfl rfl (ne_vq _ _))) rfl
  -- the beginning of the walk
  have walk : ∀ {R : D} {ds' bs' : List D} {G' : Gam}, (vseq (vifs (lf 5 (xtest (xop opNe (xv 8) (xc c_NOUGHT)))) (vret (lf 5 (xtup (xcons (xc (.str "none")) (xcons (xv 7) (xcons (xcall r_factors_of (xcons (xop opMul (xlst (xcons (xc (.int 0)) xnil)) (xv 3)) (xcons (xv 1) (xcons (xv 2) (xcons (xv 7) xnil))))) xnil)))))) vnext) SREST) ds1 bs1 (GV d n m S us (.im C1) (.im Y1) (.im (vq wo)) .un .un .un) = some (.rt (.im R), ds', bs', G') → r_solved [d, .int (n : Int), S] = some (.im R) := fun {R ds' bs' G'} hw => by
    refine runF_st rfl ?_
    refine st_nx (G1 := [.im d, .im (.int (n : Int)), .im S, .im (.int (m : Int)), .un, .un, .un, .un, .un, .un, .un, .un, .un, .un, .un, .un]) (xset_e (xcb_ok (xc1 rfl xnil_ok) lenW) rfl) ?_
    refine st_nx (G1 := [.im d, .im (.int (n : Int)), .im S, .im (.int (m : Int)), .ol us, .un, .un, .un, .un, .un, .un, .un, .un, .un, .un, .un]) (xset_e (r := .ol us) (xcall_ok (xc1 rfl (xc1 rfl xnil_ok)) (by rw [hus]; exact v_unit_rows h.m5 h.n4)) rfl) ?_
    refine (congrArg outF (xnewV_ok (fl := .rt (.im R)) (G2 := G') (ds' := ds') (bs' := bs') args mk (by show 5 < 16; decide) ?_) : _ = outF (some (Fl.rt (.im R), G')))
    refine (vseq_e k6).trans ?_
    rw [vseq_e w1, ← hds1, ← hbs1, vseq_e k7, vseq_e k8]
    exact hw
  rw [← hS]
  by_cases z : wo = 0
  case neg =>
    rw [decide_eq_false z] at te8
    have fc := v_factors_of (m := m) (n := n) (r := r) (k := 1) (l := 326) (as := rgD m fun _ => .int 0) (d := .lst (rgD m fun _ => .int 0)) (W := fun _ => 0) (y := y1) (v := v) (p := p) (.inl rfl) (by
      unfold rgD
      rw [List.map_map]
      rfl) (fun x hx => by
      obtain ⟨t, _, rfl⟩ := List.mem_map.mp hx
      exact ⟨.inl ⟨0, rfl⟩, ht0⟩) h.hp y1h (by decide) (by decide) h.m5 h.n4 h.r4 (by decide)
    rw [← hY1, ← hS] at fc
    have zc : ∀ j, j < sM m n → Lp.c1 (sM m n) j = Lp.sg m fun t => (fun _ => (0 : Rat)) t * uu m n j t := fun j hj => by
      rw [Lp.sg_zero fun t _ => by grind]
      exact if_pos hj
    refine ⟨.tup [.str "none", Y1, .tup (rgD (sw m n) fun k => vq (Lp.facs m (sq m n) r (uu m n) p (fun _ => 0) y1 k))], walk (G' := GV d n m S us (.im C1) (.im Y1) (.im (vq wo)) .un .un .un) (ds' := ds1) (bs' := bs1) ?_, ?_⟩
    · unfold vseq
      rw [vifs_ye9 te8, vret_ok9 (lf_ok9 (G1 := GV d n m S us (.im C1) (.im Y1) (.im (vq wo)) .un .un .un) (xtup_ok (xc1 rfl (xc1 rfl (xc1 (xcall_ok (xcw (ds := rgD m fun _ => .int 0) (xop_ok (x := .ol [.int 0]) (xlst_ok (xc1 rfl xnil_ok) rfl) (y := .im (.int (m : Int))) rfl (mul_rg _ _ (by omega))) (xc1 rfl (xc1 rfl (xc1 rfl xnil_ok)))) fc) xnil_ok))) rfl) rfl)]
    · rw [hY1]
      refine .none y1 _ ?_ (by rw [← hwo]; grind) y1h (fun k hk => ?_)
      · rw [hy1]
        exact Lp.cts_of U h.hp zc iv1 rd1
      · rw [hy1, facs_red h iv1 zc hk]
        exact h.red_ht iv1 (fun j _ => c1_ht _ j) (by unfold sM; omega)
  case pos =>
    rw [decide_eq_true z] at te8
    obtain ⟨s2, cl2, hc2⟩ := v_clear (M := sM m n) (sn := sg0 v) sz rfl (by omega) (by omega) (by omega) h.own iv1 (woz z)
    obtain ⟨s3, d3, low3, iv3, fe3, fr3, en3⟩ := v_lower (M := sM m n) (n0 := sM m n) (sn := sg0 v) (c := c2 m n W) (l := 30) (fun s => ∀ i, i < r → s.b i < sM m n) (fun s q e _ st hb i hi => by
      show (if i = q then e else s.b i) < sM m n
      split
      · exact st.en
      · exact hb i hi) sz rfl (Nat.le_refl _) (fun j _ => c2_ht h j) (by omega) (by omega) (by omega) (by omega) h.big hc2.iv (fun i hi => by rw [hc2.va i hi]; exact fe1 i hi) hc2.fr
    have zc : ∀ j, j < sM m n → c2 m n W j = Lp.sg m fun t => W t * uu m n j t := fun j hj => if_pos hj
    obtain ⟨C2, hC2⟩ : ∃ C2, C2 = CD (sM m n + r) (c2 m n W) := ⟨_, rfl⟩
    obtain ⟨y3, hy3⟩ : ∃ y3, y3 = Lp.yy (sq m n) (sw m n) r v (c2 m n W) s3 := ⟨_, rfl⟩
    have y3h : ∀ i, i < r → Ht (y3 i) 326 := fun i hi => by rw [hy3]; exact h.dual_ht iv3 (fun j _ => c2_ht h j) hi
    have cts3 := v_counts_of (sn := sg0 v) (l := 30) (sz _ iv3) rfl (fun j _ => c2_ht h j) (by omega) (by omega) (by omega) fun i _ => sg0_ht v i
    have vn3 := v_values_now (sn := sg0 v) iv3 rfl (by omega)
    obtain ⟨x3, hx3⟩ : ∃ x3, x3 = Lp.mix (sM m n) (uu m n) (Lp.vals r (sM m n + r) s3) := ⟨_, rfl⟩
    have x3h : ∀ t, t < m → Ht (x3 t) 400 := fun t ht => by
      rw [hx3]
      have h1 := sg_ht (n := sM m n) (k := 52) (f := fun c => Lp.vals r (sM m n + r) s3 c * uu m n c t) fun c hc => (h.vals_ht iv3 c).mul (h.u_ht hc ht)
      refine h1.up ?_
      have := Nat.mul_le_mul_right (52 + 1) M7
      omega
    have ro3 := v_row_of (M := sM m n) (m := m) (k := 2) (l := 50) (U := uu m n) (x := Lp.vals r (sM m n + r) s3) (fun c t hc ht => h.u_ht hc ht) (fun c _ => h.vals_ht iv3 c) (by omega) (by omega) (by have := Nat.mul_le_mul_right (2 + 50 + 1) M7; omega)
    unfold UD at ro3
    rw [← hus, ← hx3] at ro3
    obtain ⟨X3, hX3⟩ : ∃ X3 : D, X3 = .tup (rgD m fun t => vq (x3 t)) := ⟨_, rfl⟩
    rw [← hX3] at ro3
    rw [← hC2] at low3 cts3
    rw [← hds1, ← hbs1] at cl2
    obtain ⟨ds2, hds2⟩ : ∃ ds2, ds2 = TD (sM m n) r (sM m n + r) (sg0 v) s2 := ⟨_, rfl⟩
    obtain ⟨bs2, hbs2⟩ : ∃ bs2, bs2 = BD r s2 := ⟨_, rfl⟩
    obtain ⟨ds3, hds3⟩ : ∃ ds3, ds3 = TD (sM m n) r (sM m n + r) (sg0 v) s3 := ⟨_, rfl⟩
    obtain ⟨bs3, hbs3⟩ : ∃ bs3, bs3 = BD r s3 := ⟨_, rfl⟩
    have tab3 : tabD ds3 bs3 = TT9 (sM m n) r (sM m n + r) (sg0 v) s3 := by rw [hds3, hbs3]; rfl
    rw [← hds2, ← hbs2] at cl2 low3
    rw [← hds3, ← hbs3] at low3
    rw [← tab3] at cts3 vn3
    obtain ⟨Y3, hY3⟩ : ∃ Y3 : D, Y3 = .tup (rgD r fun i => vq (y3 i)) := ⟨_, rfl⟩
    have cts3' : r_Table_counts_of [tabD ds3 bs3, C2] = some (.im Y3) := by
      rw [hY3, hy3]
      exact cts3
    have nbY3 (bs : List D) : nb1 bs Y3 = true := by rw [hY3]; exact nb1_tup _ _ _
    let E1 : Ent := .im C1
    let E7 : Ent := .im Y1
    let E8 : Ent := .im (vq wo)
    have wcl : (vdropW (wmeth r_Table_clear (lf 5 xnil))) ds1 bs1 (GV d n m S us (.im C1) (.im Y1) (.im (vq wo)) .un .un .un) = some (.nx, ds2, bs2, GV d n m S us (.im C1) (.im Y1) (.im (vq wo)) .un .un .un) := vdropW_ok9 (wmeth_ok9 (lf_ok9 xnil_ok rfl) cl2)
    have l9 : xlc (xseqI (xv 4)) (tgn 12) xtyes (xcall r_row_told (xcons (xv 0) (xcons (xv 12) xnil))) [12] (GV d n m S us (.im C1) (.im Y1) (.im (vq wo)) .un .un .un) = some (.ol (rgD (sM m n) fun c => vq (c2 m n W c)), GV d n m S us (.im C1) (.im Y1) (.im (vq wo)) .un .un .un) := by
      refine xlc_un (ds := us) (xseqI_ok (d := .lst us) rfl rfl) rfl rfl rfl ?_ (by rw [rgD_len]; omega)
      rw [hus]
      unfold rgD
      refine xlcL_en (fun c => vq (c2 m n W c)) fun c hc => ?_
      have hc := List.mem_range.mp hc
      have tl := told9 (d := d) (e := .lst (rgD m fun t => vq (uu m n c t))) (as := as) (bs := rgD m fun t => vq (uu m n c t)) (m := m) (w := W) (x := uu m n c) (k := 4) (l := 2) (by rcases h.hd with e | e <;> rw [e] <;> rfl) rfl h.ha (rgD_vals _ _) h.la (rgD_ln fun t ht => h.u_ht hc ht) (by omega) (by omega)
      rw [← zc c hc] at tl
      exact ⟨_, _, _, rfl, xcall_ok (xc1 (d := d) rfl (xc1 rfl xnil_ok)) tl, rfl, rfl⟩
    have k9 : (vset 9 (vfz (lf 5 (xop opAddB (xlc (xseqI (xv 4)) (tgn 12) xtyes (xcall r_row_told (xcons (xv 0) (xcons (xv 12) xnil))) [12]) (xop opMul (xlst (xcons (xc c_NOUGHT) xnil)) (xcb cbLen (xcons (xv 2) xnil))))))) ds2 bs2 (GV d n m S us (.im C1) (.im Y1) (.im (vq wo)) .un .un .un) = some (.nx, ds2, bs2, GV d n m S us (.im C1) (.im Y1) (.im (vq wo)) (.im C2) .un .un) := by
      refine vset_ok9 (r := .im C2) (G1 := GV d n m S us (.im C1) (.im Y1) (.im (vq wo)) .un .un .un) (vfz_ok9 (r := .ol (rgD (sM m n + r) fun j => vq (c2 m n W j))) (lf_ok9 (xop_ok (x := .ol (rgD (sM m n) fun c => vq (c2 m n W c))) (y := .ol (rgD r fun _ => vq 0)) l9 (xop_ok (x := .ol [vq 0]) (xlst_ok (xc1 rfl xnil_ok) rfl) (xcb_ok (xc1 (d := S) rfl xnil_ok) lenS) (mul_rg _ _ (by omega))) ?_) rfl) (by rw [hC2]; rfl)) rfl
      refine (add_rg _ _ _ _ (by omega)).trans ?_
      refine congrArg (fun xs : List D => some (R.ol xs)) ?_
      unfold rgD
      refine List.map_congr_left fun j _ => ?_
      by_cases y : j < sM m n
      · rw [if_pos y]
      · rw [if_neg y]
        have : c2 m n W j = 0 := if_neg y
        rw [this]
    have w10 : (vsetW 10 (wmeth r_Table_lower (vcons (lf 5 (xv 9)) (vcons (lf 5 (xcb cbLen (xcons (xv 4) xnil))) (lf 5 xnil))))) ds2 bs2 (GV d n m S us (.im C1) (.im Y1) (.im (vq wo)) (.im C2) .un .un) = some (.nx, ds3, bs3, GV d n m S us (.im C1) (.im Y1) (.im (vq wo)) (.im C2) (.im d3) .un) := by
      have a1 : lf 5 (xv 9) ds2 bs2 (GV d n m S us (.im C1) (.im Y1) (.im (vq wo)) (.im C2) .un .un) = some (.im C2, GV d n m S us (.im C1) (.im Y1) (.im (vq wo)) (.im C2) .un .un) := lf_ok9 rfl rfl
      have a2 : lf 5 (xcb cbLen (xcons (xv 4) xnil)) ds2 bs2 (GV d n m S us (.im C1) (.im Y1) (.im (vq wo)) (.im C2) .un .un) = some (.im (.int (sM m n : Int)), GV d n m S us (.im C1) (.im Y1) (.im (vq wo)) (.im C2) .un .un) := lf_ok9 (xcb_ok (xc1 (d := .lst us) rfl xnil_ok) lenU) rfl
      exact vsetW_ok9 (wmeth_ok9 (vcons_ok9 a1 rfl (vcons_ok9 a2 rfl (lf_ok9 xnil_ok rfl))) low3) rfl
    have mu3 : ∀ x11 : Ent, x11.mu = none → ∀ e ∈ GV d n m S us (.im C1) (.im Y1) (.im (vq wo)) (.im C2) (.im d3) x11, e.mu = none := fun x11 h11 => GV_mu rfl rfl rfl rfl rfl h11
    have a4 : ∀ x11 : Ent, lf 5 (xv 4) ds3 bs3 (GV d n m S us (.im C1) (.im Y1) (.im (vq wo)) (.im C2) (.im d3) x11) = some (.im (.lst us), GV d n m S us (.im C1) (.im Y1) (.im (vq wo)) (.im C2) (.im d3) x11) := fun x11 => lf_ok9 rfl rfl
    have a3 : ∀ x11 : Ent, lf 5 (xv 3) ds3 bs3 (GV d n m S us (.im C1) (.im Y1) (.im (vq wo)) (.im C2) (.im d3) x11) = some (.im (.int (m : Int)), GV d n m S us (.im C1) (.im Y1) (.im (vq wo)) (.im C2) (.im d3) x11) := fun x11 => lf_ok9 rfl rfl
    have k11 : (vset 11 (vfz (vcall r_row_of (vcons (lf 5 (xv 4)) (vcons (lend9 5 flatR (xmeth 5 r_Table_values_now [] (xv 5) xnil)) (vcons (lf 5 (xv 3)) (lf 5 xnil))))))) ds3 bs3 (GV d n m S us (.im C1) (.im Y1) (.im (vq wo)) (.im C2) (.im d3) .un) = some (.nx, ds3, bs3, GV d n m S us (.im C1) (.im Y1) (.im (vq wo)) (.im C2) (.im d3) (.im X3)) := by
      have a5 : lend9 5 flatR (xmeth 5 r_Table_values_now [] (xv 5) xnil) ds3 bs3 (GV d n m S us (.im C1) (.im Y1) (.im (vq wo)) (.im C2) (.im d3) .un) = some (.ol (rgD (sM m n) fun j => vq (Lp.vals r (sM m n + r) s3 j)), GV d n m S us (.im C1) (.im Y1) (.im (vq wo)) (.im C2) (.im d3) .un) := lend_ok9 rfl (xmeth_ok (r := .im (tabD ds3 bs3)) rfl rfl xnil_ok vn3) (flat_rg _ _ _) (mu3 _ rfl)
      exact vset_ok9 (r := .im X3) (vfz_ok9 (r := .im X3) (vcall_ok9 (vcons_ok9 (a4 _) rfl (vcons_ok9 a5 rfl (vcons_ok9 (a3 _) rfl (lf_ok9 xnil_ok rfl)))) ro3) rfl) rfl
    have row3 : Lp.RowOk m (sw m n) r (dE n) p v x3 := by rw [hx3]; exact Lp.row_vals U h.hp iv3 fe3 fr3
    have go : ∀ {R : D} {ds' bs' : List D} {G' : Gam}, LREST ds3 bs3 (GV d n m S us (.im C1) (.im Y1) (.im (vq wo)) (.im C2) (.im d3) (.im X3)) = some (.rt (.im R), ds', bs', G') → r_solved [d, .int (n : Int), S] = some (.im R) := fun {R ds' bs' G'} hw => walk (ds' := ds') (bs' := bs') (G' := G') (by
      rw [vseq_e (vifs_no9 te8)]
      unfold SREST
      rw [vseq_e wcl, vseq_e k9, vseq_e w10, vseq_e k11]
      exact hw)
    rcases en3 with ⟨rfl, rd3⟩ | ⟨e, rfl, he, neg, down⟩
    · have te10 : lf 5 (xtest (xop opIsNot (xv 10) (xc .non))) ds3 bs3 (GV d n m S us (.im C1) (.im Y1) (.im (vq wo)) (.im C2) (.im .non) (.im X3)) = some (false, GV d n m S us (.im C1) (.im Y1) (.im (vq wo)) (.im C2) (.im .non) (.im X3)) := lf_ok9 (xtest_ok (xo2 rfl rfl rfl)) rfl
      have k7' : (vset 7 (vfz (lend9 5 flatR (xmeth 5 r_Table_counts_of [] (xv 5) (xcons (xv 9) xnil))))) ds3 bs3 (GV d n m S us (.im C1) (.im Y1) (.im (vq wo)) (.im C2) (.im .non) (.im X3)) = some (.nx, ds3, bs3, GV d n m S us (.im C1) (.im Y3) (.im (vq wo)) (.im C2) (.im .non) (.im X3)) :=
        vset_ok9 (r := .im Y3) (G1 := GV d n m S us (.im C1) (.im Y1) (.im (vq wo)) (.im C2) (.im .non) (.im X3)) (vfz_ok9 (r := .im Y3) (lend_ok9 (r := R.im Y3) rfl (xmeth_ok (r := .im (tabD ds3 bs3)) rfl rfl (xc1 (d := C2) rfl xnil_ok) cts3') (nbY3 bs3) (mu3 _ rfl)) rfl) rfl
      have fc := v_factors_of (m := m) (n := n) (r := r) (k := 4) (l := 326) (as := as) (d := d) (W := W) (y := y3) (v := v) (p := p) h.hd h.ha h.la h.hp y3h (by decide) (by decide) h.m5 h.n4 h.r4 (by decide)
      rw [← hY3, ← hS] at fc
      refine ⟨.tup [.str "least", X3, Y3, .tup (rgD (sw m n) fun k => vq (Lp.facs m (sq m n) r (uu m n) p W y3 k))], go (G' := GV d n m S us (.im C1) (.im Y3) (.im (vq wo)) (.im C2) (.im .non) (.im X3)) (ds' := ds3) (bs' := bs3) ?_, ?_⟩
      · unfold LREST
        rw [vseq_e (vifs_no9 te10), vseq_e k7']
        exact vret_ok9 (lf_ok9 (xtup_ok (xc1 rfl (xc1 rfl (xc1 rfl (xc1 (xcall_ok (xc1 rfl (xc1 rfl (xc1 rfl (xc1 rfl xnil_ok)))) fc) xnil_ok)))) rfl) rfl)
      · rw [hX3, hY3]
        refine .least x3 y3 _ row3 ?_ ?_ x3h y3h (fun k hk => ?_)
        · rw [hy3]
          exact Lp.cts_of U h.hp zc iv3 rd3
        · rw [hx3, hy3]
          exact Lp.told_vals zc iv3 fr3
        · rw [hy3, facs_red h iv3 zc hk]
          exact h.red_ht iv3 (fun j _ => c2_ht h j) (by unfold sM; omega)
    · have te10 : lf 5 (xtest (xop opIsNot (xv 10) (xc .non))) ds3 bs3 (GV d n m S us (.im C1) (.im Y1) (.im (vq wo)) (.im C2) (.im (.int (e : Int))) (.im X3)) = some (true, GV d n m S us (.im C1) (.im Y1) (.im (vq wo)) (.im C2) (.im (.int (e : Int))) (.im X3)) := lf_ok9 (xtest_ok (xo2 rfl rfl rfl)) rfl
      have off : ∀ i, i < r → s3.b i ≠ e := fun i hi z => by
        have := iv3.red0 (c := c2 m n W) hi
        rw [z] at this
        rw [this] at neg
        exact absurd neg Rat.lt_irrefl
      have wy3 := v_way_of (sn := sg0 v) iv3 (sz _ iv3) (by omega) rfl (by omega) (show e < sM m n + r by omega) off
      rw [← tab3] at wy3
      obtain ⟨z3, hz3⟩ : ∃ z3, z3 = Lp.mix (sM m n) (uu m n) (Lp.way r s3 e) := ⟨_, rfl⟩
      have z3h : ∀ t, t < m → Ht (z3 t) 400 := fun t ht => by
        rw [hz3]
        have h1 := sg_ht (n := sM m n) (k := 54) (f := fun c => Lp.way r s3 e c * uu m n c t) fun c hc => (h.way_ht iv3 (by omega) c).mul (h.u_ht hc ht)
        refine h1.up ?_
        have := Nat.mul_le_mul_right (54 + 1) M7
        omega
      have rw3 := v_row_of (M := sM m n) (m := m) (k := 2) (l := 52) (U := uu m n) (x := Lp.way r s3 e) (fun c t hc ht => h.u_ht hc ht) (fun c _ => h.way_ht iv3 (by omega) c) (by omega) (by omega) (by have := Nat.mul_le_mul_right (2 + 52 + 1) M7; omega)
      unfold UD at rw3
      rw [← hus, ← hz3] at rw3
      have a6 : lend9 5 flatR (xmeth 5 r_Table_way_of [] (xv 5) (xcons (xv 10) xnil)) ds3 bs3 (GV d n m S us (.im C1) (.im Y1) (.im (vq wo)) (.im C2) (.im (.int (e : Int))) (.im X3)) = some (.ol (rgD (sM m n) fun j => vq (Lp.way r s3 e j)), GV d n m S us (.im C1) (.im Y1) (.im (vq wo)) (.im C2) (.im (.int (e : Int))) (.im X3)) := lend_ok9 rfl (xmeth_ok (r := .im (tabD ds3 bs3)) rfl rfl (xc1 (d := .int (e : Int)) rfl xnil_ok) wy3) (flat_rg _ _ _) (mu3 _ rfl)
      have a7 : lf 5 (xv 11) ds3 bs3 (GV d n m S us (.im C1) (.im Y1) (.im (vq wo)) (.im C2) (.im (.int (e : Int))) (.im X3)) = some (.im X3, GV d n m S us (.im C1) (.im Y1) (.im (vq wo)) (.im C2) (.im (.int (e : Int))) (.im X3)) := lf_ok9 rfl rfl
      have a8 : lf 5 (xc (.str "endless")) ds3 bs3 (GV d n m S us (.im C1) (.im Y1) (.im (vq wo)) (.im C2) (.im (.int (e : Int))) (.im X3)) = some (.im (.str "endless"), GV d n m S us (.im C1) (.im Y1) (.im (vq wo)) (.im C2) (.im (.int (e : Int))) (.im X3)) := lf_ok9 rfl rfl
      refine ⟨.tup [.str "endless", X3, .tup (rgD m fun t => vq (z3 t))], go (G' := GV d n m S us (.im C1) (.im Y1) (.im (vq wo)) (.im C2) (.im (.int (e : Int))) (.im X3)) (ds' := ds3) (bs' := bs3) ?_, ?_⟩
      · unfold LREST vseq
        rw [vifs_ye9 te10, vret_ok9 (vtup_ok9 (vcons_ok9 a8 rfl (vcons_ok9 a7 rfl (vcons_ok9 (vcall_ok9 (vcons_ok9 (a4 _) rfl (vcons_ok9 a6 rfl (vcons_ok9 (a3 _) rfl (lf_ok9 xnil_ok rfl)))) rw3) rfl (lf_ok9 xnil_ok rfl)))) rfl)]
        rfl
      · rw [hX3]
        refine .endless x3 z3 row3 ?_ ?_ x3h z3h
        · rw [hz3]
          exact Lp.row_way U h.hp iv3 he down fr3
        · rw [hz3, Lp.told_way zc iv3 fr3 he]
          exact neg
end
end Bk
namespace Bk
open PySem L2
theorem anyb {n : Nat} (f : Nat → Bool) : cbAny [.lst (rgD n fun k => .bl (f k))] = some (.im (.bl ((List.range n).any f))) := by
  have : ∀ l : List Nat, bools (l.map fun k => D.bl (f k)) = some (l.map f) := fun l => by
    induction l with
    | nil => rfl
    | cons a t ih =>
      show (match bools (t.map fun k => D.bl (f k)) with
        | some bs => some (f a :: bs)
        | none => none) = _
      rw [ih]
      rfl
  show (bools (rgD n fun k => D.bl (f k))).map (fun bs => R.im (.bl (bs.any id))) = _
  unfold rgD
  rw [this, Option.map_some, List.any_map]
  rfl
section
variable {m n r : Nat} {p : Nat → Nat} {v x : Nat → Rat}
theorem v_is_seen {a m l : Nat} {q : Rat} (h : l ≤ a) (h' : a < m) : r_is_seen [.tup [.int (a : Int), vq q], .int (m : Int), .int (l : Int)] = some (.im (.bl true)) := by
  obtain ⟨t, ht⟩ : ∃ t, t = vq q := ⟨_, rfl⟩
  rw [← ht]
  refine runF_st rfl ?_
  refine st_nx (G1 := [.im (.tup [.int (a : Int), t]), .im (.int (m : Int)), .im (.int (l : Int))]) rfl ?_
  refine st_ret (G1 := [.im (.tup [.int (a : Int), t]), .im (.int (m : Int)), .im (.int (l : Int))]) (xvand_t (G1 := [.im (.tup [.int (a : Int), t]), .im (.int (m : Int)), .im (.int (l : Int))]) ?_ ?_)
  · refine xchain_ok (x := .im (.int (l : Int))) (y := .im (.int (a : Int))) (z := .im (.int (m : Int))) rfl rfl ?_ rfl ?_
    · show some (R.im (.bl (decide ((l : Int) ≤ (a : Int))))) = _
      rw [decide_eq_true (by omega)]
    · show some (R.im (.bl (decide ((a : Int) < (m : Int))))) = _
      rw [decide_eq_true (by omega)]
  · rw [ht]
    exact xcall_ok (xc1 (d := vq q) rfl xnil_ok) (v_is_value (isV_vq q))
def up9 (p : Nat → Nat) : Nat → Nat
  | 0 => 0
  | i + 1 => p i + 1
theorem v_need_seen (hp : ∀ i, i < r → p i < m) (hu : ∀ i, i < r → up9 p i ≤ p i) (r9 : r ≤ 1000) : r_need_seen [SD r p v, .int (m : Int)] = some (.ol (rgD r fun i => .tup [.int (p i : Int), vq (v i)])) := by
  obtain ⟨S, hS⟩ : ∃ S, S = SD r p v := ⟨_, rfl⟩
  have seqS : seqD S = some (rgD r fun i => .tup [.int (p i : Int), vq (v i)]) := by rw [hS]; rfl
  have isq : r_is_sequence [S] = some (.im (.bl true)) := by rw [hS]; exact v_is_sequence (ds := rgD r fun i => .tup [.int (p i : Int), vq (v i)]) (.inl rfl)
  rw [← hS]
  let one : Nat → D := fun i => .tup [.int (p i : Int), vq (v i)]
  obtain ⟨G', g1, x4, x5, _, _, rfl⟩ := xforL_app9 (tg := tgt [(tgn 4), (tgn 5)]) (b := b_need_seen_1) (f := fun i => .tup [.int (i : Int), one i]) (g := one) (fun out G => ∃ x4 x5 : Ent, (x4 = .un ∨ ∃ d, x4 = .im d) ∧ (x5 = .un ∨ ∃ d, x5 = .im d) ∧ G = [Ent.im S, .im (.int (m : Int)), .ol out, .im (.int (up9 p out.length : Int)), x4, x5]) (n := r) (G := [.im S, .im (.int (m : Int)), .ol [], .im (.int 0), .un, .un]) ⟨_, _, .inl rfl, .inl rfl, rfl⟩ (fun i G hi hG => by
    obtain ⟨x4, x5, h4, h5, rfl⟩ := hG
    rw [rgD_len]
    obtain ⟨o, ho⟩ : ∃ o, o = one i := ⟨_, rfl⟩
    obtain ⟨t, ht⟩ : ∃ t, t = vq (v i) := ⟨_, rfl⟩
    have ho' : o = .tup [.int (p i : Int), t] := by rw [ho, ht]
    refine ⟨[.im S, .im (.int (m : Int)), .ol (rgD i one), .im (.int (up9 p i : Int)), .im (.int (i : Int)), .im o], [.im S, .im (.int (m : Int)), .ol (rgD (i + 1) one), .im (.int (up9 p (i + 1) : Int)), .im (.int (i : Int)), .im o], ?_, ?_, _, _, .inr ⟨_, rfl⟩, .inr ⟨_, rfl⟩, by rw [rgD_len]⟩
    · rw [← ho]
      rcases h4 with rfl | ⟨_, rfl⟩ <;> rcases h5 with rfl | ⟨_, rfl⟩ <;> rfl
    · have te : xtnot (xtru (xcall r_is_seen (xcons (xv 5) (xcons (xv 1) (xcons (xv 3) xnil))))) [.im S, .im (.int (m : Int)), .ol (rgD i one), .im (.int (up9 p i : Int)), .im (.int (i : Int)), .im o] = some (false, [.im S, .im (.int (m : Int)), .ol (rgD i one), .im (.int (up9 p i : Int)), .im (.int (i : Int)), .im o]) :=
        xtnot_ok (k := true) (xtrub (xcall_ok (xc1 (d := o) rfl (xc1 rfl (xc1 rfl xnil_ok))) (by rw [ho]; exact v_is_seen (hu i hi) (hp i hi))))
      unfold b_need_seen_1
      rw [xseq_nx ((xifs_ok te).trans rfl)]
      have ap : xapp 2 (xtup (xcons (xop opIx (xv 5) (xc (.int 0))) (xcons (xcall r_value_of (xcons (xop opIx (xv 5) (xc (.int 1))) xnil)) xnil))) [.im S, .im (.int (m : Int)), .ol (rgD i one), .im (.int (up9 p i : Int)), .im (.int (i : Int)), .im o] = some (.nx, [.im S, .im (.int (m : Int)), .ol (rgD (i + 1) one), .im (.int (up9 p i : Int)), .im (.int (i : Int)), .im o]) := by
        refine xapp_ok (r := .im o) (bs := rgD i one) (e := .ol (rgD i one)) (G1 := [.im S, .im (.int (m : Int)), .ol (rgD i one), .im (.int (up9 p i : Int)), .im (.int (i : Int)), .im o]) rfl ?_ rfl rfl (by rw [rgD_len]; omega) ?_
        · rw [ho']
          exact xtup_ok (xc1 (d := .int (p i : Int)) (xo2 rfl rfl rfl) (xc1 (d := t) (xcall_ok (xc1 (d := t) (xo2 rfl rfl rfl) xnil_ok) (by rw [ht]; exact v_value_of (isV_vq _))) xnil_ok)) rfl
        · rw [← rgD_snoc i one, ← ho]
          rfl
      rw [xseq_nx ap, ho']
      exact xset_e (xo2 (x := .int (p i : Int)) (y := .int 1) (xo2 rfl rfl rfl) rfl rfl) rfl)
  refine runF_st rfl ?_
  refine st_nx (G1 := [.im S, .im (.int (m : Int)), .un, .un, .un, .un]) ((xifs_ok (xtnot_ok (k := true) (xtrub (xcall_ok (xc1 (d := S) rfl xnil_ok) isq)))).trans rfl) ?_
  refine st_nx (G1 := [.im S, .im (.int (m : Int)), .ol [], .im (.int 0), .un, .un]) rfl ?_
  refine st_nx (xfor_ok (ds := rgD r fun i => .tup [.int (i : Int), one i]) (G1 := [.im S, .im (.int (m : Int)), .ol [], .im (.int 0), .un, .un]) ?_ g1) ?_
  · unfold xenumA
    rw [xc1 (d := S) rfl xnil_ok]
    rw [hS]
    show some (enumD 0 (rgD r one), _) = _
    rw [enumD_rg]
  · exact st_ret rfl
def kb (K : Nat) : Nat → Nat
  | 0 => K
  | j + 1 => kb K j + kb K j + 1
theorem df_ht {K : Nat} (hx : ∀ t, t < m → Ht (x t) K) : ∀ n k, k + n < m → Ht (df n x k) (kb K n)
  | 0, k, h => hx k (by omega)
  | n + 1, k, h => (df_ht hx n (k + 1) (by omega)).sub (df_ht hx n k (by omega))
theorem kb_mono (K : Nat) : ∀ {i j : Nat}, i ≤ j → kb K i ≤ kb K j := fun {i j} h => by
  induction j with
  | zero =>
    have : i = 0 := by omega
    rw [this]
    exact Nat.le_refl _
  | succ j ih =>
    by_cases z : i = j + 1
    · rw [z]; exact Nat.le_refl _
    · have := ih (by omega)
      show _ ≤ kb K j + kb K j + 1
      omega
theorem tail_rg (n : Nat) (f : Nat → D) : (rgD n f).tail = rgD (n - 1) fun i => f (i + 1) := by
  cases n with
  | zero => rfl
  | succ n =>
    unfold rgD
    rw [List.range_succ_eq_map, List.map_cons, List.tail_cons, List.map_map]
    rfl
theorem zip_min (a b : Nat) (f g : Nat → D) : ((rgD a f).zip (rgD b g)).map (fun p => D.tup [p.1, p.2]) = rgD (min a b) fun i => .tup [f i, g i] := by
  refine List.ext_getElem? fun j => ?_
  rw [List.getElem?_map, show (rgD a f).zip (rgD b g) = List.zipWith Prod.mk (rgD a f) (rgD b g) from rfl, List.getElem?_zipWith]
  by_cases h : j < min a b
  · rw [rgD_get _ h, rgD_get _ (by omega), rgD_get _ (by omega)]
    rfl
  · rw [List.getElem?_eq_none (l := rgD (min a b) _) (by rw [rgD_len]; omega)]
    by_cases ha : j < a
    · rw [List.getElem?_eq_none (l := rgD b g) (by rw [rgD_len]; omega), rgD_get _ ha]
      rfl
    · rw [List.getElem?_eq_none (l := rgD a f) (by rw [rgD_len]; omega)]
      rfl
theorem v_differences {K : Nat} (hx : ∀ t, t < m → Ht (x t) K) (hm : m ≤ 1000) (hn : n ≤ 1000) (h9 : kb K n < 8990) : ∃ o, r_differences [.lst (rgD m fun t => vq (x t)), .int (n : Int)] = some o ∧ o.d = .lst (rgD (m - n) fun k => vq (df n x k)) := by
  obtain ⟨G', g1, E0, x2, hE, _, rfl⟩ := xforL_app9 (tg := tgn 2) (b := b_differences_1) (f := fun i => .int (i : Int)) (g := fun _ => .non) (fun out G => ∃ E0 x2 : Ent, (E0 = .ol (rgD (m - out.length) fun k => vq (df out.length x k)) ∨ E0 = .im (.lst (rgD (m - out.length) fun k => vq (df out.length x k)))) ∧ (x2 = .un ∨ ∃ d, x2 = .im d) ∧ G = [E0, .im (.int (n : Int)), x2, .un, .un]) (n := n) (G := [.im (.lst (rgD m fun t => vq (x t))), .im (.int (n : Int)), .un, .un, .un]) ⟨_, _, .inr rfl, .inl rfl, rfl⟩ (fun i G hi hG => by
    obtain ⟨E0, x2, hE, h2, rfl⟩ := hG
    rw [rgD_len] at hE
    obtain ⟨L, hL⟩ : ∃ L, L = rgD (m - i) fun k => vq (df i x k) := ⟨_, rfl⟩
    rw [← hL] at hE
    have k9 : kb K (i + 1) < 8990 := Nat.lt_of_le_of_lt (kb_mono K hi) h9
    refine ⟨[E0, .im (.int (n : Int)), .im (.int (i : Int)), .un, .un], [.ol (rgD (m - (i + 1)) fun k => vq (df (i + 1) x k)), .im (.int (n : Int)), .im (.int (i : Int)), .un, .un], ?_, ?_, _, _, .inl (by rw [rgD_len]), .inr ⟨_, rfl⟩, rfl⟩
    · rcases h2 with rfl | ⟨_, rfl⟩ <;> rfl
    · have it : xzipA (xcons (xv 0) (xcons (xsl slB (xv 0) (xpart (xc (.int 1))) xnop) xnil)) [E0, .im (.int (n : Int)), .im (.int (i : Int)), .un, .un] = some (rgD (m - (i + 1)) fun k => .tup [vq (df i x k), vq (df i x (k + 1))], [.im (.lst L), .im (.int (n : Int)), .im (.int (i : Int)), .un, .un]) := by
        have s1 : (xsl slB (xv 0) (xpart (xc (.int 1))) xnop) [.im (.lst L), .im (.int (n : Int)), .im (.int (i : Int)), .un, .un] = some (.ol L.tail, [.im (.lst L), .im (.int (n : Int)), .im (.int (i : Int)), .un, .un]) := by
          refine xsl_ok (x := .im (.lst L)) (i := some 1) (j := none) rfl rfl rfl ?_
          show some (R.ol (cutD L (some 1) none)) = _
          rw [cut_tail]
        have e : (L.zip L.tail).map (fun p => D.tup [p.1, p.2]) = rgD (m - (i + 1)) fun k => .tup [vq (df i x k), vq (df i x (k + 1))] := by
          rw [hL, tail_rg, zip_min, show min (m - i) (m - i - 1) = m - (i + 1) by omega]
        rw [← e]
        rcases hE with rfl | rfl
        · exact xzip_ok (xc1 (d := .lst L) rfl (xcw s1 xnil_ok)) rfl rfl
        · exact xzip_ok (xc1 (d := .lst L) rfl (xcw s1 xnil_ok)) rfl rfl
      have lc : xlc (xzipA (xcons (xv 0) (xcons (xsl slB (xv 0) (xpart (xc (.int 1))) xnop) xnil))) (tgt [(tgn 3), (tgn 4)]) xtyes (xcall r_less_by (xcons (xv 4) (xcons (xv 3) xnil))) [3, 4] [E0, .im (.int (n : Int)), .im (.int (i : Int)), .un, .un] = some (.ol (rgD (m - (i + 1)) fun k => vq (df (i + 1) x k)), [.im (.lst L), .im (.int (n : Int)), .im (.int (i : Int)), .un, .un]) := by
        refine xlc_un it rfl rfl rfl ?_ (by rw [rgD_len]; omega)
        unfold rgD
        refine xlcL_en (fun k => vq (df (i + 1) x k)) fun k hk => ?_
        have hk := List.mem_range.mp hk
        exact ⟨_, _, _, rfl, xcall_ok (xc1 rfl (xc1 rfl xnil_ok)) (v_less_by (df_ht hx i (k + 1) (by omega)) (df_ht hx i k (by omega)) (by have : kb K i + kb K i + 1 < 8990 := k9; omega)), rfl, rfl⟩
      exact xset_e lc rfl)
  rw [rgD_len] at hE
  have run : ∀ o : Option R, outF (xret (xmv 0) [E0, .im (.int (n : Int)), x2, .un, .un]) = o → r_differences [.lst (rgD m fun t => vq (x t)), .int (n : Int)] = o := fun o ho => by
    refine runF_st rfl ?_
    refine st_nx (by
      refine xfor_ok (xrange1_ok (n := (n : Int)) (xc1 rfl xnil_ok) (okR_of (by omega) (by omega))) ?_
      rw [Int.toNat_natCast, rng_rgD]
      exact g1) ho
  rcases hE with rfl | rfl
  · exact ⟨.ol _, run _ rfl, rfl⟩
  · exact ⟨.im _, run _ rfl, rfl⟩
end
end Bk
namespace Bk
open PySem L2
theorem xseqI_okR {a : M R} {G G1 : Gam} {r : R} {ds : List D} (h : a G = some (r, G1)) (hd : seqD r.d = some ds) : xseqI a G = some (ds, G1) := by
  unfold xseqI
  rw [h]
  simp only [bd_some, hd]
def kindB (m n : Nat) (x : Nat → Rat) : Bool := !((List.range (m - n)).any fun k => decide (df n x k < 0))
theorem kindB_iff {m n : Nat} {x : Nat → Rat} : kindB m n x = true ↔ ∀ k, k < m - n → 0 ≤ Lp.dif m (dE n) x k := by
  unfold kindB
  rw [Bool.not_eq_true', List.any_eq_false]
  constructor
  · intro h k hk
    have := h k (List.mem_range.mpr hk)
    unfold Lp.dif
    rw [← df_sum x n k (by omega)]
    exact Rat.not_lt.mp (by simpa using this)
  · intro h k hk
    have hk := List.mem_range.mp hk
    have := h k hk
    unfold Lp.dif at this
    rw [← df_sum x n k (by omega)] at this
    have := Rat.not_lt.mpr this
    simpa using this
theorem vals_ht {m K : Nat} {as : List D} {x : Nat → Rat} (ha : as.map valQ = (List.range m).map x) (la : Ln K as) : ∀ t, t < m → Ht (x t) K := fun t ht => by
  have : x t ∈ as.map valQ := by rw [ha]; exact List.mem_map.mpr ⟨t, List.mem_range.mpr ht, rfl⟩
  obtain ⟨d, hd, e⟩ := List.mem_map.mp this
  rw [← e]
  exact (la d hd).2
theorem vals_len {m : Nat} {as : List D} {x : Nat → Rat} (ha : as.map valQ = (List.range m).map x) : as.length = m := by
  have := congrArg List.length ha
  rwa [List.length_map, List.length_map, List.length_range] at this
section
variable {m n r K : Nat} {p : Nat → Nat} {v x y f W : Nat → Rat} {as : List D} {d : D}
theorem v_is_kind (hd : seqD d = some as) (ha : as.map valQ = (List.range m).map x) (la : Ln K as) (hm : m ≤ 1000) (hn : n ≤ 1000) (h9 : kb K n < 8980) : r_is_kind [d, .int (n : Int)] = some (.im (.bl (kindB m n x))) := by
  have hx := vals_ht ha la
  have al := vals_len ha
  obtain ⟨o, ho, hod⟩ := v_differences (n := n) hx hm hn (by omega)
  have vo := v_values_of hd la.len (by omega)
  rw [vals_rg ha] at vo
  have lc : xlc (xseqI (xcall r_differences (xcons (xcall r_values_of (xcons (xv 0) xnil)) (xcons (xv 1) xnil)))) (tgn 2) xtyes (xcall r_is_less (xcons (xv 2) (xcons (xc c_NOUGHT) xnil))) [2] [.im d, .im (.int (n : Int)), .un] = some (.ol (rgD (m - n) fun k => .bl (decide (df n x k < 0))), [.im d, .im (.int (n : Int)), .un]) := by
    refine xlc_un (ds := rgD (m - n) fun k => vq (df n x k)) (xseqI_okR (r := o) (xcall_ok (xcw (xcall_ok (xc1 (d := d) rfl xnil_ok) vo) (xc1 rfl xnil_ok)) ho) (by rw [hod]; rfl)) rfl rfl rfl ?_ (by rw [rgD_len]; omega)
    unfold rgD
    refine xlcL_en (fun k => .bl (decide (df n x k < 0))) fun k hk => ?_
    have hk := List.mem_range.mp hk
    exact ⟨_, _, _, rfl, xcall_ok (xc1 rfl (xc1 (d := vq 0) rfl xnil_ok)) (v_is_less (df_ht hx n k (by omega)) ht0 (by omega)), rfl, rfl⟩
  exact runF_st rfl (st_ret (xvnot_ok (xcb_ok (xcw lc xnil_ok) (anyb _))))
theorem v_are_values (hm : m ≤ 1000) : r_are_values [.tup (rgD m fun t => vq (x t)), .int (m : Int)] = some (.im (.bl true)) := by
  obtain ⟨xs, hxs⟩ : ∃ xs, xs = rgD m fun t => vq (x t) := ⟨_, rfl⟩
  have xl : xs.length = m := by rw [hxs, rgD_len]
  rw [← hxs]
  refine runF_st rfl (st_ret (G1 := [.im (.tup xs), .im (.int (m : Int)), .un]) (xvand_t (G1 := [.im (.tup xs), .im (.int (m : Int)), .un]) rfl (xvand_t (G1 := [.im (.tup xs), .im (.int (m : Int)), .un]) (xo2 (x := .int (m : Int)) (y := .int (m : Int)) (xcb_ok (xc1 (d := .tup xs) rfl xnil_ok) (by show some (R.im (.int ((xs.length : Nat) : Int))) = _; rw [xl])) rfl (by show some (R.im (.bl (decide ((m : Int) = (m : Int))))) = _; rw [decide_eq_true rfl])) (xcb_ok (xcw (ds := (List.range m).map fun _ => .bl true) ?_ xnil_ok) (all_true _)))))
  refine xlc_un (ds := xs) (xseqI_ok (d := .tup xs) rfl rfl) rfl rfl rfl ?_ (by rw [List.length_map, List.length_range]; omega)
  rw [hxs]
  unfold rgD
  exact xlcL_en (fun _ => .bl true) fun t ht => ⟨_, _, _, rfl, xcall_ok (xc1 rfl xnil_ok) (v_is_value (isV_vq _)), rfl, rfl⟩
theorem tup_ix {n : Nat} (f : Nat → D) {i : Nat} (h : i < n) : opIx (.tup (rgD n f)) (.int (i : Int)) = some (.im (f i)) := by
  show (atI (rgD n f) (i : Int)).map R.im = _
  rw [rgD_at f h]
  rfl
theorem v_is_row (hx : ∀ t, t < m → Ht (x t) K) (hp : ∀ i, i < r → p i < m) (ok : Lp.RowOk m (m - n) r (dE n) p v x) (hm : m ≤ 1000) (hn : n ≤ 1000) (hr : r ≤ 1000) (h9 : kb K n < 8980) : r_is_row [.tup (rgD m fun t => vq (x t)), .int (m : Int), .int (n : Int), SD r p v] = some (.im (.bl true)) := by
  obtain ⟨S, hS⟩ : ∃ S, S = SD r p v := ⟨_, rfl⟩
  have seqS : seqD S = some (rgD r fun i => .tup [.int (p i : Int), vq (v i)]) := by rw [hS]; rfl
  obtain ⟨X, hX⟩ : ∃ X : D, X = .tup (rgD m fun t => vq (x t)) := ⟨_, rfl⟩
  have av := v_are_values (x := x) hm
  have kd := v_is_kind (d := X) (n := n) (K := K) (as := rgD m fun t => vq (x t)) (x := x) (m := m) (by rw [hX]; rfl) (rgD_vals _ _) (rgD_ln hx) hm hn h9
  rw [kindB_iff.mpr ok.kd] at kd
  rw [← hX] at av
  rw [← hX, ← hS]
  refine runF_st rfl ?_
  refine st_nx (G1 := [.im X, .im (.int (m : Int)), .im (.int (n : Int)), .im S, .un, .un]) ((xifs_ok (k := false) (xtor_b (k := false) (l := false) (xtnot_ok (k := true) (xtrub (xcall_ok (xc1 rfl (xc1 rfl xnil_ok)) av))) (xtnot_ok (k := true) (xtrub (xcall_ok (xc1 rfl (xc1 rfl xnil_ok)) kd))))).trans rfl) ?_
  refine st_ret (xcb_ok (xcw (ds := (List.range r).map fun _ => .bl true) (G1 := [.im X, .im (.int (m : Int)), .im (.int (n : Int)), .im S, .un, .un]) ?_ xnil_ok) (all_true _))
  refine xlc_un (xseqI_ok (d := S) rfl seqS) rfl rfl rfl ?_ (by rw [List.length_map, List.length_range]; omega)
  unfold rgD
  refine xlcL_en (fun _ => .bl true) fun i hi => ?_
  have hi := List.mem_range.mp hi
  refine ⟨_, _, _, rfl, xo2 (x := vq (x (p i))) (y := vq (v i)) (xcall_ok (xc1 (d := vq (x (p i))) (xo2 (x := X) (y := .int (p i : Int)) rfl rfl (by rw [hX]; exact tup_ix _ (hp i hi))) xnil_ok) (v_value_of (isV_vq _))) rfl (eq_vq9 _ _), ?_, rfl⟩
  rw [decide_eq_true (ok.at_ i hi)]
  rfl
theorem v_worth_of {ky kv : Nat} (hy : ∀ i, i < r → Ht (y i) ky) (hv : ∀ i, i < r → Ht (v i) kv) (hr : r ≤ 1000) (h9 : 1 + r * (ky + kv + 1) + (ky + kv) < 8990) : r_worth_of [.tup (rgD r fun i => vq (y i)), SD r p v] = some (.im (vq (Lp.sg r fun i => y i * v i))) := by
  obtain ⟨S, hS⟩ : ∃ S, S = SD r p v := ⟨_, rfl⟩
  have seqS : seqD S = some (rgD r fun i => .tup [.int (p i : Int), vq (v i)]) := by rw [hS]; rfl
  obtain ⟨Y, hY⟩ : ∃ Y : D, Y = .tup (rgD r fun i => vq (y i)) := ⟨_, rfl⟩
  rw [← hS, ← hY]
  refine runF_st rfl (st_ret (xcall_ok (xcw (ds := (List.range r).map fun i => vq (y i * v i)) (G1 := [.im Y, .im S, .un, .un, .un]) ?_ xnil_ok) ?_))
  · refine xlc_un (xzip_ok (xc1 (d := Y) rfl (xc1 (d := S) rfl xnil_ok)) (by rw [hY]; rfl) seqS) rfl rfl rfl ?_ (by rw [List.length_map, List.length_range]; omega)
    rw [rgD_zip]
    refine xlcL_en (fun i => vq (y i * v i)) fun i hi => ?_
    have hi := List.mem_range.mp hi
    exact ⟨_, _, _, rfl, xcall_ok (xc1 (xcall_ok (xc1 (d := vq (y i)) rfl xnil_ok) (v_value_of (isV_vq _))) (xc1 rfl xnil_ok)) (v_multiplied (hy i hi) (hv i hi) (by omega)), rfl, rfl⟩
  · have := v_summed (d := .lst ((List.range r).map fun i => vq (y i * v i))) (qs := (List.range r).map fun i => y i * v i) (k := ky + kv) (by rw [List.map_map]; rfl) (fun q hq => by
      obtain ⟨i, hi, rfl⟩ := List.mem_map.mp hq
      have hi := List.mem_range.mp hi
      exact (hy i hi).mul (hv i hi)) (by rw [List.length_map, List.length_range]; omega)
    rw [sumQ_rg] at this
    exact this
end
end Bk
namespace Bk
open PySem L2
section
variable {m n r : Nat} {p : Nat → Nat} {v x y f W : Nat → Rat} {as : List D} {d : D}
theorem e1_rat (j t : Nat) : ((e1 j t : Int) : Rat) = if t = j then 1 else 0 := by
  unfold e1
  split <;> rfl
theorem v_are_counts {K : Nat} (hd : d = .lst as) (ha : as.map valQ = (List.range m).map W) (la : Ln K as) (hp : ∀ i, i < r → p i < m) (hy : ∀ i, i < r → Ht (y i) 326) (hf : ∀ k, k < m - n → Ht (f k) 356) (ok : Lp.CtsOk m (m - n) r (dE n) p W y f) (hm : m < 5) (hn : n < 4) (hr : r ≤ 4) :
    r_are_counts [.tup (rgD r fun i => vq (y i)), .tup (rgD (m - n) fun k => vq (f k)), d, .int (n : Int), SD r p v] = some (.im (.bl true)) := by
  have al := vals_len ha
  obtain ⟨S, hS⟩ : ∃ S, S = SD r p v := ⟨_, rfl⟩
  have seqS : seqD S = some (rgD r fun i => .tup [.int (p i : Int), vq (v i)]) := by rw [hS]; rfl
  have lenS : cbLen [S] = some (.im (.int (r : Int))) := by
    rw [hS]
    show some (R.im (.int (((rgD r fun i => D.tup [.int (p i : Int), vq (v i)]).length : Nat) : Int))) = _
    rw [rgD_len]
  obtain ⟨Y, hY⟩ : ∃ Y : D, Y = .tup (rgD r fun i => vq (y i)) := ⟨_, rfl⟩
  obtain ⟨F, hF⟩ : ∃ F : D, F = .tup (rgD (m - n) fun k => vq (f k)) := ⟨_, rfl⟩
  have seqY : seqD Y = some (rgD r fun i => vq (y i)) := by rw [hY]; rfl
  have seqF : seqD F = some (rgD (m - n) fun k => vq (f k)) := by rw [hF]; rfl
  have lenW : cbLen [d] = some (.im (.int (m : Int))) := by rw [hd]; exact congrArg (fun n : Nat => some (R.im (.int (n : Int)))) al
  have ay := v_are_values (m := r) (x := y) (by omega)
  have af := v_are_values (m := m - n) (x := f) (by omega)
  rw [← hY] at ay
  rw [← hF] at af
  rw [← hY, ← hF, ← hS]
  have eh : ∀ j t, Ht ((e1 j t : Int) : Rat) 1 := fun j t => by
    unfold e1
    split
    · exact ht_int (i := 1) (B := 1) (by decide) (by decide) (by decide)
    · exact ht0
  have wj : ∀ j, j < m → ∃ x, opIx d (.int (j : Int)) = some (.im x) ∧ r_value_of [x] = some (.im (vq (W j))) := fun j hj => by
    have e : as[j]? = some as[j] := List.getElem?_eq_getElem (by omega)
    refine ⟨as[j], ?_, ?_⟩
    · rw [hd]
      show (atI as (j : Int)).map R.im = _
      rw [atI_nat _ _ (by omega), e]
      rfl
    · have := (la _ (List.getElem_mem (show j < as.length by omega))).1.isV
      have ev : valQ as[j] = W j := by
        have := congrArg (fun l => l[j]?) ha
        simp only [List.getElem?_map, e, List.getElem?_range hj, Option.map_some] at this
        exact Option.some.inj this
      rw [← ev]
      exact v_value_of this
  let GA : Ent → Ent → Ent → Ent → Gam := fun x6 x7 x8 x9 => [.im Y, .im F, .im d, .im (.int (n : Int)), .im S, .im (.int (m : Int)), x6, x7, x8, x9, .un, .un, .un, .un, .un, .un]
  have body : ∀ j (x7 x8 x9 : Ent), j < m → ∃ y7 y8 y9 : Ent, b_are_counts_1 (GA (.im (.int (j : Int))) x7 x8 x9) = some (.nx, GA (.im (.int (j : Int))) y7 y8 y9) := fun j x7 x8 x9 hj => by
    obtain ⟨L, hL⟩ : ∃ L : List D, L = rgD m fun t => .int (e1 j t) := ⟨_, rfl⟩
    have seqL : seqD (.lst L) = some L := rfl
    have Lv : L.map valQ = (List.range m).map fun t => ((e1 j t : Int) : Rat) := by
      rw [hL]
      unfold rgD
      rw [List.map_map]
      rfl
    have Ll : Ln 1 L := fun z hz => by
      rw [hL] at hz
      obtain ⟨t, _, rfl⟩ := List.mem_map.mp hz
      exact ⟨.inl ⟨_, rfl⟩, eh j t⟩
    have s7 : (xset 7 (xlc (xrange1 (xcons (xv 5) xnil)) (tgn 11) xtyes (xcb cbInt (xcons (xop opEq (xv 11) (xv 6)) xnil)) [11])) (GA (.im (.int (j : Int))) x7 x8 x9) = some (.nx, GA (.im (.int (j : Int))) (.ol L) x8 x9) := by
      refine xset_e (r := .ol L) (xlc_un (ds := rgD m fun t => .int (t : Int)) (by
        refine (xrange1_ok (n := (m : Int)) (xc1 rfl xnil_ok) (okR_of (by omega) (by omega))).trans ?_
        rw [Int.toNat_natCast, rng_rgD]) rfl rfl rfl ?_ (by rw [hL, rgD_len]; omega)) rfl
      rw [hL]
      unfold rgD
      refine xlcL_en (fun t => .int (e1 j t)) fun t ht => ?_
      refine ⟨_, .im (.int (e1 j t)), _, rfl, xcb_ok (xc1 (d := .bl (decide (t = j))) (xo2 (x := .int (t : Int)) (y := .int (j : Int)) rfl rfl ?_) xnil_ok) ?_, rfl, rfl⟩
      · show some (R.im (.bl (decide ((t : Int) = (j : Int))))) = _
        rw [show decide ((t : Int) = (j : Int)) = decide (t = j) from decide_eq_decide.mpr (by omega)]
      · show some (R.im (.int (if decide (t = j) = true then 1 else 0))) = some (R.im (.int (if t = j then 1 else 0)))
        by_cases z : t = j
        · rw [if_pos (decide_eq_true z), if_pos z]
        · rw [if_neg (by rw [decide_eq_false z]; exact Bool.false_ne_true), if_neg z]
    let P1 : List D := rgD r fun i => vq (y i * ((e1 j (p i) : Int) : Rat))
    have s8 : (xset 8 (xlc (xzipA (xcons (xv 0) (xcons (xv 4) xnil))) (tgt [(tgn 12), (tgt [(tgn 13), (tgn 10)])]) xtyes (xcall r_multiplied (xcons (xcall r_value_of (xcons (xv 12) xnil)) (xcons (xcall r_value_of (xcons (xop opIx (xv 7) (xv 13)) xnil)) xnil))) [12, 13, 10])) (GA (.im (.int (j : Int))) (.ol L) x8 x9) = some (.nx, GA (.im (.int (j : Int))) (.ol L) (.ol P1) x9) ∨ (xset 8 (xlc (xzipA (xcons (xv 0) (xcons (xv 4) xnil))) (tgt [(tgn 12), (tgt [(tgn 13), (tgn 10)])]) xtyes (xcall r_multiplied (xcons (xcall r_value_of (xcons (xv 12) xnil)) (xcons (xcall r_value_of (xcons (xop opIx (xv 7) (xv 13)) xnil)) xnil))) [12, 13, 10])) (GA (.im (.int (j : Int))) (.ol L) x8 x9) = some (.nx, GA (.im (.int (j : Int))) (.im (.lst L)) (.ol P1) x9) := by
      obtain ⟨G9, g9, hG⟩ := xlcL_fst (tg := tgt [(tgn 12), (tgt [(tgn 13), (tgn 10)])]) (e := xcall r_multiplied (xcons (xcall r_value_of (xcons (xv 12) xnil)) (xcons (xcall r_value_of (xcons (xop opIx (xv 7) (xv 13)) xnil)) xnil))) (vs := [12, 13, 10]) (G := GA (.im (.int (j : Int))) (.ol L) x8 x9) (G' := GA (.im (.int (j : Int))) (.im (.lst L)) x8 x9) (en := fun i => .tup [vq (y i), .tup [.int (p i : Int), vq (v i)]]) (fun i => vq (y i * ((e1 j (p i) : Int) : Rat))) (xs := List.range r) (fun i hi G9 hG => by
        have hi := List.mem_range.mp hi
        have ix : opIx (.lst L) (.int (p i : Int)) = some (.im (.int (e1 j (p i)))) := by rw [hL]; exact rgD_ix _ (hp i hi)
        have vo : r_value_of [.int (e1 j (p i))] = some (.im (vq ((e1 j (p i) : Int) : Rat))) := v_value_of (isV_int _)
        have mu := v_multiplied (hy i hi) (eh j (p i)) (by omega)
        rcases hG with rfl | rfl
        · exact ⟨_, _, _, rfl, xcall_ok (xc1 (xcall_ok (xc1 (d := vq (y i)) rfl xnil_ok) (v_value_of (isV_vq _))) (xc1 (xcall_ok (xc1 (xo2 (x := .lst L) (y := .int (p i : Int)) rfl rfl ix) xnil_ok) vo) xnil_ok)) mu, rfl, rfl⟩
        · exact ⟨_, _, _, rfl, xcall_ok (xc1 (xcall_ok (xc1 (d := vq (y i)) rfl xnil_ok) (v_value_of (isV_vq _))) (xc1 (xcall_ok (xc1 (xo2 (x := .lst L) (y := .int (p i : Int)) rfl rfl ix) xnil_ok) vo) xnil_ok)) mu, rfl, rfl⟩)
      have it : xzipA (xcons (xv 0) (xcons (xv 4) xnil)) (GA (.im (.int (j : Int))) (.ol L) x8 x9) = some ((List.range r).map fun i => .tup [vq (y i), .tup [.int (p i : Int), vq (v i)]], GA (.im (.int (j : Int))) (.ol L) x8 x9) := by
        rw [xzip_ok (xc1 (d := Y) rfl (xc1 (d := S) rfl xnil_ok)) seqY seqS, rgD_zip]
      have lc := xlc_ok (vs := [12, 13, 10]) it rfl g9 (by show few (rgD r _).length = true; rw [rgD_len]; exact fewl (by omega))
      rcases hG with rfl | rfl
      · exact .inl (xset_e lc rfl)
      · exact .inr (xset_e lc rfl)
    obtain ⟨o, ho, hod⟩ := v_differences (m := m) (n := n) (K := 1) (x := fun t => ((e1 j t : Int) : Rat)) (fun t _ => eh j t) (by omega) (by omega) (by have := kb_mono 1 (show n ≤ 3 by omega); have e : kb 1 3 = 15 := rfl; omega)
    have vo := v_values_of seqL Ll.len (by rw [hL, rgD_len]; omega)
    rw [vals_rg Lv] at vo
    have s9 : ∀ x7 : Ent, x7 = .ol L ∨ x7 = .im (.lst L) → (xset 9 (xcall r_differences (xcons (xcall r_values_of (xcons (xv 7) xnil)) (xcons (xv 3) xnil)))) (GA (.im (.int (j : Int))) x7 (.ol P1) x9) = some (.nx, GA (.im (.int (j : Int))) (.im (.lst L)) (.ol P1) o.ent) := fun x7 h7 => by
      have a1 : xv 7 (GA (.im (.int (j : Int))) x7 (.ol P1) x9) = some (.im (.lst L), GA (.im (.int (j : Int))) (.im (.lst L)) (.ol P1) x9) := by
        rcases h7 with rfl | rfl <;> rfl
      exact xset_e (xcall_ok (xcw (xcall_ok (xc1 a1 xnil_ok) vo) (xc1 (d := .int (n : Int)) rfl xnil_ok)) ho) rfl
    let dl : Nat → Rat := fun k => df n (fun t => ((e1 j t : Int) : Rat)) k
    have dlE : ∀ k, dl k = dE n k j := fun k => df_cast (e1 j) n k
    let MV9 : D := .lst (rgD (m - n) fun k => vq (dl k))
    let P2 : List D := rgD (m - n) fun k => vq (f k * dl k)
    have dlh : ∀ k, k < m - n → Ht (dl k) 15 := fun k hk => (df_ht (m := m) (K := 1) (x := fun t => ((e1 j t : Int) : Rat)) (fun t _ => eh j t) n k (by omega)).up (by have := kb_mono 1 (show n ≤ 3 by omega); have e : kb 1 3 = 15 := rfl; omega)
    have lc9 : xlc (xzipA (xcons (xv 1) (xcons (xv 9) xnil))) (tgt [(tgn 14), (tgn 15)]) xtyes (xcall r_multiplied (xcons (xcall r_value_of (xcons (xv 14) xnil)) (xcons (xv 15) xnil))) [14, 15] (GA (.im (.int (j : Int))) (.im (.lst L)) (.ol P1) o.ent) = some (.ol P2, GA (.im (.int (j : Int))) (.im (.lst L)) (.ol P1) (.im MV9)) := by
      have a1 : xv 9 (GA (.im (.int (j : Int))) (.im (.lst L)) (.ol P1) o.ent) = some (.im MV9, GA (.im (.int (j : Int))) (.im (.lst L)) (.ol P1) (.im MV9)) := by
        cases o with
        | im d9 =>
          have : d9 = MV9 := hod
          rw [this]
          rfl
        | ow mb =>
          cases mb with
          | l xs =>
            have : D.lst xs = MV9 := hod
            rw [← this]
            rfl
          | o c xs => cases hod
      refine xlc_un (G := GA (.im (.int (j : Int))) (.im (.lst L)) (.ol P1) (.im MV9)) (xzip_ok (xc1 (d := F) rfl (xc1 a1 xnil_ok)) seqF rfl) rfl rfl rfl ?_ (by show (rgD (m - n) _).length ≤ _; rw [rgD_len]; omega)
      rw [rgD_zip]
      refine xlcL_en (fun k => vq (f k * dl k)) fun k hk => ?_
      have hk := List.mem_range.mp hk
      exact ⟨_, _, _, rfl, xcall_ok (xc1 (xcall_ok (xc1 (d := vq (f k)) rfl xnil_ok) (v_value_of (isV_vq _))) (xc1 (d := vq (dl k)) rfl xnil_ok)) (v_multiplied (hf k hk) (dlh k hk) (by omega)), rfl, rfl⟩
    have s10 : (xdrop (xmut 8 muExt (xcons (xlc (xzipA (xcons (xv 1) (xcons (xv 9) xnil))) (tgt [(tgn 14), (tgn 15)]) xtyes (xcall r_multiplied (xcons (xcall r_value_of (xcons (xv 14) xnil)) (xcons (xv 15) xnil))) [14, 15]) xnil))) (GA (.im (.int (j : Int))) (.im (.lst L)) (.ol P1) o.ent) = some (.nx, GA (.im (.int (j : Int))) (.im (.lst L)) (.ol (P1 ++ P2)) (.im MV9)) := by
      refine xdrop_ok (r := .im .non) ?_
      unfold xmut
      rw [if_pos (by rfl), xcw lc9 xnil_ok]
      have me : muExt P1 [.lst P2] = some (.non, P1 ++ P2) := by
        show (if few (P1.length + P2.length) then _ else _) = _
        have l1 : P1.length = r := rgD_len _ _
        have l2 : P2.length = m - n := rgD_len _ _
        rw [l1, l2, fewl (by omega), if_pos rfl]
      show (match muExt P1 [.lst P2] with
        | some (d, ds') => some (R.im d, _)
        | none => none) = _
      rw [me]
      rfl
    have sum9 : r_summed [.lst (P1 ++ P2)] = some (.im (vq (W j))) := by
      have sm := v_summed (d := .lst (P1 ++ P2)) (qs := (List.range r).map (fun i => y i * ((e1 j (p i) : Int) : Rat)) ++ (List.range (m - n)).map fun k => f k * dl k) (k := 371) (by
        rw [List.map_append, List.map_map, List.map_map]
        rfl) (fun q hq => by
        rcases List.mem_append.mp hq with hq | hq
        · obtain ⟨i, hi, rfl⟩ := List.mem_map.mp hq
          exact ((hy i (List.mem_range.mp hi)).mul (eh j (p i))).up (by decide)
        · obtain ⟨k, hk, rfl⟩ := List.mem_map.mp hq
          have hk := List.mem_range.mp hk
          exact ((hf k hk).mul (dlh k hk)).up (by decide)) (by rw [List.length_append, List.length_map, List.length_map, List.length_range, List.length_range]; omega)
      have h1 : (Lp.sg r fun i => y i * ((e1 j (p i) : Int) : Rat)) = Lp.spot r p y j := by
        unfold Lp.spot
        refine Lp.sg_congr fun i _ => ?_
        rw [e1_rat]
        split <;> grind
      have h2 : (Lp.sg (m - n) fun k => f k * dl k) = Lp.sg (m - n) fun k => f k * dE n k j := Lp.sg_congr fun k _ => by rw [dlE]
      rw [sm, sumQ_app, sumQ_rg, sumQ_rg, h1, h2, ok.eq j hj]
    obtain ⟨wx, w1, w2⟩ := wj j hj
    have te : xtest (xop opNe (xcall r_summed (xcons (xv 8) xnil)) (xcall r_value_of (xcons (xop opIx (xv 2) (xv 6)) xnil))) (GA (.im (.int (j : Int))) (.im (.lst L)) (.ol (P1 ++ P2)) (.im MV9)) = some (false, GA (.im (.int (j : Int))) (.im (.lst L)) (.im (.lst (P1 ++ P2))) (.im MV9)) := by
      refine xtest_ok (xo2 (G1 := GA (.im (.int (j : Int))) (.im (.lst L)) (.im (.lst (P1 ++ P2))) (.im MV9)) (x := vq (W j)) (y := vq (W j)) (xcall_ok (xc1 (d := .lst (P1 ++ P2)) rfl xnil_ok) sum9) (xcall_ok (xc1 (d := wx) (xo2 (x := d) (y := .int (j : Int)) rfl rfl w1) xnil_ok) w2) ?_)
      rw [ne_vq, decide_eq_true rfl]
      rfl
    refine ⟨.im (.lst L), .im (.lst (P1 ++ P2)), .im MV9, ?_⟩
    unfold b_are_counts_1
    rw [xseq_nx s7]
    rcases s8 with s8 | s8
    · rw [xseq_nx s8, xseq_nx (s9 _ (.inl rfl)), xseq_nx s10]
      exact (xifs_ok te).trans rfl
    · rw [xseq_nx s8, xseq_nx (s9 _ (.inr rfl)), xseq_nx s10]
      exact (xifs_ok te).trans rfl
  obtain ⟨G', g1, x6, x7, x8, x9, _, rfl⟩ := xforL_app9 (tg := tgn 6) (b := b_are_counts_1) (f := fun j => .int (j : Int)) (g := fun _ => .non) (fun out G => ∃ x6 x7 x8 x9 : Ent, (x6 = .un ∨ ∃ d, x6 = .im d) ∧ G = GA x6 x7 x8 x9) (n := m) (G := GA .un .un .un .un) ⟨_, _, _, _, .inl rfl, rfl⟩ (fun j G hj hG => by
    obtain ⟨x6, x7, x8, x9, h6, rfl⟩ := hG
    obtain ⟨y7, y8, y9, hb⟩ := body j x7 x8 x9 hj
    exact ⟨_, _, rfl, hb, _, _, _, _, .inr ⟨_, rfl⟩, rfl⟩)
  have mx : cbMax2 [.int 0, .int ((m : Int) - (n : Int))] = some (.im (.int ((m - n : Nat) : Int))) := by
    show some (R.im (.int (if (m : Int) - (n : Int) > 0 then (m : Int) - (n : Int) else 0))) = _
    split
    · rw [show (m : Int) - (n : Int) = ((m - n : Nat) : Int) by omega]
    · rw [show (0 : Int) = ((m - n : Nat) : Int) by omega]
  refine runF_st rfl ?_
  refine st_nx (G1 := GA .un .un .un .un) (xset_e (r := .im (.int (m : Int))) (xcb_ok (xc1 (d := d) rfl xnil_ok) lenW) rfl) ?_
  refine st_nx (G1 := GA .un .un .un .un) ((xifs_ok (k := false) (xtor_b (k := false) (l := false) (xtnot_ok (k := true) (xtrub (xcall_ok (xc1 (d := Y) rfl (xc1 (xcb_ok (xc1 (d := S) rfl xnil_ok) lenS) xnil_ok)) ay))) (xtnot_ok (k := true) (xtrub (xcall_ok (xc1 (d := F) rfl (xc1 (xcb_ok (xc1 (d := .int 0) rfl (xc1 (xo2 (x := .int (m : Int)) (y := .int (n : Int)) rfl rfl rfl) xnil_ok)) mx) xnil_ok)) af))))).trans rfl) ?_
  have an : xtru (xcb cbAny (xcons (xlc (xseqI (xv 1)) (tgn 10) xtyes (xcall r_is_less (xcons (xcall r_value_of (xcons (xv 10) xnil)) (xcons (xc c_NOUGHT) xnil))) [10]) xnil)) (GA .un .un .un .un) = some (false, GA .un .un .un .un) := by
    have lc : xlc (xseqI (xv 1)) (tgn 10) xtyes (xcall r_is_less (xcons (xcall r_value_of (xcons (xv 10) xnil)) (xcons (xc c_NOUGHT) xnil))) [10] (GA .un .un .un .un) = some (.ol (rgD (m - n) fun k => .bl (decide (f k < 0))), GA .un .un .un .un) := by
      refine xlc_un (xseqI_ok (d := F) rfl seqF) rfl rfl rfl ?_ (by rw [rgD_len]; omega)
      unfold rgD
      refine xlcL_en (fun k => .bl (decide (f k < 0))) fun k hk => ?_
      have hk := List.mem_range.mp hk
      exact ⟨_, _, _, rfl, xcall_ok (xc1 (xcall_ok (xc1 (d := vq (f k)) rfl xnil_ok) (v_value_of (isV_vq _))) (xc1 (d := vq 0) rfl xnil_ok)) (v_is_less (hf k hk) ht0 (by omega)), rfl, rfl⟩
    refine xtrub (xcb_ok (xcw lc xnil_ok) ?_)
    rw [anyb]
    have : ((List.range (m - n)).any fun k => decide (f k < 0)) = false := by
      rw [List.any_eq_false]
      intro k hk
      have := Rat.not_lt.mpr (ok.pos k (List.mem_range.mp hk))
      simpa using this
    rw [this]
  refine st_nx (G1 := GA .un .un .un .un) ((xifs_ok an).trans rfl) ?_
  refine st_nx (by
    refine xfor_ok (xrange1_ok (n := (m : Int)) (xc1 rfl xnil_ok) (okR_of (by omega) (by omega))) ?_
    rw [Int.toNat_natCast, rng_rgD]
    exact g1) ?_
  exact st_ret rfl
end
end Bk
namespace Bk
open PySem L2
section
variable {m n r : Nat} {p : Nat → Nat} {v W : Nat → Rat} {as : List D} {d : D}
theorem v_row_paper (h : Sv m n r d as W p v) (hu : ∀ i, i < r → up9 p i ≤ p i) : ∃ R, r_row_paper [d, .int (n : Int), SD r p v] = some (.im R) ∧ PapR m n r W p v R := by
  obtain ⟨R, hR, P⟩ := v_solved h
  refine ⟨R, ?_, P⟩
  have ns := v_need_seen (m := m) (v := v) h.hp hu (by have := h.r4; omega)
  have lenW : cbLen [d] = some (.im (.int (m : Int))) := by
    rcases h.hd with rfl | rfl <;> exact congrArg (fun n : Nat => some (Bk.R.im (.int (n : Int)))) (vals_len h.ha)
  obtain ⟨S, hS⟩ : ∃ S, S = SD r p v := ⟨_, rfl⟩
  have hS' : S = .lst (rgD r fun i => .tup [.int (p i : Int), vq (v i)]) := hS
  rw [← hS] at hR ns
  rw [← hS]
  refine runF_st rfl (st_ret (G1 := [.im d, .im (.int (n : Int)), .im S]) (xcall_ok (xc1 (d := d) rfl (xc1 (d := .int (n : Int)) rfl (xcw (xcall_ok (xc1 (d := S) rfl (xc1 (xcb_ok (xc1 (d := d) rfl xnil_ok) lenW) xnil_ok)) ns) xnil_ok))) ?_))
  rw [← hS']
  exact hR
/-- what row_least gives, beside its paper -/
def LstR (m n r : Nat) (W : Nat → Rat) (p : Nat → Nat) (v : Nat → Rat) (R l : D) : Prop :=
  (l = .str "none" ∧ opIx R (.int 0) = some (.im (.str "none")) ∧ ∃ y f, Lp.CtsOk m (sw m n) r (dE n) p (fun _ => 0) y f ∧ 0 < Lp.sg r fun i => y i * v i) ∨
  (l = .str "endless" ∧ opIx R (.int 0) = some (.im (.str "endless")) ∧ ∃ x z, Lp.RowOk m (sw m n) r (dE n) p v x ∧ Lp.RowOk m (sw m n) r (dE n) p (fun _ => 0) z ∧ (Lp.sg m fun t => W t * z t) < 0) ∨
  ∃ x y f, l = vq (Lp.sg m fun t => W t * x t) ∧ opIx R (.int 0) = some (.im (.str "least")) ∧ Lp.RowOk m (sw m n) r (dE n) p v x ∧ Lp.CtsOk m (sw m n) r (dE n) p W y f ∧ (Lp.sg m fun t => W t * x t) = (Lp.sg r fun i => y i * v i) ∧ Ht (Lp.sg m fun t => W t * x t) 1700
theorem told_x (h : Sv m n r d as W p v) {x : Nat → Rat} (hx : ∀ t, t < m → Ht (x t) 400) : r_row_told [d, .tup (rgD m fun t => vq (x t))] = some (.im (vq (Lp.sg m fun t => W t * x t))) := by
  have m5 := h.m5
  exact told9 (by rcases h.hd with e | e <;> rw [e] <;> rfl) rfl h.ha (rgD_vals _ _) h.la (rgD_ln hx) (by omega) (by omega)
theorem v_row_least (h : Sv m n r d as W p v) {R : D} (hR : r_row_paper [d, .int (n : Int), SD r p v] = some (.im R)) (P : PapR m n r W p v R) : ∃ l, r_row_least [d, .int (n : Int), SD r p v] = some (.im l) ∧ LstR m n r W p v R l := by
  obtain ⟨S, hS⟩ : ∃ S, S = SD r p v := ⟨_, rfl⟩
  rw [← hS] at hR
  rw [← hS]
  have run : ∀ l, (xif (xtest (xop opEq (xop opIx (xv 3) (xc (.int 0))) (xc (.str "least")))) (xcall r_row_told (xcons (xv 0) (xcons (xop opIx (xv 3) (xc (.int 1))) xnil))) (xop opIx (xv 3) (xc (.int 0)))) [.im d, .im (.int (n : Int)), .im S, .im R] = some (.im l, [.im d, .im (.int (n : Int)), .im S, .im R]) → r_row_least [d, .int (n : Int), S] = some (.im l) := fun l hl => by
    refine runF_st rfl ?_
    refine st_nx (G1 := [.im d, .im (.int (n : Int)), .im S, .im R]) (xset_e (xcall_ok (xc1 rfl (xc1 rfl (xc1 rfl xnil_ok))) hR) rfl) ?_
    exact st_ret hl
  cases P with
  | none y f c pos hy hf =>
    obtain ⟨Y, hY⟩ : ∃ Y : D, Y = .tup (rgD r fun i => vq (y i)) := ⟨_, rfl⟩
    obtain ⟨F, hF⟩ : ∃ F : D, F = .tup (rgD (sw m n) fun k => vq (f k)) := ⟨_, rfl⟩
    rw [← hY, ← hF] at run
    refine ⟨.str "none", run _ ?_, .inl ⟨rfl, rfl, y, f, c, pos⟩⟩
    exact (xif_e (k := false) (by rfl)).trans rfl
  | endless x z hx hz neg sx sz =>
    obtain ⟨X, hX⟩ : ∃ X : D, X = .tup (rgD m fun t => vq (x t)) := ⟨_, rfl⟩
    obtain ⟨Z, hZ⟩ : ∃ Z : D, Z = .tup (rgD m fun t => vq (z t)) := ⟨_, rfl⟩
    rw [← hX, ← hZ] at run
    refine ⟨.str "endless", run _ ?_, .inr (.inl ⟨rfl, rfl, x, z, hx, hz, neg⟩)⟩
    exact (xif_e (k := false) (by rfl)).trans rfl
  | least x y f hx c eq sx hy hf =>
    obtain ⟨X, hX⟩ : ∃ X : D, X = .tup (rgD m fun t => vq (x t)) := ⟨_, rfl⟩
    obtain ⟨Y, hY⟩ : ∃ Y : D, Y = .tup (rgD r fun i => vq (y i)) := ⟨_, rfl⟩
    obtain ⟨F, hF⟩ : ∃ F : D, F = .tup (rgD (sw m n) fun k => vq (f k)) := ⟨_, rfl⟩
    have tl := told_x h sx
    rw [← hX] at tl
    rw [← hX, ← hY, ← hF] at run
    refine ⟨_, run _ ?_, .inr (.inr ⟨x, y, f, rfl, rfl, hx, c, eq, (sg_ht fun t ht => (h.w_ht t ht).mul (sx t ht)).up (by have := Nat.mul_le_mul_right (4 + 400 + 1) (show m ≤ 4 by have := h.m5; omega); omega)⟩)⟩
    exact (xif_e (k := true) (by rfl)).trans (xcall_ok (xc1 rfl (xc1 (d := X) (xo2 rfl rfl rfl) xnil_ok)) tl)
theorem v_row_paper_holds (h : Sv m n r d as W p v) (hd : d = .lst as) (hu : ∀ i, i < r → up9 p i ≤ p i) {R : D} (P : PapR m n r W p v R) : r_row_paper_holds [d, .int (n : Int), SD r p v, R] = some (.im (.bl true)) := by
  have m5 := h.m5
  have n4 := h.n4
  have r4 := h.r4
  have ns := v_need_seen (m := m) (v := v) h.hp hu (by omega)
  have lenW : cbLen [d] = some (.im (.int (m : Int))) := by
    rcases h.hd with rfl | rfl <;> exact congrArg (fun n : Nat => some (Bk.R.im (.int (n : Int)))) (vals_len h.ha)
  obtain ⟨ss, hss⟩ : ∃ ss : List D, ss = rgD r fun i => .tup [.int (p i : Int), vq (v i)] := ⟨_, rfl⟩
  have hS : SD r p v = .lst ss := by rw [hss]; rfl
  rw [hS, ← hss] at ns
  rw [hS]
  let GH : Ent → Ent → D → Gam := fun x4 x6 R => [.im d, .im (.int (n : Int)), .im (.lst ss), .im R, x4, .im (.int (m : Int)), x6, .un, .un]
  have st1 : ∀ R, (ypar 4 5 (ycons (xcall r_need_seen (xcons (xv 2) (xcons (xcb cbLen (xcons (xv 0) xnil)) xnil))) (ycons (xcb cbLen (xcons (xv 0) xnil)) ynil))) [.im d, .im (.int (n : Int)), .im (.lst ss), .im R, .un, .un, .un, .un, .un] = some (.nx, GH (.ol ss) .un R) := fun R => by
    have a1 : xcall r_need_seen (xcons (xv 2) (xcons (xcb cbLen (xcons (xv 0) xnil)) xnil)) [.im d, .im (.int (n : Int)), .im (.lst ss), .im R, .un, .un, .un, .un, .un] = some (.ol ss, [.im d, .im (.int (n : Int)), .im (.lst ss), .im R, .un, .un, .un, .un, .un]) := xcall_ok (xc1 (d := .lst ss) rfl (xc1 (xcb_ok (xc1 (d := d) rfl xnil_ok) lenW) xnil_ok)) ns
    have a2 : xcb cbLen (xcons (xv 0) xnil) [.im d, .im (.int (n : Int)), .im (.lst ss), .im R, .un, .un, .un, .un, .un] = some (.im (.int (m : Int)), [.im d, .im (.int (n : Int)), .im (.lst ss), .im R, .un, .un, .un, .un, .un]) := xcb_ok (xc1 (d := d) rfl xnil_ok) lenW
    exact ypar_ok (ycons_ok a1 (ycons_ok (b := ynil) (xs := []) a2 rfl))
  have kb3 : ∀ K, K ≤ 400 → kb K n < 8980 := fun K hK => by
    have h1 := kb_mono K (show n ≤ 3 by omega)
    have h2 : kb K 3 = ((K + K + 1) + (K + K + 1) + 1) + ((K + K + 1) + (K + K + 1) + 1) + 1 := rfl
    omega
  cases P with
  | none y f c pos hy hf =>
    have ct := v_are_counts (v := v) (K := 1) (d := .lst (rgD m fun _ => .int 0)) (as := rgD m fun _ => .int 0) (W := fun _ => 0) rfl (by
      unfold rgD
      rw [List.map_map]
      rfl) (fun x hx => by
      obtain ⟨t, _, rfl⟩ := List.mem_map.mp hx
      exact ⟨.inl ⟨0, rfl⟩, ht0⟩) h.hp hy hf c h.m5 h.n4 h.r4
    have wo := v_worth_of (p := p) hy h.v_ht (by omega) (by have := Nat.mul_le_mul_right (326 + 3 + 1) r4; omega)
    rw [hS] at ct wo
    obtain ⟨Y, hY⟩ : ∃ Y : D, Y = .tup (rgD r fun i => vq (y i)) := ⟨_, rfl⟩
    obtain ⟨F, hF⟩ : ∃ F : D, F = .tup (rgD (sw m n) fun k => vq (f k)) := ⟨_, rfl⟩
    rw [← hY] at wo
    rw [← hY, show (D.tup (rgD (m - n) fun k => vq (f k))) = F from hF.symm] at ct
    rw [← hY, ← hF]
    refine runF_st rfl ?_
    refine st_nx (st1 _) ?_
    refine st_nx (G1 := GH (.ol ss) .un (.tup [.str "none", Y, F])) (by rfl) ?_
    refine st_nx (G1 := GH (.ol ss) .un (.tup [.str "none", Y, F])) (by rfl) ?_
    refine (congrArg outF ((xseq_rt ((xifs_ok (k := true) (G1 := GH (.ol ss) .un (.tup [.str "none", Y, F])) (by rfl)).trans ?_) : _ = some (Fl.rt (.im (.bl true)), GH (.im (.lst ss)) .un (.tup [.str "none", Y, F]))))).trans rfl
    rw [if_pos rfl]
    refine xret_ok (xvand_t (G1 := GH (.im (.lst ss)) .un (.tup [.str "none", Y, F])) ?_ ?_)
    · exact xcall_ok (xc1 (d := Y) (xo2 rfl rfl rfl) (xc1 (d := F) (xo2 rfl rfl rfl) (xcw (ds := rgD m fun _ => .int 0) (xop_ok (x := .ol [.int 0]) (y := .im (.int (m : Int))) (xlst_ok (xc1 rfl xnil_ok) rfl) rfl (mul_rg _ _ (by omega))) (xc1 (d := .int (n : Int)) rfl (xc1 (d := .lst ss) rfl xnil_ok))))) ct
    · have hw : Ht (Lp.sg r fun i => y i * v i) 1400 := (sg_ht fun i hi => (hy i hi).mul (h.v_ht i hi)).up (by have := Nat.mul_le_mul_right (326 + 3 + 1) r4; omega)
      have il := v_is_less ht0 hw (by omega)
      rw [decide_eq_true pos] at il
      exact xcall_ok (xc1 (d := vq 0) rfl (xc1 (xcall_ok (xc1 (d := Y) (xo2 rfl rfl rfl) (xc1 (d := .lst ss) rfl xnil_ok)) wo) xnil_ok)) il
  | endless x z hx hz neg sx sz =>
    have r1 := v_is_row (n := n) (r := r) (v := v) sx h.hp hx (by omega) (by omega) (by omega) (kb3 400 (by omega))
    have r2 := v_is_row (n := n) (r := r) (v := fun _ => 0) sz h.hp hz (by omega) (by omega) (by omega) (kb3 400 (by omega))
    have tl := told_x h sz
    obtain ⟨s0, hs0⟩ : ∃ s0 : List D, s0 = rgD r fun i => .tup [.int (p i : Int), vq 0] := ⟨_, rfl⟩
    have hS0 : SD r p (fun _ => 0) = .lst s0 := by rw [hs0]; rfl
    rw [hS] at r1
    rw [hS0] at r2
    obtain ⟨X, hX⟩ : ∃ X : D, X = .tup (rgD m fun t => vq (x t)) := ⟨_, rfl⟩
    obtain ⟨Z, hZ⟩ : ∃ Z : D, Z = .tup (rgD m fun t => vq (z t)) := ⟨_, rfl⟩
    rw [← hX] at r1
    rw [← hZ] at r2 tl
    rw [← hX, ← hZ]
    refine runF_st rfl ?_
    refine st_nx (st1 _) ?_
    refine st_nx (G1 := GH (.ol ss) .un (.tup [.str "endless", X, Z])) (by rfl) ?_
    refine st_nx (G1 := GH (.ol ss) .un (.tup [.str "endless", X, Z])) (by rfl) ?_
    refine st_nx (G1 := GH (.ol ss) .un (.tup [.str "endless", X, Z])) (by rfl) ?_
    refine (congrArg outF ((xseq_rt ((xifs_ok (k := true) (G1 := GH (.ol ss) .un (.tup [.str "endless", X, Z])) (by rfl)).trans ?_) : _ = some (Fl.rt (.im (.bl true)), GH (.im (.lst ss)) (.im (.lst s0)) (.tup [.str "endless", X, Z]))))).trans rfl
    rw [if_pos rfl]
    have lc : xlc (xseqI (xv 4)) (tgt [(tgn 7), (tgn 8)]) xtyes (xtup (xcons (xv 7) (xcons (xc c_NOUGHT) xnil))) [7, 8] (GH (.ol ss) .un (.tup [.str "endless", X, Z])) = some (.ol s0, GH (.im (.lst ss)) .un (.tup [.str "endless", X, Z])) := by
      refine xlc_un (G := GH (.im (.lst ss)) .un (.tup [.str "endless", X, Z])) (xseqI_ok (d := .lst ss) rfl rfl) rfl rfl rfl ?_ (by rw [hs0, rgD_len]; omega)
      rw [hss, hs0]
      unfold rgD
      refine xlcL_en (fun i => .tup [.int (p i : Int), vq 0]) fun i hi => ?_
      exact ⟨_, _, _, rfl, xtup_ok (xc1 (d := .int (p i : Int)) rfl (xc1 (d := vq 0) rfl xnil_ok)) rfl, rfl, rfl⟩
    rw [xseq_nx (xset_e (G2 := GH (.im (.lst ss)) (.ol s0) (.tup [.str "endless", X, Z])) lc rfl)]
    have b1 : xcall r_is_row (xcons (xop opIx (xv 3) (xc (.int 1))) (xcons (xv 5) (xcons (xv 1) (xcons (xv 4) xnil)))) (GH (.im (.lst ss)) (.ol s0) (.tup [.str "endless", X, Z])) = some (.im (.bl true), GH (.im (.lst ss)) (.ol s0) (.tup [.str "endless", X, Z])) := xcall_ok (xc1 (d := X) (xo2 rfl rfl rfl) (xc1 (d := .int (m : Int)) rfl (xc1 (d := .int (n : Int)) rfl (xc1 (d := .lst ss) rfl xnil_ok)))) r1
    have b2 : xcall r_is_row (xcons (xop opIx (xv 3) (xc (.int 2))) (xcons (xv 5) (xcons (xv 1) (xcons (xv 6) xnil)))) (GH (.im (.lst ss)) (.ol s0) (.tup [.str "endless", X, Z])) = some (.im (.bl true), GH (.im (.lst ss)) (.im (.lst s0)) (.tup [.str "endless", X, Z])) := xcall_ok (xc1 (d := Z) (xo2 rfl rfl rfl) (xc1 (d := .int (m : Int)) rfl (xc1 (d := .int (n : Int)) rfl (xc1 (d := .lst s0) rfl xnil_ok)))) r2
    rw [xseq_nx ((xifs_ok (k := false) ((xtor_f (xtnot_ok (k := true) (xtrub b1))).trans (xtnot_ok (k := true) (xtrub b2)))).trans rfl)]
    have hw : Ht (Lp.sg m fun t => W t * z t) 1700 := (sg_ht fun t ht => (h.w_ht t ht).mul (sz t ht)).up (by have := Nat.mul_le_mul_right (4 + 400 + 1) (show m ≤ 4 by omega); omega)
    have il := v_is_less hw ht0 (by omega)
    rw [decide_eq_true neg] at il
    exact xret_ok (xcall_ok (xc1 (xcall_ok (xc1 (d := d) rfl (xc1 (d := Z) (xo2 rfl rfl rfl) xnil_ok)) tl) (xc1 (d := vq 0) rfl xnil_ok)) il)
  | least x y f hx c eq sx hy hf =>
    have r1 := v_is_row (n := n) (r := r) (v := v) sx h.hp hx (by omega) (by omega) (by omega) (kb3 400 (by omega))
    have ct := v_are_counts (v := v) (K := 4) (d := d) (as := as) (W := W) hd h.ha h.la h.hp hy hf c h.m5 h.n4 h.r4
    have wo := v_worth_of (p := p) hy h.v_ht (by omega) (by have := Nat.mul_le_mul_right (326 + 3 + 1) r4; omega)
    have tl := told_x h sx
    rw [hS] at r1 ct wo
    obtain ⟨X, hX⟩ : ∃ X : D, X = .tup (rgD m fun t => vq (x t)) := ⟨_, rfl⟩
    obtain ⟨Y, hY⟩ : ∃ Y : D, Y = .tup (rgD r fun i => vq (y i)) := ⟨_, rfl⟩
    obtain ⟨F, hF⟩ : ∃ F : D, F = .tup (rgD (sw m n) fun k => vq (f k)) := ⟨_, rfl⟩
    rw [← hX] at r1 tl
    rw [← hY] at wo
    rw [← hY, show (D.tup (rgD (m - n) fun k => vq (f k))) = F from hF.symm] at ct
    rw [← hX, ← hY, ← hF]
    refine runF_st rfl ?_
    refine st_nx (st1 _) ?_
    refine st_nx (G1 := GH (.ol ss) .un (.tup [.str "least", X, Y, F])) (by rfl) ?_
    refine (congrArg outF ((xseq_rt ((xifs_ok (k := true) (G1 := GH (.ol ss) .un (.tup [.str "least", X, Y, F])) (by rfl)).trans ?_) : _ = some (Fl.rt (.im (.bl true)), GH (.im (.lst ss)) .un (.tup [.str "least", X, Y, F]))))).trans rfl
    rw [if_pos rfl]
    have b1 : xcall r_is_row (xcons (xop opIx (xv 3) (xc (.int 1))) (xcons (xv 5) (xcons (xv 1) (xcons (xv 4) xnil)))) (GH (.ol ss) .un (.tup [.str "least", X, Y, F])) = some (.im (.bl true), GH (.im (.lst ss)) .un (.tup [.str "least", X, Y, F])) := xcall_ok (xc1 (d := X) (xo2 rfl rfl rfl) (xc1 (d := .int (m : Int)) rfl (xc1 (d := .int (n : Int)) rfl (xc1 (d := .lst ss) rfl xnil_ok)))) r1
    have b2 : xcall r_are_counts (xcons (xop opIx (xv 3) (xc (.int 2))) (xcons (xop opIx (xv 3) (xc (.int 3))) (xcons (xv 0) (xcons (xv 1) (xcons (xv 4) xnil))))) (GH (.im (.lst ss)) .un (.tup [.str "least", X, Y, F])) = some (.im (.bl true), GH (.im (.lst ss)) .un (.tup [.str "least", X, Y, F])) := xcall_ok (xc1 (d := Y) (xo2 rfl rfl rfl) (xc1 (d := F) (xo2 rfl rfl rfl) (xc1 (d := d) rfl (xc1 (d := .int (n : Int)) rfl (xc1 (d := .lst ss) rfl xnil_ok))))) ct
    rw [xseq_nx ((xifs_ok (k := false) ((xtor_f (xtnot_ok (k := true) (xtrub b1))).trans (xtnot_ok (k := true) (xtrub b2)))).trans rfl)]
    refine xret_ok (xo2 (x := vq (Lp.sg m fun t => W t * x t)) (y := vq (Lp.sg r fun i => y i * v i)) (xcall_ok (xc1 (d := d) rfl (xc1 (d := X) (xo2 rfl rfl rfl) xnil_ok)) tl) (xcall_ok (xc1 (d := Y) (xo2 rfl rfl rfl) (xc1 (d := .lst ss) rfl xnil_ok)) wo) ?_)
    rw [eq_vq9, decide_eq_true eq]
end
end Bk
namespace Bk
open PySem L2
section
variable {m n r : Nat} {p : Nat → Nat} {v W x : Nat → Rat} {as : List D} {d : D}
def neg9 : D → D
  | .str s => .str s
  | d => vq (-1 * valQ d)
theorem LstR.form {R l : D} (h : LstR m n r W p v R l) : (∃ s, l = .str s) ∨ ∃ q, l = vq q ∧ Ht q 1700 := by
  rcases h with ⟨e, _⟩ | ⟨e, _⟩ | ⟨x, y, f, e, _, _, _, _, q⟩
  · exact .inl ⟨_, e⟩
  · exact .inl ⟨_, e⟩
  · exact .inr ⟨_, e, q⟩
theorem v_row_greatest (hd : d = .lst as ∨ d = .tup as) (ha : as.map valQ = (List.range m).map W) (la : Ln 4 as) (hm : m ≤ 1000) {S l : D} (hl : r_row_least [.lst (rgD m fun t => vq (-1 * W t)), .int (n : Int), S] = some (.im l)) (hs : (∃ s, l = .str s) ∨ ∃ q, l = vq q ∧ Ht q 1700) : r_row_greatest [d, .int (n : Int), S] = some (.im (neg9 l)) := by
  have hW := vals_ht ha la
  have vo := v_values_of (len_any hd).2 la.len (by rw [vals_len ha]; omega)
  rw [vals_rg ha] at vo
  have lc : xlc (xseqI (xcall r_values_of (xcons (xv 0) xnil))) (tgn 4) xtyes (xcall r_multiplied (xcons (xc c_MINUS) (xcons (xv 4) xnil))) [4] [.im d, .im (.int (n : Int)), .im S, .un, .un] = some (.ol (rgD m fun t => vq (-1 * W t)), [.im d, .im (.int (n : Int)), .im S, .un, .un]) := by
    refine xlc_un (ds := rgD m fun t => vq (W t)) (xseqI_okR (r := .ol (rgD m fun t => vq (W t))) (xcall_ok (xc1 (d := d) rfl xnil_ok) vo) rfl) rfl rfl rfl ?_ (by rw [rgD_len]; omega)
    unfold rgD
    refine xlcL_en (fun t => vq (-1 * W t)) fun t ht => ?_
    exact ⟨_, _, _, rfl, xcall_ok (xc1 (d := vq (-1)) rfl (xc1 rfl xnil_ok)) (v_multiplied htM (hW t (List.mem_range.mp ht)) (by omega)), rfl, rfl⟩
  refine runF_st rfl ?_
  refine st_nx (G1 := [.im d, .im (.int (n : Int)), .im S, .im l, .un]) (xset_e (r := .im l) (xcall_ok (xcw lc (xc1 rfl (xc1 rfl xnil_ok))) hl) rfl) ?_
  refine st_ret (G1 := [.im d, .im (.int (n : Int)), .im S, .im l, .un]) ?_
  rcases hs with ⟨s, rfl⟩ | ⟨q, rfl, hq⟩
  · exact (xif_e (k := true) (by rfl)).trans rfl
  · have e : neg9 (vq q) = vq (-1 * q) := by
      show vq (-1 * valQ (vq q)) = _
      rw [valQ_vq]
    rw [e]
    refine (xif_e (k := false) (by rfl)).trans ?_
    exact xcall_ok (xc1 (d := vq (-1)) rfl (xc1 (d := vq q) rfl xnil_ok)) (v_multiplied htM hq (by omega))
theorem told0 (x : Nat → Rat) : (Lp.sg m fun t => (fun _ => (0 : Rat)) t * x t) = 0 := Lp.sg_zero fun t _ => by grind
theorem not_none (hp : ∀ i, i < r → p i < m) (hx : Lp.RowOk m (sw m n) r (dE n) p v x) {y f : Nat → Rat} (c : Lp.CtsOk m (sw m n) r (dE n) p (fun _ => 0) y f) (pos : 0 < Lp.sg r fun i => y i * v i) : False := by
  have := c.le hp hx
  rw [told0] at this
  grind
theorem row_same {x' : Nat → Rat} (hx : Lp.RowOk m (sw m n) m (dE n) (fun i => i) x x') : (∀ k, k < sw m n → 0 ≤ Lp.dif m (dE n) x k) ∧ ∀ W : Nat → Rat, (Lp.sg m fun t => W t * x' t) = Lp.sg m fun t => W t * x t := by
  refine ⟨fun k hk => ?_, fun W => Lp.sg_congr fun t ht => by rw [hx.at_ t ht]⟩
  have := hx.kd k hk
  unfold Lp.dif at this
  unfold Lp.dif
  rw [← Lp.sg_congr (f := fun t => dE n k t * x' t) fun t ht => by rw [hx.at_ t ht]]
  exact this
/-- all places are seen -/
theorem least_all {R l : D} (h : LstR m n m W (fun i => i) x R l) : l = if kindB m n x then vq (Lp.sg m fun t => W t * x t) else .str "none" := by
  by_cases z : kindB m n x = true
  · rw [if_pos z]
    have kd : Lp.RowOk m (sw m n) m (dE n) (fun i => i) x x := ⟨kindB_iff.mp z, fun _ _ => rfl⟩
    rcases h with ⟨_, _, y, f, c, pos⟩ | ⟨_, _, x', z', hx, hz, neg⟩ | ⟨x', y, f, e, _, hx, _⟩
    · exact (not_none (fun i hi => hi) kd c pos).elim
    · have : (Lp.sg m fun t => W t * z' t) = 0 := Lp.sg_zero fun t ht => by rw [hz.at_ t ht]; grind
      rw [this] at neg
      exact absurd neg Rat.lt_irrefl
    · rw [e, (row_same hx).2]
  · rw [if_neg z]
    rcases h with ⟨e, _⟩ | ⟨_, _, x', z', hx, hz, neg⟩ | ⟨x', y, f, e, _, hx, _⟩
    · exact e
    · exact absurd (kindB_iff.mpr (row_same hx).1) z
    · exact absurd (kindB_iff.mpr (row_same hx).1) z
theorem dot9 {bs : List D} {x : Nat → Rat} (ha : as.map valQ = (List.range m).map W) (hb : bs.map valQ = (List.range m).map x) : dotQ as bs = Lp.sg m fun t => W t * x t := by
  rw [dotQ_dot, ha, hb, ← dot_sum, List.zipWith_map, List.zipWith_self, sumQ_rg]
/-- no place is seen -/
theorem least_nil (ha : as.map valQ = (List.range m).map W) (hm : m < 5) (hn : n < 4) {R l r0 : D} (h : LstR m n 0 W p v R l) (hr : RefR as n r0) : l = if isN r0 then vq 0 else .str "endless" := by
  have al := vals_len ha
  have U := units_of (m := m) (n := n) hm hn
  unfold RefR rPQ at hr
  rw [al] at hr
  -- the units that stand below
  have low : isN r0 = false → ∃ c, c < 2 * min n m + (m - n) ∧ (Lp.sg m fun t => W t * uu m n c t) < 0 := fun z => by
    rcases hr with ⟨j, hj, ne, _⟩ | ⟨_, ⟨k, hk, lt, _⟩ | ⟨_, e⟩⟩
    · rw [dot9 ha (power_val hm hn hj)] at ne
      by_cases y : (Lp.sg m fun t => W t * uu m n (2 * j) t) < 0
      · exact ⟨2 * j, by omega, y⟩
      · refine ⟨2 * j + 1, by omega, ?_⟩
        rw [Lp.sg_congr (g := fun t => (-1) * (W t * uu m n (2 * j) t)) fun t ht => by rw [U.neg j hj t ht]; grind, Lp.sg_mul]
        grind
    · rw [dot9 ha (unit_val hm hn hk)] at lt
      exact ⟨_, by omega, lt⟩
    · rw [e] at z
      cases z
  have all : isN r0 = true → ∀ c, c < 2 * min n m + (m - n) → 0 ≤ Lp.sg m fun t => W t * uu m n c t := fun z c hc => by
    rcases hr with ⟨j, hj, ne, e⟩ | ⟨_, ⟨k, hk, lt, e⟩ | ⟨h2, e⟩⟩
    · rw [e] at z; cases z
    · rw [e] at z; cases z
    · rename_i h1
      by_cases y : c < 2 * min n m
      · have z0 := h1 (c / 2) (by omega)
        rw [dot9 ha (power_val hm hn (by omega))] at z0
        by_cases w : c % 2 = 0
        · rw [show c = 2 * (c / 2) by omega, z0]
          exact Rat.le_refl
        · rw [show c = 2 * (c / 2) + 1 by omega, Lp.sg_congr (g := fun t => (-1) * (W t * uu m n (2 * (c / 2)) t)) fun t ht => by rw [U.neg (c / 2) (by omega) t ht]; grind, Lp.sg_mul, z0]
          grind
      · have := h2 (c - 2 * min n m) (by omega)
        rw [dot9 ha (unit_val hm hn (by omega)), show 2 * min n m + (c - 2 * min n m) = c by omega] at this
        exact Rat.not_lt.mp this
  rcases h with ⟨_, _, y, f, c, pos⟩ | ⟨e, _, x', z', hx, hz, neg⟩ | ⟨x', y, f, e, _, hx, c, eq, _⟩
  · exact absurd pos Rat.lt_irrefl
  · cases z : isN r0 with
    | false => rw [if_neg Bool.false_ne_true]; exact e
    | true =>
      have := U.all (all z) hz.kd
      grind
  · cases z : isN r0 with
    | true =>
      rw [if_pos rfl, e, eq]
      rfl
    | false =>
      obtain ⟨cc, hc, lt⟩ := low z
      have := c.le (v := v) (x := uu m n cc) (fun i hi => absurd hi (Nat.not_lt_zero _)) ⟨fun k hk => U.kd cc hc k hk, fun i hi => absurd hi (Nat.not_lt_zero _)⟩
      have : (0 : Rat) ≤ Lp.sg m fun t => W t * uu m n cc t := this
      grind
end
end Bk
namespace Bk
open PySem L2
theorem ch9 {x0 x1 : Ent} {b : Mob} {G : Gam} {K : Int} (hb : Bx b) (h0 : 0 < K) (h9 : K < 1000000) : ∃ c b', Bx b' ∧ 0 ≤ c ∧ c < K ∧ xcallB r_w_choose 2 (xcons (xc (.int K)) xnil) (x0 :: x1 :: .ow b :: G) = some (.im (.int c), x0 :: x1 :: .ow b' :: G) := by
  obtain ⟨c, b', e, c0, c1, hb'⟩ := v_w_choose hb h0 h9
  exact ⟨c, b', hb', c0, c1, xcallB_ok rfl (xc1 rfl xnil_ok) rfl rfl e rfl⟩
theorem fun_of {out : List D} {m B : Nat} (h : ∀ d ∈ out, ∃ i : Int, d = ivD i ∧ i.natAbs ≤ B) (hl : out.length = m) : ∃ z : Nat → Int, out = rgD m (fun t => vq ((z t : Int) : Rat)) ∧ ∀ t, (z t).natAbs ≤ B := by
  obtain ⟨zs, e, hz⟩ := enc_of (en := ivD) h
  refine ⟨fun t => zs.getD t 0, ?_, fun t => ?_⟩
  · have zl : zs.length = m := by rw [← hl, e, List.length_map]
    rw [e]
    refine List.ext_getElem? fun j => ?_
    by_cases hj : j < m
    · rw [rgD_get _ hj, List.getElem?_map, List.getElem?_eq_getElem (show j < zs.length by omega), Option.map_some]
      show some (ivD zs[j]) = some (ivD (zs.getD j 0))
      rw [List.getD_eq_getElem?_getD, List.getElem?_eq_getElem (show j < zs.length by omega)]
      rfl
    · rw [List.getElem?_eq_none (by rw [List.length_map]; omega), List.getElem?_eq_none (by rw [rgD_len]; omega)]
  · show (zs.getD t 0).natAbs ≤ B
    by_cases ht : t < zs.length
    · rw [List.getD_eq_getElem?_getD, List.getElem?_eq_getElem ht]
      exact hz _ (List.getElem_mem ht)
    · rw [List.getD_eq_getElem?_getD, List.getElem?_eq_none (by omega)]
      exact Nat.zero_le _
abbrev JL (x0 x1 : Ent) (b : Mob) (x3 x4 x5 x6 x7 x8 x9 x10 x11 x12 x13 x14 x15 : Ent) : Gam := [x0, x1, .ow b, x3, x4, x5, x6, x7, x8, x9, x10, x11, x12, x13, x14, x15, .un, .un, .un, .un]
section
variable {x0 x1 x3 x5 x6 x7 x8 x9 x10 x11 x12 x13 x14 x15 : Ent} {b : Mob} {m : Nat}
theorem draws (B : Nat) (hB : B ≤ 100) (hb : Bx b) (hm : m ≤ 1000) : ∃ z b', Bx b' ∧ (∀ t, ((z : Nat → Int) t).natAbs ≤ B) ∧ xlc (xrange1 (xcons (xv 4) xnil)) (tgn 16) xtyes (xtup (xcons (xop opSub (xcallB r_w_choose 2 (xcons (xc (.int ((2 * B + 1 : Nat) : Int))) xnil)) (xc (.int (B : Int)))) (xcons (xc (.int 1)) xnil))) [16] (JL x0 x1 b x3 (.im (.int (m : Int))) x5 x6 x7 x8 x9 x10 x11 x12 x13 x14 x15) = some (.ol (rgD m fun t => vq ((z t : Int) : Rat)), JL x0 x1 b' x3 (.im (.int (m : Int))) x5 x6 x7 x8 x9 x10 x11 x12 x13 x14 x15) := by
  obtain ⟨out, G', k1, ⟨b', hb', rfl⟩, k3, k4⟩ := xlcL_ex (tg := tgn 16) (e := xtup (xcons (xop opSub (xcallB r_w_choose 2 (xcons (xc (.int ((2 * B + 1 : Nat) : Int))) xnil)) (xc (.int (B : Int)))) (xcons (xc (.int 1)) xnil))) (vs := [16]) (fun G => ∃ b, Bx b ∧ G = JL x0 x1 b x3 (.im (.int (m : Int))) x5 x6 x7 x8 x9 x10 x11 x12 x13 x14 x15) (fun d => ∃ i : Int, d = ivD i ∧ i.natAbs ≤ B) (ds := rng 0 m) (G := JL x0 x1 b x3 (.im (.int (m : Int))) x5 x6 x7 x8 x9 x10 x11 x12 x13 x14 x15) ⟨b, hb, rfl⟩ (by
    rintro d - G ⟨b, hb, rfl⟩
    obtain ⟨c, b', hb', c0, c1, e⟩ := ch9 (x0 := x0) (x1 := x1) (G := [x3, .im (.int (m : Int)), x5, x6, x7, x8, x9, x10, x11, x12, x13, x14, x15, .im d, .un, .un, .un]) (K := ((2 * B + 1 : Nat) : Int)) hb (by omega) (by omega)
    exact ⟨_, .im (ivD (c - (B : Int))), _, rfl, xtup_ok (xc1 (d := .int (c - (B : Int))) (xo2 e rfl rfl) (xc1 (d := .int 1) rfl xnil_ok)) rfl, ⟨_, rfl, by omega⟩, b', hb', rfl⟩)
  rw [rng_ln] at k4
  obtain ⟨z, rfl, hz⟩ := fun_of k3 k4
  refine ⟨z, b', hb', hz, ?_⟩
  have it : xrange1 (xcons (xv 4) xnil) (JL x0 x1 b x3 (.im (.int (m : Int))) x5 x6 x7 x8 x9 x10 x11 x12 x13 x14 x15) = some (rng 0 m, JL x0 x1 b x3 (.im (.int (m : Int))) x5 x6 x7 x8 x9 x10 x11 x12 x13 x14 x15) := by
    refine (xrange1_ok (n := (m : Int)) (xc1 rfl xnil_ok) (okR_of (by omega) (by omega))).trans ?_
    rw [Int.toNat_natCast]
  exact xlc_ok (vs := [16]) it rfl k1 (by rw [rgD_len]; exact fewl (by omega))
end
theorem xlcL_sub {tg : D → Gam → Option Gam} {t : M Bool} {e : M R} {vs : List Nat} (Inv : Gam → Prop) : ∀ {ds : List D} {G : Gam}, Inv G → (∀ d ∈ ds, ∀ G, Inv G → ∃ G1 k G2, tg d G = some G1 ∧ t G1 = some (k, G2) ∧ Inv (wipeG G2 vs) ∧ e G2 = some (.im d, G2)) →
    ∃ out G', xlcL tg t e vs ds G = some (out, G') ∧ Inv G' ∧ out.Sublist ds
  | [], G, h, _ => ⟨[], G, rfl, h, .slnil⟩
  | d :: ds, G, h, hs => by
    obtain ⟨G1, k, G2, h1, h2, h3, h4⟩ := hs d List.mem_cons_self G h
    obtain ⟨out, G', i1, i2, i3⟩ := xlcL_sub (tg := tg) (t := t) (e := e) (vs := vs) Inv h3 fun z hz => hs z (List.mem_cons_of_mem _ hz)
    cases k with
    | true =>
      refine ⟨d :: out, G', ?_, i2, i3.cons₂ _⟩
      unfold xlcL
      rw [h1]
      simp only [bd_some, h2, if_true, h4, i1, R.d]
    | false =>
      refine ⟨out, G', ?_, i2, i3.cons _⟩
      unfold xlcL
      rw [h1]
      simp only [bd_some, h2, Bool.false_eq_true, if_false, i1]
theorem sub_of {m : Nat} {one : Nat → D} {out : List D} (h : out.Sublist (rgD m one)) : ∃ (r : Nat) (p : Nat → Nat), out = rgD r (fun i => one (p i)) ∧ r ≤ m ∧ (∀ i, i < r → p i < m) ∧ (∀ i, i < r → up9 p i ≤ p i) ∧ ∀ i k, i < r → k < r → p i = p k → i = k := by
  obtain ⟨l, hl, rfl⟩ := List.sublist_map_iff.mp h
  have ord : l.Pairwise (· < ·) := List.pairwise_lt_range.sublist hl
  have get : ∀ i (hi : i < l.length), l.getD i 0 = l[i] := fun i hi => by
    rw [List.getD_eq_getElem?_getD, List.getElem?_eq_getElem hi]
    rfl
  have lt : ∀ i k, i < k → k < l.length → l.getD i 0 < l.getD k 0 := fun i k hik hk => by
    rw [get i (by omega), get k hk]
    exact List.pairwise_iff_getElem.mp ord i k (by omega) hk hik
  refine ⟨l.length, fun i => l.getD i 0, ?_, ?_, fun i hi => ?_, fun i hi => ?_, fun i k hi hk e => ?_⟩
  · refine List.ext_getElem? fun j => ?_
    by_cases hj : j < l.length
    · rw [rgD_get _ hj, List.getElem?_map, List.getElem?_eq_getElem hj]
      show some (one l[j]) = some (one (l.getD j 0))
      rw [get j hj]
    · rw [List.getElem?_eq_none (by rw [List.length_map]; omega), List.getElem?_eq_none (by rw [rgD_len]; omega)]
  · have := hl.length_le
    rwa [List.length_range] at this
  · show l.getD i 0 < m
    rw [get i hi]
    exact List.mem_range.mp (hl.subset (List.getElem_mem hi))
  · cases i with
    | zero => exact Nat.zero_le _
    | succ i => exact lt i (i + 1) (by omega) hi
  · have e : l.getD i 0 = l.getD k 0 := e
    by_cases z : i = k
    · exact z
    · rcases Nat.lt_or_gt_of_ne z with w | w
      · have := lt i k w hk; omega
      · have := lt k i w hi; omega
theorem ne_self {l : D} (h : (∃ s, l = .str s) ∨ ∃ q, l = vq q) : opNe l l = some (.im (.bl false)) := by
  rcases h with ⟨s, rfl⟩ | ⟨q, rfl⟩
  · show some (R.im (.bl (!decide (s = s)))) = _
    rw [decide_eq_true rfl]
    rfl
  · rw [ne_vq, decide_eq_true rfl]
    rfl
theorem vq_str (q : Rat) : opEq (vq q) (.str "none") = some (.im (.bl false)) := by
  have t2 : toPy (.str "none") = some (.str "none") := by rw [toPy]
  have s1 : SeqAt.shaped (pyq q) = true := rfl
  have s2 : SeqAt.shaped (.str "none") = true := by
    have : PyData.strOk "none" = true := by decide +kernel
    simp [SeqAt.shaped, PyData.canLay0, PyData.depth, this]
  have e : eqD (vq q) (.str "none") = some (PyData.eqv (pyq q) (.str "none")) := by
    show (match toPy (vq q), toPy (.str "none") with
      | some p, some q => if SeqAt.shaped p && SeqAt.shaped q then some (PyData.eqv p q) else none
      | _, _ => none) = _
    rw [show toPy (vq q) = some (pyq q) from rfl, t2]
    show (if SeqAt.shaped (pyq q) && SeqAt.shaped (.str "none") then some (PyData.eqv (pyq q) (.str "none")) else none) = _
    rw [s1, s2]
    rfl
  unfold opEq
  rw [e]
  have : PyData.eqv (pyq q) (.str "none") = false := by simp [pyq, PyData.eqv]
  rw [this]
end Bk
namespace Bk
open PySem L2
theorem mk_sv {m n r : Nat} {W : Nat → Rat} {p : Nat → Nat} {v : Nat → Rat} (m0 : 0 < m) (m5 : m < 5) (n4 : n < 4) (r4 : r ≤ 4) (hW : ∀ t, t < m → Ht (W t) 4) (hp : ∀ i, i < r → p i < m) (inj : ∀ i k, i < r → k < r → p i = p k → i = k) (hv : ∀ i, i < r → ∃ z : Int, v i = (z : Rat) ∧ z.natAbs ≤ 4) : Sv m n r (.lst (rgD m fun t => vq (W t))) (rgD m fun t => vq (W t)) W p v :=
  ⟨m0, m5, n4, r4, .inl rfl, rgD_vals _ _, rgD_ln hW, hp, inj, hv⟩
theorem str_vq_form {l : D} (h : (∃ s, l = .str s) ∨ ∃ q, l = vq q ∧ Ht q 1700) : (∃ s, l = .str s) ∨ ∃ q, l = vq q := by
  rcases h with h | ⟨q, e, _⟩
  · exact .inl h
  · exact .inr ⟨q, e⟩
theorem neg_form {l : D} (h : (∃ s, l = .str s) ∨ ∃ q, l = vq q ∧ Ht q 1700) : (∃ s, neg9 l = .str s) ∨ ∃ q, neg9 l = vq q := by
  rcases h with ⟨s, rfl⟩ | ⟨q, rfl, _⟩
  · exact .inl ⟨s, rfl⟩
  · exact .inr ⟨_, rfl⟩
theorem turn85 {x0 x1 x3 x4 x5 x6 x7 x8 x9 x10 x11 x12 x13 x14 x15 : Ent} {b : Mob} (hb : Bx b) : ∃ b' y4 y5 y6 y7 y8 y9 y10 y11 y12 y13 y14 y15, Bx b' ∧ b_law_1 (JL x0 x1 b x3 x4 x5 x6 x7 x8 x9 x10 x11 x12 x13 x14 x15) = some (.nx, JL x0 x1 b' x3 y4 y5 y6 y7 y8 y9 y10 y11 y12 y13 y14 y15) := by
  obtain ⟨c1, b1, hb1, c10, c11, e1⟩ := ch9 (x0 := x0) (x1 := x1) (G := [x3, x4, x5, x6, x7, x8, x9, x10, x11, x12, x13, x14, x15, .un, .un, .un, .un]) (K := 4) hb (by decide) (by decide)
  obtain ⟨c2, b2, hb2, c20, c21, e2⟩ := ch9 (x0 := x0) (x1 := x1) (G := [x3, x4, x5, x6, x7, x8, x9, x10, x11, x12, x13, x14, x15, .un, .un, .un, .un]) (K := 4) hb1 (by decide) (by decide)
  obtain ⟨m, hm⟩ : ∃ m : Nat, (m : Int) = 1 + c1 := ⟨(1 + c1).toNat, by omega⟩
  obtain ⟨n, hn⟩ : ∃ n : Nat, (n : Int) = c2 := ⟨c2.toNat, by omega⟩
  have m0 : 0 < m := by omega
  have m5 : m < 5 := by omega
  have n4 : n < 4 := by omega
  have s4 : (ypar 4 5 (ycons (xop opAddB (xc (.int 1)) (xcallB r_w_choose 2 (xcons (xc (.int 4)) xnil))) (ycons (xcallB r_w_choose 2 (xcons (xc (.int 4)) xnil)) ynil))) (JL x0 x1 b x3 x4 x5 x6 x7 x8 x9 x10 x11 x12 x13 x14 x15) = some (.nx, JL x0 x1 b2 x3 (.im (.int (m : Int))) (.im (.int (n : Int))) x6 x7 x8 x9 x10 x11 x12 x13 x14 x15) := by
    rw [hm, hn]
    exact ypar_ok (ycons_ok (r := .im (.int (1 + c1))) (xo2 (x := .int 1) (y := .int c1) rfl e1 rfl) (ycons_ok (b := ynil) (xs := []) e2 rfl))
  obtain ⟨wz, b3, hb3, hwz, d6⟩ := draws (x0 := x0) (x1 := x1) (x3 := x3) (x5 := .im (.int (n : Int))) (x6 := x6) (x7 := x7) (x8 := x8) (x9 := x9) (x10 := x10) (x11 := x11) (x12 := x12) (x13 := x13) (x14 := x14) (x15 := x15) (m := m) 3 (by decide) hb2 (by omega)
  obtain ⟨W, hW⟩ : ∃ W : Nat → Rat, W = fun t => ((wz t : Int) : Rat) := ⟨_, rfl⟩
  have Wh : ∀ t, t < m → Ht (W t) 4 := fun t _ => by rw [hW]; exact ht_int (hwz t) (by decide) (by decide)
  have nWh : ∀ t, t < m → Ht (-1 * W t) 4 := fun t _ => by
    have : -1 * W t = ((-(wz t) : Int) : Rat) := by rw [hW, Rat.intCast_neg]; grind
    rw [this]
    exact ht_int (B := 3) (by rw [Int.natAbs_neg]; exact hwz t) (by decide) (by decide)
  obtain ⟨as, has⟩ : ∃ as : List D, as = rgD m fun t => vq (W t) := ⟨_, rfl⟩
  have av : as.map valQ = (List.range m).map W := by rw [has]; exact rgD_vals _ _
  have aL : Ln 4 as := by rw [has]; exact rgD_ln Wh
  have s6 : (xset 6 (xlc (xrange1 (xcons (xv 4) xnil)) (tgn 16) xtyes (xtup (xcons (xop opSub (xcallB r_w_choose 2 (xcons (xc (.int 7)) xnil)) (xc (.int 3))) (xcons (xc (.int 1)) xnil))) [16])) (JL x0 x1 b2 x3 (.im (.int (m : Int))) (.im (.int (n : Int))) x6 x7 x8 x9 x10 x11 x12 x13 x14 x15) = some (.nx, JL x0 x1 b3 x3 (.im (.int (m : Int))) (.im (.int (n : Int))) (.ol as) x7 x8 x9 x10 x11 x12 x13 x14 x15) := by
    rw [has, hW]
    exact xset_e d6 rfl
  -- nothing is seen
  have sv0 : Sv m n 0 (.lst as) as W (fun i => i) (fun _ => 0) := by
    rw [has]
    exact mk_sv m0 m5 n4 (by decide) Wh (fun i h => absurd h (Nat.not_lt_zero _)) (fun i k h => absurd h (Nat.not_lt_zero _)) fun i h => absurd h (Nat.not_lt_zero _)
  obtain ⟨R0, r0, P0⟩ := v_row_paper sv0 fun i h => absurd h (Nat.not_lt_zero _)
  obtain ⟨l0, q0, L0⟩ := v_row_least sv0 r0 P0
  obtain ⟨rf, f1, f2⟩ := v_row_refuting (d := .lst as) (as := as) (n := n) (kk := 4) (.inl rfl) aL (by decide) (by rw [vals_len av]; omega) (by omega)
  have nb := v_row_never_below f1
  have z0 := least_nil av m5 n4 L0 f2
  have q0' : r_row_least [.lst as, .int (n : Int), .lst []] = some (.im l0) := q0
  have t7 : xtest (xop opNe (xcall r_row_least (xcons (xv 6) (xcons (xv 5) (xcons (xlst xnil) xnil)))) (xif (xtru (xcall r_row_never_below (xcons (xv 6) (xcons (xv 5) xnil)))) (xtup (xcons (xc (.int 0)) (xcons (xc (.int 1)) xnil))) (xc (.str "endless")))) (JL x0 x1 b3 x3 (.im (.int (m : Int))) (.im (.int (n : Int))) (.ol as) x7 x8 x9 x10 x11 x12 x13 x14 x15) = some (false, JL x0 x1 b3 x3 (.im (.int (m : Int))) (.im (.int (n : Int))) (.im (.lst as)) x7 x8 x9 x10 x11 x12 x13 x14 x15) := by
    have a1 : xcall r_row_least (xcons (xv 6) (xcons (xv 5) (xcons (xlst xnil) xnil))) (JL x0 x1 b3 x3 (.im (.int (m : Int))) (.im (.int (n : Int))) (.ol as) x7 x8 x9 x10 x11 x12 x13 x14 x15) = some (.im l0, JL x0 x1 b3 x3 (.im (.int (m : Int))) (.im (.int (n : Int))) (.im (.lst as)) x7 x8 x9 x10 x11 x12 x13 x14 x15) := xcall_ok (xc1 (d := .lst as) rfl (xc1 (d := .int (n : Int)) rfl (xcw (ds := []) (xlst_ok xnil_ok rfl) xnil_ok))) q0'
    have a2 := xtrub (xcall_ok (G := JL x0 x1 b3 x3 (.im (.int (m : Int))) (.im (.int (n : Int))) (.im (.lst as)) x7 x8 x9 x10 x11 x12 x13 x14 x15) (a := xcons (xv 6) (xcons (xv 5) xnil)) (xc1 (d := .lst as) rfl (xc1 (d := .int (n : Int)) rfl xnil_ok)) nb)
    have a3 : xif (xtru (xcall r_row_never_below (xcons (xv 6) (xcons (xv 5) xnil)))) (xtup (xcons (xc (.int 0)) (xcons (xc (.int 1)) xnil))) (xc (.str "endless")) (JL x0 x1 b3 x3 (.im (.int (m : Int))) (.im (.int (n : Int))) (.im (.lst as)) x7 x8 x9 x10 x11 x12 x13 x14 x15) = some (.im l0, JL x0 x1 b3 x3 (.im (.int (m : Int))) (.im (.int (n : Int))) (.im (.lst as)) x7 x8 x9 x10 x11 x12 x13 x14 x15) := by
      refine (xif_e a2).trans ?_
      rw [z0]
      cases isN rf with
      | true => rfl
      | false => rfl
    exact xtest_ok (xo2 a1 a3 (ne_self (str_vq_form L0.form)))
  -- the row
  obtain ⟨rz, b4, hb4, hrz, d7⟩ := draws (x0 := x0) (x1 := x1) (x3 := x3) (x5 := .im (.int (n : Int))) (x6 := .im (.lst as)) (x7 := x7) (x8 := x8) (x9 := x9) (x10 := x10) (x11 := x11) (x12 := x12) (x13 := x13) (x14 := x14) (x15 := x15) (m := m) 4 (by decide) hb3 (by omega)
  obtain ⟨X, hX⟩ : ∃ X : Nat → Rat, X = fun t => ((rz t : Int) : Rat) := ⟨_, rfl⟩
  have Xi : ∀ t, ∃ z : Int, X t = (z : Rat) ∧ z.natAbs ≤ 4 := fun t => ⟨rz t, by rw [hX], hrz t⟩
  have Xh : ∀ t, t < m → Ht (X t) 4 := fun t _ => by rw [hX]; exact ht_int (hrz t) (by decide) (by decide)
  obtain ⟨rs, hrs⟩ : ∃ rs : List D, rs = rgD m fun t => vq (X t) := ⟨_, rfl⟩
  have rv : rs.map valQ = (List.range m).map X := by rw [hrs]; exact rgD_vals _ _
  have rL : Ln 4 rs := by rw [hrs]; exact rgD_ln Xh
  have s7 : (xset 7 (xlc (xrange1 (xcons (xv 4) xnil)) (tgn 16) xtyes (xtup (xcons (xop opSub (xcallB r_w_choose 2 (xcons (xc (.int 9)) xnil)) (xc (.int 4))) (xcons (xc (.int 1)) xnil))) [16])) (JL x0 x1 b3 x3 (.im (.int (m : Int))) (.im (.int (n : Int))) (.im (.lst as)) x7 x8 x9 x10 x11 x12 x13 x14 x15) = some (.nx, JL x0 x1 b4 x3 (.im (.int (m : Int))) (.im (.int (n : Int))) (.im (.lst as)) (.ol rs) x8 x9 x10 x11 x12 x13 x14 x15) := by
    rw [hrs, hX]
    exact xset_e d7 rfl
  obtain ⟨ss, hss⟩ : ∃ ss : List D, ss = rgD m fun (i : Nat) => .tup [.int (i : Int), vq (X i)] := ⟨_, rfl⟩
  have s8 : (xset 8 (xlc (xenumA (xcons (xv 7) xnil)) (tgt [(tgn 16), (tgn 17)]) xtyes (xtup (xcons (xv 16) (xcons (xv 17) xnil))) [16, 17])) (JL x0 x1 b4 x3 (.im (.int (m : Int))) (.im (.int (n : Int))) (.im (.lst as)) (.ol rs) x8 x9 x10 x11 x12 x13 x14 x15) = some (.nx, JL x0 x1 b4 x3 (.im (.int (m : Int))) (.im (.int (n : Int))) (.im (.lst as)) (.im (.lst rs)) (.ol ss) x9 x10 x11 x12 x13 x14 x15) := by
    refine xset_e (r := .ol ss) (xlc_un (G := JL x0 x1 b4 x3 (.im (.int (m : Int))) (.im (.int (n : Int))) (.im (.lst as)) (.im (.lst rs)) x8 x9 x10 x11 x12 x13 x14 x15) (ds := rgD m fun (i : Nat) => .tup [.int (i : Int), vq (X i)]) ?_ rfl rfl rfl ?_ (by rw [hss, rgD_len]; omega)) rfl
    · unfold xenumA
      rw [xc1 (d := .lst rs) rfl xnil_ok]
      show some (enumD 0 rs, _) = _
      rw [hrs, enumD_rg]
      rfl
    · rw [hss]
      unfold rgD
      refine xlcL_en (fun (i : Nat) => .tup [.int (i : Int), vq (X i)]) fun i hi => ?_
      exact ⟨_, _, _, rfl, xtup_ok (xc1 (d := .int (i : Int)) rfl (xc1 (d := vq (X i)) rfl xnil_ok)) rfl, rfl, rfl⟩
  have kd := v_is_kind (d := .lst rs) (as := rs) (x := X) (m := m) (n := n) (K := 4) rfl rv rL (by omega) (by omega) (by
    have h1 := kb_mono 4 (show n ≤ 3 by omega)
    have h2 : kb 4 3 = 39 := rfl
    omega)
  obtain ⟨tx, htx⟩ : ∃ tx, tx = Lp.sg m fun t => W t * X t := ⟨_, rfl⟩
  have txh : Ht tx 40 := by rw [htx]; exact (sg_ht fun t ht => (Wh t ht).mul (Xh t ht)).up (by have := Nat.mul_le_mul_right (4 + 4 + 1) (show m ≤ 4 by omega); omega)
  have tl := told9 (d := .lst as) (e := .lst rs) rfl rfl av rv aL rL (by omega) (by omega)
  rw [← htx] at tl
  obtain ⟨du, hdu⟩ : ∃ du, du = if kindB m n X then vq tx else .str "none" := ⟨_, rfl⟩
  have duf : (∃ s, du = .str s) ∨ ∃ q, du = vq q := by
    rw [hdu]
    split
    · exact .inr ⟨_, rfl⟩
    · exact .inl ⟨_, rfl⟩
  have ckd : ∀ (b : Mob) (x8 x9 x10 x11 x12 x13 x14 x15 : Ent), xtru (xcall r_is_kind (xcons (xv 7) (xcons (xv 5) xnil))) (JL x0 x1 b x3 (.im (.int (m : Int))) (.im (.int (n : Int))) (.im (.lst as)) (.im (.lst rs)) x8 x9 x10 x11 x12 x13 x14 x15) = some (kindB m n X, JL x0 x1 b x3 (.im (.int (m : Int))) (.im (.int (n : Int))) (.im (.lst as)) (.im (.lst rs)) x8 x9 x10 x11 x12 x13 x14 x15) := fun b x8 x9 x10 x11 x12 x13 x14 x15 => xtrub (xcall_ok (xc1 (d := .lst rs) rfl (xc1 (d := .int (n : Int)) rfl xnil_ok)) kd)
  have ctl : ∀ (b : Mob) (x8 x9 x10 x11 x12 x13 x14 x15 : Ent), xcall r_row_told (xcons (xv 6) (xcons (xv 7) xnil)) (JL x0 x1 b x3 (.im (.int (m : Int))) (.im (.int (n : Int))) (.im (.lst as)) (.im (.lst rs)) x8 x9 x10 x11 x12 x13 x14 x15) = some (.im (vq tx), JL x0 x1 b x3 (.im (.int (m : Int))) (.im (.int (n : Int))) (.im (.lst as)) (.im (.lst rs)) x8 x9 x10 x11 x12 x13 x14 x15) := fun b x8 x9 x10 x11 x12 x13 x14 x15 => xcall_ok (xc1 (d := .lst as) rfl (xc1 (d := .lst rs) rfl xnil_ok)) tl
  have s9 : (xset 9 (xif (xtru (xcall r_is_kind (xcons (xv 7) (xcons (xv 5) xnil)))) (xcall r_row_told (xcons (xv 6) (xcons (xv 7) xnil))) (xc (.str "none")))) (JL x0 x1 b4 x3 (.im (.int (m : Int))) (.im (.int (n : Int))) (.im (.lst as)) (.im (.lst rs)) (.ol ss) x9 x10 x11 x12 x13 x14 x15) = some (.nx, JL x0 x1 b4 x3 (.im (.int (m : Int))) (.im (.int (n : Int))) (.im (.lst as)) (.im (.lst rs)) (.ol ss) (.im du) x10 x11 x12 x13 x14 x15) := by
    refine xset_e (r := .im du) (G1 := JL x0 x1 b4 x3 (.im (.int (m : Int))) (.im (.int (n : Int))) (.im (.lst as)) (.im (.lst rs)) (.ol ss) x9 x10 x11 x12 x13 x14 x15) ((xif_e (ckd b4 (.ol ss) x9 x10 x11 x12 x13 x14 x15)).trans ?_) rfl
    rw [hdu]
    cases kindB m n X with
    | true => exact ctl b4 (.ol ss) x9 x10 x11 x12 x13 x14 x15
    | false => rfl
  -- all is seen
  have svA : Sv m n m (.lst as) as W (fun i => i) X := by
    rw [has]
    exact mk_sv m0 m5 n4 (by omega) Wh (fun i h => h) (fun i k _ _ e => e) fun i _ => Xi i
  have upA : ∀ i, i < m → up9 (fun i => i) i ≤ i := fun i _ => by cases i <;> exact Nat.le_refl _
  obtain ⟨RA, rA, PA⟩ := v_row_paper svA upA
  obtain ⟨lA, qA, LA⟩ := v_row_least svA rA PA
  have hSA : SD m (fun i => i) X = .lst ss := by rw [hss]; rfl
  rw [hSA] at qA
  have eA : lA = du := by rw [hdu, least_all LA, ← htx]
  have svN : Sv m n m (.lst (rgD m fun t => vq (-1 * W t))) (rgD m fun t => vq (-1 * W t)) (fun t => -1 * W t) (fun i => i) X := mk_sv m0 m5 n4 (by omega) nWh (fun i h => h) (fun i k _ _ e => e) fun i _ => Xi i
  obtain ⟨RN, rN, PN⟩ := v_row_paper svN upA
  obtain ⟨lN, qN, LN⟩ := v_row_least svN rN PN
  rw [hSA] at qN
  have gA := v_row_greatest (d := .lst as) (as := as) (W := W) (m := m) (n := n) (.inl rfl) av aL (by omega) qN LN.form
  have eN : neg9 lN = du := by
    rw [hdu, least_all LN]
    cases kindB m n X with
    | true =>
      rw [if_pos rfl, if_pos rfl]
      show vq (-1 * valQ (vq _)) = _
      rw [valQ_vq, htx, ← Lp.sg_mul]
      refine congrArg vq ?_
      exact Lp.sg_congr fun t _ => by grind
    | false => rfl
  have t8 : xtest (xop opNe (xcall r_row_least (xcons (xv 6) (xcons (xv 5) (xcons (xv 8) xnil)))) (xv 9)) (JL x0 x1 b4 x3 (.im (.int (m : Int))) (.im (.int (n : Int))) (.im (.lst as)) (.im (.lst rs)) (.ol ss) (.im du) x10 x11 x12 x13 x14 x15) = some (false, JL x0 x1 b4 x3 (.im (.int (m : Int))) (.im (.int (n : Int))) (.im (.lst as)) (.im (.lst rs)) (.im (.lst ss)) (.im du) x10 x11 x12 x13 x14 x15) := by
    rw [eA] at qA
    exact xtest_ok (xo2 (x := du) (y := du) (xcall_ok (xc1 (d := .lst as) rfl (xc1 (d := .int (n : Int)) rfl (xc1 (d := .lst ss) rfl xnil_ok))) qA) rfl (ne_self duf))
  have t9 : xtest (xop opNe (xcall r_row_greatest (xcons (xv 6) (xcons (xv 5) (xcons (xv 8) xnil)))) (xv 9)) (JL x0 x1 b4 x3 (.im (.int (m : Int))) (.im (.int (n : Int))) (.im (.lst as)) (.im (.lst rs)) (.im (.lst ss)) (.im du) x10 x11 x12 x13 x14 x15) = some (false, JL x0 x1 b4 x3 (.im (.int (m : Int))) (.im (.int (n : Int))) (.im (.lst as)) (.im (.lst rs)) (.im (.lst ss)) (.im du) x10 x11 x12 x13 x14 x15) := by
    rw [eN] at gA
    exact xtest_ok (xo2 (x := du) (y := du) (xcall_ok (xc1 (d := .lst as) rfl (xc1 (d := .int (n : Int)) rfl (xc1 (d := .lst ss) rfl xnil_ok))) gA) rfl (ne_self duf))
  -- some are seen
  obtain ⟨out, G10, k1, ⟨b5, hb5, rfl⟩, k3⟩ := xlcL_sub (tg := tgn 18) (t := xtest (xop opEq (xcallB r_w_choose 2 (xcons (xc (.int 2)) xnil)) (xc (.int 0)))) (e := xv 18) (vs := [18]) (fun G => ∃ b, Bx b ∧ G = JL x0 x1 b x3 (.im (.int (m : Int))) (.im (.int (n : Int))) (.im (.lst as)) (.im (.lst rs)) (.im (.lst ss)) (.im du) x10 x11 x12 x13 x14 x15) (ds := ss) (G := JL x0 x1 b4 x3 (.im (.int (m : Int))) (.im (.int (n : Int))) (.im (.lst as)) (.im (.lst rs)) (.im (.lst ss)) (.im du) x10 x11 x12 x13 x14 x15) ⟨b4, hb4, rfl⟩ (by
    rintro d - G ⟨b, hb, rfl⟩
    obtain ⟨c, b', hb', c0, c1, e⟩ := ch9 (x0 := x0) (x1 := x1) (G := [x3, .im (.int (m : Int)), .im (.int (n : Int)), .im (.lst as), .im (.lst rs), .im (.lst ss), .im du, x10, x11, x12, x13, x14, x15, .un, .un, .im d, .un]) (K := 2) hb (by decide) (by decide)
    exact ⟨_, decide (c = 0), _, rfl, xtest_ok (xo2 (x := .int c) (y := .int 0) e rfl rfl), ⟨b', hb', rfl⟩, rfl⟩)
  rw [hss] at k3
  obtain ⟨r, p, ho, rm, hp, hu, inj⟩ := sub_of k3
  have hSO : SD r p (fun i => X (p i)) = .lst out := by rw [ho]; rfl
  have ol : out.length = r := by rw [ho, rgD_len]
  have s10 : (xset 10 (xlc (xseqI (xv 8)) (tgn 18) (xtest (xop opEq (xcallB r_w_choose 2 (xcons (xc (.int 2)) xnil)) (xc (.int 0)))) (xv 18) [18])) (JL x0 x1 b4 x3 (.im (.int (m : Int))) (.im (.int (n : Int))) (.im (.lst as)) (.im (.lst rs)) (.im (.lst ss)) (.im du) x10 x11 x12 x13 x14 x15) = some (.nx, JL x0 x1 b5 x3 (.im (.int (m : Int))) (.im (.int (n : Int))) (.im (.lst as)) (.im (.lst rs)) (.im (.lst ss)) (.im du) (.ol out) x11 x12 x13 x14 x15) :=
    xset_e (xlc_ok (vs := [18]) (xseqI_ok (d := .lst ss) rfl rfl) rfl k1 (by rw [ol]; exact fewl (by omega))) rfl
  have s11 : (xset 11 (xlc (xseqI (xv 6)) (tgn 19) xtyes (xcall r_w_minus (xcons (xtup (xcons (xc (.int 0)) (xcons (xc (.int 1)) xnil))) (xcons (xv 19) xnil))) [19])) (JL x0 x1 b5 x3 (.im (.int (m : Int))) (.im (.int (n : Int))) (.im (.lst as)) (.im (.lst rs)) (.im (.lst ss)) (.im du) (.ol out) x11 x12 x13 x14 x15) = some (.nx, JL x0 x1 b5 x3 (.im (.int (m : Int))) (.im (.int (n : Int))) (.im (.lst as)) (.im (.lst rs)) (.im (.lst ss)) (.im du) (.ol out) (.ol (rgD m fun t => vq (-1 * W t))) x12 x13 x14 x15) := by
    refine xset_e (xlc_un (ds := as) (xseqI_ok (d := .lst as) rfl rfl) rfl rfl rfl ?_ (Nat.le_trans (Nat.le_of_eq (rgD_len m _)) (by omega))) rfl
    rw [has]
    unfold rgD
    refine xlcL_en (fun t => vq (-1 * W t)) fun t ht => ?_
    have ht := List.mem_range.mp ht
    refine ⟨_, .im (vq (0 - W t)), _, rfl, xcall_ok (xc1 (d := vq 0) (xtup_ok (xc1 rfl (xc1 rfl xnil_ok)) rfl) (xc1 (d := vq (W t)) rfl xnil_ok)) (v_w_minus ht0 (Wh t ht) (by omega)), ?_, rfl⟩
    show vq (0 - W t) = vq (-1 * W t)
    refine congrArg vq ?_
    grind
  have svS : Sv m n r (.lst as) as W p (fun i => X (p i)) := by
    rw [has]
    exact mk_sv m0 m5 n4 (by omega) Wh hp inj fun i _ => Xi (p i)
  obtain ⟨RS, rS, PS⟩ := v_row_paper svS hu
  obtain ⟨lS, qS, LS⟩ := v_row_least svS rS PS
  have hold := v_row_paper_holds svS rfl hu PS
  have svM : Sv m n r (.lst (rgD m fun t => vq (-1 * W t))) (rgD m fun t => vq (-1 * W t)) (fun t => -1 * W t) p (fun i => X (p i)) := mk_sv m0 m5 n4 (by omega) nWh hp inj fun i _ => Xi (p i)
  obtain ⟨RM, rM, PM⟩ := v_row_paper svM hu
  obtain ⟨lM, qM, LM⟩ := v_row_least svM rM PM
  rw [hSO] at rS qS hold rM qM
  have gS := v_row_greatest (d := .lst as) (as := as) (W := W) (m := m) (n := n) (.inl rfl) av aL (by omega) qM LM.form
  have row : kindB m n X = true → Lp.RowOk m (sw m n) r (dE n) p (fun i => X (p i)) X := fun z => ⟨kindB_iff.mp z, fun _ _ => rfl⟩
  have s12 : (ypar 12 13 (ycons (xcall r_row_least (xcons (xv 6) (xcons (xv 5) (xcons (xv 10) xnil)))) (ycons (xcall r_row_greatest (xcons (xv 6) (xcons (xv 5) (xcons (xv 10) xnil)))) ynil))) (JL x0 x1 b5 x3 (.im (.int (m : Int))) (.im (.int (n : Int))) (.im (.lst as)) (.im (.lst rs)) (.im (.lst ss)) (.im du) (.ol out) (.ol (rgD m fun t => vq (-1 * W t))) x12 x13 x14 x15) = some (.nx, JL x0 x1 b5 x3 (.im (.int (m : Int))) (.im (.int (n : Int))) (.im (.lst as)) (.im (.lst rs)) (.im (.lst ss)) (.im du) (.im (.lst out)) (.ol (rgD m fun t => vq (-1 * W t))) (.im lS) (.im (neg9 lM)) x14 x15) := by
    have a1 : xcall r_row_least (xcons (xv 6) (xcons (xv 5) (xcons (xv 10) xnil))) (JL x0 x1 b5 x3 (.im (.int (m : Int))) (.im (.int (n : Int))) (.im (.lst as)) (.im (.lst rs)) (.im (.lst ss)) (.im du) (.ol out) (.ol (rgD m fun t => vq (-1 * W t))) x12 x13 x14 x15) = some (.im lS, JL x0 x1 b5 x3 (.im (.int (m : Int))) (.im (.int (n : Int))) (.im (.lst as)) (.im (.lst rs)) (.im (.lst ss)) (.im du) (.im (.lst out)) (.ol (rgD m fun t => vq (-1 * W t))) x12 x13 x14 x15) := xcall_ok (xc1 (d := .lst as) rfl (xc1 (d := .int (n : Int)) rfl (xc1 (d := .lst out) rfl xnil_ok))) qS
    have a2 : xcall r_row_greatest (xcons (xv 6) (xcons (xv 5) (xcons (xv 10) xnil))) (JL x0 x1 b5 x3 (.im (.int (m : Int))) (.im (.int (n : Int))) (.im (.lst as)) (.im (.lst rs)) (.im (.lst ss)) (.im du) (.im (.lst out)) (.ol (rgD m fun t => vq (-1 * W t))) x12 x13 x14 x15) = some (.im (neg9 lM), JL x0 x1 b5 x3 (.im (.int (m : Int))) (.im (.int (n : Int))) (.im (.lst as)) (.im (.lst rs)) (.im (.lst ss)) (.im du) (.im (.lst out)) (.ol (rgD m fun t => vq (-1 * W t))) x12 x13 x14 x15) := xcall_ok (xc1 (d := .lst as) rfl (xc1 (d := .int (n : Int)) rfl (xc1 (d := .lst out) rfl xnil_ok))) gS
    exact ypar_ok (ycons_ok a1 (ycons_ok (b := ynil) (xs := []) a2 rfl))
  have s14 : (xset 14 (xcall r_row_least (xcons (xv 11) (xcons (xv 5) (xcons (xv 10) xnil))))) (JL x0 x1 b5 x3 (.im (.int (m : Int))) (.im (.int (n : Int))) (.im (.lst as)) (.im (.lst rs)) (.im (.lst ss)) (.im du) (.im (.lst out)) (.ol (rgD m fun t => vq (-1 * W t))) (.im lS) (.im (neg9 lM)) x14 x15) = some (.nx, JL x0 x1 b5 x3 (.im (.int (m : Int))) (.im (.int (n : Int))) (.im (.lst as)) (.im (.lst rs)) (.im (.lst ss)) (.im du) (.im (.lst out)) (.im (.lst (rgD m fun t => vq (-1 * W t)))) (.im lS) (.im (neg9 lM)) (.im lM) x15) :=
    xset_e (r := .im lM) (xcall_ok (xc1 (d := .lst (rgD m fun t => vq (-1 * W t))) rfl (xc1 (d := .int (n : Int)) rfl (xc1 (d := .lst out) rfl xnil_ok))) qM) rfl
  obtain ⟨ls, hls⟩ : ∃ ls : D, ls = .lst (rgD m fun t => vq (-1 * W t)) := ⟨_, rfl⟩
  rw [← hls] at s14
  have t15 : xtest (xop opNe (xv 13) (xif (xtru (xcb cbIsi (xcons (xv 14) (xcons (xc (.ty "str")) xnil)))) (xv 14) (xcall r_w_minus (xcons (xtup (xcons (xc (.int 0)) (xcons (xc (.int 1)) xnil))) (xcons (xv 14) xnil))))) (JL x0 x1 b5 x3 (.im (.int (m : Int))) (.im (.int (n : Int))) (.im (.lst as)) (.im (.lst rs)) (.im (.lst ss)) (.im du) (.im (.lst out)) (.im ls) (.im lS) (.im (neg9 lM)) (.im lM) x15) = some (false, JL x0 x1 b5 x3 (.im (.int (m : Int))) (.im (.int (n : Int))) (.im (.lst as)) (.im (.lst rs)) (.im (.lst ss)) (.im du) (.im (.lst out)) (.im ls) (.im lS) (.im (neg9 lM)) (.im lM) x15) := by
    refine xtest_ok (xo2 (x := neg9 lM) (y := neg9 lM) rfl ?_ (ne_self (neg_form LM.form)))
    rcases LM.form with ⟨s, rfl⟩ | ⟨q, rfl, hq⟩
    · exact (xif_e (k := true) (by rfl)).trans rfl
    · refine (xif_e (k := false) (by rfl)).trans ?_
      have mi := v_w_minus ht0 hq (by omega)
      have e : neg9 (vq q) = vq (0 - q) := by
        show vq (-1 * valQ (vq q)) = _
        rw [valQ_vq]
        refine congrArg vq ?_
        grind
      rw [e]
      exact xcall_ok (xc1 (d := vq 0) (xtup_ok (xc1 rfl (xc1 rfl xnil_ok)) rfl) (xc1 (d := vq q) rfl xnil_ok)) mi
  have nnS : kindB m n X = true → opEq lS (.str "none") = some (.im (.bl false)) := fun z => by
    rcases LS with ⟨_, _, y, f, c, pos⟩ | ⟨e, _⟩ | ⟨x', y, f, e, _⟩
    · exact (not_none hp (row z) c pos).elim
    · rw [e]; rfl
    · rw [e]; exact vq_str _
  have nnM : kindB m n X = true → opEq (neg9 lM) (.str "none") = some (.im (.bl false)) := fun z => by
    rcases LM with ⟨_, _, y, f, c, pos⟩ | ⟨e, _⟩ | ⟨x', y, f, e, _⟩
    · exact (not_none hp (row z) c pos).elim
    · rw [e]; rfl
    · rw [e]; exact vq_str _
  let GF : Ent → Gam := fun x15 => JL x0 x1 b5 x3 (.im (.int (m : Int))) (.im (.int (n : Int))) (.im (.lst as)) (.im (.lst rs)) (.im (.lst ss)) (.im du) (.im (.lst out)) (.im ls) (.im lS) (.im (neg9 lM)) (.im lM) x15
  have ck : ∀ x15 : Ent, xtru (xcall r_is_kind (xcons (xv 7) (xcons (xv 5) xnil))) (GF x15) = some (kindB m n X, GF x15) := fun x15 => ckd b5 _ _ _ _ _ _ _ _
  have isS : ∀ (x15 : Ent) (k : Bool), cbIsi [lS, .ty "str"] = some (.im (.bl k)) → xtru (xcb cbIsi (xcons (xv 12) (xcons (xc (.ty "str")) xnil))) (GF x15) = some (k, GF x15) := fun x15 k h => xtrub (xcb_ok (xc1 (d := lS) rfl (xc1 rfl xnil_ok)) h)
  have t16 : xtand (xtru (xcall r_is_kind (xcons (xv 7) (xcons (xv 5) xnil)))) (xtor (xtest (xop opEq (xv 12) (xc (.str "none")))) (xtest (xop opEq (xv 13) (xc (.str "none"))))) (GF x15) = some (false, GF x15) := by
    have c := ck x15
    cases z : kindB m n X with
    | false =>
      rw [z] at c
      exact xtand_f c
    | true =>
      rw [z] at c
      refine (xtand_t c).trans ?_
      exact (xtor_f (xtest_ok (xo2 (x := lS) (y := .str "none") rfl rfl (nnS z)))).trans (xtest_ok (xo2 (x := neg9 lM) (y := .str "none") rfl rfl (nnM z)))
  have t17 : xtand (xtru (xcall r_is_kind (xcons (xv 7) (xcons (xv 5) xnil)))) (xtand (xtnot (xtru (xcb cbIsi (xcons (xv 12) (xcons (xc (.ty "str")) xnil))))) (xtru (xcall r_w_is_less (xcons (xcall r_row_told (xcons (xv 6) (xcons (xv 7) xnil))) (xcons (xv 12) xnil))))) (GF x15) = some (false, GF x15) := by
    have c := ck x15
    cases z : kindB m n X with
    | false =>
      rw [z] at c
      exact xtand_f c
    | true =>
      rw [z] at c
      refine (xtand_t c).trans ?_
      rcases LS with ⟨e, _⟩ | ⟨e, _⟩ | ⟨x', y, f, e, _, hx, c9, eq, sz⟩
      · exact xtand_f (xtnot_ok (k := true) (isS x15 true (by rw [e]; rfl)))
      · exact xtand_f (xtnot_ok (k := true) (isS x15 true (by rw [e]; rfl)))
      · have le := c9.le hp (row z)
        rw [← eq, ← htx] at le
        have il := v_w_is_less txh sz (by omega)
        rw [decide_eq_false (Rat.not_lt.mpr le), ← e] at il
        have n1 := xtnot_ok (k := false) (isS x15 false (by rw [e]; rfl))
        exact (xtand_t n1).trans (xtrub (xcall_ok (xc1 (ctl b5 _ _ _ _ _ _ _ _) (xc1 (d := lS) rfl xnil_ok)) il))
  have s18 : (xset 15 (xcall r_row_paper (xcons (xv 6) (xcons (xv 5) (xcons (xv 10) xnil))))) (GF x15) = some (.nx, GF (.im RS)) := xset_e (r := .im RS) (xcall_ok (xc1 (d := .lst as) rfl (xc1 (d := .int (n : Int)) rfl (xc1 (d := .lst out) rfl xnil_ok))) rS) rfl
  have t19 : xtest (xop opIsNot (xcall r_row_paper_holds (xcons (xv 6) (xcons (xv 5) (xcons (xv 10) (xcons (xv 15) xnil))))) (xc (.bl true))) (GF (.im RS)) = some (false, GF (.im RS)) := xtest_ok (xo2 (x := .bl true) (y := .bl true) (xcall_ok (xc1 (d := .lst as) rfl (xc1 (d := .int (n : Int)) rfl (xc1 (d := .lst out) rfl (xc1 (d := RS) rfl xnil_ok)))) hold) rfl rfl)
  have t20 : xtest (xop opNe (xop opIx (xv 15) (xc (.int 0))) (xif (xtru (xcb cbIsi (xcons (xv 12) (xcons (xc (.ty "str")) xnil)))) (xv 12) (xc (.str "least")))) (GF (.im RS)) = some (false, GF (.im RS)) := by
    have i0 : ∀ s : PySem.Str, opIx RS (.int 0) = some (.im (.str s)) → (xop opIx (xv 15) (xc (.int 0))) (GF (.im RS)) = some (.im (.str s), GF (.im RS)) := fun s e => xo2 (x := RS) (y := .int 0) rfl rfl e
    rcases LS with ⟨e, e0, _⟩ | ⟨e, e0, _⟩ | ⟨x', y, f, e, e0, _⟩
    · exact xtest_ok (xo2 (i0 _ e0) (y := lS) ((xif_e (isS _ true (by rw [e]; rfl))).trans rfl) (by rw [e]; exact ne_self (.inl ⟨_, rfl⟩)))
    · exact xtest_ok (xo2 (i0 _ e0) (y := lS) ((xif_e (isS _ true (by rw [e]; rfl))).trans rfl) (by rw [e]; exact ne_self (.inl ⟨_, rfl⟩)))
    · exact xtest_ok (xo2 (i0 _ e0) (y := .str "least") ((xif_e (isS _ false (by rw [e]; rfl))).trans rfl) (ne_self (.inl ⟨_, rfl⟩)))
  refine ⟨b5, _, _, _, _, _, _, _, _, _, _, _, _, hb5, (?_ : _ = some (Fl.nx, GF (.im RS)))⟩
  unfold b_law_1
  rw [xseq_nx s4, xseq_nx s6, xseq_nx ((xifs_ok t7).trans rfl), xseq_nx s7, xseq_nx s8, xseq_nx s9]
  rw [xseq_nx ((xifs_ok t8).trans rfl), xseq_nx ((xifs_ok t9).trans rfl), xseq_nx s10, xseq_nx s11, xseq_nx s12, xseq_nx s14]
  rw [xseq_nx ((xifs_ok t15).trans rfl)]
  refine (xseq_nx ((xifs_ok t16).trans rfl)).trans ?_
  refine (xseq_nx ((xifs_ok t17).trans rfl)).trans ?_
  rw [xseq_nx s18]
  refine (xseq_nx ((xifs_ok t19).trans rfl)).trans ?_
  exact (xifs_ok t20).trans rfl
theorem law_true : ∀ ns : List Int, ns.length ≤ 63 → r_law [.frz (ns.map .int)] = some (.im (.bl true)) := fun ns hn => by
  have hlen : cbLen [.frz (ns.map .int)] = some (.im (.int ns.length)) := by
    show some (R.im (.int (((ns.map D.int).length : Nat) : Int))) = _
    rw [List.length_map]
  have e1 : xcb cbMax2 (xcons (xc (.int 2)) (xcons (xcb cbMin2 (xcons (xc (.int 3)) (xcons (xcb cbLen (xcons (xv 0) xnil)) xnil))) xnil)) [.im (.frz (ns.map .int)), .un, .un, .un, .un, .un, .un, .un, .un, .un, .un, .un, .un, .un, .un, .un, .un, .un, .un, .un] = some (.im (.int (if (if (ns.length : Int) < 3 then (ns.length : Int) else 3) > 2 then (if (ns.length : Int) < 3 then (ns.length : Int) else 3) else 2)), [.im (.frz (ns.map .int)), .un, .un, .un, .un, .un, .un, .un, .un, .un, .un, .un, .un, .un, .un, .un, .un, .un, .un, .un]) :=
    xcb_ok (xc1 rfl (xc1 (xcb_ok (xc1 rfl (xc1 (xcb_ok (xc1 rfl xnil_ok) hlen) xnil_ok)) rfl) xnil_ok)) rfl
  generalize hc : (if (if (ns.length : Int) < 3 then (ns.length : Int) else 3) > 2 then (if (ns.length : Int) < 3 then (ns.length : Int) else 3) else 2) = c at e1
  have c9 : 0 < c ∧ c ≤ 3 := by
    rw [← hc]
    split <;> (try split at *) <;> omega
  obtain ⟨G', g1, x1, x2, x3, x4, x5, x6, x7, x8, x9, x10, x11, x12, x13, x14, x15, rfl⟩ := xforL_inv (tg := tgn 1) (b := b_law_2)
    (fun G => ∃ x1 x2 x3 x4 x5 x6 x7 x8 x9 x10 x11 x12 x13 x14 x15, G = [Ent.im (.frz (ns.map .int)), x1, x2, x3, x4, x5, x6, x7, x8, x9, x10, x11, x12, x13, x14, x15, .un, .un, .un, .un]) (ds := rng 0 c.toNat) (G := [.im (.frz (ns.map .int)), .un, .un, .un, .un, .un, .un, .un, .un, .un, .un, .un, .un, .un, .un, .un, .un, .un, .un, .un]) ⟨_, _, _, _, _, _, _, _, _, _, _, _, _, _, _, rfl⟩ (fun e he G hG => by
    obtain ⟨x1, x2, x3, x4, x5, x6, x7, x8, x9, x10, x11, x12, x13, x14, x15, rfl⟩ := hG
    obtain ⟨k, hk, rfl⟩ := rng_mem he
    obtain ⟨bs, s1, s2⟩ := v_w_seed (ns := ns) (k := 0 + (k : Int)) (by omega) (by omega)
    obtain ⟨G2, g2, b2, y3, y4, y5, y6, y7, y8, y9, y10, y11, y12, y13, y14, y15, hb2, rfl⟩ := xforL_inv (tg := tgn 3) (b := b_law_1) (fun G => ∃ bs y3 y4 y5 y6 y7 y8 y9 y10 y11 y12 y13 y14 y15, Bx bs ∧ G = JL (Ent.im (.frz (ns.map .int))) (.im (.int (0 + (k : Int)))) bs y3 y4 y5 y6 y7 y8 y9 y10 y11 y12 y13 y14 y15) (ds := rng 0 4)
      (G := JL (Ent.im (.frz (ns.map .int))) (.im (.int (0 + (k : Int)))) bs x3 x4 x5 x6 x7 x8 x9 x10 x11 x12 x13 x14 x15) ⟨bs, _, _, _, _, _, _, _, _, _, _, _, _, _, s2, rfl⟩ (fun d hd G hG => by
        obtain ⟨b, y3, y4, y5, y6, y7, y8, y9, y10, y11, y12, y13, y14, y15, hb, rfl⟩ := hG
        obtain ⟨b', z4, z5, z6, z7, z8, z9, z10, z11, z12, z13, z14, z15, hb', e⟩ := turn85 (x0 := .im (.frz (ns.map .int))) (x1 := .im (.int (0 + (k : Int)))) (x3 := .im d) (x4 := y4) (x5 := y5) (x6 := y6) (x7 := y7) (x8 := y8) (x9 := y9) (x10 := y10) (x11 := y11) (x12 := y12) (x13 := y13) (x14 := y14) (x15 := y15) hb
        exact ⟨_, _, rfl, .inl e, b', _, z4, z5, z6, z7, z8, z9, z10, z11, z12, z13, z14, z15, hb', rfl⟩)
    refine ⟨_, JL (Ent.im (.frz (ns.map .int))) (.im (.int (0 + (k : Int)))) b2 y3 y4 y5 y6 y7 y8 y9 y10 y11 y12 y13 y14 y15, rfl, .inl ?_, _, _, _, _, _, _, _, _, _, _, _, _, _, _, _, rfl⟩
    unfold b_law_2
    rw [xseq_nx (show _ = some (Fl.nx, JL (Ent.im (.frz (ns.map .int))) (.im (.int (0 + (k : Int)))) bs x3 x4 x5 x6 x7 x8 x9 x10 x11 x12 x13 x14 x15) from xset_e (xcall_ok (xc1 rfl (xc1 rfl xnil_ok)) s1) rfl)]
    exact xfor_ok (xrange1_ok (n := 4) (xc1 rfl xnil_ok) (by decide)) g2)
  refine runF_st rfl ?_
  refine st_nx (by exact xfor_ok (xrange1_ok (xc1 e1 xnil_ok) (okR_of (by omega) (by omega))) g1) ?_
  exact st_ret (G1 := [.im (.frz (ns.map .int)), x1, x2, x3, x4, x5, x6, x7, x8, x9, x10, x11, x12, x13, x14, x15, .un, .un, .un, .un]) rfl
end Bk
namespace Bk
open PySem L2 PyProof.Rows
theorem all_mk {l : PySem.W.OpenLaw} {w : World} {K : PySem.W.Frag} {h : Heap} {mg : PySem.Str → Option Value} {fa : Addr} (X : K.In h) (G : h.Ns mainGlobals mg) (hfa : mg "law" = some (.ref fa))
    {C_Table : Addr} (aC_Table : PySem.W.nsIn K mainGlobals (cName 5) = some (some (.ref C_Table))) (pg_Table : PySem.W.plainGet K C_Table Str.empty = true) (hd_Table : PySem.W.hasDictIn K C_Table = true) (po_Table : PySem.W.plainOver K C_Table = true) (sa_Table : PySem.W.findIn K (.ref C_Table) "__setattr__" = some (some (.builtin "object.__setattr__")))
    (na_Table_0 : PySem.W.findIn K (.ref C_Table) "many" = some none)
    (na_Table_1 : PySem.W.findIn K (.ref C_Table) "size" = some none)
    (na_Table_2 : PySem.W.findIn K (.ref C_Table) "signs" = some none)
    (na_Table_3 : PySem.W.findIn K (.ref C_Table) "lines" = some none)
    (na_Table_4 : PySem.W.findIn K (.ref C_Table) "base" = some none)
    {f_w_choose : Addr} {od_w_choose an_w_choose : Option Addr} {sl_w_choose : Array (Option Value)} {oc_w_choose kV_w_choose dc_w_choose pc_w_choose cd_w_choose ct_w_choose : Value}
    (a_w_choose : PySem.W.nsIn K mainGlobals "_law_choose" = some (some (.ref f_w_choose))) (l_w_choose : K.lookup f_w_choose = some ⟨oc_w_choose, od_w_choose, .func (PySem.W.fnOf "_law_choose" "_law_choose" (defArgs s_w_choose) (defBody s_w_choose) (defScope s_w_choose) .none kV_w_choose dc_w_choose pc_w_choose an_w_choose cd_w_choose ct_w_choose), sl_w_choose⟩) (c_w_choose : PySem.W.codeIn K cd_w_choose "_law_choose" = true) (k_w_choose : PySem.W.keepIn K (.ref f_w_choose) = true)
    {f_w_is_less : Addr} {od_w_is_less an_w_is_less : Option Addr} {sl_w_is_less : Array (Option Value)} {oc_w_is_less kV_w_is_less dc_w_is_less pc_w_is_less cd_w_is_less ct_w_is_less : Value}
    (a_w_is_less : PySem.W.nsIn K mainGlobals "_law_is_less" = some (some (.ref f_w_is_less))) (l_w_is_less : K.lookup f_w_is_less = some ⟨oc_w_is_less, od_w_is_less, .func (PySem.W.fnOf "_law_is_less" "_law_is_less" (defArgs s_w_is_less) (defBody s_w_is_less) (defScope s_w_is_less) .none kV_w_is_less dc_w_is_less pc_w_is_less an_w_is_less cd_w_is_less ct_w_is_less), sl_w_is_less⟩) (c_w_is_less : PySem.W.codeIn K cd_w_is_less "_law_is_less" = true) (k_w_is_less : PySem.W.keepIn K (.ref f_w_is_less) = true)
    {f_w_divisor : Addr} {od_w_divisor an_w_divisor : Option Addr} {sl_w_divisor : Array (Option Value)} {oc_w_divisor kV_w_divisor dc_w_divisor pc_w_divisor cd_w_divisor ct_w_divisor : Value}
    (a_w_divisor : PySem.W.nsIn K mainGlobals "_law_divisor" = some (some (.ref f_w_divisor))) (l_w_divisor : K.lookup f_w_divisor = some ⟨oc_w_divisor, od_w_divisor, .func (PySem.W.fnOf "_law_divisor" "_law_divisor" (defArgs s_w_divisor) (defBody s_w_divisor) (defScope s_w_divisor) .none kV_w_divisor dc_w_divisor pc_w_divisor an_w_divisor cd_w_divisor ct_w_divisor), sl_w_divisor⟩) (c_w_divisor : PySem.W.codeIn K cd_w_divisor "_law_divisor" = true) (k_w_divisor : PySem.W.keepIn K (.ref f_w_divisor) = true)
    {f_w_low : Addr} {od_w_low an_w_low : Option Addr} {sl_w_low : Array (Option Value)} {oc_w_low kV_w_low dc_w_low pc_w_low cd_w_low ct_w_low : Value}
    (a_w_low : PySem.W.nsIn K mainGlobals "_law_low" = some (some (.ref f_w_low))) (l_w_low : K.lookup f_w_low = some ⟨oc_w_low, od_w_low, .func (PySem.W.fnOf "_law_low" "_law_low" (defArgs s_w_low) (defBody s_w_low) (defScope s_w_low) .none kV_w_low dc_w_low pc_w_low an_w_low cd_w_low ct_w_low), sl_w_low⟩) (c_w_low : PySem.W.codeIn K cd_w_low "_law_low" = true) (k_w_low : PySem.W.keepIn K (.ref f_w_low) = true)
    {f_w_minus : Addr} {od_w_minus an_w_minus : Option Addr} {sl_w_minus : Array (Option Value)} {oc_w_minus kV_w_minus dc_w_minus pc_w_minus cd_w_minus ct_w_minus : Value}
    (a_w_minus : PySem.W.nsIn K mainGlobals "_law_minus" = some (some (.ref f_w_minus))) (l_w_minus : K.lookup f_w_minus = some ⟨oc_w_minus, od_w_minus, .func (PySem.W.fnOf "_law_minus" "_law_minus" (defArgs s_w_minus) (defBody s_w_minus) (defScope s_w_minus) .none kV_w_minus dc_w_minus pc_w_minus an_w_minus cd_w_minus ct_w_minus), sl_w_minus⟩) (c_w_minus : PySem.W.codeIn K cd_w_minus "_law_minus" = true) (k_w_minus : PySem.W.keepIn K (.ref f_w_minus) = true)
    {f_w_seed : Addr} {od_w_seed an_w_seed : Option Addr} {sl_w_seed : Array (Option Value)} {oc_w_seed kV_w_seed dc_w_seed pc_w_seed cd_w_seed ct_w_seed : Value}
    (a_w_seed : PySem.W.nsIn K mainGlobals "_law_seed" = some (some (.ref f_w_seed))) (l_w_seed : K.lookup f_w_seed = some ⟨oc_w_seed, od_w_seed, .func (PySem.W.fnOf "_law_seed" "_law_seed" (defArgs s_w_seed) (defBody s_w_seed) (defScope s_w_seed) .none kV_w_seed dc_w_seed pc_w_seed an_w_seed cd_w_seed ct_w_seed), sl_w_seed⟩) (c_w_seed : PySem.W.codeIn K cd_w_seed "_law_seed" = true) (k_w_seed : PySem.W.keepIn K (.ref f_w_seed) = true)
    {f_divisor : Addr} {od_divisor an_divisor : Option Addr} {sl_divisor : Array (Option Value)} {oc_divisor kV_divisor dc_divisor pc_divisor cd_divisor ct_divisor : Value}
    (a_divisor : PySem.W.nsIn K mainGlobals "divisor" = some (some (.ref f_divisor))) (l_divisor : K.lookup f_divisor = some ⟨oc_divisor, od_divisor, .func (PySem.W.fnOf "divisor" "divisor" (defArgs s_divisor) (defBody s_divisor) (defScope s_divisor) .none kV_divisor dc_divisor pc_divisor an_divisor cd_divisor ct_divisor), sl_divisor⟩) (c_divisor : PySem.W.codeIn K cd_divisor "divisor" = true) (k_divisor : PySem.W.keepIn K (.ref f_divisor) = true)
    {f_lowest : Addr} {od_lowest an_lowest : Option Addr} {sl_lowest : Array (Option Value)} {oc_lowest kV_lowest dc_lowest pc_lowest cd_lowest ct_lowest : Value}
    (a_lowest : PySem.W.nsIn K mainGlobals "lowest" = some (some (.ref f_lowest))) (l_lowest : K.lookup f_lowest = some ⟨oc_lowest, od_lowest, .func (PySem.W.fnOf "lowest" "lowest" (defArgs s_lowest) (defBody s_lowest) (defScope s_lowest) .none kV_lowest dc_lowest pc_lowest an_lowest cd_lowest ct_lowest), sl_lowest⟩) (c_lowest : PySem.W.codeIn K cd_lowest "lowest" = true) (k_lowest : PySem.W.keepIn K (.ref f_lowest) = true)
    {f_less_by : Addr} {od_less_by an_less_by : Option Addr} {sl_less_by : Array (Option Value)} {oc_less_by kV_less_by dc_less_by pc_less_by cd_less_by ct_less_by : Value}
    (a_less_by : PySem.W.nsIn K mainGlobals "less_by" = some (some (.ref f_less_by))) (l_less_by : K.lookup f_less_by = some ⟨oc_less_by, od_less_by, .func (PySem.W.fnOf "less_by" "less_by" (defArgs s_less_by) (defBody s_less_by) (defScope s_less_by) .none kV_less_by dc_less_by pc_less_by an_less_by cd_less_by ct_less_by), sl_less_by⟩) (c_less_by : PySem.W.codeIn K cd_less_by "less_by" = true) (k_less_by : PySem.W.keepIn K (.ref f_less_by) = true)
    {f_differences : Addr} {od_differences an_differences : Option Addr} {sl_differences : Array (Option Value)} {oc_differences kV_differences dc_differences pc_differences cd_differences ct_differences : Value}
    (a_differences : PySem.W.nsIn K mainGlobals "differences" = some (some (.ref f_differences))) (l_differences : K.lookup f_differences = some ⟨oc_differences, od_differences, .func (PySem.W.fnOf "differences" "differences" (defArgs s_differences) (defBody s_differences) (defScope s_differences) .none kV_differences dc_differences pc_differences an_differences cd_differences ct_differences), sl_differences⟩) (c_differences : PySem.W.codeIn K cd_differences "differences" = true) (k_differences : PySem.W.keepIn K (.ref f_differences) = true)
    {f_is_less : Addr} {od_is_less an_is_less : Option Addr} {sl_is_less : Array (Option Value)} {oc_is_less kV_is_less dc_is_less pc_is_less cd_is_less ct_is_less : Value}
    (a_is_less : PySem.W.nsIn K mainGlobals "is_less" = some (some (.ref f_is_less))) (l_is_less : K.lookup f_is_less = some ⟨oc_is_less, od_is_less, .func (PySem.W.fnOf "is_less" "is_less" (defArgs s_is_less) (defBody s_is_less) (defScope s_is_less) .none kV_is_less dc_is_less pc_is_less an_is_less cd_is_less ct_is_less), sl_is_less⟩) (c_is_less : PySem.W.codeIn K cd_is_less "is_less" = true) (k_is_less : PySem.W.keepIn K (.ref f_is_less) = true)
    {f_is_integer : Addr} {od_is_integer an_is_integer : Option Addr} {sl_is_integer : Array (Option Value)} {oc_is_integer kV_is_integer dc_is_integer pc_is_integer cd_is_integer ct_is_integer : Value}
    (a_is_integer : PySem.W.nsIn K mainGlobals "is_integer" = some (some (.ref f_is_integer))) (l_is_integer : K.lookup f_is_integer = some ⟨oc_is_integer, od_is_integer, .func (PySem.W.fnOf "is_integer" "is_integer" (defArgs s_is_integer) (defBody s_is_integer) (defScope s_is_integer) .none kV_is_integer dc_is_integer pc_is_integer an_is_integer cd_is_integer ct_is_integer), sl_is_integer⟩) (c_is_integer : PySem.W.codeIn K cd_is_integer "is_integer" = true) (k_is_integer : PySem.W.keepIn K (.ref f_is_integer) = true)
    {f_value_of : Addr} {od_value_of an_value_of : Option Addr} {sl_value_of : Array (Option Value)} {oc_value_of kV_value_of dc_value_of pc_value_of cd_value_of ct_value_of : Value}
    (a_value_of : PySem.W.nsIn K mainGlobals "value_of" = some (some (.ref f_value_of))) (l_value_of : K.lookup f_value_of = some ⟨oc_value_of, od_value_of, .func (PySem.W.fnOf "value_of" "value_of" (defArgs s_value_of) (defBody s_value_of) (defScope s_value_of) .none kV_value_of dc_value_of pc_value_of an_value_of cd_value_of ct_value_of), sl_value_of⟩) (c_value_of : PySem.W.codeIn K cd_value_of "value_of" = true) (k_value_of : PySem.W.keepIn K (.ref f_value_of) = true)
    {f_values_of : Addr} {od_values_of an_values_of : Option Addr} {sl_values_of : Array (Option Value)} {oc_values_of kV_values_of dc_values_of pc_values_of cd_values_of ct_values_of : Value}
    (a_values_of : PySem.W.nsIn K mainGlobals "values_of" = some (some (.ref f_values_of))) (l_values_of : K.lookup f_values_of = some ⟨oc_values_of, od_values_of, .func (PySem.W.fnOf "values_of" "values_of" (defArgs s_values_of) (defBody s_values_of) (defScope s_values_of) .none kV_values_of dc_values_of pc_values_of an_values_of cd_values_of ct_values_of), sl_values_of⟩) (c_values_of : PySem.W.codeIn K cd_values_of "values_of" = true) (k_values_of : PySem.W.keepIn K (.ref f_values_of) = true)
    {f_is_kind : Addr} {od_is_kind an_is_kind : Option Addr} {sl_is_kind : Array (Option Value)} {oc_is_kind kV_is_kind dc_is_kind pc_is_kind cd_is_kind ct_is_kind : Value}
    (a_is_kind : PySem.W.nsIn K mainGlobals "is_kind" = some (some (.ref f_is_kind))) (l_is_kind : K.lookup f_is_kind = some ⟨oc_is_kind, od_is_kind, .func (PySem.W.fnOf "is_kind" "is_kind" (defArgs s_is_kind) (defBody s_is_kind) (defScope s_is_kind) .none kV_is_kind dc_is_kind pc_is_kind an_is_kind cd_is_kind ct_is_kind), sl_is_kind⟩) (c_is_kind : PySem.W.codeIn K cd_is_kind "is_kind" = true) (k_is_kind : PySem.W.keepIn K (.ref f_is_kind) = true)
    {f_multiplied : Addr} {od_multiplied an_multiplied : Option Addr} {sl_multiplied : Array (Option Value)} {oc_multiplied kV_multiplied dc_multiplied pc_multiplied cd_multiplied ct_multiplied : Value}
    (a_multiplied : PySem.W.nsIn K mainGlobals "multiplied" = some (some (.ref f_multiplied))) (l_multiplied : K.lookup f_multiplied = some ⟨oc_multiplied, od_multiplied, .func (PySem.W.fnOf "multiplied" "multiplied" (defArgs s_multiplied) (defBody s_multiplied) (defScope s_multiplied) .none kV_multiplied dc_multiplied pc_multiplied an_multiplied cd_multiplied ct_multiplied), sl_multiplied⟩) (c_multiplied : PySem.W.codeIn K cd_multiplied "multiplied" = true) (k_multiplied : PySem.W.keepIn K (.ref f_multiplied) = true)
    {f_is_pair : Addr} {od_is_pair an_is_pair : Option Addr} {sl_is_pair : Array (Option Value)} {oc_is_pair kV_is_pair dc_is_pair pc_is_pair cd_is_pair ct_is_pair : Value}
    (a_is_pair : PySem.W.nsIn K mainGlobals "is_pair" = some (some (.ref f_is_pair))) (l_is_pair : K.lookup f_is_pair = some ⟨oc_is_pair, od_is_pair, .func (PySem.W.fnOf "is_pair" "is_pair" (defArgs s_is_pair) (defBody s_is_pair) (defScope s_is_pair) .none kV_is_pair dc_is_pair pc_is_pair an_is_pair cd_is_pair ct_is_pair), sl_is_pair⟩) (c_is_pair : PySem.W.codeIn K cd_is_pair "is_pair" = true) (k_is_pair : PySem.W.keepIn K (.ref f_is_pair) = true)
    {f_is_value : Addr} {od_is_value an_is_value : Option Addr} {sl_is_value : Array (Option Value)} {oc_is_value kV_is_value dc_is_value pc_is_value cd_is_value ct_is_value : Value}
    (a_is_value : PySem.W.nsIn K mainGlobals "is_value" = some (some (.ref f_is_value))) (l_is_value : K.lookup f_is_value = some ⟨oc_is_value, od_is_value, .func (PySem.W.fnOf "is_value" "is_value" (defArgs s_is_value) (defBody s_is_value) (defScope s_is_value) .none kV_is_value dc_is_value pc_is_value an_is_value cd_is_value ct_is_value), sl_is_value⟩) (c_is_value : PySem.W.codeIn K cd_is_value "is_value" = true) (k_is_value : PySem.W.keepIn K (.ref f_is_value) = true)
    {f_is_seen : Addr} {od_is_seen an_is_seen : Option Addr} {sl_is_seen : Array (Option Value)} {oc_is_seen kV_is_seen dc_is_seen pc_is_seen cd_is_seen ct_is_seen : Value}
    (a_is_seen : PySem.W.nsIn K mainGlobals "is_seen" = some (some (.ref f_is_seen))) (l_is_seen : K.lookup f_is_seen = some ⟨oc_is_seen, od_is_seen, .func (PySem.W.fnOf "is_seen" "is_seen" (defArgs s_is_seen) (defBody s_is_seen) (defScope s_is_seen) .none kV_is_seen dc_is_seen pc_is_seen an_is_seen cd_is_seen ct_is_seen), sl_is_seen⟩) (c_is_seen : PySem.W.codeIn K cd_is_seen "is_seen" = true) (k_is_seen : PySem.W.keepIn K (.ref f_is_seen) = true)
    {f_is_sequence : Addr} {od_is_sequence an_is_sequence : Option Addr} {sl_is_sequence : Array (Option Value)} {oc_is_sequence kV_is_sequence dc_is_sequence pc_is_sequence cd_is_sequence ct_is_sequence : Value}
    (a_is_sequence : PySem.W.nsIn K mainGlobals "is_sequence" = some (some (.ref f_is_sequence))) (l_is_sequence : K.lookup f_is_sequence = some ⟨oc_is_sequence, od_is_sequence, .func (PySem.W.fnOf "is_sequence" "is_sequence" (defArgs s_is_sequence) (defBody s_is_sequence) (defScope s_is_sequence) .none kV_is_sequence dc_is_sequence pc_is_sequence an_is_sequence cd_is_sequence ct_is_sequence), sl_is_sequence⟩) (c_is_sequence : PySem.W.codeIn K cd_is_sequence "is_sequence" = true) (k_is_sequence : PySem.W.keepIn K (.ref f_is_sequence) = true)
    {f_need_seen : Addr} {od_need_seen an_need_seen : Option Addr} {sl_need_seen : Array (Option Value)} {oc_need_seen kV_need_seen dc_need_seen pc_need_seen cd_need_seen ct_need_seen : Value}
    (a_need_seen : PySem.W.nsIn K mainGlobals "need_seen" = some (some (.ref f_need_seen))) (l_need_seen : K.lookup f_need_seen = some ⟨oc_need_seen, od_need_seen, .func (PySem.W.fnOf "need_seen" "need_seen" (defArgs s_need_seen) (defBody s_need_seen) (defScope s_need_seen) .none kV_need_seen dc_need_seen pc_need_seen an_need_seen cd_need_seen ct_need_seen), sl_need_seen⟩) (c_need_seen : PySem.W.codeIn K cd_need_seen "need_seen" = true) (k_need_seen : PySem.W.keepIn K (.ref f_need_seen) = true)
    {f_Table_init : Addr} {od_Table_init an_Table_init : Option Addr} {sl_Table_init : Array (Option Value)} {oc_Table_init kV_Table_init dc_Table_init pc_Table_init cd_Table_init ct_Table_init : Value}
    (a_Table_init : PySem.W.findIn K (.ref C_Table) "__init__" = some (some (.ref f_Table_init))) (l_Table_init : K.lookup f_Table_init = some ⟨oc_Table_init, od_Table_init, .func (PySem.W.fnOf "__init__" "Table.__init__" (defArgs s_Table_init) (defBody s_Table_init) (defScope s_Table_init) .none kV_Table_init dc_Table_init pc_Table_init an_Table_init cd_Table_init ct_Table_init), sl_Table_init⟩) (c_Table_init : PySem.W.codeIn K cd_Table_init "Table.__init__" = true) (k_Table_init : PySem.W.keepIn K (.ref f_Table_init) = true)
    (i_Table_init : PySem.W.isFn K (.ref f_Table_init) = true)
    (mk_Table : PySem.W.makesIn K C_Table = true) (kc_Table : PySem.W.keepIn K (.ref C_Table) = true)
    {f_quotient : Addr} {od_quotient an_quotient : Option Addr} {sl_quotient : Array (Option Value)} {oc_quotient kV_quotient dc_quotient pc_quotient cd_quotient ct_quotient : Value}
    (a_quotient : PySem.W.nsIn K mainGlobals "quotient" = some (some (.ref f_quotient))) (l_quotient : K.lookup f_quotient = some ⟨oc_quotient, od_quotient, .func (PySem.W.fnOf "quotient" "quotient" (defArgs s_quotient) (defBody s_quotient) (defScope s_quotient) .none kV_quotient dc_quotient pc_quotient an_quotient cd_quotient ct_quotient), sl_quotient⟩) (c_quotient : PySem.W.codeIn K cd_quotient "quotient" = true) (k_quotient : PySem.W.keepIn K (.ref f_quotient) = true)
    {f_Table_turn : Addr} {od_Table_turn an_Table_turn : Option Addr} {sl_Table_turn : Array (Option Value)} {oc_Table_turn kV_Table_turn dc_Table_turn pc_Table_turn cd_Table_turn ct_Table_turn : Value}
    (a_Table_turn : PySem.W.findIn K (.ref C_Table) "turn" = some (some (.ref f_Table_turn))) (l_Table_turn : K.lookup f_Table_turn = some ⟨oc_Table_turn, od_Table_turn, .func (PySem.W.fnOf "turn" "Table.turn" (defArgs s_Table_turn) (defBody s_Table_turn) (defScope s_Table_turn) .none kV_Table_turn dc_Table_turn pc_Table_turn an_Table_turn cd_Table_turn ct_Table_turn), sl_Table_turn⟩) (c_Table_turn : PySem.W.codeIn K cd_Table_turn "Table.turn" = true) (k_Table_turn : PySem.W.keepIn K (.ref f_Table_turn) = true)
    (i_Table_turn : PySem.W.isFn K (.ref f_Table_turn) = true)
    {f_Table_clear : Addr} {od_Table_clear an_Table_clear : Option Addr} {sl_Table_clear : Array (Option Value)} {oc_Table_clear kV_Table_clear dc_Table_clear pc_Table_clear cd_Table_clear ct_Table_clear : Value}
    (a_Table_clear : PySem.W.findIn K (.ref C_Table) "clear" = some (some (.ref f_Table_clear))) (l_Table_clear : K.lookup f_Table_clear = some ⟨oc_Table_clear, od_Table_clear, .func (PySem.W.fnOf "clear" "Table.clear" (defArgs s_Table_clear) (defBody s_Table_clear) (defScope s_Table_clear) .none kV_Table_clear dc_Table_clear pc_Table_clear an_Table_clear cd_Table_clear ct_Table_clear), sl_Table_clear⟩) (c_Table_clear : PySem.W.codeIn K cd_Table_clear "Table.clear" = true) (k_Table_clear : PySem.W.keepIn K (.ref f_Table_clear) = true)
    (i_Table_clear : PySem.W.isFn K (.ref f_Table_clear) = true)
    {f_added : Addr} {od_added an_added : Option Addr} {sl_added : Array (Option Value)} {oc_added kV_added dc_added pc_added cd_added ct_added : Value}
    (a_added : PySem.W.nsIn K mainGlobals "added" = some (some (.ref f_added))) (l_added : K.lookup f_added = some ⟨oc_added, od_added, .func (PySem.W.fnOf "added" "added" (defArgs s_added) (defBody s_added) (defScope s_added) .none kV_added dc_added pc_added an_added cd_added ct_added), sl_added⟩) (c_added : PySem.W.codeIn K cd_added "added" = true) (k_added : PySem.W.keepIn K (.ref f_added) = true)
    {f_summed : Addr} {od_summed an_summed : Option Addr} {sl_summed : Array (Option Value)} {oc_summed kV_summed dc_summed pc_summed cd_summed ct_summed : Value}
    (a_summed : PySem.W.nsIn K mainGlobals "summed" = some (some (.ref f_summed))) (l_summed : K.lookup f_summed = some ⟨oc_summed, od_summed, .func (PySem.W.fnOf "summed" "summed" (defArgs s_summed) (defBody s_summed) (defScope s_summed) .none kV_summed dc_summed pc_summed an_summed cd_summed ct_summed), sl_summed⟩) (c_summed : PySem.W.codeIn K cd_summed "summed" = true) (k_summed : PySem.W.keepIn K (.ref f_summed) = true)
    {f_Table_costs_left : Addr} {od_Table_costs_left an_Table_costs_left : Option Addr} {sl_Table_costs_left : Array (Option Value)} {oc_Table_costs_left kV_Table_costs_left dc_Table_costs_left pc_Table_costs_left cd_Table_costs_left ct_Table_costs_left : Value}
    (a_Table_costs_left : PySem.W.findIn K (.ref C_Table) "costs_left" = some (some (.ref f_Table_costs_left))) (l_Table_costs_left : K.lookup f_Table_costs_left = some ⟨oc_Table_costs_left, od_Table_costs_left, .func (PySem.W.fnOf "costs_left" "Table.costs_left" (defArgs s_Table_costs_left) (defBody s_Table_costs_left) (defScope s_Table_costs_left) .none kV_Table_costs_left dc_Table_costs_left pc_Table_costs_left an_Table_costs_left cd_Table_costs_left ct_Table_costs_left), sl_Table_costs_left⟩) (c_Table_costs_left : PySem.W.codeIn K cd_Table_costs_left "Table.costs_left" = true) (k_Table_costs_left : PySem.W.keepIn K (.ref f_Table_costs_left) = true)
    (i_Table_costs_left : PySem.W.isFn K (.ref f_Table_costs_left) = true)
    {f_Table_counts_of : Addr} {od_Table_counts_of an_Table_counts_of : Option Addr} {sl_Table_counts_of : Array (Option Value)} {oc_Table_counts_of kV_Table_counts_of dc_Table_counts_of pc_Table_counts_of cd_Table_counts_of ct_Table_counts_of : Value}
    (a_Table_counts_of : PySem.W.findIn K (.ref C_Table) "counts_of" = some (some (.ref f_Table_counts_of))) (l_Table_counts_of : K.lookup f_Table_counts_of = some ⟨oc_Table_counts_of, od_Table_counts_of, .func (PySem.W.fnOf "counts_of" "Table.counts_of" (defArgs s_Table_counts_of) (defBody s_Table_counts_of) (defScope s_Table_counts_of) .none kV_Table_counts_of dc_Table_counts_of pc_Table_counts_of an_Table_counts_of cd_Table_counts_of ct_Table_counts_of), sl_Table_counts_of⟩) (c_Table_counts_of : PySem.W.codeIn K cd_Table_counts_of "Table.counts_of" = true) (k_Table_counts_of : PySem.W.keepIn K (.ref f_Table_counts_of) = true)
    (i_Table_counts_of : PySem.W.isFn K (.ref f_Table_counts_of) = true)
    {f_Table_place_for : Addr} {od_Table_place_for an_Table_place_for : Option Addr} {sl_Table_place_for : Array (Option Value)} {oc_Table_place_for kV_Table_place_for dc_Table_place_for pc_Table_place_for cd_Table_place_for ct_Table_place_for : Value}
    (a_Table_place_for : PySem.W.findIn K (.ref C_Table) "place_for" = some (some (.ref f_Table_place_for))) (l_Table_place_for : K.lookup f_Table_place_for = some ⟨oc_Table_place_for, od_Table_place_for, .func (PySem.W.fnOf "place_for" "Table.place_for" (defArgs s_Table_place_for) (defBody s_Table_place_for) (defScope s_Table_place_for) .none kV_Table_place_for dc_Table_place_for pc_Table_place_for an_Table_place_for cd_Table_place_for ct_Table_place_for), sl_Table_place_for⟩) (c_Table_place_for : PySem.W.codeIn K cd_Table_place_for "Table.place_for" = true) (k_Table_place_for : PySem.W.keepIn K (.ref f_Table_place_for) = true)
    (i_Table_place_for : PySem.W.isFn K (.ref f_Table_place_for) = true)
    {f_Table_lower : Addr} {od_Table_lower an_Table_lower : Option Addr} {sl_Table_lower : Array (Option Value)} {oc_Table_lower kV_Table_lower dc_Table_lower pc_Table_lower cd_Table_lower ct_Table_lower : Value}
    (a_Table_lower : PySem.W.findIn K (.ref C_Table) "lower" = some (some (.ref f_Table_lower))) (l_Table_lower : K.lookup f_Table_lower = some ⟨oc_Table_lower, od_Table_lower, .func (PySem.W.fnOf "lower" "Table.lower" (defArgs s_Table_lower) (defBody s_Table_lower) (defScope s_Table_lower) .none kV_Table_lower dc_Table_lower pc_Table_lower an_Table_lower cd_Table_lower ct_Table_lower), sl_Table_lower⟩) (c_Table_lower : PySem.W.codeIn K cd_Table_lower "Table.lower" = true) (k_Table_lower : PySem.W.keepIn K (.ref f_Table_lower) = true)
    (i_Table_lower : PySem.W.isFn K (.ref f_Table_lower) = true)
    {f_Table_values_now : Addr} {od_Table_values_now an_Table_values_now : Option Addr} {sl_Table_values_now : Array (Option Value)} {oc_Table_values_now kV_Table_values_now dc_Table_values_now pc_Table_values_now cd_Table_values_now ct_Table_values_now : Value}
    (a_Table_values_now : PySem.W.findIn K (.ref C_Table) "values_now" = some (some (.ref f_Table_values_now))) (l_Table_values_now : K.lookup f_Table_values_now = some ⟨oc_Table_values_now, od_Table_values_now, .func (PySem.W.fnOf "values_now" "Table.values_now" (defArgs s_Table_values_now) (defBody s_Table_values_now) (defScope s_Table_values_now) .none kV_Table_values_now dc_Table_values_now pc_Table_values_now an_Table_values_now cd_Table_values_now ct_Table_values_now), sl_Table_values_now⟩) (c_Table_values_now : PySem.W.codeIn K cd_Table_values_now "Table.values_now" = true) (k_Table_values_now : PySem.W.keepIn K (.ref f_Table_values_now) = true)
    (i_Table_values_now : PySem.W.isFn K (.ref f_Table_values_now) = true)
    {f_Table_way_of : Addr} {od_Table_way_of an_Table_way_of : Option Addr} {sl_Table_way_of : Array (Option Value)} {oc_Table_way_of kV_Table_way_of dc_Table_way_of pc_Table_way_of cd_Table_way_of ct_Table_way_of : Value}
    (a_Table_way_of : PySem.W.findIn K (.ref C_Table) "way_of" = some (some (.ref f_Table_way_of))) (l_Table_way_of : K.lookup f_Table_way_of = some ⟨oc_Table_way_of, od_Table_way_of, .func (PySem.W.fnOf "way_of" "Table.way_of" (defArgs s_Table_way_of) (defBody s_Table_way_of) (defScope s_Table_way_of) .none kV_Table_way_of dc_Table_way_of pc_Table_way_of an_Table_way_of cd_Table_way_of ct_Table_way_of), sl_Table_way_of⟩) (c_Table_way_of : PySem.W.codeIn K cd_Table_way_of "Table.way_of" = true) (k_Table_way_of : PySem.W.keepIn K (.ref f_Table_way_of) = true)
    (i_Table_way_of : PySem.W.isFn K (.ref f_Table_way_of) = true)
    {f_row_told : Addr} {od_row_told an_row_told : Option Addr} {sl_row_told : Array (Option Value)} {oc_row_told kV_row_told dc_row_told pc_row_told cd_row_told ct_row_told : Value}
    (a_row_told : PySem.W.nsIn K mainGlobals "row_told" = some (some (.ref f_row_told))) (l_row_told : K.lookup f_row_told = some ⟨oc_row_told, od_row_told, .func (PySem.W.fnOf "row_told" "row_told" (defArgs s_row_told) (defBody s_row_told) (defScope s_row_told) .none kV_row_told dc_row_told pc_row_told an_row_told cd_row_told ct_row_told), sl_row_told⟩) (c_row_told : PySem.W.codeIn K cd_row_told "row_told" = true) (k_row_told : PySem.W.keepIn K (.ref f_row_told) = true)
    {f_product_to : Addr} {od_product_to an_product_to : Option Addr} {sl_product_to : Array (Option Value)} {oc_product_to kV_product_to dc_product_to pc_product_to cd_product_to ct_product_to : Value}
    (a_product_to : PySem.W.nsIn K mainGlobals "product_to" = some (some (.ref f_product_to))) (l_product_to : K.lookup f_product_to = some ⟨oc_product_to, od_product_to, .func (PySem.W.fnOf "product_to" "product_to" (defArgs s_product_to) (defBody s_product_to) (defScope s_product_to) .none kV_product_to dc_product_to pc_product_to an_product_to cd_product_to ct_product_to), sl_product_to⟩) (c_product_to : PySem.W.codeIn K cd_product_to "product_to" = true) (k_product_to : PySem.W.keepIn K (.ref f_product_to) = true)
    {f_ways_to_choose : Addr} {od_ways_to_choose an_ways_to_choose : Option Addr} {sl_ways_to_choose : Array (Option Value)} {oc_ways_to_choose kV_ways_to_choose dc_ways_to_choose pc_ways_to_choose cd_ways_to_choose ct_ways_to_choose : Value}
    (a_ways_to_choose : PySem.W.nsIn K mainGlobals "ways_to_choose" = some (some (.ref f_ways_to_choose))) (l_ways_to_choose : K.lookup f_ways_to_choose = some ⟨oc_ways_to_choose, od_ways_to_choose, .func (PySem.W.fnOf "ways_to_choose" "ways_to_choose" (defArgs s_ways_to_choose) (defBody s_ways_to_choose) (defScope s_ways_to_choose) .none kV_ways_to_choose dc_ways_to_choose pc_ways_to_choose an_ways_to_choose cd_ways_to_choose ct_ways_to_choose), sl_ways_to_choose⟩) (c_ways_to_choose : PySem.W.codeIn K cd_ways_to_choose "ways_to_choose" = true) (k_ways_to_choose : PySem.W.keepIn K (.ref f_ways_to_choose) = true)
    {f_unit_row : Addr} {od_unit_row an_unit_row : Option Addr} {sl_unit_row : Array (Option Value)} {oc_unit_row kV_unit_row dc_unit_row pc_unit_row cd_unit_row ct_unit_row : Value}
    (a_unit_row : PySem.W.nsIn K mainGlobals "unit_row" = some (some (.ref f_unit_row))) (l_unit_row : K.lookup f_unit_row = some ⟨oc_unit_row, od_unit_row, .func (PySem.W.fnOf "unit_row" "unit_row" (defArgs s_unit_row) (defBody s_unit_row) (defScope s_unit_row) .none kV_unit_row dc_unit_row pc_unit_row an_unit_row cd_unit_row ct_unit_row), sl_unit_row⟩) (c_unit_row : PySem.W.codeIn K cd_unit_row "unit_row" = true) (k_unit_row : PySem.W.keepIn K (.ref f_unit_row) = true)
    {f_factors_of : Addr} {od_factors_of an_factors_of : Option Addr} {sl_factors_of : Array (Option Value)} {oc_factors_of kV_factors_of dc_factors_of pc_factors_of cd_factors_of ct_factors_of : Value}
    (a_factors_of : PySem.W.nsIn K mainGlobals "factors_of" = some (some (.ref f_factors_of))) (l_factors_of : K.lookup f_factors_of = some ⟨oc_factors_of, od_factors_of, .func (PySem.W.fnOf "factors_of" "factors_of" (defArgs s_factors_of) (defBody s_factors_of) (defScope s_factors_of) .none kV_factors_of dc_factors_of pc_factors_of an_factors_of cd_factors_of ct_factors_of), sl_factors_of⟩) (c_factors_of : PySem.W.codeIn K cd_factors_of "factors_of" = true) (k_factors_of : PySem.W.keepIn K (.ref f_factors_of) = true)
    {f_row_of : Addr} {od_row_of an_row_of : Option Addr} {sl_row_of : Array (Option Value)} {oc_row_of kV_row_of dc_row_of pc_row_of cd_row_of ct_row_of : Value}
    (a_row_of : PySem.W.nsIn K mainGlobals "row_of" = some (some (.ref f_row_of))) (l_row_of : K.lookup f_row_of = some ⟨oc_row_of, od_row_of, .func (PySem.W.fnOf "row_of" "row_of" (defArgs s_row_of) (defBody s_row_of) (defScope s_row_of) .none kV_row_of dc_row_of pc_row_of an_row_of cd_row_of ct_row_of), sl_row_of⟩) (c_row_of : PySem.W.codeIn K cd_row_of "row_of" = true) (k_row_of : PySem.W.keepIn K (.ref f_row_of) = true)
    {f_power_row : Addr} {od_power_row an_power_row : Option Addr} {sl_power_row : Array (Option Value)} {oc_power_row kV_power_row dc_power_row pc_power_row cd_power_row ct_power_row : Value}
    (a_power_row : PySem.W.nsIn K mainGlobals "power_row" = some (some (.ref f_power_row))) (l_power_row : K.lookup f_power_row = some ⟨oc_power_row, od_power_row, .func (PySem.W.fnOf "power_row" "power_row" (defArgs s_power_row) (defBody s_power_row) (defScope s_power_row) .none kV_power_row dc_power_row pc_power_row an_power_row cd_power_row ct_power_row), sl_power_row⟩) (c_power_row : PySem.W.codeIn K cd_power_row "power_row" = true) (k_power_row : PySem.W.keepIn K (.ref f_power_row) = true)
    {f_unit_rows : Addr} {od_unit_rows an_unit_rows : Option Addr} {sl_unit_rows : Array (Option Value)} {oc_unit_rows kV_unit_rows dc_unit_rows pc_unit_rows cd_unit_rows ct_unit_rows : Value}
    (a_unit_rows : PySem.W.nsIn K mainGlobals "unit_rows" = some (some (.ref f_unit_rows))) (l_unit_rows : K.lookup f_unit_rows = some ⟨oc_unit_rows, od_unit_rows, .func (PySem.W.fnOf "unit_rows" "unit_rows" (defArgs s_unit_rows) (defBody s_unit_rows) (defScope s_unit_rows) .none kV_unit_rows dc_unit_rows pc_unit_rows an_unit_rows cd_unit_rows ct_unit_rows), sl_unit_rows⟩) (c_unit_rows : PySem.W.codeIn K cd_unit_rows "unit_rows" = true) (k_unit_rows : PySem.W.keepIn K (.ref f_unit_rows) = true)
    {f_solved : Addr} {od_solved an_solved : Option Addr} {sl_solved : Array (Option Value)} {oc_solved kV_solved dc_solved pc_solved cd_solved ct_solved : Value}
    (a_solved : PySem.W.nsIn K mainGlobals "solved" = some (some (.ref f_solved))) (l_solved : K.lookup f_solved = some ⟨oc_solved, od_solved, .func (PySem.W.fnOf "solved" "solved" (defArgs s_solved) (defBody s_solved) (defScope s_solved) .none kV_solved dc_solved pc_solved an_solved cd_solved ct_solved), sl_solved⟩) (c_solved : PySem.W.codeIn K cd_solved "solved" = true) (k_solved : PySem.W.keepIn K (.ref f_solved) = true)
    {f_row_paper : Addr} {od_row_paper an_row_paper : Option Addr} {sl_row_paper : Array (Option Value)} {oc_row_paper kV_row_paper dc_row_paper pc_row_paper cd_row_paper ct_row_paper : Value}
    (a_row_paper : PySem.W.nsIn K mainGlobals "row_paper" = some (some (.ref f_row_paper))) (l_row_paper : K.lookup f_row_paper = some ⟨oc_row_paper, od_row_paper, .func (PySem.W.fnOf "row_paper" "row_paper" (defArgs s_row_paper) (defBody s_row_paper) (defScope s_row_paper) .none kV_row_paper dc_row_paper pc_row_paper an_row_paper cd_row_paper ct_row_paper), sl_row_paper⟩) (c_row_paper : PySem.W.codeIn K cd_row_paper "row_paper" = true) (k_row_paper : PySem.W.keepIn K (.ref f_row_paper) = true)
    {f_row_least : Addr} {od_row_least an_row_least : Option Addr} {sl_row_least : Array (Option Value)} {oc_row_least kV_row_least dc_row_least pc_row_least cd_row_least ct_row_least : Value}
    (a_row_least : PySem.W.nsIn K mainGlobals "row_least" = some (some (.ref f_row_least))) (l_row_least : K.lookup f_row_least = some ⟨oc_row_least, od_row_least, .func (PySem.W.fnOf "row_least" "row_least" (defArgs s_row_least) (defBody s_row_least) (defScope s_row_least) .none kV_row_least dc_row_least pc_row_least an_row_least cd_row_least ct_row_least), sl_row_least⟩) (c_row_least : PySem.W.codeIn K cd_row_least "row_least" = true) (k_row_least : PySem.W.keepIn K (.ref f_row_least) = true)
    {f_row_greatest : Addr} {od_row_greatest an_row_greatest : Option Addr} {sl_row_greatest : Array (Option Value)} {oc_row_greatest kV_row_greatest dc_row_greatest pc_row_greatest cd_row_greatest ct_row_greatest : Value}
    (a_row_greatest : PySem.W.nsIn K mainGlobals "row_greatest" = some (some (.ref f_row_greatest))) (l_row_greatest : K.lookup f_row_greatest = some ⟨oc_row_greatest, od_row_greatest, .func (PySem.W.fnOf "row_greatest" "row_greatest" (defArgs s_row_greatest) (defBody s_row_greatest) (defScope s_row_greatest) .none kV_row_greatest dc_row_greatest pc_row_greatest an_row_greatest cd_row_greatest ct_row_greatest), sl_row_greatest⟩) (c_row_greatest : PySem.W.codeIn K cd_row_greatest "row_greatest" = true) (k_row_greatest : PySem.W.keepIn K (.ref f_row_greatest) = true)
    {f_row_kernel : Addr} {od_row_kernel an_row_kernel : Option Addr} {sl_row_kernel : Array (Option Value)} {oc_row_kernel kV_row_kernel dc_row_kernel pc_row_kernel cd_row_kernel ct_row_kernel : Value}
    (a_row_kernel : PySem.W.nsIn K mainGlobals "row_kernel" = some (some (.ref f_row_kernel))) (l_row_kernel : K.lookup f_row_kernel = some ⟨oc_row_kernel, od_row_kernel, .func (PySem.W.fnOf "row_kernel" "row_kernel" (defArgs s_row_kernel) (defBody s_row_kernel) (defScope s_row_kernel) .none kV_row_kernel dc_row_kernel pc_row_kernel an_row_kernel cd_row_kernel ct_row_kernel), sl_row_kernel⟩) (c_row_kernel : PySem.W.codeIn K cd_row_kernel "row_kernel" = true) (k_row_kernel : PySem.W.keepIn K (.ref f_row_kernel) = true)
    {f_row_refuting : Addr} {od_row_refuting an_row_refuting : Option Addr} {sl_row_refuting : Array (Option Value)} {oc_row_refuting kV_row_refuting dc_row_refuting pc_row_refuting cd_row_refuting ct_row_refuting : Value}
    (a_row_refuting : PySem.W.nsIn K mainGlobals "row_refuting" = some (some (.ref f_row_refuting))) (l_row_refuting : K.lookup f_row_refuting = some ⟨oc_row_refuting, od_row_refuting, .func (PySem.W.fnOf "row_refuting" "row_refuting" (defArgs s_row_refuting) (defBody s_row_refuting) (defScope s_row_refuting) .none kV_row_refuting dc_row_refuting pc_row_refuting an_row_refuting cd_row_refuting ct_row_refuting), sl_row_refuting⟩) (c_row_refuting : PySem.W.codeIn K cd_row_refuting "row_refuting" = true) (k_row_refuting : PySem.W.keepIn K (.ref f_row_refuting) = true)
    {f_row_never_below : Addr} {od_row_never_below an_row_never_below : Option Addr} {sl_row_never_below : Array (Option Value)} {oc_row_never_below kV_row_never_below dc_row_never_below pc_row_never_below cd_row_never_below ct_row_never_below : Value}
    (a_row_never_below : PySem.W.nsIn K mainGlobals "row_never_below" = some (some (.ref f_row_never_below))) (l_row_never_below : K.lookup f_row_never_below = some ⟨oc_row_never_below, od_row_never_below, .func (PySem.W.fnOf "row_never_below" "row_never_below" (defArgs s_row_never_below) (defBody s_row_never_below) (defScope s_row_never_below) .none kV_row_never_below dc_row_never_below pc_row_never_below an_row_never_below cd_row_never_below ct_row_never_below), sl_row_never_below⟩) (c_row_never_below : PySem.W.codeIn K cd_row_never_below "row_never_below" = true) (k_row_never_below : PySem.W.keepIn K (.ref f_row_never_below) = true)
    {f_are_values : Addr} {od_are_values an_are_values : Option Addr} {sl_are_values : Array (Option Value)} {oc_are_values kV_are_values dc_are_values pc_are_values cd_are_values ct_are_values : Value}
    (a_are_values : PySem.W.nsIn K mainGlobals "are_values" = some (some (.ref f_are_values))) (l_are_values : K.lookup f_are_values = some ⟨oc_are_values, od_are_values, .func (PySem.W.fnOf "are_values" "are_values" (defArgs s_are_values) (defBody s_are_values) (defScope s_are_values) .none kV_are_values dc_are_values pc_are_values an_are_values cd_are_values ct_are_values), sl_are_values⟩) (c_are_values : PySem.W.codeIn K cd_are_values "are_values" = true) (k_are_values : PySem.W.keepIn K (.ref f_are_values) = true)
    {f_are_counts : Addr} {od_are_counts an_are_counts : Option Addr} {sl_are_counts : Array (Option Value)} {oc_are_counts kV_are_counts dc_are_counts pc_are_counts cd_are_counts ct_are_counts : Value}
    (a_are_counts : PySem.W.nsIn K mainGlobals "are_counts" = some (some (.ref f_are_counts))) (l_are_counts : K.lookup f_are_counts = some ⟨oc_are_counts, od_are_counts, .func (PySem.W.fnOf "are_counts" "are_counts" (defArgs s_are_counts) (defBody s_are_counts) (defScope s_are_counts) .none kV_are_counts dc_are_counts pc_are_counts an_are_counts cd_are_counts ct_are_counts), sl_are_counts⟩) (c_are_counts : PySem.W.codeIn K cd_are_counts "are_counts" = true) (k_are_counts : PySem.W.keepIn K (.ref f_are_counts) = true)
    {f_is_row : Addr} {od_is_row an_is_row : Option Addr} {sl_is_row : Array (Option Value)} {oc_is_row kV_is_row dc_is_row pc_is_row cd_is_row ct_is_row : Value}
    (a_is_row : PySem.W.nsIn K mainGlobals "is_row" = some (some (.ref f_is_row))) (l_is_row : K.lookup f_is_row = some ⟨oc_is_row, od_is_row, .func (PySem.W.fnOf "is_row" "is_row" (defArgs s_is_row) (defBody s_is_row) (defScope s_is_row) .none kV_is_row dc_is_row pc_is_row an_is_row cd_is_row ct_is_row), sl_is_row⟩) (c_is_row : PySem.W.codeIn K cd_is_row "is_row" = true) (k_is_row : PySem.W.keepIn K (.ref f_is_row) = true)
    {f_worth_of : Addr} {od_worth_of an_worth_of : Option Addr} {sl_worth_of : Array (Option Value)} {oc_worth_of kV_worth_of dc_worth_of pc_worth_of cd_worth_of ct_worth_of : Value}
    (a_worth_of : PySem.W.nsIn K mainGlobals "worth_of" = some (some (.ref f_worth_of))) (l_worth_of : K.lookup f_worth_of = some ⟨oc_worth_of, od_worth_of, .func (PySem.W.fnOf "worth_of" "worth_of" (defArgs s_worth_of) (defBody s_worth_of) (defScope s_worth_of) .none kV_worth_of dc_worth_of pc_worth_of an_worth_of cd_worth_of ct_worth_of), sl_worth_of⟩) (c_worth_of : PySem.W.codeIn K cd_worth_of "worth_of" = true) (k_worth_of : PySem.W.keepIn K (.ref f_worth_of) = true)
    {f_row_paper_holds : Addr} {od_row_paper_holds an_row_paper_holds : Option Addr} {sl_row_paper_holds : Array (Option Value)} {oc_row_paper_holds kV_row_paper_holds dc_row_paper_holds pc_row_paper_holds cd_row_paper_holds ct_row_paper_holds : Value}
    (a_row_paper_holds : PySem.W.nsIn K mainGlobals "row_paper_holds" = some (some (.ref f_row_paper_holds))) (l_row_paper_holds : K.lookup f_row_paper_holds = some ⟨oc_row_paper_holds, od_row_paper_holds, .func (PySem.W.fnOf "row_paper_holds" "row_paper_holds" (defArgs s_row_paper_holds) (defBody s_row_paper_holds) (defScope s_row_paper_holds) .none kV_row_paper_holds dc_row_paper_holds pc_row_paper_holds an_row_paper_holds cd_row_paper_holds ct_row_paper_holds), sl_row_paper_holds⟩) (c_row_paper_holds : PySem.W.codeIn K cd_row_paper_holds "row_paper_holds" = true) (k_row_paper_holds : PySem.W.keepIn K (.ref f_row_paper_holds) = true)
    {f_law : Addr} {od_law an_law : Option Addr} {sl_law : Array (Option Value)} {oc_law kV_law dc_law pc_law cd_law ct_law : Value}
    (a_law : PySem.W.nsIn K mainGlobals "law" = some (some (.ref f_law))) (l_law : K.lookup f_law = some ⟨oc_law, od_law, .func (PySem.W.fnOf "law" "law" (defArgs s_law) (defBody s_law) (defScope s_law) .none kV_law dc_law pc_law an_law cd_law ct_law), sl_law⟩) (c_law : PySem.W.codeIn K cd_law "law" = true) (k_law : PySem.W.keepIn K (.ref f_law) = true)
    {g_MINUS : Addr} {gd_MINUS : Option Addr} {gi_MINUS : Array Value} {gn_MINUS : Nat} {gs_MINUS : Array (Option Value)} (a_MINUS : PySem.W.nsIn K mainGlobals "MINUS" = some (some (.ref g_MINUS))) (l_MINUS : K.lookup g_MINUS = some ⟨.type "tuple", gd_MINUS, .seq gi_MINUS gn_MINUS, gs_MINUS⟩) (v_MINUS : gi_MINUS.size ≤ sizeLine ∧ ∃ vs, Vals vs gi_MINUS.toList ∧ ∀ H, DRs K H vs [.int (-1), .int (1)])
    {g_NOUGHT : Addr} {gd_NOUGHT : Option Addr} {gi_NOUGHT : Array Value} {gn_NOUGHT : Nat} {gs_NOUGHT : Array (Option Value)} (a_NOUGHT : PySem.W.nsIn K mainGlobals "NOUGHT" = some (some (.ref g_NOUGHT))) (l_NOUGHT : K.lookup g_NOUGHT = some ⟨.type "tuple", gd_NOUGHT, .seq gi_NOUGHT gn_NOUGHT, gs_NOUGHT⟩) (v_NOUGHT : gi_NOUGHT.size ≤ sizeLine ∧ ∃ vs, Vals vs gi_NOUGHT.toList ∧ ∀ H, DRs K H vs [.int (0), .int (1)])
    {g_ONE : Addr} {gd_ONE : Option Addr} {gi_ONE : Array Value} {gn_ONE : Nat} {gs_ONE : Array (Option Value)} (a_ONE : PySem.W.nsIn K mainGlobals "ONE" = some (some (.ref g_ONE))) (l_ONE : K.lookup g_ONE = some ⟨.type "tuple", gd_ONE, .seq gi_ONE gn_ONE, gs_ONE⟩) (v_ONE : gi_ONE.size ≤ sizeLine ∧ ∃ vs, Vals vs gi_ONE.toList ∧ ∀ H, DRs K H vs [.int (1), .int (1)])
    (z_abs : PySem.W.nsIn K mainGlobals "abs" = some none)
    (z_all : PySem.W.nsIn K mainGlobals "all" = some none)
    (z_any : PySem.W.nsIn K mainGlobals "any" = some none)
    (z_bool : PySem.W.nsIn K mainGlobals "bool" = some none)
    (z_enumerate : PySem.W.nsIn K mainGlobals "enumerate" = some none)
    (z_int : PySem.W.nsIn K mainGlobals "int" = some none)
    (z_isinstance : PySem.W.nsIn K mainGlobals "isinstance" = some none)
    (z_len : PySem.W.nsIn K mainGlobals "len" = some none)
    (z_list : PySem.W.nsIn K mainGlobals "list" = some none)
    (z_max : PySem.W.nsIn K mainGlobals "max" = some none)
    (z_min : PySem.W.nsIn K mainGlobals "min" = some none)
    (z_range : PySem.W.nsIn K mainGlobals "range" = some none)
    (z_str : PySem.W.nsIn K mainGlobals "str" = some none)
    (z_tuple : PySem.W.nsIn K mainGlobals "tuple" = some none)
    (z_zip : PySem.W.nsIn K mainGlobals "zip" = some none)
    : ∃ fd : FuncData, (∀ (s : Shared) (u : Value), BindsTo s fd ⟨[u], []⟩ [("_law_script", u)]) ∧ ∀ (base : Heap) (s : Shared) (H : Hp) (a : Addr) (Q : VK), K.In base → base.Ns mainGlobals mg → Env0 l.prog w K mg base callerA [] s H → BindsTo s fd ⟨[.ref a], []⟩ [("_law_script", .ref a)] → spF K r_law [.ref a] H Q E0 →
      codeAny (model l.prog w) callerA (.call (.ref fa) ⟨[.ref a], []⟩) (CR CX0 [] l.prog w H s Q E0) s := by
  have e := hfa.symm.trans (PySem.W.mg_of X G a_law)
  cases e
  have T : ∃ T : Txt K mg, T.law = fnT X G a_law l_law c_law k_law := ⟨{ Table := ⟨C_Table, PySem.W.mg_of X G aC_Table, aC_Table, ⟨pg_Table, hd_Table, po_Table, sa_Table⟩, na_list5 na_Table_0 na_Table_1 na_Table_2 na_Table_3 na_Table_4⟩, w_choose := fnT X G a_w_choose l_w_choose c_w_choose k_w_choose, w_is_less := fnT X G a_w_is_less l_w_is_less c_w_is_less k_w_is_less, w_divisor := fnT X G a_w_divisor l_w_divisor c_w_divisor k_w_divisor, w_low := fnT X G a_w_low l_w_low c_w_low k_w_low, w_minus := fnT X G a_w_minus l_w_minus c_w_minus k_w_minus, w_seed := fnT X G a_w_seed l_w_seed c_w_seed k_w_seed, divisor := fnT X G a_divisor l_divisor c_divisor k_divisor, lowest := fnT X G a_lowest l_lowest c_lowest k_lowest, less_by := fnT X G a_less_by l_less_by c_less_by k_less_by, differences := fnT X G a_differences l_differences c_differences k_differences, is_less := fnT X G a_is_less l_is_less c_is_less k_is_less, is_integer := fnT X G a_is_integer l_is_integer c_is_integer k_is_integer, value_of := fnT X G a_value_of l_value_of c_value_of k_value_of, values_of := fnT X G a_values_of l_values_of c_values_of k_values_of, is_kind := fnT X G a_is_kind l_is_kind c_is_kind k_is_kind, multiplied := fnT X G a_multiplied l_multiplied c_multiplied k_multiplied, is_pair := fnT X G a_is_pair l_is_pair c_is_pair k_is_pair, is_value := fnT X G a_is_value l_is_value c_is_value k_is_value, is_seen := fnT X G a_is_seen l_is_seen c_is_seen k_is_seen, is_sequence := fnT X G a_is_sequence l_is_sequence c_is_sequence k_is_sequence, need_seen := fnT X G a_need_seen l_need_seen c_need_seen k_need_seen, Table_init := ⟨f_Table_init, _, fun_mk l_Table_init c_Table_init k_Table_init, ⟨a_Table_init, i_Table_init, k_Table_init⟩⟩, mk_Table := ⟨mk_Table, a_Table_init, i_Table_init, kc_Table⟩, quotient := fnT X G a_quotient l_quotient c_quotient k_quotient, Table_turn := ⟨f_Table_turn, _, fun_mk l_Table_turn c_Table_turn k_Table_turn, ⟨a_Table_turn, i_Table_turn, k_Table_turn⟩⟩, Table_clear := ⟨f_Table_clear, _, fun_mk l_Table_clear c_Table_clear k_Table_clear, ⟨a_Table_clear, i_Table_clear, k_Table_clear⟩⟩, added := fnT X G a_added l_added c_added k_added, summed := fnT X G a_summed l_summed c_summed k_summed, Table_costs_left := ⟨f_Table_costs_left, _, fun_mk l_Table_costs_left c_Table_costs_left k_Table_costs_left, ⟨a_Table_costs_left, i_Table_costs_left, k_Table_costs_left⟩⟩, Table_counts_of := ⟨f_Table_counts_of, _, fun_mk l_Table_counts_of c_Table_counts_of k_Table_counts_of, ⟨a_Table_counts_of, i_Table_counts_of, k_Table_counts_of⟩⟩, Table_place_for := ⟨f_Table_place_for, _, fun_mk l_Table_place_for c_Table_place_for k_Table_place_for, ⟨a_Table_place_for, i_Table_place_for, k_Table_place_for⟩⟩, Table_lower := ⟨f_Table_lower, _, fun_mk l_Table_lower c_Table_lower k_Table_lower, ⟨a_Table_lower, i_Table_lower, k_Table_lower⟩⟩, Table_values_now := ⟨f_Table_values_now, _, fun_mk l_Table_values_now c_Table_values_now k_Table_values_now, ⟨a_Table_values_now, i_Table_values_now, k_Table_values_now⟩⟩, Table_way_of := ⟨f_Table_way_of, _, fun_mk l_Table_way_of c_Table_way_of k_Table_way_of, ⟨a_Table_way_of, i_Table_way_of, k_Table_way_of⟩⟩, row_told := fnT X G a_row_told l_row_told c_row_told k_row_told, product_to := fnT X G a_product_to l_product_to c_product_to k_product_to, ways_to_choose := fnT X G a_ways_to_choose l_ways_to_choose c_ways_to_choose k_ways_to_choose, unit_row := fnT X G a_unit_row l_unit_row c_unit_row k_unit_row, factors_of := fnT X G a_factors_of l_factors_of c_factors_of k_factors_of, row_of := fnT X G a_row_of l_row_of c_row_of k_row_of, power_row := fnT X G a_power_row l_power_row c_power_row k_power_row, unit_rows := fnT X G a_unit_rows l_unit_rows c_unit_rows k_unit_rows, solved := fnT X G a_solved l_solved c_solved k_solved, row_paper := fnT X G a_row_paper l_row_paper c_row_paper k_row_paper, row_least := fnT X G a_row_least l_row_least c_row_least k_row_least, row_greatest := fnT X G a_row_greatest l_row_greatest c_row_greatest k_row_greatest, row_kernel := fnT X G a_row_kernel l_row_kernel c_row_kernel k_row_kernel, row_refuting := fnT X G a_row_refuting l_row_refuting c_row_refuting k_row_refuting, row_never_below := fnT X G a_row_never_below l_row_never_below c_row_never_below k_row_never_below, are_values := fnT X G a_are_values l_are_values c_are_values k_are_values, are_counts := fnT X G a_are_counts l_are_counts c_are_counts k_are_counts, is_row := fnT X G a_is_row l_is_row c_is_row k_is_row, worth_of := fnT X G a_worth_of l_worth_of c_worth_of k_worth_of, row_paper_holds := fnT X G a_row_paper_holds l_row_paper_holds c_row_paper_holds k_row_paper_holds, law := fnT X G a_law l_law c_law k_law, MINUS := coTup X G a_MINUS l_MINUS v_MINUS.1 (Classical.choose_spec v_MINUS.2).1 (Classical.choose_spec v_MINUS.2).2, NOUGHT := coTup X G a_NOUGHT l_NOUGHT v_NOUGHT.1 (Classical.choose_spec v_NOUGHT.2).1 (Classical.choose_spec v_NOUGHT.2).2, ONE := coTup X G a_ONE l_ONE v_ONE.1 (Classical.choose_spec v_ONE.2).1 (Classical.choose_spec v_ONE.2).2, abs := PySem.W.mg_none_of X G z_abs, all := PySem.W.mg_none_of X G z_all, any := PySem.W.mg_none_of X G z_any, bool := PySem.W.mg_none_of X G z_bool, enumerate := PySem.W.mg_none_of X G z_enumerate, int := PySem.W.mg_none_of X G z_int, isinstance := PySem.W.mg_none_of X G z_isinstance, len := PySem.W.mg_none_of X G z_len, list := PySem.W.mg_none_of X G z_list, max := PySem.W.mg_none_of X G z_max, min := PySem.W.mg_none_of X G z_min, range := PySem.W.mg_none_of X G z_range, str := PySem.W.mg_none_of X G z_str, tuple := PySem.W.mg_none_of X G z_tuple, zip := PySem.W.mg_none_of X G z_zip }, rfl⟩
  obtain ⟨T, hT⟩ := T
  refine ⟨(fnT X G a_law l_law c_law k_law).fd, fun s v => .of_eq rfl, fun base s H a Q _ _ e0 bd0 q => ?_⟩
  have z := ok_law (P := l.prog) (w := w) (base := base) T (s := s) (H := H) (a := a) (Q := Q) e0
  rw [hT] at z
  exact z bd0 q
end Bk
open PySem PySem.W PyProof.Rows
theorem PySem.Challenge.cw_bendkinds_k85_whole_cones_of_rows_holds : PySem.Challenge.rw_bendkinds_k85_whole_cones_of_rows.Holds := by
  w_on; o_law; k_head; (case hw => w_witness2)
  k_fill
  refine Bk.law_end (l := PySem.Challenge.rw_bendkinds_k85_whole_cones_of_rows) (x := "_law_script") (m := Bk.r_law) rfl rfl (fun w h Y => PySem.W.kIn_of Y) ?F Bk.law_true
  case F =>
    intro w mg fa h KX G hmg
    refine' Bk.all_mk KX G hmg ?aC_Table ?pg_Table ?hd_Table ?po_Table ?sa_Table ?na_Table_0 ?na_Table_1 ?na_Table_2 ?na_Table_3 ?na_Table_4 ?a_w_choose ?l_w_choose ?c_w_choose ?k_w_choose ?a_w_is_less ?l_w_is_less ?c_w_is_less ?k_w_is_less ?a_w_divisor ?l_w_divisor ?c_w_divisor ?k_w_divisor ?a_w_low ?l_w_low ?c_w_low ?k_w_low ?a_w_minus ?l_w_minus ?c_w_minus ?k_w_minus ?a_w_seed ?l_w_seed ?c_w_seed ?k_w_seed ?a_divisor ?l_divisor ?c_divisor ?k_divisor ?a_lowest ?l_lowest ?c_lowest ?k_lowest ?a_less_by ?l_less_by ?c_less_by ?k_less_by ?a_differences ?l_differences ?c_differences ?k_differences ?a_is_less ?l_is_less ?c_is_less ?k_is_less ?a_is_integer ?l_is_integer ?c_is_integer ?k_is_integer ?a_value_of ?l_value_of ?c_value_of ?k_value_of ?a_values_of ?l_values_of ?c_values_of ?k_values_of ?a_is_kind ?l_is_kind ?c_is_kind ?k_is_kind ?a_multiplied ?l_multiplied ?c_multiplied ?k_multiplied ?a_is_pair ?l_is_pair ?c_is_pair ?k_is_pair ?a_is_value ?l_is_value ?c_is_value ?k_is_value ?a_is_seen ?l_is_seen ?c_is_seen ?k_is_seen ?a_is_sequence ?l_is_sequence ?c_is_sequence ?k_is_sequence ?a_need_seen ?l_need_seen ?c_need_seen ?k_need_seen ?a_Table_init ?l_Table_init ?c_Table_init ?k_Table_init ?i_Table_init ?mk_Table ?kc_Table ?a_quotient ?l_quotient ?c_quotient ?k_quotient ?a_Table_turn ?l_Table_turn ?c_Table_turn ?k_Table_turn ?i_Table_turn ?a_Table_clear ?l_Table_clear ?c_Table_clear ?k_Table_clear ?i_Table_clear ?a_added ?l_added ?c_added ?k_added ?a_summed ?l_summed ?c_summed ?k_summed ?a_Table_costs_left ?l_Table_costs_left ?c_Table_costs_left ?k_Table_costs_left ?i_Table_costs_left ?a_Table_counts_of ?l_Table_counts_of ?c_Table_counts_of ?k_Table_counts_of ?i_Table_counts_of ?a_Table_place_for ?l_Table_place_for ?c_Table_place_for ?k_Table_place_for ?i_Table_place_for ?a_Table_lower ?l_Table_lower ?c_Table_lower ?k_Table_lower ?i_Table_lower ?a_Table_values_now ?l_Table_values_now ?c_Table_values_now ?k_Table_values_now ?i_Table_values_now ?a_Table_way_of ?l_Table_way_of ?c_Table_way_of ?k_Table_way_of ?i_Table_way_of ?a_row_told ?l_row_told ?c_row_told ?k_row_told ?a_product_to ?l_product_to ?c_product_to ?k_product_to ?a_ways_to_choose ?l_ways_to_choose ?c_ways_to_choose ?k_ways_to_choose ?a_unit_row ?l_unit_row ?c_unit_row ?k_unit_row ?a_factors_of ?l_factors_of ?c_factors_of ?k_factors_of ?a_row_of ?l_row_of ?c_row_of ?k_row_of ?a_power_row ?l_power_row ?c_power_row ?k_power_row ?a_unit_rows ?l_unit_rows ?c_unit_rows ?k_unit_rows ?a_solved ?l_solved ?c_solved ?k_solved ?a_row_paper ?l_row_paper ?c_row_paper ?k_row_paper ?a_row_least ?l_row_least ?c_row_least ?k_row_least ?a_row_greatest ?l_row_greatest ?c_row_greatest ?k_row_greatest ?a_row_kernel ?l_row_kernel ?c_row_kernel ?k_row_kernel ?a_row_refuting ?l_row_refuting ?c_row_refuting ?k_row_refuting ?a_row_never_below ?l_row_never_below ?c_row_never_below ?k_row_never_below ?a_are_values ?l_are_values ?c_are_values ?k_are_values ?a_are_counts ?l_are_counts ?c_are_counts ?k_are_counts ?a_is_row ?l_is_row ?c_is_row ?k_is_row ?a_worth_of ?l_worth_of ?c_worth_of ?k_worth_of ?a_row_paper_holds ?l_row_paper_holds ?c_row_paper_holds ?k_row_paper_holds ?a_law ?l_law ?c_law ?k_law ?a_MINUS ?l_MINUS ?v_MINUS ?a_NOUGHT ?l_NOUGHT ?v_NOUGHT ?a_ONE ?l_ONE ?v_ONE ?z_abs ?z_all ?z_any ?z_bool ?z_enumerate ?z_int ?z_isinstance ?z_len ?z_list ?z_max ?z_min ?z_range ?z_str ?z_tuple ?z_zip
    (case aC_Table => k_is)
    (case pg_Table => k_is)
    (case hd_Table => k_is)
    (case po_Table => k_is)
    (case sa_Table => k_is)
    (case na_Table_0 => k_is)
    (case na_Table_1 => k_is)
    (case na_Table_2 => k_is)
    (case na_Table_3 => k_is)
    (case na_Table_4 => k_is)
    (case a_w_choose => k_is)
    (case l_w_choose => k_is)
    (case c_w_choose => k_is)
    (case k_w_choose => k_is)
    (case a_w_is_less => k_is)
    (case l_w_is_less => k_is)
    (case c_w_is_less => k_is)
    (case k_w_is_less => k_is)
    (case a_w_divisor => k_is)
    (case l_w_divisor => k_is)
    (case c_w_divisor => k_is)
    (case k_w_divisor => k_is)
    (case a_w_low => k_is)
    (case l_w_low => k_is)
    (case c_w_low => k_is)
    (case k_w_low => k_is)
    (case a_w_minus => k_is)
    (case l_w_minus => k_is)
    (case c_w_minus => k_is)
    (case k_w_minus => k_is)
    (case a_w_seed => k_is)
    (case l_w_seed => k_is)
    (case c_w_seed => k_is)
    (case k_w_seed => k_is)
    (case a_divisor => k_is)
    (case l_divisor => k_is)
    (case c_divisor => k_is)
    (case k_divisor => k_is)
    (case a_lowest => k_is)
    (case l_lowest => k_is)
    (case c_lowest => k_is)
    (case k_lowest => k_is)
    (case a_less_by => k_is)
    (case l_less_by => k_is)
    (case c_less_by => k_is)
    (case k_less_by => k_is)
    (case a_differences => k_is)
    (case l_differences => k_is)
    (case c_differences => k_is)
    (case k_differences => k_is)
    (case a_is_less => k_is)
    (case l_is_less => k_is)
    (case c_is_less => k_is)
    (case k_is_less => k_is)
    (case a_is_integer => k_is)
    (case l_is_integer => k_is)
    (case c_is_integer => k_is)
    (case k_is_integer => k_is)
    (case a_value_of => k_is)
    (case l_value_of => k_is)
    (case c_value_of => k_is)
    (case k_value_of => k_is)
    (case a_values_of => k_is)
    (case l_values_of => k_is)
    (case c_values_of => k_is)
    (case k_values_of => k_is)
    (case a_is_kind => k_is)
    (case l_is_kind => k_is)
    (case c_is_kind => k_is)
    (case k_is_kind => k_is)
    (case a_multiplied => k_is)
    (case l_multiplied => k_is)
    (case c_multiplied => k_is)
    (case k_multiplied => k_is)
    (case a_is_pair => k_is)
    (case l_is_pair => k_is)
    (case c_is_pair => k_is)
    (case k_is_pair => k_is)
    (case a_is_value => k_is)
    (case l_is_value => k_is)
    (case c_is_value => k_is)
    (case k_is_value => k_is)
    (case a_is_seen => k_is)
    (case l_is_seen => k_is)
    (case c_is_seen => k_is)
    (case k_is_seen => k_is)
    (case a_is_sequence => k_is)
    (case l_is_sequence => k_is)
    (case c_is_sequence => k_is)
    (case k_is_sequence => k_is)
    (case a_need_seen => k_is)
    (case l_need_seen => k_is)
    (case c_need_seen => k_is)
    (case k_need_seen => k_is)
    (case a_Table_init => k_is)
    (case l_Table_init => k_is)
    (case c_Table_init => k_is)
    (case k_Table_init => k_is)
    (case i_Table_init => k_is)
    (case mk_Table => k_is)
    (case kc_Table => k_is)
    (case a_quotient => k_is)
    (case l_quotient => k_is)
    (case c_quotient => k_is)
    (case k_quotient => k_is)
    (case a_Table_turn => k_is)
    (case l_Table_turn => k_is)
    (case c_Table_turn => k_is)
    (case k_Table_turn => k_is)
    (case i_Table_turn => k_is)
    (case a_Table_clear => k_is)
    (case l_Table_clear => k_is)
    (case c_Table_clear => k_is)
    (case k_Table_clear => k_is)
    (case i_Table_clear => k_is)
    (case a_added => k_is)
    (case l_added => k_is)
    (case c_added => k_is)
    (case k_added => k_is)
    (case a_summed => k_is)
    (case l_summed => k_is)
    (case c_summed => k_is)
    (case k_summed => k_is)
    (case a_Table_costs_left => k_is)
    (case l_Table_costs_left => k_is)
    (case c_Table_costs_left => k_is)
    (case k_Table_costs_left => k_is)
    (case i_Table_costs_left => k_is)
    (case a_Table_counts_of => k_is)
    (case l_Table_counts_of => k_is)
    (case c_Table_counts_of => k_is)
    (case k_Table_counts_of => k_is)
    (case i_Table_counts_of => k_is)
    (case a_Table_place_for => k_is)
    (case l_Table_place_for => k_is)
    (case c_Table_place_for => k_is)
    (case k_Table_place_for => k_is)
    (case i_Table_place_for => k_is)
    (case a_Table_lower => k_is)
    (case l_Table_lower => k_is)
    (case c_Table_lower => k_is)
    (case k_Table_lower => k_is)
    (case i_Table_lower => k_is)
    (case a_Table_values_now => k_is)
    (case l_Table_values_now => k_is)
    (case c_Table_values_now => k_is)
    (case k_Table_values_now => k_is)
    (case i_Table_values_now => k_is)
    (case a_Table_way_of => k_is)
    (case l_Table_way_of => k_is)
    (case c_Table_way_of => k_is)
    (case k_Table_way_of => k_is)
    (case i_Table_way_of => k_is)
    (case a_row_told => k_is)
    (case l_row_told => k_is)
    (case c_row_told => k_is)
    (case k_row_told => k_is)
    (case a_product_to => k_is)
    (case l_product_to => k_is)
    (case c_product_to => k_is)
    (case k_product_to => k_is)
    (case a_ways_to_choose => k_is)
    (case l_ways_to_choose => k_is)
    (case c_ways_to_choose => k_is)
    (case k_ways_to_choose => k_is)
    (case a_unit_row => k_is)
    (case l_unit_row => k_is)
    (case c_unit_row => k_is)
    (case k_unit_row => k_is)
    (case a_factors_of => k_is)
    (case l_factors_of => k_is)
    (case c_factors_of => k_is)
    (case k_factors_of => k_is)
    (case a_row_of => k_is)
    (case l_row_of => k_is)
    (case c_row_of => k_is)
    (case k_row_of => k_is)
    (case a_power_row => k_is)
    (case l_power_row => k_is)
    (case c_power_row => k_is)
    (case k_power_row => k_is)
    (case a_unit_rows => k_is)
    (case l_unit_rows => k_is)
    (case c_unit_rows => k_is)
    (case k_unit_rows => k_is)
    (case a_solved => k_is)
    (case l_solved => k_is)
    (case c_solved => k_is)
    (case k_solved => k_is)
    (case a_row_paper => k_is)
    (case l_row_paper => k_is)
    (case c_row_paper => k_is)
    (case k_row_paper => k_is)
    (case a_row_least => k_is)
    (case l_row_least => k_is)
    (case c_row_least => k_is)
    (case k_row_least => k_is)
    (case a_row_greatest => k_is)
    (case l_row_greatest => k_is)
    (case c_row_greatest => k_is)
    (case k_row_greatest => k_is)
    (case a_row_kernel => k_is)
    (case l_row_kernel => k_is)
    (case c_row_kernel => k_is)
    (case k_row_kernel => k_is)
    (case a_row_refuting => k_is)
    (case l_row_refuting => k_is)
    (case c_row_refuting => k_is)
    (case k_row_refuting => k_is)
    (case a_row_never_below => k_is)
    (case l_row_never_below => k_is)
    (case c_row_never_below => k_is)
    (case k_row_never_below => k_is)
    (case a_are_values => k_is)
    (case l_are_values => k_is)
    (case c_are_values => k_is)
    (case k_are_values => k_is)
    (case a_are_counts => k_is)
    (case l_are_counts => k_is)
    (case c_are_counts => k_is)
    (case k_are_counts => k_is)
    (case a_is_row => k_is)
    (case l_is_row => k_is)
    (case c_is_row => k_is)
    (case k_is_row => k_is)
    (case a_worth_of => k_is)
    (case l_worth_of => k_is)
    (case c_worth_of => k_is)
    (case k_worth_of => k_is)
    (case a_row_paper_holds => k_is)
    (case l_row_paper_holds => k_is)
    (case c_row_paper_holds => k_is)
    (case k_row_paper_holds => k_is)
    (case a_law => k_is)
    (case l_law => k_is)
    (case c_law => k_is)
    (case k_law => k_is)
    (case a_MINUS => k_is)
    (case l_MINUS => k_is)
    (case a_NOUGHT => k_is)
    (case l_NOUGHT => k_is)
    (case a_ONE => k_is)
    (case l_ONE => k_is)
    (case z_abs => k_is)
    (case z_all => k_is)
    (case z_any => k_is)
    (case z_bool => k_is)
    (case z_enumerate => k_is)
    (case z_int => k_is)
    (case z_isinstance => k_is)
    (case z_len => k_is)
    (case z_list => k_is)
    (case z_max => k_is)
    (case z_min => k_is)
    (case z_range => k_is)
    (case z_str => k_is)
    (case z_tuple => k_is)
    (case z_zip => k_is)
    (case v_MINUS => exact ⟨by decide, [.int (-1), .int (1)], .cons ⟨_, rfl⟩ (.cons ⟨_, rfl⟩ (.nil)), fun _ => .cons (.int _) (.cons (.int _) (.nil))⟩)
    (case v_NOUGHT => exact ⟨by decide, [.int (0), .int (1)], .cons ⟨_, rfl⟩ (.cons ⟨_, rfl⟩ (.nil)), fun _ => .cons (.int _) (.cons (.int _) (.nil))⟩)
    (case v_ONE => exact ⟨by decide, [.int (1), .int (1)], .cons ⟨_, rfl⟩ (.cons ⟨_, rfl⟩ (.nil)), fun _ => .cons (.int _) (.cons (.int _) (.nil))⟩)
