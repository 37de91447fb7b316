import PyProof.Rows.All
import Wide.All
import OpenK.AllK
import Wide.FinOn
import HandS.ForMost
import HandS.IsInst
import HandS.Wide
import HandS.Flow
import HandS.Style
import HandS.RaiseMore
import KE.GoesEnum
import HandS.Codes
import KE.KOpsOwn
import KE.KCallOwn
import KE.KFmtOwn
import HandS.SlotsOwn
import HandS.TupAny
import HandS.Star
import HandS.FStr
import HandS.Text
import HandS.Comp
import HandS.Replace
import HandS.SortRule
import HandS.SortInts
import HandS.Defaults
import HandS.MakeKw
import HandS.Strs
import HandS.SetFor
import HandS.TupMul
import HandS.Deep
import PyProof.StrBlock2
import KE.KDictZip
import KE.KTurns
import HandS.Conv
import HandS.Property
import KE.KDictList
import HandS.Dict
import HandS.MakeKwOnly
import HandS.ClsMeth
import KE.RegKIsAll
import PySem.Challenge.RW_bendkinds_k58_arguments_by_names
set_option Elab.async false
set_option linter.all false
set_option maxRecDepth 100000
set_option maxHeartbeats 4000000
namespace Bk
open PySem L2
inductive D where
  | non | bl (b : Bool) | int (i : Int) | str (x : PySem.Str)
  | lst (xs : List D) | frz (xs : List D) | tup (xs : List D) | obj (c : Nat) (xs : List D) | ty (n : String) | cl (c : Nat) | dic (ks : List PySem.Str) (xs : List D)
def cName : Nat → PySem.Str
  | 0 => "Rule" | 1 => "Part" | 2 => "Live" | 3 => "Block" | 4 => "Desk" | _ => "Table"
def cAttrs : Nat → List PySem.Str
  | 0 => ["low", "high", "weights", "shares"]
  | 1 => ["start", "end", "powers", "whole", "least_high", "most_high"]
  | 2 => ["past"] | 3 => ["live", "kept"] | 4 => ["kept"]
  | _ => ["many", "size", "signs", "lines", "base"]
/-- the class of that number stands at C -/
def CAt (K : PySem.W.Frag) (c : Nat) (C : Addr) : Prop := PySem.W.nsIn K mainGlobals (cName c) = some (some (.ref C))
theorem CAt.eq {K : PySem.W.Frag} {c : Nat} {C C' : Addr} (h : CAt K c C) (h' : CAt K c C') : C = C' := by
  unfold CAt at h h'
  rw [h] at h'
  cases h'
  rfl
mutual
inductive DR (K : PySem.W.Frag) (H : Hp) : V → D → Prop
  | non : DR K H .non .non
  | bl (b : Bool) : DR K H (.bl b) (.bl b)
  | int (i : Int) : DR K H (.int i) (.int i)
  | str (x : PySem.Str) : DR K H (.str x) (.str x)
  | lst {a : Addr} {xs : List V} {ds : List D} : H a = some (.lst xs) → DRs K H xs ds → DR K H (.ref a) (.lst ds)
  | frz {a : Addr} {xs : List V} {ds : List D} : SqL K H a xs → DRs K H xs ds → DR K H (.ref a) (.frz ds)
  | tup {a : Addr} {xs : List V} {ds : List D} : SqT K H a xs → DRs K H xs ds → DR K H (.ref a) (.tup ds)
  | obj {a C dx : Addr} {c : Nat} {fs : List (PySem.Str × V)} {vs : List V} {ds : List D} : CAt K c C → H a = some (.ins C dx fs) → fs.map (·.1) = (cAttrs c).take ds.length → fs.map (·.2) = vs → DRs K H vs ds → DR K H (.ref a) (.obj c ds)
  | ty (n : String) : DR K H (.ty n) (.ty n)
  | cl {c : Nat} {C : Addr} : CAt K c C → DR K H (.ref C) (.cl c)
  | dic {a : Addr} {ks : List PySem.Str} {vs : List V} {ds : List D} : Rd H a (.dK ((ks.map Sum.inr).zip vs)) → DRs K H vs ds → ks.length = vs.length → DR K H (.ref a) (.dic ks ds)
inductive DRs (K : PySem.W.Frag) (H : Hp) : List V → List D → Prop
  | nil : DRs K H [] []
  | cons {v : V} {vs : List V} {d : D} {ds : List D} : DR K H v d → DRs K H vs ds → DRs K H (v :: vs) (d :: ds)
end
theorem same_rd {H H' : Hp} (e : Same H H') {a : Addr} {u : HO} (r : Rd H a u) : Rd H' a u := by
  cases r with
  | inl h => exact .inl (e _ _ h)
  | inr h =>
    obtain ⟨o, h⟩ := h
    exact .inr ⟨o, e _ _ h⟩
theorem same_tup {K : PySem.W.Frag} {H H' : Hp} (e : Same H H') {a : Addr} {xs : List V} (h : SqT K H a xs) : SqT K H' a xs := by
  cases h with
  | inl h => exact .inl (same_rd e h)
  | inr h => exact .inr h
theorem same_lst {K : PySem.W.Frag} {H H' : Hp} (e : Same H H') {a : Addr} {xs : List V} (h : SqL K H a xs) : SqL K H' a xs := by
  cases h with
  | inl h => exact .inl (same_rd e h)
  | inr h => exact .inr h
mutual
theorem DR.mono {K : PySem.W.Frag} {H H' : Hp} (e : Same H H') : ∀ {v : V} {d : D}, DR K H v d → DR K H' v d
  | _, _, .non => .non
  | _, _, .bl b => .bl b
  | _, _, .int i => .int i
  | _, _, .str x => .str x
  | _, _, .lst h hs => .lst (e _ _ h) (DRs.mono e hs)
  | _, _, .frz h hs => .frz (same_lst e h) (DRs.mono e hs)
  | _, _, .tup h hs => .tup (same_tup e h) (DRs.mono e hs)
  | _, _, .obj c h h1 h2 hs => .obj c (e _ _ h) h1 h2 (DRs.mono e hs)
  | _, _, .ty n => .ty n
  | _, _, .cl c => .cl c
  | _, _, .dic h hs hl => .dic (same_rd e h) (DRs.mono e hs) hl
theorem DRs.mono {K : PySem.W.Frag} {H H' : Hp} (e : Same H H') : ∀ {vs : List V} {ds : List D}, DRs K H vs ds → DRs K H' vs ds
  | _, _, .nil => .nil
  | _, _, .cons h hs => .cons (DR.mono e h) (DRs.mono e hs)
end
section
variable {K : PySem.W.Frag} {H : Hp}
theorem DRs.len : ∀ {vs : List V} {ds : List D}, DRs K H vs ds → vs.length = ds.length
  | _, _, .nil => rfl
  | _, _, .cons _ hs => congrArg Nat.succ (DRs.len hs)
theorem DRs.at : ∀ {vs : List V} {ds : List D} {i : Nat} {d : D}, DRs K H vs ds → ds[i]? = some d → ∃ v, vs[i]? = some v ∧ DR K H v d
  | _, _, _, _, .nil, e => by simp at e
  | _, _, 0, _, .cons h _, e => by simp at e; subst e; exact ⟨_, rfl, h⟩
  | _, _, i + 1, _, .cons _ hs, e => by
    obtain ⟨v, h1, h2⟩ := DRs.at (i := i) hs (by simpa using e)
    exact ⟨v, by simpa using h1, h2⟩
theorem DRs.ta : ∀ {vs : List V} {ds : List D} {i : Nat} {v : V}, DRs K H vs ds → vs[i]? = some v → ∃ d, ds[i]? = some d ∧ DR K H v d
  | _, _, _, _, .nil, e => by simp at e
  | _, _, 0, _, .cons h _, e => by simp at e; subst e; exact ⟨_, rfl, h⟩
  | _, _, i + 1, _, .cons _ hs, e => by
    obtain ⟨v, h1, h2⟩ := DRs.ta (i := i) hs (by simpa using e)
    exact ⟨v, by simpa using h1, h2⟩
theorem DRs.app : ∀ {vs ws : List V} {ds es : List D}, DRs K H vs ds → DRs K H ws es → DRs K H (vs ++ ws) (ds ++ es)
  | _, _, _, _, .nil, h => h
  | _, _, _, _, .cons a t, h => .cons a (DRs.app t h)
theorem DRs.one {v : V} {d : D} (h : DR K H v d) : DRs K H [v] [d] := .cons h .nil
theorem DRs.drop : ∀ {vs : List V} {ds : List D} (n : Nat), DRs K H vs ds → DRs K H (vs.drop n) (ds.drop n)
  | _, _, 0, h => h
  | _, _, _ + 1, .nil => .nil
  | _, _, n + 1, .cons _ t => DRs.drop n t
theorem DRs.take : ∀ {vs : List V} {ds : List D} (n : Nat), DRs K H vs ds → DRs K H (vs.take n) (ds.take n)
  | _, _, 0, _ => .nil
  | _, _, _ + 1, .nil => .nil
  | _, _, n + 1, .cons a t => .cons a (DRs.take n t)
theorem DRs.set {v : V} {d : D} (h : DR K H v d) : ∀ {vs : List V} {ds : List D} (i : Nat), DRs K H vs ds → DRs K H (vs.set i v) (ds.set i d)
  | _, _, _, .nil => .nil
  | _, _, 0, .cons _ t => .cons h t
  | _, _, i + 1, .cons a t => .cons a (DRs.set h i t)
theorem DRs.rev : ∀ {vs : List V} {ds : List D}, DRs K H vs ds → DRs K H vs.reverse ds.reverse
  | _, _, .nil => .nil
  | _, _, .cons a t => by
    rw [List.reverse_cons, List.reverse_cons]
    exact DRs.app (DRs.rev t) (.cons a .nil)
theorem DRs.rep {vs : List V} {ds : List D} (h : DRs K H vs ds) : ∀ k : Nat, DRs K H (List.replicate k vs).flatten (List.replicate k ds).flatten
  | 0 => .nil
  | k + 1 => by
    rw [List.replicate_succ, List.replicate_succ, List.flatten_cons, List.flatten_cons]
    exact DRs.app h (DRs.rep h k)
theorem DRs.ints : ∀ (ns : List Int), DRs K H (ns.map V.int) (ns.map D.int)
  | [] => .nil
  | n :: ns => .cons (.int n) (DRs.ints ns)
end
/-- what may change: a list, an instance -/
inductive Mob where
  | l (ds : List D) | o (c : Nat) (ds : List D)
def Mob.d : Mob → D
  | .l ds => .lst ds
  | .o c ds => .obj c ds
inductive Ent where
  | un | im (d : D) | ow (m : Mob) | bx (m : Mob)
def Ent.mu : Ent → Option Mob
  | .ow m => some m
  | .bx m => some m
  | _ => none
abbrev Gam := List Ent
inductive R where
  | im (d : D) | ow (m : Mob)
abbrev R.ol (ds : List D) : R := .ow (.l ds)
abbrev Ent.ol (ds : List D) : Ent := .ow (.l ds)
abbrev Ent.bl (ds : List D) : Ent := .bx (.l ds)
def R.d : R → D
  | .im d => d
  | .ow m => m.d
def R.ent : R → Ent
  | .im d => .im d
  | .ow m => .ow m
abbrev M (α : Type) := Gam → Option (α × Gam)
/-- the object at an address is that thing -/
def MobO (K : PySem.W.Frag) (Hs : Hp) : Mob → HO → Prop
  | .l ds, o => ∃ vs, o = .lst vs ∧ DRs K Hs vs ds
  | .o c ds, o => ∃ C dx fs, CAt K c C ∧ o = .ins C dx fs ∧ fs.map (·.1) = (cAttrs c).take ds.length ∧ DRs K Hs (fs.map (·.2)) ds
theorem MobO.mono {K : PySem.W.Frag} {H H' : Hp} (e : Same H H') {m : Mob} {o : HO} (h : MobO K H m o) : MobO K H' m o := by
  cases m with
  | l ds =>
    obtain ⟨vs, h1, h2⟩ := h
    exact ⟨vs, h1, h2.mono e⟩
  | o c ds =>
    obtain ⟨C, dx, fs, h1, h2, h3, h4⟩ := h
    exact ⟨C, dx, fs, h1, h2, h3, h4.mono e⟩
theorem MobO.dr {K : PySem.W.Frag} {H : Hp} {m : Mob} {o : HO} {a : Addr} (h : MobO K H m o) (ha : H a = some o) : DR K H (.ref a) m.d := by
  cases m with
  | l ds =>
    obtain ⟨vs, rfl, h2⟩ := h
    exact .lst ha h2
  | o c ds =>
    obtain ⟨C, dx, fs, h1, rfl, h3, h4⟩ := h
    exact .obj h1 ha h3 rfl h4
structure Rel (K : PySem.W.Frag) (Fz : Hp) (ba : Nat → Addr) (G : Gam) (σ : L2.St) (H Hs : Hp) : Prop where
  sub : Same Hs H
  fz : ∀ a o, Fz a = some o → H a = some o ∧ Hs a = none
  len : σ.length = G.length
  im : ∀ (i : Nat) (d : D), G[i]? = some (.im d) → ∃ v, σ[i]? = some (some v) ∧ DR K Hs v d
  mu : ∀ (i : Nat) (e : Ent) (m : Mob), G[i]? = some e → e.mu = some m → ∃ l o, σ[i]? = some (some (.ref l)) ∧ H l = some o ∧ Hs l = none ∧ Fz l = none ∧ MobO K Hs m o
  dj : ∀ (i j : Nat) (e e' : Ent) (l : Addr), G[i]? = some e → G[j]? = some e' → e.mu ≠ none → e'.mu ≠ none → σ[i]? = some (some (.ref l)) → σ[j]? = some (some (.ref l)) → i = j
  bx : ∀ (i : Nat) (m : Mob), G[i]? = some (.bx m) → σ[i]? = some (some (.ref (ba i)))
/-- more was laid, nothing that stood was touched; what is hidden stays hidden -/
structure Ext (H Hs H' Hs' : Hp) : Prop where
  a : Same H H'
  b : Same Hs Hs'
  c : Same Hs' H'
  n : ∀ x o, H x = some o → Hs x = none → Hs' x = none
theorem Ext.refl {H Hs : Hp} (s : Same Hs H) : Ext H Hs H Hs := ⟨Same.refl _, Same.refl _, s, fun _ _ _ h => h⟩
theorem Ext.trans {H Hs H1 Hs1 H2 Hs2 : Hp} (p : Ext H Hs H1 Hs1) (q : Ext H1 Hs1 H2 Hs2) : Ext H Hs H2 Hs2 :=
  ⟨p.a.trans q.a, p.b.trans q.b, q.c, fun x o h1 h2 => q.n x o (p.a x o h1) (p.n x o h1 h2)⟩
theorem same_new {H : Hp} {p : Addr} {o : HO} (h : H p = none) : Same H (upd H p o) := fun a u e => by
  rw [upd_ne (ne_of_none e h)]
  exact e
theorem none_sub {Hs H : Hp} (s : Same Hs H) {p : Addr} (h : H p = none) : Hs p = none := s.free h
theorem same_upd2 {Hs H : Hp} (s : Same Hs H) {p : Addr} {o : HO} : Same (upd Hs p o) (upd H p o) := fun a u e => by
  by_cases z : a = p
  · subst z
    rw [upd_same] at e ⊢
    exact e
  · rw [upd_ne z] at e ⊢
    exact s a u e
theorem Ext.new {H Hs : Hp} {p : Addr} {o : HO} (s : Same Hs H) (h : H p = none) : Ext H Hs (upd H p o) (upd Hs p o) :=
  ⟨same_new h, same_new (none_sub s h), same_upd2 s, fun x u h1 h2 => by rw [upd_ne (ne_of_none h1 h)]; exact h2⟩
theorem Ext.hid {H Hs : Hp} {p : Addr} {o : HO} (s : Same Hs H) (h : H p = none) : Ext H Hs (upd H p o) Hs :=
  ⟨same_new h, Same.refl _, s.trans (same_new h), fun x u _ h2 => h2⟩
section
variable {K : PySem.W.Frag} {Fz : Hp} {ba : Nat → Addr} {G : Gam} {σ : L2.St} {H Hs H' Hs' : Hp}
theorem Rel.ext (r : Rel K Fz ba G σ H Hs) (e : Ext H Hs H' Hs') : Rel K Fz ba G σ H' Hs' where
  sub := e.c
  fz := fun a o h => let ⟨h1, h2⟩ := r.fz a o h; ⟨e.a a o h1, e.n a o h1 h2⟩
  len := r.len
  im := fun i d h => let ⟨v, h1, h2⟩ := r.im i d h; ⟨v, h1, h2.mono e.b⟩
  mu := fun i en ds h h0 => let ⟨l, vs, h1, h2, h3, h4, h5⟩ := r.mu i en ds h h0; ⟨l, vs, h1, e.a l _ h2, e.n l _ h2 h3, h4, h5.mono e.b⟩
  dj := r.dj
  bx := r.bx
def Res (K : PySem.W.Frag) (Fz : Hp) (G : Gam) (σ : L2.St) (H Hs : Hp) (v : V) : R → Prop
  | .im d => DR K Hs v d
  | .ow m => ∃ p o, v = .ref p ∧ H p = some o ∧ Hs p = none ∧ Fz p = none ∧ MobO K Hs m o ∧ ∀ (i : Nat) (e : Ent), G[i]? = some e → e.mu ≠ none → σ[i]? ≠ some (some (.ref p))
/-- an owned object becomes a shared one -/
theorem Rel.froze (r : Rel K Fz ba G σ H Hs) {p : Addr} {o : HO} (h : H p = some o) (hs : Hs p = none) (hf : Fz p = none) (hn : ∀ (i : Nat) (e : Ent), G[i]? = some e → e.mu ≠ none → σ[i]? ≠ some (some (.ref p))) :
    Rel K Fz ba G σ H (upd Hs p o) ∧ Same Hs (upd Hs p o) := by
  have sm : Same Hs (upd Hs p o) := same_new hs
  refine ⟨⟨fun a u e => ?_, fun a u e => ?_, r.len, fun i d e => ?_, fun i en ds e e0 => ?_, r.dj, r.bx⟩, sm⟩
  · by_cases z : a = p
    · subst z
      rw [upd_same] at e
      rw [h]
      exact e
    · rw [upd_ne z] at e
      exact r.sub a u e
  · obtain ⟨h1, h2⟩ := r.fz a u e
    refine ⟨h1, ?_⟩
    rw [upd_ne (ne_of_none e hf)]
    exact h2
  · obtain ⟨v, h1, h2⟩ := r.im i d e
    exact ⟨v, h1, h2.mono sm⟩
  · obtain ⟨l, vs, h1, h2, h3, h4, h5⟩ := r.mu i en ds e e0
    refine ⟨l, vs, h1, h2, ?_, h4, h5.mono sm⟩
    have z : l ≠ p := by
      intro z
      subst z
      exact hn i en e (by rw [e0]; simp) h1
    rw [upd_ne z]
    exact h3
theorem Rel.fzr (r : Rel K Fz ba G σ H Hs) {v : V} {x : R} (h : Res K Fz G σ H Hs v x) : ∃ Hs', Rel K Fz ba G σ H Hs' ∧ Same Hs Hs' ∧ DR K Hs' v x.d := by
  cases x with
  | im d => exact ⟨Hs, r, Same.refl _, h⟩
  | ow ds =>
    obtain ⟨p, vs, rfl, h1, h2, h3, h4, h5⟩ := h
    obtain ⟨q1, q2⟩ := r.froze h1 h2 h3 h5
    exact ⟨_, q1, q2, (h4.mono q2).dr upd_same⟩
theorem get_set {α : Type} {l : List α} {i j : Nat} {a b : α} (h : (l.set i a)[j]? = some b) : (i = j ∧ b = a ∧ i < l.length) ∨ (i ≠ j ∧ l[j]? = some b) := by
  by_cases z : i = j
  · subst z
    by_cases hi : i < l.length
    · rw [List.getElem?_set_self hi] at h
      cases h
      exact .inl ⟨rfl, rfl, hi⟩
    · rw [List.getElem?_eq_none (by simp; omega)] at h
      cases h
  · rw [List.getElem?_set_ne z] at h
    exact .inr ⟨z, h⟩
/-- a name is stored -/
theorem Rel.set (r : Rel K Fz ba G σ H Hs) {i : Nat} {v : V} {x : R} (h : Res K Fz G σ H Hs v x) : Rel K Fz ba (G.set i x.ent) (σ.set i (some v)) H Hs where
  sub := r.sub
  fz := r.fz
  len := by rw [List.length_set, List.length_set]; exact r.len
  im := fun j d e => by
    rcases get_set e with ⟨rfl, e1, hi⟩ | ⟨z, e1⟩
    · refine ⟨v, by rw [List.getElem?_set_self (by rw [r.len]; exact hi)], ?_⟩
      cases x with
      | im d' => cases e1; exact h
      | ow ds => cases e1
    · obtain ⟨v', h1, h2⟩ := r.im j d e1
      exact ⟨v', by rw [List.getElem?_set_ne z]; exact h1, h2⟩
  mu := fun j en ds e e0 => by
    rcases get_set e with ⟨rfl, e1, hi⟩ | ⟨z, e1⟩
    · cases x with
      | im d' => subst e1; cases e0
      | ow ds' =>
        subst e1
        cases e0
        obtain ⟨p, vs, rfl, h1, h2, h3, h4, _⟩ := h
        exact ⟨p, vs, by rw [List.getElem?_set_self (by rw [r.len]; exact hi)], h1, h2, h3, h4⟩
    · obtain ⟨l, vs, h1, h2⟩ := r.mu j en ds e1 e0
      exact ⟨l, vs, by rw [List.getElem?_set_ne z]; exact h1, h2⟩
  dj := fun j k e e' l h1 h2 m1 m2 s1 s2 => by
    rcases get_set h1 with ⟨z1, e1, hi⟩ | ⟨z1, e1⟩
    · rcases get_set h2 with ⟨z2, e2, _⟩ | ⟨z2, e2⟩
      · exact z1.symm.trans z2
      · exfalso
        subst z1
        rw [List.getElem?_set_self (by rw [r.len]; exact hi)] at s1
        rw [List.getElem?_set_ne z2] at s2
        cases s1
        cases x with
        | im d' => subst e1; exact m1 rfl
        | ow ds' =>
          obtain ⟨p, vs, q, _, _, _, _, q2⟩ := h
          cases q
          exact q2 k e' e2 m2 s2
    · rcases get_set h2 with ⟨z2, e2, hi⟩ | ⟨z2, e2⟩
      · exfalso
        subst z2
        rw [List.getElem?_set_self (by rw [r.len]; exact hi)] at s2
        rw [List.getElem?_set_ne z1] at s1
        cases s2
        cases x with
        | im d' => subst e2; exact m2 rfl
        | ow ds' =>
          obtain ⟨p, vs, q, _, _, _, _, q2⟩ := h
          cases q
          exact q2 j e e1 m1 s1
      · rw [List.getElem?_set_ne z1] at s1
        rw [List.getElem?_set_ne z2] at s2
        exact r.dj j k e e' l e1 e2 m1 m2 s1 s2
  bx := fun j ds e => by
    rcases get_set e with ⟨_, e1, _⟩ | ⟨z, e1⟩
    · cases x <;> cases e1
    · rw [List.getElem?_set_ne z]
      exact r.bx j ds e1
/-- a slot is forgotten -/
theorem Rel.forget (r : Rel K Fz ba G σ H Hs) (i : Nat) : Rel K Fz ba (G.set i .un) (σ.set i none) H Hs where
  sub := r.sub
  fz := r.fz
  len := by rw [List.length_set, List.length_set]; exact r.len
  im := fun j d e => by
    rcases get_set e with ⟨_, e1, _⟩ | ⟨z, e1⟩
    · cases e1
    · rw [List.getElem?_set_ne z]
      exact r.im j d e1
  mu := fun j en ds e e0 => by
    rcases get_set e with ⟨_, e1, _⟩ | ⟨z, e1⟩
    · subst e1; cases e0
    · rw [List.getElem?_set_ne z]
      exact r.mu j en ds e1 e0
  dj := fun j k e e' l h1 h2 m1 m2 s1 s2 => by
    rcases get_set h1 with ⟨_, e1, _⟩ | ⟨z1, e1⟩
    · subst e1; exact absurd rfl m1
    · rcases get_set h2 with ⟨_, e2, _⟩ | ⟨z2, e2⟩
      · subst e2; exact absurd rfl m2
      · rw [List.getElem?_set_ne z1] at s1
        rw [List.getElem?_set_ne z2] at s2
        exact r.dj j k e e' l e1 e2 m1 m2 s1 s2
  bx := fun j ds e => by
    rcases get_set e with ⟨_, e1, _⟩ | ⟨z, e1⟩
    · cases e1
    · rw [List.getElem?_set_ne z]
      exact r.bx j ds e1
end
def GOk (K : PySem.W.Frag) (t : TE) (f : M R) : Prop := ∀ Fz ba G σ H Hs r G', Rel K Fz ba G σ H Hs → f G = some (r, G') →
  ∀ Q : VK, (∀ v H' Hs', Rel K Fz ba G' σ H' Hs' → Same Hs Hs' → Res K Fz G' σ H' Hs' v r → Q v H') → t σ H Q
def TOk (K : PySem.W.Frag) (t : TT) (f : M Bool) : Prop := ∀ Fz ba G σ H Hs b G', Rel K Fz ba G σ H Hs → f G = some (b, G') →
  ∀ Q : Bool → Hp → Prop, (∀ H' Hs', Rel K Fz ba G' σ H' Hs' → Same Hs Hs' → Q b H') → t σ H Q
def AOk (K : PySem.W.Frag) (t : TA) (f : M (List D)) : Prop := ∀ Fz ba G σ H Hs ds G', Rel K Fz ba G σ H Hs → f G = some (ds, G') →
  ∀ Q : List V → Hp → Prop, (∀ vs H' Hs', Rel K Fz ba G' σ H' Hs' → Same Hs Hs' → DRs K Hs' vs ds → Q vs H') → t σ H Q
inductive Fl where
  | nx | bk | ct | rt (r : R)
abbrev MS := Gam → Option (Fl × Gam)
def Post (K : PySem.W.Frag) (Fz : Hp) (ba : Nat → Addr) (G' : Gam) (Hs : Hp) (Dn : Ends) : Fl → Prop
  | .nx => ∀ σ' H' Hs', Rel K Fz ba G' σ' H' Hs' → Same Hs Hs' → Dn.nx σ' H'
  | .bk => ∀ σ' H' Hs', Rel K Fz ba G' σ' H' Hs' → Same Hs Hs' → Dn.bk σ' H'
  | .ct => ∀ σ' H' Hs', Rel K Fz ba G' σ' H' Hs' → Same Hs Hs' → Dn.ct σ' H'
  | .rt r => ∀ v σ' H' Hs', Rel K Fz ba G' σ' H' Hs' → Same Hs Hs' → Res K Fz G' σ' H' Hs' v r → Dn.rt v H'
def SOk (K : PySem.W.Frag) (t : TS) (f : MS) : Prop := ∀ Fz ba G σ H Hs fl G', Rel K Fz ba G σ H Hs → f G = some (fl, G') → ∀ Dn : Ends, Post K Fz ba G' Hs Dn fl → t Dn σ H
theorem Post.mono {K : PySem.W.Frag} {Fz : Hp} {ba : Nat → Addr} {G' : Gam} {Hs Hs1 : Hp} {Dn : Ends} {fl : Fl} (h : Post K Fz ba G' Hs Dn fl) (s : Same Hs Hs1) : Post K Fz ba G' Hs1 Dn fl := by
  cases fl with
  | nx => exact fun σ' H' Hs' r q => h σ' H' Hs' r (s.trans q)
  | bk => exact fun σ' H' Hs' r q => h σ' H' Hs' r (s.trans q)
  | ct => exact fun σ' H' Hs' r q => h σ' H' Hs' r (s.trans q)
  | rt x => exact fun v σ' H' Hs' r q => h v σ' H' Hs' r (s.trans q)
/-- a target: which slots it writes -/
structure GtOk (K : PySem.W.Frag) (g : TG) (f : D → Gam → Option Gam) (js : List Nat) : Prop where
  run : ∀ Fz ba G σ H Hs v d G', Rel K Fz ba G σ H Hs → DR K Hs v d → f d G = some G' → ∀ Q : L2.St → Hp → Prop, (∀ σ', Rel K Fz ba G' σ' H Hs → σ'.length = σ.length → (∀ i : Nat, i ∉ js → σ'[i]? = σ[i]?) → Q σ' H) → g v σ H Q
/-- an iterator gives the items ds -/
structure Yl (K : PySem.W.Frag) (J : It) (ds : List D) (Hs0 : Hp) : Prop where
  go : ∀ i H, Same Hs0 H → i < ds.length → J.go i H
  stop : ∀ i H, Same Hs0 H → ds.length ≤ i → J.stop i H
  yld : ∀ i x H H' Hs, i < ds.length → Same Hs0 Hs → Same Hs H → J.yld i H x H' → ∃ d Hs', ds[i]? = some d ∧ Ext H Hs H' Hs' ∧ DR K Hs' x d
def IOk (K : PySem.W.Frag) (w : TI) (f : M (List D)) : Prop := ∀ Fz ba G σ H Hs ds G', Rel K Fz ba G σ H Hs → f G = some (ds, G') →
  ∀ Q : It → Hp → Prop, (∀ J H' Hs', Rel K Fz ba G' σ H' Hs' → Same Hs Hs' → Yl K J ds Hs' → Q J H') → w σ H Q
/-- a result that was laid behind H -/
def ResF (K : PySem.W.Frag) (H H' Hs' : Hp) (v : V) : R → Prop
  | .im d => DR K Hs' v d
  | .ow m => ∃ p o, v = .ref p ∧ H p = none ∧ H' p = some o ∧ Hs' p = none ∧ MobO K Hs' m o
theorem ResF.res {K : PySem.W.Frag} {Fz : Hp} {ba : Nat → Addr} {G : Gam} {σ : L2.St} {H Hs H' Hs' : Hp} {v : V} {x : R} (r : Rel K Fz ba G σ H Hs) (h : ResF K H H' Hs' v x) : Res K Fz G σ H' Hs' v x := by
  cases x with
  | im d => exact h
  | ow ds =>
    obtain ⟨p, vs, rfl, h1, h2, h3, h4⟩ := h
    refine ⟨p, vs, rfl, h2, h3, ?_, h4, fun i e g m q => ?_⟩
    · cases z : Fz p with
      | none => rfl
      | some o =>
        obtain ⟨z1, _⟩ := r.fz p o z
        rw [h1] at z1
        cases z1
    · obtain ⟨ds', hd⟩ : ∃ ds', e.mu = some ds' := by
        cases z : e.mu with
        | none => exact absurd z m
        | some ds' => exact ⟨ds', rfl⟩
      obtain ⟨l, ws, q1, q2, _⟩ := r.mu i e ds' g hd
      rw [q] at q1
      cases q1
      rw [h1] at q2
      cases q2
end Bk
namespace Bk
open PySem L2
def bd {α β : Type} (x : Option (α × Gam)) (f : α → Gam → Option β) : Option β := match x with
  | none => none
  | some (a, G) => f a G
@[simp] theorem bd_none {α β : Type} {f : α → Gam → Option β} : bd (none : Option (α × Gam)) f = none := rfl
@[simp] theorem bd_some {α β : Type} {a : α} {G : Gam} {f : α → Gam → Option β} : bd (some (a, G)) f = f a G := rfl
theorem bd_inv {α β : Type} {x : Option (α × Gam)} {f : α → Gam → Option β} {r : β} (h : bd x f = some r) : ∃ a G, x = some (a, G) ∧ f a G = some r := by
  cases x with
  | none => cases h
  | some p => exact ⟨p.1, p.2, rfl, h⟩
def xv (i : Nat) : M R := fun G => match G[i]? with
  | some (.im d) => some (.im d, G)
  | some (.ow m) => some (.im m.d, G.set i (.im m.d))
  | _ => none
/-- the name's list, which the name gives away -/
def xmv (i : Nat) : M R := fun G => match G[i]? with
  | some (.im d) => some (.im d, G)
  | some (.ow m) => some (.ow m, G.set i .un)
  | _ => none
def xc (d : D) : M R := fun G => some (.im d, G)
def xop (o : D → D → Option R) (a b : M R) : M R := fun G => bd (a G) fun x G1 => bd (b G1) fun y G2 => match o x.d y.d with
  | none => none
  | some r => some (r, G2)
def xun (o : D → Option R) (a : M R) : M R := fun G => bd (a G) fun x G1 => match o x.d with
  | none => none
  | some r => some (r, G1)
def xnil : M (List D) := fun G => some ([], G)
def xcons (a : M R) (r : M (List D)) : M (List D) := fun G => bd (a G) fun x G1 => bd (r G1) fun xs G2 => some (x.d :: xs, G2)
def xcb (o : List D → Option R) (a : M (List D)) : M R := fun G => bd (a G) fun xs G1 => match o xs with
  | none => none
  | some r => some (r, G1)
def few (n : Nat) : Bool := decide (n ≤ 16000000)
def xtup (a : M (List D)) : M R := fun G => bd (a G) fun xs G1 => if few xs.length then some (.im (.tup xs), G1) else none
def xlst (a : M (List D)) : M R := fun G => bd (a G) fun xs G1 => if few xs.length then some (.ol xs, G1) else none
def xif (t : M Bool) (a b : M R) : M R := fun G => bd (t G) fun k G1 => if k then a G1 else b G1
def xtest (a : M R) : M Bool := fun G => bd (a G) fun x G1 => match x.d with
  | .bl b => some (b, G1)
  | _ => none
def truth : D → Option Bool
  | .non => some false
  | .bl b => some b
  | .int i => some (i != 0)
  | .str x => if few x.length then some ((x.length : Int) != 0) else none
  | .lst xs => some (!xs.isEmpty)
  | .frz xs => some (!xs.isEmpty)
  | .tup xs => some (!xs.isEmpty)
  | _ => none
def xtru (a : M R) : M Bool := fun G => bd (a G) fun x G1 => match truth x.d with
  | some b => some (b, G1)
  | none => none
def xtand (a b : M Bool) : M Bool := fun G => bd (a G) fun k G1 => if k then b G1 else some (false, G1)
def xtor (a b : M Bool) : M Bool := fun G => bd (a G) fun k G1 => if k then some (true, G1) else b G1
def xtnot (a : M Bool) : M Bool := fun G => bd (a G) fun k G1 => some (!k, G1)
def xtyes : M Bool := fun G => some (true, G)
def xvand (a b : M R) : M R := fun G => bd (a G) fun x G1 => match x.d with
  | .bl k => if k then b G1 else some (.im (.bl false), G1)
  | _ => none
def xvor (a b : M R) : M R := fun G => bd (a G) fun x G1 => match x.d with
  | .bl k => if k then some (.im (.bl true), G1) else b G1
  | _ => none
def xvnot (a : M R) : M R := fun G => bd (a G) fun x G1 => match x.d with
  | .bl k => some (.im (.bl (!k)), G1)
  | _ => none
def xchain (o o' : D → D → Option R) (a b c : M R) : M R := fun G => bd (a G) fun x G1 => bd (b G1) fun y G2 => match o x.d y.d with
  | some (.im (.bl k)) => if k then bd (c G2) fun z G3 => (match o' y.d z.d with | some r => some (r, G3) | none => none) else some (.im (.bl false), G2)
  | _ => none
/-- a slice's part -/
abbrev MO := M (Option Int)
def xnop : MO := fun G => some (none, G)
def xpart (a : M R) : MO := fun G => bd (a G) fun x G1 => match x.d with
  | .int i => some (some i, G1)
  | _ => none
def xsl (o : D → Option Int → Option Int → Option R) (a : M R) (l h : MO) : M R := fun G => bd (a G) fun x G1 => bd (l G1) fun i G2 => bd (h G2) fun j G3 => match o x.d i j with
  | some r => some (r, G3)
  | none => none
def xcall (m : List D → Option R) (a : M (List D)) : M R := fun G => bd (a G) fun xs G1 => match m xs with
  | some r => some (r, G1)
  | none => none
def Ent.with (e : Ent) (m : Mob) : Ent := match e with
  | .ow _ => .ow m
  | .bx _ => .bx m
  | e => e
/-- a call that may change the list of the name at i -/
def isMu (G : Gam) (i : Nat) : Bool := match G[i]? with
  | some e => e.mu.isSome
  | none => false
def isLst (G : Gam) (i : Nat) : Bool := match G[i]? with
  | some e => match e.mu with
    | some (.l _) => true
    | _ => false
  | none => false
/-- an item of the name's list at i, a number -/
def ixv (i : Nat) (y : D) (G1 : Gam) : Option (R × Gam) := match y, G1[i]? with
  | .int k, some e => match e.mu with
    | some (.l ds) => match atI ds k with
      | some d => some (.im d, G1)
      | none => none
    | _ => none
  | _, _ => none
def xixv (i : Nat) (b : M R) : M R := fun G => if isMu G i then bd (b G) fun y G1 => ixv i y.d G1 else none
/-- one way for a name that owns a list, another for a name that holds a value -/
def xby (i : Nat) (a b : M R) : M R := fun G => if isMu G i then a G else b G
def xnext : MS := fun G => some (.nx, G)
def xseq (s t : MS) : MS := fun G => match s G with
  | some (.nx, G1) => t G1
  | o => o
def xasg (a : M R) (tg : D → Gam → Option Gam) : MS := fun G => bd (a G) fun x G1 => match tg x.d G1 with
  | some G2 => some (.nx, G2)
  | none => none
def xset (i : Nat) (a : M R) : MS := fun G => bd (a G) fun x G1 => some (.nx, G1.set i x.ent)
def xaug (i : Nat) (o : D → D → Option R) (a : M R) : MS := fun G => match G[i]? with
  | some (.im x) => bd (a G) fun y G1 => match o x y.d with
    | some r => some (.nx, G1.set i r.ent)
    | none => none
  | _ => none
def xret (a : M R) : MS := fun G => bd (a G) fun x G1 => some (.rt x, G1)
def xdrop (a : M R) : MS := fun G => bd (a G) fun _ G1 => some (.nx, G1)
def xifs (t : M Bool) (a b : MS) : MS := fun G => bd (t G) fun k G1 => if k then a G1 else b G1
def xnever : MS := fun _ => none
/-- the name's list grows -/
def app (i : Nat) (x : D) (G1 : Gam) : Option (Fl × Gam) := match G1[i]? with
  | some e => match e.mu with
    | some (.l ds) => if few ds.length then some (.nx, G1.set i (e.with (.l (ds ++ [x])))) else none
    | _ => none
  | none => none
def xapp (i : Nat) (a : M R) : MS := fun G => if isLst G i then bd (a G) fun x G1 => app i x.d G1 else none
/-- an item of the name's list is stored -/
def put (i : Nat) (x k : D) (G2 : Gam) : Option (Fl × Gam) := match k, G2[i]? with
  | .int k, some e => match e.mu with
    | some (.l ds) => match ixN ds.length k with
      | some j => some (.nx, G2.set i (e.with (.l (ds.set j x))))
      | none => none
    | _ => none
  | _, _ => none
def xput (i : Nat) (a b : M R) : MS := fun G => bd (a G) fun x G1 => if isMu G1 i then bd (b G1) fun k G2 => put i x.d k.d G2 else none
def xwhileN (c : M Bool) (b : MS) : Nat → MS
  | 0, _ => none
  | n + 1, G => bd (c G) fun k G1 => if k then (match b G1 with
      | some (.nx, G2) => xwhileN c b n G2
      | some (.ct, G2) => xwhileN c b n G2
      | some (.bk, G2) => some (.nx, G2)
      | some (.rt r, G2) => some (.rt r, G2)
      | none => none) else some (.nx, G1)
def xwhile (fuel : Gam → Nat) (c : M Bool) (b : MS) : MS := fun G => xwhileN c b (fuel G) G
def xforL (tg : D → Gam → Option Gam) (b : MS) : List D → MS
  | [], G => some (.nx, G)
  | d :: ds, G => match tg d G with
    | none => none
    | some G1 => match b G1 with
      | some (.nx, G2) => xforL tg b ds G2
      | some (.ct, G2) => xforL tg b ds G2
      | some (.bk, G2) => some (.nx, G2)
      | some (.rt r, G2) => some (.rt r, G2)
      | none => none
def xfor (it : M (List D)) (tg : D → Gam → Option Gam) (b : MS) : MS := fun G => bd (it G) fun ds G1 => xforL tg b ds G1
def tgn (i : Nat) : D → Gam → Option Gam := fun d G => some (G.set i (.im d))
def tgs : List (D → Gam → Option Gam) → List D → Gam → Option Gam
  | [], [], G => some G
  | t :: ts, d :: ds, G => match t d G with
    | some G1 => tgs ts ds G1
    | none => none
  | _, _, _ => none
def tgt (ts : List (D → Gam → Option Gam)) : D → Gam → Option Gam := fun d G => match d with
  | .tup ds => tgs ts ds G
  | _ => none
def wipeG (G : Gam) : List Nat → Gam
  | [] => G
  | v :: vs => (wipeG G vs).set v .un
def unw (G1 G2 : Gam) : List Nat → Gam
  | [] => G2
  | v :: vs => (unw G1 G2 vs).set v (G1.getD v .un)
def noMu (G : Gam) (vs : List Nat) : Bool := vs.all fun v => match G[v]? with
  | some e => e.mu.isNone
  | none => true
def xlcL (tg : D → Gam → Option Gam) (t : M Bool) (e : M R) (vs : List Nat) : List D → M (List D)
  | [], G => some ([], G)
  | d :: ds, G => match tg d G with
    | none => none
    | some G1 => bd (t G1) fun k G2 => if k then bd (e G2) fun x G3 => bd (xlcL tg t e vs ds (wipeG G3 vs)) fun out G4 => some (x.d :: out, G4)
        else xlcL tg t e vs ds (wipeG G2 vs)
def xlc (it : M (List D)) (tg : D → Gam → Option Gam) (t : M Bool) (e : M R) (vs : List Nat) : M R := fun G => bd (it G) fun ds G1 =>
  if noMu G1 vs then bd (xlcL tg t e vs ds (wipeG G1 vs)) fun out G2 => if few out.length then some (.ol out, unw G1 G2 vs) else none else none
def rng (lo : Int) (n : Nat) : List D := (List.range n).map fun (i : Nat) => .int (lo + (i : Int))
def okR (i : Int) : Bool := decide (-(2 ^ 62) ≤ i) && decide (i < 2 ^ 62)
def xrange1 (a : M (List D)) : M (List D) := fun G => bd (a G) fun xs G1 => match xs with
  | [.int n] => if okR n then some (rng 0 n.toNat, G1) else none
  | _ => none
def xrange2 (a : M (List D)) : M (List D) := fun G => bd (a G) fun xs G1 => match xs with
  | [.int l, .int n] => if okR l && okR n then some (rng l (n - l).toNat, G1) else none
  | _ => none
def asL : D → Option (List D)
  | .lst ds => some ds
  | .frz ds => some ds
  | _ => none
def enumD (k : Nat) : List D → List D
  | [] => []
  | d :: ds => .tup [.int (k : Int), d] :: enumD (k + 1) ds
section
variable {K : PySem.W.Frag}
theorem few_ok {n : Nat} (h : few n = true) : n ≤ sizeLine := Nat.le_trans (of_decide_eq_true h) (by decide)
theorem few_lt {n : Nat} (h : few n = true) : n < sizeLine := Nat.lt_of_le_of_lt (of_decide_eq_true h) (by decide)
/-- an expression, its value shared -/
theorem GOk.im {t : TE} {f : M R} (h : GOk K t f) {Fz : Hp} {ba : Nat → Addr} {G : Gam} {σ : L2.St} {H Hs : Hp} {r : R} {G' : Gam} (q : Rel K Fz ba G σ H Hs) (e : f G = some (r, G')) {Q : VK}
    (k : ∀ v H' Hs', Rel K Fz ba G' σ H' Hs' → Same Hs Hs' → DR K Hs' v r.d → Q v H') : t σ H Q :=
  h Fz ba G σ H Hs r G' q e Q fun v H' Hs' q' s x => by
    obtain ⟨Hs2, q2, s2, d⟩ := q'.fzr x
    exact k v H' Hs2 q2 (s.trans s2) d
theorem gk_c {v : V} {d : D} (h : ∀ H, DR K H v d) : GOk K (tC v) (xc d) := fun Fz ba G σ H Hs r G' q e Q k => by
  cases e
  exact k v H Hs q (Same.refl _) (h Hs)
theorem gk_int {i : Int} : GOk K (tC (.int i)) (xc (.int i)) := gk_c fun _ => .int i
theorem gk_bl {b : Bool} : GOk K (tC (.bl b)) (xc (.bl b)) := gk_c fun _ => .bl b
theorem gk_non : GOk K (tC .non) (xc .non) := gk_c fun _ => .non
theorem gk_str {x : PySem.Str} : GOk K (tC (.str x)) (xc (.str x)) := gk_c fun _ => .str x
theorem Rel.notmu {Fz : Hp} {ba : Nat → Addr} {G : Gam} {σ : L2.St} {H Hs : Hp} (q : Rel K Fz ba G σ H Hs) {i : Nat} {e e2 : Ent} {l : Addr} (h1 : G[i]? = some e) (m1 : e.mu ≠ none) (s1 : σ[i]? = some (some (.ref l))) :
    ∀ (j : Nat) (e' : Ent), (G.set i e2)[j]? = some e' → e2.mu = none → e'.mu ≠ none → σ[j]? ≠ some (some (.ref l)) := fun j e' h2 m0 m2 s2 => by
  rcases get_set h2 with ⟨_, e1, _⟩ | ⟨z, h3⟩
  · subst e1; exact m2 m0
  · exact z (q.dj i j e e' l h1 h3 m1 m2 s1 s2)
/-- the entry at i is another, that owns nothing -/
theorem Rel.re {Fz : Hp} {ba : Nat → Addr} {G : Gam} {σ : L2.St} {H Hs : Hp} (q : Rel K Fz ba G σ H Hs) {i : Nat} {e : Ent} (m : e.mu = none) (h : ∀ d, e = .im d → ∃ v, σ[i]? = some (some v) ∧ DR K Hs v d) : Rel K Fz ba (G.set i e) σ H Hs where
  sub := q.sub
  fz := q.fz
  len := by rw [List.length_set]; exact q.len
  im := fun j d h1 => by
    rcases get_set h1 with ⟨rfl, e1, _⟩ | ⟨z, h2⟩
    · exact h d e1.symm
    · exact q.im j d h2
  mu := fun j en ds h1 h0 => by
    rcases get_set h1 with ⟨rfl, e1, _⟩ | ⟨z, h2⟩
    · subst e1; rw [m] at h0; cases h0
    · exact q.mu j en ds h2 h0
  dj := fun j k e1 e2 l h1 h2 m1 m2 s1 s2 => by
    rcases get_set h1 with ⟨_, z1, _⟩ | ⟨z1, h1⟩
    · subst z1; exact absurd m m1
    · rcases get_set h2 with ⟨_, z2, _⟩ | ⟨z2, h2⟩
      · subst z2; exact absurd m m2
      · exact q.dj j k e1 e2 l h1 h2 m1 m2 s1 s2
  bx := fun j ds h1 => by
    rcases get_set h1 with ⟨_, e1, _⟩ | ⟨z, h2⟩
    · subst e1; cases m
    · exact q.bx j ds h2
theorem gk_var {i : Nat} : GOk K (tVar i) (xv i) := fun Fz ba G σ H Hs r G' q e Q k => by
  unfold xv at e
  cases h : G[i]? with
  | none => rw [h] at e; cases e
  | some en =>
    rw [h] at e
    cases en with
    | un => cases e
    | bx ds => cases e
    | im d =>
      cases e
      obtain ⟨v, h1, h2⟩ := q.im i d h
      exact ⟨v, h1, k v H Hs q (Same.refl _) h2⟩
    | ow ds =>
      cases e
      obtain ⟨l, vs, h1, h2, h3, h4, h5⟩ := q.mu i _ ds h rfl
      have q1 : Rel K Fz ba (G.set i .un) σ H Hs := q.re rfl fun d z => nomatch z
      obtain ⟨q2, s2⟩ := q1.froze h2 h3 h4 fun j e' g m => q.notmu h (by simp [Ent.mu]) h1 j e' g rfl m
      have q3 : Rel K Fz ba ((G.set i .un).set i (.im ds.d)) σ H (upd Hs l vs) := q2.re rfl fun d z => by
        cases z
        exact ⟨_, h1, (h5.mono s2).dr upd_same⟩
      rw [List.set_set] at q3
      exact ⟨_, h1, k _ H _ q3 s2 ((h5.mono s2).dr upd_same)⟩
theorem gk_mv {i : Nat} : GOk K (tVar i) (xmv i) := fun Fz ba G σ H Hs r G' q e Q k => by
  unfold xmv at e
  cases h : G[i]? with
  | none => rw [h] at e; cases e
  | some en =>
    rw [h] at e
    cases en with
    | un => cases e
    | bx ds => cases e
    | im d =>
      cases e
      obtain ⟨v, h1, h2⟩ := q.im i d h
      exact ⟨v, h1, k v H Hs q (Same.refl _) h2⟩
    | ow ds =>
      cases e
      obtain ⟨l, vs, h1, h2, h3, h4, h5⟩ := q.mu i _ ds h rfl
      have q1 : Rel K Fz ba (G.set i .un) σ H Hs := q.re rfl fun d z => nomatch z
      exact ⟨_, h1, k _ H Hs q1 (Same.refl _) ⟨l, vs, rfl, h2, h3, h4, h5, fun j e' g m => q.notmu h (by simp [Ent.mu]) h1 j e' g rfl m⟩⟩
def OpD (K : PySem.W.Frag) (r : R2) (o : D → D → Option R) : Prop := ∀ H Hs x y dx dy res, Same Hs H → DR K Hs x dx → DR K Hs y dy → o dx dy = some res →
  ∀ Q : VK, (∀ v H' Hs', Ext H Hs H' Hs' → ResF K H H' Hs' v res → Q v H') → r x y H Q
def UnD (K : PySem.W.Frag) (r : V → Hp → VK → Prop) (o : D → Option R) : Prop := ∀ H Hs x dx res, Same Hs H → DR K Hs x dx → o dx = some res →
  ∀ Q : VK, (∀ v H' Hs', Ext H Hs H' Hs' → ResF K H H' Hs' v res → Q v H') → r x H Q
def CbD (K : PySem.W.Frag) (r : List V → Hp → VK → Prop) (o : List D → Option R) : Prop := ∀ H Hs xs ds res, Same Hs H → DRs K Hs xs ds → o ds = some res →
  ∀ Q : VK, (∀ v H' Hs', Ext H Hs H' Hs' → ResF K H H' Hs' v res → Q v H') → r xs H Q
def SlD (K : PySem.W.Frag) (r : V → Option Int → Option Int → Hp → VK → Prop) (o : D → Option Int → Option Int → Option R) : Prop := ∀ H Hs x dx l h res, Same Hs H → DR K Hs x dx → o dx l h = some res →
  ∀ Q : VK, (∀ v H' Hs', Ext H Hs H' Hs' → ResF K H H' Hs' v res → Q v H') → r x l h H Q
theorem gk_op {r : R2} {o : D → D → Option R} {ta tb : TE} {a b : M R} (ho : OpD K r o) (ha : GOk K ta a) (hb : GOk K tb b) : GOk K (tOp r ta tb) (xop o a b) := fun Fz ba G σ H Hs res G' q e Q k => by
  obtain ⟨x, G1, e1, e⟩ := bd_inv e
  obtain ⟨y, G2, e2, e⟩ := bd_inv e
  cases h : o x.d y.d with
  | none => rw [h] at e; cases e
  | some r' =>
    rw [h] at e
    cases e
    refine ha.im q e1 fun v1 H1 Hs1 q1 s1 d1 => ?_
    refine hb.im q1 e2 fun v2 H2 Hs2 q2 s2 d2 => ?_
    exact ho H2 Hs2 v1 v2 x.d y.d _ q2.sub (d1.mono s2) d2 h Q fun v H3 Hs3 ex rf => k v H3 Hs3 (q2.ext ex) ((s1.trans s2).trans ex.b) (rf.res q2)
theorem gk_un {r : V → Hp → VK → Prop} {o : D → Option R} {ta : TE} {a : M R} (ho : UnD K r o) (ha : GOk K ta a) : GOk K (tUn r ta) (xun o a) := fun Fz ba G σ H Hs res G' q e Q k => by
  obtain ⟨x, G1, e1, e⟩ := bd_inv e
  cases h : o x.d with
  | none => rw [h] at e; cases e
  | some r' =>
    rw [h] at e
    cases e
    refine ha.im q e1 fun v1 H1 Hs1 q1 s1 d1 => ?_
    exact ho H1 Hs1 v1 x.d _ q1.sub d1 h Q fun v H3 Hs3 ex rf => k v H3 Hs3 (q1.ext ex) (s1.trans ex.b) (rf.res q1)
theorem ak_nil : AOk K tNil xnil := fun Fz ba G σ H Hs ds G' q e Q k => by
  cases e
  exact k [] H Hs q (Same.refl _) .nil
theorem ak_cons {ta : TE} {tr : TA} {a : M R} {r : M (List D)} (ha : GOk K ta a) (hr : AOk K tr r) : AOk K (tCons ta tr) (xcons a r) := fun Fz ba G σ H Hs ds G' q e Q k => by
  obtain ⟨x, G1, e1, e⟩ := bd_inv e
  obtain ⟨xs, G2, e2, e⟩ := bd_inv e
  cases e
  refine ha.im q e1 fun v1 H1 Hs1 q1 s1 d1 => ?_
  exact hr Fz ba G1 σ H1 Hs1 xs _ q1 e2 _ fun vs H2 Hs2 q2 s2 d2 => k _ H2 Hs2 q2 (s1.trans s2) (.cons (d1.mono s2) d2)
theorem gk_cb {r : List V → Hp → VK → Prop} {o : List D → Option R} {ta : TA} {a : M (List D)} (ho : CbD K r o) (ha : AOk K ta a) : GOk K (tCB r ta) (xcb o a) := fun Fz ba G σ H Hs res G' q e Q k => by
  obtain ⟨xs, G1, e1, e⟩ := bd_inv e
  cases h : o xs with
  | none => rw [h] at e; cases e
  | some r' =>
    rw [h] at e
    cases e
    refine ha Fz ba G σ H Hs xs _ q e1 _ fun vs H1 Hs1 q1 s1 d1 => ?_
    exact ho H1 Hs1 vs xs _ q1.sub d1 h Q fun v H3 Hs3 ex rf => k v H3 Hs3 (q1.ext ex) (s1.trans ex.b) (rf.res q1)
theorem gk_tup {ta : TA} {a : M (List D)} (ha : AOk K ta a) : GOk K (tTup ta) (xtup a) := fun Fz ba G σ H Hs res G' q e Q k => by
  obtain ⟨xs, G1, e1, e⟩ := bd_inv e
  split at e
  · rename_i hf
    cases e
    refine ha Fz ba G σ H Hs xs _ q e1 _ fun vs H1 Hs1 q1 s1 d1 => ⟨by rw [d1.len]; exact few_ok hf, fun p hp => ?_⟩
    have ex : Ext H1 Hs1 (upd H1 p (.tup vs)) (upd Hs1 p (.tup vs)) := Ext.new q1.sub hp
    exact k _ _ _ (q1.ext ex) (s1.trans ex.b) (.tup (SqT.of upd_same) (d1.mono ex.b))
  · cases e
theorem gk_lst {ta : TA} {a : M (List D)} (ha : AOk K ta a) : GOk K (tLst ta) (xlst a) := fun Fz ba G σ H Hs res G' q e Q k => by
  obtain ⟨xs, G1, e1, e⟩ := bd_inv e
  split at e
  · rename_i hf
    cases e
    refine ha Fz ba G σ H Hs xs _ q e1 _ fun vs H1 Hs1 q1 s1 d1 => ⟨by rw [d1.len]; exact few_ok hf, fun p hp => ?_⟩
    have ex : Ext H1 Hs1 (upd H1 p (.lst vs)) Hs1 := Ext.hid q1.sub hp
    have rf : ResF K H1 (upd H1 p (.lst vs)) Hs1 (.ref p) (.ol xs) := ⟨p, _, rfl, hp, upd_same, none_sub q1.sub hp, vs, rfl, d1⟩
    exact k _ _ _ (q1.ext ex) (s1.trans ex.b) (rf.res q1)
  · cases e
theorem gk_if {t : TT} {ta tb : TE} {c : M Bool} {a b : M R} (hc : TOk K t c) (ha : GOk K ta a) (hb : GOk K tb b) : GOk K (tIf t ta tb) (xif c a b) := fun Fz ba G σ H Hs res G' q e Q k => by
  obtain ⟨x, G1, e1, e⟩ := bd_inv e
  refine hc Fz ba G σ H Hs x G1 q e1 _ fun H1 Hs1 q1 s1 => ?_
  cases x with
  | true => exact ha Fz ba G1 σ H1 Hs1 res G' q1 e Q fun v H2 Hs2 q2 s2 d => k v H2 Hs2 q2 (s1.trans s2) d
  | false => exact hb Fz ba G1 σ H1 Hs1 res G' q1 e Q fun v H2 Hs2 q2 s2 d => k v H2 Hs2 q2 (s1.trans s2) d
theorem dr_bl {H : Hp} {v : V} {b : Bool} (h : DR K H v (.bl b)) : v = .bl b := by cases h; rfl
theorem dr_int {H : Hp} {v : V} {i : Int} (h : DR K H v (.int i)) : v = .int i := by cases h; rfl
theorem tk_test {ta : TE} {a : M R} (ha : GOk K ta a) : TOk K (tTest ta) (xtest a) := fun Fz ba G σ H Hs b G' q e Q k => by
  obtain ⟨x, G1, e1, e⟩ := bd_inv e
  refine ha.im q e1 fun v H1 Hs1 q1 s1 d => ?_
  cases h : x.d with
  | bl c =>
    rw [h] at e d
    cases e
    exact ⟨_, dr_bl d, k H1 Hs1 q1 s1⟩
  | _ => rw [h] at e; cases e
theorem truth_ok {H : Hp} {v : V} {d : D} {b : Bool} (h : DR K H v d) (e : truth d = some b) : TruV K v H b := by
  have emp : ∀ {vs : List V} {ds : List D}, DRs K H vs ds → (!ds.isEmpty) = !vs.isEmpty := fun h => by cases h <;> rfl
  cases h with
  | non => cases e; rfl
  | bl b => cases e; rfl
  | int i => cases e; rfl
  | str x =>
    by_cases hf : few x.length = true
    · rw [show truth (.str x) = some ((x.length : Int) != 0) from if_pos hf] at e
      cases e
      exact ⟨few_ok hf, rfl⟩
    · rw [show truth (.str x) = none from if_neg hf] at e
      cases e
  | lst h hs => cases e; exact .inl ⟨_, SqL.of h, emp hs⟩
  | frz h hs => cases e; exact .inl ⟨_, h, emp hs⟩
  | tup h hs => cases e; exact .inr (.inl ⟨_, h, emp hs⟩)
  | _ => cases e
theorem tru_mono {x : V} {H H' : Hp} {k : Bool} (s : Same H H') (h : TruV K x H k) : TruV K x H' k := by
  cases x with
  | ref p =>
    rcases h with ⟨xs, h1, h2⟩ | ⟨xs, h1, h2⟩ | ⟨kvs, h1, h2⟩
    · exact .inl ⟨xs, same_lst s h1, h2⟩
    · exact .inr (.inl ⟨xs, same_tup s h1, h2⟩)
    · exact .inr (.inr ⟨kvs, s _ _ h1, h2⟩)
  | _ => exact h
theorem tk_tru {ta : TE} {a : M R} (ha : GOk K ta a) : TOk K (fun σ H Q => ta σ H fun x H' => ∃ k, TruV K x H' k ∧ Q k H') (xtru a) := fun Fz ba G σ H Hs b G' q e Q k => by
  obtain ⟨x, G1, e1, e⟩ := bd_inv e
  refine ha.im q e1 fun v H1 Hs1 q1 s1 d => ?_
  cases h : truth x.d with
  | none => rw [h] at e; cases e
  | some c =>
    rw [h] at e
    cases e
    exact ⟨_, tru_mono q1.sub (truth_ok d h), k H1 Hs1 q1 s1⟩
theorem tk_and {t u : TT} {a b : M Bool} (ha : TOk K t a) (hb : TOk K u b) : TOk K (tAnd t u) (xtand a b) := fun Fz ba G σ H Hs r G' q e Q k => by
  obtain ⟨x, G1, e1, e⟩ := bd_inv e
  refine ha Fz ba G σ H Hs x G1 q e1 _ fun H1 Hs1 q1 s1 => ?_
  cases x with
  | true => exact hb Fz ba G1 σ H1 Hs1 r G' q1 e Q fun H2 Hs2 q2 s2 => k H2 Hs2 q2 (s1.trans s2)
  | false => cases e; exact k H1 Hs1 q1 s1
theorem tk_or {t u : TT} {a b : M Bool} (ha : TOk K t a) (hb : TOk K u b) : TOk K (tOr t u) (xtor a b) := fun Fz ba G σ H Hs r G' q e Q k => by
  obtain ⟨x, G1, e1, e⟩ := bd_inv e
  refine ha Fz ba G σ H Hs x G1 q e1 _ fun H1 Hs1 q1 s1 => ?_
  cases x with
  | true => cases e; exact k H1 Hs1 q1 s1
  | false => exact hb Fz ba G1 σ H1 Hs1 r G' q1 e Q fun H2 Hs2 q2 s2 => k H2 Hs2 q2 (s1.trans s2)
theorem tk_not {t : TT} {a : M Bool} (ha : TOk K t a) : TOk K (tNot t) (xtnot a) := fun Fz ba G σ H Hs r G' q e Q k => by
  obtain ⟨x, G1, e1, e⟩ := bd_inv e
  cases e
  exact ha Fz ba G σ H Hs x _ q e1 _ fun H1 Hs1 q1 s1 => k H1 Hs1 q1 s1
theorem tk_yes : TOk K tYes xtyes := fun Fz ba G σ H Hs r G' q e Q k => by
  cases e
  exact k H Hs q (Same.refl _)
theorem gk_vand {ta tb : TE} {a b : M R} (ha : GOk K ta a) (hb : GOk K tb b) : GOk K (tAndV ta tb) (xvand a b) := fun Fz ba G σ H Hs res G' q e Q k => by
  obtain ⟨x, G1, e1, e⟩ := bd_inv e
  refine ha.im q e1 fun v H1 Hs1 q1 s1 d => ?_
  cases h : x.d with
  | bl c =>
    rw [h] at e d
    refine ⟨c, dr_bl d, ?_⟩
    cases c with
    | true => exact hb Fz ba G1 σ H1 Hs1 res G' q1 e Q fun v H2 Hs2 q2 s2 d => k v H2 Hs2 q2 (s1.trans s2) d
    | false => cases e; exact k _ H1 Hs1 q1 s1 (.bl false)
  | _ => rw [h] at e; cases e
theorem gk_vor {ta tb : TE} {a b : M R} (ha : GOk K ta a) (hb : GOk K tb b) : GOk K (tOrV ta tb) (xvor a b) := fun Fz ba G σ H Hs res G' q e Q k => by
  obtain ⟨x, G1, e1, e⟩ := bd_inv e
  refine ha.im q e1 fun v H1 Hs1 q1 s1 d => ?_
  cases h : x.d with
  | bl c =>
    rw [h] at e d
    refine ⟨c, dr_bl d, ?_⟩
    cases c with
    | false => exact hb Fz ba G1 σ H1 Hs1 res G' q1 e Q fun v H2 Hs2 q2 s2 d => k v H2 Hs2 q2 (s1.trans s2) d
    | true => cases e; exact k _ H1 Hs1 q1 s1 (.bl true)
  | _ => rw [h] at e; cases e
theorem gk_vnot {ta : TE} {a : M R} (ha : GOk K ta a) : GOk K (tNotV ta) (xvnot a) := fun Fz ba G σ H Hs res G' q e Q k => by
  obtain ⟨x, G1, e1, e⟩ := bd_inv e
  refine ha.im q e1 fun v H1 Hs1 q1 s1 d => ?_
  cases h : x.d with
  | bl c =>
    rw [h] at e d
    cases e
    exact ⟨c, dr_bl d, k _ H1 Hs1 q1 s1 (.bl _)⟩
  | _ => rw [h] at e; cases e
theorem gk_chain {r r' : R2} {o o' : D → D → Option R} {ta tb tc : TE} {a b c : M R} (ho : OpD K r o) (ho' : OpD K r' o') (ha : GOk K ta a) (hb : GOk K tb b) (hc : GOk K tc c) : GOk K (tChain r r' ta tb tc) (xchain o o' a b c) :=
  fun Fz ba G σ H Hs res G' q e Q k => by
  obtain ⟨x, G1, e1, e⟩ := bd_inv e
  obtain ⟨y, G2, e2, e⟩ := bd_inv e
  refine ha.im q e1 fun v1 H1 Hs1 q1 s1 d1 => ?_
  refine hb.im q1 e2 fun v2 H2 Hs2 q2 s2 d2 => ?_
  cases h : o x.d y.d with
  | none => rw [h] at e; cases e
  | some r1 =>
    rw [h] at e
    cases r1 with
    | ow ds => cases e
    | im dd =>
      cases dd with
      | bl kk =>
        refine ho H2 Hs2 v1 v2 x.d y.d _ q2.sub (d1.mono s2) d2 h _ fun v H3 Hs3 ex rf => ⟨kk, dr_bl rf, ?_⟩
        have q3 := q2.ext ex
        cases kk with
        | false => cases e; exact k _ H3 Hs3 q3 ((s1.trans s2).trans ex.b) (.bl false)
        | true =>
          obtain ⟨z, G3, e3, e⟩ := bd_inv e
          cases h' : o' y.d z.d with
          | none => rw [h'] at e; cases e
          | some r2 =>
            rw [h'] at e
            cases e
            refine hc.im q3 e3 fun v3 H4 Hs4 q4 s4 d4 => ?_
            exact ho' H4 Hs4 v2 v3 y.d z.d _ q4.sub (d2.mono (ex.b.trans s4)) d4 h' Q fun v H5 Hs5 ex5 rf5 => k v H5 Hs5 (q4.ext ex5) ((((s1.trans s2).trans ex.b).trans s4).trans ex5.b) (rf5.res q4)
      | _ => cases e
def POk (K : PySem.W.Frag) (t : TO) (f : MO) : Prop := ∀ Fz ba G σ H Hs o G', Rel K Fz ba G σ H Hs → f G = some (o, G') →
  ∀ Q : Option Int → Hp → Prop, (∀ H' Hs', Rel K Fz ba G' σ H' Hs' → Same Hs Hs' → Q o H') → t σ H Q
theorem pk_none : POk K tNoPart xnop := fun Fz ba G σ H Hs r G' q e Q k => by
  cases e
  exact k H Hs q (Same.refl _)
theorem pk_some {ta : TE} {a : M R} (ha : GOk K ta a) : POk K (tPart ta) (xpart a) := fun Fz ba G σ H Hs r G' q e Q k => by
  obtain ⟨x, G1, e1, e⟩ := bd_inv e
  refine ha.im q e1 fun v H1 Hs1 q1 s1 d => ?_
  cases h : x.d with
  | int i =>
    rw [h] at e d
    cases e
    exact ⟨i, dr_int d, k H1 Hs1 q1 s1⟩
  | _ => rw [h] at e; cases e
theorem gk_sl {r : V → Option Int → Option Int → Hp → VK → Prop} {o : D → Option Int → Option Int → Option R} {ta : TE} {tl th : TO} {a : M R} {l h : MO} (ho : SlD K r o) (ha : GOk K ta a) (hl : POk K tl l) (hh : POk K th h) : GOk K (tSl r ta tl th) (xsl o a l h) :=
  fun Fz ba G σ H Hs res G' q e Q k => by
  obtain ⟨x, G1, e1, e⟩ := bd_inv e
  obtain ⟨i, G2, e2, e⟩ := bd_inv e
  obtain ⟨j, G3, e3, e⟩ := bd_inv e
  cases h' : o x.d i j with
  | none => rw [h'] at e; cases e
  | some r1 =>
    rw [h'] at e
    cases e
    refine ha.im q e1 fun v1 H1 Hs1 q1 s1 d1 => ?_
    refine hl Fz ba G1 σ H1 Hs1 i G2 q1 e2 _ fun H2 Hs2 q2 s2 => ?_
    refine hh Fz ba G2 σ H2 Hs2 j _ q2 e3 _ fun H3 Hs3 q3 s3 => ?_
    exact ho H3 Hs3 v1 x.d i j _ q3.sub (d1.mono (s2.trans s3)) h' Q fun v H5 Hs5 ex5 rf5 => k v H5 Hs5 (q3.ext ex5) (((s1.trans s2).trans s3).trans ex5.b) (rf5.res q3)
end
end Bk
namespace Bk
open PySem L2
section
variable {K : PySem.W.Frag}
/-- a def that computes m -/
def spF (K : PySem.W.Frag) (m : List D → Option R) : Sp := fun vs H Q _ => ∃ Hs ds r, Same Hs H ∧ DRs K Hs vs ds ∧ m ds = some r ∧ ∀ v H' Hs', Ext H Hs H' Hs' → ResF K H H' Hs' v r → Q v H'
structure ExtB (l : Addr) (H Hs H' Hs' : Hp) : Prop where
  a : ∀ x o, x ≠ l → H x = some o → H' x = some o
  b : Same Hs Hs'
  c : Same Hs' H'
  n : ∀ x o, H x = some o → Hs x = none → Hs' x = none
/-- a def whose first argument is a list that it may change -/
def spB (K : PySem.W.Frag) (m : Mob → List D → Option (R × Mob)) : Sp := fun vs H Q _ => ∃ Hs l vs' bo bds ds r bds', vs = V.ref l :: vs' ∧ Same Hs H ∧ H l = some bo ∧ Hs l = none ∧ MobO K Hs bds bo ∧ DRs K Hs vs' ds ∧
  m bds ds = some (r, bds') ∧ ∀ v H' Hs' bo', ExtB l H Hs H' Hs' → H' l = some bo' → Hs' l = none → MobO K Hs' bds' bo' → ResF K H H' Hs' v r → Q v H'
theorem gk_call {m : List D → Option R} {E : XK} {ta : TA} {a : M (List D)} (ha : AOk K ta a) : GOk K (tCall (spF K m) [] E ta) (xcall m a) := fun Fz ba G σ H Hs res G' q e Q k => by
  obtain ⟨xs, G1, e1, e⟩ := bd_inv e
  cases h : m xs with
  | none => rw [h] at e; cases e
  | some r' =>
    rw [h] at e
    cases e
    refine ha Fz ba G σ H Hs xs _ q e1 _ fun vs H1 Hs1 q1 s1 d1 => ?_
    exact ⟨Hs1, xs, _, q1.sub, by rw [List.append_nil]; exact d1, h, fun v H3 Hs3 ex rf => k v H3 Hs3 (q1.ext ex) (s1.trans ex.b) (rf.res q1)⟩
theorem with_mu {e : Ent} {ds es : Mob} (h : e.mu = some ds) : (e.with es).mu = some es := by
  cases e with
  | un => cases h
  | im d => cases h
  | ow _ => rfl
  | bx _ => rfl
/-- the list of the name at i has changed -/
theorem Rel.mut {Fz : Hp} {ba : Nat → Addr} {G : Gam} {σ : L2.St} {H Hs H' Hs' : Hp} (q : Rel K Fz ba G σ H Hs) {i : Nat} {e : Ent} {ds es : Mob} {l : Addr} {ws : HO} (h : G[i]? = some e) (m : e.mu = some ds) (s : σ[i]? = some (some (.ref l)))
    (x : ExtB l H Hs H' Hs') (hl : H' l = some ws) (hn : Hs' l = none) (hd : MobO K Hs' es ws) : Rel K Fz ba (G.set i (e.with es)) σ H' Hs' := by
  obtain ⟨l0, vs0, z1, z2, z3, z4, _⟩ := q.mu i e ds h m
  rw [s] at z1
  cases z1
  have me : e.mu ≠ none := by rw [m]; simp
  refine ⟨x.c, fun a o f => ?_, by rw [List.length_set]; exact q.len, fun j d f => ?_, fun j en ds' f f0 => ?_, fun j k e1 e2 l' f1 f2 m1 m2 s1 s2 => ?_, fun j ds' f => ?_⟩
  · obtain ⟨f1, f2⟩ := q.fz a o f
    have ne : a ≠ l := ne_of_none f z4
    exact ⟨x.a a o ne f1, x.n a o f1 f2⟩
  · rcases get_set f with ⟨_, e1, _⟩ | ⟨_, f⟩
    · exfalso
      have z := with_mu (es := es) m
      rw [← e1] at z
      cases z
    · obtain ⟨v, g1, g2⟩ := q.im j d f
      exact ⟨v, g1, g2.mono x.b⟩
  · rcases get_set f with ⟨rfl, e1, _⟩ | ⟨z, f⟩
    · subst e1
      rw [with_mu m] at f0
      cases f0
      exact ⟨l, ws, s, hl, hn, z4, hd⟩
    · obtain ⟨l', vs, g1, g2, g3, g4, g5⟩ := q.mu j en ds' f f0
      have ne : l' ≠ l := fun y => by
        subst y
        exact z (q.dj i j e en l' h f me (by rw [f0]; simp) s g1)
      exact ⟨l', vs, g1, x.a l' _ ne g2, x.n l' _ g2 g3, g4, g5.mono x.b⟩
  · have old : ∀ {j : Nat} {en : Ent}, (G.set i (e.with es))[j]? = some en → en.mu ≠ none → ∃ en', G[j]? = some en' ∧ en'.mu ≠ none := fun {j en} f m' => by
      rcases get_set f with ⟨rfl, _, _⟩ | ⟨_, f⟩
      · exact ⟨e, h, me⟩
      · exact ⟨en, f, m'⟩
    obtain ⟨y1, a1, a2⟩ := old f1 m1
    obtain ⟨y2, b1, b2⟩ := old f2 m2
    exact q.dj j k y1 y2 l' a1 b1 a2 b2 s1 s2
  · rcases get_set f with ⟨rfl, e1, _⟩ | ⟨_, f⟩
    · cases e with
      | un => cases m
      | im d => cases m
      | ow _ => cases e1
      | bx bs => exact q.bx i bs h
    · exact q.bx j ds' f
theorem isMu_ok {G : Gam} {i : Nat} (h : isMu G i = true) : ∃ e ds, G[i]? = some e ∧ e.mu = some ds := by
  unfold isMu at h
  cases z : G[i]? with
  | none => rw [z] at h; cases h
  | some e =>
    rw [z] at h
    cases y : e.mu with
    | none => simp only [y] at h; cases h
    | some ds => exact ⟨e, ds, rfl, y⟩
theorem Rel.same_slot {Fz : Hp} {ba : Nat → Addr} {G : Gam} {σ : L2.St} {H Hs : Hp} (q : Rel K Fz ba G σ H Hs) {i : Nat} (h : isMu G i = true) : ∃ l, σ[i]? = some (some (.ref l)) ∧
    ∀ G1 H1 Hs1 e ds, Rel K Fz ba G1 σ H1 Hs1 → G1[i]? = some e → e.mu = some ds → ∃ vs, H1 l = some vs ∧ Hs1 l = none ∧ MobO K Hs1 ds vs := by
  obtain ⟨e0, ds0, y1, y2⟩ := isMu_ok h
  obtain ⟨l, vs0, y3, _⟩ := q.mu i e0 ds0 y1 y2
  refine ⟨l, y3, fun G1 H1 Hs1 e ds q1 h1 h2 => ?_⟩
  obtain ⟨l', bvs, g1, g2, g3, g4, g5⟩ := q1.mu i e ds h1 h2
  rw [y3] at g1
  cases g1
  exact ⟨bvs, g2, g3, g5⟩
theorem at_ok {H : Hp} {vs : List V} {ds : List D} {k : Int} {d : D} (h : DRs K H vs ds) (e : atI ds k = some d) : ∃ v, atI vs k = some v ∧ DR K H v d := by
  unfold atI at e ⊢
  rw [h.len]
  cases z : ixN ds.length k with
  | none => rw [z] at e; cases e
  | some j =>
    rw [z] at e
    exact h.at (i := j) e
theorem gk_ixv {i : Nat} {tb : TE} {b : M R} (hb : GOk K tb b) : GOk K (tOp (rIx K) (tVar i) tb) (xixv i b) := fun Fz ba G σ H Hs res G' q e Q k => by
  unfold xixv at e
  split at e
  case isFalse => cases e
  rename_i hm
  obtain ⟨l, y3, yk⟩ := q.same_slot hm
  obtain ⟨y, G1, e1, e⟩ := bd_inv e
  refine ⟨_, y3, ?_⟩
  refine hb.im q e1 fun v H1 Hs1 q1 s1 d1 => ?_
  unfold ixv at e
  cases hy : y.d with
  | int n =>
    rw [hy] at d1 e
    cases h : G1[i]? with
    | none => simp only [h] at e; cases e
    | some en =>
      cases h0 : en.mu with
      | none => simp only [h, h0] at e; cases e
      | some mm =>
       cases mm with
       | o _ _ => simp only [h, h0] at e; cases e
       | l ds =>
        simp only [h, h0] at e
        cases h1 : atI ds n with
        | none => simp only [h1] at e; cases e
        | some d =>
          simp only [h1] at e
          cases e
          obtain ⟨_, z1, z2, vs, rfl, z3⟩ := yk _ H1 Hs1 en (.l ds) q1 h h0
          obtain ⟨w, w1, w2⟩ := at_ok z3 h1
          exact .inl ⟨l, vs, n, w, rfl, dr_int d1, SqL.of z1, w1, k w H1 Hs1 q1 s1 w2⟩
  | _ => simp only [hy] at e; cases e
def rLen (K : PySem.W.Frag) : List V → Hp → VK → Prop := fun xs H Q => ∃ x n, xs = [x] ∧ LenV K x H n ∧ Q (.int n) H
theorem gk_by {i : Nat} {t : TE} {a b : M R} (ha : GOk K t a) (hb : GOk K t b) : GOk K t (xby i a b) := fun Fz ba G σ H Hs res G' q e Q k => by
  unfold xby at e
  split at e
  · exact ha Fz ba G σ H Hs res G' q e Q k
  · exact hb Fz ba G σ H Hs res G' q e Q k
theorem sk_next : SOk K tNext xnext := fun Fz ba G σ H Hs fl G' q e Dn p => by
  cases e
  exact p σ H Hs q (Same.refl _)
theorem sk_seq {t u : TS} {a b : MS} (ha : SOk K t a) (hb : SOk K u b) : SOk K (tSeq t u) (xseq a b) := fun Fz ba G σ H Hs fl G' q e Dn p => by
  unfold xseq at e
  cases h : a G with
  | none => rw [h] at e; cases e
  | some x =>
    obtain ⟨f1, G1⟩ := x
    rw [h] at e
    refine ha Fz ba G σ H Hs f1 G1 q h { Dn with nx := u Dn } ?_
    cases f1 with
    | nx => exact fun σ1 H1 Hs1 q1 s1 => hb Fz ba G1 σ1 H1 Hs1 fl G' q1 e Dn (p.mono s1)
    | bk => cases e; exact p
    | ct => cases e; exact p
    | rt r => cases e; exact p
theorem sk_asg {ta : TE} {g : TG} {a : M R} {tg : D → Gam → Option Gam} {js : List Nat} (ha : GOk K ta a) (hg : GtOk K g tg js) : SOk K (tAsg ta g) (xasg a tg) := fun Fz ba G σ H Hs fl G' q e Dn p => by
  obtain ⟨x, G1, e1, e⟩ := bd_inv e
  cases h : tg x.d G1 with
  | none => rw [h] at e; cases e
  | some G2 =>
    rw [h] at e
    cases e
    refine ha.im q e1 fun v H1 Hs1 q1 s1 d1 => ?_
    exact hg.run Fz ba G1 σ H1 Hs1 v x.d _ q1 d1 h _ fun σ' q2 _ _ => p σ' H1 Hs1 q2 s1
theorem sk_set {i : Nat} {ta : TE} {a : M R} (ha : GOk K ta a) : SOk K (tAsg ta (gName i)) (xset i a) := fun Fz ba G σ H Hs fl G' q e Dn p => by
  obtain ⟨x, G1, e1, e⟩ := bd_inv e
  cases e
  exact ha Fz ba G σ H Hs x _ q e1 _ fun v H1 Hs1 q1 s1 r1 => p _ H1 Hs1 (q1.set r1) s1
theorem sk_aug {i : Nat} {ta : TE} {r : TIp} {o : D → D → Option R} {a : M R} (ho : OpD K r o) (ha : GOk K ta a) : SOk K (tAug i ta r) (xaug i o a) := fun Fz ba G σ H Hs fl G' q e Dn p => by
  unfold xaug at e
  cases h : G[i]? with
  | none => rw [h] at e; cases e
  | some en =>
    rw [h] at e
    cases en with
    | im x =>
      obtain ⟨y, G1, e1, e⟩ := bd_inv e
      obtain ⟨v, g1, g2⟩ := q.im i x h
      cases h1 : o x y.d with
      | none => simp only [h1] at e; cases e
      | some r1 =>
        simp only [h1] at e
        cases e
        refine ⟨v, g1, ?_⟩
        refine ha.im q e1 fun w H1 Hs1 q1 s1 d1 => ?_
        exact ho H1 Hs1 v w x y.d r1 q1.sub (g2.mono s1) d1 h1 _ fun z H2 Hs2 ex rf => p _ H2 Hs2 ((q1.ext ex).set (rf.res q1)) (s1.trans ex.b)
    | _ => cases e
theorem sk_ret {ta : TE} {a : M R} (ha : GOk K ta a) : SOk K (tRet ta) (xret a) := fun Fz ba G σ H Hs fl G' q e Dn p => by
  obtain ⟨x, G1, e1, e⟩ := bd_inv e
  cases e
  exact ha Fz ba G σ H Hs x _ q e1 _ fun v H1 Hs1 q1 s1 r1 => p v σ H1 Hs1 q1 s1 r1
theorem sk_drop {ta : TE} {a : M R} (ha : GOk K ta a) : SOk K (tDrop ta) (xdrop a) := fun Fz ba G σ H Hs fl G' q e Dn p => by
  obtain ⟨x, G1, e1, e⟩ := bd_inv e
  cases e
  exact ha Fz ba G σ H Hs x _ q e1 _ fun v H1 Hs1 q1 s1 r1 => p σ H1 Hs1 q1 s1
theorem sk_if {t : TT} {u w : TS} {c : M Bool} {a b : MS} (hc : TOk K t c) (ha : SOk K u a) (hb : SOk K w b) : SOk K (tIfS t u w) (xifs c a b) := fun Fz ba G σ H Hs fl G' q e Dn p => by
  obtain ⟨x, G1, e1, e⟩ := bd_inv e
  refine hc Fz ba G σ H Hs x G1 q e1 _ fun H1 Hs1 q1 s1 => ?_
  cases x with
  | true => exact ha Fz ba G1 σ H1 Hs1 fl G' q1 e Dn (p.mono s1)
  | false => exact hb Fz ba G1 σ H1 Hs1 fl G' q1 e Dn (p.mono s1)
theorem sk_never : SOk K tNever xnever := fun Fz ba G σ H Hs fl G' q e Dn p => by cases e
theorem extB_upd {H Hs : Hp} {l : Addr} {o : HO} (s : Same Hs H) (n : Hs l = none) : ExtB l H Hs (upd H l o) Hs :=
  ⟨fun x u ne e => by rw [upd_ne ne]; exact e, Same.refl _, fun a u e => by rw [upd_ne (ne_of_none e n)]; exact s a u e, fun x u _ h => h⟩
theorem isLst_ok {G : Gam} {i : Nat} (h : isLst G i = true) : ∃ e ds, G[i]? = some e ∧ e.mu = some (.l ds) := by
  unfold isLst at h
  cases z : G[i]? with
  | none => rw [z] at h; cases h
  | some e =>
    rw [z] at h
    cases y : e.mu with
    | none => simp only [y] at h; cases h
    | some m =>
      cases m with
      | o _ _ => simp only [y] at h; cases h
      | l ds => exact ⟨e, ds, rfl, y⟩
theorem isLst_mu {G : Gam} {i : Nat} (h : isLst G i = true) : isMu G i = true := by
  obtain ⟨e, ds, h1, h2⟩ := isLst_ok h
  unfold isMu
  rw [h1]
  simp only [h2]
  rfl
theorem sk_app {i : Nat} {te : TE} {a : M R} (ha : GOk K te a) : SOk K (tDrop (tBM K "list" rAppend (tVar i) (tCons te tNil))) (xapp i a) := fun Fz ba G σ H Hs fl G' q e Dn p => by
  unfold xapp at e
  split at e
  case isFalse => cases e
  rename_i hm
  obtain ⟨l, y3, yk⟩ := q.same_slot (isLst_mu hm)
  obtain ⟨x, G1, e1, e⟩ := bd_inv e
  obtain ⟨e0, ds0, y1, y2⟩ := isLst_ok hm
  obtain ⟨_, w1, _, vs0, rfl, _⟩ := yk G H Hs e0 _ q y1 y2
  refine ⟨_, y3, .inl ⟨rfl, vs0, SqL.of w1⟩, ?_⟩
  refine ha.im q e1 fun v H1 Hs1 q1 s1 d1 => ?_
  unfold app at e
  cases h : G1[i]? with
  | none => simp only [h] at e; cases e
  | some en =>
    cases h0 : en.mu with
    | none => simp only [h, h0] at e; cases e
    | some mm =>
     cases mm with
     | o _ _ => simp only [h, h0] at e; cases e
     | l ds =>
      simp only [h, h0] at e
      split at e
      case isFalse => cases e
      rename_i hf
      cases e
      obtain ⟨_, z1, z2, vs, rfl, z3⟩ := yk _ H1 Hs1 en _ q1 h h0
      refine ⟨l, vs, v, rfl, rfl, z1, by rw [z3.len]; exact few_lt hf, ?_⟩
      exact p σ _ Hs1 (q1.mut h h0 y3 (extB_upd q1.sub z2) upd_same z2 ⟨_, rfl, z3.app (.cons d1 .nil)⟩) s1
theorem sk_put {i : Nat} {te tk : TE} {a b : M R} (ha : GOk K te a) (hb : GOk K tk b) : SOk K (tAsg te (gSub (tVar i) tk rSetL)) (xput i a b) := fun Fz ba G σ H Hs fl G' q e Dn p => by
  obtain ⟨x, G1, e1, e⟩ := bd_inv e
  split at e
  case isFalse => cases e
  rename_i hm
  obtain ⟨k, G2, e2, e⟩ := bd_inv e
  refine ha.im q e1 fun v H1 Hs1 q1 s1 d1 => ?_
  obtain ⟨l, y3, yk⟩ := q1.same_slot hm
  refine ⟨_, y3, ?_⟩
  refine hb.im q1 e2 fun w H2 Hs2 q2 s2 d2 => ?_
  unfold put at e
  cases hy : k.d with
  | int n =>
    rw [hy] at d2 e
    cases h : G2[i]? with
    | none => simp only [h] at e; cases e
    | some en =>
      cases h0 : en.mu with
      | none => simp only [h, h0] at e; cases e
      | some mm =>
       cases mm with
       | o _ _ => simp only [h, h0] at e; cases e
       | l ds =>
        simp only [h, h0] at e
        cases h1 : ixN ds.length n with
        | none => simp only [h1] at e; cases e
        | some j =>
          simp only [h1] at e
          cases e
          obtain ⟨_, z1, z2, vs, rfl, z3⟩ := yk _ H2 Hs2 en _ q2 h h0
          refine ⟨l, vs, n, j, rfl, dr_int d2, z1, by rw [z3.len]; exact h1, ?_⟩
          exact p σ _ Hs2 (q2.mut h h0 y3 (extB_upd q2.sub z2) upd_same z2 ⟨_, rfl, DRs.set (d1.mono s2) j z3⟩) (s1.trans s2)
  | _ => simp only [hy] at e; cases e
theorem gt_name {i : Nat} : GtOk K (gName i) (tgn i) [i] := ⟨fun Fz ba G σ H Hs v d G' q r e Q k => by
  cases e
  exact k _ (q.set (x := .im d) r) List.length_set fun j hj => List.getElem?_set_ne fun z => hj (by rw [z]; exact List.mem_cons_self)⟩
structure GtsOk (K : PySem.W.Frag) (g : TGs) (f : List D → Gam → Option Gam) (js : List Nat) : Prop where
  run : ∀ Fz ba G σ H Hs vs ds G', Rel K Fz ba G σ H Hs → DRs K Hs vs ds → f ds G = some G' → ∀ Q : L2.St → Hp → Prop, (∀ σ', Rel K Fz ba G' σ' H Hs → σ'.length = σ.length → (∀ i : Nat, i ∉ js → σ'[i]? = σ[i]?) → Q σ' H) → g vs σ H Q
theorem gts_nil : GtsOk K gNil (tgs []) [] := ⟨fun Fz ba G σ H Hs vs ds G' q r e Q k => by
  cases r with
  | nil => cases e; exact ⟨rfl, k σ q rfl fun _ _ => rfl⟩
  | cons _ _ => cases e⟩
theorem gts_cons {t : TG} {u : TGs} {f : D → Gam → Option Gam} {fs : List (D → Gam → Option Gam)} {js ks : List Nat} (h : GtOk K t f js) (hs : GtsOk K u (tgs fs) ks) : GtsOk K (gCons t u) (tgs (f :: fs)) (js ++ ks) := ⟨fun Fz ba G σ H Hs vs ds G' q r e Q k => by
  cases r with
  | nil => cases e
  | @cons v vs d ds r1 r2 =>
    have e' : (match f d G with | some G1 => tgs fs ds G1 | none => none) = some G' := e
    cases h1 : f d G with
    | none => rw [h1] at e'; cases e'
    | some G1 =>
      rw [h1] at e'
      refine ⟨v, vs, rfl, h.run Fz ba G σ H Hs v d G1 q r1 h1 _ fun σ1 q1 l1 k1 => ?_⟩
      refine hs.run Fz ba G1 σ1 H Hs vs ds G' q1 r2 e' _ fun σ2 q2 l2 k2 => ?_
      exact k σ2 q2 (l2.trans l1) fun i hi => (k2 i fun z => hi (List.mem_append_right _ z)).trans (k1 i fun z => hi (List.mem_append_left _ z))⟩
theorem tgs_len : ∀ {fs : List (D → Gam → Option Gam)} {ds : List D} {G G' : Gam}, tgs fs ds G = some G' → ds.length = fs.length
  | [], [], _, _, _ => rfl
  | [], _ :: _, _, _, e => by cases e
  | _ :: _, [], _, _, e => by cases e
  | f :: fs, d :: ds, G, G', e => by
    have e' : (match f d G with | some G1 => tgs fs ds G1 | none => none) = some G' := e
    cases h1 : f d G with
    | none => rw [h1] at e'; cases e'
    | some G1 =>
      rw [h1] at e'
      exact congrArg Nat.succ (tgs_len e')
theorem gt_tup {u : TGs} {fs : List (D → Gam → Option Gam)} {js : List Nat} (h : GtsOk K u (tgs fs) js) : GtOk K (gTup K fs.length u) (tgt fs) js := ⟨fun Fz ba G σ H Hs v d G' q r e Q k => by
  cases r with
  | tup ht hd => exact ⟨_, _, rfl, same_tup q.sub ht, by rw [hd.len]; exact tgs_len e, h.run Fz ba G σ H Hs _ _ G' q hd e Q k⟩
  | _ => cases e⟩
theorem sk_while {t : TT} {u : TS} {c : M Bool} {b : MS} (fuel : Gam → Nat) (hc : TOk K t c) (hb : SOk K u b) : SOk K (tWhile t u) (xwhile fuel c b) := fun Fz ba G σ H Hs fl G' q e Dn p => by
  refine ⟨fun m σ1 H1 => ∃ G1 Hs1, Rel K Fz ba G1 σ1 H1 Hs1 ∧ Same Hs Hs1 ∧ xwhileN c b m G1 = some (fl, G'), ⟨fuel G, G, Hs, q, Same.refl _, e⟩, ?_⟩
  rintro m σ1 H1 ⟨G1, Hs1, q1, s1, e1⟩
  cases m with
  | zero => cases e1
  | succ n =>
    obtain ⟨x, G2, e2, e3⟩ := bd_inv e1
    refine hc Fz ba G1 σ1 H1 Hs1 x G2 q1 e2 _ fun H2 Hs2 q2 s2 => ?_
    cases x with
    | false => cases e3; exact p σ1 H2 Hs2 q2 (s1.trans s2)
    | true =>
      refine ⟨fun σ' H' => ∃ G3 Hs3, Rel K Fz ba G3 σ' H' Hs3 ∧ Same Hs Hs3 ∧ xwhileN c b n G3 = some (fl, G'), fun σ' H' ⟨G3, Hs3, a1, a2, a3⟩ => ⟨n, Nat.lt_succ_self n, G3, Hs3, a1, a2, a3⟩, ?_⟩
      rw [if_pos rfl] at e3
      cases hbG : b G2 with
      | none => rw [hbG] at e3; cases e3
      | some y =>
        obtain ⟨f1, G3⟩ := y
        rw [hbG] at e3
        refine hb Fz ba G2 σ1 H2 Hs2 f1 G3 q2 hbG _ ?_
        cases f1 with
        | nx => exact fun σ' H' Hs' a1 a2 => ⟨G3, Hs', a1, (s1.trans s2).trans a2, e3⟩
        | ct => exact fun σ' H' Hs' a1 a2 => ⟨G3, Hs', a1, (s1.trans s2).trans a2, e3⟩
        | bk => cases e3; exact fun σ' H' Hs' a1 a2 => p σ' H' Hs' a1 ((s1.trans s2).trans a2)
        | rt r => cases e3; exact fun v σ' H' Hs' a1 a2 a3 => p v σ' H' Hs' a1 ((s1.trans s2).trans a2) a3
theorem sk_for {w : TI} {g : TG} {u : TS} {it : M (List D)} {tg : D → Gam → Option Gam} {js : List Nat} {b : MS} (hi : IOk K w it) (hg : GtOk K g tg js) (hb : SOk K u b) : SOk K (tFor w g u) (xfor it tg b) := fun Fz ba G σ H Hs fl G' q e Dn p => by
  obtain ⟨ds, G1, e1, e⟩ := bd_inv e
  refine hi Fz ba G σ H Hs ds G1 q e1 _ fun J H1 Hs1 q1 s1 Y => ?_
  refine ⟨fun i m σ2 H2 => m = ds.length - i ∧ i ≤ ds.length ∧ ∃ G2 Hs2, Rel K Fz ba G2 σ2 H2 Hs2 ∧ Same Hs1 Hs2 ∧ xforL tg b (ds.drop i) G2 = some (fl, G'), ⟨ds.length, rfl, Nat.zero_le _, G1, Hs1, q1, Same.refl _, e⟩, ?_⟩
  rintro i m σ2 H2 ⟨rfl, hi, G2, Hs2, q2, s2, e2⟩
  by_cases hlt : i < ds.length
  · refine .inr ⟨Y.go i H2 (s2.trans q2.sub) hlt, fun σ' H' => i + 1 ≤ ds.length ∧ ∃ G3 Hs3, Rel K Fz ba G3 σ' H' Hs3 ∧ Same Hs1 Hs3 ∧ xforL tg b (ds.drop (i + 1)) G3 = some (fl, G'), fun σ' H' ⟨z, z2⟩ => ⟨ds.length - (i + 1), by omega, rfl, z, z2⟩, fun x H' y => ?_⟩
    obtain ⟨d, Hs3, d1, ex, dr⟩ := Y.yld i x H2 H' Hs2 hlt s2 q2.sub y
    have q3 := q2.ext ex
    have ed : ds.drop i = d :: ds.drop (i + 1) := by
      rw [List.drop_eq_getElem_cons hlt]
      rw [List.getElem?_eq_getElem hlt] at d1
      cases d1
      rfl
    rw [ed] at e2
    have e2' : (match tg d G2 with | none => none | some G3 => (match b G3 with | some (.nx, G4) => xforL tg b (ds.drop (i + 1)) G4 | some (.ct, G4) => xforL tg b (ds.drop (i + 1)) G4 | some (.bk, G4) => some (.nx, G4) | some (.rt r, G4) => some (.rt r, G4) | none => none)) = some (fl, G') := e2
    cases hG : tg d G2 with
    | none => rw [hG] at e2'; cases e2'
    | some G3 =>
      rw [hG] at e2'
      refine hg.run Fz ba G2 σ2 H' Hs3 x d G3 q3 dr hG _ fun σ3 q4 _ _ => ?_
      cases hbG : b G3 with
      | none => simp only [hbG] at e2'; cases e2'
      | some y =>
        obtain ⟨f1, G4⟩ := y
        simp only [hbG] at e2'
        refine hb Fz ba G3 σ3 H' Hs3 f1 G4 q4 hbG _ ?_
        cases f1 with
        | nx => exact fun σ' H5 Hs' a1 a2 => ⟨hlt, G4, Hs', a1, (s2.trans ex.b).trans a2, e2'⟩
        | ct => exact fun σ' H5 Hs' a1 a2 => ⟨hlt, G4, Hs', a1, (s2.trans ex.b).trans a2, e2'⟩
        | bk => cases e2'; exact fun σ' H5 Hs' a1 a2 => p σ' H5 Hs' a1 (((s1.trans s2).trans ex.b).trans a2)
        | rt r => cases e2'; exact fun v σ' H5 Hs' a1 a2 a3 => p v σ' H5 Hs' a1 (((s1.trans s2).trans ex.b).trans a2) a3
  · have hend : ds.length ≤ i := by omega
    rw [List.drop_eq_nil_of_le hend] at e2
    cases e2
    exact .inl ⟨Y.stop i H2 (s2.trans q2.sub) hend, p σ2 H2 Hs2 q2 (s1.trans s2)⟩
end
end Bk
namespace Bk
open PySem L2
section
variable {K : PySem.W.Frag}
theorem Yl.same {J : It} {ds : List D} {Hs Hs' : Hp} (y : Yl K J ds Hs) (s : Same Hs Hs') : Yl K J ds Hs' :=
  ⟨fun i H h => y.go i H (s.trans h), fun i H h => y.stop i H (s.trans h), fun i x H H' Hs1 hi h => y.yld i x H H' Hs1 hi (s.trans h)⟩
theorem yl_list {Hs : Hp} {a : Addr} {xs : List V} {ds : List D} (h : SqL K Hs a xs) (d : DRs K Hs xs ds) : Yl K (Itl K a) ds Hs where
  go := fun i H s hi => ⟨xs, xs[i]'(by rw [d.len]; exact hi), same_lst s h, by simp⟩
  stop := fun i H s hi => ⟨xs, same_lst s h, by rw [d.len]; exact hi⟩
  yld := fun i x H H' Hs1 _ s s1 y => by
    obtain ⟨rfl, y⟩ := y
    obtain ⟨e, e1, e2⟩ := d.ta (y xs (same_lst (s.trans s1) h))
    exact ⟨e, Hs1, e1, Ext.refl s1, e2.mono s⟩
theorem yl_tup {Hs : Hp} {a : Addr} {xs : List V} {ds : List D} (h : SqT K Hs a xs) (d : DRs K Hs xs ds) : Yl K (Itt K a) ds Hs where
  go := fun i H s hi => ⟨xs, xs[i]'(by rw [d.len]; exact hi), same_tup s h, by simp⟩
  stop := fun i H s hi => ⟨xs, same_tup s h, by rw [d.len]; exact hi⟩
  yld := fun i x H H' Hs1 _ s s1 y => by
    obtain ⟨rfl, y⟩ := y
    obtain ⟨e, e1, e2⟩ := d.ta (y xs (same_tup (s.trans s1) h))
    exact ⟨e, Hs1, e1, Ext.refl s1, e2.mono s⟩
theorem rng_len (lo : Int) (n : Nat) : (rng lo n).length = n := by simp [rng]
theorem yl_rng {Hs : Hp} {lo : Int} {n : Nat} : Yl K (Itr lo n) (rng lo n) Hs where
  go := fun i H s hi => by rw [rng_len] at hi; exact hi
  stop := fun i H s hi => by rw [rng_len] at hi; exact hi
  yld := fun i x H H' Hs1 hi s s1 y => by
    obtain ⟨rfl, rfl⟩ := y
    rw [rng_len] at hi
    exact ⟨.int (lo + (i : Int)), Hs1, by simp [rng, hi], Ext.refl s1, .int _⟩
theorem okR_inv {i : Int} (h : okR i = true) : -(2 ^ 62) ≤ i ∧ i < 2 ^ 62 := by
  unfold okR at h
  rw [Bool.and_eq_true] at h
  exact ⟨of_decide_eq_true h.1, of_decide_eq_true h.2⟩
theorem ik_range1 {ta : TA} {a : M (List D)} (ha : AOk K ta a) : IOk K (iRng1 ta) (xrange1 a) := fun Fz ba G σ H Hs ds G' q e Q k => by
  obtain ⟨xs, G1, e1, e⟩ := bd_inv e
  refine ha Fz ba G σ H Hs xs _ q e1 _ fun vs H1 Hs1 q1 s1 d => ?_
  split at e
  case h_2 => cases e
  split at e
  case isFalse => cases e
  rename_i hr
  cases e
  cases d with
  | cons d1 d2 =>
    cases d2
    cases d1
    exact ⟨_, rfl, (okR_inv hr).1, (okR_inv hr).2, k _ H1 Hs1 q1 s1 yl_rng⟩
theorem ik_range2 {ta : TA} {a : M (List D)} (ha : AOk K ta a) : IOk K (iRng2 ta) (xrange2 a) := fun Fz ba G σ H Hs ds G' q e Q k => by
  obtain ⟨xs, G1, e1, e⟩ := bd_inv e
  refine ha Fz ba G σ H Hs xs _ q e1 _ fun vs H1 Hs1 q1 s1 d => ?_
  split at e
  case h_2 => cases e
  split at e
  case isFalse => cases e
  rename_i hr
  rw [Bool.and_eq_true] at hr
  cases e
  cases d with
  | cons d1 d2 =>
    cases d2 with
    | cons d2 d3 =>
      cases d3
      cases d1
      cases d2
      exact ⟨_, _, rfl, ⟨(okR_inv hr.1).1, (okR_inv hr.1).2, (okR_inv hr.2).1, (okR_inv hr.2).2⟩, k _ H1 Hs1 q1 s1 yl_rng⟩
theorem asL_ok {H : Hp} {v : V} {d : D} {ds : List D} (h : DR K H v d) (e : asL d = some ds) : ∃ a xs, v = .ref a ∧ SqL K H a xs ∧ DRs K H xs ds := by
  cases h with
  | lst hl hd => cases e; exact ⟨_, _, rfl, SqL.of hl, hd⟩
  | frz hl hd => cases e; exact ⟨_, _, rfl, hl, hd⟩
  | _ => cases e
theorem zip_get {α β : Type} : ∀ {xs : List α} {ys : List β} {i : Nat} {x : α} {y : β}, xs[i]? = some x → ys[i]? = some y → (xs.zip ys)[i]? = some (x, y)
  | [], _, _, _, _, h, _ => by simp at h
  | _ :: _, [], _, _, _, _, h => by simp at h
  | a :: xs, b :: ys, 0, _, _, h1, h2 => by simp at h1 h2; subst h1; subst h2; rfl
  | a :: xs, b :: ys, i + 1, _, _, h1, h2 => by
    simp only [List.zip_cons_cons, List.getElem?_cons_succ] at h1 h2 ⊢
    exact zip_get h1 h2
theorem enum_len : ∀ (k : Nat) (ds : List D), (enumD k ds).length = ds.length
  | _, [] => rfl
  | k, d :: ds => congrArg Nat.succ (enum_len (k + 1) ds)
theorem enum_get : ∀ {k : Nat} {ds : List D} {i : Nat} {d : D}, ds[i]? = some d → (enumD k ds)[i]? = some (.tup [.int ((k + i : Nat) : Int), d])
  | _, [], _, _, h => by simp at h
  | k, e :: ds, 0, _, h => by simp at h; subst h; rfl
  | k, e :: ds, i + 1, _, h => by
    simp only [List.getElem?_cons_succ] at h
    have z := enum_get (k := k + 1) h
    show (enumD (k + 1) ds)[i]? = _
    rw [z, show k + 1 + i = k + (i + 1) by omega]
theorem yl_enum {Hs : Hp} {a : Addr} {xs : List V} {ds : List D} (ha : SqL K Hs a xs) (da : DRs K Hs xs ds) : Yl K (Ite K a) (enumD 0 ds) Hs where
  go := fun i H s hi => by
    rw [enum_len] at hi
    exact ⟨xs, xs[i]'(by rw [da.len]; omega), same_lst s ha, by simp⟩
  stop := fun i H s hi => by
    rw [enum_len] at hi
    exact ⟨xs, same_lst s ha, by rw [da.len]; omega⟩
  yld := fun i x H H' Hs1 _ s s1 y => by
    obtain ⟨T, x1, rfl, hT, rfl, h1⟩ := y
    obtain ⟨d1, e1, r1⟩ := da.ta (h1 xs (same_lst (s.trans s1) ha))
    have ex : Ext H Hs1 (upd H T (.tup [.int (i : Nat), x1])) (upd Hs1 T (.tup [.int (i : Nat), x1])) := Ext.new s1 hT
    refine ⟨.tup [.int (i : Nat), d1], _, ?_, ex, .tup (SqT.of upd_same) (.cons (.int _) (.cons (r1.mono (s.trans ex.b)) .nil))⟩
    rw [enum_get e1, Nat.zero_add]
theorem Rel.wiped {Fz : Hp} {ba : Nat → Addr} {G : Gam} {σ : L2.St} {H Hs : Hp} (q : Rel K Fz ba G σ H Hs) : ∀ vs : List Nat, Rel K Fz ba (wipeG G vs) (wipe σ vs) H Hs
  | [] => q
  | v :: vs => (Rel.wiped q vs).forget v
theorem wipe_get {σ : L2.St} {i : Nat} : ∀ {vs : List Nat}, i ∉ vs → (wipe σ vs)[i]? = σ[i]?
  | [], _ => rfl
  | v :: vs, h => by
    have h1 : v ≠ i := fun z => h (by rw [z]; exact List.mem_cons_self)
    show ((wipe σ vs).set v none)[i]? = _
    rw [List.getElem?_set_ne h1]
    exact wipe_get fun z => h (List.mem_cons_of_mem _ z)
theorem wipe_in {σ : L2.St} {i : Nat} (hl : i < σ.length) : ∀ {vs : List Nat}, i ∈ vs → (wipe σ vs)[i]? = some none
  | v :: vs, h => by
    show ((wipe σ vs).set v none)[i]? = _
    by_cases z : v = i
    · subst z
      rw [List.getElem?_set_self (by rw [wipe_length]; exact hl)]
    · rw [List.getElem?_set_ne z]
      rcases List.mem_cons.mp h with z2 | h2
      · exact absurd z2.symm z
      · exact wipe_in hl h2
/-- slots outside of vs alike: wiped they are the same -/
theorem wipe_eq {σ τ : L2.St} {vs : List Nat} (hl : τ.length = σ.length) (h : ∀ i : Nat, i ∉ vs → τ[i]? = σ[i]?) : wipe τ vs = wipe σ vs := by
  refine List.ext_getElem? fun i => ?_
  by_cases hi : i ∈ vs
  · by_cases hlt : i < σ.length
    · rw [wipe_in hlt hi, wipe_in (by rw [hl]; exact hlt) hi]
    · rw [List.getElem?_eq_none (by rw [wipe_length, hl]; omega), List.getElem?_eq_none (by rw [wipe_length]; omega)]
  · rw [wipe_get hi, wipe_get hi]
    exact h i hi
theorem unw_len (G1 G2 : Gam) : ∀ vs : List Nat, (unw G1 G2 vs).length = G2.length
  | [] => rfl
  | v :: vs => by
    show ((unw G1 G2 vs).set v _).length = _
    rw [List.length_set]
    exact unw_len G1 G2 vs
theorem unw_out {G1 G2 : Gam} {i : Nat} : ∀ {vs : List Nat}, i ∉ vs → (unw G1 G2 vs)[i]? = G2[i]?
  | [], _ => rfl
  | v :: vs, h => by
    have h1 : v ≠ i := fun z => h (by rw [z]; exact List.mem_cons_self)
    show ((unw G1 G2 vs).set v _)[i]? = _
    rw [List.getElem?_set_ne h1]
    exact unw_out fun z => h (List.mem_cons_of_mem _ z)
theorem unw_in {G1 G2 : Gam} {i : Nat} (hl : G2.length = G1.length) : ∀ {vs : List Nat}, i ∈ vs → (unw G1 G2 vs)[i]? = G1[i]?
  | v :: vs, h => by
    show ((unw G1 G2 vs).set v (G1.getD v .un))[i]? = _
    by_cases z : v = i
    · subst z
      by_cases hlt : v < G1.length
      · rw [List.getElem?_set_self (by rw [unw_len, hl]; exact hlt), List.getElem?_eq_getElem hlt, List.getD_eq_getElem?_getD, List.getElem?_eq_getElem hlt]
        rfl
      · rw [List.getElem?_eq_none (by rw [List.length_set, unw_len, hl]; omega), List.getElem?_eq_none (by omega)]
    · rw [List.getElem?_set_ne z]
      rcases List.mem_cons.mp h with z2 | h2
      · exact absurd z2.symm z
      · exact unw_in hl h2
theorem noMu_ok {G : Gam} {vs : List Nat} (h : noMu G vs = true) {i : Nat} {e : Ent} (hi : i ∈ vs) (g : G[i]? = some e) : e.mu = none := by
  unfold noMu at h
  rw [List.all_eq_true] at h
  have z := h i hi
  rw [g] at z
  simpa using z
/-- behind a block: its own slots as they were -/
theorem Rel.unwipe {Fz : Hp} {ba : Nat → Addr} {G1 G2 : Gam} {σ : L2.St} {H1 Hs1 H2 Hs2 : Hp} {vs : List Nat} (q1 : Rel K Fz ba G1 σ H1 Hs1) (q2 : Rel K Fz ba G2 (wipe σ vs) H2 Hs2) (s : Same Hs1 Hs2) (nm : noMu G1 vs = true) : Rel K Fz ba (unw G1 G2 vs) σ H2 Hs2 := by
  have hl : G2.length = G1.length := by rw [← q1.len, ← q2.len, wipe_length]
  have mo : ∀ {i : Nat} {e : Ent}, (unw G1 G2 vs)[i]? = some e → e.mu ≠ none → i ∉ vs ∧ G2[i]? = some e := fun {i e} h m => by
    by_cases hi : i ∈ vs
    · rw [unw_in hl hi] at h
      exact absurd (noMu_ok nm hi h) m
    · rw [unw_out hi] at h
      exact ⟨hi, h⟩
  refine ⟨q2.sub, q2.fz, by rw [unw_len, hl]; exact q1.len, fun i d h => ?_, fun i e ds h h0 => ?_, fun i j e e' l h1 h2 m1 m2 t1 t2 => ?_, fun i ds h => ?_⟩
  · by_cases hi : i ∈ vs
    · rw [unw_in hl hi] at h
      obtain ⟨v, a1, a2⟩ := q1.im i d h
      exact ⟨v, a1, a2.mono s⟩
    · rw [unw_out hi] at h
      obtain ⟨v, a1, a2⟩ := q2.im i d h
      exact ⟨v, by rw [← wipe_get hi]; exact a1, a2⟩
  · obtain ⟨hi, h⟩ := mo h (by rw [h0]; simp)
    obtain ⟨l, ws, a1, a2⟩ := q2.mu i e ds h h0
    exact ⟨l, ws, by rw [← wipe_get hi]; exact a1, a2⟩
  · obtain ⟨hi, h1⟩ := mo h1 m1
    obtain ⟨hj, h2⟩ := mo h2 m2
    exact q2.dj i j e e' l h1 h2 m1 m2 (by rw [wipe_get hi]; exact t1) (by rw [wipe_get hj]; exact t2)
  · obtain ⟨hi, h⟩ := mo h (by simp [Ent.mu])
    have z := q2.bx i ds h
    rw [wipe_get hi] at z
    exact z
/-- a hidden object more -/
theorem Rel.hide {Fz : Hp} {ba : Nat → Addr} {G : Gam} {σ : L2.St} {H Hs : Hp} (q : Rel K Fz ba G σ H Hs) {p : Addr} {o : HO} (h : H p = none) : Rel K (upd Fz p o) ba G σ (upd H p o) Hs := by
  refine ⟨q.sub.trans (same_new h), fun a u e => ?_, q.len, q.im, fun i e ds g g0 => ?_, q.dj, q.bx⟩
  · by_cases z : a = p
    · subst z
      rw [upd_same] at e ⊢
      exact ⟨e, none_sub q.sub h⟩
    · rw [upd_ne z] at e ⊢
      exact q.fz a u e
  · obtain ⟨l, vs, a1, a2, a3, a4, a5⟩ := q.mu i e ds g g0
    have ne : l ≠ p := ne_of_none a2 h
    exact ⟨l, vs, a1, by rw [upd_ne ne]; exact a2, a3, by rw [upd_ne ne]; exact a4, a5⟩
/-- the hidden object is another -/
theorem Rel.rehide {Fz : Hp} {ba : Nat → Addr} {G : Gam} {σ : L2.St} {H Hs : Hp} {p : Addr} {o o' : HO} (q : Rel K (upd Fz p o) ba G σ H Hs) : Rel K (upd Fz p o') ba G σ (upd H p o') Hs := by
  obtain ⟨hp, hsp⟩ := q.fz p o upd_same
  refine ⟨fun a u e => ?_, fun a u e => ?_, q.len, q.im, fun i e ds g g0 => ?_, q.dj, q.bx⟩
  · rw [upd_ne (ne_of_none e hsp)]
    exact q.sub a u e
  · by_cases z : a = p
    · subst z
      rw [upd_same] at e ⊢
      exact ⟨e, hsp⟩
    · rw [upd_ne z] at e ⊢
      exact q.fz a u (by rw [upd_ne z]; exact e)
  · obtain ⟨l, vs, a1, a2, a3, a4, a5⟩ := q.mu i e ds g g0
    have ne : l ≠ p := by
      intro z
      subst z
      rw [upd_same] at a4
      cases a4
    rw [upd_ne ne] at a4
    exact ⟨l, vs, a1, by rw [upd_ne ne]; exact a2, a3, by rw [upd_ne ne]; exact a4, a5⟩
/-- no longer hidden, not owned either -/
theorem Rel.unhide {Fz : Hp} {ba : Nat → Addr} {G : Gam} {σ : L2.St} {H Hs : Hp} {p : Addr} {o : HO} (q : Rel K (upd Fz p o) ba G σ H Hs) (hf : Fz p = none) : Rel K Fz ba G σ H Hs := by
  refine ⟨q.sub, fun a u e => ?_, q.len, q.im, fun i e ds g g0 => ?_, q.dj, q.bx⟩
  · exact q.fz a u (by rw [upd_ne (ne_of_none e hf)]; exact e)
  · obtain ⟨l, vs, a1, a2, a3, a4, a5⟩ := q.mu i e ds g g0
    refine ⟨l, vs, a1, a2, a3, ?_, a5⟩
    cases z : Fz l with
    | none => rfl
    | some u =>
      have ne : l ≠ p := ne_of_none z hf
      rw [upd_ne ne, z] at a4
      cases a4
theorem gk_lc {w : TI} {g : TG} {t : TT} {te : TE} {it : M (List D)} {tg : D → Gam → Option Gam} {js vs : List Nat} {c : M Bool} {a : M R} (hi : IOk K w it) (hg : GtOk K g tg js) (hc : TOk K t c) (ha : GOk K te a) (hj : ∀ j ∈ js, j ∈ vs) :
    GOk K (tLc w g t te vs) (xlc it tg c a vs) := fun Fz ba G σ H Hs res G' q e Q k => by
  obtain ⟨ds, G1, e1, e⟩ := bd_inv e
  split at e
  case isFalse => cases e
  rename_i nm
  obtain ⟨out, G2, e2, e⟩ := bd_inv e
  split at e
  case isFalse => cases e
  rename_i hf
  cases e
  refine hi Fz ba G σ H Hs ds _ q e1 _ fun J H1 Hs1 q1 s1 Y p hp => ?_
  have hfp : Fz p = none := by
    cases z : Fz p with
    | none => rfl
    | some o =>
      obtain ⟨z1, _⟩ := q1.fz p o z
      rw [hp] at z1
      cases z1
  have q1w := (q1.wiped vs).hide (o := .lst []) hp
  refine ⟨fun i m H2 => m = ds.length - i ∧ i ≤ ds.length ∧ ∃ G3 Hs3 acc ad more, Rel K (upd Fz p (.lst acc)) ba G3 (wipe σ vs) H2 Hs3 ∧ Same Hs1 Hs3 ∧ DRs K Hs3 acc ad ∧ xlcL tg c a vs (ds.drop i) G3 = some (more, G2) ∧ ad ++ more = out,
    ⟨ds.length, rfl, Nat.zero_le _, wipeG G1 vs, Hs1, [], [], out, q1w, Same.refl _, .nil, e2, rfl⟩, ?_⟩
  rintro i m H2 ⟨rfl, hi2, G3, Hs3, acc, ad, more, q3, s3, da, e3, eo⟩
  by_cases hlt : i < ds.length
  · refine .inr ⟨Y.go i H2 (s3.trans q3.sub) hlt, fun H' => i + 1 ≤ ds.length ∧ ∃ G4 Hs4 acc ad more, Rel K (upd Fz p (.lst acc)) ba G4 (wipe σ vs) H' Hs4 ∧ Same Hs1 Hs4 ∧ DRs K Hs4 acc ad ∧ xlcL tg c a vs (ds.drop (i + 1)) G4 = some (more, G2) ∧ ad ++ more = out,
      fun H' ⟨z, z2⟩ => ⟨ds.length - (i + 1), by omega, rfl, z, z2⟩, fun x H' y => ?_⟩
    obtain ⟨d, Hs4, d1, ex, dr⟩ := Y.yld i x H2 H' Hs3 hlt s3 q3.sub y
    have q4 := q3.ext ex
    have ed : ds.drop i = d :: ds.drop (i + 1) := by
      rw [List.drop_eq_getElem_cons hlt]
      rw [List.getElem?_eq_getElem hlt] at d1
      cases d1
      rfl
    rw [ed] at e3
    unfold xlcL at e3
    cases hG : tg d G3 with
    | none => rw [hG] at e3; cases e3
    | some G4 =>
      rw [hG] at e3
      refine hg.run _ ba G3 _ H' Hs4 x d G4 q4 dr hG _ fun σ5 q5 l5 k5 => ?_
      have hlen : σ5.length = σ.length := by rw [l5, wipe_length]
      have hw : wipe σ5 vs = wipe σ vs := by
        have z := wipe_eq (σ := wipe σ vs) (τ := σ5) (vs := vs) (by rw [wipe_length]; exact hlen) fun j hj' => k5 j fun z => hj' (hj j z)
        rw [z]
        exact wipe_eq (wipe_length σ vs) fun j hj' => wipe_get hj'
      refine ⟨hw, ?_⟩
      obtain ⟨b, G5, e5, e6⟩ := bd_inv e3
      refine hc _ ba G4 σ5 H' Hs4 b G5 q5 e5 _ fun H5 Hs5 q6 s6 => ?_
      cases b with
      | true =>
        obtain ⟨r, G6, e7, e8⟩ := bd_inv (show bd (a G5) _ = _ from e6)
        obtain ⟨out2, G7, e9, e10⟩ := bd_inv e8
        cases e10
        rw [if_pos rfl]
        refine ha.im q6 e7 fun v H6 Hs6 q7 s7 d7 => ?_
        obtain ⟨f1, f2⟩ := q7.fz p _ upd_same
        have q8 := (q7.rehide (o' := .lst (acc ++ [v]))).wiped vs
        rw [hw] at q8
        refine ⟨acc, f1, ?_, hlt, _, Hs6, _, ad ++ [r.d], out2, q8, ((s3.trans ex.b).trans s6).trans s7, (da.mono ((ex.b.trans s6).trans s7)).app (.cons d7 .nil), e9, ?_⟩
        · have z1 := da.len
          have z2 : ad.length ≤ out.length := by rw [← eo, List.length_append]; omega
          exact Nat.lt_of_le_of_lt (by omega) (few_lt hf)
        · rw [List.append_assoc]
          exact eo
      | false =>
        rw [if_neg Bool.false_ne_true] at e6 ⊢
        have q8 := q6.wiped vs
        rw [hw] at q8
        exact ⟨hlt, _, Hs5, acc, ad, more, q8, (s3.trans ex.b).trans s6, da.mono (ex.b.trans s6), e6, eo⟩
  · have hend : ds.length ≤ i := by omega
    rw [List.drop_eq_nil_of_le hend] at e3
    cases e3
    rw [List.append_nil] at eo
    subst eo
    obtain ⟨f1, f2⟩ := q3.fz p _ upd_same
    refine .inl ⟨Y.stop i H2 (s3.trans q3.sub) hend, k _ H2 Hs3 (q1.unwipe (q3.unhide hfp) s3 nm) (s1.trans s3) ⟨p, _, rfl, f1, f2, hfp, ⟨acc, rfl, da⟩, fun j e' g m z => ?_⟩⟩
    have q9 := q1.unwipe (q3.unhide hfp) s3 nm
    by_cases hjv : j ∈ vs
    · have z1 := q1.len
      have z2 := q3.len
      rw [wipe_length, z1] at z2
      rw [unw_in (G1 := G1) z2.symm hjv] at g
      exact m (noMu_ok nm hjv g)
    · rw [unw_out hjv] at g
      obtain ⟨ds', hd'⟩ : ∃ ds', e'.mu = some ds' := by
        cases y : e'.mu with
        | none => exact absurd y m
        | some ds' => exact ⟨ds', rfl⟩
      obtain ⟨l, ws, a1, a2, a3, a4, a5⟩ := q3.mu j e' ds' g hd'
      rw [wipe_get hjv, z] at a1
      cases a1
      rw [upd_same] at a4
      cases a4
end
end Bk
namespace Bk
open PySem L2
def opAdd : D → D → Option R
  | .int i, .int j => some (.im (.int (i + j)))
  | .str x, .str y => if few (x.length + y.length) then some (.im (.str (x ++ y))) else none
  | .lst xs, .lst ys => if few (xs.length + ys.length) then some (.ol (xs ++ ys)) else none
  | _, _ => none
def opSub : D → D → Option R
  | .int i, .int j => some (.im (.int (i - j)))
  | _, _ => none
def okMul (i j : Int) : Bool := decide (i.natAbs.log2 + j.natAbs.log2 < 1000000)
theorem okMul_ok {i j : Int} (h : okMul i j = true) : CMulW i j := by
  unfold okMul at h
  exact (of_decide_eq_true h : i.natAbs.log2 + j.natAbs.log2 < 1000000)
def opMulI : D → D → Option R
  | .int i, .int j => if okMul i j then some (.im (.int (i * j))) else none
  | _, _ => none
def opMul : D → D → Option R
  | .int i, .int j => if okMul i j then some (.im (.int (i * j))) else none
  | .lst xs, .int k => if okR k && few (xs.length * k.toNat) then some (.ol (List.replicate k.toNat xs).flatten) else none
  | _, _ => none
def okDiv (j : Int) : Bool := decide (j ≠ 0) && decide (j.natAbs.log2 < 9000)
def opFdiv : D → D → Option R
  | .int i, .int j => if okDiv j then some (.im (.int (i.fdiv j))) else none
  | _, _ => none
def opMod : D → D → Option R
  | .int i, .int j => if decide (j ≠ 0) then some (.im (.int (i.fmod j))) else none
  | _, _ => none
def cmp (p : Int → Int → Bool) : D → D → Option R
  | .int i, .int j => some (.im (.bl (p i j)))
  | _, _ => none
def opLt : D → D → Option R := cmp fun i j => decide (i < j)
def opLe : D → D → Option R := cmp fun i j => decide (i ≤ j)
def opGt : D → D → Option R := cmp fun i j => decide (j < i)
def opGe : D → D → Option R := cmp fun i j => decide (j ≤ i)
mutual
def toPy : D → Option PyData
  | .non => some .none
  | .bl b => some (.bool b)
  | .int i => some (.int i)
  | .str x => some (.str x)
  | .lst xs => (toPys xs).map .list
  | .frz xs => (toPys xs).map .list
  | .tup xs => (toPys xs).map .tuple
  | .obj _ _ => none
  | .ty _ => none
  | .cl _ => none
  | .dic _ _ => none
def toPys : List D → Option (List PyData)
  | [] => some []
  | x :: xs => match toPy x, toPys xs with
    | some p, some ps => some (p :: ps)
    | _, _ => none
end
def eqD (a b : D) : Option Bool := match a, b with
  | .int i, .int j => some (decide (i = j))
  | .str x, .str y => some (decide (x = y))
  | a, b => match toPy a, toPy b with
    | some p, some q => if SeqAt.shaped p && SeqAt.shaped q then some (PyData.eqv p q) else none
    | _, _ => none
def opEq (a b : D) : Option R := match eqD a b with
  | some k => some (.im (.bl k))
  | none => none
def opNe (a b : D) : Option R := match eqD a b with
  | some k => some (.im (.bl (!k)))
  | none => none
def isN : D → Bool
  | .non => true
  | _ => false
def isD : D → D → Option Bool
  | a, .non => some (isN a)
  | .bl a, .bl b => some (decide (a = b))
  | _, _ => none
def opIs (a b : D) : Option R := match isD a b with
  | some k => some (.im (.bl k))
  | none => none
def opIsNot (a b : D) : Option R := match isD a b with
  | some k => some (.im (.bl (!k)))
  | none => none
def opIx : D → D → Option R
  | .lst xs, .int k => (atI xs k).map .im
  | .frz xs, .int k => (atI xs k).map .im
  | .tup xs, .int k => (atI xs k).map .im
  | .str x, .int k => if few x.length then (atI x.cps.toList k).map fun c => .im (.str ⟨#[c]⟩) else none
  | _, _ => none
def unNeg : D → Option R
  | .int i => some (.im (.int (-i)))
  | _ => none
def rAddA : R2 := fun x y H Q => rI0 (fun i j => .int (i + j)) x y H Q ∨ (∃ i j, x = .str i ∧ y = .str j ∧ i.length + j.length ≤ sizeLine ∧ Q (.str (i ++ j)) H) ∨ rCat x y H Q
theorem op_addA {X : Cx} : OpR X (binaryOp .Add) rAddA := op_add.or (op_add_str.or op_cat)
def rMulA : R2 := fun x y H Q => rI CMulW (fun i j => .int (i * j)) x y H Q ∨ rRep x y H Q
theorem op_mulA {X : Cx} : OpR X (binaryOp .Mult) rMulA := op_mulW.or op_rep
def rFdivA : R2 := rI (fun _ j => j ≠ 0 ∧ j.natAbs.log2 < 9000) fun i j => .int (i.fdiv j)
theorem op_fdivA {X : Cx} : OpR X (binaryOp .FloorDiv) rFdivA := opI fun _ _ _ _ _ _ _ hc q => PyProof.Rows.floordiv_int hc.1 q (.inl (PyProof.noPylong_of_log2 hc.2))
def rModA : R2 := rI (fun _ j => j ≠ 0) fun i j => .int (i.fmod j)
theorem op_modA {X : Cx} : OpR X (binaryOp .Mod) rModA := op_modN
theorem iop_mulA {X : Cx} : PIp X .Mult (rI CMulW fun i j => .int (i * j)) := opI (X := X) (f := inplaceOp .Mult) fun _ _ _ _ _ _ _ hc q => PyProof.Rows.imul_int q hc.ok
def rSubA : R2 := rI0 fun i j => .int (i - j)
theorem op_subA {X : Cx} : OpR X (binaryOp .Sub) rSubA := op_sub
def rIsA : R2 := fun x y H Q => (y = .non ∧ Q (.bl (decide (x = .non))) H) ∨ rIsB x y H Q
theorem op_isA {X : Cx} : OpR X (compareOp .Is) rIsA := op_isN.or op_isBl
def rIsNotA : R2 := fun x y H Q => (y = .non ∧ Q (.bl (!decide (x = .non))) H) ∨ rNotB x y H Q
theorem op_isNotA {X : Cx} : OpR X (compareOp .IsNot) rIsNotA := op_notN.or op_notBl
section
variable {K : PySem.W.Frag}
theorem od_add : OpD K rAddA opAdd := fun H Hs x y dx dy res s hx hy e Q k => by
  unfold opAdd at e
  split at e
  · cases e
    cases hx; cases hy
    exact .inl ⟨_, _, rfl, rfl, k _ H Hs (Ext.refl s) (.int _)⟩
  · split at e
    case isFalse => cases e
    rename_i hf
    cases e
    cases hx; cases hy
    exact .inr (.inl ⟨_, _, rfl, rfl, few_ok hf, k _ H Hs (Ext.refl s) (.str _)⟩)
  · split at e
    case isFalse => cases e
    rename_i hf
    cases e
    cases hx with
    | lst h1 d1 =>
      cases hy with
      | lst h2 d2 =>
        exact .inr (.inr ⟨_, _, _, _, rfl, rfl, s _ _ h1, s _ _ h2, by rw [d1.len, d2.len]; exact few_ok hf, fun p hp =>
          k _ _ Hs (Ext.hid s hp) ⟨p, _, rfl, hp, upd_same, none_sub s hp, _, rfl, d1.app d2⟩⟩)
  · cases e
theorem od_sub : OpD K rSubA opSub := fun H Hs x y dx dy res s hx hy e Q k => by
  unfold opSub at e
  split at e
  case h_2 => cases e
  cases e
  cases hx; cases hy
  exact ⟨_, _, rfl, rfl, k _ H Hs (Ext.refl s) (.int _)⟩
theorem od_mul : OpD K rMulA opMul := fun H Hs x y dx dy res s hx hy e Q k => by
  unfold opMul at e
  split at e
  · split at e
    case isFalse => cases e
    rename_i hf
    cases e
    cases hx; cases hy
    exact .inl ⟨_, _, rfl, rfl, okMul_ok hf, k _ H Hs (Ext.refl s) (.int _)⟩
  · split at e
    case isFalse => cases e
    rename_i hf
    rw [Bool.and_eq_true] at hf
    cases e
    cases hx with
    | lst h1 d1 =>
      cases hy
      obtain ⟨z1, z2⟩ : -(2 ^ 62) ≤ _ ∧ _ < 2 ^ 62 := okR_inv hf.1
      exact .inr ⟨_, _, _, rfl, rfl, s _ _ h1, by omega, by omega, by rw [d1.len]; exact few_ok hf.2, fun p hp =>
        k _ _ Hs (Ext.hid s hp) ⟨p, _, rfl, hp, upd_same, none_sub s hp, _, rfl, d1.rep _⟩⟩
  · cases e
theorem od_mulI : OpD K (rI CMulW fun i j => .int (i * j)) opMulI := fun H Hs x y dx dy res s hx hy e Q k => by
  unfold opMulI at e
  split at e
  case h_2 => cases e
  split at e
  case isFalse => cases e
  rename_i hf
  cases e
  cases hx; cases hy
  exact ⟨_, _, rfl, rfl, okMul_ok hf, k _ H Hs (Ext.refl s) (.int _)⟩
theorem od_fdiv : OpD K rFdivA opFdiv := fun H Hs x y dx dy res s hx hy e Q k => by
  unfold opFdiv at e
  split at e
  case h_2 => cases e
  split at e
  case isFalse => cases e
  rename_i hf
  unfold okDiv at hf
  rw [Bool.and_eq_true] at hf
  cases e
  cases hx; cases hy
  exact ⟨_, _, rfl, rfl, ⟨of_decide_eq_true hf.1, of_decide_eq_true hf.2⟩, k _ H Hs (Ext.refl s) (.int _)⟩
theorem od_mod : OpD K rModA opMod := fun H Hs x y dx dy res s hx hy e Q k => by
  unfold opMod at e
  split at e
  case h_2 => cases e
  split at e
  case isFalse => cases e
  rename_i hf
  cases e
  cases hx; cases hy
  exact ⟨_, _, rfl, rfl, of_decide_eq_true hf, k _ H Hs (Ext.refl s) (.int _)⟩
theorem od_cmp {p : Int → Int → Bool} : OpD K (rI0 fun i j => .bl (p i j)) (cmp p) := fun H Hs x y dx dy res s hx hy e Q k => by
  unfold cmp at e
  split at e
  case h_2 => cases e
  cases e
  cases hx; cases hy
  exact ⟨_, _, rfl, rfl, k _ H Hs (Ext.refl s) (.bl _)⟩
theorem od_lt : OpD K (rI0 fun i j => .bl (decide (i < j))) opLt := od_cmp
theorem od_le : OpD K (rI0 fun i j => .bl (decide (i ≤ j))) opLe := od_cmp
theorem od_gt : OpD K (rI0 fun i j => .bl (decide (j < i))) opGt := od_cmp
theorem od_ge : OpD K (rI0 fun i j => .bl (decide (j ≤ i))) opGe := od_cmp
mutual
theorem toPy_ok {H : Hp} : ∀ {d : D} {v : V} {p : PyData}, DR K H v d → toPy d = some p → Dp K H v p
  | .non, _, _, h, e => by cases h; unfold toPy at e; cases e; exact .non
  | .bl b, _, _, h, e => by cases h; unfold toPy at e; cases e; exact .bl b
  | .int i, _, _, h, e => by cases h; unfold toPy at e; cases e; exact .int i
  | .str x, _, _, h, e => by cases h; unfold toPy at e; cases e; exact .str x
  | .lst xs, _, _, h, e => by
    unfold toPy at e
    cases z : toPys xs with
    | none => rw [z] at e; cases e
    | some ps =>
      rw [z] at e
      cases e
      cases h with
      | lst h1 d1 => exact .lst (SqL.of h1) (toPys_ok d1 z)
  | .frz xs, _, _, h, e => by
    unfold toPy at e
    cases z : toPys xs with
    | none => rw [z] at e; cases e
    | some ps =>
      rw [z] at e
      cases e
      cases h with
      | frz h1 d1 => exact .lst h1 (toPys_ok d1 z)
  | .tup xs, _, _, h, e => by
    unfold toPy at e
    cases z : toPys xs with
    | none => rw [z] at e; cases e
    | some ps =>
      rw [z] at e
      cases e
      cases h with
      | tup h1 d1 => exact .tup h1 (toPys_ok d1 z)
  | .obj _ _, _, _, _, e => by unfold toPy at e; cases e
  | .ty _, _, _, _, e => by unfold toPy at e; cases e
  | .cl _, _, _, _, e => by unfold toPy at e; cases e
  | .dic _ _, _, _, _, e => by unfold toPy at e; cases e
theorem toPys_ok {H : Hp} : ∀ {ds : List D} {vs : List V} {ps : List PyData}, DRs K H vs ds → toPys ds = some ps → DpAll K H vs ps
  | [], _, _, h, e => by cases h; unfold toPys at e; cases e; exact .nil
  | d :: ds, _, _, h, e => by
    unfold toPys at e
    split at e
    case h_2 => cases e
    rename_i h1 h2
    cases e
    cases h with
    | cons a b => exact .cons (toPy_ok a h1) (toPys_ok b h2)
end
theorem shaped_int (i : Int) : SeqAt.shaped (.int i) = true := by
  unfold SeqAt.shaped
  simp [PyData.canLay0, PyData.depth]
theorem eqD_ok {H : Hp} {x y : V} {a b : D} {k : Bool} (hx : DR K H x a) (hy : DR K H y b) (e : eqD a b = some k) :
    (∃ p q, Dp K H x p ∧ Dp K H y q ∧ SeqAt.shaped p = true ∧ SeqAt.shaped q = true ∧ PyData.eqv p q = k) ∨ (scal x y = true ∧ decide (x = y) = k) := by
  unfold eqD at e
  split at e
  · cases e
    cases hx; cases hy
    exact .inl ⟨_, _, .int _, .int _, shaped_int _, shaped_int _, by simp only [PyData.eqv]; exact Bool.beq_eq_decide_eq _ _⟩
  · cases e
    cases hx; cases hy
    exact .inr ⟨rfl, by simp⟩
  · split at e
    case h_2 => cases e
    rename_i h1 h2
    split at e
    case isFalse => cases e
    rename_i hf
    rw [Bool.and_eq_true] at hf
    cases e
    exact .inl ⟨_, _, toPy_ok hx h1, toPy_ok hy h2, hf.1, hf.2, rfl⟩
def rEqA (K : PySem.W.Frag) : R2 := fun x y H Q => rEqD K x y H Q ∨ rEq x y H Q
def rNeA (K : PySem.W.Frag) : R2 := fun x y H Q => rNeD K x y H Q ∨ rNe x y H Q
theorem op_eqA {X : Cx} (hu : X.A.units + 64 < cLine) : OpR X (compareOp .Eq) (rEqA X.K) := (op_eqD hu).or op_eq
theorem op_neA {X : Cx} (hu : X.A.units + 64 < cLine) : OpR X (compareOp .NotEq) (rNeA X.K) := (op_neD hu).or op_ne
theorem dp_mono {H H' : Hp} (s : Same H H') {x : V} {d : D} {p : PyData} (h : DR K H x d) (e : toPy d = some p) : Dp K H' x p := toPy_ok (h.mono s) e
theorem od_eq : OpD K (rEqA K) opEq := fun H Hs x y dx dy res s hx hy e Q k => by
  unfold opEq at e
  cases z : eqD dx dy with
  | none => rw [z] at e; cases e
  | some b =>
    rw [z] at e
    cases e
    rcases eqD_ok (hx.mono s) (hy.mono s) z with ⟨p, q, a1, a2, a3, a4, a5⟩ | ⟨a1, a2⟩
    · exact .inl ⟨p, q, a1, a2, a3, a4, by rw [a5]; exact k _ H Hs (Ext.refl s) (.bl _)⟩
    · exact .inr ⟨a1, by rw [a2]; exact k _ H Hs (Ext.refl s) (.bl _)⟩
theorem od_ne : OpD K (rNeA K) opNe := fun H Hs x y dx dy res s hx hy e Q k => by
  unfold opNe at e
  cases z : eqD dx dy with
  | none => rw [z] at e; cases e
  | some b =>
    rw [z] at e
    cases e
    rcases eqD_ok (hx.mono s) (hy.mono s) z with ⟨p, q, a1, a2, a3, a4, a5⟩ | ⟨a1, a2⟩
    · exact .inl ⟨p, q, a1, a2, a3, a4, by rw [a5]; exact k _ H Hs (Ext.refl s) (.bl _)⟩
    · exact .inr ⟨a1, by rw [a2]; exact k _ H Hs (Ext.refl s) (.bl _)⟩
theorem isN_ok {H : Hp} {x : V} {d : D} (h : DR K H x d) : decide (x = .non) = isN d := by
  cases h <;> simp [isN]
theorem od_is : OpD K rIsA opIs := fun H Hs x y dx dy res s hx hy e Q k => by
  unfold opIs at e
  cases z : isD dx dy with
  | none => rw [z] at e; cases e
  | some b =>
    rw [z] at e
    cases e
    unfold isD at z
    split at z
    · cases z
      cases hy
      exact .inl ⟨rfl, by rw [isN_ok hx]; exact k _ H Hs (Ext.refl s) (.bl _)⟩
    · cases z
      cases hx; cases hy
      exact .inr ⟨_, _, rfl, rfl, k _ H Hs (Ext.refl s) (.bl _)⟩
    · cases z
theorem od_isNot : OpD K rIsNotA opIsNot := fun H Hs x y dx dy res s hx hy e Q k => by
  unfold opIsNot at e
  cases z : isD dx dy with
  | none => rw [z] at e; cases e
  | some b =>
    rw [z] at e
    cases e
    unfold isD at z
    split at z
    · cases z
      cases hy
      exact .inl ⟨rfl, by rw [isN_ok hx]; exact k _ H Hs (Ext.refl s) (.bl _)⟩
    · cases z
      cases hx; cases hy
      exact .inr ⟨_, _, rfl, rfl, k _ H Hs (Ext.refl s) (.bl _)⟩
    · cases z
theorem od_ix : OpD K (rIx K) opIx := fun H Hs x y dx dy res s hx hy e Q k => by
  have fin : ∀ {vs : List V} {ds : List D} {i : Int}, DRs K Hs vs ds → (atI ds i).map R.im = some res → ∃ w, atI vs i = some w ∧ Q w H := fun {vs ds i} h z => by
    cases z1 : atI ds i with
    | none => rw [z1] at z; cases z
    | some d =>
      rw [z1] at z
      cases z
      obtain ⟨w, w1, w2⟩ := at_ok h z1
      exact ⟨w, w1, k w H Hs (Ext.refl s) w2⟩
  unfold opIx at e
  split at e
  · cases hx with
    | lst h1 d1 =>
      cases hy
      obtain ⟨w, w1, w2⟩ := fin d1 e
      exact .inl ⟨_, _, _, w, rfl, rfl, SqL.of (s _ _ h1), w1, w2⟩
  · cases hx with
    | frz h1 d1 =>
      cases hy
      obtain ⟨w, w1, w2⟩ := fin d1 e
      exact .inl ⟨_, _, _, w, rfl, rfl, same_lst s h1, w1, w2⟩
  · cases hx with
    | tup h1 d1 =>
      cases hy
      obtain ⟨w, w1, w2⟩ := fin d1 e
      exact .inr (.inl ⟨_, _, _, w, rfl, rfl, same_tup s h1, w1, w2⟩)
  · split at e
    case isFalse => cases e
    rename_i hf
    rename_i z i
    cases hx; cases hy
    cases z1 : atI z.cps.toList i with
    | none => rw [z1] at e; cases e
    | some c =>
      rw [z1] at e
      cases e
      exact .inr (.inr ⟨z, i, c, rfl, rfl, few_ok hf, z1, k _ H Hs (Ext.refl s) (.str _)⟩)
  · cases e
theorem ud_neg : UnD K (rU fun i => .int (-i)) unNeg := fun H Hs x dx res s hx e Q k => by
  unfold unNeg at e
  split at e
  case h_2 => cases e
  cases e
  cases hx
  exact ⟨_, rfl, k _ H Hs (Ext.refl s) (.int _)⟩
/-- slices of lists -/
def cutD (xs : List D) (lo hi : Option Int) : List D := (xs.drop (HT.sIx xs.length 0 lo)).take (HT.sIx xs.length xs.length hi - HT.sIx xs.length 0 lo)
theorem cut_ok {H : Hp} {vs : List V} {ds : List D} (h : DRs K H vs ds) (lo hi : Option Int) : DRs K H (cutV vs lo hi) (cutD ds lo hi) := by
  unfold cutV cutD
  rw [h.len]
  exact (h.drop _).take _
def slL (d : D) (lo hi : Option Int) : Option R := match asL d with
  | some xs => some (.ol (cutD xs lo hi))
  | none => none
theorem sd_list : SlD K (rSlL K) slL := fun H Hs x dx l h res s hx e Q k => by
  unfold slL at e
  cases z : asL dx with
  | none => rw [z] at e; cases e
  | some xs =>
    rw [z] at e
    cases e
    obtain ⟨a, vs, rfl, h1, d1⟩ := asL_ok hx z
    exact ⟨a, vs, rfl, same_lst s h1, fun p hp => k _ _ Hs (Ext.hid s hp) ⟨p, _, rfl, hp, upd_same, none_sub s hp, _, rfl, cut_ok d1 _ _⟩⟩
def cbAbs : List D → Option R
  | [.int i] => some (.im (.int (if i < 0 then -i else i)))
  | _ => none
def rAbs : List V → Hp → VK → Prop := fun xs H Q => ∃ i, xs = [.int i] ∧ Q (.int (if i < 0 then -i else i)) H
theorem cr_abs {X : Cx} : CallR X (.builtin "abs") rAbs := call_abs
theorem cd_abs : CbD K rAbs cbAbs := fun H Hs xs ds res s h e Q k => by
  unfold cbAbs at e
  split at e
  case h_2 => cases e
  cases e
  cases h with
  | cons a b => cases b; cases a; exact ⟨_, rfl, k _ H Hs (Ext.refl s) (.int _)⟩
def cbInt : List D → Option R
  | [.int i] => some (.im (.int i))
  | [.bl b] => some (.im (.int (if b then 1 else 0)))
  | _ => none
def rInt : List V → Hp → VK → Prop := fun xs H Q => (∃ i, xs = [.int i] ∧ Q (.int i) H) ∨ ∃ k, xs = [.bl k] ∧ Q (.int (if k then 1 else 0)) H
theorem cr_int {X : Cx} : CallR X (.type "int") rInt := call_int1
theorem cd_int : CbD K rInt cbInt := fun H Hs xs ds res s h e Q k => by
  unfold cbInt at e
  split at e
  · cases e
    cases h with
    | cons a b => cases b; cases a; exact .inl ⟨_, rfl, k _ H Hs (Ext.refl s) (.int _)⟩
  · cases e
    cases h with
    | cons a b => cases b; cases a; exact .inr ⟨_, rfl, k _ H Hs (Ext.refl s) (.int _)⟩
  · cases e
def lenD : D → Option Nat
  | .lst xs => some xs.length
  | .frz xs => some xs.length
  | .tup xs => some xs.length
  | .str x => if few x.length then some x.length else none
  | _ => none
def cbLen : List D → Option R
  | [d] => (lenD d).map fun n => .im (.int n)
  | _ => none
theorem cr_len {X : Cx} : CallR X (.builtin "len") (rLen X.K) := call_len
theorem lenD_ok {H : Hp} {x : V} {d : D} {n : Nat} (h : DR K H x d) (e : lenD d = some n) : LenV K x H n := by
  cases h with
  | lst h1 d1 => cases e; exact .inl ⟨_, SqL.of h1, d1.len.symm⟩
  | frz h1 d1 => cases e; exact .inl ⟨_, h1, d1.len.symm⟩
  | tup h1 d1 => cases e; exact .inr ⟨_, h1, d1.len.symm⟩
  | str x =>
    by_cases hf : few x.length = true
    · rw [show lenD (.str x) = some x.length from if_pos hf] at e
      cases e
      exact ⟨few_ok hf, rfl⟩
    · rw [show lenD (.str x) = none from if_neg hf] at e
      cases e
  | _ => cases e
theorem cd_len : CbD K (rLen K) cbLen := fun H Hs xs ds res s h e Q k => by
  unfold cbLen at e
  split at e
  case h_2 => cases e
  rename_i d
  cases z : lenD d with
  | none => rw [z] at e; cases e
  | some n =>
    rw [z] at e
    cases e
    cases h with
    | cons a b =>
      cases b
      exact ⟨_, n, rfl, lenD_ok (a.mono s) z, k _ H Hs (Ext.refl s) (.int _)⟩
def cbMax2 : List D → Option R
  | [.int i, .int j] => some (.im (.int (if j > i then j else i)))
  | _ => none
def cbMin2 : List D → Option R
  | [.int i, .int j] => some (.im (.int (if j < i then j else i)))
  | _ => none
def rMax2 : List V → Hp → VK → Prop := fun xs H Q => ∃ i j, xs = [.int i, .int j] ∧ Q (.int (if j > i then j else i)) H
def rMin2 : List V → Hp → VK → Prop := fun xs H Q => ∃ i j, xs = [.int i, .int j] ∧ Q (.int (if j < i then j else i)) H
theorem cr_max2 {X : Cx} (hc : X.calm = true) : CallR X (.builtin "max") rMax2 := call_max2 hc
theorem cr_min2 {X : Cx} (hc : X.calm = true) : CallR X (.builtin "min") rMin2 := call_min2 hc
theorem cd_max2 : CbD K rMax2 cbMax2 := fun H Hs xs ds res s h e Q k => by
  unfold cbMax2 at e
  split at e
  case h_2 => cases e
  cases e
  cases h with
  | cons a b =>
    cases b with
    | cons b c => cases c; cases a; cases b; exact ⟨_, _, rfl, k _ H Hs (Ext.refl s) (.int _)⟩
theorem cd_min2 : CbD K rMin2 cbMin2 := fun H Hs xs ds res s h e Q k => by
  unfold cbMin2 at e
  split at e
  case h_2 => cases e
  cases e
  cases h with
  | cons a b =>
    cases b with
    | cons b c => cases c; cases a; cases b; exact ⟨_, _, rfl, k _ H Hs (Ext.refl s) (.int _)⟩
def bools : List D → Option (List Bool)
  | [] => some []
  | .bl b :: ds => match bools ds with
    | some bs => some (b :: bs)
    | none => none
  | _ :: _ => none
theorem bools_ok {H : Hp} : ∀ {ds : List D} {vs : List V} {bs : List Bool}, DRs K H vs ds → bools ds = some bs → vs = bs.map V.bl
  | [], _, _, h, e => by cases h; cases e; rfl
  | d :: ds, _, _, h, e => by
    cases h with
    | cons a b =>
      unfold bools at e
      split at e
      · rename_i heq; cases heq
      · rename_i heq
        cases heq
        split at e
        case h_2 => cases e
        rename_i z
        cases e
        cases a
        rw [List.map_cons, ← bools_ok b z]
      · cases e
def cbAny : List D → Option R
  | [d] => match asL d with
    | some xs => (bools xs).map fun bs => .im (.bl (bs.any id))
    | none => none
  | _ => none
def cbAll : List D → Option R
  | [d] => match asL d with
    | some xs => (bools xs).map fun bs => .im (.bl (bs.all id))
    | none => none
  | _ => none
theorem cd_any : CbD K (rAny K) cbAny := fun H Hs xs ds res s h e Q k => by
  unfold cbAny at e
  split at e
  case h_2 => cases e
  split at e
  case h_2 => cases e
  rename_i ys z
  cases z1 : bools ys with
  | none => rw [z1] at e; cases e
  | some bs =>
    rw [z1] at e
    cases e
    cases h with
    | cons a b =>
      cases b
      obtain ⟨l, vs, rfl, h1, d1⟩ := asL_ok a z
      exact ⟨l, bs, rfl, by rw [← bools_ok d1 z1]; exact same_lst s h1, k _ H Hs (Ext.refl s) (.bl _)⟩
theorem cd_all : CbD K (rAll K) cbAll := fun H Hs xs ds res s h e Q k => by
  unfold cbAll at e
  split at e
  case h_2 => cases e
  split at e
  case h_2 => cases e
  rename_i ys z
  cases z1 : bools ys with
  | none => rw [z1] at e; cases e
  | some bs =>
    rw [z1] at e
    cases e
    cases h with
    | cons a b =>
      cases b
      obtain ⟨l, vs, rfl, h1, d1⟩ := asL_ok a z
      exact ⟨l, bs, rfl, by rw [← bools_ok d1 z1]; exact same_lst s h1, k _ H Hs (Ext.refl s) (.bl _)⟩
def cbTuple : List D → Option R
  | [.tup xs] => some (.im (.tup xs))
  | [d] => (asL d).map fun xs => .im (.tup xs)
  | _ => none
def rTupleOf (K : PySem.W.Frag) : List V → Hp → VK → Prop := fun xs H Q => ∃ p ys, xs = [.ref p] ∧ ((SqL K H p ys ∧ ∀ l, H l = none → Q (.ref l) (upd H l (.tup ys))) ∨ (SqT K H p ys ∧ Q (.ref p) H))
theorem cr_tuple {X : Cx} : CallR X (.type "tuple") (rTupleOf X.K) := call_tuple_of
theorem cd_tuple : CbD K (rTupleOf K) cbTuple := fun H Hs xs ds res s h e Q k => by
  unfold cbTuple at e
  split at e
  · cases e
    cases h with
    | cons a b =>
      cases b
      cases a with
      | tup h1 d1 => exact ⟨_, _, rfl, .inr ⟨same_tup s h1, k _ H Hs (Ext.refl s) (.tup h1 d1)⟩⟩
  · rename_i d _
    cases z : asL d with
    | none => rw [z] at e; cases e
    | some ys =>
      rw [z] at e
      cases e
      cases h with
      | cons a b =>
        cases b
        obtain ⟨l, vs, rfl, h1, d1⟩ := asL_ok a z
        exact ⟨l, vs, rfl, .inl ⟨same_lst s h1, fun p hp => k _ _ _ (Ext.new s hp) (.tup (SqT.of upd_same) (d1.mono (Ext.new (o := HO.tup vs) s hp).b))⟩⟩
  · cases e
def seqD : D → Option (List D)
  | .lst xs => some xs
  | .frz xs => some xs
  | .tup xs => some xs
  | _ => none
def cbList : List D → Option R
  | [d] => (seqD d).map fun xs => .ol xs
  | _ => none
def rListOf (K : PySem.W.Frag) : List V → Hp → VK → Prop := fun xs H Q => ∃ p ys, xs = [.ref p] ∧ (SqL K H p ys ∨ SqT K H p ys) ∧ ∀ l, H l = none → Q (.ref l) (upd H l (.lst ys))
theorem cr_list {X : Cx} : CallR X (.type "list") (rListOf X.K) := call_list_of
theorem cd_list : CbD K (rListOf K) cbList := fun H Hs xs ds res s h e Q k => by
  unfold cbList at e
  split at e
  case h_2 => cases e
  rename_i d
  cases z : seqD d with
  | none => rw [z] at e; cases e
  | some ys =>
    rw [z] at e
    cases e
    cases h with
    | cons a b =>
      cases b
      cases a with
      | lst h1 d1 => cases z; exact ⟨_, _, rfl, .inl (SqL.of (s _ _ h1)), fun p hp => k _ _ Hs (Ext.hid s hp) ⟨p, _, rfl, hp, upd_same, none_sub s hp, _, rfl, d1⟩⟩
      | frz h1 d1 => cases z; exact ⟨_, _, rfl, .inl (same_lst s h1), fun p hp => k _ _ Hs (Ext.hid s hp) ⟨p, _, rfl, hp, upd_same, none_sub s hp, _, rfl, d1⟩⟩
      | tup h1 d1 => cases z; exact ⟨_, _, rfl, .inr (same_tup s h1), fun p hp => k _ _ Hs (Ext.hid s hp) ⟨p, _, rfl, hp, upd_same, none_sub s hp, _, rfl, d1⟩⟩
      | _ => cases z
def tyS : D → Option String
  | .non => some "NoneType"
  | .bl _ => some "bool"
  | .int _ => some "int"
  | .str _ => some "str"
  | .lst _ => some "list"
  | .frz _ => some "list"
  | .tup _ => some "tuple"
  | _ => none
def isiT (a b : String) : Option Bool :=
  if ["int", "bool", "str", "list", "tuple"].contains b then some (a == b || (a == "bool" && b == "int")) else none
theorem isiT_ok {a b : String} {k : Bool} (ha : ["NoneType", "bool", "int", "str", "list", "tuple"].contains a = true) (h : isiT a b = some k) : kitB a b = some k := by
  have hb : ["int", "bool", "str", "list", "tuple"].contains b = true := by
    unfold isiT at h
    split at h
    · assumption
    · cases h
  have key : (["NoneType", "bool", "int", "str", "list", "tuple"].all fun a => ["int", "bool", "str", "list", "tuple"].all fun b => decide (kitB a b = isiT a b)) = true := by decide +kernel
  rw [List.all_eq_true] at key
  have k1 := key a (by simpa using ha)
  rw [List.all_eq_true] at k1
  have k2 := of_decide_eq_true (k1 b (by simpa using hb))
  rw [k2]
  exact h
theorem tyS_ok {H : Hp} {x : V} {d : D} {t : String} (h : DR K H x d) (e : tyS d = some t) : TyX K H x (.type t) ∧ ["NoneType", "bool", "int", "str", "list", "tuple"].contains t = true := by
  cases h with
  | non => cases e; exact ⟨.base .non, by decide⟩
  | bl b => cases e; exact ⟨.base (.bl b), by decide⟩
  | int i => cases e; exact ⟨.base (.int i), by decide⟩
  | str x => cases e; exact ⟨.base (.str x), by decide⟩
  | lst h1 d1 => cases e; exact ⟨.base (.lst h1), by decide⟩
  | frz h1 d1 =>
    cases e
    rcases h1 with (h1 | ⟨o, h1⟩) | ⟨o, its, n, h1, h2, _⟩
    · exact ⟨.base (.lst h1), by decide⟩
    · exact ⟨.base (.frz h1), by decide⟩
    · exact ⟨.kList h1 h2, by decide⟩
  | tup h1 d1 =>
    cases e
    rcases h1 with (h1 | ⟨o, h1⟩) | ⟨o, its, n, h1, h2, _⟩
    · exact ⟨.base (.tup h1), by decide⟩
    · exact ⟨.fTuple h1, by decide⟩
    · exact ⟨.kTuple h1 h2, by decide⟩
  | _ => cases e
def cbIsi : List D → Option R
  | [d, .ty c] => match tyS d with
    | some t => (isiT t c).map fun k => .im (.bl k)
    | none => none
  | _ => none
theorem cd_isi : CbD K (rIsi K) cbIsi := fun H Hs xs ds res s h e Q k => by
  unfold cbIsi at e
  split at e
  case h_2 => cases e
  rename_i d c
  cases z : tyS d with
  | none => rw [z] at e; cases e
  | some t =>
    simp only [z] at e
    cases z1 : isiT t c with
    | none => rw [z1] at e; cases e
    | some b =>
      rw [z1] at e
      cases e
      cases h with
      | cons a a2 =>
        cases a2 with
        | cons a2 a3 =>
          cases a3
          cases a2
          obtain ⟨t1, t2⟩ := tyS_ok (a.mono s) z
          exact ⟨_, _, _, _, b, rfl, .ty c, t1, kit_ty (isiT_ok t2 z1), k _ H Hs (Ext.refl s) (.bl _)⟩
end
end Bk
namespace Bk
open PySem L2
def pad (n : Nat) (ds : List D) : Gam := ds.map Ent.im ++ List.replicate (n - ds.length) Ent.un
def outF : Option (Fl × Gam) → Option R
  | some (.rt r, _) => some r
  | some (.nx, _) => some (.im .non)
  | _ => none
def runF (k n : Nat) (b : MS) (ds : List D) : Option R := if ds.length = k then outF (b (pad n ds)) else none
def outB : Option (Fl × Gam) → Option (R × Mob)
  | some (.rt r, .bx bs :: _) => some (r, bs)
  | some (.nx, .bx bs :: _) => some (.im .non, bs)
  | _ => none
def runB (k n : Nat) (b : MS) (bs : Mob) (ds : List D) : Option (R × Mob) := if ds.length + 1 = k then outB (b (.bx bs :: pad (n - 1) ds)) else none
/-- what stands but is hidden -/
def hid (H Hs : Hp) : Hp := fun a => match Hs a with
  | none => H a
  | some _ => none
theorem hid_some {H Hs : Hp} {a : Addr} {o : HO} (h : hid H Hs a = some o) : H a = some o ∧ Hs a = none := by
  unfold hid at h
  cases z : Hs a with
  | none => rw [z] at h; exact ⟨h, rfl⟩
  | some u => rw [z] at h; cases h
theorem hid_of {H Hs : Hp} {a : Addr} {o : HO} (h : H a = some o) (n : Hs a = none) : hid H Hs a = some o := by
  unfold hid
  rw [n]
  exact h
section
variable {K : PySem.W.Frag}
theorem pad_get {n : Nat} {ds : List D} {i : Nat} {e : Ent} (h : (pad n ds)[i]? = some e) : (∃ d, ds[i]? = some d ∧ e = .im d) ∨ e = .un := by
  unfold pad at h
  rw [List.getElem?_append] at h
  split at h
  · rw [List.getElem?_map] at h
    cases z : ds[i]? with
    | none => rw [z] at h; cases h
    | some d => rw [z] at h; cases h; exact .inl ⟨d, rfl, rfl⟩
  · exact .inr (List.eq_of_mem_replicate (List.mem_of_getElem? h))
theorem pad_len (n : Nat) (ds : List D) (h : ds.length ≤ n) : (pad n ds).length = n := by
  unfold pad
  rw [List.length_append, List.length_map, List.length_replicate]
  omega
theorem start_get {N : List PySem.Str} {vs : List V} {i : Nat} {v : V} (h : vs[i]? = some v) : (L2.start N vs)[i]? = some (some v) := by
  unfold L2.start
  have hl : i < (vs.map some).length := by
    rw [List.length_map]
    exact (List.getElem?_eq_some_iff.mp h).1
  rw [List.getElem?_append_left hl, List.getElem?_map, h]
  rfl
theorem start_len {N : List PySem.Str} {vs : List V} (h : vs.length ≤ N.length) : (L2.start N vs).length = N.length := by
  unfold L2.start
  rw [List.length_append, List.length_map, List.length_replicate]
  omega
theorem rel_start {N : List PySem.Str} {H Hs : Hp} {vs : List V} {ds : List D} (s : Same Hs H) (d : DRs K Hs vs ds) (hl : vs.length ≤ N.length) : Rel K (hid H Hs) (fun _ => 0) (pad N.length ds) (L2.start N vs) H Hs := by
  refine ⟨s, fun a o h => hid_some h, by rw [start_len hl, pad_len _ _ (by rw [← d.len]; exact hl)], fun i e h => ?_, fun i e es h h0 => ?_, fun i j e e' l h1 _ m1 _ _ _ => ?_, fun i es h => ?_⟩
  · rcases pad_get h with ⟨e', h1, h2⟩ | h2
    · cases h2
      obtain ⟨v, v1, v2⟩ := d.at h1
      exact ⟨v, start_get v1, v2⟩
    · cases h2
  · rcases pad_get h with ⟨e', _, h2⟩ | h2
    · subst h2; cases h0
    · subst h2; cases h0
  · rcases pad_get h1 with ⟨e', _, h2⟩ | h2
    · subst h2; exact absurd rfl m1
    · subst h2; exact absurd rfl m1
  · rcases pad_get h with ⟨e', _, h2⟩ | h2
    · cases h2
    · cases h2
/-- behind a def's body: what the caller wants to know -/
theorem ext_end {Fz : Hp} {ba : Nat → Addr} {G : Gam} {σ : L2.St} {H Hs H' Hs' : Hp} (s : Same Hs H) (hf : Fz = hid H Hs) (q : Rel K Fz ba G σ H' Hs') (z : Same Hs Hs') : Ext H Hs H' Hs' := by
  subst hf
  refine ⟨fun a o h => ?_, z, q.sub, fun a o h n => (q.fz a o (hid_of h n)).2⟩
  cases y : Hs a with
  | none => exact (q.fz a o (hid_of h y)).1
  | some u =>
    have e := s a u y
    rw [h] at e
    cases e
    exact q.sub a o (z a o y)
theorem res_end {Fz : Hp} {G : Gam} {σ : L2.St} {H Hs H' Hs' : Hp} {v : V} {r : R} (hf : Fz = hid H Hs) (z : Same Hs Hs') (x : Res K Fz G σ H' Hs' v r) : ResF K H H' Hs' v r := by
  subst hf
  cases r with
  | im d => exact x
  | ow ds =>
    obtain ⟨p, vs, rfl, h1, h2, h3, h4, _⟩ := x
    refine ⟨p, vs, rfl, ?_, h1, h2, h4⟩
    cases y : H p with
    | none => rfl
    | some o =>
      cases y2 : Hs p with
      | some u =>
        rw [z p u y2] at h2
        cases h2
      | none =>
        rw [hid_of y y2] at h3
        cases h3
theorem fin_F {N : List PySem.Str} {k : Nat} {t : TS} {b : MS} (h : SOk K t b) (hk : k ≤ N.length) {vs : List V} {H : Hp} {Q : VK} {E : XK} (q : spF K (runF k N.length b) vs H Q E) : t { nx := fun _ H' => Q .non H', rt := Q } (L2.start N vs) H := by
  obtain ⟨Hs, ds, r, s, d, e, kk⟩ := q
  unfold runF at e
  split at e
  case isFalse => cases e
  rename_i hl
  have hv : vs.length ≤ N.length := by rw [d.len, hl]; exact hk
  have R0 := rel_start (N := N) s d hv
  cases z : b (pad N.length ds) with
  | none => rw [z] at e; cases e
  | some p =>
    obtain ⟨fl, G'⟩ := p
    rw [z] at e
    refine h _ _ _ _ _ _ fl G' R0 z _ ?_
    cases fl with
    | nx => cases e; exact fun σ' H' Hs' q1 s1 => kk .non H' Hs' (ext_end s rfl q1 s1) .non
    | rt r' => cases e; exact fun v σ' H' Hs' q1 s1 x => kk v H' Hs' (ext_end s rfl q1 s1) (res_end rfl s1 x)
    | bk => cases e
    | ct => cases e
theorem spF_len {k n : Nat} {b : MS} {vs : List V} {H : Hp} {Q : VK} {E : XK} (q : spF K (runF k n b) vs H Q E) : vs.length = k := by
  obtain ⟨Hs, ds, r, s, d, e, kk⟩ := q
  unfold runF at e
  split at e
  case isFalse => cases e
  rename_i hl
  rw [d.len, hl]
/-- the same with a list that may change -/
def hidB (l : Addr) (H Hs : Hp) : Hp := fun a => if a = l then none else hid H Hs a
theorem hidB_of {l : Addr} {H Hs : Hp} {a : Addr} {o : HO} (ne : a ≠ l) (h : H a = some o) (n : Hs a = none) : hidB l H Hs a = some o := by
  unfold hidB
  rw [if_neg ne]
  exact hid_of h n
theorem rel_startB {N : List PySem.Str} {H Hs : Hp} {l : Addr} {bvs : HO} {vs : List V} {bds : Mob} {ds : List D} (s : Same Hs H) (hl : H l = some bvs) (hn : Hs l = none) (hb : MobO K Hs bds bvs) (d : DRs K Hs vs ds) (hz : vs.length + 1 ≤ N.length) :
    Rel K (hidB l H Hs) (fun _ => l) (.bx bds :: pad (N.length - 1) ds) (L2.start N (.ref l :: vs)) H Hs := by
  have e0 : L2.start N (.ref l :: vs) = some (.ref l) :: (vs.map some ++ List.replicate (N.length - (vs.length + 1)) none) := rfl
  have sg : ∀ {i : Nat} {v : V}, vs[i]? = some v → (L2.start N (.ref l :: vs))[i + 1]? = some (some v) := fun {i v} h => start_get (vs := .ref l :: vs) (by simpa using h)
  refine ⟨s, fun a o h => ?_, ?_, fun i e h => ?_, fun i e es h h0 => ?_, fun i j e e' l' h1 h2 m1 m2 _ _ => ?_, fun i es h => ?_⟩
  · unfold hidB at h
    split at h
    · cases h
    · exact hid_some h
  · rw [start_len (by simpa using hz), List.length_cons, pad_len _ _ (by rw [← d.len]; omega)]
    omega
  · cases i with
    | zero => cases h
    | succ i =>
      rcases pad_get (show (pad (N.length - 1) ds)[i]? = some _ by simpa using h) with ⟨e', h1, h2⟩ | h2
      · cases h2
        obtain ⟨v, v1, v2⟩ := d.at h1
        exact ⟨v, sg v1, v2⟩
      · cases h2
  · cases i with
    | zero =>
      cases h
      cases h0
      exact ⟨l, bvs, by rw [e0]; rfl, hl, hn, by unfold hidB; rw [if_pos rfl], hb⟩
    | succ i =>
      rcases pad_get (show (pad (N.length - 1) ds)[i]? = some _ by simpa using h) with ⟨e', _, h2⟩ | h2
      · subst h2; cases h0
      · subst h2; cases h0
  · have only : ∀ {i : Nat} {e : Ent}, (Ent.bx bds :: pad (N.length - 1) ds)[i]? = some e → e.mu ≠ none → i = 0 := fun {i e} h m => by
      cases i with
      | zero => rfl
      | succ i =>
        rcases pad_get (show (pad (N.length - 1) ds)[i]? = some _ by simpa using h) with ⟨e', _, h2⟩ | h2
        · subst h2; exact absurd rfl m
        · subst h2; exact absurd rfl m
    rw [only h1 m1, only h2 m2]
  · cases i with
    | zero => rw [e0]; rfl
    | succ i =>
      rcases pad_get (show (pad (N.length - 1) ds)[i]? = some _ by simpa using h) with ⟨e', _, h2⟩ | h2
      · cases h2
      · cases h2
theorem fin_B {N : List PySem.Str} {k : Nat} {t : TS} {b : MS} (h : SOk K t b) (hk : k ≤ N.length) {vs : List V} {H : Hp} {Q : VK} {E : XK} (q : spB K (runB k N.length b) vs H Q E) : t { nx := fun _ H' => Q .non H', rt := Q } (L2.start N vs) H := by
  obtain ⟨Hs, l, vs', bvs, bds, ds, r, bds', rfl, s, hl, hn, hb, d, e, kk⟩ := q
  unfold runB at e
  split at e
  case isFalse => cases e
  rename_i hlen
  have R0 := rel_startB (N := N) s hl hn hb d (by rw [d.len, hlen]; exact hk)
  -- what the caller wants to know
  have ex : ∀ {G σ H' Hs' bs}, Rel K (hidB l H Hs) (fun _ => l) (.bx bs :: G) σ H' Hs' → Same Hs Hs' → ExtB l H Hs H' Hs' ∧ ∃ ws, H' l = some ws ∧ Hs' l = none ∧ MobO K Hs' bs ws := fun {G σ H' Hs' bs} q1 s1 => by
    have hs0 : σ[0]? = some (some (.ref l)) := q1.bx 0 bs rfl
    obtain ⟨l', ws, a1, a2, a3, a4, a5⟩ := q1.mu 0 _ bs rfl rfl
    rw [hs0] at a1
    cases a1
    refine ⟨⟨fun a o ne h => ?_, s1, q1.sub, fun a o h n => ?_⟩, ws, a2, a3, a5⟩
    · cases y : Hs a with
      | none => exact (q1.fz a o (hidB_of ne h y)).1
      | some u =>
        have e := s a u y
        rw [h] at e
        cases e
        exact q1.sub a o (s1 a o y)
    · by_cases ne : a = l
      · rw [ne]; exact a3
      · exact (q1.fz a o (hidB_of ne h n)).2
  have rs : ∀ {G σ H' Hs' bs v r}, Rel K (hidB l H Hs) (fun _ => l) (.bx bs :: G) σ H' Hs' → Same Hs Hs' → Res K (hidB l H Hs) (.bx bs :: G) σ H' Hs' v r → ResF K H H' Hs' v r := fun {G σ H' Hs' bs v r} q1 s1 x => by
    cases r with
    | im d => exact x
    | ow ds =>
      obtain ⟨p, vs, rfl, h1, h2, h3, h4, h5⟩ := x
      have ne : p ≠ l := fun y => by
        subst y
        exact h5 0 _ rfl (by simp [Ent.mu]) (q1.bx 0 bs rfl)
      refine ⟨p, vs, rfl, ?_, h1, h2, h4⟩
      cases y : H p with
      | none => rfl
      | some o =>
        cases y2 : Hs p with
        | some u =>
          rw [s1 p u y2] at h2
          cases h2
        | none =>
          rw [hidB_of ne y y2] at h3
          cases h3
  cases z : b (.bx bds :: pad (N.length - 1) ds) with
  | none => rw [z] at e; cases e
  | some p =>
    obtain ⟨fl, G'⟩ := p
    rw [z] at e
    refine h _ _ _ _ _ _ fl G' R0 z _ ?_
    cases fl with
    | nx =>
      cases G' with
      | nil => cases e
      | cons e0 G' =>
        cases e0 with
        | bx bs =>
          cases e
          intro σ' H' Hs' q1 s1
          obtain ⟨x1, ws, x2, x3, x4⟩ := ex q1 s1
          exact kk .non H' Hs' ws x1 x2 x3 x4 .non
        | _ => cases e
    | rt r' =>
      cases G' with
      | nil => cases e
      | cons e0 G' =>
        cases e0 with
        | bx bs =>
          cases e
          intro v σ' H' Hs' q1 s1 x
          obtain ⟨x1, ws, x2, x3, x4⟩ := ex q1 s1
          exact kk v H' Hs' ws x1 x2 x3 x4 (rs q1 s1 x)
        | _ => cases e
    | bk => cases e
    | ct => cases e
theorem spB_len {k n : Nat} {b : MS} {vs : List V} {H : Hp} {Q : VK} {E : XK} (q : spB K (runB k n b) vs H Q E) : vs.length = k := by
  obtain ⟨Hs, l, vs', bvs, bds, ds, r, bds', rfl, s, hl, hn, hb, d, e, kk⟩ := q
  unfold runB at e
  split at e
  case isFalse => cases e
  rename_i hl
  rw [List.length_cons, d.len, hl]
end
theorem scope_le {N ps : List PySem.Str} {sc : Scope} (S : FnScope N ps sc) : ps.length ≤ N.length := by
  have h := congrArg List.length S.pre
  rw [List.length_take] at h
  omega
section
variable {P : Program} {w : World} {K : PySem.W.Frag} {mg : PySem.Str → Option Value} {base : Heap}
theorem data_F {x qual : PySem.Str} {st : Stmt} {f : Addr} {fd : FuncData} {N ps : List PySem.Str} {k : Nat} {b : MS} (F : Fun K x qual st f fd) (S : FnScope N ps (defScope st))
    (hb : ∀ (cdv : Value) (A : Around) (outer : List Env) (s : Shared) (H : Hp) (E : XK), Room k (A.deeper (PyProof.Rows.envOfC qual (defScope st) s.heap.objs.size f cdv)) →
      ∃ t, PSs (cxOf CX0 P w K mg base N qual (defScope st) f cdv A outer s H E).nox (defBody st) t ∧ SOk K t b) : FnOk P w K mg base CX0 (k + 1) f fd ps (spF K (runF ps.length N.length b)) :=
  F.ok S (fun vs H Q E q => spF_len q) fun cdv A outer s H vs Q E hr q => by
    obtain ⟨t, h1, h2⟩ := hb cdv A outer s H E hr
    exact ⟨t, h1, fin_F h2 (scope_le S) q⟩
theorem data_B {x qual : PySem.Str} {st : Stmt} {f : Addr} {fd : FuncData} {N ps : List PySem.Str} {k : Nat} {b : MS} (F : Fun K x qual st f fd) (S : FnScope N ps (defScope st))
    (hb : ∀ (cdv : Value) (A : Around) (outer : List Env) (s : Shared) (H : Hp) (E : XK), Room k (A.deeper (PyProof.Rows.envOfC qual (defScope st) s.heap.objs.size f cdv)) →
      ∃ t, PSs (cxOf CX0 P w K mg base N qual (defScope st) f cdv A outer s H E).nox (defBody st) t ∧ SOk K t b) : FnOk P w K mg base CX0 (k + 1) f fd ps (spB K (runB ps.length N.length b)) :=
  F.ok S (fun vs H Q E q => spB_len q) fun cdv A outer s H vs Q E hr q => by
    obtain ⟨t, h1, h2⟩ := hb cdv A outer s H E hr
    exact ⟨t, h1, fin_B h2 (scope_le S) q⟩
end
end Bk
namespace Bk
open PySem L2 PyProof.Rows
section
variable {P : Program} {w : World} {K : PySem.W.Frag} {mg : PySem.Str → Option Value} {base : Heap}
/-- the law's def called with one object, no call around it -/
theorem call_law {nm qual x : PySem.Str} {st : Stmt} {f a : Addr} {fd : FuncData} {N : List PySem.Str} {k : Nat} {b : MS} {s : Shared} {H : Hp} {Q : VK} (F : Fun K nm qual st f fd) (S : FnScope N [x] (defScope st)) (hr : Room (k + 1) callerA)
    (hb : ∀ (cdv : Value) (s : Shared) (H : Hp) (E : XK), (callerA.deeper (PyProof.Rows.envOfC qual (defScope st) s.heap.objs.size f cdv)).guards = some [] → Room k (callerA.deeper (PyProof.Rows.envOfC qual (defScope st) s.heap.objs.size f cdv)) →
      ∃ t, PSs (cxOf CX0 P w K mg base N qual (defScope st) f cdv callerA [] s H E).nox (defBody st) t ∧ SOk K t b)
    (e0 : Env0 P w K mg base callerA [] s H) (bd0 : BindsTo s fd ⟨[.ref a], []⟩ [(x, .ref a)]) (q : spF K (runF 1 N.length b) [.ref a] H Q E0) :
    codeAny (model P w) callerA (.call (.ref f) ⟨[.ref a], []⟩) (CR CX0 [] P w H s Q E0) s := by
  obtain ⟨oc, od, kV, doc, pm, an, cdv, ct, osl, rfl, lk, hcd⟩ := F.ex
  have KX : K.In s.heap := e0.mod.kin.keeps fun c o z => (e0.bs c o z).1
  have lim : s.heap.NoLimit := e0.mod.nolimit.keeps fun c o z => (e0.bs c o z).1
  have hpar := S.par x List.mem_cons_self
  refine codeAny_call_function hr.depth (KX f _ lk) rfl S.co S.gen rfl (PySem.W.codeRec_of KX hcd) (bd0 _ _ _ _ ?_)
  have hkd : ∀ y ∈ [(x, Value.ref a)], (defScope st).names.lookup y.1 = some .local ∨ ((defScope st).names.lookup y.1 = some .cell ∧ ((cellsFrom (s.heap.objs.size + 1) (defScope st).names []).lookup y.1).isSome = true) := by
    intro y hy
    obtain rfl := List.mem_singleton.mp hy
    rcases hpar with z | z
    · exact .inl z
    · exact .inr ⟨z, PySem.W.cellsFrom_some _ _ _ (.inl z)⟩
  refine wpAny_newFunctionEnv_cells S.kind hkd fun env he s1 y => ?_
  subst he
  refine ⟨lim.keeps y.toInCall.keep, codeAny_func ?_⟩
  obtain ⟨t, ht, hs⟩ := hb cdv s H E0 rfl (hr.deeper _)
  have I : Inv (cxOf CX0 P w K mg base N qual (defScope st) f cdv callerA [] s H E0) [] (L2.start N [.ref a]) H s1 := inv_start S hr.hd e0 rfl (.cons rfl .nil) y
  refine wpAny_mono (ht.nox.run [] s1 _ H _ I (fin_F hs (scope_le S) q)) (fun fl s2 h2 => ?_) fun e s2 h2 => h2
  cases fl with
  | ret u =>
    obtain ⟨v, σ2, H2, J, rv, q2⟩ := h2
    exact ⟨v, H2, J.os, J.bare, J.base, J.hok, rv, q2⟩
  | next =>
    obtain ⟨σ2, H2, J, q2⟩ := h2
    exact ⟨V.non, H2, J.os, J.bare, J.base, J.hok, rfl, q2⟩
  | brk =>
    obtain ⟨_, _, _, q2⟩ := h2
    exact q2.elim
  | cont =>
    obtain ⟨_, _, _, q2⟩ := h2
    exact q2.elim
end
/-- the goal that the head leaves, from what the law's body computes -/
theorem law_end {l : PySem.W.OpenLaw} {q : Program} {loose : List PySem.Str} {XP : (PySem.Str → Option Value) → Heap → Prop} {YP : World → Heap → Prop} {d : DefRec} {K : Params → PySem.W.Frag} {x : PySem.Str} {m : List D → Option R}
    (hn : l.most = some 63) (hdf : d.params.defaults = []) (hY : ∀ (w : World) (h : Heap), YP w h → (K w.params).In h)
    (F : ∀ (w : World) (mg : PySem.Str → Option Value) (fa : Addr) (h : Heap), (K w.params).In h → h.Ns mainGlobals mg → mg d.name = some (.ref fa) →
      ∃ fd : FuncData, (∀ (s : Shared) (u : Value), BindsTo s fd ⟨[u], []⟩ [(x, u)]) ∧
        ∀ (base : Heap) (s : Shared) (H : Hp) (a : Addr) (Q : VK), (K w.params).In base → base.Ns mainGlobals mg → Env0 l.prog w (K w.params) mg base callerA [] s H → BindsTo s fd ⟨[.ref a], []⟩ [(x, .ref a)] → spF (K w.params) m [.ref a] H Q E0 →
          codeAny (model l.prog w) callerA (.call (.ref fa) ⟨[.ref a], []⟩) (CR CX0 [] l.prog w H s Q E0) s)
    (hm : ∀ ns : List Int, ns.length ≤ 63 → m [.frz (ns.map .int)] = some (.im (.bl true))) :
    PySem.W.WalkO q loose XP YP l.row.toRowW d [] (fun f vs => PySem.call f vs) := by
  refine Att.attach_call hn hdf fun w s0 s1 mg mb fa o pm cd doc a vs ns G Y ho hd hcd hmg hobj hints hlen hg => ?_
  have KX := hY w _ Y
  obtain ⟨fd, hb, hF⟩ := F w mg fa _ KX G.T.g hmg
  have rv := vals_ints hints
  have hz : (ns.map V.int).length ≤ sizeLine := by rw [List.length_map]; exact Nat.le_trans hlen (by decide)
  have hsz : vs.toArray.size ≤ sizeLine := by rw [List.size_toArray, ← rv.length]; exact hz
  -- the run, from an abstract heap that knows the script at most
  have go : ∀ H : Hp, (∀ c, H c ≠ none → c = a) → (∀ c, H c = none ∨ ∃ ob xs, H c = some (.frz ob (.lst xs))) → SqL (K w.params) H a (ns.map V.int) → HOk l.prog w H s1.heap → (H a ≠ none → (K w.params).lookup a = none) →
      codeAny (model l.prog w) callerA (.call (.ref fa) ⟨[.ref a], []⟩) (fun r s' => r = .ok (.ret (.bool true)) ∧ OldK s1.heap s'.heap ∧ s'.os = s1.os ∧ AllBare s'.gens) s1 := by
    intro H hA hO hS hok hK
    have keepB : ∀ {c : Addr} {ob : Obj}, s1.heap.get? c = some ob → H c = none → (hidT s1.heap H).get? c = some ob := fun e n => hidT_get e n
    have free : ∀ {c : Addr} {ob : Obj}, s1.heap.get? c = some ob → (∀ its n, ob.data ≠ .seq its n) → H c = none := fun {c ob} e nd => by
      cases z : H c with
      | none => rfl
      | some u =>
        have e' := hA c (by rw [z]; simp)
        subst e'
        rw [hobj] at e
        cases e
        exact absurd rfl (nd _ _)
    have nsB : ∀ {c : Addr} {m : PySem.Str → Option Value}, s1.heap.Ns c m → (hidT s1.heap H).Ns c m := fun {c m} ⟨ob, es, ep, e, dd, r⟩ => ⟨ob, es, ep, keepB e (free e fun its n z => by rw [dd] at z; cases z), dd, r⟩
    have KB : (K w.params).In (hidT s1.heap H) := fun c ob e => keepB (KX c ob e) (by
      cases z : H c with
      | none => rfl
      | some u =>
        have e' := hA c (by rw [z]; simp)
        subst e'
        rw [hK (by rw [z]; simp)] at e
        cases e)
    have MB : Mod (K w.params) mg (hidT s1.heap H) := ⟨KB, nsB G.T.g, ⟨mb, nsB G.T.b, G.T.builtins⟩, let ⟨mc, z1, z2⟩ := G.T.nolimit; ⟨mc, nsB z1, z2⟩⟩
    have e0 : Env0 l.prog w (K w.params) mg (hidT s1.heap H) callerA [] s1 H :=
      ⟨rfl, MB, fun c ob e => of_hidT e, Nat.le_of_eq (hidT_size _ _), trivial, fun c hc => absurd (show c ∈ ([] : List Addr) from hc) (by simp), hok, .of_eq hg⟩
    have sp : spF (K w.params) m [.ref a] H (fun v _ => v = .bl true) E0 :=
      ⟨H, _, _, Same.refl _, .cons (.frz hS (DRs.ints ns)) .nil, hm ns hlen, fun v H' Hs' _ r => dr_bl r⟩
    refine codeAny_mono (hF _ s1 H a _ KB (nsB G.T.g) e0 (hb s1 _) sp) fun r s2 h2 => ?_
    cases r with
    | error e => exact h2.elim
    | ok fl =>
      cases fl with
      | next => exact h2.elim
      | brk => exact h2.elim
      | cont => exact h2.elim
      | ret u =>
        obtain ⟨v, H2, os, bare, un, hok2, rv2, qv⟩ := h2
        have qv' : v = .bl true := qv
        subst qv'
        obtain rfl : u = Value.bool true := rv2
        refine ⟨rfl, OldK.of_keep fun c ob e => ?_, os, bare⟩
        rcases hO c with z | ⟨ob2, xs, z⟩
        · exact un.keep c ob e z (by intro y; exact absurd (show c ∈ ([] : List Addr) from y) (by simp)) (by simp)
        · have y := un.frzs c ob2 _ z
          obtain ⟨y1, _⟩ := hok c _ z
          obtain ⟨y2, _⟩ := hok2 c _ y
          rw [e] at y1
          cases y1
          exact y2
  cases hk : (K w.params).lookup a with
  | some ob =>
    have e := KX a ob hk
    rw [hobj] at e
    cases e
    exact go (fun _ => none) (fun c z => absurd rfl z) (fun _ => .inl rfl) (.inr ⟨_, vs.toArray, _, hk, rfl, rfl, rfl, hsz, by simpa using rv⟩) (fun c u z => by cases z) fun z => absurd rfl z
  | none =>
    have yes : ∀ {u : HO}, (if a = a then some u else none) = some u := fun {u} => if_pos rfl
    refine go (fun c => if c = a then some (.frz { cls := .type "list", data := .seq vs.toArray } (.lst (ns.map V.int))) else none) (fun c z => ?_) (fun c => ?_) (.inl (.inr ⟨_, yes⟩)) (fun c u z => ?_) fun _ => hk
    · refine Classical.byContradiction fun ne => z (if_neg ne)
    · by_cases e : c = a
      · exact .inr ⟨_, _, if_pos e⟩
      · exact .inl (if_neg e)
    · by_cases e : c = a
      · subst e
        have z' := yes.symm.trans z
        cases z'
        exact ⟨hobj, hz, vs, _, rv, hobj⟩
      · have z' := (if_neg e).symm.trans z
        cases z'
end Bk
namespace Bk
open PySem L2 PyProof.Rows
def rSlA (K : PySem.W.Frag) : V → Option Int → Option Int → Hp → VK → Prop := fun x lo hi H Q => rSlL K x lo hi H Q ∨ rSlT K x lo hi H Q
section
variable {K : PySem.W.Frag}
/-- xs[::k], k reckoned to be -1 -/
def tRevS (K : PySem.W.Frag) (te tk : TE) : TE := fun σ H Q => te σ H fun x H1 => tk σ H1 fun y H2 => y = .int (-1) ∧ (some (-1 : Int) = some (-1) ∧ ∃ a xs, x = .ref a ∧ SqL K H2 a xs ∧ ∀ p, H2 p = none → Q (.ref p) (upd H2 p (.lst xs.reverse)))
theorem pe_revS {X : Cx} {e st : Expr} {te tk : TE} {p3 pos : Pos} (he : PE X e te) (hk : PE X st tk) :
    PE X (.Subscript e (.Slice none none (some st) p3) pos) (tRevS X.K te tk) := by
  refine ⟨fun pins s σ H Q I h => ?_⟩
  refine Subscript_ (thn (he.run pins s σ H _ I h) fun v s1 ⟨x, H1, I1, r1, q1⟩ => ?_)
  refine wpAny_Slice (thn (po_none.run pins s1 σ H1 (fun o H2 => o = none ∧ H2 = H1) I1 ⟨rfl, rfl⟩) fun vl s2 ⟨l, H2, I2, pl, el, e2⟩ => ?_)
  subst el e2
  refine thn (po_none.run pins s2 σ H2 (fun o H3 => o = none ∧ H3 = H2) I2 ⟨rfl, rfl⟩) fun vu s3 ⟨u, H3, I3, pu, eu, e3⟩ => ?_
  subst eu e3
  have hst : PO X (some st) (fun σ H Q => tk σ H fun y H2 => y = .int (-1) ∧ Q (some (-1)) H2) := by
    refine ⟨fun pins s σ H Q I hw => ?_⟩
    rw [evalPart_some]
    refine thn (hk.run pins s σ H _ I hw) fun u s1 ⟨y, H1, I1, r1, q1⟩ => ?_
    obtain ⟨rfl, q⟩ := q1
    obtain ⟨t, rfl⟩ := r1
    exact ⟨some (-1), H1, I1, .int (-1) t, q⟩
  refine thn (hst.run pins s3 σ H3 (fun o H4 => o = some (-1) ∧ ∃ a xs, x = .ref a ∧ SqL X.K H4 a xs ∧ ∀ p, H4 p = none → Q (.ref p) (upd H4 p (.lst xs.reverse))) I3 q1) fun vs s4 ⟨o, H4, I4, ps, eo, a, xs, ex, hx, q⟩ => ?_
  subst eo ex
  cases r1
  have I5 : Inv X pins σ H4 { s4 with heap := s4.heap.push { cls := .type "slice", data := .fields #[vl, vu, vs] } } := I4.kept (t' := s4.toks) fun b ob q => Heap.get?_push_of_some _ q
  obtain ⟨its, r, ht, hz⟩ := I5.list hx
  have hlen := r.length
  show wpAny (model X.prog X.w) X.A (subscriptTail e (.Slice none none (some st) p3) (.ref a) (.ref s4.heap.objs.size)) (EP X pins σ Q) X.xe { s4 with heap := s4.heap.push { cls := .type "slice", data := .fields #[vl, vu, vs] } }
  refine tail_any (ops := [.ref a, .ref s4.heap.objs.size]) ht.isList.typeIs (PySem.slot_list_getitem.lookup) ?_ (by with_unfolding_all rfl)
  refine wpAny_getItem_list_slice ht.isList (Heap.IsSliceOf.new _ vl vu vs) pl pu ps (by decide) ?_ (by rw [List.size_toArray]; omega)
  rw [PySem.W.krv_pick]
  refine ⟨.ref _, _, I5.laid (t' := s4.toks) (o := .lst xs.reverse) (fun b ob q => Heap.get?_push_of_some _ q) (Nat.le_refl _) ?_, rfl, q _ (I5.hok.fresh (Nat.le_refl _))⟩
  exact ⟨by rw [List.length_reverse]; exact hz, _, 0, r.reverse, Heap.get?_push_size _ rfl⟩
def xrev (a b : M R) : M R := fun G => bd (a G) fun x G1 => bd (b G1) fun y G2 => match asL x.d, y.d with
  | some ds, .int k => if k = -1 then some (.ol ds.reverse, G2) else none
  | _, _ => none
theorem gk_rev {te tk : TE} {a b : M R} (ha : GOk K te a) (hb : GOk K tk b) : GOk K (tRevS K te tk) (xrev a b) := fun Fz ba G σ H Hs res G' q e Q k => by
  obtain ⟨x, G1, e1, e⟩ := bd_inv e
  obtain ⟨y, G2, e2, e⟩ := bd_inv e
  split at e
  case h_2 => cases e
  rename_i ds n h1 h2
  split at e
  case isFalse => cases e
  rename_i hn
  cases e
  refine ha.im q e1 fun v1 H1 Hs1 q1 s1 d1 => ?_
  refine hb.im q1 e2 fun v2 H2 Hs2 q2 s2 d2 => ?_
  rw [h2] at d2
  obtain ⟨a1, x1, rfl, l1, r1⟩ := asL_ok (d1.mono s2) h1
  refine ⟨by rw [dr_int d2, hn], rfl, a1, x1, rfl, same_lst q2.sub l1, fun p hp => ?_⟩
  have ex : Ext H2 Hs2 (upd H2 p (.lst x1.reverse)) Hs2 := Ext.hid q2.sub hp
  have rf : ResF K H2 (upd H2 p (.lst x1.reverse)) Hs2 (.ref p) (.ol ds.reverse) := ⟨p, _, rfl, hp, upd_same, none_sub q2.sub hp, _, rfl, r1.rev⟩
  exact k _ _ _ (q2.ext ex) ((s1.trans s2).trans ex.b) (rf.res q2)
def iSeq (K : PySem.W.Frag) (tl : TE) : TI := fun σ H R => tl σ H fun x H1 => ∃ a, x = .ref a ∧ (((∃ xs, SqL K H1 a xs) ∧ R (Itl K a) H1) ∨ ((∃ xs, SqT K H1 a xs) ∧ R (Itt K a) H1))
theorem pi_seq {X : Cx} {tg l : Expr} {tl : TE} (hl : PE X l tl) : PI X tg l (iSeq X.K tl) := by
  refine ⟨fun pins s σ H R I h => ?_⟩
  refine thn (hl.run pins s σ H _ I h) fun v s1 ⟨x, H1, I1, r1, q1⟩ => ?_
  obtain ⟨a, ex, hh⟩ := q1
  subst ex
  cases r1
  have fp : ∀ b ∈ [s1.heap.objs.size], FpOk X pins H1 b := fun b hb => by
    have e : b = s1.heap.objs.size := by simpa using hb
    subst e
    exact I1.fpOk (Nat.le_refl _) I1.fresh
  rcases hh with ⟨⟨xs, hq⟩, q⟩ | ⟨⟨xs, hq⟩, q⟩
  · obtain ⟨its, rv, p, hz⟩ := I1.list hq
    exact wpAny_pyIter_list p.isList ⟨_, _, _, _, H1, rfl, I1.kept (t' := s1.toks) fun b o e => Heap.get?_push_of_some _ e, turn_list a _, ⟨_, Heap.get?_push_size _ rfl, rfl, rfl⟩, fp, q⟩
  · obtain ⟨its, rv, p, hz⟩ := I1.tuple hq
    exact wpAny_pyIter_tuple (show s1.heap.IsTuple a its.toArray from p) ⟨_, _, _, _, H1, rfl, I1.kept (t' := s1.toks) fun b o e => Heap.get?_push_of_some _ e, turn_tuple a _, ⟨_, Heap.get?_push_size _ rfl, rfl, rfl⟩, fp, q⟩
def xseqI (a : M R) : M (List D) := fun G => bd (a G) fun x G1 => match seqD x.d with
  | some ds => some (ds, G1)
  | none => none
theorem ik_seq {ta : TE} {a : M R} (ha : GOk K ta a) : IOk K (iSeq K ta) (xseqI a) := fun Fz ba G σ H Hs ds G' q e Q k => by
  obtain ⟨x, G1, e1, e⟩ := bd_inv e
  refine ha.im q e1 fun v H1 Hs1 q1 s1 d => ?_
  cases h : x.d with
  | lst es =>
    rw [h] at e d
    cases e
    cases d with
    | lst hl hd => exact ⟨_, rfl, .inl ⟨⟨_, SqL.of (q1.sub _ _ hl)⟩, k _ H1 Hs1 q1 s1 (yl_list (SqL.of hl) hd)⟩⟩
  | frz es =>
    rw [h] at e d
    cases e
    cases d with
    | frz hl hd => exact ⟨_, rfl, .inl ⟨⟨_, same_lst q1.sub hl⟩, k _ H1 Hs1 q1 s1 (yl_list hl hd)⟩⟩
  | tup es =>
    rw [h] at e d
    cases e
    cases d with
    | tup hl hd => exact ⟨_, rfl, .inr ⟨⟨_, same_tup q1.sub hl⟩, k _ H1 Hs1 q1 s1 (yl_tup hl hd)⟩⟩
  | _ => rw [h] at e; cases e
end
theorem r70 {k : Nat} {A : Around} (hr : Room k A) : A.units + 70 < cLine := by
  have := hr.un
  omega
section
variable {X : Cx} {K : PySem.W.Frag} (hK : X.K = K)
include hK
theorem kop_eq (hu : X.A.units + 64 < cLine) : OpR X (compareOp .Eq) (rEqA K) := hK ▸ op_eqA hu
theorem kop_ne (hu : X.A.units + 64 < cLine) : OpR X (compareOp .NotEq) (rNeA K) := hK ▸ op_neA hu
theorem kix : IxR X (rIx K) := hK ▸ ix_seq
theorem kpi_seq {tg l : Expr} {tl : TE} (hl : PE X l tl) : PI X tg l (iSeq K tl) := hK ▸ pi_seq hl
theorem kcr_len : CallR X (.builtin "len") (rLen K) := hK ▸ cr_len
theorem kcr_any (hc : X.calm = true) : CallR X (.builtin "any") (rAny K) := hK ▸ cr_any hc
theorem kcr_all (hc : X.calm = true) : CallR X (.builtin "all") (rAll K) := hK ▸ cr_all hc
theorem kcr_tuple : CallR X (.type "tuple") (rTupleOf K) := hK ▸ cr_tuple
theorem kcr_list : CallR X (.type "list") (rListOf K) := hK ▸ cr_list
theorem kcr_isi : CallR X (.builtin "isinstance") (rIsi K) := hK ▸ call_isi
theorem kpe_rev {e st : Expr} {te tk : TE} {p3 pos : Pos} (he : PE X e te) (hk : PE X st tk) : PE X (.Subscript e (.Slice none none (some st) p3) pos) (tRevS K te tk) := hK ▸ pe_revS he hk
theorem kpg_tup {es : List Expr} {k : Nat} {t : TGs} {n : Nat} {pos : Pos} (hc : X.calm = true) (h : PGs X es t)
    (hn : (assignEach es X.env).length = n := by rfl) (hst : (assignEach es X.env).findIdx? (·.1) = none := by rfl) : PG X (.Tuple es k pos) (gTup K n t) := hK ▸ pg_tup hc h hn hst
def tTruK (K : PySem.W.Frag) (ta : TE) : TT := fun σ H Q => ta σ H fun x H' => ∃ k, TruV K x H' k ∧ Q k H'
theorem kpt_tru {a : Expr} {ta : TE} (ha : PE X a ta) (he : ∀ whole, isTrue a X.env whole = (do let v ← whole; standAt a.pos; holding [v] (truthy v))) : PT X a (tTruK K ta) := hK ▸ pt_truth ha he
theorem kpe_app {o e : Expr} {to te : TE} {apos cpos : Pos} (ho : PE X o to) (he : PE X e te)
    (hbase : attributeBase o "append" X.env (eval o X.env) = eval o X.env := by rfl)
    (hfew : ((backTo cpos (starEach [e] X.env)).all (fun x => !x.1) && (backToKw cpos (keywordEach [] X.env)).all (fun x => x.1.isSome) && decide ([e].length + ([] : List Keyword).length + (if ([] : List Keyword).isEmpty then 0 else 1) < 30)) = true := by rfl)
    (hline : (apos.endLine == cpos.line) = true := by rfl) (hs : starEach [e] X.env = (false, eval e X.env) :: starEach [] X.env := by rfl) (hplain : (backTo cpos (starEach [] X.env)).any (·.1) = false := by rfl) :
    PE X (.Call (.Attribute o "append" apos) [e] [] cpos) (tBM K "list" rAppend to (tCons te tNil)) :=
  hK ▸ pe_bm PySem.F.plainAttrs_list PySem.F.slot_list_append PySem.F.type_list_append mt_append ho (pa_cons he pa_nil hs) hbase hfew hline hs hplain
end
theorem tk_truK {K : PySem.W.Frag} {ta : TE} {a : M R} (ha : GOk K ta a) : TOk K (tTruK K ta) (xtru a) := tk_tru ha
/-- turns enough: one more than the number of the name at i -/
def fuelI (i : Nat) (G : Gam) : Nat := match G[i]? with
  | some (.im (.int j)) => j.natAbs + 1
  | _ => 0
/-- a def of the text, where it stands -/
structure FnT (K : PySem.W.Frag) (mg : PySem.Str → Option Value) (x : PySem.Str) (st : Stmt) where
  f : Addr
  fd : FuncData
  F : Fun K x x st f fd
  m : mg x = some (.ref f)
/-- a global that stands for data -/
structure CoT (K : PySem.W.Frag) (mg : PySem.Str → Option Value) (x : PySem.Str) (d : D) where
  v : V
  u : Value
  m : mg x = some u
  r : RelV v u
  d : ∀ H, DR K H v d
def coTup {K : PySem.W.Frag} {h : Heap} {mg : PySem.Str → Option Value} {x : PySem.Str} (X : K.In h) (G : h.Ns mainGlobals mg) {a : Addr} {dd : Option Addr} {its : Array Value} {n : Nat} {sl : Array (Option Value)} {vs : List V} {ds : List D}
    (ha : PySem.W.nsIn K mainGlobals x = some (some (.ref a))) (l : K.lookup a = some ⟨.type "tuple", dd, .seq its n, sl⟩) (hz : its.size ≤ sizeLine) (hv : Vals vs its.toList) (hd : ∀ H, DRs K H vs ds) : CoT K mg x (.tup ds) :=
  ⟨.ref a, .ref a, PySem.W.mg_of X G ha, rfl, fun H => .tup (.inr ⟨_, its, n, l, rfl, rfl, hz, hv⟩) (hd H)⟩
def fnT {K : PySem.W.Frag} {h : Heap} {mg : PySem.Str → Option Value} {x : PySem.Str} {st : Stmt} (X : K.In h) (G : h.Ns mainGlobals mg) {f : Addr} {od an : Option Addr} {sl : Array (Option Value)} {oc kV dc pm cd ct : Value}
    (a : PySem.W.nsIn K mainGlobals x = some (some (.ref f))) (l : K.lookup f = some ⟨oc, od, .func (PySem.W.fnOf x x (defArgs st) (defBody st) (defScope st) .none kV dc pm an cd ct), sl⟩) (c : PySem.W.codeIn K cd x = true) (k : PySem.W.keepIn K (.ref f) = true) : FnT K mg x st :=
  ⟨f, _, fun_mk l c k, PySem.W.mg_of X G a⟩
end Bk
namespace Bk
open PySem L2 PySem.Builtin PySem.Spec PyProof.Rows
theorem enum_of {v : Value} {o : Obj} {H : Heap → Prop} (B : Begins v o H) :
    Meets (Builtin.«enumerate.__new__» ⟨[.type "enumerate", v], []⟩) (fun _ R s => H s.heap ∧ R (.ok (.ret (.ref (s.heap.push o).objs.size)))
      { s with heap := (s.heap.push o).push { cls := .type "enumerate", data := .fields #[.none, .bool false, .ref s.heap.objs.size, rawInt 0, .none, .none] } }) :=
  .of_wp fun prog w A R s hh => by
    obtain ⟨hp, g, d, tk, os⟩ := s
    obtain ⟨hb, hr⟩ := hh
    have hsub := sub_enumerate
    have qi : ∀ {A' : Around} {E Q : Value → Shared → Prop}, Q (.ref hp.objs.size) ⟨hp.push o, g, d, tk, os⟩ → wpAny (model prog w) A' (pyIter v) Q E ⟨hp, g, d, tk, os⟩ := fun k => B.iter prog w _ _ ⟨hp, g, d, tk, os⟩ _ hb k
    wp_walk using qi
    refine wpAny_stack_any fun fr => wpAny_pure ?_
    split
    case h_1 c _ _ _ _ _ =>
      cases (c == Value.type "enumerate") <;> (wp_walk using qi; exact ⟨_, rfl, hr⟩)
    all_goals (wp_walk using qi; exact ⟨_, rfl, hr⟩)
theorem enum_call {prog : Program} {w : World} {A : Around} {E : Value → Shared → Prop} {s : Shared} {v : Value} {o : Obj} {H : Heap → Prop} {Q : Value → Shared → Prop} (B : Begins v o H) (h1 : H s.heap)
    (h : ∀ h', IsEnum h' (s.heap.objs.size + 1) s.heap.objs.size 0 .none → h'.get? s.heap.objs.size = some o → (∀ b ob, s.heap.get? b = some ob → h'.get? b = some ob) → Q (.ref (s.heap.objs.size + 1)) { s with heap := h' }) :
    wpAny (model prog w) A (call (.type "enumerate") [v]) Q E s := by
  have hz : (s.heap.push o).objs.size = s.heap.objs.size + 1 := Heap.size_push ..
  have he := Heap.get?_push_size (s.heap.push o) (o := { cls := .type "enumerate", data := .fields #[.none, .bool false, .ref s.heap.objs.size, rawInt 0, .none, .none] }) rfl
  rw [hz] at he
  refine callType_new F.called_enumerate (by decide) (F.typeCall_enumerate_1 _) (F.newCall_enumerate_1 _) (fun ob => F.args_object_init_2 ob _) F.entry_enumerate_new (enum_of B) ⟨h1, ?_⟩
  show _ ∧ _
  rw [hz]
  exact ⟨⟨_, he, rfl⟩, h _ he (Heap.get?_push_of_some _ (Heap.get?_push_size _ B.free)) fun b ob x => Heap.get?_push_of_some _ (Heap.get?_push_of_some _ x)⟩
theorem draws_end {prog : Program} {w : World} {A : Around} (hh : A.handled = none) (it t : Addr) (items : Array Value) (i : Nat) (hi : items.size ≤ i) :
    Draws prog w A it [it, t] i (fun _ _ => True) (fun j h => (h.IsTupleIter it t j ∧ h.IsTuple t items) ∧ j = i) where
  live := fun _ _ st => st.1.1.elim fun o ho => ⟨o, ho.1⟩
  frame := fun _ _ _ st hk => ⟨⟨st.1.1.at fun o e => hk it (by simp) o e, st.1.2.at fun o e => hk t (by simp) o e⟩, st.2⟩
  item := fun j s Q E hj st hQ => absurd st.2 (Nat.ne_of_lt hj)
  done := fun s Q E st hE => wpAny_nextOf_tuple_end hh st.1.1 st.1.2 (Array.getElem?_eq_none hi) hE
/-- the tuple at a, each item in a new pair -/
def Itet (K : PySem.W.Frag) (a : Addr) : It :=
  ⟨fun i H => ∃ (xs : List V) (x : V), SqT K H a xs ∧ xs[i]? = some x, fun i H v H' => ∃ T x, v = .ref T ∧ H T = none ∧ H' = upd H T (.tup [.int (i : Nat), x]) ∧ ∀ xs, SqT K H a xs → xs[i]? = some x, fun i H => ∃ xs : List V, SqT K H a xs ∧ xs.length ≤ i⟩
theorem turn_enumT {P : Program} {w : World} {K : PySem.W.Frag} {elts : List Expr} {kk : Nat} {tpos : Pos} (a e it : Addr) (hea : e ≠ a) (hta : a ≠ it) :
    Turn P w K (.Tuple elts kk tpos) (Itet K a) [e, it] e (fun i h => (∃ old, IsEnum h e it ((i : Nat) : Int) old) ∧ h.IsTupleIter it a i ∧ e ≠ it) where
  mem := by simp
  obj := fun i h st b hb => by
    obtain ⟨⟨old, he⟩, ⟨o, ho, hc, hd⟩, _⟩ := st
    have eb : b = e ∨ b = it := by simpa using hb
    rcases eb with rfl | rfl
    · exact ⟨_, he, fun v q => nomatch q⟩
    · exact ⟨o, ho, fun v q => by rw [hd] at q; cases q⟩
  keep := fun i h h' st k => ⟨st.1.elim fun old he => ⟨old, k e (by simp) _ he⟩, st.2.1.at fun o q => k it (by simp) o q, st.2.2⟩
  item := by
    intro X hP hw hK hc i pins s σ H E I hf st hg
    subst hP hw hK
    obtain ⟨⟨old, he⟩, hit, hne⟩ := st
    obtain ⟨xs, x, hq, hx⟩ := hg
    obtain ⟨its, rv, p, hz⟩ := I.tuple hq
    obtain ⟨u, hu, ru⟩ := rv.get hx
    have hlt : i < its.toArray.size := by
      have : i < its.length := (List.getElem?_eq_some_iff.mp hu).1
      simpa using this
    have hel : e < s.heap.objs.size := Heap.lt_size he
    have hil : it < s.heap.objs.size := by obtain ⟨_, q, _⟩ := hit; exact Heap.lt_size q
    refine wpAny_pyNext_enum_itemD (Draws.tuple (A := X.A.in1) (I.ok.hd hc) it a hta its.toArray) he ⟨hit, show s.heap.IsTuple a its.toArray from p⟩ hlt hne (by simp [hne, hea]) fun y h' tk hP ho st' hT hsz hk => ?_
    have ey : y = u := by
      have : its[i]? = some y := by simpa using hP
      rw [hu] at this
      cases this
      rfl
    subst ey
    refine ⟨_, rfl, wpAny_letOwnedTupleGo_enum (s := { s with heap := h', toks := tk + 1 }) ho fun h'' he' sb => ?_⟩
    have hT2 := (sb.2 _ (Nat.ne_of_gt hel)).trans hT
    have new : ObjOk X.prog X.w (upd H s.heap.objs.size (.tup [.int (i : Nat), x])) h'' s.heap.objs.size (.tup [.int (i : Nat), x]) :=
      ⟨by show 2 ≤ sizeLine; decide, [.int i tk, y], .cons ⟨_, rfl⟩ (.cons ru .nil), ⟨_, hT2, rfl, _, rfl⟩⟩
    have I1 : Inv X pins σ (upd H s.heap.objs.size (.tup [.int (i : Nat), x])) { s with heap := h'', toks := tk + 1 } :=
      I.turnedNew (ch := [e, it]) (fun b ob hb q => (sb.2 b (fun z => hb (by simp [z]))).trans (hk b ob (fun z => hb (by simp [z])) (fun z => hb (by simp [z])) q)) hf (Nat.le_refl _) new
    refine ⟨.ref s.heap.objs.size, _, I1, rfl, ⟨_, x, rfl, I.hok.fresh (Nat.le_refl _), rfl, fun ys hy => by rw [I.tuple_inj hy hq]; exact hx⟩, ⟨⟨y, ?_⟩, st'.1.at fun o q => (sb.2 it (Ne.symm hne)).trans q, hne⟩, fun b hb => ?_⟩
    · rw [show ((i + 1 : Nat) : Int) = (i : Int) + 1 by omega]
      exact he'
    · have eb : b = e ∨ b = it := by simpa using hb
      have hlb : b < s.heap.objs.size := by rcases eb with rfl | rfl; exact hel; exact hil
      rw [upd_ne (Nat.ne_of_lt hlb)]
      exact (hf b hb).1
  done := by
    intro X hP hw hK hc i pins s σ H E I hf st hg
    subst hP hw hK
    obtain ⟨⟨old, he⟩, hit, hne⟩ := st
    obtain ⟨xs, hq, hx⟩ := hg
    obtain ⟨its, rv, p, hz⟩ := I.tuple hq
    have hl := rv.length
    obtain ⟨f0, f1, f2, f3, f4, f5⟩ := hf it (by simp)
    exact wpAny_pyNext_enum_endD (draws_end (A := X.A.in1) (I.ok.hd hc) it a its.toArray i (by simp; omega)) he ⟨⟨hit, show s.heap.IsTuple a its.toArray from p⟩, rfl⟩ fun h' eb => ⟨rfl, I.turned (t' := s.toks) (fun b o hb q => eb b o hb q) f0 f1 f3 f4 f5⟩
  self := fun A i s Q E st h => let ⟨⟨_, he⟩, _⟩ := st; wpAny_pyIter_enum he h
/-- over a list or a tuple -/
def iEnumA (K : PySem.W.Frag) (ta : TA) : TI := fun σ H R => ta σ H fun vs H1 => ∃ a, vs = [.ref a] ∧ (((∃ xs, SqL K H1 a xs) ∧ R (Ite K a) H1) ∨ ((∃ xs, SqT K H1 a xs) ∧ R (Itet K a) H1))
theorem pi_enumA {X : Cx} {e : Expr} {ta : TA} {p pos tpos : Pos} {elts : List Expr} {kk : Nat} (hg : Gl X "enumerate") (hm : X.mg "enumerate" = none) (ha : PA X [e] ta) (hs : starEach [e] X.env = [(false, eval e X.env)] := by rfl) :
    PI X (.Tuple elts kk tpos) (.Call (.Name "enumerate" p) [e] [] pos) (iEnumA X.K ta) := by
  refine ⟨fun pins s σ H R I h => Call_ (ld_blt I hg hm boot_enumerate (callWith_type1 (thn (ha.run pos pins s σ H _ I h) fun us s1 ⟨vs, H1, I1, r1, a, ex, q⟩ => ?_) hs rfl))⟩
  subst ex
  cases r1 with
  | cons r rr =>
    cases rr
    cases r
    have fp : ∀ b ∈ [s1.heap.objs.size + 1, s1.heap.objs.size], FpOk X pins H1 b := fun b hb => by
      have eb : b = s1.heap.objs.size + 1 ∨ b = s1.heap.objs.size := by simpa using hb
      have hle : s1.heap.objs.size ≤ b := by
        rcases eb with rfl | rfl
        · exact Nat.le_succ _
        · exact Nat.le_refl _
      exact I1.fpOk hle (I1.hok.fresh hle)
    rcases q with ⟨⟨xs, hq⟩, q⟩ | ⟨⟨xs, hq⟩, q⟩
    · obtain ⟨its, rv, p', hz⟩ := I1.list hq
      exact call_enumerate_list p'.isList fun h' he hit hsz hk => wpAny_pyIter_enum he ⟨_, _, _, _, H1, rfl, I1.kept (t' := s1.toks) hk, turn_enum a _ _, ⟨⟨.none, he⟩, hit, Nat.succ_ne_self _⟩, fp, q⟩
    · obtain ⟨its, rv, p', hz⟩ := I1.tuple hq
      have hlt : a < s1.heap.objs.size := by obtain ⟨o, e, _⟩ := p'; exact Heap.lt_size e
      exact enum_call (begins_tuple a its.toArray) (show s1.heap.IsTuple a its.toArray from p') fun h' he hit hk => wpAny_pyIter_enum he
        ⟨_, _, _, _, H1, rfl, I1.kept (t' := s1.toks) hk, turn_enumT a _ _ (Nat.ne_of_gt (Nat.lt_succ_of_lt hlt)) (Nat.ne_of_lt hlt), ⟨⟨.none, he⟩, ⟨_, hit, rfl, rfl⟩, Nat.succ_ne_self _⟩, fp, q⟩
section
variable {K : PySem.W.Frag}
theorem yl_enumT {Hs : Hp} {a : Addr} {xs : List V} {ds : List D} (ha : SqT K Hs a xs) (da : DRs K Hs xs ds) : Yl K (Itet K a) (enumD 0 ds) Hs where
  go := fun i H s hi => by
    rw [enum_len] at hi
    exact ⟨xs, xs[i]'(by rw [da.len]; omega), same_tup s ha, by simp⟩
  stop := fun i H s hi => by
    rw [enum_len] at hi
    exact ⟨xs, same_tup s ha, by rw [da.len]; omega⟩
  yld := fun i x H H' Hs1 _ s s1 y => by
    obtain ⟨T, x1, rfl, hT, rfl, h1⟩ := y
    obtain ⟨d1, e1, r1⟩ := da.ta (h1 xs (same_tup (s.trans s1) ha))
    have ex : Ext H Hs1 (upd H T (.tup [.int (i : Nat), x1])) (upd Hs1 T (.tup [.int (i : Nat), x1])) := Ext.new s1 hT
    refine ⟨.tup [.int (i : Nat), d1], _, ?_, ex, .tup (SqT.of upd_same) (.cons (.int _) (.cons (r1.mono (s.trans ex.b)) .nil))⟩
    rw [enum_get e1, Nat.zero_add]
def xenumA (a : M (List D)) : M (List D) := fun G => bd (a G) fun xs G1 => match xs with
  | [x] => match seqD x with
    | some ds => some (enumD 0 ds, G1)
    | none => none
  | _ => none
theorem ik_enumA {ta : TA} {a : M (List D)} (ha : AOk K ta a) : IOk K (iEnumA K ta) (xenumA a) := fun Fz ba G σ H Hs ds G' q e Q k => by
  obtain ⟨xs, G1, e1, e⟩ := bd_inv e
  refine ha Fz ba G σ H Hs xs _ q e1 _ fun vs H1 Hs1 q1 s1 d => ?_
  split at e
  case h_2 => cases e
  rename_i x
  cases d with
  | cons d1 d2 =>
    cases d2
    cases h : seqD x with
    | none => rw [h] at e; cases e
    | some es =>
      rw [h] at e
      cases e
      cases x with
      | lst xs => cases h; obtain ⟨a1, x1, rfl, l1, r1⟩ := asL_ok d1 rfl; exact ⟨a1, rfl, .inl ⟨⟨_, same_lst q1.sub l1⟩, k _ H1 Hs1 q1 s1 (yl_enum l1 r1)⟩⟩
      | frz xs => cases h; obtain ⟨a1, x1, rfl, l1, r1⟩ := asL_ok d1 rfl; exact ⟨a1, rfl, .inl ⟨⟨_, same_lst q1.sub l1⟩, k _ H1 Hs1 q1 s1 (yl_enum l1 r1)⟩⟩
      | tup xs =>
        cases h
        cases d1 with
        | tup hl hd => exact ⟨_, rfl, .inr ⟨⟨_, same_tup q1.sub hl⟩, k _ H1 Hs1 q1 s1 (yl_enumT hl hd)⟩⟩
      | _ => cases h
end
theorem kpi_enumA {X : Cx} {K : PySem.W.Frag} (hK : X.K = K) {e : Expr} {ta : TA} {p pos tpos : Pos} {elts : List Expr} {kk : Nat} (hg : Gl X "enumerate") (hm : X.mg "enumerate" = none) (ha : PA X [e] ta) (hs : starEach [e] X.env = [(false, eval e X.env)] := by rfl) :
    PI X (.Tuple elts kk tpos) (.Call (.Name "enumerate" p) [e] [] pos) (iEnumA K ta) := hK ▸ pi_enumA hg hm ha hs
end Bk
namespace Bk
open PySem L2 PySem.Builtin PySem.Spec PyProof.Rows
/-- a list (k) or a tuple -/
def SqK (K : PySem.W.Frag) (k : Bool) (a : Addr) (H : Hp) (xs : List V) : Prop := match k with
  | true => SqL K H a xs
  | false => SqT K H a xs
def ItK (k : Bool) (it a : Addr) (i : Nat) (h : Heap) : Prop := match k with
  | true => h.IsListIter it a i
  | false => h.IsTupleIter it a i
def InK (k : Bool) (a : Addr) (its : Array Value) (h : Heap) : Prop := match k with
  | true => h.IsList a its
  | false => h.IsTuple a its
def obK (k : Bool) (a : Addr) : Obj := match k with
  | true => { cls := .type "list_iterator", data := .fields #[.ref a, .int 0 0] }
  | false => { cls := .type "tuple_iterator", data := .fields #[.ref a, .int 0 0] }
theorem draws_k {prog : Program} {w : World} {A : Around} (hh : A.handled = none) (k : Bool) (it a : Addr) (hne : a ≠ it) (its : Array Value) : Draws prog w A it [it, a] its.size (fun i v => its[i]? = some v) (fun i h => ItK k it a i h ∧ InK k a its h) := by
  cases k
  · exact Draws.tuple hh it a hne its
  · exact Draws.list hh it a hne its
theorem drawsL_end {prog : Program} {w : World} {A : Around} (hh : A.handled = none) (it t : Addr) (items : Array Value) (i : Nat) (hi : items.size ≤ i) :
    Draws prog w A it [it, t] i (fun _ _ => True) (fun j h => (h.IsListIter it t j ∧ h.IsList t items) ∧ j = i) where
  live := fun _ _ st => st.1.1.elim fun o ho => ⟨o, ho.1⟩
  frame := fun _ _ _ st hk => ⟨⟨st.1.1.at fun o e => hk it (by simp) o e, st.1.2.at fun o e => hk t (by simp) o e⟩, st.2⟩
  item := fun j s Q E hj st hQ => absurd st.2 (Nat.ne_of_lt hj)
  done := fun s Q E st hE => wpAny_nextOf_list_end hh st.1.1 st.1.2 (Array.getElem?_eq_none hi) hE
theorem draws_stop {prog : Program} {w : World} {A : Around} (hh : A.handled = none) (k : Bool) (it a : Addr) (hne : a ≠ it) (its : Array Value) (i : Nat) {h : Heap} (h1 : ItK k it a i h) (h2 : InK k a its h) :
    ∃ n P St, Draws prog w A it [it, a] n P St ∧ St i h ∧ i ≤ n ∧ (its.size ≤ i → i = n) := by
  by_cases hi : its.size ≤ i
  · cases k
    · exact ⟨_, _, _, draws_end hh it a its i hi, ⟨⟨h1, h2⟩, rfl⟩, Nat.le_refl _, fun _ => rfl⟩
    · exact ⟨_, _, _, drawsL_end hh it a its i hi, ⟨⟨h1, h2⟩, rfl⟩, Nat.le_refl _, fun _ => rfl⟩
  · exact ⟨_, _, _, draws_k hh k it a hne its, ⟨h1, h2⟩, by omega, fun z => absurd z hi⟩
theorem begins_k (k : Bool) (a : Addr) (its : Array Value) : Begins (.ref a) (obK k a) (InK k a its) := by
  cases k
  · exact begins_tuple a its
  · exact begins_list a its
theorem itk_obj {k : Bool} {it a : Addr} {i : Nat} {h : Heap} (h1 : ItK k it a i h) : ∃ o, h.get? it = some o ∧ ∀ v, o.data ≠ .cell v := by
  cases k
  · obtain ⟨o, e, _, d⟩ := h1
    exact ⟨o, e, fun v q => by rw [d] at q; cases q⟩
  · obtain ⟨o, e, _, d⟩ := h1
    exact ⟨o, e, fun v q => by rw [d] at q; cases q⟩
theorem ItK.at {k : Bool} {it a : Addr} {i : Nat} {h h' : Heap} (h1 : ItK k it a i h) (hk : ∀ o, h.get? it = some o → h'.get? it = some o) : ItK k it a i h' := by
  cases k
  · exact Heap.IsTupleIter.at h1 hk
  · exact Heap.IsListIter.at h1 hk
theorem itk_new {k : Bool} {it a : Addr} {h : Heap} (e : h.get? it = some (obK k a)) : ItK k it a 0 h := by
  cases k
  · exact ⟨_, e, rfl, rfl⟩
  · exact ⟨_, e, rfl, rfl⟩
section
variable {X : Cx} {pins : List (Addr × Obj)} {σ : L2.St} {H : Hp} {s : Shared} {k : Bool} {a : Addr} {xs ys : List V}
theorem inv_k (I : Inv X pins σ H s) (h : SqK X.K k a H xs) : ∃ its : List Value, Vals xs its ∧ InK k a its.toArray s.heap ∧ a < s.heap.objs.size := by
  cases k
  · obtain ⟨its, r, p, _⟩ := I.tuple h
    exact ⟨its, r, show s.heap.IsTuple a its.toArray from p, by obtain ⟨o, e, _⟩ := p; exact Heap.lt_size e⟩
  · obtain ⟨its, r, p, _⟩ := I.list h
    exact ⟨its, r, p.isList, p.lt⟩
theorem inj_k (I : Inv X pins σ H s) (h : SqK X.K k a H xs) (h' : SqK X.K k a H ys) : xs = ys := by
  cases k
  · exact I.tuple_inj h h'
  · exact I.list_inj h h'
end
def ItZ (K : PySem.W.Frag) (k l : Bool) (a b : Addr) : It :=
  ⟨fun i H => ∃ (xs ys : List V) (x y : V), SqK K k a H xs ∧ SqK K l b H ys ∧ xs[i]? = some x ∧ ys[i]? = some y,
    fun i H v H' => ∃ T x y, v = .ref T ∧ H T = none ∧ H' = upd H T (.tup [x, y]) ∧ (∀ xs, SqK K k a H xs → xs[i]? = some x) ∧ ∀ ys, SqK K l b H ys → ys[i]? = some y,
    fun i H => ∃ xs ys : List V, SqK K k a H xs ∧ SqK K l b H ys ∧ (xs.length ≤ i ∨ ys.length ≤ i)⟩
theorem turn_zipK {P : Program} {w : World} {K : PySem.W.Frag} {elts : List Expr} {kk : Nat} {tpos : Pos} {k l : Bool} {a b z TI TO i1 i2 : Addr} (D : ZipSep2 z TI TO i1 i2 [i1, a] [i2, b]) (ha : a ≠ i1) (hb : b ≠ i2) :
    Turn P w K (.Tuple elts kk tpos) (ItZ K k l a b) [z, TI, TO, i1, i2] z (fun i h => IsZip h z TI TO .none ∧ IsTupOf2 h TI (.ref i1) (.ref i2) ∧ (∃ x y, IsTupOf2 h TO x y) ∧ ItK k i1 a i h ∧ ItK l i2 b i h) where
  mem := by simp
  obj := fun i h st c hc => by
    obtain ⟨hz, hTI, ⟨x, y, hTO⟩, h1, h2⟩ := st
    have ec : c = z ∨ c = TI ∨ c = TO ∨ c = i1 ∨ c = i2 := by simpa using hc
    rcases ec with rfl | rfl | rfl | rfl | rfl
    · exact ⟨_, hz, fun v q => nomatch q⟩
    · exact ⟨_, hTI, fun v q => nomatch q⟩
    · exact ⟨_, hTO, fun v q => nomatch q⟩
    · exact itk_obj h1
    · exact itk_obj h2
  keep := fun i h h' st kp => by
    obtain ⟨hz, hTI, ⟨x, y, hTO⟩, h1, h2⟩ := st
    exact ⟨kp z (by simp) _ hz, kp TI (by simp) _ hTI, ⟨x, y, kp TO (by simp) _ hTO⟩, h1.at fun o q => kp i1 (by simp) o q, h2.at fun o q => kp i2 (by simp) o q⟩
  item := by
    intro X hP hw hK hc i pins s σ H E I hf st hg
    subst hP hw hK
    obtain ⟨hz, hTI, ⟨x0, y0, hTO⟩, h1, h2⟩ := st
    obtain ⟨xs, ys, x, y, qx, qy, hx, hy⟩ := hg
    obtain ⟨its, rv, p, _⟩ := inv_k I qx
    obtain ⟨its2, rv2, p2, _⟩ := inv_k I qy
    obtain ⟨u, hu, ru⟩ := rv.get hx
    obtain ⟨u2, hu2, ru2⟩ := rv2.get hy
    have hlt : i < its.toArray.size := by simpa using (List.getElem?_eq_some_iff.mp hu).1
    have hlt2 : i < its2.toArray.size := by simpa using (List.getElem?_eq_some_iff.mp hu2).1
    have hzl : z < s.heap.objs.size := Heap.lt_size hz
    have lts : ∀ c ∈ [z, TI, TO, i1, i2], c < s.heap.objs.size := fun c hcm => by
      have ec : c = z ∨ c = TI ∨ c = TO ∨ c = i1 ∨ c = i2 := by simpa using hcm
      rcases ec with rfl | rfl | rfl | rfl | rfl
      · exact hzl
      · exact Heap.lt_size hTI
      · exact Heap.lt_size hTO
      · obtain ⟨_, e1, _⟩ := itk_obj h1; exact Heap.lt_size e1
      · obtain ⟨_, e2, _⟩ := itk_obj h2; exact Heap.lt_size e2
    refine wpAny_pyNext_zipD2_item D (draws_k (A := X.A.in1) (I.ok.hd hc) k i1 a ha its.toArray) (draws_k (A := X.A.in1) (I.ok.hd hc) l i2 b hb its2.toArray) hz hTI hTO ⟨h1, p⟩ ⟨h2, p2⟩ hlt hlt2 fun v1 v2 h' tk e1 e2 z' TO' st1 st2 hT hsz hk => ?_
    have ev1 : v1 = u := by
      have q : its[i]? = some v1 := by simpa using e1
      rw [hu] at q; cases q; rfl
    have ev2 : v2 = u2 := by
      have q : its2[i]? = some v2 := by simpa using e2
      rw [hu2] at q; cases q; rfl
    subst ev1 ev2
    refine ⟨_, rfl, wpAny_letOwnedTupleGo_zip (s := { s with heap := h', toks := tk }) z' fun h'' z'' sb => ?_⟩
    have hT2 : h''.get? s.heap.objs.size = some { cls := .type "tuple", data := .seq #[v1, v2] } := (sb.2 _ (Nat.ne_of_gt hzl)).trans hT
    have new : ObjOk X.prog X.w (upd H s.heap.objs.size (.tup [x, y])) h'' s.heap.objs.size (.tup [x, y]) := ⟨by show 2 ≤ sizeLine; decide, [v1, v2], .cons ru (.cons ru2 .nil), ⟨_, hT2, rfl, _, rfl⟩⟩
    have I1 : Inv X pins σ (upd H s.heap.objs.size (.tup [x, y])) { s with heap := h'', toks := tk } :=
      I.turnedNew (ch := [z, TI, TO, i1, i2]) (fun c o hcb q => (sb.2 c (fun q' => hcb (by simp [q']))).trans (hk c o (fun q' => hcb (by simp [q'])) (fun q' => hcb (by simp [q'])) (fun q' => hcb (by simp [q'])) (fun q' => hcb (by simp [q'])) q)) hf (Nat.le_refl _) new
    have n1 : i1 ≠ z := fun q => D.zf1 (q ▸ D.mem1)
    have n2 : i2 ≠ z := fun q => D.zf2 (q ▸ D.mem2)
    refine ⟨.ref s.heap.objs.size, _, I1, rfl, ⟨_, x, y, rfl, I.hok.fresh (Nat.le_refl _), rfl, fun l' hl => by rw [inj_k I hl qx]; exact hx, fun l' hl => by rw [inj_k I hl qy]; exact hy⟩, ⟨z'', ?_, ⟨v1, v2, (sb.2 _ D.TOz).trans TO'⟩, st1.1.at fun o q => (sb.2 _ n1).trans q, st2.1.at fun o q => (sb.2 _ n2).trans q⟩, fun c hcm => ?_⟩
    · exact (sb.2 _ D.TIz).trans (hk _ _ D.TIz D.TITO D.TIi1 D.TIi2 hTI)
    · rw [upd_ne (Nat.ne_of_lt (lts c hcm))]
      exact (hf c hcm).1
  done := by
    intro X hP hw hK hc i pins s σ H E I hf st hg
    subst hP hw hK
    obtain ⟨hz, hTI, ⟨x0, y0, hTO⟩, h1, h2⟩ := st
    obtain ⟨xs, ys, qx, qy, hend⟩ := hg
    obtain ⟨its, rv, p, _⟩ := inv_k I qx
    obtain ⟨its2, rv2, p2, _⟩ := inv_k I qy
    have l1 := rv.length
    have l2 := rv2.length
    obtain ⟨n1, P1, St1, D1, s1, le1, e1⟩ := draws_stop (prog := X.prog) (w := X.w) (A := X.A.in1) (I.ok.hd hc) k i1 a ha its.toArray i h1 p
    obtain ⟨n2, P2, St2, D2, s2, le2, e2⟩ := draws_stop (prog := X.prog) (w := X.w) (A := X.A.in1) (I.ok.hd hc) l i2 b hb its2.toArray i h2 p2
    exact wpAny_pyNext_zipD2_end D D1 D2 hz hTI hTO s1 s2 le1 le2 (by
      rcases hend with q | q
      · exact .inl (e1 (by simp; omega))
      · exact .inr (e2 (by simp; omega))) fun h' tk hk => ⟨rfl, I.turnedL (ch := [z, TI, TO, i1, i2]) (fun c o hcb q => hk c o (fun q' => hcb (by simp [q'])) (fun q' => hcb (by simp [q'])) (fun q' => hcb (by simp [q'])) (fun q' => hcb (by simp [q'])) q) hf⟩
  self := fun A i s Q E st h => wpAny_pyIter_zip st.1 h
def iZipA (K : PySem.W.Frag) (ta : TA) : TI := fun σ H R => ta σ H fun vs H1 => ∃ k l a b xs ys, vs = [.ref a, .ref b] ∧ SqK K k a H1 xs ∧ SqK K l b H1 ys ∧ R (ItZ K k l a b) H1
theorem pi_zipA {X : Cx} {e e2 : Expr} {ta : TA} {p pos tpos : Pos} {elts : List Expr} {kk : Nat} (hg : Gl X "zip") (hm : X.mg "zip" = none) (ha : PA X [e, e2] ta)
    (hs : starEach [e, e2] X.env = (false, eval e X.env) :: starEach [e2] X.env := by rfl) (hpl : (backTo pos (starEach [e2] X.env)).any (·.1) = false := by rfl) :
    PI X (.Tuple elts kk tpos) (.Call (.Name "zip" p) [e, e2] [] pos) (iZipA X.K ta) := by
  refine ⟨fun pins s σ H R I h => Call_ (ld_blt I hg hm PyProof.Rows.boot_zip (callWith_type1 (thn (ha.run pos pins s σ H _ I h) fun us s1 ⟨vs, H1, I1, r1, k, l, a, b, xs, ys, ex, qx, qy, q⟩ => ?_) hs hpl))⟩
  subst ex
  cases r1 with
  | cons r rr =>
    cases rr with
    | cons r' rr =>
      cases rr
      cases r
      cases r'
      obtain ⟨its, rv, p1, la⟩ := inv_k I1 qx
      obtain ⟨its2, rv2, p2, lb⟩ := inv_k I1 qy
      refine zip_begins2 (begins_k k a its.toArray) (begins_k l b its2.toArray) p1 p2 fun h' hz hTI hTO h1 h2 hsz hk => wpAny_pyIter_zip hz ?_
      have sep := zip_sep2 (N := s1.heap.objs.size) (fp1 := [a]) (fp2 := [b]) (by simpa using la) (by simpa using lb)
      refine ⟨_, _, _, _, H1, rfl, I1.kept (t' := s1.toks) hk, turn_zipK sep (Nat.ne_of_lt la) (Nat.ne_of_lt (Nat.lt_succ_of_lt lb)), ⟨hz, hTI, ⟨_, _, hTO⟩, itk_new h1, itk_new h2⟩, fun c hcm => ?_, q⟩
      have ec : c = s1.heap.objs.size + 4 ∨ c = s1.heap.objs.size + 2 ∨ c = s1.heap.objs.size + 3 ∨ c = s1.heap.objs.size ∨ c = s1.heap.objs.size + 1 := by simpa using hcm
      have hle : s1.heap.objs.size ≤ c := by
        rcases ec with rfl | rfl | rfl | rfl | rfl
        · exact Nat.le_add_right _ _
        · exact Nat.le_add_right _ _
        · exact Nat.le_add_right _ _
        · exact Nat.le_refl _
        · exact Nat.le_add_right _ _
      exact I1.fpOk hle (I1.hok.fresh hle)
theorem kpi_zipA {X : Cx} {K : PySem.W.Frag} (hK : X.K = K) {e e2 : Expr} {ta : TA} {p pos tpos : Pos} {elts : List Expr} {kk : Nat} (hg : Gl X "zip") (hm : X.mg "zip" = none) (ha : PA X [e, e2] ta)
    (hs : starEach [e, e2] X.env = (false, eval e X.env) :: starEach [e2] X.env := by rfl) (hpl : (backTo pos (starEach [e2] X.env)).any (·.1) = false := by rfl) :
    PI X (.Tuple elts kk tpos) (.Call (.Name "zip" p) [e, e2] [] pos) (iZipA K ta) := hK ▸ pi_zipA hg hm ha hs hpl
section
variable {K : PySem.W.Frag}
theorem same_k {k : Bool} {a : Addr} {H H' : Hp} {xs : List V} (s : Same H H') (h : SqK K k a H xs) : SqK K k a H' xs := by
  cases k
  · exact same_tup s h
  · exact same_lst s h
theorem seqD_ok {H : Hp} {v : V} {d : D} {ds : List D} (h : DR K H v d) (e : seqD d = some ds) : ∃ k a xs, v = .ref a ∧ SqK K k a H xs ∧ DRs K H xs ds := by
  cases d with
  | tup xs =>
    cases e
    cases h with
    | tup hl hd => exact ⟨false, _, _, rfl, hl, hd⟩
  | lst xs => obtain ⟨a, vs, z, hl, hd⟩ := asL_ok h e; exact ⟨true, a, vs, z, hl, hd⟩
  | frz xs => obtain ⟨a, vs, z, hl, hd⟩ := asL_ok h e; exact ⟨true, a, vs, z, hl, hd⟩
  | _ => cases e
theorem yl_zipA {Hs : Hp} {k l : Bool} {a b : Addr} {xs ys : List V} {ds es : List D} (ha : SqK K k a Hs xs) (hb : SqK K l b Hs ys) (da : DRs K Hs xs ds) (db : DRs K Hs ys es) : Yl K (ItZ K k l a b) ((ds.zip es).map fun p => .tup [p.1, p.2]) Hs where
  go := fun i H s hi => by
    rw [List.length_map, List.length_zip] at hi
    exact ⟨xs, ys, xs[i]'(by rw [da.len]; omega), ys[i]'(by rw [db.len]; omega), same_k s ha, same_k s hb, by simp, by simp⟩
  stop := fun i H s hi => by
    rw [List.length_map, List.length_zip] at hi
    exact ⟨xs, ys, same_k s ha, same_k s hb, by rw [da.len, db.len]; omega⟩
  yld := fun i x H H' Hs1 _ s s1 y => by
    obtain ⟨T, x1, y1, rfl, hT, rfl, h1, h2⟩ := y
    obtain ⟨d1, e1, r1⟩ := da.ta (h1 xs (same_k (s.trans s1) ha))
    obtain ⟨d2, e2, r2⟩ := db.ta (h2 ys (same_k (s.trans s1) hb))
    have ex : Ext H Hs1 (upd H T (.tup [x1, y1])) (upd Hs1 T (.tup [x1, y1])) := Ext.new s1 hT
    refine ⟨.tup [d1, d2], _, ?_, ex, .tup (SqT.of upd_same) (.cons (r1.mono (s.trans ex.b)) (.cons (r2.mono (s.trans ex.b)) .nil))⟩
    rw [List.getElem?_map, zip_get e1 e2]
    rfl
def xzipA (a : M (List D)) : M (List D) := fun G => bd (a G) fun xs G1 => match xs with
  | [x, y] => match seqD x, seqD y with
    | some ds, some es => some ((ds.zip es).map fun p => .tup [p.1, p.2], G1)
    | _, _ => none
  | _ => none
theorem ik_zipA {ta : TA} {a : M (List D)} (ha : AOk K ta a) : IOk K (iZipA K ta) (xzipA a) := fun Fz ba G σ H Hs ds G' q e Q k => by
  obtain ⟨xs, G1, e1, e⟩ := bd_inv e
  refine ha Fz ba G σ H Hs xs _ q e1 _ fun vs H1 Hs1 q1 s1 d => ?_
  split at e
  case h_2 => cases e
  split at e
  case h_2 => cases e
  rename_i h1 h2
  cases e
  cases d with
  | cons d1 d2 =>
    cases d2 with
    | cons d2 d3 =>
      cases d3
      obtain ⟨k1, a1, x1, rfl, l1, r1⟩ := seqD_ok d1 h1
      obtain ⟨k2, a2, x2, rfl, l2, r2⟩ := seqD_ok d2 h2
      exact ⟨k1, k2, a1, a2, x1, x2, rfl, same_k q1.sub l1, same_k q1.sub l2, k _ H1 Hs1 q1 s1 (yl_zipA l1 l2 r1 r2)⟩
end
end Bk
namespace Bk
open PySem L2
theorem cAttrs_nd (c : Nat) : (cAttrs c).Nodup := by
  match c with
  | 0 => decide +kernel
  | 1 => decide +kernel
  | 2 => decide +kernel
  | 3 => decide +kernel
  | 4 => decide +kernel
  | n + 5 => show (cAttrs 5).Nodup; decide +kernel
section
variable {K : PySem.W.Frag} {H : Hp}
theorem fs_get : ∀ {fs : List (PySem.Str × V)} {i : Nat} {v : V}, (fs.map (·.1)).Nodup → (fs.map (·.2))[i]? = some v → ∀ f, (fs.map (·.1))[i]? = some f → fs.lookup f = some v
  | [], _, _, _, h, _, _ => by simp at h
  | (g, x) :: r, 0, _, _, h, f, e => by
    simp at h e
    subst h e
    simp [List.lookup]
  | (g, x) :: r, i + 1, v, nd, h, f, e => by
    simp only [List.map_cons, List.getElem?_cons_succ] at h e
    rw [List.map_cons, List.nodup_cons] at nd
    have hne : f ≠ g := fun z => nd.1 (z ▸ List.mem_of_getElem? e)
    have hb : (f == g) = false := beq_eq_false_iff_ne.mpr hne
    show List.lookup f ((g, x) :: r) = some v
    simp only [List.lookup, hb]
    exact fs_get nd.2 h f e
theorem fs_none {fs : List (PySem.Str × V)} {f : PySem.Str} (h : f ∉ fs.map (·.1)) : fs.lookup f = none := by
  induction fs with
  | nil => rfl
  | cons p r ih =>
    obtain ⟨g, x⟩ := p
    rw [List.map_cons, List.mem_cons, not_or] at h
    have hb : (f == g) = false := beq_eq_false_iff_ne.mpr h.1
    simp only [List.lookup, hb]
    exact ih h.2
theorem putF_old : ∀ {fs : List (PySem.Str × V)} {i : Nat} {f : PySem.Str} {v : V}, (fs.map (·.1)).Nodup → (fs.map (·.1))[i]? = some f → (putF f v fs).map (·.1) = fs.map (·.1) ∧ (putF f v fs).map (·.2) = (fs.map (·.2)).set i v
  | [], _, _, _, _, h => by simp at h
  | (g, x) :: r, 0, f, v, _, h => by
    simp at h
    subst h
    simp only [putF, if_true]
    exact ⟨rfl, rfl⟩
  | (g, x) :: r, i + 1, f, v, nd, h => by
    simp only [List.map_cons, List.getElem?_cons_succ] at h
    rw [List.map_cons, List.nodup_cons] at nd
    have hne : g ≠ f := fun z => nd.1 (z ▸ List.mem_of_getElem? h)
    simp only [putF, if_neg hne]
    obtain ⟨i1, i2⟩ := putF_old (v := v) nd.2 h
    exact ⟨by rw [List.map_cons, i1]; rfl, by rw [List.map_cons, i2]; rfl⟩
theorem putF_new : ∀ {fs : List (PySem.Str × V)} {f : PySem.Str} {v : V}, f ∉ fs.map (·.1) → (putF f v fs).map (·.1) = fs.map (·.1) ++ [f] ∧ (putF f v fs).map (·.2) = fs.map (·.2) ++ [v]
  | [], _, _, _ => ⟨rfl, rfl⟩
  | (g, x) :: r, f, v, h => by
    rw [List.map_cons, List.mem_cons, not_or] at h
    simp only [putF, if_neg (fun z : g = f => h.1 z.symm)]
    obtain ⟨i1, i2⟩ := putF_new (v := v) h.2
    exact ⟨by rw [List.map_cons, i1]; rfl, by rw [List.map_cons, i2]; rfl⟩
theorem take_nd {c n : Nat} : ((cAttrs c).take n).Nodup := List.Nodup.sublist (List.take_sublist _ _) (cAttrs_nd c)
theorem take_at {c n i : Nat} {f : PySem.Str} (h : (cAttrs c)[i]? = some f) (hi : i < n) : ((cAttrs c).take n)[i]? = some f := by
  rw [List.getElem?_take, if_pos hi]
  exact h
/-- what is known of a class of the text -/
structure ClT (K : PySem.W.Frag) (mg : PySem.Str → Option Value) (c : Nat) where
  C : Addr
  mg : mg (cName c) = some (.ref C)
  at_ : CAt K c C
  cls : Cls K C
  na : ∀ f ∈ cAttrs c, NoAttr K C f
variable {mg : PySem.Str → Option Value}
/-- o.f, the i-th attribute of an instance of the class c -/
def xfld (c i : Nat) (a : M R) : M R := fun G => bd (a G) fun x G1 => match x.d with
  | .obj c' ds => if c' = c then (match ds[i]? with | some d => some (.im d, G1) | none => none) else none
  | _ => none
theorem gk_fld {c i : Nat} {f : PySem.Str} (T : ClT K mg c) (hf : (cAttrs c)[i]? = some f) {ta : TE} {a : M R} (ha : GOk K ta a) : GOk K (tFld K ta f) (xfld c i a) := fun Fz ba G σ H Hs res G' q e0 Q k => by
  obtain ⟨x, G1, e1, e⟩ := bd_inv e0
  refine ha.im q e1 fun v H1 Hs1 q1 s1 d1 => ?_
  cases hd : x.d with
  | obj c' ds =>
    rw [hd] at e d1
    simp only at e
    split at e
    case isFalse => cases e
    rename_i hc
    subst hc
    split at e
    case h_2 => cases e
    rename_i d hi
    cases e
    cases d1 with
    | obj hC hH hn hv hs =>
      subst hv
      cases hC.eq T.at_
      obtain ⟨w, w1, w2⟩ := hs.at hi
      have hlt : i < ds.length := (List.getElem?_eq_some_iff.mp hi).1
      refine ⟨_, _, _, _, w, rfl, q1.sub _ _ hH, T.cls, T.na f (List.mem_of_getElem? hf), fs_get ?_ w1 f ?_, k w H1 Hs1 q1 s1 w2⟩
      · rw [hn]; exact take_nd
      · rw [hn]; exact take_at hf hlt
  | _ => rw [hd] at e; cases e
/-- the i-th attribute of the instance that the name owns -/
def xfldv (j c i : Nat) : M R := fun G => match G[j]? with
  | some e => match e.mu with
    | some (.o c' ds) => if c' = c then (match ds[i]? with | some d => some (.im d, G) | none => none) else none
    | _ => none
  | none => none
theorem gk_fldv {j c i : Nat} {f : PySem.Str} (T : ClT K mg c) (hf : (cAttrs c)[i]? = some f) : GOk K (tFld K (tVar j) f) (xfldv j c i) := fun Fz ba G σ H Hs res G' q e Q k => by
  unfold xfldv at e
  cases h : G[j]? with
  | none => simp only [h] at e; cases e
  | some en =>
    cases h0 : en.mu with
    | none => simp only [h, h0] at e; cases e
    | some mm =>
     cases mm with
     | l _ => simp only [h, h0] at e; cases e
     | o c' ds =>
      simp only [h, h0] at e
      split at e
      case isFalse => cases e
      rename_i hc
      subst hc
      split at e
      case h_2 => cases e
      rename_i d hi
      cases e
      obtain ⟨l, o, g1, g2, g3, g4, C, dx, fs, hC, rfl, hn, hs⟩ := q.mu j en _ h h0
      cases hC.eq T.at_
      obtain ⟨w, w1, w2⟩ := hs.at hi
      have hlt : i < ds.length := (List.getElem?_eq_some_iff.mp hi).1
      refine ⟨_, g1, _, _, _, _, w, rfl, g2, T.cls, T.na f (List.mem_of_getElem? hf), fs_get ?_ w1 f ?_, k w H Hs q (Same.refl _) w2⟩
      · rw [hn]; exact take_nd
      · rw [hn]; exact take_at hf hlt
/-- the i-th attribute stored -/
def putO (i : Nat) (x : D) (ds : List D) : Option (List D) := if i < ds.length then some (ds.set i x) else if i = ds.length then some (ds ++ [x]) else none
def putA (j c i : Nat) (x : D) (G : Gam) : Option Gam := match G[j]? with
  | some e => match e.mu with
    | some (.o c' ds) => if c' = c then (match putO i x ds with | some es => some (G.set j (e.with (.o c es))) | none => none) else none
    | _ => none
  | none => none
theorem cAttrs_few (c : Nat) : (cAttrs c).length ≤ 6 := by
  match c with
  | 0 => decide
  | 1 => decide
  | 2 => decide
  | 3 => decide
  | 4 => decide
  | n + 5 => show (cAttrs 5).length ≤ 6; decide
theorem putA_ok {j c i : Nat} {f : PySem.Str} (T : ClT K mg c) (hf : (cAttrs c)[i]? = some f) {Fz : Hp} {ba : Nat → Addr} {G G' : Gam} {σ : L2.St} {H Hs : Hp} {v : V} {d : D} (q : Rel K Fz ba G σ H Hs) (hd : DR K Hs v d) (e : putA j c i d G = some G') :
    ∃ a dx fs, σ[j]? = some (some (.ref a)) ∧ H a = some (.ins T.C dx fs) ∧ fs.length < 1000 ∧ Rel K Fz ba G' σ (upd H a (.ins T.C dx (putF f v fs))) Hs := by
  unfold putA at e
  cases h : G[j]? with
  | none => simp only [h] at e; cases e
  | some en =>
    cases h0 : en.mu with
    | none => simp only [h, h0] at e; cases e
    | some mm =>
     cases mm with
     | l _ => simp only [h, h0] at e; cases e
     | o c' ds =>
      simp only [h, h0] at e
      split at e
      case isFalse => cases e
      rename_i hc
      subst hc
      split at e
      case h_2 => cases e
      rename_i es hp
      cases e
      obtain ⟨l, o, g1, g2, g3, g4, C, dx, fs, hC, rfl, hn, hs⟩ := q.mu j en _ h h0
      cases hC.eq T.at_
      have hlen : fs.length = ds.length := by
        have z := hs.len
        rw [List.length_map] at z
        exact z
      have hi6 : (cAttrs c').length ≤ 6 := cAttrs_few c'
      have hle : ds.length ≤ 6 := by
        have z := congrArg List.length hn
        rw [List.length_map, List.length_take, hlen] at z
        omega
      refine ⟨l, dx, fs, g1, g2, by omega, ?_⟩
      have hiA : i < (cAttrs c').length := (List.getElem?_eq_some_iff.mp hf).1
      refine q.mut h h0 g1 (extB_upd q.sub g3) upd_same g3 ⟨_, dx, putF f v fs, hC, rfl, ?_⟩
      unfold putO at hp
      have nd : (fs.map (·.1)).Nodup := by rw [hn]; exact take_nd
      split at hp
      · rename_i hlt
        cases hp
        obtain ⟨p1, p2⟩ := putF_old (v := v) nd (by rw [hn]; exact take_at hf hlt)
        rw [p1, p2, List.length_set]
        exact ⟨hn, DRs.set hd i hs⟩
      · split at hp
        case isFalse => cases hp
        rename_i hlt heq
        cases hp
        have hnew : f ∉ fs.map (·.1) := by
          rw [hn]
          intro hm
          obtain ⟨j', hj⟩ := List.mem_iff_getElem?.mp hm
          have hj1 : j' < ds.length := by
            have z := (List.getElem?_eq_some_iff.mp hj).1
            rw [List.length_take] at z
            omega
          rw [List.getElem?_take, if_pos hj1] at hj
          have hj2 := (List.getElem?_eq_some_iff.mp hj)
          have hf2 := (List.getElem?_eq_some_iff.mp hf)
          obtain ⟨a1, a2⟩ := hj2
          obtain ⟨b1, b2⟩ := hf2
          have z : j' = i := (List.getElem_inj (cAttrs_nd c')).mp (a2.trans b2.symm)
          omega
        obtain ⟨p1, p2⟩ := putF_new (v := v) hnew
        rw [p1, p2]
        refine ⟨?_, hs.app (.cons hd .nil)⟩
        rw [hn, List.length_append, List.length_singleton, List.take_succ, ← heq, hf]
        rfl
def xsetf (j c i : Nat) (a : M R) : MS := fun G => bd (a G) fun x G1 => match putA j c i x.d G1 with
  | some G2 => some (.nx, G2)
  | none => none
theorem sk_setf {j c i : Nat} {f : PySem.Str} (T : ClT K mg c) (hf : (cAttrs c)[i]? = some f) {ta : TE} {a : M R} (ha : GOk K ta a) : SOk K (sFld K (tVar j) ta f) (xsetf j c i a) := fun Fz ba G σ H Hs fl G' q e Dn p => by
  obtain ⟨x, G1, e1, e⟩ := bd_inv e
  cases h : putA j c i x.d G1 with
  | none => rw [h] at e; cases e
  | some G2 =>
    rw [h] at e
    cases e
    refine ha.im q e1 fun v H1 Hs1 q1 s1 d1 => ?_
    obtain ⟨b, dx, fs, g1, g2, g3, g4⟩ := putA_ok T hf q1 d1 h
    exact ⟨_, g1, b, T.C, dx, fs, rfl, g2, T.cls, T.na f (List.mem_of_getElem? hf), g3, p σ _ Hs1 g4 s1⟩
end
end Bk
namespace Bk
open PySem L2
section
variable {X : Cx} {CX : CXT} {k : Nat} {C g : Addr} {fd : FuncData} {ps : List PySem.Str} {sp : Sp} {E : XK}
/-- an instance of the class at C -/
def IsIn (C : Addr) (H : Hp) (x : V) : Prop := ∃ a dx fs, x = .ref a ∧ H a = some (.ins C dx fs)
def rBin (C : Addr) (sp : Sp) (E : XK) : R2 := fun x y H Q => IsIn C H x ∧ IsIn C H y ∧ sp [x, y] H Q E
def rUnO (C : Addr) (sp : Sp) (E : XK) : V → Hp → VK → Prop := fun x H Q => IsIn C H x ∧ sp [x] H Q E
theorem inst_at {pins : List (Addr × Obj)} {σ : St} {H : Hp} {s : Shared} {a dx : Addr} {fs : List (PySem.Str × V)} (I : Inv X pins σ H s) (e : H a = some (.ins C dx fs)) :
    ∃ od, PySem.W.InstAt s.heap a (PySem.W.instObj C dx) C (some od) := by
  obtain ⟨mA, O, _⟩ := ins_get I.hok e
  obtain ⟨od, J, _⟩ := O.look
  exact ⟨od, J⟩
theorem back_cmp {pins : List (Addr × Obj)} {σ : St} {Q : VK} {v : Value} {s' : Shared} (h : EP X pins σ Q v s') : PySem.W.CmpBack (EP X pins σ Q) v s' := by
  obtain ⟨z, H', I', rz, q⟩ := h
  exact SlX.cmpback rz ⟨z, H', I', rz, q⟩
theorem op_bin {op : Operator} (hc : PySem.W.selfFirst X.K C = true) (hs : PySem.W.findIn X.K (.ref C) (PySem.dunder op.info.2) = some (some (.ref g))) (hf : PySem.W.isFn X.K (.ref g) = true)
    (F : FnOk X.prog X.w X.K X.mg X.base CX k g fd ps sp) (hr : Room k X.A) (hb : Binds X.K fd ps []) (hx : Passes CX X E) : OpR X (binaryOp op) (rBin C sp E) := by
  intro pins s σ H x y v u Q I rx ry h
  obtain ⟨⟨a, dx, fs, rfl, ha⟩, ⟨b, dy, gs, rfl, hb'⟩, q⟩ := h
  cases (show v = Value.ref a from rx)
  cases (show u = Value.ref b from ry)
  obtain ⟨od, J⟩ := inst_at I ha
  obtain ⟨od', J'⟩ := inst_at I hb'
  obtain ⟨m, hF⟩ := I.fr
  refine PySem.W.binop_K hF I.ok.mod.kin J J'.type hc hs hf ?_
  exact wpAny_mono (run_fn (us := [.ref a, .ref b]) (vs := [.ref a, .ref b]) F hr hb .nil hx I (.cons rfl (.cons rfl .nil)) q) (fun w s' z => back_cmp z) fun _ _ x => x
theorem un_own (hs : PySem.W.findIn X.K (.ref C) "__neg__" = some (some (.ref g))) (hf : PySem.W.isFn X.K (.ref g) = true)
    (F : FnOk X.prog X.w X.K X.mg X.base CX k g fd ps sp) (hr : Room k X.A) (hb : Binds X.K fd ps []) (hx : Passes CX X E) : UnR X (unaryOp .USub) (rUnO C sp E) := by
  intro pins s σ H x v Q I rx h
  obtain ⟨⟨a, dx, fs, rfl, ha⟩, q⟩ := h
  cases (show v = Value.ref a from rx)
  obtain ⟨od, J⟩ := inst_at I ha
  obtain ⟨m, hF⟩ := I.fr
  refine PySem.W.ksp_neg hF I.ok.mod.kin J hs hf ?_
  exact run_fn (us := [.ref a]) (vs := [.ref a]) F hr hb .nil hx I (.cons rfl .nil) q
end
end Bk
namespace Bk
open PySem L2
section
variable {X : Cx} {CX : CXT} {k : Nat} {C g : Addr} {fd : FuncData} {ps : List PySem.Str} {sp : Sp} {E : XK}
/-- isinstance(x, a tuple of types), the tuple known in any way -/
def rIsiS (K : PySem.W.Frag) : List V → Hp → VK → Prop := fun xs H Q => ∃ (x : V) (tp : Addr) (cs : List V) (t : Value) (us : List Value) (b : Bool), xs = [x, .ref tp] ∧ SqT K H tp cs ∧ Paired ClsV cs us ∧ TyX K H x t ∧ PySem.W.kitAny K t us = some b ∧ Q (.bl b) H
theorem cr_isiS : CallR X (.builtin "isinstance") (rIsiS X.K) := by
  intro pins s σ H xs us Q I r h
  obtain ⟨x, tp, cs, t, ws, b, rfl, hT, kk, ty, e, q⟩ := h
  obtain ⟨u1, u2, rfl, r1, r2⟩ := vals2 r
  cases (show u2 = Value.ref tp from r2)
  obtain ⟨P, Z, p, hx⟩ := kit_of I r1 ty
  obtain ⟨its, rv, ⟨⟨oc, od, dt, sl⟩, h1, h2, n, h3⟩, _⟩ := I.tuple hT
  have e3 := ClsV.all kk rv
  subst e3
  simp only at h2 h3
  subst h2 h3
  exact PySem.W.kia_tup Z I.kIn p h1 e hx fun tk => ⟨.bl b, H, I.tok tk, rfl, q⟩
end
section
variable {K : PySem.W.Frag} {mg : PySem.Str → Option Value}
def xmake (c : Nat) (m : Mob → List D → Option (R × Mob)) (dds : List D) (a : M (List D)) : M R := fun G => bd (a G) fun xs G1 => match m (.o c []) (xs ++ dds) with
  | some (.im .non, m') => some (.ow m', G1)
  | _ => none
theorem gk_make {c : Nat} {m : Mob → List D → Option (R × Mob)} {dds : List D} {dvs : List V} {E : XK} (T : ClT K mg c) (hd : ∀ H, DRs K H dvs dds) {ta : TA} {a : M (List D)} (ha : AOk K ta a) : GOk K (tMake T.C (spB K m) dvs E ta) (xmake c m dds a) := fun Fz ba G σ H Hs res G' q e0 Q k => by
  obtain ⟨xs, G1, e1, e⟩ := bd_inv e0
  split at e
  case h_2 => cases e
  rename_i m' hm
  cases e
  refine ha Fz ba G σ H Hs xs _ q e1 _ fun vs H1 Hs1 q1 s1 d1 x dx hx hdx hne => ?_
  have sm : Same H1 (upd (upd H1 dx (.own x)) x (.ins T.C dx [])) := fun b o hb => by
    rw [upd_ne (ne_of_none hb hx), upd_ne (ne_of_none hb hdx)]
    exact hb
  refine ⟨Hs1, x, vs ++ dvs, _, .o c [], xs ++ dds, .im .non, m', rfl, q1.sub.trans sm, upd_same, none_sub q1.sub hx, ⟨T.C, dx, [], T.at_, rfl, rfl, .nil⟩, d1.app (hd _), hm, fun v H2 Hs2 o2 ex hl hn hd2 rf => ?_⟩
  refine ⟨by cases rf; rfl, ?_⟩
  have ex2 : Ext H1 Hs1 H2 Hs2 := ⟨fun b o hb => ex.a b o (ne_of_none hb hx) (sm b o hb), ex.b, ex.c, fun b o hb hnb => ex.n b o (sm b o hb) hnb⟩
  have rf2 : ResF K H1 H2 Hs2 (.ref x) (.ow m') := ⟨x, o2, rfl, hx, hl, hn, hd2⟩
  exact k _ H2 Hs2 (q1.ext ex2) (s1.trans ex.b) (rf2.res q1)
def xmeth (c : Nat) (m : List D → Option R) (dds : List D) (a : M R) (as : M (List D)) : M R := fun G => bd (a G) fun x G1 => match x.d with
  | .obj c' ds => if c' = c then bd (as G1) fun xs G2 => (match m (.obj c' ds :: (xs ++ dds)) with
    | some r => some (r, G2)
    | none => none) else none
  | _ => none
theorem gk_meth {c : Nat} {nm : PySem.Str} {m : List D → Option R} {dds : List D} {dvs : List V} {E : XK} (T : ClT K mg c) (hn : nm ∉ cAttrs c) (hd : ∀ H, DRs K H dvs dds) {ta : TE} {tas : TA} {a : M R} {as : M (List D)} (ha : GOk K ta a) (has : AOk K tas as) :
    GOk K (tMeth T.C nm (spF K m) dvs E ta tas) (xmeth c m dds a as) := fun Fz ba G σ H Hs res G' q e0 Q k => by
  obtain ⟨x, G1, e1, e⟩ := bd_inv e0
  refine ha.im q e1 fun v H1 Hs1 q1 s1 d1 => ?_
  cases hx : x.d with
  | obj c' ds =>
    rw [hx] at e d1
    simp only at e
    split at e
    case isFalse => cases e
    rename_i hc
    subst hc
    obtain ⟨xs, G2, e2, e⟩ := bd_inv e
    split at e
    case h_2 => cases e
    rename_i r hm
    cases e
    have dd := d1
    cases d1 with
    | obj hC hH hns hv hs =>
      subst hv
      cases hC.eq T.at_
      refine ⟨_, _, _, rfl, q1.sub _ _ hH, fs_none (fun z => hn ?_), ?_⟩
      · rw [hns] at z
        exact List.mem_of_mem_take z
      · refine has Fz ba G1 σ H1 Hs1 xs _ q1 e2 _ fun vs H2 Hs2 q2 s2 d2 => ?_
        exact ⟨Hs2, _, _, q2.sub, .cons (dd.mono s2) (d2.app (hd _)), hm, fun v H3 Hs3 ex rf => k v H3 Hs3 (q2.ext ex) ((s1.trans s2).trans ex.b) (rf.res q2)⟩
  | _ => rw [hx] at e; cases e
def isO (c : Nat) : D → Bool
  | .obj c' _ => c' == c
  | _ => false
theorem isO_in {c : Nat} {C : Addr} {Hs H : Hp} {x : V} {d : D} (hC : CAt K c C) (h : DR K Hs x d) (s : Same Hs H) (e : isO c d = true) : IsIn C H x := by
  cases h with
  | obj hc hH hns hv hs =>
    have z := beq_iff_eq.mp e
    subst z
    cases hc.eq hC
    exact ⟨_, _, _, rfl, s _ _ hH⟩
  | _ => cases e
def opOwn (c : Nat) (m : List D → Option R) (o : D → D → Option R) (x y : D) : Option R := if isO c x && isO c y then m [x, y] else o x y
theorem od_own {c : Nat} {C : Addr} {m : List D → Option R} {o : D → D → Option R} {r : R2} {E : XK} (hC : CAt K c C) (ho : OpD K r o) : OpD K (fun x y H Q => r x y H Q ∨ rBin C (spF K m) E x y H Q) (opOwn c m o) := fun H Hs x y dx dy res s hx hy e Q k => by
  unfold opOwn at e
  split at e
  · rename_i hb
    rw [Bool.and_eq_true] at hb
    exact .inr ⟨isO_in hC hx s hb.1, isO_in hC hy s hb.2, Hs, [dx, dy], res, s, .cons hx (.cons hy .nil), e, k⟩
  · exact .inl (ho H Hs x y dx dy res s hx hy e Q k)
def unOwn (c : Nat) (m : List D → Option R) (o : D → Option R) (x : D) : Option R := if isO c x then m [x] else o x
theorem ud_own {c : Nat} {C : Addr} {m : List D → Option R} {o : D → Option R} {r : V → Hp → VK → Prop} {E : XK} (hC : CAt K c C) (ho : UnD K r o) : UnD K (fun x H Q => r x H Q ∨ rUnO C (spF K m) E x H Q) (unOwn c m o) := fun H Hs x dx res s hx e Q k => by
  unfold unOwn at e
  split at e
  · rename_i hb
    exact .inr ⟨isO_in hC hx s hb, Hs, [dx], res, s, .cons hx .nil, e, k⟩
  · exact .inl (ho H Hs x dx res s hx e Q k)
theorem un_or {X : Cx} {f : Value → Sem Value} {r r' : V → Hp → VK → Prop} (h : UnR X f r) (h' : UnR X f r') : UnR X f (fun x H Q => r x H Q ∨ r' x H Q) := fun pins s σ H x v Q I rx q => by
  rcases q with q | q
  · exact h pins s σ H x v Q I rx q
  · exact h' pins s σ H x v Q I rx q
def tyL : List D → Option (List String)
  | [] => some []
  | .ty b :: r => (tyL r).map fun l => b :: l
  | _ :: _ => none
def isiL (a : String) : List String → Option Bool
  | [] => some false
  | b :: r => match isiT a b with
    | some true => some true
    | some false => isiL a r
    | none => none
theorem tyL_ok {H : Hp} : ∀ {ds : List D} {vs : List V} {l : List String}, DRs K H vs ds → tyL ds = some l → Paired ClsV vs (l.map Value.type)
  | [], _, _, h, e => by cases h; cases e; exact .nil
  | d :: ds, _, l, h, e => by
    cases h with
    | cons h1 h2 =>
      cases d with
      | ty b =>
        cases h1
        unfold tyL at e
        cases z : tyL ds with
        | none => rw [z] at e; cases e
        | some l' =>
          rw [z] at e
          cases e
          exact .cons (.ty b) (tyL_ok h2 z)
      | _ => cases e
theorem isiL_ok {a : String} (ha : ["NoneType", "bool", "int", "str", "list", "tuple"].contains a = true) : ∀ {l : List String} {k : Bool}, isiL a l = some k → PySem.W.kitAny K (.type a) (l.map Value.type) = some k
  | [], _, e => by cases e; rfl
  | b :: l, k, e => by
    unfold isiL at e
    rw [List.map_cons]
    unfold PySem.W.kitAny
    split at e
    · rename_i z
      cases e
      rw [kit_ty (isiT_ok ha z)]
    · rename_i z
      rw [kit_ty (isiT_ok ha z)]
      exact isiL_ok ha e
    · cases e
def cbIsiS : List D → Option R
  | [d, .tup cs] => match tyS d, tyL cs with
    | some t, some l => (isiL t l).map fun k => .im (.bl k)
    | _, _ => none
  | _ => none
theorem cd_isiS : CbD K (rIsiS K) cbIsiS := fun H Hs xs ds res s h e Q k => by
  unfold cbIsiS at e
  split at e
  case h_2 => cases e
  split at e
  case h_2 => cases e
  rename_i t l z1 z2
  cases z3 : isiL t l with
  | none => rw [z3] at e; cases e
  | some b =>
    rw [z3] at e
    cases e
    cases h with
    | cons a a2 =>
      cases a2 with
      | cons a2 a3 =>
        cases a3
        cases a2 with
        | tup h1 h2 =>
          obtain ⟨t1, t2⟩ := tyS_ok (a.mono s) z1
          exact ⟨_, _, _, _, _, b, rfl, same_tup s h1, tyL_ok h2 z2, t1, isiL_ok t2 z3, k _ H Hs (Ext.refl s) (.bl _)⟩
end
end Bk
namespace Bk
open PySem L2
section
variable {K : PySem.W.Frag}
def xstar (a : M R) (r : M (List D)) : M (List D) := fun G => bd (a G) fun x G1 => match seqD x.d with
  | some ds => bd (r G1) fun es G2 => some (ds ++ es, G2)
  | none => none
theorem ak_star {ta : TE} {tr : TA} {a : M R} {r : M (List D)} (ha : GOk K ta a) (hr : AOk K tr r) : AOk K (StX.tStar K ta tr) (xstar a r) := fun Fz ba G σ H Hs ds G' q e0 Q k => by
  obtain ⟨x, G1, e1, e⟩ := bd_inv e0
  refine ha.im q e1 fun v H1 Hs1 q1 s1 d1 => ?_
  split at e
  case h_2 => cases e
  rename_i xs hx
  obtain ⟨es, G2, e2, e⟩ := bd_inv e
  cases e
  obtain ⟨kk, p, vs, rfl, hp, hd⟩ := seqD_ok d1 hx
  have hp1 : SqT K H1 p vs ∨ SqL K H1 p vs := by
    cases kk with
    | true => exact .inr (same_lst q1.sub hp)
    | false => exact .inl (same_tup q1.sub hp)
  exact ⟨p, vs, rfl, hp1, hr Fz ba G1 σ H1 Hs1 es _ q1 e2 _ fun ws H2 Hs2 q2 s2 d2 => k _ H2 Hs2 q2 (s1.trans s2) ((hd.mono s2).app d2)⟩
def opAddB : D → D → Option R
  | .tup xs, .tup ys => if few (xs.length + ys.length) then some (.im (.tup (xs ++ ys))) else none
  | x, y => opAdd x y
def rAddB (K : PySem.W.Frag) : R2 := fun x y H Q => rAddA x y H Q ∨ rCatA K x y H Q
theorem op_addB {X : Cx} : OpR X (binaryOp .Add) (rAddB X.K) := op_addA.or op_catA
theorem od_addB : OpD K (rAddB K) opAddB := fun H Hs x y dx dy res s hx hy e Q k => by
  unfold opAddB at e
  split at e
  · split at e
    case isFalse => cases e
    rename_i xs ys hf
    cases e
    have hx0 := hx
    have hy0 := hy
    cases hx with
    | tup h1 d1 =>
      cases hy with
      | tup h2 d2 =>
        refine .inr ⟨_, _, _, _, rfl, rfl, same_tup s h1, same_tup s h2, by rw [d1.len, d2.len]; exact few_ok hf, fun z => ?_, fun _ z => ?_, fun _ _ p hp => ?_⟩
        · subst z
          cases d1
          exact k _ H Hs (Ext.refl s) hy0
        · subst z
          cases d2
          rw [List.append_nil] at k
          exact k _ H Hs (Ext.refl s) hx0
        · exact k _ _ _ (Ext.new s hp) (.tup (SqT.of upd_same) ((d1.app d2).mono (Ext.new (o := HO.tup _) s hp).b))
  · exact .inl (od_add H Hs x y dx dy res s hx hy e Q k)
def slB (d : D) (lo hi : Option Int) : Option R := match d with
  | .tup xs => some (.im (.tup (cutD xs lo hi)))
  | .str z => if few z.length then some (.im (.str (cutS z lo hi))) else none
  | d => slL d lo hi
def rSlB (K : PySem.W.Frag) : V → Option Int → Option Int → Hp → VK → Prop := fun x lo hi H Q => (rSlL K x lo hi H Q ∨ L2.rSlA K x lo hi H Q) ∨ rSlS x lo hi H Q
theorem sl_B {X : Cx} : SlR X (rSlB X.K) := (sl_list.or sl_tupA).or sl_str
theorem cut_whole {xs : List D} {lo hi : Option Int} (h : HT.sIx xs.length 0 lo = 0 ∧ HT.sIx xs.length xs.length hi = xs.length) : cutD xs lo hi = xs := by
  unfold cutD
  rw [h.1, h.2]
  simp
theorem sd_B : SlD K (rSlB K) slB := fun H Hs x dx l h res s hx e Q k => by
  unfold slB at e
  split at e
  · cases e
    have hx0 := hx
    cases hx with
    | tup h1 d1 =>
      refine .inl (.inr ⟨_, _, rfl, same_tup s h1, fun z => ?_, fun z p hp => ?_⟩)
      · rw [d1.len] at z
        rw [cut_whole z] at k
        exact k _ H Hs (Ext.refl s) hx0
      · exact k _ _ _ (Ext.new s hp) (.tup (SqT.of upd_same) (cut_ok (d1.mono (Ext.new (o := HO.tup _) s hp).b) _ _))
  · split at e
    case isFalse => cases e
    rename_i hf
    cases e
    cases hx
    exact .inr ⟨_, rfl, few_ok hf, k _ H Hs (Ext.refl s) (.str _)⟩
  · exact .inl (.inl (sd_list H Hs x _ l h res s hx e Q k))
def flatD : D → Option V
  | .non => some .non
  | .bl b => some (.bl b)
  | .int i => some (.int i)
  | .str x => some (.str x)
  | _ => none
def flatDs : List D → Option (List V)
  | [] => some []
  | d :: ds => match flatD d, flatDs ds with
    | some v, some vs => some (v :: vs)
    | _, _ => none
theorem flatD_ok {H : Hp} {x v : V} {d : D} (h : DR K H x d) (e : flatD d = some v) : x = v ∧ flatV v = true := by
  cases h <;> cases e <;> exact ⟨rfl, rfl⟩
theorem flatDs_ok {H : Hp} : ∀ {ds : List D} {xs vs : List V}, DRs K H xs ds → flatDs ds = some vs → xs = vs ∧ vs.all flatV = true
  | [], _, _, h, e => by cases h; cases e; exact ⟨rfl, rfl⟩
  | d :: ds, _, _, h, e => by
    unfold flatDs at e
    split at e
    case h_2 => cases e
    rename_i h1 h2
    cases e
    cases h with
    | cons a b =>
      obtain ⟨e1, f1⟩ := flatD_ok a h1
      obtain ⟨e2, f2⟩ := flatDs_ok b h2
      subst e1 e2
      exact ⟨rfl, by rw [List.all_cons, f1, f2]; rfl⟩
def opIn (neg : Bool) (x y : D) : Option R := match y with
  | .str z => match x with
    | .str i => match i.cps.toList with
      | [c] => some (.im (.bl (if neg then !decide (c ∈ z.cps.toList) else decide (c ∈ z.cps.toList))))
      | _ => none
    | _ => none
  | y => match seqD y, flatD x with
    | some ds, some v => match flatDs ds with
      | some vs => some (.im (.bl (if neg then !inV v vs else inV v vs)))
      | none => none
    | _, _ => none
def rInA (K : PySem.W.Frag) (neg : Bool) : R2 := fun x y H Q => rIn K neg x y H Q ∨ ∃ (c : Nat) (z : PySem.Str), x = .str ⟨#[c]⟩ ∧ y = .str z ∧ Q (.bl (if neg then !decide (c ∈ z.cps.toList) else decide (c ∈ z.cps.toList))) H
theorem op_notInA {X : Cx} : OpR X (compareOp .NotIn) (rInA X.K true) := op_notIn_seq.or op_notIn_sign
theorem od_in {neg : Bool} : OpD K (rInA K neg) (opIn neg) := fun H Hs x y dx dy res s hx hy e Q k => by
  unfold opIn at e
  split at e
  · split at e
    case h_2 => cases e
    split at e
    case h_2 => cases e
    rename_i z _ i _ c hc
    have hi : i = ⟨#[c]⟩ := by
      have z2 : i.cps = #[c] := by
        have z3 := congrArg List.toArray hc
        simpa using z3
      cases i
      exact congrArg PySem.Str.mk z2
    subst hi
    cases e
    cases hx; cases hy
    exact .inr ⟨c, z, rfl, rfl, k _ H Hs (Ext.refl s) (.bl _)⟩
  · split at e
    case h_2 => cases e
    rename_i ds v h1 h2
    split at e
    case h_2 => cases e
    rename_i vs h3
    cases e
    obtain ⟨e1, f1⟩ := flatD_ok hx h2
    obtain ⟨kk, p, xs, rfl, hp, hd⟩ := seqD_ok hy h1
    obtain ⟨e3, f3⟩ := flatDs_ok hd h3
    subst e1 e3
    refine .inl ⟨p, xs, rfl, ?_, f1, f3, k _ H Hs (Ext.refl s) (.bl _)⟩
    cases kk with
    | true => exact .inl (same_lst s hp)
    | false => exact .inr (same_tup s hp)
end
section
variable {K : PySem.W.Frag}
def MutD (K : PySem.W.Frag) (r : V → List V → Hp → VK → Prop) (f : List D → List D → Option (D × List D)) : Prop := ∀ H Hs l vs ds ws xs d ds', Same Hs H → H l = some (.lst vs) → DRs K Hs vs ds → DRs K Hs ws xs → f ds xs = some (d, ds') →
  ∀ Q : VK, (∀ v vs', DR K Hs v d → DRs K Hs vs' ds' → Q v (upd H l (.lst vs'))) → r (.ref l) ws H Q
def xmut (j : Nat) (f : List D → List D → Option (D × List D)) (as : M (List D)) : M R := fun G => if isLst G j then bd (as G) fun xs G1 => match G1[j]? with
  | some e => match e.mu with
    | some (.l ds) => match f ds xs with
      | some (d, ds') => some (.im d, G1.set j (e.with (.l ds')))
      | none => none
    | _ => none
  | none => none else none
theorem gk_mut {j : Nat} {r : V → List V → Hp → VK → Prop} {f : List D → List D → Option (D × List D)} (hr : MutD K r f) {ta : TA} {as : M (List D)} (ha : AOk K ta as) : GOk K (tBM K "list" r (tVar j) ta) (xmut j f as) := fun Fz ba G σ H Hs res G' q e0 Q k => by
  unfold xmut at e0
  split at e0
  case isFalse => cases e0
  rename_i hm
  obtain ⟨l, y3, yk⟩ := q.same_slot (isLst_mu hm)
  obtain ⟨xs, G1, e1, e⟩ := bd_inv e0
  obtain ⟨en0, ds0, y1, y2⟩ := isLst_ok hm
  obtain ⟨_, w1, _, vs0, rfl, _⟩ := yk G H Hs en0 _ q y1 y2
  refine ⟨_, y3, .inl ⟨rfl, vs0, SqL.of w1⟩, ?_⟩
  refine ha Fz ba G σ H Hs xs _ q e1 _ fun ws H1 Hs1 q1 s1 d1 => ?_
  cases h : G1[j]? with
  | none => simp only [h] at e; cases e
  | some en =>
    cases h0 : en.mu with
    | none => simp only [h, h0] at e; cases e
    | some mm =>
     cases mm with
     | o _ _ => simp only [h, h0] at e; cases e
     | l ds =>
      simp only [h, h0] at e
      split at e
      case h_2 => cases e
      rename_i d ds' hf
      cases e
      obtain ⟨_, z1, z2, vs, rfl, z3⟩ := yk _ H1 Hs1 en _ q1 h h0
      exact hr H1 Hs1 l vs ds ws xs d ds' q1.sub z1 z3 d1 hf Q fun v vs' h1 h2 => k v _ Hs1 (q1.mut h h0 y3 (extB_upd q1.sub z2) upd_same z2 ⟨_, rfl, h2⟩) s1 h1
def muExt (ds xs : List D) : Option (D × List D) := match xs with
  | [.lst es] => if few (ds.length + es.length) then some (.non, ds ++ es) else none
  | _ => none
theorem md_ext : MutD K rExtend muExt := fun H Hs l vs ds ws xs d ds' s hl hd hw e Q k => by
  unfold muExt at e
  split at e
  case h_2 => cases e
  split at e
  case isFalse => cases e
  rename_i es hf
  cases e
  cases hw with
  | cons a b =>
    cases b
    cases a with
    | lst h1 d1 => exact ⟨l, _, vs, _, rfl, rfl, hl, s _ _ h1, by rw [hd.len, d1.len]; exact few_ok hf, k _ _ .non (hd.app d1)⟩
end
end Bk
namespace Bk
open PySem L2
section
variable {K : PySem.W.Frag}
def xlc2L (tg : D → Gam → Option Gam) (c : M Bool) (it1 : M (List D)) (tg1 : D → Gam → Option Gam) (c1 : M Bool) (e : M R) (vs vs1 : List Nat) : List D → M (List D)
  | [], G => some ([], G)
  | d :: ds, G => match tg d G with
    | none => none
    | some G1 => bd (c G1) fun k G2 => if k then bd (it1 G2) fun ds1 G3 => bd (xlcL tg1 c1 e vs1 ds1 (wipeG G3 vs1)) fun o1 G4 => bd (xlc2L tg c it1 tg1 c1 e vs vs1 ds (wipeG G4 vs)) fun o2 G5 => some (o1 ++ o2, G5)
        else xlc2L tg c it1 tg1 c1 e vs vs1 ds (wipeG G2 vs)
def xlc2 (it : M (List D)) (tg : D → Gam → Option Gam) (c : M Bool) (it1 : M (List D)) (tg1 : D → Gam → Option Gam) (c1 : M Bool) (e : M R) (vs vs1 : List Nat) : M R := fun G => bd (it G) fun ds G1 =>
  if noMu G1 vs then bd (xlc2L tg c it1 tg1 c1 e vs vs1 ds (wipeG G1 vs)) fun out G2 => if few out.length then some (.ol out, unw G1 G2 vs) else none else none
theorem wipe_sub {σ : L2.St} {vs vs1 : List Nat} (h : ∀ j ∈ vs1, j ∈ vs) : wipe (wipe σ vs1) vs = wipe σ vs := wipe_eq (wipe_length σ vs1) fun j hj => wipe_get fun z => hj (h j z)
theorem gk_lc2 {w w1 : TI} {g g1 : TG} {t t1 : TT} {te : TE} {it it1 : M (List D)} {tg tg1 : D → Gam → Option Gam} {js js1 vs vs1 : List Nat} {c c1 : M Bool} {a : M R} (hi : IOk K w it) (hg : GtOk K g tg js) (hc : TOk K t c) (hi1 : IOk K w1 it1) (hg1 : GtOk K g1 tg1 js1) (hc1 : TOk K t1 c1) (ha : GOk K te a)
    (hj : ∀ j ∈ js, j ∈ vs) (hj1 : ∀ j ∈ js1, j ∈ vs1) (hs : ∀ j ∈ vs1, j ∈ vs) : GOk K (tLc2 w g t w1 g1 t1 te vs vs1) (xlc2 it tg c it1 tg1 c1 a vs vs1) := fun Fz ba G σ H Hs res G' q e Q k => by
  obtain ⟨ds, G1, e1, e⟩ := bd_inv e
  split at e
  case isFalse => cases e
  rename_i nm
  obtain ⟨out, G2, e2, e⟩ := bd_inv e
  split at e
  case isFalse => cases e
  rename_i hf
  cases e
  refine hi Fz ba G σ H Hs ds _ q e1 _ fun J H1 Hs1 q1 s1 Y p hp => ?_
  have hfp : Fz p = none := by
    cases z : Fz p with
    | none => rfl
    | some o =>
      obtain ⟨z1, _⟩ := q1.fz p o z
      rw [hp] at z1
      cases z1
  have q1w := (q1.wiped vs).hide (o := .lst []) hp
  refine ⟨fun i m H2 => m = ds.length - i ∧ i ≤ ds.length ∧ ∃ G3 Hs3 acc ad more, Rel K (upd Fz p (.lst acc)) ba G3 (wipe σ vs) H2 Hs3 ∧ Same Hs1 Hs3 ∧ DRs K Hs3 acc ad ∧ xlc2L tg c it1 tg1 c1 a vs vs1 (ds.drop i) G3 = some (more, G2) ∧ ad ++ more = out,
    ⟨ds.length, rfl, Nat.zero_le _, wipeG G1 vs, Hs1, [], [], out, q1w, Same.refl _, .nil, e2, rfl⟩, ?_⟩
  rintro i m H2 ⟨rfl, hi2, G3, Hs3, acc, ad, more, q3, s3, da, e3, eo⟩
  by_cases hlt : i < ds.length
  · refine .inr ⟨Y.go i H2 (s3.trans q3.sub) hlt, fun H' => i + 1 ≤ ds.length ∧ ∃ G4 Hs4 acc ad more, Rel K (upd Fz p (.lst acc)) ba G4 (wipe σ vs) H' Hs4 ∧ Same Hs1 Hs4 ∧ DRs K Hs4 acc ad ∧ xlc2L tg c it1 tg1 c1 a vs vs1 (ds.drop (i + 1)) G4 = some (more, G2) ∧ ad ++ more = out,
      fun H' ⟨z, z2⟩ => ⟨ds.length - (i + 1), by omega, rfl, z, z2⟩, fun x H' y => ?_⟩
    obtain ⟨d, Hs4, d1, ex, dr⟩ := Y.yld i x H2 H' Hs3 hlt s3 q3.sub y
    have q4 := q3.ext ex
    have ed : ds.drop i = d :: ds.drop (i + 1) := by
      rw [List.drop_eq_getElem_cons hlt]
      rw [List.getElem?_eq_getElem hlt] at d1
      cases d1
      rfl
    rw [ed] at e3
    unfold xlc2L at e3
    cases hG : tg d G3 with
    | none => rw [hG] at e3; cases e3
    | some G4 =>
      rw [hG] at e3
      refine hg.run _ ba G3 _ H' Hs4 x d G4 q4 dr hG _ fun σ5 q5 l5 k5 => ?_
      have hlen : σ5.length = σ.length := by rw [l5, wipe_length]
      have hw : wipe σ5 vs = wipe σ vs := by
        have z := wipe_eq (σ := wipe σ vs) (τ := σ5) (vs := vs) (by rw [wipe_length]; exact hlen) fun j hj' => k5 j fun z => hj' (hj j z)
        rw [z]
        exact wipe_eq (wipe_length σ vs) fun j hj' => wipe_get hj'
      refine ⟨hw, ?_⟩
      obtain ⟨b, G5, e5, e6⟩ := bd_inv e3
      refine hc _ ba G4 σ5 H' Hs4 b G5 q5 e5 _ fun H5 Hs5 q6 s6 => ?_
      cases b with
      | true =>
        obtain ⟨ds1, G6, e7, e8⟩ := bd_inv (show bd (it1 G5) _ = _ from e6)
        obtain ⟨o1, G7, e9, e10⟩ := bd_inv e8
        obtain ⟨o2, G8, e11, e12⟩ := bd_inv e10
        cases e12
        rw [if_pos rfl]
        refine hi1 _ ba G5 σ5 H5 Hs5 ds1 G6 q6 e7 _ fun J1 H6 Hs6 q7 s7 Y1 => ?_
        refine ⟨fun j n H7 => n = ds1.length - j ∧ j ≤ ds1.length ∧ ∃ G9 Hs9 acc ad more, Rel K (upd Fz p (.lst acc)) ba G9 (wipe σ5 vs1) H7 Hs9 ∧ Same Hs6 Hs9 ∧ DRs K Hs9 acc ad ∧ xlcL tg1 c1 a vs1 (ds1.drop j) G9 = some (more, G7) ∧ ad ++ (more ++ o2) = out,
          ⟨ds1.length, rfl, Nat.zero_le _, wipeG G6 vs1, Hs6, acc, ad, o1, q7.wiped vs1, Same.refl _, da.mono ((ex.b.trans s6).trans s7), e9, eo⟩, ?_⟩
        rintro j n H7 ⟨rfl, hj2, G9, Hs9, acc9, ad9, more9, q9, s9, da9, e13, eo9⟩
        by_cases hlt1 : j < ds1.length
        · refine .inr ⟨Y1.go j H7 (s9.trans q9.sub) hlt1, fun H' => j + 1 ≤ ds1.length ∧ ∃ G9 Hs9 acc ad more, Rel K (upd Fz p (.lst acc)) ba G9 (wipe σ5 vs1) H' Hs9 ∧ Same Hs6 Hs9 ∧ DRs K Hs9 acc ad ∧ xlcL tg1 c1 a vs1 (ds1.drop (j + 1)) G9 = some (more, G7) ∧ ad ++ (more ++ o2) = out,
            fun H' ⟨z, z2⟩ => ⟨ds1.length - (j + 1), by omega, rfl, z, z2⟩, fun x1 H8 y1 => ?_⟩
          obtain ⟨dd, Hs10, dd1, ex1, dr1⟩ := Y1.yld j x1 H7 H8 Hs9 hlt1 s9 q9.sub y1
          have q10 := q9.ext ex1
          have ed1 : ds1.drop j = dd :: ds1.drop (j + 1) := by
            rw [List.drop_eq_getElem_cons hlt1]
            rw [List.getElem?_eq_getElem hlt1] at dd1
            cases dd1
            rfl
          rw [ed1] at e13
          unfold xlcL at e13
          cases hG1 : tg1 dd G9 with
          | none => rw [hG1] at e13; cases e13
          | some G11 =>
            rw [hG1] at e13
            refine hg1.run _ ba G9 _ H8 Hs10 x1 dd G11 q10 dr1 hG1 _ fun σ6 q11 l6 k6 => ?_
            have hlen6 : σ6.length = σ5.length := by rw [l6, wipe_length]
            have hw6 : wipe σ6 vs1 = wipe σ5 vs1 := by
              have z := wipe_eq (σ := wipe σ5 vs1) (τ := σ6) (vs := vs1) (by rw [wipe_length]; exact hlen6) fun j hj' => k6 j fun z => hj' (hj1 j z)
              rw [z]
              exact wipe_eq (wipe_length σ5 vs1) fun j hj' => wipe_get hj'
            refine ⟨hw6, ?_⟩
            obtain ⟨b1, G12, e14, e15⟩ := bd_inv e13
            refine hc1 _ ba G11 σ6 H8 Hs10 b1 G12 q11 e14 _ fun H12 Hs12 q12 s12 => ?_
            cases b1 with
            | true =>
              obtain ⟨r, G13, e16, e17⟩ := bd_inv (show bd (a G12) _ = _ from e15)
              obtain ⟨out2, G14, e18, e19⟩ := bd_inv e17
              cases e19
              rw [if_pos rfl]
              refine ha.im q12 e16 fun v H13 Hs13 q13 s13 d13 => ?_
              obtain ⟨f1, f2⟩ := q13.fz p _ upd_same
              have q14 := (q13.rehide (o' := .lst (acc9 ++ [v]))).wiped vs1
              rw [hw6] at q14
              refine ⟨acc9, f1, ?_, hlt1, _, Hs13, _, ad9 ++ [r.d], out2, q14, ((s9.trans ex1.b).trans s12).trans s13, (da9.mono ((ex1.b.trans s12).trans s13)).app (.cons d13 .nil), e18, ?_⟩
              · have z1 := da9.len
                have z2 : ad9.length ≤ out.length := by rw [← eo9, List.length_append]; omega
                exact Nat.lt_of_le_of_lt (by omega) (few_lt hf)
              · rw [← eo9]
                simp
            | false =>
              rw [if_neg Bool.false_ne_true] at e15 ⊢
              have q14 := q12.wiped vs1
              rw [hw6] at q14
              exact ⟨hlt1, _, Hs12, acc9, ad9, more9, q14, (s9.trans ex1.b).trans s12, da9.mono (ex1.b.trans s12), e15, eo9⟩
        · have hend : ds1.length ≤ j := by omega
          rw [List.drop_eq_nil_of_le hend] at e13
          cases e13
          rw [List.nil_append] at eo9
          refine .inl ⟨Y1.stop j H7 (s9.trans q9.sub) hend, hlt, _, Hs9, acc9, ad9, o2, ?_, (((s3.trans ex.b).trans s6).trans s7).trans s9, da9, e11, eo9⟩
          have z := q9.wiped vs
          rw [wipe_sub hs, hw] at z
          exact z
      | false =>
        rw [if_neg Bool.false_ne_true] at e6 ⊢
        have q8 := q6.wiped vs
        rw [hw] at q8
        exact ⟨hlt, _, Hs5, acc, ad, more, q8, (s3.trans ex.b).trans s6, da.mono (ex.b.trans s6), e6, eo⟩
  · have hend : ds.length ≤ i := by omega
    rw [List.drop_eq_nil_of_le hend] at e3
    cases e3
    rw [List.append_nil] at eo
    subst eo
    obtain ⟨f1, f2⟩ := q3.fz p _ upd_same
    refine .inl ⟨Y.stop i H2 (s3.trans q3.sub) hend, k _ H2 Hs3 (q1.unwipe (q3.unhide hfp) s3 nm) (s1.trans s3) ⟨p, _, rfl, f1, f2, hfp, ⟨acc, rfl, da⟩, fun j e' g m z => ?_⟩⟩
    by_cases hjv : j ∈ vs
    · have z1 := q1.len
      have z2 := q3.len
      rw [wipe_length, z1] at z2
      rw [unw_in (G1 := G1) z2.symm hjv] at g
      exact m (noMu_ok nm hjv g)
    · rw [unw_out hjv] at g
      obtain ⟨ds', hd'⟩ : ∃ ds', e'.mu = some ds' := by
        cases y : e'.mu with
        | none => exact absurd y m
        | some ds' => exact ⟨ds', rfl⟩
      obtain ⟨l, ws, a1, a2, a3, a4, a5⟩ := q3.mu j e' ds' g hd'
      rw [wipe_get hjv, z] at a1
      cases a1
      rw [upd_same] at a4
      cases a4
end
end Bk
namespace Bk
open PySem L2
section
variable {K : PySem.W.Frag}
/-- the address that a result owns is p -/
def OwnAt (v : V) (r : R) (p : Addr) : Prop := (∃ m, r = .ow m) ∧ v = .ref p
inductive ResL (K : PySem.W.Frag) (Fz : Hp) (G : Gam) (σ : L2.St) (H Hs : Hp) : List V → List R → Prop
  | nil : ResL K Fz G σ H Hs [] []
  | cons {v : V} {r : R} {vs : List V} {rs : List R} : Res K Fz G σ H Hs v r → (∀ p, OwnAt v r p → ∀ x ∈ vs.zip rs, ¬ OwnAt x.1 x.2 p) → ResL K Fz G σ H Hs vs rs → ResL K Fz G σ H Hs (v :: vs) (r :: rs)
theorem Rel.lock {Fz : Hp} {ba : Nat → Addr} {G : Gam} {σ : L2.St} {H Hs : Hp} (q : Rel K Fz ba G σ H Hs) {p : Addr} {o : HO} (h : H p = some o) (hs : Hs p = none) (hn : ∀ (i : Nat) (e : Ent), G[i]? = some e → e.mu ≠ none → σ[i]? ≠ some (some (.ref p))) : Rel K (upd Fz p o) ba G σ H Hs := by
  refine ⟨q.sub, fun a u e => ?_, q.len, q.im, fun i e ds g g0 => ?_, q.dj, q.bx⟩
  · by_cases z : a = p
    · subst z
      rw [upd_same] at e
      cases e
      exact ⟨h, hs⟩
    · rw [upd_ne z] at e
      exact q.fz a u e
  · obtain ⟨l, vs, a1, a2, a3, a4, a5⟩ := q.mu i e ds g g0
    have ne : l ≠ p := fun z => by
      subst z
      exact hn i e g (by rw [g0]; simp) a1
    exact ⟨l, vs, a1, a2, a3, by rw [upd_ne ne]; exact a4, a5⟩
theorem Res.unlock {Fz : Hp} {G : Gam} {σ : L2.St} {H Hs : Hp} {p : Addr} {o : HO} (hf : Fz p = none) {v : V} {r : R} (h : Res K (upd Fz p o) G σ H Hs v r) : Res K Fz G σ H Hs v r ∧ ¬ OwnAt v r p := by
  cases r with
  | im d => exact ⟨h, fun ⟨⟨m, z⟩, _⟩ => nomatch z⟩
  | ow m =>
    obtain ⟨p', o', rfl, h1, h2, h3, h4, h5⟩ := h
    have ne : p' ≠ p := fun z => by
      subst z
      rw [upd_same] at h3
      cases h3
    rw [upd_ne ne] at h3
    exact ⟨⟨p', o', rfl, h1, h2, h3, h4, h5⟩, fun ⟨_, z⟩ => ne (V.ref.inj z)⟩
theorem ResL.unlock {Fz : Hp} {G : Gam} {σ : L2.St} {H Hs : Hp} {p : Addr} {o : HO} (hf : Fz p = none) : ∀ {vs : List V} {rs : List R}, ResL K (upd Fz p o) G σ H Hs vs rs → ResL K Fz G σ H Hs vs rs ∧ ∀ x ∈ vs.zip rs, ¬ OwnAt x.1 x.2 p
  | _, _, .nil => ⟨.nil, fun x h => by simp at h⟩
  | _, _, .cons h hd t => by
    obtain ⟨a1, a2⟩ := h.unlock hf
    obtain ⟨b1, b2⟩ := ResL.unlock hf t
    refine ⟨.cons a1 hd b1, fun x hx => ?_⟩
    rw [List.zip_cons_cons, List.mem_cons] at hx
    rcases hx with rfl | hx
    · exact a2
    · exact b2 x hx
def AROk (K : PySem.W.Frag) (t : TA) (f : M (List R)) : Prop := ∀ Fz ba G σ H Hs rs G', Rel K Fz ba G σ H Hs → f G = some (rs, G') →
  ∀ Q : List V → Hp → Prop, (∀ vs H' Hs', Rel K Fz ba G' σ H' Hs' → Same Hs Hs' → ResL K Fz G' σ H' Hs' vs rs → Q vs H') → t σ H Q
def ynil : M (List R) := fun G => some ([], G)
def ycons (a : M R) (r : M (List R)) : M (List R) := fun G => bd (a G) fun x G1 => bd (r G1) fun xs G2 => some (x :: xs, G2)
theorem yk_nil : AROk K tNil ynil := fun Fz ba G σ H Hs rs G' q e Q k => by
  cases e
  exact k [] H Hs q (Same.refl _) .nil
theorem yk_cons {ta : TE} {tr : TA} {a : M R} {r : M (List R)} (ha : GOk K ta a) (hr : AROk K tr r) : AROk K (tCons ta tr) (ycons a r) := fun Fz ba G σ H Hs rs G' q e Q k => by
  obtain ⟨x, G1, e1, e⟩ := bd_inv e
  obtain ⟨xs, G2, e2, e⟩ := bd_inv e
  cases e
  refine ha Fz ba G σ H Hs x G1 q e1 _ fun v H1 Hs1 q1 s1 r1 => ?_
  cases x with
  | im d =>
    refine hr Fz ba G1 σ H1 Hs1 xs _ q1 e2 _ fun vs H2 Hs2 q2 s2 r2 => k _ H2 Hs2 q2 (s1.trans s2) (.cons (show DR K Hs2 v d from DR.mono s2 r1) (fun p ⟨⟨m, z⟩, _⟩ => nomatch z) r2)
  | ow m =>
    obtain ⟨p, o, rfl, h1, h2, h3, h4, h5⟩ := r1
    have ql := q1.lock h1 h2 h5
    refine hr _ ba G1 σ H1 Hs1 xs _ ql e2 _ fun vs H2 Hs2 q2 s2 r2 => ?_
    obtain ⟨f1, f2⟩ := q2.fz p o upd_same
    obtain ⟨u1, u2⟩ := ResL.unlock h3 r2
    refine k _ H2 Hs2 (q2.unhide h3) (s1.trans s2) (.cons ⟨p, o, rfl, f1, f2, h3, h4.mono s2, fun i e g mm z => ?_⟩ (fun p' ⟨_, z⟩ => ?_) u1)
    · obtain ⟨ds', hd'⟩ : ∃ ds', e.mu = some ds' := by
        cases y : e.mu with
        | none => exact absurd y mm
        | some ds' => exact ⟨ds', rfl⟩
      obtain ⟨l, ws, a1, a2, a3, a4, a5⟩ := q2.mu i e ds' g hd'
      rw [z] at a1
      cases a1
      rw [upd_same] at a4
      cases a4
    · cases z
      exact u2
/-- a result is still one behind a store of another -/
theorem Res.set {Fz : Hp} {G : Gam} {σ : L2.St} {H Hs : Hp} {i : Nat} {v w : V} {x y : R} (hl : σ.length = G.length) (h : Res K Fz G σ H Hs w y) (hd : ∀ p, OwnAt v x p → ¬ OwnAt w y p) (hx : Res K Fz G σ H Hs v x) : Res K Fz (G.set i x.ent) (σ.set i (some v)) H Hs w y := by
  cases y with
  | im d => exact h
  | ow m =>
    obtain ⟨p, o, rfl, h1, h2, h3, h4, h5⟩ := h
    refine ⟨p, o, rfl, h1, h2, h3, h4, fun j e g mm z => ?_⟩
    rcases get_set g with ⟨rfl, e1, hi⟩ | ⟨ne, g⟩
    · rw [List.getElem?_set_self (by rw [hl]; exact hi)] at z
      cases z
      cases x with
      | im d => subst e1; exact mm rfl
      | ow m' => exact hd p ⟨⟨m', rfl⟩, rfl⟩ ⟨⟨m, rfl⟩, rfl⟩
    · rw [List.getElem?_set_ne ne] at z
      exact h5 j e g mm z
def ypar (i j : Nat) (a : M (List R)) : MS := fun G => bd (a G) fun xs G1 => match xs with
  | [x, y] => some (.nx, (G1.set i x.ent).set j y.ent)
  | _ => none
theorem sk_ypar {i j : Nat} {ta : TA} {a : M (List R)} (ha : AROk K ta a) : SOk K (tPar i j ta) (ypar i j a) := fun Fz ba G σ H Hs fl G' q e Dn p => by
  obtain ⟨xs, G1, e1, e⟩ := bd_inv e
  split at e
  case h_2 => cases e
  rename_i x y
  cases e
  refine ha Fz ba G σ H Hs _ _ q e1 _ fun vs H1 Hs1 q1 s1 d1 => ?_
  cases d1 with
  | cons rx hd d1 =>
    cases d1 with
    | cons ry hd2 d1 =>
      cases d1
      have q2 := q1.set (i := i) rx
      have ry2 := Res.set (i := i) q1.len ry (fun p hp => hd p hp (_, y) (List.mem_cons_self)) rx
      exact ⟨_, _, rfl, p _ H1 Hs1 (q2.set (i := j) ry2) s1⟩
def ypar3 (i j l : Nat) (a : M (List R)) : MS := fun G => bd (a G) fun xs G1 => match xs with
  | [x, y, z] => some (.nx, ((G1.set i x.ent).set j y.ent).set l z.ent)
  | _ => none
theorem sk_ypar3 {i j l : Nat} {ta : TA} {a : M (List R)} (ha : AROk K ta a) : SOk K (tPar3 i j l ta) (ypar3 i j l a) := fun Fz ba G σ H Hs fl G' q e Dn p => by
  obtain ⟨xs, G1, e1, e⟩ := bd_inv e
  split at e
  case h_2 => cases e
  rename_i x y z
  cases e
  refine ha Fz ba G σ H Hs _ _ q e1 _ fun vs H1 Hs1 q1 s1 d1 => ?_
  cases d1 with
  | cons rx hd d1 =>
    cases d1 with
    | cons ry hd2 d1 =>
      cases d1 with
      | cons rz hd3 d1 =>
        cases d1
        have q2 := q1.set (i := i) rx
        have ry2 := Res.set (i := i) q1.len ry (fun p hp => hd p hp (_, y) (List.mem_cons_self)) rx
        have rz2 := Res.set (i := i) q1.len rz (fun p hp => hd p hp (_, z) (List.mem_cons_of_mem _ List.mem_cons_self)) rx
        have q3 := q2.set (i := j) ry2
        have rz3 := Res.set (i := j) q2.len rz2 (fun p hp => hd2 p hp (_, z) List.mem_cons_self) ry2
        exact ⟨_, _, _, rfl, p _ H1 Hs1 (q3.set (i := l) rz3) s1⟩
end
section
variable {X : Cx} {o : Expr} {f : PySem.Str} {pos : Pos} {ta : TE}
def gFld (K : PySem.W.Frag) (ta : TE) (f : PySem.Str) : TG := fun v σ H Q => ta σ H fun x H1 => ∃ a C dx fs, x = .ref a ∧ H1 a = some (.ins C dx fs) ∧ Cls K C ∧ NoAttr K C f ∧ fs.length < 1000 ∧ Q σ (upd H1 a (.ins C dx (putF f v fs)))
theorem pg_fld (ho : PE X o ta) : PG X (.Attribute o f pos) (gFld X.K ta f) := by
  refine ⟨fun pins s σ H v u Q I r h => ?_⟩
  show wpAny _ _ (do
    let ov ← holding [u] (eval o X.env)
    standAt pos.atName
    holding [u, ov] (setAttr ov f u)
    release [u, ov] []) _ _ _
  refine wpAny_bind (wpAny_holding (thn (ho.run pins s σ H _ I h) fun ov s1 ⟨x, H1, I1, r1, a, C, dx, fs, ex, ea, c, n, hl, q⟩ => ?_))
  subst ex
  obtain rfl : ov = Value.ref a := r1
  refine wpAny_bind (wpAny_standAt (wpAny_bind (wpAny_holding (setattr_ok I1 ea c n hl r fun s2 I2 => ?_))))
  exact wpAny_release ⟨σ, _, I2, q⟩
end
section
variable {K : PySem.W.Frag} {mg : PySem.Str → Option Value}
def tgf (j c i : Nat) : D → Gam → Option Gam := fun d G => putA j c i d G
theorem gt_fld {j c i : Nat} {f : PySem.Str} (T : ClT K mg c) (hf : (cAttrs c)[i]? = some f) : ∀ Fz ba G σ H Hs v d G', Rel K Fz ba G σ H Hs → DR K Hs v d → tgf j c i d G = some G' → ∀ Q : L2.St → Hp → Prop, (∀ H', Rel K Fz ba G' σ H' Hs → Q σ H') → gFld K (tVar j) f v σ H Q := fun Fz ba G σ H Hs v d G' q hd e Q k => by
  obtain ⟨a, dx, fs, g1, g2, g3, g4⟩ := putA_ok T hf q hd e
  exact ⟨_, g1, a, T.C, dx, fs, rfl, g2, T.cls, T.na f (List.mem_of_getElem? hf), g3, k _ g4⟩
/-- self.f, self.g = e -/
def xasgF (j c i k : Nat) (a : M R) : MS := fun G => bd (a G) fun x G1 => match x.d with
  | .tup [d, d'] => match putA j c i d G1 with
    | some G2 => match putA j c k d' G2 with
      | some G3 => some (.nx, G3)
      | none => none
    | none => none
  | _ => none
theorem sk_asgF {j c i k : Nat} {f g : PySem.Str} (T : ClT K mg c) (hf : (cAttrs c)[i]? = some f) (hg : (cAttrs c)[k]? = some g) {ta : TE} {a : M R} (ha : GOk K ta a) : SOk K (tAsg ta (gTup K 2 (gCons (gFld K (tVar j) f) (gCons (gFld K (tVar j) g) gNil)))) (xasgF j c i k a) := fun Fz ba G σ H Hs fl G' q e Dn p => by
  obtain ⟨x, G1, e1, e⟩ := bd_inv e
  refine ha.im q e1 fun v H1 Hs1 q1 s1 d1 => ?_
  split at e
  case h_2 => cases e
  rename_i d d' hx
  rw [hx] at d1
  split at e
  case h_2 => cases e
  rename_i G2 h2
  split at e
  case h_2 => cases e
  rename_i G3 h3
  cases e
  cases d1 with
  | tup ht hd =>
    cases hd with
    | cons da hd =>
      cases hd with
      | cons db hd =>
        cases hd
        refine ⟨_, _, rfl, same_tup q1.sub ht, rfl, _, _, rfl, ?_⟩
        refine gt_fld T hf Fz ba G1 σ H1 Hs1 _ d G2 q1 da h2 _ fun H2 q2 => ?_
        refine ⟨_, _, rfl, ?_⟩
        refine gt_fld T hg Fz ba G2 σ H2 Hs1 _ d' _ q2 db h3 _ fun H3 q3 => ?_
        exact ⟨rfl, p σ H3 Hs1 q3 s1⟩
end
end Bk
namespace Bk
open PySem L2 PyProof.Rows Srt
section
variable {prog : Program} {w : World} {A : Around} {E : Value → Shared → Prop} {s : Shared}
/-- a tuple of an int and a pair of ints -/
def IsKP (h : Heap) (v : Value) (k : Int × Int × Int) : Prop := ∃ (a b : Addr) (o o2 : Obj) (t u z : Tok) (n n2 : Nat), v = .ref a ∧ h.get? a = some o ∧ o.cls = .type "tuple" ∧ o.data = .seq #[.int k.1 t, .ref b] n ∧ h.get? b = some o2 ∧ o2.cls = .type "tuple" ∧ o2.data = .seq #[.int k.2.1 u, .int k.2.2 z] n2
theorem IsKP.keeps {h h' : Heap} {v : Value} {k : Int × Int × Int} (p : IsKP h v k) (kk : ∀ b o, h.get? b = some o → o.cls = .type "tuple" → h'.get? b = some o) : IsKP h' v k := by
  obtain ⟨a, b, o, o2, t, u, z, n, n2, e, h1, h2, h3, h4, h5, h6⟩ := p
  exact ⟨a, b, o, o2, t, u, z, n, n2, e, kk _ _ h1 h2, h2, h3, kk _ _ h4 h5, h5, h6⟩
def ltK (k : Value → Int × Int × Int) (v u : Value) : Bool := decide ((k v).1 < (k u).1)
theorem swo_K (k : Value → Int × Int × Int) : SrtO.Swo (ltK k) := by
  refine ⟨fun x y h => ?_, fun x y z h1 h2 => ?_⟩
  · have a := of_decide_eq_true h
    exact decide_eq_false (by omega)
  · have a := of_decide_eq_false h1
    have b := of_decide_eq_false h2
    exact decide_eq_false (by omega)
theorem eq_pairs {b b' : Addr} {o2 o2' : Obj} {p q : Int} {u z u' z' : Tok} {n n' : Nat} (hu : A.units < cLine) (h1 : s.heap.get? b = some o2) (c1 : o2.cls = .type "tuple") (d1 : o2.data = .seq #[.int p u, .int q z] n) (h2 : s.heap.get? b' = some o2') (c2 : o2'.cls = .type "tuple") (d2 : o2'.data = .seq #[.int p u', .int q z'] n') :
    SeqAt.EqAt A s (.ref b) (.ref b') true := by
  by_cases e : b = b'
  · subst e
    exact SeqAt.EqAt.same _
  · have key := SeqAt.RcAt.tuples (A := A) (s := s) (l := b) (b := b') (items := #[.int p u, .int q z]) (items2 := #[.int p u', .int q z']) (e := fun _ => true) ⟨o2, h1, c1, n, d1⟩ ⟨o2', h2, c2, n', d2⟩ hu (fun j j1 j2 => ?_)
    · have key2 : SeqAt.RcAt A s (.ref b) (.ref b') true := by
        have z : ((List.range (min (#[Value.int p u, Value.int q z]).size (#[Value.int p u', Value.int q z']).size)).all (fun _ => true) && (#[Value.int p u, Value.int q z]).size == (#[Value.int p u', Value.int q z']).size) = true := by
          show ((List.range 2).all (fun _ => true) && (2 == 2)) = true
          decide
        rw [z] at key
        exact key
      exact SeqAt.EqAt.of_refs e key2
    · match j, j1, j2 with
      | 0, _, _ => simpa using SeqAt.EqAt.int_int (A := A.in1) (s := s) p u p u'
      | 1, _, _ => simpa using SeqAt.EqAt.int_int (A := A.in1) (s := s) q z q z'
theorem kp_cmp {vs : List Value} {k : Value → Int × Int × Int} (hu : A.units < cLine) (hp : ∀ v ∈ vs, IsKP s.heap v (k v)) (hq : ∀ v ∈ vs, ∀ u ∈ vs, (k v).1 = (k u).1 → (k v).2 = (k u).2) : SrtO.Cmp prog w A s (tuples' true) (fun p => p.1 ∈ vs) (SrtO.lt2 (ltK k)) := by
  intro p q hm hm'
  have h1 := hp _ hm
  have h2 := hp _ hm'
  have h3 := hq _ hm _ hm'
  show wpAny (model prog w) A (keyLt' (tuples' true) p.1 q.1) (fun r s' => s' = s ∧ r = ltK k p.1 q.1) (fun _ _ => False) s
  unfold ltK
  generalize k p.1 = x at h1 h3 ⊢
  generalize k q.1 = y at h2 h3 ⊢
  obtain ⟨a, b, o, o2, t, u, z, n, n2, e, a1, a2, a3, a4, a5, a6⟩ := h1
  obtain ⟨a', b', o', o2', t', u', z', n', n2', e', b1, b2, b3, b4, b5, b6⟩ := h2
  rw [e, e']
  refine PySem.W.kat_lt a1 a3 b1 b3 ?_
  show PySem.W.KatLex prog w A true (decide (2 < 2)) _ [(.int x.1 t, .int y.1 t'), (.ref b, .ref b')] 0 s
  refine PySem.W.kat_cons (SeqAt.EqAt.int_int x.1 t y.1 t' prog w _ _ ?_)
  refine PySem.W.kat_go (fun e1 => ?_) (fun e1 => ?_)
  · have ex : x.1 = y.1 := by simpa using e1
    have e2 := h3 ex
    rw [← e2] at b6
    refine PySem.W.kat_yes (PySem.W.kat_cons (eq_pairs hu a4 a5 a6 b4 b5 b6 prog w _ _ ?_))
    refine PySem.W.kat_yes (PySem.W.kat_nil ⟨rfl, ?_⟩)
    rw [ex]
    exact (decide_eq_false (Int.lt_irrefl _)).symm
  · exact PySem.W.kat_no (oneLt_int ⟨rfl, rfl⟩)
theorem kp_firsts {h : Heap} : ∀ {vs : List Value}, (∀ v ∈ vs, ∃ k, IsKP h v k) → ∃ fs : List Value, PySem.W.KatTups h vs fs ∧ fs.length = vs.length ∧ ∀ f ∈ fs, ∃ x t, f = Value.int x t
  | [], _ => ⟨[], PySem.W.KatTups.nil, rfl, fun _ hm => by simp at hm⟩
  | v :: vs, hp => by
    obtain ⟨fs, h1, h2, h3⟩ := kp_firsts (vs := vs) fun v' hm => hp v' (List.mem_cons_of_mem _ hm)
    obtain ⟨k, a, b, o, o2, t, u, z, n, n2, e, a1, a2, a3, a4, a5, a6⟩ := hp v (List.mem_cons_self ..)
    subst e
    refine ⟨.int k.1 t :: fs, ?_, by rw [List.length_cons, List.length_cons, h2], fun f hf => ?_⟩
    · exact PySem.W.KatTups.cons a1 a2 a3 rfl h1
    · rcases List.mem_cons.mp hf with rfl | hf
      · exact ⟨_, _, rfl⟩
      · exact h3 f hf
theorem kp_sortable {a : Addr} {vs : List Value} {k : Value → Int × Int × Int} (hu : A.units < cLine) (h0 : 0 < vs.length) (hp : ∀ v ∈ vs, IsKP s.heap v (k v)) (hq : ∀ v ∈ vs, ∀ u ∈ vs, (k v).1 = (k u).1 → (k v).2 = (k u).2) (ha : ∀ o, s.heap.get? a = some o → o.cls ≠ .type "tuple") :
    SrtO.SortableO prog w A s a vs (ltK k) := by
  intro h' keep
  have hp' : ∀ v ∈ vs, IsKP h' v (k v) := fun v hm => (hp v hm).keeps fun b o e c => keep b o (fun z => ha o (z ▸ e) c) e
  obtain ⟨fs, h1, h2, h3⟩ := kp_firsts fun v hm => ⟨_, hp' v hm⟩
  refine ⟨tuples' true, fun Q E hq2 => ?_, kp_cmp hu hp' hq⟩
  refine PySem.W.kat_kind (T := .type "int") h1 (by omega) (fun f hm => ?_) rfl ?_
  · obtain ⟨x, t, rfl⟩ := h3 f hm
    exact PySem.W.Looks.now
  · rw [show (Value.type "int" != Value.type "tuple") = true by decide +kernel]
    exact hq2
theorem sorted_kp {l : Addr} {vs : List Value} {k : Value → Int × Int × Int} {Q : Value → Shared → Prop} (hu : A.in1.in1.units < cLine) (hl : s.heap.IsList l vs.toArray) (hz : vs.length ≤ sizeLine) (hp : ∀ v ∈ vs, IsKP s.heap v (k v)) (hq : ∀ v ∈ vs, ∀ u ∈ vs, (k v).1 = (k u).1 → (k v).2 = (k u).2)
    (h : ∀ (h' : Heap) (d : Addr) (out : List Value), SrtO.Srtd (ltK k) out → SrtO.Stb (ltK k) out vs → (∀ b o, s.heap.get? b = some o → h'.get? b = some o) → s.heap.objs.size ≤ d → (∃ n, h'.get? d = some (seqObj "list" out.toArray n)) → Q (.ref d) { s with heap := h' }) :
    wpAny (model prog w) A (call (.builtin "sorted") [.ref l]) Q E s := by
  refine SrtO.sorted_ord (swo_K k) hl hz (fun h2 h₁ a ha kk => ?_) fun out hs hb => ?_
  · refine kp_sortable (s := { s with heap := h₁ }) hu (by omega) (fun v hm => (hp v hm).keeps fun b o e _ => (kk b o e).2) hq fun o e => ?_
    rw [ha] at e
    cases e
    exact fun c => absurd (Value.type.inj c) (by decide)
  · exact h _ _ out hs hb (fun b o e => sortedAll_old e) (Nat.le_succ _) (sortedAll_at s.heap vs out.toArray)
end
/-- the same order on the values of the layer -/
abbrev ltV (k : V → Int × Int × Int) (x y : V) : Bool := decide ((k x).1 < (k y).1)
theorem ltV_swo (k : V → Int × Int × Int) : SrtO.Swo (ltV k) := by
  refine ⟨fun x y h => ?_, fun x y z h1 h2 => ?_⟩
  · have a := of_decide_eq_true h
    exact decide_eq_false (by omega)
  · have a := of_decide_eq_false h1
    have b := of_decide_eq_false h2
    exact decide_eq_false (by omega)
def rSortK (K : PySem.W.Frag) : List V → Hp → VK → Prop := fun vs H Q => ∃ (a : Addr) (xs : List V) (k : V → Int × Int × Int), vs = [V.ref a] ∧ SqL K H a xs ∧ (∀ x ∈ xs, ∃ t b, x = V.ref t ∧ SqT K H t [.int (k x).1, .ref b] ∧ SqT K H b [.int (k x).2.1, .int (k x).2.2]) ∧
  (∀ x ∈ xs, ∀ y ∈ xs, (k x).1 = (k y).1 → (k x).2 = (k y).2) ∧ ∀ ys p, SrtO.Srtd (ltV k) ys → SrtO.Stb (ltV k) ys xs → H p = none → Q (.ref p) (upd H p (.lst ys))
section
variable {X : Cx}
theorem cr_sortK (hu : X.A.in1.in1.units < cLine) : CallR X (.builtin "sorted") (rSortK X.K) := by
  intro pins s σ H vs us Q I r h
  obtain ⟨a, xs, k, rfl, hs, hx, hq, q⟩ := h
  obtain ⟨its, rv, hl, hz⟩ := I.list hs
  obtain ⟨u, rfl, ru⟩ := r.one
  cases (show u = Value.ref a from ru)
  obtain ⟨e1, e2⟩ := refs_back rv fun x m => by
    obtain ⟨t, b, e, _⟩ := hx x m
    exact ⟨t, e⟩
  have hm : ∀ v ∈ its, backV v ∈ xs := fun v hv => by
    rw [e1]
    exact List.mem_map.mpr ⟨v, hv, rfl⟩
  refine sorted_kp (k := fun u => k (backV u)) hu hl.isList (by rw [← rv.length]; exact hz) (fun v hv => ?_) (fun v hv u hu' => hq _ (hm v hv) _ (hm u hu')) fun h' d out h1 h2 kp hd hn => ?_
  · obtain ⟨t, rfl⟩ := e2 v hv
    obtain ⟨t', b, e, h1, h2⟩ := hx _ (hm _ hv)
    cases e
    obtain ⟨its1, r1, ⟨o1, p1, p2, n1, p3⟩, _⟩ := I.tuple h1
    obtain ⟨its2, r2, ⟨o2, p4, p5, n2, p6⟩, _⟩ := I.tuple h2
    obtain ⟨u1, u2, rfl, ⟨t1, rfl⟩, rj⟩ := vals2 r1
    obtain ⟨u3, u4, rfl, ⟨t3, rfl⟩, ⟨t4, rfl⟩⟩ := vals2 r2
    cases (show u2 = Value.ref b from rj)
    exact ⟨t, b, o1, o2, t1, t3, t4, n1, n2, rfl, p1, p2, p3, p4, p5, p6⟩
  · have h3 : ∀ u ∈ out, ∃ a, u = Value.ref a := fun u hu => e2 u (h2.perm.mem_iff.mp hu)
    obtain ⟨n, hn⟩ := hn
    have hb : SrtO.Stb (ltV k) (out.map backV) xs := by
      rw [e1]
      exact SrtO.Stb.map (ltV_swo k) backV h2
    refine ⟨.ref d, upd H d (.lst (out.map backV)), I.laid (t' := s.toks) kp hd ⟨?_, out, n, vals_back h3, hn⟩, rfl, q _ d (SrtO.srtd_map h1) hb (I.hok.fresh hd)⟩
    rw [hb.len]
    exact hz
end
section
variable {α β : Type}
def insK (f : α → Int) (x : α) : List α → List α
  | [] => [x]
  | y :: r => if f x ≤ f y then x :: y :: r else y :: insK f x r
def sortK (f : α → Int) : List α → List α
  | [] => []
  | x :: r => insK f x (sortK f r)
theorem insK_perm (f : α → Int) (x : α) : ∀ l : List α, (insK f x l).Perm (x :: l)
  | [] => List.Perm.refl _
  | y :: r => by
    unfold insK
    split
    · exact List.Perm.refl _
    · exact ((insK_perm f x r).cons y).trans (List.Perm.swap x y r)
theorem sortK_perm (f : α → Int) : ∀ l : List α, (sortK f l).Perm l
  | [] => List.Perm.refl _
  | x :: r => (insK_perm f x _).trans ((sortK_perm f r).cons x)
theorem insK_sorted (f : α → Int) (x : α) : ∀ {l : List α}, l.Pairwise (fun a b => f a ≤ f b) → (insK f x l).Pairwise (fun a b => f a ≤ f b)
  | [], _ => List.pairwise_singleton _ _
  | y :: r, h => by
    unfold insK
    obtain ⟨h1, h2⟩ := List.pairwise_cons.mp h
    split
    · rename_i hxy
      refine List.pairwise_cons.mpr ⟨fun z hz => ?_, h⟩
      rcases List.mem_cons.mp hz with rfl | hz
      · exact hxy
      · exact Int.le_trans hxy (h1 z hz)
    · rename_i hxy
      refine List.pairwise_cons.mpr ⟨fun z hz => ?_, insK_sorted f x h2⟩
      rcases List.mem_cons.mp ((insK_perm f x r).mem_iff.mp hz) with rfl | hz
      · omega
      · exact h1 z hz
theorem sortK_sorted (f : α → Int) : ∀ l : List α, (sortK f l).Pairwise (fun a b => f a ≤ f b)
  | [] => List.Pairwise.nil
  | x :: r => insK_sorted f x (sortK_sorted f r)
theorem insK_filter (f : α → Int) (c : Int) (x : α) : ∀ l : List α, (insK f x l).filter (fun y => f y == c) = (x :: l).filter (fun y => f y == c)
  | [] => rfl
  | y :: r => by
    unfold insK
    split
    · rfl
    · rename_i hxy
      have ih := insK_filter f c x r
      by_cases hx : f x = c
      · have hy : ¬ f y = c := by omega
        rw [List.filter_cons_of_neg (by simpa using hy), ih, List.filter_cons_of_pos (by simpa using hx), List.filter_cons_of_pos (by simpa using hx), List.filter_cons_of_neg (by simpa using hy)]
      · rw [List.filter_cons_of_neg (a := x) (by simpa using hx), List.filter_cons, List.filter_cons, ih, List.filter_cons_of_neg (a := x) (by simpa using hx)]
theorem sortK_filter (f : α → Int) (c : Int) : ∀ l : List α, (sortK f l).filter (fun y => f y == c) = l.filter (fun y => f y == c)
  | [] => rfl
  | x :: r => by
    show (insK f x (sortK f r)).filter _ = _
    rw [insK_filter, List.filter_cons, List.filter_cons, sortK_filter f c r]
theorem insK_map (f : β → Int) (g : α → β) (x : α) : ∀ l : List α, (insK (fun a => f (g a)) x l).map g = insK f (g x) (l.map g)
  | [] => rfl
  | y :: r => by
    unfold insK
    rw [List.map_cons]
    split
    · rename_i h
      simp only [h, if_true, List.map_cons]
    · rename_i h
      simp only [h, if_false, List.map_cons, insK_map f g x r]
theorem sortK_map (f : β → Int) (g : α → β) : ∀ l : List α, (sortK (fun a => f (g a)) l).map g = sortK f (l.map g)
  | [] => rfl
  | x :: r => by
    show (insK _ x (sortK _ r)).map g = insK f (g x) (sortK f (r.map g))
    rw [insK_map, sortK_map f g r]
end
def keyD : D → Int
  | .tup (.int x :: _) => x
  | _ => 0
def kpD : D → Option (Int × Int × Int)
  | .tup [.int x, .tup [.int p, .int q]] => some (x, p, q)
  | _ => none
def kpDs : List D → Option (List (Int × Int × Int))
  | [] => some []
  | d :: ds => match kpD d, kpDs ds with
    | some a, some as => some (a :: as)
    | _, _ => none
/-- alike in the first: alike -/
def okKP : List (Int × Int × Int) → Bool
  | [] => true
  | a :: r => r.all (fun b => !(a.1 == b.1) || (a.2.1 == b.2.1 && a.2.2 == b.2.2)) && okKP r
theorem okKP_ok : ∀ {l : List (Int × Int × Int)}, okKP l = true → ∀ a ∈ l, ∀ b ∈ l, a.1 = b.1 → a.2 = b.2
  | [], _, a, ha, _, _, _ => by simp at ha
  | c :: r, h, a, ha, b, hb, e => by
    unfold okKP at h
    rw [Bool.and_eq_true, List.all_eq_true] at h
    obtain ⟨h1, h2⟩ := h
    have key : ∀ b ∈ r, c.1 = b.1 → c.2 = b.2 := fun b hb e => by
      have z := h1 b hb
      simp only [e, beq_self_eq_true, Bool.not_true, Bool.false_or, Bool.and_eq_true, beq_iff_eq] at z
      exact Prod.ext z.1 z.2
    rcases List.mem_cons.mp ha with ea | ha'
    · rcases List.mem_cons.mp hb with eb | hb'
      · rw [ea, eb]
      · rw [ea] at e ⊢
        exact key b hb' e
    · rcases List.mem_cons.mp hb with eb | hb'
      · rw [eb] at e ⊢
        exact (key a ha' e.symm).symm
      · exact okKP_ok h2 a ha' b hb' e
def cbSorted : List D → Option R
  | [d] => match seqL d with
    | some ds => match kpDs ds with
      | some l => if okKP l then some (.ol (sortK keyD ds)) else none
      | none => none
    | none => none
  | _ => none
where seqL : D → Option (List D)
  | .lst ds => some ds
  | .frz ds => some ds
  | _ => none
section
variable {K : PySem.W.Frag}
theorem zip_drs {H : Hp} : ∀ {vs : List V} {ds : List D}, DRs K H vs ds → ∀ p ∈ vs.zip ds, DR K H p.1 p.2
  | _, _, .nil, p, h => by simp at h
  | _, _, .cons a t, p, h => by
    rw [List.zip_cons_cons, List.mem_cons] at h
    rcases h with rfl | h
    · exact a
    · exact zip_drs t p h
theorem drs_of {H : Hp} : ∀ {l : List (V × D)}, (∀ p ∈ l, DR K H p.1 p.2) → DRs K H (l.map (·.1)) (l.map (·.2))
  | [], _ => .nil
  | p :: l, h => .cons (h p List.mem_cons_self) (drs_of fun q hq => h q (List.mem_cons_of_mem _ hq))
theorem DRs.zips {H : Hp} : ∀ {vs : List V} {ds : List D}, DRs K H vs ds → (vs.zip ds).map (·.1) = vs ∧ (vs.zip ds).map (·.2) = ds
  | _, _, .nil => ⟨rfl, rfl⟩
  | _, _, .cons a t => by
    obtain ⟨h1, h2⟩ := DRs.zips t
    exact ⟨by rw [List.zip_cons_cons, List.map_cons, h1], by rw [List.zip_cons_cons, List.map_cons, h2]⟩
theorem kpDs_mem : ∀ {ds : List D} {l : List (Int × Int × Int)}, kpDs ds = some l → ∀ d ∈ ds, ∃ a ∈ l, kpD d = some a
  | [], _, _, d, h => by simp at h
  | e :: ds, l, h, d, hd => by
    unfold kpDs at h
    split at h
    case h_2 => cases h
    rename_i a as h1 h2
    cases h
    rcases List.mem_cons.mp hd with rfl | hd
    · exact ⟨a, List.mem_cons_self, h1⟩
    · obtain ⟨b, hb, e⟩ := kpDs_mem h2 d hd
      exact ⟨b, List.mem_cons_of_mem _ hb, e⟩
theorem kpD_key {d : D} {a : Int × Int × Int} (h : kpD d = some a) : keyD d = a.1 := by
  unfold kpD at h
  split at h
  · cases h; rfl
  · cases h
/-- the value's own key: that of the data behind it -/
theorem key_of {H : Hp} {v : V} {d : D} {a : Int × Int × Int} (h : DR K H v d) (e : kpD d = some a) : ∃ t b, v = .ref t ∧ SqT K H t [.int a.1, .ref b] ∧ SqT K H b [.int a.2.1, .int a.2.2] := by
  unfold kpD at e
  split at e
  case h_2 => cases e
  cases e
  cases h with
  | tup h1 d1 =>
    cases d1 with
    | cons a1 d1 =>
      cases d1 with
      | cons a2 d1 =>
        cases d1
        cases a1
        cases a2 with
        | tup h2 d2 =>
          cases d2 with
          | cons b1 d2 =>
            cases d2 with
            | cons b2 d2 =>
              cases d2
              cases b1
              cases b2
              exact ⟨_, _, rfl, h1, h2⟩
theorem sortK_congr {α : Type} {f g : α → Int} : ∀ {l : List α}, (∀ x ∈ l, f x = g x) → sortK f l = sortK g l := by
  have ins : ∀ {x : α} {l : List α}, f x = g x → (∀ y ∈ l, f y = g y) → insK f x l = insK g x l := fun {x l} hx h => by
    induction l with
    | nil => rfl
    | cons y r ih =>
      unfold insK
      rw [hx, h y List.mem_cons_self, ih fun z hz => h z (List.mem_cons_of_mem _ hz)]
  intro l h
  induction l with
  | nil => rfl
  | cons x r ih =>
    show insK f x (sortK f r) = insK g x (sortK g r)
    rw [ih fun z hz => h z (List.mem_cons_of_mem _ hz)]
    exact ins (h x List.mem_cons_self) fun y hy => h y (List.mem_cons_of_mem _ ((sortK_perm g r).mem_iff.mp hy))
theorem sortK_uniq {k : V → Int × Int × Int} {ys xs : List V} (h1 : SrtO.Srtd (ltV k) ys) (h2 : SrtO.Stb (ltV k) ys xs) : ys = sortK (fun v => (k v).1) xs := by
  have s1 : SrtO.Srtd (ltV k) (sortK (fun v => (k v).1) xs) := (sortK_sorted (fun v => (k v).1) xs).imp fun {a b} h => decide_eq_false (by omega)
  have s2 : SrtO.Stb (ltV k) (sortK (fun v => (k v).1) xs) xs := by
    refine ⟨sortK_perm _ _, fun x => ?_⟩
    have e : SrtO.eqv (ltV k) x = fun y => (k y).1 == (k x).1 := funext fun y => by
      unfold SrtO.eqv
      by_cases h : (k y).1 = (k x).1
      · simp [h]
      · have : (k x).1 < (k y).1 ∨ (k y).1 < (k x).1 := by omega
        have hb : ((k y).1 == (k x).1) = false := beq_eq_false_iff_ne.mpr h
        rcases this with z | z
        · have e1 : ltV k x y = true := decide_eq_true z
          show (!ltV k x y && !ltV k y x) = ((k y).1 == (k x).1)
          rw [e1, hb]
          rfl
        · have e1 : ltV k y x = true := decide_eq_true z
          show (!ltV k x y && !ltV k y x) = ((k y).1 == (k x).1)
          rw [e1, hb, Bool.not_true, Bool.and_false]
    rw [e]
    exact sortK_filter (fun v => (k v).1) _ xs
  refine SrtO.stb_uniq (ltV_swo k) h1 s1 ⟨h2.perm.trans s2.perm.symm, fun x => (h2.cls x).trans (s2.cls x).symm⟩
def rSortP (K : PySem.W.Frag) : List V → Hp → VK → Prop := fun vs H Q => ∃ (a : Addr) (ps : List (V × Int × Int × Int)), vs = [V.ref a] ∧ SqL K H a (ps.map (·.1)) ∧ (∀ p ∈ ps, ∃ t b, p.1 = V.ref t ∧ SqT K H t [.int p.2.1, .ref b] ∧ SqT K H b [.int p.2.2.1, .int p.2.2.2]) ∧
  (∀ p ∈ ps, ∀ q ∈ ps, p.2.1 = q.2.1 → p.2.2 = q.2.2) ∧ ∀ p, H p = none → Q (.ref p) (upd H p (.lst ((sortK (fun p => p.2.1) ps).map (·.1))))
theorem cr_sortP {X : Cx} (hu : X.A.in1.in1.units < cLine) : CallR X (.builtin "sorted") (rSortP X.K) := by
  intro pins s σ H vs us Q I r h
  obtain ⟨a, ps, rfl, hs, hx, hq, q⟩ := h
  open Classical in
  let k : V → Int × Int × Int := fun v => if h : ∃ p ∈ ps, p.1 = v then h.choose.2 else (0, 0, 0)
  have hk : ∀ p ∈ ps, k p.1 = p.2 := fun p hp => by
    have hh : ∃ p' ∈ ps, p'.1 = p.1 := ⟨p, hp, rfl⟩
    have e : k p.1 = hh.choose.2 := dif_pos hh
    obtain ⟨m1, m2⟩ := hh.choose_spec
    rw [e]
    generalize hh.choose = p' at m1 m2
    obtain ⟨t, b, e1, h1, h2⟩ := hx p hp
    obtain ⟨t', b', e1', h1', h2'⟩ := hx p' m1
    rw [m2, e1] at e1'
    cases e1'
    have z := I.tuple_inj h1 h1'
    simp only [List.cons.injEq, V.int.injEq, V.ref.injEq, and_true] at z
    obtain ⟨z1, z2⟩ := z
    subst z2
    have y := I.tuple_inj h2 h2'
    simp only [List.cons.injEq, V.int.injEq, and_true] at y
    exact Prod.ext z1.symm (Prod.ext y.1.symm y.2.symm)
  refine cr_sortK hu pins s σ H _ us Q I r ⟨a, ps.map (·.1), k, rfl, hs, fun x hm => ?_, fun x hm y hm' e => ?_, fun ys p h1 h2 hp => ?_⟩
  · obtain ⟨p, hp, rfl⟩ := List.mem_map.mp hm
    obtain ⟨t, b, e, h1, h2⟩ := hx p hp
    rw [hk p hp]
    exact ⟨t, b, e, h1, h2⟩
  · obtain ⟨p, hp, rfl⟩ := List.mem_map.mp hm
    obtain ⟨p', hp', rfl⟩ := List.mem_map.mp hm'
    rw [hk p hp, hk p' hp'] at e ⊢
    exact hq p hp p' hp' e
  · have e : ys = (sortK (fun p => p.2.1) ps).map (·.1) := by
      rw [sortK_uniq h1 h2, ← sortK_map (fun v => (k v).1) (fun p : V × Int × Int × Int => p.1) ps]
      exact congrArg _ (sortK_congr fun p hp => by rw [hk p hp])
    rw [e]
    exact q p hp
theorem cd_sorted : CbD K (rSortP K) cbSorted := fun H Hs xs ds res s h e Q k => by
  unfold cbSorted at e
  split at e
  case h_2 => cases e
  rename_i d
  split at e
  case h_2 => cases e
  rename_i es hes
  split at e
  case h_2 => cases e
  rename_i l hl
  split at e
  case isFalse => cases e
  rename_i hok
  cases e
  have hsq : ∃ a vs, xs = [V.ref a] ∧ SqL K Hs a vs ∧ DRs K Hs vs es := by
    cases h with
    | cons a b =>
      cases b
      unfold cbSorted.seqL at hes
      split at hes
      · cases hes
        cases a with
        | lst h1 d1 => exact ⟨_, _, rfl, SqL.of h1, d1⟩
      · cases hes
        cases a with
        | frz h1 d1 => exact ⟨_, _, rfl, h1, d1⟩
      · cases hes
  obtain ⟨a, vs, rfl, hq, hd⟩ := hsq
  obtain ⟨z1, z2⟩ := hd.zips
  have hm : ∀ p ∈ vs.zip es, ∃ c ∈ l, kpD p.2 = some c := fun p hp => kpDs_mem hl _ (by rw [← z2]; exact List.mem_map.mpr ⟨p, hp, rfl⟩)
  let g : V × D → V × Int × Int × Int := fun p => (p.1, (kpD p.2).getD (0, 0, 0))
  have eg : ∀ p, (g p).1 = p.1 := fun _ => rfl
  have hg : ∀ p ∈ vs.zip es, ∃ c ∈ l, kpD p.2 = some c ∧ (g p).2 = c := fun p hp => by
    obtain ⟨c, c1, c2⟩ := hm p hp
    exact ⟨c, c1, c2, by show (kpD p.2).getD _ = c; rw [c2]; rfl⟩
  refine ⟨a, (vs.zip es).map g, rfl, ?_, fun p hp => ?_, fun p hp p' hp' ee => ?_, fun p hp => ?_⟩
  · have : ((vs.zip es).map g).map (·.1) = vs := by
      rw [List.map_map]
      exact z1
    rw [this]
    exact same_lst s hq
  · obtain ⟨p0, hp0, rfl⟩ := List.mem_map.mp hp
    obtain ⟨c, c1, c2, c3⟩ := hg p0 hp0
    obtain ⟨t, b, e1, h1, h2⟩ := key_of (zip_drs hd p0 hp0) c2
    rw [c3]
    exact ⟨t, b, e1, same_tup s h1, same_tup s h2⟩
  · obtain ⟨p0, hp0, rfl⟩ := List.mem_map.mp hp
    obtain ⟨p1, hp1, rfl⟩ := List.mem_map.mp hp'
    obtain ⟨c, c1, c2, c3⟩ := hg p0 hp0
    obtain ⟨c', c1', c2', c3'⟩ := hg p1 hp1
    rw [c3, c3'] at ee ⊢
    exact okKP_ok hok c c1 c' c1' ee
  · have e1 : (sortK (fun p : V × Int × Int × Int => p.2.1) ((vs.zip es).map g)).map (·.1) = (sortK (fun p : V × D => keyD p.2) (vs.zip es)).map (·.1) := by
      rw [← sortK_map (fun p : V × Int × Int × Int => p.2.1) g (vs.zip es), List.map_map]
      rw [show ((fun x : V × Int × Int × Int => x.1) ∘ g) = (fun p : V × D => p.1) from rfl]
      refine congrArg _ (sortK_congr fun p hp => ?_)
      obtain ⟨c, c1, c2, c3⟩ := hg p hp
      rw [c3, kpD_key c2]
    have e2 : (sortK (fun p : V × D => keyD p.2) (vs.zip es)).map (·.2) = sortK keyD es := by
      rw [sortK_map keyD (fun p : V × D => p.2) (vs.zip es), z2]
    have hdr : DRs K Hs ((sortK (fun p : V × D => keyD p.2) (vs.zip es)).map (·.1)) (sortK keyD es) := by
      rw [← e2]
      exact drs_of fun p hp => zip_drs hd p ((sortK_perm _ _).mem_iff.mp hp)
    rw [e1]
    exact k _ _ Hs (Ext.hid s hp) ⟨p, _, rfl, hp, upd_same, none_sub s hp, _, rfl, hdr⟩
end
end Bk
namespace Bk
open PySem L2
/-- a method of the text -/
structure FnM (K : PySem.W.Frag) (C : Addr) (x qual : PySem.Str) (st : Stmt) where
  f : Addr
  fd : FuncData
  F : Fun K x qual st f fd
  m : Meth K C x f
/-- a method of the text with defaults -/
structure FnMD (K : PySem.W.Frag) (C : Addr) (x qual : PySem.Str) (st : Stmt) (dds : List D) where
  f : Addr
  fd : FuncData
  dvs : List V
  F : FunD K x qual (defArgs st) (defBody st) (defScope st) dvs [] f fd
  m : Meth K C x f
  d : ∀ H, DRs K H dvs dds
section
variable {P : Program} {w : World} {K : PySem.W.Frag} {mg : PySem.Str → Option Value} {base : Heap}
theorem data_BD {x qual : PySem.Str} {st : Stmt} {f : Addr} {fd : FuncData} {dvs : List V} {N ps : List PySem.Str} {k : Nat} {b : MS} (F : FunD K x qual (defArgs st) (defBody st) (defScope st) dvs [] f fd) (S : FnScope N ps (defScope st))
    (hb : ∀ (cdv : Value) (A : Around) (outer : List Env) (s : Shared) (H : Hp) (E : XK), Room k (A.deeper (PyProof.Rows.envOfC qual (defScope st) s.heap.objs.size f cdv)) →
      ∃ t, PSs (cxOf CX0 P w K mg base N qual (defScope st) f cdv A outer s H E).nox (defBody st) t ∧ SOk K t b) : FnOk P w K mg base CX0 (k + 1) f fd ps (spB K (runB ps.length N.length b)) :=
  F.ok S (fun vs H Q E q => spB_len q) fun cdv A outer s H vs Q E hr q => by
    obtain ⟨t, h1, h2⟩ := hb cdv A outer s H E hr
    exact ⟨t, PSs.nox h1, fin_B h2 (scope_le S) q⟩
end
section
variable {K : PySem.W.Frag} {mg : PySem.Str → Option Value}
theorem drs_drop {H : Hp} {vs : List V} {ds : List D} (h : DRs K H vs ds) (n : Nat) : DRs K H (vs.drop n) (ds.drop n) := h.drop n
variable {X : Cx} (hK : X.K = K)
include hK
theorem kop_addB : OpR X (binaryOp .Add) (rAddB K) := hK ▸ op_addB
theorem ksl_B : SlR X (rSlB K) := hK ▸ sl_B
theorem kpa_star {e : Expr} {es : List Expr} {te : TE} {t : TA} {p : Pos} (he : PE X e te) (hr : PA X es t) (hs : starEach (.Starred e p :: es) X.env = (true, eval e X.env) :: starEach es X.env := by rfl) : PA X (.Starred e p :: es) (StX.tStar K te t) := hK ▸ StX.pa_star he hr hs
theorem kpe_fld {e : Expr} {f : PySem.Str} {pos : Pos} {ta : TE} (he : PE X e ta) (hb : attributeBase e f X.env (eval e X.env) = eval e X.env) : PE X (.Attribute e f pos) (tFld K ta f) := hK ▸ pe_fld he hb
theorem kps_fld {o value : Expr} {f : PySem.Str} {pos pos' : Pos} {ta tv : TE} (ha : PE X o ta) (hv : PE X value tv) (hs : swapsWith value (some (.Attribute o f pos')) pos.line X.env = pure false) : PS X (.Assign [.Attribute o f pos'] value pos) (sFld K ta tv f) := hK ▸ ps_fld ha hv hs
theorem kpg_fld {o : Expr} {f : PySem.Str} {pos : Pos} {ta : TE} (ho : PE X o ta) : PG X (.Attribute o f pos) (gFld K ta f) := hK ▸ pg_fld ho
theorem kcr_isiS : CallR X (.builtin "isinstance") (rIsiS K) := hK ▸ cr_isiS
theorem kcr_sorted (hu : X.A.in1.in1.units < cLine) : CallR X (.builtin "sorted") (rSortP K) := hK ▸ cr_sortP hu
theorem kpe_bm {o e : Expr} {es : List Expr} {to : TE} {t : TA} {name : PySem.Str} {apos cpos : Pos} {T id : String} {r : V → List V → Hp → VK → Prop} (pa : PlainAttrs T) (slot : Slot T name id) (hty : typeOf (.builtin id) = pure (.type "method_descriptor")) (hm : MtR X id r) (ho : PE X o to) (ha : PA X (e :: es) t)
    (hbase : attributeBase o name X.env (eval o X.env) = eval o X.env := by rfl)
    (hfew : ((backTo cpos (starEach (e :: es) X.env)).all (fun x => !x.1) && (backToKw cpos (keywordEach [] X.env)).all (fun x => x.1.isSome) && decide ((e :: es).length + ([] : List Keyword).length + (if ([] : List Keyword).isEmpty then 0 else 1) < 30)) = true := by rfl)
    (hline : (apos.endLine == cpos.line) = true := by rfl) (hs : starEach (e :: es) X.env = (false, eval e X.env) :: starEach es X.env := by rfl) (hplain : (backTo cpos (starEach es X.env)).any (·.1) = false := by rfl) :
    PE X (.Call (.Attribute o name apos) (e :: es) [] cpos) (tBM K T r to t) := hK ▸ pe_bm pa slot hty hm ho ha hbase hfew hline hs hplain
end
theorem room_u2 {k : Nat} {A : Around} (hr : Room k A) : A.in1.in1.units < cLine := by
  have := hr.units
  show A.units + 1 + 1 < cLine
  omega
end Bk
namespace Bk
open PySem L2
section
variable {K : PySem.W.Frag} {C : Addr}
theorem na_list1 {a : PySem.Str} (h1 : NoAttr K C a) : ∀ f ∈ [a], NoAttr K C f := fun f h => by
  rw [List.mem_singleton] at h
  rw [h]
  exact h1
theorem na_cons {a : PySem.Str} {l : List PySem.Str} (h1 : NoAttr K C a) (h : ∀ f ∈ l, NoAttr K C f) : ∀ f ∈ a :: l, NoAttr K C f := fun f hf => by
  rcases List.mem_cons.mp hf with z | z
  · rw [z]; exact h1
  · exact h f z
theorem na_list2 {a b : PySem.Str} (h1 : NoAttr K C a) (h2 : NoAttr K C b) : ∀ f ∈ [a, b], NoAttr K C f := na_cons h1 (na_list1 h2)
theorem na_list3 {a b c : PySem.Str} (h1 : NoAttr K C a) (h2 : NoAttr K C b) (h3 : NoAttr K C c) : ∀ f ∈ [a, b, c], NoAttr K C f := na_cons h1 (na_list2 h2 h3)
theorem na_list4 {a b c d : PySem.Str} (h1 : NoAttr K C a) (h2 : NoAttr K C b) (h3 : NoAttr K C c) (h4 : NoAttr K C d) : ∀ f ∈ [a, b, c, d], NoAttr K C f := na_cons h1 (na_list3 h2 h3 h4)
theorem na_list5 {a b c d e : PySem.Str} (h1 : NoAttr K C a) (h2 : NoAttr K C b) (h3 : NoAttr K C c) (h4 : NoAttr K C d) (h5 : NoAttr K C e) : ∀ f ∈ [a, b, c, d, e], NoAttr K C f := na_cons h1 (na_list4 h2 h3 h4 h5)
theorem na_list6 {a b c d e g : PySem.Str} (h1 : NoAttr K C a) (h2 : NoAttr K C b) (h3 : NoAttr K C c) (h4 : NoAttr K C d) (h5 : NoAttr K C e) (h6 : NoAttr K C g) : ∀ f ∈ [a, b, c, d, e, g], NoAttr K C f := na_cons h1 (na_list5 h2 h3 h4 h5 h6)
theorem vne {vs : List V} {d : D} {ds ds' : List D} (h : ∀ H, DRs K H vs ds) (e : ds = d :: ds') : vs ≠ [] := fun z => by
  have z2 := (h fun _ => none).len
  rw [z, e] at z2
  cases z2
end
end Bk
namespace Bk
open PySem L2
section
variable {K : PySem.W.Frag}
/-- the list behind slot i is laid aside -/
theorem Rel.aside {Fz : Hp} {ba : Nat → Addr} {G : Gam} {σ : L2.St} {H Hs : Hp} (q : Rel K Fz ba G σ H Hs) {i : Nat} {e : Ent} {ds : List D} (h : G[i]? = some e) (h0 : e.mu = some (.l ds)) :
    ∃ l vs, σ[i]? = some (some (.ref l)) ∧ H l = some (.lst vs) ∧ Hs l = none ∧ Fz l = none ∧ DRs K Hs vs ds ∧ (∀ m, e = .bx m → ba i = l) ∧ Rel K (upd Fz l (.lst vs)) ba (G.set i .un) σ H Hs := by
  obtain ⟨l, o, a1, a2, a3, a4, vs, rfl, a5⟩ := q.mu i e (.l ds) h h0
  refine ⟨l, vs, a1, a2, a3, a4, a5, fun m hm => ?_, ⟨q.sub, fun a u z => ?_, by rw [List.length_set]; exact q.len, fun j d hj => ?_, fun j e' m hj hm => ?_, fun j k e1 e2 x h1 h2 m1 m2 t1 t2 => ?_, fun j m hj => ?_⟩⟩
  · subst hm
    have := q.bx i m h
    rw [a1] at this
    cases this
    rfl
  · by_cases zz : a = l
    · subst zz
      rw [upd_same] at z
      cases z
      exact ⟨a2, a3⟩
    · rw [upd_ne zz] at z
      exact q.fz a u z
  · rcases get_set hj with ⟨_, z, _⟩ | ⟨_, z⟩
    · cases z
    · exact q.im j d z
  · rcases get_set hj with ⟨_, z, _⟩ | ⟨ne, z⟩
    · subst z; cases hm
    · obtain ⟨l', o', b1, b2, b3, b4, b5⟩ := q.mu j e' m z hm
      refine ⟨l', o', b1, b2, b3, ?_, b5⟩
      have : l' ≠ l := fun y => by
        subst y
        exact ne (q.dj i j e e' l' h z (by rw [h0]; simp) (by rw [hm]; simp) a1 b1)
      rw [upd_ne this]
      exact b4
  · rcases get_set h1 with ⟨_, z, _⟩ | ⟨_, z1⟩
    · subst z; exact absurd rfl m1
    · rcases get_set h2 with ⟨_, z, _⟩ | ⟨_, z2⟩
      · subst z; exact absurd rfl m2
      · exact q.dj j k e1 e2 x z1 z2 m1 m2 t1 t2
  · rcases get_set hj with ⟨_, z, _⟩ | ⟨_, z⟩
    · cases z
    · exact q.bx j m z
/-- it is taken up again -/
theorem Rel.again {Fz : Hp} {ba : Nat → Addr} {G : Gam} {σ : L2.St} {H Hs : Hp} {l : Addr} {vs : List V} {ds : List D} {i : Nat} {e : Ent} (q : Rel K (upd Fz l (.lst vs)) ba G σ H Hs) (hu : G[i]? = some .un) (h0 : e.mu = some (.l ds)) (hs : σ[i]? = some (some (.ref l))) (hf : Fz l = none) (hd : DRs K Hs vs ds)
    (hb : ∀ m, e = .bx m → ba i = l) : Rel K Fz ba (G.set i e) σ H Hs := by
  obtain ⟨f1, f2⟩ := q.fz l _ upd_same
  have old : ∀ (j : Nat) (e' : Ent) (m : Mob), G[j]? = some e' → e'.mu = some m → ∃ l' o, σ[j]? = some (some (.ref l')) ∧ H l' = some o ∧ Hs l' = none ∧ Fz l' = none ∧ MobO K Hs m o ∧ l' ≠ l := fun j e' m h1 h2 => by
    obtain ⟨l', o, b1, b2, b3, b4, b5⟩ := q.mu j e' m h1 h2
    have ne : l' ≠ l := fun z => by
      subst z
      rw [upd_same] at b4
      cases b4
    rw [upd_ne ne] at b4
    exact ⟨l', o, b1, b2, b3, b4, b5, ne⟩
  have mm : ∀ {e' : Ent}, e'.mu ≠ none → ∃ m, e'.mu = some m := fun {e'} h => by
    cases y : e'.mu with
    | none => exact absurd y h
    | some m => exact ⟨m, rfl⟩
  refine ⟨q.sub, fun a u z => ?_, by rw [List.length_set]; exact q.len, fun j d hj => ?_, fun j e' m hj hm => ?_, fun j k e1 e2 x h1 h2 m1 m2 t1 t2 => ?_, fun j m hj => ?_⟩
  · exact q.fz a u (by rw [upd_ne (ne_of_none z hf)]; exact z)
  · rcases get_set hj with ⟨_, z, _⟩ | ⟨_, z⟩
    · subst z; cases h0
    · exact q.im j d z
  · rcases get_set hj with ⟨y, z, _⟩ | ⟨_, z⟩
    · subst y
      subst z
      rw [h0] at hm
      cases hm
      exact ⟨l, _, hs, f1, f2, hf, vs, rfl, hd⟩
    · obtain ⟨l', o, b1, b2, b3, b4, b5, _⟩ := old j e' m z hm
      exact ⟨l', o, b1, b2, b3, b4, b5⟩
  · rcases get_set h1 with ⟨y1, z1, _⟩ | ⟨y1, z1⟩
    · rcases get_set h2 with ⟨y2, z2, _⟩ | ⟨y2, z2⟩
      · exact y1.symm.trans y2
      · exfalso
        obtain ⟨m, hm⟩ := mm m2
        obtain ⟨l', o, b1, _, _, _, _, ne⟩ := old k e2 m z2 hm
        rw [← y1, hs] at t1
        rw [t2] at b1
        cases t1
        cases b1
        exact ne rfl
    · rcases get_set h2 with ⟨y2, z2, _⟩ | ⟨y2, z2⟩
      · exfalso
        obtain ⟨m, hm⟩ := mm m1
        obtain ⟨l', o, b1, _, _, _, _, ne⟩ := old j e1 m z1 hm
        rw [← y2, hs] at t2
        rw [t1] at b1
        cases t2
        cases b1
        exact ne rfl
      · exact q.dj j k e1 e2 x z1 z2 m1 m2 t1 t2
  · rcases get_set hj with ⟨y, z, _⟩ | ⟨_, z⟩
    · subst y
      rw [hb m z.symm]
      exact hs
    · exact q.bx j m z
def isUn (G : Gam) (i : Nat) : Bool := match G[i]? with
  | some .un => true
  | _ => false
theorem isUn_ok {G : Gam} {i : Nat} (h : isUn G i = true) : G[i]? = some .un := by
  unfold isUn at h
  split at h
  · assumption
  · cases h
def xlcv (i : Nat) (tg : D → Gam → Option Gam) (t : M Bool) (e : M R) (vs : List Nat) : M R := fun G => match G[i]? with
  | some en => match en.mu with
    | some (.l ds) => if noMu (G.set i .un) vs then bd (xlcL tg t e vs ds (wipeG (G.set i .un) vs)) fun out G2 => if few out.length && isUn (unw (G.set i .un) G2 vs) i then some (.ol out, (unw (G.set i .un) G2 vs).set i en) else none else none
    | _ => none
  | none => none
theorem gk_lcv {g : TG} {t : TT} {te : TE} {i : Nat} {tg : D → Gam → Option Gam} {js vs : List Nat} {c : M Bool} {a : M R} (hg : GtOk K g tg js) (hc : TOk K t c) (ha : GOk K te a) (hj : ∀ j ∈ js, j ∈ vs) :
    GOk K (tLc (iSeq K (tVar i)) g t te vs) (xlcv i tg c a vs) := fun Fz ba G σ H Hs res G' q e Q k => by
  unfold xlcv at e
  split at e
  case h_2 => cases e
  rename_i en hen
  split at e
  case h_2 => cases e
  rename_i ds hmu
  split at e
  case isFalse => cases e
  rename_i nm
  obtain ⟨out, G2, e2, e⟩ := bd_inv e
  split at e
  case isFalse => cases e
  rename_i hf
  rw [Bool.and_eq_true] at hf
  obtain ⟨hf, hun⟩ := hf
  have hun := isUn_ok hun
  cases e
  obtain ⟨l, lvs, a1, a2, a3, a4, a5, a6, q1⟩ := q.aside hen hmu
  generalize hFz : upd Fz l (.lst lvs) = Fz1 at q1
  have hFl : Fz1 l = some (.lst lvs) := by rw [← hFz]; exact upd_same
  generalize hG1 : G.set i .un = G1 at *
  refine ⟨_, a1, l, rfl, .inl ⟨⟨lvs, SqL.of a2⟩, fun p hp => ?_⟩⟩
  have hfp : Fz1 p = none := by
    cases z : Fz1 p with
    | none => rfl
    | some o =>
      obtain ⟨z1, _⟩ := q1.fz p o z
      rw [hp] at z1
      cases z1
  have hlp : l ≠ p := ne_of_none a2 hp
  have q1w := (q1.wiped vs).hide (o := .lst []) hp
  have atl : ∀ {G3 σ3 H3 Hs3 acc}, Rel K (upd Fz1 p (.lst acc)) ba G3 σ3 H3 Hs3 → H3 l = some (.lst lvs) := fun {G3 σ3 H3 Hs3 acc} z => (z.fz l _ (by rw [upd_ne hlp]; exact hFl)).1
  refine ⟨fun i m H2 => m = ds.length - i ∧ i ≤ ds.length ∧ ∃ G3 Hs3 acc ad more, Rel K (upd Fz1 p (.lst acc)) ba G3 (wipe σ vs) H2 Hs3 ∧ Same Hs Hs3 ∧ DRs K Hs3 acc ad ∧ xlcL tg c a vs (ds.drop i) G3 = some (more, G2) ∧ ad ++ more = out,
    ⟨ds.length, rfl, Nat.zero_le _, wipeG G1 vs, Hs, [], [], out, q1w, Same.refl _, .nil, e2, rfl⟩, ?_⟩
  rintro n m H2 ⟨rfl, hi2, G3, Hs3, acc, ad, more, q3, s3, da, e3, eo⟩
  have hll := atl q3
  by_cases hlt : n < ds.length
  · refine .inr ⟨⟨lvs, lvs[n]'(by rw [a5.len]; exact hlt), SqL.of hll, by simp⟩, fun H' => n + 1 ≤ ds.length ∧ ∃ G4 Hs4 acc ad more, Rel K (upd Fz1 p (.lst acc)) ba G4 (wipe σ vs) H' Hs4 ∧ Same Hs Hs4 ∧ DRs K Hs4 acc ad ∧ xlcL tg c a vs (ds.drop (n + 1)) G4 = some (more, G2) ∧ ad ++ more = out,
      fun H' ⟨z, z2⟩ => ⟨ds.length - (n + 1), by omega, rfl, z, z2⟩, fun x H' y => ?_⟩
    obtain ⟨rfl, y⟩ := y
    obtain ⟨d, d1, dr⟩ := a5.ta (y lvs (SqL.of hll))
    have dr := dr.mono s3
    have q4 := q3
    have ed : ds.drop n = d :: ds.drop (n + 1) := by
      rw [List.drop_eq_getElem_cons hlt]
      rw [List.getElem?_eq_getElem hlt] at d1
      cases d1
      rfl
    rw [ed] at e3
    unfold xlcL at e3
    cases hG : tg d G3 with
    | none => rw [hG] at e3; cases e3
    | some G4 =>
      rw [hG] at e3
      refine hg.run _ ba G3 _ H' Hs3 x d G4 q4 dr hG _ fun σ5 q5 l5 k5 => ?_
      have hlen : σ5.length = σ.length := by rw [l5, wipe_length]
      have hw : wipe σ5 vs = wipe σ vs := by
        have z := wipe_eq (σ := wipe σ vs) (τ := σ5) (vs := vs) (by rw [wipe_length]; exact hlen) fun j hj' => k5 j fun z => hj' (hj j z)
        rw [z]
        exact wipe_eq (wipe_length σ vs) fun j hj' => wipe_get hj'
      refine ⟨hw, ?_⟩
      obtain ⟨b, G5, e5, e6⟩ := bd_inv e3
      refine hc _ ba G4 σ5 H' Hs3 b G5 q5 e5 _ fun H5 Hs5 q6 s6 => ?_
      cases b with
      | true =>
        obtain ⟨r, G6, e7, e8⟩ := bd_inv (show bd (a G5) _ = _ from e6)
        obtain ⟨out2, G7, e9, e10⟩ := bd_inv e8
        cases e10
        rw [if_pos rfl]
        refine ha.im q6 e7 fun v H6 Hs6 q7 s7 d7 => ?_
        obtain ⟨f1, f2⟩ := q7.fz p _ upd_same
        have q8 := (q7.rehide (o' := .lst (acc ++ [v]))).wiped vs
        rw [hw] at q8
        refine ⟨acc, f1, ?_, hlt, _, Hs6, _, ad ++ [r.d], out2, q8, (s3.trans s6).trans s7, (da.mono (s6.trans s7)).app (.cons d7 .nil), e9, ?_⟩
        · have z1 := da.len
          have z2 : ad.length ≤ out.length := by rw [← eo, List.length_append]; omega
          exact Nat.lt_of_le_of_lt (by omega) (few_lt hf)
        · rw [List.append_assoc]
          exact eo
      | false =>
        rw [if_neg Bool.false_ne_true] at e6 ⊢
        have q8 := q6.wiped vs
        rw [hw] at q8
        exact ⟨hlt, _, Hs5, acc, ad, more, q8, s3.trans s6, da.mono s6, e6, eo⟩
  · have hend : ds.length ≤ n := by omega
    rw [List.drop_eq_nil_of_le hend] at e3
    cases e3
    rw [List.append_nil] at eo
    subst eo
    obtain ⟨f1, f2⟩ := q3.fz p _ upd_same
    have q9 := q1.unwipe (q3.unhide hfp) s3 nm
    have q9' : Rel K (upd Fz l (.lst lvs)) ba (unw G1 G2 vs) σ H2 Hs3 := by rw [hFz]; exact q9
    have q10 := q9'.again hun hmu a1 a4 (a5.mono s3) a6
    have hfp0 : Fz p = none := by
      rw [← hFz, upd_ne (Ne.symm hlp)] at hfp
      exact hfp
    refine .inl ⟨⟨lvs, SqL.of hll, by rw [a5.len]; exact hend⟩, k _ H2 Hs3 q10 s3 ⟨p, _, rfl, f1, f2, hfp0, ⟨acc, rfl, da⟩, fun j e' g m z => ?_⟩⟩
    rcases get_set g with ⟨y1, z1, _⟩ | ⟨y1, g⟩
    · rw [← y1, a1] at z
      cases z
      exact hlp rfl
    · by_cases hjv : j ∈ vs
      · have z1 := q1.len
        have z2 := q3.len
        rw [wipe_length, z1] at z2
        rw [unw_in (G1 := G1) z2.symm hjv] at g
        exact m (noMu_ok nm hjv g)
      · rw [unw_out hjv] at g
        obtain ⟨ds', hd'⟩ : ∃ ds', e'.mu = some ds' := by
          cases y : e'.mu with
          | none => exact absurd y m
          | some ds' => exact ⟨ds', rfl⟩
        obtain ⟨l', ws, b1, b2, b3, b4, b5⟩ := q3.mu j e' ds' g hd'
        rw [wipe_get hjv, z] at b1
        cases b1
        rw [upd_same] at b4
        cases b4
end
end Bk
namespace Bk
open PySem PySem.Spec PyProof.Rows L2
abbrev freshSet (w : World) : Obj := { cls := .type "set", dict := none, data := .set #[] 0 (.fresh 0 0 (!w.params.followText "set-order")) }
section
variable {P : Program} {w : World} {A : Around} {E : Value → Shared → Prop} {s : Shared}
theorem ints_get {its : Array Value} {ns : List Int} (hi : IntsAre its.toList ns) (hz : its.size = ns.length) (j : Nat) (u : Value) (hu : its[j]? = some u) : ∃ z t, ns[j]? = some z ∧ u = .int z t := by
  have hj : j < ns.length := hz ▸ (Array.getElem?_eq_some_iff.mp hu).1
  obtain ⟨t, et⟩ := IntsAre.int_at hi j u (by rw [Array.getElem?_toList, hu])
  refine ⟨_, t, List.getElem?_eq_getElem hj, et.trans ?_⟩
  rw [List.getD_eq_getElem?_getD, List.getElem?_eq_getElem hj]
  rfl
def SetPost (w : World) (s : Shared) (ns : List Int) (v : Value) (t : Shared) : Prop := v = .none ∧ ∃ (hp : Heap) (tk c : Nat), t = { s with heap := hp, toks := tk } ∧ SetR w hp s.heap.objs.size (fun j => decide (j ∈ ns)) c ∧ c ≤ ns.length ∧ ∀ b o, s.heap.get? b = some o → hp.get? b = some o
theorem set_of_list {l : Addr} {its : Array Value} (ns : List Int) {Q : Value → Shared → Prop} (hh : A.handled = none) (hl : s.heap.IsList l its) (hi : IntsAre its.toList ns) (hb : ns.length + 1 < scanBound)
    (fin : ∀ (hp : Heap) (tk c : Nat), SetR w hp s.heap.objs.size (fun j => decide (j ∈ ns)) c → c ≤ ns.length → (∀ b o, s.heap.get? b = some o → hp.get? b = some o) → Q (.ref s.heap.objs.size) { s with heap := hp, toks := tk }) :
    wpAny (model P w) A (call (.type "set") [.ref l]) Q E s := by
  have hz : its.size = ns.length := by
    have := IntsAre.length hi
    rwa [Array.length_toList] at this
  obtain ⟨mc, mt, mro⟩ := F.called_set.mro
  have made := F.called_set.made
  have sub0 := F.called_set.sub
  have nt := F.called_set.notType
  have cc := F.called_set.canCreate
  have tc := F.typeCall_set_1 (.ref l)
  refine wpAny_call (codeAny_of_tree ?_)
  show wpAny _ _ (callAny (.type "set") _) _ _ _
  refine wpAny_pure ⟨Code.quiet_builtin _ (by decide +kernel), ?_⟩
  refine codeAny_builtin F.entry_type_call ?_
  rw [Around.under_plain (weight_type_call_type "set" [.ref l] []) rfl]
  repeat (any_goals (first | assumption | wp_step))
  refine codeAny_mono (code_set_led1 (.ref l) (E := E) (Q₁ := fun v t => v = .ref s.heap.objs.size ∧ t = { s with heap := s.heap.push (freshSet w) }) ⟨rfl, rfl⟩) fun res t hres => ?_
  match res, hres with
  | .error _, hres => exact hres
  | .ok (.ret v), hres =>
    obtain ⟨ev, et⟩ := hres
    subst ev
    subst et
    have new : (s.heap.push (freshSet w)).get? s.heap.objs.size = some (freshSet w) := Heap.get?_push_size _ rfl
    have isS : Shared.TypeIs { s with heap := s.heap.push (freshSet w) } (.ref s.heap.objs.size) "set" := ⟨_, new, rfl⟩
    have il := F.called_set.init.lookup
    have ib := F.called_set.init.bind (.ref s.heap.objs.size)
    repeat (any_goals (first | assumption | wp_step))
    refine codeAny_mono (codeAny_call_builtin (R := wants (SetPost w s ns) E) F.called_set.init.plain F.entry_set_init (check_set_init_1 isS ?_)) fun res2 t2 hres2 => ?_
    · have hl0 := hl
      obtain ⟨ol, gl, cl, nl, dl⟩ := hl
      have gl1 : (s.heap.push (freshSet w)).get? l = some ol := Heap.get?_push_of_some _ gl
      obtain ⟨oc, oo, od, os⟩ := ol
      simp only at cl dl
      subst cl
      subst dl
      have s1 := F.sub_list_set
      have s2 := F.sub_list_frozenset
      have ndict : (Value.type "list" == Value.type "dict") = false := by decide
      have hl1 : (s.heap.push (freshSet w)).IsList l its := hl0.push _
      unfold Builtin.«set.__init__» noKeywords Builtin.Frozenset.updateFrom
      generalize hPI : pyIter = PI
      wp_walk
      subst hPI
      refine wpAny_pyIter_list hl1 (wpAny_bind (wpAny_runValue ?_))
      have lt1 : l < s.heap.objs.size := Heap.lt_size gl
      have h3 : A.in1.in1.in1.handled = none := by simp [hh]
      have zz : (s.heap.push (freshSet w)).objs.size = s.heap.objs.size + 1 := Heap.size_push ..
      have nI : l ≠ (s.heap.push (freshSet w)).objs.size := by
        rw [Heap.size_push]
        exact Nat.ne_of_lt (Nat.lt_succ_of_lt lt1)
      have nS : s.heap.objs.size ∉ [(s.heap.push (freshSet w)).objs.size, l] := by
        simp only [List.mem_cons, List.not_mem_nil, or_false, not_or, Heap.size_push]
        exact ⟨Nat.ne_of_lt (Nat.lt_succ_self _), Nat.ne_of_gt lt1⟩
      refine set_update_ints ((Walks.list h3 _ l nI its).toS) s.heap.objs.size nS ns hz hb (ints_get hi hz) (its.size - 0) 0 _ (by omega) (by omega) ⟨⟨_, Heap.get?_push_size _ rfl, rfl, rfl⟩, hl1.push _⟩ ⟨0, Nat.le_refl 0, setR_new_at (Heap.get?_push_of_some _ new)⟩ ?_
      intro t3 c mv hc R3
      obtain ⟨hp, gg, dr, tk, oz⟩ := t3
      have q1 : gg = s.gens := mv.gens
      have q2 : dr = s.drawn := mv.drawn
      have q3 : oz = s.os := mv.os
      subst q1
      subst q2
      subst q3
      show wpAny _ _ _ _ _ _
      refine wpAny_pure ?_
      show wpAny _ _ (ret Value.none) _ _ _
      refine wpAny_pure ⟨rfl, hp, tk, c, rfl, R3, hz ▸ hc, fun b o e => ?_⟩
      have lb : b < s.heap.objs.size := Heap.lt_size e
      refine mv.heap b o ?_ (Heap.get?_push_of_some _ (Heap.get?_push_of_some _ e))
      simp only [List.mem_cons, List.not_mem_nil, or_false, not_or, Heap.size_push]
      exact ⟨Nat.ne_of_lt lb, Nat.ne_of_lt (Nat.lt_succ_of_lt lb)⟩
    · match res2, hres2 with
      | .error _, z => exact z
      | .ok (.ret _), z =>
        obtain ⟨e1, hp, tk, c, e2, e3, e4, e5⟩ := z
        subst e1
        subst e2
        repeat (any_goals (first | assumption | wp_step))
        exact fin _ _ _ e3 e4 e5
end
/-- set(xs), xs a list of ints -/
def rSetInts (K : PySem.W.Frag) (w : World) : List V → Hp → VK → Prop := fun vs H Q => ∃ (a : Addr) (ns : List Int), vs = [V.ref a] ∧ SqL K H a (ns.map V.int) ∧ ns.length < 4000 ∧
  ∀ (p : Addr) (c : Nat), H p = none → c ≤ ns.length → Q (.ref p) (upd H p (SetO w p (fun j => decide (j ∈ ns)) c))
theorem cr_setInts {X : Cx} (hc : X.calm = true) : CallR X (.type "set") (rSetInts X.K X.w) := by
  intro pins s σ H vs us Q I r h
  obtain ⟨a, ns, rfl, hl, hn, q⟩ := h
  obtain ⟨its, rv, pl, _⟩ := I.list hl
  rw [Vals.ref1 r]
  refine set_of_list ns (I.ok.hd hc) pl.isList (by simpa using ints_of_vals rv) (by unfold scanBound; omega) fun hp tk c R3 hc3 kp => ?_
  exact ⟨.ref s.heap.objs.size, upd H s.heap.objs.size (SetO X.w s.heap.objs.size (fun j => decide (j ∈ ns)) c), I.laid (t' := tk) kp (Nat.le_refl _) (setO_new R3), rfl, q _ c (I.hok.fresh (Nat.le_refl _)) hc3⟩
def insI (x : Int) : List Int → List Int
  | [] => [x]
  | y :: r => if x < y then x :: y :: r else if x = y then y :: r else y :: insI x r
def ascI (l : List Int) : List Int := l.foldr insI []
theorem mem_insI {x q : Int} : ∀ {l : List Int}, q ∈ insI x l ↔ q = x ∨ q ∈ l
  | [] => by simp [insI]
  | y :: r => by
    unfold insI
    split
    · simp
    · split
      · rename_i h1 h2
        subst h2
        simp
      · simp only [List.mem_cons, mem_insI]
        constructor
        · rintro (h | h | h) <;> simp [h]
        · rintro (h | h | h) <;> simp [h]
theorem mem_ascI {q : Int} : ∀ {l : List Int}, q ∈ ascI l ↔ q ∈ l
  | [] => by simp [ascI]
  | x :: l => by
    show q ∈ insI x (ascI l) ↔ _
    rw [mem_insI, mem_ascI, List.mem_cons]
theorem insI_sorted {x : Int} : ∀ {l : List Int}, l.Pairwise (· < ·) → (insI x l).Pairwise (· < ·)
  | [], _ => by simp [insI]
  | y :: r, h => by
    have h1 := List.pairwise_cons.mp h
    unfold insI
    split
    · rename_i hx
      refine List.pairwise_cons.mpr ⟨fun z hz => ?_, h⟩
      rcases List.mem_cons.mp hz with rfl | hz
      · exact hx
      · have := h1.1 z hz
        omega
    · split
      · exact h
      · refine List.pairwise_cons.mpr ⟨fun z hz => ?_, insI_sorted h1.2⟩
        rcases mem_insI.mp hz with rfl | hz
        · omega
        · exact h1.1 z hz
theorem ascI_sorted : ∀ l : List Int, (ascI l).Pairwise (· < ·)
  | [] => by simp [ascI]
  | x :: l => insI_sorted (ascI_sorted l)
theorem uniqI : ∀ {a b : List Int}, a.Pairwise (· < ·) → b.Pairwise (· < ·) → (∀ q, q ∈ a ↔ q ∈ b) → a = b
  | [], [], _, _, _ => rfl
  | [], y :: b, _, _, h => absurd ((h y).mpr List.mem_cons_self) (by simp)
  | x :: a, [], _, _, h => absurd ((h x).mp List.mem_cons_self) (by simp)
  | x :: a, y :: b, ha, hb, h => by
    have ha1 := List.pairwise_cons.mp ha
    have hb1 := List.pairwise_cons.mp hb
    have e : x = y := by
      have h1 := (h x).mp List.mem_cons_self
      have h2 := (h y).mpr List.mem_cons_self
      rcases List.mem_cons.mp h1 with e | h1
      · exact e
      · rcases List.mem_cons.mp h2 with e | h2
        · exact e.symm
        · have := hb1.1 x h1
          have := ha1.1 y h2
          omega
    subst e
    refine congrArg (x :: ·) (uniqI ha1.2 hb1.2 fun q => ?_)
    constructor
    · intro hq
      rcases List.mem_cons.mp ((h q).mp (List.mem_cons_of_mem _ hq)) with rfl | h3
      · have := ha1.1 q hq
        omega
      · exact h3
    · intro hq
      rcases List.mem_cons.mp ((h q).mpr (List.mem_cons_of_mem _ hq)) with rfl | h3
      · have := hb1.1 q hq
        omega
      · exact h3
def intsD : List D → Option (List Int)
  | [] => some []
  | .int i :: r => (intsD r).map (i :: ·)
  | _ :: _ => none
/-- sorted(set(x)), x a list of ints, fewer than 64 -/
def cbSortSet (xs : List D) : Option R := match xs with
  | [.lst ds] => match intsD ds with
    | some ns => if ns.length < 64 then some (.ol ((ascI ns).map .int)) else none
    | none => none
  | _ => none
def rSortSet (K : PySem.W.Frag) (w : World) : List V → Hp → VK → Prop := fun vs H Q => rSetInts K w vs H fun v H' => rSortedSet w [v] H' Q
section
variable {K : PySem.W.Frag}
theorem intsD_ok {H : Hp} : ∀ {ds : List D} {vs : List V} {ns : List Int}, DRs K H vs ds → intsD ds = some ns → vs = ns.map V.int
  | [], _, ns, h, e => by
    cases h
    cases e
    rfl
  | d :: ds, _, ns, h, e => by
    cases h with
    | cons a b =>
      cases d with
      | int i =>
        cases a
        unfold intsD at e
        cases z : intsD ds with
        | none => rw [z] at e; cases e
        | some ms =>
          rw [z] at e
          cases e
          rw [intsD_ok b z]
          rfl
      | _ => cases e
theorem drs_ints {H : Hp} : ∀ ns : List Int, DRs K H (ns.map V.int) (ns.map D.int)
  | [] => .nil
  | n :: ns => .cons (.int n) (drs_ints ns)
theorem cd_sortSet {w : World} : CbD K (rSortSet K w) cbSortSet := fun H Hs xs ds res s h e Q k => by
  unfold cbSortSet at e
  split at e
  case h_2 => cases e
  rename_i es
  split at e
  case h_2 => cases e
  rename_i ns hns
  split at e
  case isFalse => cases e
  rename_i h64
  cases e
  cases h with
  | cons a b =>
    cases b
    cases a with
    | lst h1 d1 =>
      rename_i l vs
      have ev := intsD_ok d1 hns
      subst ev
      refine ⟨l, ns, rfl, same_lst s (SqL.of h1), by omega, fun p c hp hc => ?_⟩
      refine ⟨p, _, c, rfl, upd_same, by omega, fun ms p2 m1 m2 m3 hp2 => ?_⟩
      have em : ms = ascI ns := uniqI m1 (ascI_sorted ns) fun q => by
        rw [m2, mem_ascI]
        exact decide_eq_true_iff
      subst em
      have x1 : Ext H Hs (upd H p (SetO w p (fun j => decide (j ∈ ns)) c)) Hs := Ext.hid s hp
      have hn : H p2 = none := by
        cases z : H p2 with
        | none => rfl
        | some u =>
          have := x1.a p2 u z
          rw [hp2] at this
          cases this
      exact k _ _ Hs (x1.trans (Ext.hid x1.c hp2)) ⟨p2, _, rfl, hn, upd_same, none_sub s hn, _, rfl, drs_ints _⟩
theorem gk_sortSet {w : World} {ta : TA} {a : M (List D)} (ha : AOk K ta a) : GOk K (tCB (rSortedSet w) (tCons (tCB (rSetInts K w) ta) tNil)) (xcb cbSortSet a) := by
  have h : GOk K (tCB (rSortSet K w) ta) (xcb cbSortSet a) := gk_cb cd_sortSet ha
  exact h
theorem kcr_setInts {X : Cx} (hK : X.K = K) (hc : X.calm = true) : CallR X (.type "set") (rSetInts K X.w) := hK ▸ cr_setInts hc
end
end Bk
namespace Bk
open PySem L2
def opInB (neg : Bool) (x y : D) : Option R := match opIn neg x y with
  | some r => some r
  | none => match toPy x, toPy y with
    | some p, some (.list ps) => if SeqAt.shaped p && SeqAt.shaped (.list ps) then some (.im (.bl (if neg then !(ps.any fun z => PyData.eqv z p) else ps.any fun z => PyData.eqv z p))) else none
    | _, _ => none
section
variable {K : PySem.W.Frag}
def rInB (K : PySem.W.Frag) (neg : Bool) : R2 := fun x y H Q => rInA K neg x y H Q ∨ (if neg then rNotInD K x y H Q else rInD K x y H Q)
theorem kop_notInB {X : Cx} (hK : X.K = K) (hu : X.A.units + 70 < cLine) : OpR X (compareOp .NotIn) (rInB K true) := hK ▸ (op_notInA.or (op_notInD (by omega)))
theorem od_inB {neg : Bool} : OpD K (rInB K neg) (opInB neg) := fun H Hs x y dx dy res s hx hy e Q k => by
  unfold opInB at e
  split at e
  · rename_i r h
    cases e
    exact .inl (od_in H Hs x y dx dy _ s hx hy h Q k)
  · split at e
    case h_2 => cases e
    rename_i p ps h1 h2
    split at e
    case isFalse => cases e
    rename_i hok
    cases e
    rw [Bool.and_eq_true] at hok
    refine .inr ?_
    cases neg
    · exact ⟨p, ps, dp_mono s hx h1, dp_mono s hy h2, hok.1, hok.2, k _ H Hs (Ext.refl s) (.bl _)⟩
    · exact ⟨p, ps, dp_mono s hx h1, dp_mono s hy h2, hok.1, hok.2, k _ H Hs (Ext.refl s) (.bl _)⟩
end
end Bk
namespace Bk
open PySem L2 PySem.Spec PyProof.Rows HT
section
variable {prog : Program} {w : World} {A : Around} {E : Value → Shared → Prop} {s : Shared}
theorem rng_pick {α : Type} : ∀ r : List α, (List.range r.length).filterMap (fun k => r[k]?) = r
  | [] => rfl
  | a :: r => by
    rw [List.length_cons, List.range_succ_eq_map, List.filterMap_cons, List.filterMap_map]
    show a :: (List.range r.length).filterMap (fun k => r[k]?) = a :: r
    rw [rng_pick r]
theorem pick_rev9 (l : List Value) : ((List.range l.length).filterMap fun (k : Nat) => l.toArray[(((l.length : Int) - 1) + (k : Int) * (-1)).toNat]?) = l.reverse := by
  have e := rng_pick l.reverse
  rw [List.length_reverse] at e
  conv => rhs; rw [← e]
  have key : ∀ m : List Nat, (∀ k ∈ m, k < l.length) → m.filterMap (fun (k : Nat) => l.toArray[(((l.length : Int) - 1) + (k : Int) * (-1)).toNat]?) = m.filterMap fun k => l.reverse[k]? := fun m hm => by
    induction m with
    | nil => rfl
    | cons k m ih =>
      have hk := hm k List.mem_cons_self
      have e1 : l.toArray[(((l.length : Int) - 1) + (k : Int) * (-1)).toNat]? = l.reverse[k]? := by
        rw [List.getElem?_reverse hk, show (((l.length : Int) - 1) + (k : Int) * (-1)).toNat = l.length - 1 - k by omega]
        simp
      rw [List.filterMap_cons, List.filterMap_cons, e1, ih fun j hj => hm j (List.mem_cons_of_mem _ hj)]
  exact key _ fun k hk => List.mem_range.mp hk
theorem sliceApplied_back {sl : Addr} {vl vu vs : Value} {n : Nat} {Q : Int × Int × Nat → Shared → Prop} (hs : s.heap.IsSliceOf sl vl vu vs) (pl : IsPart vl none) (pu : IsPart vu none) (ps : IsPart vs (some (-1)))
    (h : Q ((n : Int) - 1, -1, n) s) : wpAny (model prog w) A (Builtin.Slice.sliceApplied (.ref sl) (pure (n : Int))) Q E s := by
  obtain ⟨os, hos, hcs, hds⟩ := id hs
  unfold Builtin.Slice.sliceApplied Builtin.Slice.sliceFields
  refine wpAny_bind (wpAny_bind (wpAny_field hos hds (x := vl) rfl (wpAny_bind (wpAny_field hos hds (x := vu) rfl (wpAny_bind (wpAny_field hos hds (x := vs) rfl (wpAny_pure ?_)))))))
  refine wpAny_bind (slicePart_ ps ?_)
  show wpAny _ _ (if ((-1 : Int) == 0) = true then _ else _) _ _ s
  rw [if_neg (by decide)]
  refine wpAny_bind (slicePart_ pl (wpAny_bind (slicePart_ pu (wpAny_bind (wpAny_pure ?_)))))
  have e1 : Builtin.Slice.sliceAdjust none none (-1) (n : Int) = ((n : Int) - 1, -1) := rfl
  have e2 : Builtin.Slice.slicePlaces ((n : Int) - 1) (-1) (-1) = n := by
    unfold Builtin.Slice.slicePlaces
    rw [if_neg (by decide)]
    rw [show (- -1 : Int) = 1 from rfl, Int.ediv_one]
    split
    · omega
    · omega
  show wpAny _ _ (match Builtin.Slice.sliceAdjust none none (-1) (n : Int) with | (lo, hi) => pure (lo, (-1 : Int), Builtin.Slice.slicePlaces lo hi (-1))) _ _ s
  rw [e1]
  show wpAny _ _ (pure ((n : Int) - 1, (-1 : Int), Builtin.Slice.slicePlaces ((n : Int) - 1) (-1) (-1))) _ _ s
  rw [e2]
  exact wpAny_pure h
theorem getItem_tuple_back {t sl : Addr} {its : List Value} {vl vu vs : Value} {Q : Value → Shared → Prop} (ht : IsTup s.heap t its.toArray) (hs : s.heap.IsSliceOf sl vl vu vs) (pl : IsPart vl none) (pu : IsPart vu none) (ps : IsPart vs (some (-1)))
    (h : Q (.ref s.heap.objs.size) { s with heap := s.heap.push { cls := .type "tuple", data := .seq its.reverse.toArray } })
    (hz : its.length ≤ sizeLine) : wpAny (model prog w) A (getItem (.ref t) (.ref sl)) Q E s := by
  have fits : sizeOk (.seq its.reverse.toArray) := by
    show its.reverse.toArray.size ≤ sizeLine
    rw [List.size_toArray, List.length_reverse]
    exact hz
  obtain ⟨os, hos, hcs, hds⟩ := id hs
  have hTs : s.TypeIs (.ref sl) "slice" := ⟨os, hos, hcs⟩
  unfold getItem
  try with_reducible refine wpAny_holding ?_
  first | refine wpAny_bind (wpAny_pure ?_) | skip
  refine wpAny_bind (wpAny_sequenceKey ht.typeIs (by decide) ?_)
  refine wpAny_bind (wpAny_callSpecial?_slot (name := Str.ofString "__getitem__") ht.typeIs PyProof.Rows.slot_tuple_getitem (wpAny_call_entry PyProof.Rows.slot_tuple_getitem ht.typeIs entry_tuple_getitem ?_ (args_tuple_getitem _ _)))
  show wpAny _ _ (Builtin.Tuple.tupleItemsOf (.ref t) >>= _) _ _ s
  refine wpAny_bind (tupleItemsOf_ ht ?_)
  refine wpAny_bind (wpAny_typeOf hTs ?_)
  rw [if_pos (by decide)]
  refine wpAny_bind (sliceApplied_back (n := its.toArray.size) hs pl pu ps ?_)
  show wpAny _ _ (if (((its.toArray.size : Int) - 1) == 0 && (-1 : Int) == 1 && its.toArray.size == its.toArray.size) = true then _ else _) _ _ s
  rw [if_neg (by rw [show ((-1 : Int) == 1) = false from rfl, Bool.and_false, Bool.false_and]; decide)]
  have e : ((List.range its.toArray.size).filterMap fun (k : Nat) => its.toArray[(((its.toArray.size : Nat) : Int) - 1 + (k : Int) * (-1)).toNat]?) = its.reverse := by
    rw [List.size_toArray]
    exact pick_rev9 its
  rw [e]
  first
    | exact wpAny_bind (m := Builtin.Tuple.tupleExact _) (wpAny_newObj_type (wpAny_pure ⟨_, rfl, wpAny_pure h⟩) fits)
    | exact wpAny_bind (m := Builtin.Tuple.tupleExact _) (wpAny_newObj_type (wpAny_bind (wpAny_pure (wpAny_pure ⟨_, rfl, wpAny_pure h⟩))) fits)
    | exact wpAny_bind (wpAny_bind (m := Builtin.Tuple.tupleExact _) (wpAny_newObj_type (wpAny_pure (wpAny_pure ⟨_, rfl, wpAny_pure h⟩)) fits))
    | exact wpAny_bind (wpAny_bind (m := Builtin.Tuple.tupleExact _) (wpAny_newObj_type (wpAny_pure ⟨_, rfl, wpAny_pure h⟩) fits))
end
section
variable {X : Cx} {K : PySem.W.Frag}
/-- xs[::k], k reckoned to be -1: a list or a tuple -/
def tRevA (K : PySem.W.Frag) (te tk : TE) : TE := fun σ H Q => te σ H fun x H1 => tk σ H1 fun y H2 => y = .int (-1) ∧ (some (-1 : Int) = some (-1) ∧ ∃ a xs, x = .ref a ∧ ((SqL K H2 a xs ∧ ∀ p, H2 p = none → Q (.ref p) (upd H2 p (.lst xs.reverse))) ∨ (SqT K H2 a xs ∧ ∀ p, H2 p = none → Q (.ref p) (upd H2 p (.tup xs.reverse)))))
theorem pe_revA {e st : Expr} {te tk : TE} {p3 pos : Pos} (he : PE X e te) (hk : PE X st tk) :
    PE X (.Subscript e (.Slice none none (some st) p3) pos) (tRevA X.K te tk) := by
  refine ⟨fun pins s σ H Q I h => ?_⟩
  refine Subscript_ (thn (he.run pins s σ H _ I h) fun v s1 ⟨x, H1, I1, r1, q1⟩ => ?_)
  refine wpAny_Slice (thn (po_none.run pins s1 σ H1 (fun o H2 => o = none ∧ H2 = H1) I1 ⟨rfl, rfl⟩) fun vl s2 ⟨l, H2, I2, pl, el, e2⟩ => ?_)
  subst el e2
  refine thn (po_none.run pins s2 σ H2 (fun o H3 => o = none ∧ H3 = H2) I2 ⟨rfl, rfl⟩) fun vu s3 ⟨u, H3, I3, pu, eu, e3⟩ => ?_
  subst eu e3
  have hst : PO X (some st) (fun σ H Q => tk σ H fun y H2 => y = .int (-1) ∧ Q (some (-1)) H2) := by
    refine ⟨fun pins s σ H Q I hw => ?_⟩
    rw [evalPart_some]
    refine thn (hk.run pins s σ H _ I hw) fun u s1 ⟨y, H1, I1, r1, q1⟩ => ?_
    obtain ⟨rfl, q⟩ := q1
    obtain ⟨t, rfl⟩ := r1
    exact ⟨some (-1), H1, I1, .int (-1) t, q⟩
  refine thn (hst.run pins s3 σ H3 (fun o H4 => o = some (-1) ∧ ∃ a xs, x = .ref a ∧ ((SqL X.K H4 a xs ∧ ∀ p, H4 p = none → Q (.ref p) (upd H4 p (.lst xs.reverse))) ∨ (SqT X.K H4 a xs ∧ ∀ p, H4 p = none → Q (.ref p) (upd H4 p (.tup xs.reverse))))) I3 q1) fun vs s4 ⟨o, H4, I4, ps, eo, a, xs, ex, alt⟩ => ?_
  subst eo ex
  cases r1
  have I5 : Inv X pins σ H4 { s4 with heap := s4.heap.push { cls := .type "slice", data := .fields #[vl, vu, vs] } } := I4.kept (t' := s4.toks) fun b ob q => Heap.get?_push_of_some _ q
  show wpAny (model X.prog X.w) X.A (subscriptTail e (.Slice none none (some st) p3) (.ref a) (.ref s4.heap.objs.size)) (EP X pins σ Q) X.xe { s4 with heap := s4.heap.push { cls := .type "slice", data := .fields #[vl, vu, vs] } }
  rcases alt with ⟨hx, q⟩ | ⟨hx, q⟩
  · obtain ⟨its, r, ht, hz⟩ := I5.list hx
    have hlen := r.length
    refine tail_any (ops := [.ref a, .ref s4.heap.objs.size]) ht.isList.typeIs (PySem.slot_list_getitem.lookup) ?_ (by with_unfolding_all rfl)
    refine wpAny_getItem_list_slice ht.isList (Heap.IsSliceOf.new _ vl vu vs) pl pu ps (by decide) ?_ (by rw [List.size_toArray]; omega)
    rw [PySem.W.krv_pick]
    refine ⟨.ref _, _, I5.laid (t' := s4.toks) (o := .lst xs.reverse) (fun b ob q => Heap.get?_push_of_some _ q) (Nat.le_refl _) ?_, rfl, q _ (I5.hok.fresh (Nat.le_refl _))⟩
    exact ⟨by rw [List.length_reverse]; exact hz, _, 0, r.reverse, Heap.get?_push_size _ rfl⟩
  · obtain ⟨its, r, ht, hz⟩ := I5.tuple hx
    have hlen := r.length
    refine tail_any (ops := [.ref a, .ref s4.heap.objs.size]) ht.typeIs (PyProof.Rows.slot_tuple_getitem.lookup) ?_ (by with_unfolding_all rfl)
    refine getItem_tuple_back ht (Heap.IsSliceOf.new _ vl vu vs) pl pu ps ?_ (by omega)
    refine ⟨.ref _, _, I5.laid (t' := s4.toks) (o := .tup xs.reverse) (fun b ob q => Heap.get?_push_of_some _ q) (Nat.le_refl _) ?_, rfl, q _ (I5.hok.fresh (Nat.le_refl _))⟩
    exact ⟨by rw [List.length_reverse]; exact hz, _, r.reverse, IsTup.new _ _⟩
theorem kpe_revA (hK : X.K = K) {e st : Expr} {te tk : TE} {p3 pos : Pos} (he : PE X e te) (hk : PE X st tk) : PE X (.Subscript e (.Slice none none (some st) p3) pos) (tRevA K te tk) := hK ▸ pe_revA he hk
def xrevA (a b : M R) : M R := fun G => bd (a G) fun x G1 => bd (b G1) fun y G2 => match x.d, y.d with
  | .lst ds, .int k => if k = -1 then some (.ol ds.reverse, G2) else none
  | .tup ds, .int k => if k = -1 then some (.im (.tup ds.reverse), G2) else none
  | _, _ => none
theorem gk_revA {te tk : TE} {a b : M R} (ha : GOk K te a) (hb : GOk K tk b) : GOk K (tRevA K te tk) (xrevA a b) := fun Fz ba G σ H Hs res G' q e Q k => by
  obtain ⟨x, G1, e1, e⟩ := bd_inv e
  obtain ⟨y, G2, e2, e⟩ := bd_inv e
  refine ha.im q e1 fun v1 H1 Hs1 q1 s1 d1 => ?_
  refine hb.im q1 e2 fun v2 H2 Hs2 q2 s2 d2 => ?_
  split at e
  · rename_i ds n h1 h2
    split at e
    case isFalse => cases e
    rename_i hn
    cases e
    rw [h2] at d2
    rw [h1] at d1
    obtain ⟨a1, x1, rfl, l1, r1⟩ := asL_ok (d1.mono s2) (rfl : asL (.lst ds) = some ds)
    refine ⟨by rw [dr_int d2, hn], rfl, a1, x1, rfl, .inl ⟨same_lst q2.sub l1, fun p hp => ?_⟩⟩
    have ex : Ext H2 Hs2 (upd H2 p (.lst x1.reverse)) Hs2 := Ext.hid q2.sub hp
    have rf : ResF K H2 (upd H2 p (.lst x1.reverse)) Hs2 (.ref p) (.ol ds.reverse) := ⟨p, _, rfl, hp, upd_same, none_sub q2.sub hp, _, rfl, r1.rev⟩
    exact k _ _ _ (q2.ext ex) ((s1.trans s2).trans ex.b) (rf.res q2)
  · rename_i ds n h1 h2
    split at e
    case isFalse => cases e
    rename_i hn
    cases e
    rw [h2] at d2
    rw [h1] at d1
    cases d1.mono s2 with
    | tup l1 r1 =>
      rename_i a1 x1
      refine ⟨by rw [dr_int d2, hn], rfl, a1, x1, rfl, .inr ⟨same_tup q2.sub l1, fun p hp => ?_⟩⟩
      have ex : Ext H2 Hs2 (upd H2 p (.tup x1.reverse)) (upd Hs2 p (.tup x1.reverse)) := Ext.new q2.sub hp
      have rf : ResF K H2 (upd H2 p (.tup x1.reverse)) (upd Hs2 p (.tup x1.reverse)) (.ref p) (.im (.tup ds.reverse)) := .tup (SqT.of upd_same) (r1.rev.mono ex.b)
      exact k _ _ _ (q2.ext ex) ((s1.trans s2).trans ex.b) (rf.res q2)
  · cases e
end
end Bk
namespace Bk
open PySem L2 PySem.Builtin PySem.Spec PyProof.Rows
/-- what the loop of list.extend has laid: i pairs, the list at S holds them -/
structure ZpLaid (N S : Nat) (fp : List Addr) (h : Heap) (xs ys : Array Value) (i : Nat) (acc : Array Value) : Prop where
  sz : acc.size = i
  at_ : ∀ j, j < i → ∃ (T : Addr) (x y : Value), acc[j]? = some (.ref T) ∧ xs[j]? = some x ∧ ys[j]? = some y ∧ N ≤ T ∧ (T ≠ S ∧ T ∉ fp) ∧ T < h.objs.size ∧ IsPair h T x y
  ne : ∀ (j j' : Nat) (T : Addr), acc[j]? = some (.ref T) → acc[j']? = some (.ref T) → j = j'
theorem ZpLaid.push {N S : Nat} {fp : List Addr} {h h' : Heap} {xs ys : Array Value} {i : Nat} {acc : Array Value} {T : Addr} {x y : Value} (L : ZpLaid N S fp h xs ys i acc) (hx : xs[i]? = some x) (hy : ys[i]? = some y) (n1 : N ≤ T) (n2 : T ≠ S ∧ T ∉ fp) (hT : h.objs.size ≤ T) (lt : T < h'.objs.size) (tp : IsPair h' T x y)
    (k : ∀ a o, a ≠ S → a ∉ fp → h.get? a = some o → h'.get? a = some o) : ZpLaid N S fp h' xs ys (i + 1) (acc.push (.ref T)) := by
  have old : ∀ (j : Nat) (U : Addr), acc[j]? = some (.ref U) → U ≠ T := fun j U q z => by
    have jl : j < i := by
      have := (Array.getElem?_eq_some_iff.mp q).1
      rw [L.sz] at this
      exact this
    obtain ⟨U', _, _, q', _, _, _, _, lt', _⟩ := L.at_ j jl
    rw [q] at q'
    cases q'
    rw [z] at lt'
    exact absurd (Nat.lt_of_lt_of_le lt' hT) (Nat.lt_irrefl _)
  have get : ∀ (j : Nat) (v : Value), (acc.push (.ref T))[j]? = some v → (j = i ∧ v = .ref T) ∨ (j < i ∧ acc[j]? = some v) := fun j v q => by
    rw [Array.getElem?_push] at q
    split at q
    · rename_i z
      rw [L.sz] at z
      cases q
      exact .inl ⟨z, rfl⟩
    · refine .inr ⟨?_, q⟩
      have := (Array.getElem?_eq_some_iff.mp q).1
      rw [L.sz] at this
      exact this
  refine ⟨by rw [Array.size_push, L.sz], fun j hj => ?_, fun j j' U q q' => ?_⟩
  · by_cases c : j = i
    · subst c
      exact ⟨T, x, y, by rw [Array.getElem?_push, if_pos L.sz.symm], hx, hy, n1, n2, lt, tp⟩
    · obtain ⟨U, x', y', e1, e2, e2', e3, e4, e5, e6⟩ := L.at_ j (by omega)
      refine ⟨U, x', y', ?_, e2, e2', e3, e4, Heap.lt_size (k U _ e4.1 e4.2 e6), k U _ e4.1 e4.2 e6⟩
      rw [Array.getElem?_push, if_neg (by rw [L.sz]; exact c)]
      exact e1
  · rcases get j _ q with ⟨rfl, z⟩ | ⟨l1, z⟩ <;> rcases get j' _ q' with ⟨rfl, z'⟩ | ⟨l2, z'⟩
    · rfl
    · exact absurd (Value.ref.inj z) (old j' U z')
    · exact absurd (Value.ref.inj z') (old j U z)
    · exact L.ne j j' U z z'
end Bk
namespace Bk
open PySem L2 PyProof.Rows
section
variable {X : Cx} {pos : Pos}
theorem ps_parO {i j : Nat} {x y : PySem.Str} {a b : Expr} {ta : TA} {px py pt : Pos} {kt k2 pt2} (hc : X.calm = true) (hN : X.N.Nodup) (hi : X.N[i]? = some x) (hj : X.N[j]? = some y)
    (hx : Loc X.env.scope x) (hy : Loc X.env.scope y) (ha : PA X [a, b] ta)
    (hw : swappedStores [.Tuple [.Name x px, .Name y py] kt pt] (.Tuple [a, b] k2 pt2) X.env = pure none)
    (hs : swapsWithSole [.Tuple [.Name x px, .Name y py] kt pt] (.Tuple [a, b] k2 pt2) pos.line X.env = pure false := by rfl)
    (h2 : (assignEach [Expr.Name x px, .Name y py] X.env).map (·.2) = [assign (.Name x px) X.env, assign (.Name y py) X.env] := by rfl)
    (hl : (assignEach [Expr.Name x px, .Name y py] X.env).length = 2 := by rfl) (hst : (assignEach [Expr.Name x px, .Name y py] X.env).findIdx? (·.1) = none := by rfl)
    (fx : X.fn x = true ∨ X.env.scope.names.lookup x = some .local := by first | exact .inl rfl | exact .inr rfl | assumption)
    (fy : X.fn y = true ∨ X.env.scope.names.lookup y = some .local := by first | exact .inl rfl | exact .inr rfl | assumption) :
    PS X (.Assign [.Tuple [.Name x px, .Name y py] kt pt] (.Tuple [a, b] k2 pt2) pos) (tPar i j ta) := by
  refine ⟨fun pins s σ H D I h => ?_⟩
  refine wpAny_Assign_stores ?_ hs hw
  refine Tuple_ (thn (ha.run _ pins s σ H _ I h) fun us s1 ⟨vs, H1, I1, r1, q1⟩ => ?_)
  obtain ⟨v, w, e1, q1⟩ := q1
  subst e1
  obtain ⟨u1, u2, rfl, rv, rw'⟩ : ∃ u1 u2, us = [u1, u2] ∧ RelV v u1 ∧ RelV w u2 := by
    cases r1 with
    | cons p q =>
      cases q with
      | cons p' q' =>
        cases q'
        exact ⟨_, _, rfl, p, p'⟩
  refine wpAny_newObj_type ?_ (by show 2 ≤ sizeLine; decide)
  have I2 : Inv X pins σ H1 { s1 with heap := s1.heap.push { cls := .type "tuple", data := .seq [u1, u2].toArray } } := I1.kept (t' := s1.toks) fun b o e => Heap.get?_push_of_some _ e
  show wpAny _ _ (assign (.Tuple [.Name x px, .Name y py] kt pt) X.env (.ref s1.heap.objs.size)) _ _ _
  refine assign_Tuple_tuple (I.ok.hd hc) (IsTup.new s1.heap _) hl hst fun h' hx' => ?_
  have I3 := I2.kept (h' := h') (t' := s1.toks) fun b o e => hx' b o (Nat.ne_of_lt (Heap.lt_size e)) e
  rw [h2]
  refine assignInOrder_cons (wpAny_assign_Name (store_ok I3 hN hi hx rv (fun s2 I4 => ?_) fx))
  exact assignInOrder_cons (wpAny_assign_Name (store_ok I4 hN hj hy rw' (fun s3 I5 => assignInOrder_nil ⟨_, H1, I5, q1⟩) fy))
end
end Bk
namespace Bk
open PySem L2 PySem.Builtin PySem.Spec PyProof.Rows
def ItZ3 (K : PySem.W.Frag) (k l m : Bool) (a b c : Addr) : It :=
  ⟨fun i H => ∃ (xs ys zs : List V) (x y z : V), SqK K k a H xs ∧ SqK K l b H ys ∧ SqK K m c H zs ∧ xs[i]? = some x ∧ ys[i]? = some y ∧ zs[i]? = some z,
    fun i H v H' => ∃ T x y z, v = .ref T ∧ H T = none ∧ H' = upd H T (.tup [x, y, z]) ∧ (∀ xs, SqK K k a H xs → xs[i]? = some x) ∧ (∀ ys, SqK K l b H ys → ys[i]? = some y) ∧ ∀ zs, SqK K m c H zs → zs[i]? = some z,
    fun i H => ∃ xs ys zs : List V, SqK K k a H xs ∧ SqK K l b H ys ∧ SqK K m c H zs ∧ (xs.length ≤ i ∨ ys.length ≤ i ∨ zs.length ≤ i)⟩
theorem turn_zip3 {P : Program} {w : World} {K : PySem.W.Frag} {elts : List Expr} {kk : Nat} {tpos : Pos} {k l m : Bool} {a b c3 z TI TO i1 i2 i3 : Addr} (D : ZipSep3 z TI TO i1 i2 i3 [i1, a] [i2, b] [i3, c3]) (ha : a ≠ i1) (hb : b ≠ i2) (hc3 : c3 ≠ i3) :
    Turn P w K (.Tuple elts kk tpos) (ItZ3 K k l m a b c3) [z, TI, TO, i1, i2, i3] z (fun i h => IsZip h z TI TO .none ∧ IsTupOf3 h TI (.ref i1) (.ref i2) (.ref i3) ∧ (∃ x y u, IsTupOf3 h TO x y u) ∧ ItK k i1 a i h ∧ ItK l i2 b i h ∧ ItK m i3 c3 i h) where
  mem := by simp
  obj := fun i h st c hc => by
    obtain ⟨hz, hTI, ⟨x, y, u, hTO⟩, h1, h2, h3⟩ := st
    have ec : c = z ∨ c = TI ∨ c = TO ∨ c = i1 ∨ c = i2 ∨ c = i3 := by simpa using hc
    rcases ec with rfl | rfl | rfl | rfl | rfl | rfl
    · exact ⟨_, hz, fun v q => nomatch q⟩
    · exact ⟨_, hTI, fun v q => nomatch q⟩
    · exact ⟨_, hTO, fun v q => nomatch q⟩
    · exact itk_obj h1
    · exact itk_obj h2
    · exact itk_obj h3
  keep := fun i h h' st kp => by
    obtain ⟨hz, hTI, ⟨x, y, u, hTO⟩, h1, h2, h3⟩ := st
    exact ⟨kp z (by simp) _ hz, kp TI (by simp) _ hTI, ⟨x, y, u, kp TO (by simp) _ hTO⟩, h1.at fun o q => kp i1 (by simp) o q, h2.at fun o q => kp i2 (by simp) o q, h3.at fun o q => kp i3 (by simp) o q⟩
  item := by
    intro X hP hw hK hc i pins s σ H E I hf st hg
    subst hP hw hK
    obtain ⟨hz, hTI, ⟨x0, y0, u0, hTO⟩, h1, h2, h3⟩ := st
    obtain ⟨xs, ys, zs, x, y, t, qx, qy, qt, hx, hy, ht⟩ := hg
    obtain ⟨its, rv, p, _⟩ := inv_k I qx
    obtain ⟨its2, rv2, p2, _⟩ := inv_k I qy
    obtain ⟨its3, rv3, p3, _⟩ := inv_k I qt
    obtain ⟨u, hu, ru⟩ := rv.get hx
    obtain ⟨u2, hu2, ru2⟩ := rv2.get hy
    obtain ⟨u3, hu3, ru3⟩ := rv3.get ht
    have hlt : i < its.toArray.size := by simpa using (List.getElem?_eq_some_iff.mp hu).1
    have hlt2 : i < its2.toArray.size := by simpa using (List.getElem?_eq_some_iff.mp hu2).1
    have hlt3 : i < its3.toArray.size := by simpa using (List.getElem?_eq_some_iff.mp hu3).1
    have hzl : z < s.heap.objs.size := Heap.lt_size hz
    have lts : ∀ c ∈ [z, TI, TO, i1, i2, i3], c < s.heap.objs.size := fun c hcm => by
      have ec : c = z ∨ c = TI ∨ c = TO ∨ c = i1 ∨ c = i2 ∨ c = i3 := by simpa using hcm
      rcases ec with rfl | rfl | rfl | rfl | rfl | rfl
      · exact hzl
      · exact Heap.lt_size hTI
      · exact Heap.lt_size hTO
      · obtain ⟨_, e1, _⟩ := itk_obj h1; exact Heap.lt_size e1
      · obtain ⟨_, e2, _⟩ := itk_obj h2; exact Heap.lt_size e2
      · obtain ⟨_, e3, _⟩ := itk_obj h3; exact Heap.lt_size e3
    refine wpAny_pyNext_zipD3_item D (draws_k (A := X.A.in1) (I.ok.hd hc) k i1 a ha its.toArray) (draws_k (A := X.A.in1) (I.ok.hd hc) l i2 b hb its2.toArray) (draws_k (A := X.A.in1) (I.ok.hd hc) m i3 c3 hc3 its3.toArray) hz hTI hTO ⟨h1, p⟩ ⟨h2, p2⟩ ⟨h3, p3⟩ hlt hlt2 hlt3 fun v1 v2 v3 h' tk e1 e2 e3 z' TO' st1 st2 st3 hT hsz hk => ?_
    have ev1 : v1 = u := by
      have q : its[i]? = some v1 := by simpa using e1
      rw [hu] at q; cases q; rfl
    have ev2 : v2 = u2 := by
      have q : its2[i]? = some v2 := by simpa using e2
      rw [hu2] at q; cases q; rfl
    have ev3 : v3 = u3 := by
      have q : its3[i]? = some v3 := by simpa using e3
      rw [hu3] at q; cases q; rfl
    subst ev1 ev2 ev3
    refine ⟨_, rfl, wpAny_letOwnedTupleGo_zip (s := { s with heap := h', toks := tk }) z' fun h'' z'' sb => ?_⟩
    have hT2 : h''.get? s.heap.objs.size = some { cls := .type "tuple", data := .seq #[v1, v2, v3] } := (sb.2 _ (Nat.ne_of_gt hzl)).trans hT
    have new : ObjOk X.prog X.w (upd H s.heap.objs.size (.tup [x, y, t])) h'' s.heap.objs.size (.tup [x, y, t]) := ⟨by show 3 ≤ sizeLine; decide, [v1, v2, v3], .cons ru (.cons ru2 (.cons ru3 .nil)), ⟨_, hT2, rfl, _, rfl⟩⟩
    have I1 : Inv X pins σ (upd H s.heap.objs.size (.tup [x, y, t])) { s with heap := h'', toks := tk } :=
      I.turnedNew (ch := [z, TI, TO, i1, i2, i3]) (fun c o hcb q => (sb.2 c (fun q' => hcb (by simp [q']))).trans (hk c o (fun q' => hcb (by simp [q'])) (fun q' => hcb (by simp [q'])) (fun q' => hcb (by simp [q'])) (fun q' => hcb (by simp [q'])) (fun q' => hcb (by simp [q'])) q)) hf (Nat.le_refl _) new
    have n1 : i1 ≠ z := fun q => D.zf1 (q ▸ D.mem1)
    have n2 : i2 ≠ z := fun q => D.zf2 (q ▸ D.mem2)
    have n3 : i3 ≠ z := fun q => D.zf3 (q ▸ D.mem3)
    refine ⟨.ref s.heap.objs.size, _, I1, rfl, ⟨_, x, y, t, rfl, I.hok.fresh (Nat.le_refl _), rfl, fun l' hl => by rw [inj_k I hl qx]; exact hx, fun l' hl => by rw [inj_k I hl qy]; exact hy, fun l' hl => by rw [inj_k I hl qt]; exact ht⟩, ⟨z'', ?_, ⟨v1, v2, v3, (sb.2 _ D.TOz).trans TO'⟩, st1.1.at fun o q => (sb.2 _ n1).trans q, st2.1.at fun o q => (sb.2 _ n2).trans q, st3.1.at fun o q => (sb.2 _ n3).trans q⟩, fun c hcm => ?_⟩
    · exact (sb.2 _ D.TIz).trans (hk _ _ D.TIz D.TITO D.TIi1 D.TIi2 D.TIi3 hTI)
    · rw [upd_ne (Nat.ne_of_lt (lts c hcm))]
      exact (hf c hcm).1
  done := by
    intro X hP hw hK hc i pins s σ H E I hf st hg
    subst hP hw hK
    obtain ⟨hz, hTI, ⟨x0, y0, u0, hTO⟩, h1, h2, h3⟩ := st
    obtain ⟨xs, ys, zs, qx, qy, qt, hend⟩ := hg
    obtain ⟨its, rv, p, _⟩ := inv_k I qx
    obtain ⟨its2, rv2, p2, _⟩ := inv_k I qy
    obtain ⟨its3, rv3, p3, _⟩ := inv_k I qt
    have l1 := rv.length
    have l2 := rv2.length
    have l3 := rv3.length
    obtain ⟨n1, P1, St1, D1, s1, le1, e1⟩ := draws_stop (prog := X.prog) (w := X.w) (A := X.A.in1) (I.ok.hd hc) k i1 a ha its.toArray i h1 p
    obtain ⟨n2, P2, St2, D2, s2, le2, e2⟩ := draws_stop (prog := X.prog) (w := X.w) (A := X.A.in1) (I.ok.hd hc) l i2 b hb its2.toArray i h2 p2
    obtain ⟨n3, P3, St3, D3, s3, le3, e3⟩ := draws_stop (prog := X.prog) (w := X.w) (A := X.A.in1) (I.ok.hd hc) m i3 c3 hc3 its3.toArray i h3 p3
    exact wpAny_pyNext_zipD3_end D D1 D2 D3 hz hTI hTO s1 s2 s3 le1 le2 le3 (by
      rcases hend with q | q | q
      · exact .inl (e1 (by simp; omega))
      · exact .inr (.inl (e2 (by simp; omega)))
      · exact .inr (.inr (e3 (by simp; omega)))) fun h' tk hk => ⟨rfl, I.turnedL (ch := [z, TI, TO, i1, i2, i3]) (fun c o hcb q => hk c o (fun q' => hcb (by simp [q'])) (fun q' => hcb (by simp [q'])) (fun q' => hcb (by simp [q'])) (fun q' => hcb (by simp [q'])) (fun q' => hcb (by simp [q'])) q) hf⟩
  self := fun A i s Q E st h => wpAny_pyIter_zip st.1 h
def iZip3 (K : PySem.W.Frag) (ta : TA) : TI := fun σ H R => ta σ H fun vs H1 => ∃ k l m a b c xs ys zs, vs = [.ref a, .ref b, .ref c] ∧ SqK K k a H1 xs ∧ SqK K l b H1 ys ∧ SqK K m c H1 zs ∧ R (ItZ3 K k l m a b c) H1
theorem pi_zip3 {X : Cx} {e e2 e3 : Expr} {ta : TA} {p pos tpos : Pos} {elts : List Expr} {kk : Nat} (hg : Gl X "zip") (hm : X.mg "zip" = none) (ha : PA X [e, e2, e3] ta)
    (hs : starEach [e, e2, e3] X.env = (false, eval e X.env) :: starEach [e2, e3] X.env := by rfl) (hpl : (backTo pos (starEach [e2, e3] X.env)).any (·.1) = false := by rfl) :
    PI X (.Tuple elts kk tpos) (.Call (.Name "zip" p) [e, e2, e3] [] pos) (iZip3 X.K ta) := by
  refine ⟨fun pins s σ H R I h => Call_ (ld_blt I hg hm PyProof.Rows.boot_zip (callWith_type1 (thn (ha.run pos pins s σ H _ I h) fun us s1 ⟨vs, H1, I1, r1, k, l, m, a, b, c3, xs, ys, zs, ex, qx, qy, qt, q⟩ => ?_) hs hpl))⟩
  subst ex
  cases r1 with
  | cons r rr =>
    cases rr with
    | cons r' rr =>
      cases rr with
      | cons r'' rr =>
        cases rr
        cases r
        cases r'
        cases r''
        obtain ⟨its, rv, p1, la⟩ := inv_k I1 qx
        obtain ⟨its2, rv2, p2, lb⟩ := inv_k I1 qy
        obtain ⟨its3, rv3, p3, lc⟩ := inv_k I1 qt
        refine zip_begins3 (begins_k k a its.toArray) (begins_k l b its2.toArray) (begins_k m c3 its3.toArray) p1 p2 p3 fun h' hz hTI hTO h1 h2 h3 hsz hk => wpAny_pyIter_zip hz ?_
        have sep := zip_sep3 (N := s1.heap.objs.size) (fp1 := [a]) (fp2 := [b]) (fp3 := [c3]) (by simpa using la) (by simpa using lb) (by simpa using lc)
        refine ⟨_, _, _, _, H1, rfl, I1.kept (t' := s1.toks) hk, turn_zip3 sep (Nat.ne_of_lt la) (Nat.ne_of_lt (Nat.lt_succ_of_lt lb)) (Nat.ne_of_lt (Nat.lt_succ_of_lt (Nat.lt_succ_of_lt lc))), ⟨hz, hTI, ⟨_, _, _, hTO⟩, itk_new h1, itk_new h2, itk_new h3⟩, fun c hcm => ?_, q⟩
        have ec : c = s1.heap.objs.size + 5 ∨ c = s1.heap.objs.size + 3 ∨ c = s1.heap.objs.size + 4 ∨ c = s1.heap.objs.size ∨ c = s1.heap.objs.size + 1 ∨ c = s1.heap.objs.size + 2 := by simpa using hcm
        have hle : s1.heap.objs.size ≤ c := by
          rcases ec with rfl | rfl | rfl | rfl | rfl | rfl
          · exact Nat.le_add_right _ _
          · exact Nat.le_add_right _ _
          · exact Nat.le_add_right _ _
          · exact Nat.le_refl _
          · exact Nat.le_add_right _ _
          · exact Nat.le_add_right _ _
        exact I1.fpOk hle (I1.hok.fresh hle)
theorem kpi_zip3 {X : Cx} {K : PySem.W.Frag} (hK : X.K = K) {e e2 e3 : Expr} {ta : TA} {p pos tpos : Pos} {elts : List Expr} {kk : Nat} (hg : Gl X "zip") (hm : X.mg "zip" = none) (ha : PA X [e, e2, e3] ta)
    (hs : starEach [e, e2, e3] X.env = (false, eval e X.env) :: starEach [e2, e3] X.env := by rfl) (hpl : (backTo pos (starEach [e2, e3] X.env)).any (·.1) = false := by rfl) :
    PI X (.Tuple elts kk tpos) (.Call (.Name "zip" p) [e, e2, e3] [] pos) (iZip3 K ta) := hK ▸ pi_zip3 hg hm ha hs hpl
section
variable {K : PySem.W.Frag}
def zip3 : List D → List D → List D → List D
  | x :: xs, y :: ys, z :: zs => .tup [x, y, z] :: zip3 xs ys zs
  | _, _, _ => []
theorem zip3_len : ∀ (xs ys zs : List D), (zip3 xs ys zs).length = min xs.length (min ys.length zs.length)
  | x :: xs, y :: ys, z :: zs => by
    show (zip3 xs ys zs).length + 1 = min (xs.length + 1) (min (ys.length + 1) (zs.length + 1))
    rw [zip3_len xs ys zs]
    omega
  | [], _, _ => by simp [zip3]
  | _ :: _, [], _ => by simp [zip3]
  | _ :: _, _ :: _, [] => by simp [zip3]
theorem zip3_get : ∀ {xs ys zs : List D} {i : Nat} {x y z : D}, xs[i]? = some x → ys[i]? = some y → zs[i]? = some z → (zip3 xs ys zs)[i]? = some (.tup [x, y, z])
  | a :: xs, b :: ys, c :: zs, 0, x, y, z, h1, h2, h3 => by
    cases h1; cases h2; cases h3
    rfl
  | a :: xs, b :: ys, c :: zs, i + 1, x, y, z, h1, h2, h3 => by
    rw [List.getElem?_cons_succ] at h1 h2 h3
    show (_ :: zip3 xs ys zs)[i + 1]? = _
    rw [List.getElem?_cons_succ]
    exact zip3_get h1 h2 h3
  | [], _, _, i, _, _, _, h1, _, _ => by simp at h1
  | _ :: _, [], _, i, _, _, _, _, h2, _ => by simp at h2
  | _ :: _, _ :: _, [], i, _, _, _, _, _, h3 => by simp at h3
theorem yl_zip3 {Hs : Hp} {k l m : Bool} {a b c : Addr} {xs ys zs : List V} {ds es fs : List D} (ha : SqK K k a Hs xs) (hb : SqK K l b Hs ys) (hc : SqK K m c Hs zs) (da : DRs K Hs xs ds) (db : DRs K Hs ys es) (dc : DRs K Hs zs fs) : Yl K (ItZ3 K k l m a b c) (zip3 ds es fs) Hs where
  go := fun i H s hi => by
    rw [zip3_len] at hi
    exact ⟨xs, ys, zs, xs[i]'(by rw [da.len]; omega), ys[i]'(by rw [db.len]; omega), zs[i]'(by rw [dc.len]; omega), same_k s ha, same_k s hb, same_k s hc, by simp, by simp, by simp⟩
  stop := fun i H s hi => by
    rw [zip3_len] at hi
    exact ⟨xs, ys, zs, same_k s ha, same_k s hb, same_k s hc, by rw [da.len, db.len, dc.len]; omega⟩
  yld := fun i x H H' Hs1 _ s s1 y => by
    obtain ⟨T, x1, y1, z1, rfl, hT, rfl, h1, h2, h3⟩ := y
    obtain ⟨d1, e1, r1⟩ := da.ta (h1 xs (same_k (s.trans s1) ha))
    obtain ⟨d2, e2, r2⟩ := db.ta (h2 ys (same_k (s.trans s1) hb))
    obtain ⟨d3, e3, r3⟩ := dc.ta (h3 zs (same_k (s.trans s1) hc))
    have ex : Ext H Hs1 (upd H T (.tup [x1, y1, z1])) (upd Hs1 T (.tup [x1, y1, z1])) := Ext.new s1 hT
    exact ⟨.tup [d1, d2, d3], _, zip3_get e1 e2 e3, ex, .tup (SqT.of upd_same) (.cons (r1.mono (s.trans ex.b)) (.cons (r2.mono (s.trans ex.b)) (.cons (r3.mono (s.trans ex.b)) .nil)))⟩
def xzip3 (a : M (List D)) : M (List D) := fun G => bd (a G) fun xs G1 => match xs with
  | [x, y, z] => match seqD x, seqD y, seqD z with
    | some ds, some es, some fs => some (zip3 ds es fs, G1)
    | _, _, _ => none
  | _ => none
theorem ik_zip3 {ta : TA} {a : M (List D)} (ha : AOk K ta a) : IOk K (iZip3 K ta) (xzip3 a) := fun Fz ba G σ H Hs ds G' q e Q k => by
  obtain ⟨xs, G1, e1, e⟩ := bd_inv e
  refine ha Fz ba G σ H Hs xs _ q e1 _ fun vs H1 Hs1 q1 s1 d => ?_
  split at e
  case h_2 => cases e
  split at e
  case h_2 => cases e
  rename_i h1 h2 h3
  cases e
  cases d with
  | cons d1 d2 =>
    cases d2 with
    | cons d2 d3 =>
      cases d3 with
      | cons d3 d4 =>
        cases d4
        obtain ⟨k1, a1, x1, rfl, l1, r1⟩ := seqD_ok d1 h1
        obtain ⟨k2, a2, x2, rfl, l2, r2⟩ := seqD_ok d2 h2
        obtain ⟨k3, a3, x3, rfl, l3, r3⟩ := seqD_ok d3 h3
        exact ⟨k1, k2, k3, a1, a2, a3, x1, x2, x3, rfl, same_k q1.sub l1, same_k q1.sub l2, same_k q1.sub l3, k _ H1 Hs1 q1 s1 (yl_zip3 l1 l2 l3 r1 r2 r3)⟩
end
end Bk
namespace Bk
open PySem L2 PySem.Builtin PySem.Spec PyProof.Rows
/-- what the loop of list.extend has laid: i tuples, the list at S holds them -/
structure EnLaid (N S e it : Nat) (h : Heap) (its : Array Value) (i : Nat) (acc : Array Value) : Prop where
  sz : acc.size = i
  at_ : ∀ j, j < i → ∃ (T : Addr) (tk : Nat) (x : Value), acc[j]? = some (.ref T) ∧ its[j]? = some x ∧ N ≤ T ∧ (T ≠ S ∧ T ≠ e ∧ T ≠ it) ∧ T < h.objs.size ∧ h.get? T = some { cls := .type "tuple", data := .seq #[.int (j : Int) tk, x] }
  ne : ∀ (j j' : Nat) (T : Addr), acc[j]? = some (.ref T) → acc[j']? = some (.ref T) → j = j'
theorem EnLaid.push {N S e it : Nat} {h h' : Heap} {its : Array Value} {i tk : Nat} {acc : Array Value} {T : Addr} {x : Value} (L : EnLaid N S e it h its i acc) (hx : its[i]? = some x) (n1 : N ≤ T) (n2 : T ≠ S ∧ T ≠ e ∧ T ≠ it) (hT : h.objs.size ≤ T) (lt : T < h'.objs.size) (tp : h'.get? T = some { cls := .type "tuple", data := .seq #[.int (i : Int) tk, x] })
    (k : ∀ a o, a ≠ S → a ≠ e → a ≠ it → h.get? a = some o → h'.get? a = some o) : EnLaid N S e it h' its (i + 1) (acc.push (.ref T)) := by
  have old : ∀ (j : Nat) (U : Addr), acc[j]? = some (.ref U) → U ≠ T := fun j U q z => by
    have jl : j < i := by
      have := (Array.getElem?_eq_some_iff.mp q).1
      rw [L.sz] at this
      exact this
    obtain ⟨U', _, _, q', _, _, _, lt', _⟩ := L.at_ j jl
    rw [q] at q'
    cases q'
    rw [z] at lt'
    exact absurd (Nat.lt_of_lt_of_le lt' hT) (Nat.lt_irrefl _)
  have get : ∀ (j : Nat) (v : Value), (acc.push (.ref T))[j]? = some v → (j = i ∧ v = .ref T) ∨ (j < i ∧ acc[j]? = some v) := fun j v q => by
    rw [Array.getElem?_push] at q
    split at q
    · rename_i z
      rw [L.sz] at z
      cases q
      exact .inl ⟨z, rfl⟩
    · refine .inr ⟨?_, q⟩
      have := (Array.getElem?_eq_some_iff.mp q).1
      rw [L.sz] at this
      exact this
  refine ⟨by rw [Array.size_push, L.sz], fun j hj => ?_, fun j j' U q q' => ?_⟩
  · by_cases c : j = i
    · subst c
      exact ⟨T, tk, x, by rw [Array.getElem?_push, if_pos L.sz.symm], hx, n1, n2, lt, tp⟩
    · obtain ⟨U, tk', y, e1, e2, e3, e4, e5, e6⟩ := L.at_ j (by omega)
      refine ⟨U, tk', y, ?_, e2, e3, e4, Heap.lt_size (k U _ e4.1 e4.2.1 e4.2.2 e6), k U _ e4.1 e4.2.1 e4.2.2 e6⟩
      rw [Array.getElem?_push, if_neg (by rw [L.sz]; exact c)]
      exact e1
  · rcases get j _ q with ⟨rfl, z⟩ | ⟨l1, z⟩ <;> rcases get j' _ q' with ⟨rfl, z'⟩ | ⟨l2, z'⟩
    · rfl
    · exact absurd (Value.ref.inj z) (old j' U z')
    · exact absurd (Value.ref.inj z') (old j U z)
    · exact L.ne j j' U z z'
end Bk
namespace Bk
open PySem L2
mutual
def flat : D → Bool
  | .non => true
  | .bl _ => true
  | .int _ => true
  | .str _ => true
  | .tup ds => flats ds
  | _ => false
def flats : List D → Bool
  | [] => true
  | d :: ds => flat d && flats ds
end
/-- lists of pairs, where the hidden list holds numbers -/
def nb1 (bs : List D) (d : D) : Bool := match d, bs with
  | .lst (.tup x :: ds), .int _ :: _ => flats (.tup x :: ds)
  | d, _ => flat d
def flatM (bs : List D) : Mob → Bool
  | .l ds => ds.all (nb1 bs)
  | .o _ ds => ds.all (nb1 bs)
def flatR (bs : List D) : R → Bool
  | .im d => nb1 bs d
  | .ow m => flatM bs m
/-- without two things -/
def out2 (l b : Addr) (Hs : Hp) : Hp := fun a => if a = l ∨ a = b then none else Hs a
theorem out2_l {l b : Addr} {Hs : Hp} : out2 l b Hs l = none := if_pos (.inl rfl)
theorem out2_b {l b : Addr} {Hs : Hp} : out2 l b Hs b = none := if_pos (.inr rfl)
theorem out2_ne {l b a : Addr} {Hs : Hp} (h : a ≠ l) (h' : a ≠ b) : out2 l b Hs a = Hs a := if_neg fun z => z.elim h h'
section
variable {K : PySem.W.Frag} {Hs : Hp} {l b : Addr} {C dx : Addr} {fs : List (PySem.Str × V)} {us : List V}
theorem tup_out (hl : Hs l = some (.ins C dx fs)) (hb : Hs b = some (.lst us)) {a : Addr} {xs : List V} (h : SqT K Hs a xs) : SqT K (out2 l b Hs) a xs := by
  rcases h with h | h
  · have n1 : a ≠ l := fun e => by
      subst e
      rcases h with h | ⟨o, h⟩ <;> rw [hl] at h <;> cases h
    have n2 : a ≠ b := fun e => by
      subst e
      rcases h with h | ⟨o, h⟩ <;> rw [hb] at h <;> cases h
    rcases h with h | ⟨o, h⟩
    · exact .inl (.inl (by rw [out2_ne n1 n2]; exact h))
    · exact .inl (.inr ⟨o, by rw [out2_ne n1 n2]; exact h⟩)
  · exact .inr h
mutual
theorem DR.out (hl : Hs l = some (.ins C dx fs)) (hb : Hs b = some (.lst us)) : ∀ {v : V} {d : D}, DR K Hs v d → flat d = true → DR K (out2 l b Hs) v d
  | _, _, .non, _ => .non
  | _, _, .bl b, _ => .bl b
  | _, _, .int i, _ => .int i
  | _, _, .str x, _ => .str x
  | _, _, .tup h hs, e => .tup (tup_out hl hb h) (DRs.out hl hb hs e)
  | _, _, .lst _ _, e => by cases e
  | _, _, .frz _ _, e => by cases e
  | _, _, .obj _ _ _ _ _, e => by cases e
  | _, _, .ty _, e => by cases e
  | _, _, .cl _, e => by cases e
  | _, _, .dic _ _ _, e => by cases e
theorem DRs.out (hl : Hs l = some (.ins C dx fs)) (hb : Hs b = some (.lst us)) : ∀ {vs : List V} {ds : List D}, DRs K Hs vs ds → flats ds = true → DRs K (out2 l b Hs) vs ds
  | _, _, .nil, _ => .nil
  | _, _, .cons h hs, e => by
    have e : (flat _ && flats _) = true := e
    rw [Bool.and_eq_true] at e
    exact .cons (DR.out hl hb h e.1) (DRs.out hl hb hs e.2)
end
theorem DR.nb (hl : Hs l = some (.ins C dx fs)) (hb : Hs b = some (.lst us)) {bs : List D} (hu : DRs K Hs us bs) {v : V} {d : D} (h : DR K Hs v d) (e : nb1 bs d = true) : DR K (out2 l b Hs) v d := by
  unfold nb1 at e
  split at e
  · rename_i x ds i bs'
    cases h with
    | lst ha hd =>
      rename_i a xs
      have n1 : a ≠ l := fun z => by
        subst z
        rw [hl] at ha
        cases ha
      have n2 : a ≠ b := fun z => by
        subst z
        rw [hb] at ha
        cases ha
        cases hd with
        | cons h1 _ =>
          cases hu with
          | cons h2 _ =>
            cases h2
            cases h1
      exact .lst (by rw [out2_ne n1 n2]; exact ha) (hd.out hl hb e)
  · exact h.out hl hb e
theorem DRs.nb (hl : Hs l = some (.ins C dx fs)) (hb : Hs b = some (.lst us)) {bs : List D} (hu : DRs K Hs us bs) : ∀ {vs : List V} {ds : List D}, DRs K Hs vs ds → ds.all (nb1 bs) = true → DRs K (out2 l b Hs) vs ds
  | _, _, .nil, _ => .nil
  | _, _, .cons h hs, e => by
    rw [List.all_cons, Bool.and_eq_true] at e
    exact .cons (h.nb hl hb hu e.1) (DRs.nb hl hb hu hs e.2)
theorem MobO.nb (hl : Hs l = some (.ins C dx fs)) (hb : Hs b = some (.lst us)) {bs : List D} (hu : DRs K Hs us bs) {m : Mob} {o : HO} (h : MobO K Hs m o) (e : flatM bs m = true) : MobO K (out2 l b Hs) m o := by
  cases m with
  | l ds =>
    obtain ⟨vs, h1, h2⟩ := h
    exact ⟨vs, h1, DRs.nb hl hb hu h2 e⟩
  | o c ds =>
    obtain ⟨C, dx, fs, h1, h2, h3, h4⟩ := h
    exact ⟨C, dx, fs, h1, h2, h3, DRs.nb hl hb hu h4 e⟩
end
/-- the object at l, its last attribute is the list at b -/
structure TabO (K : PySem.W.Frag) (Hs : Hp) (b : Addr) (ds bs : List D) (fs : List (PySem.Str × V)) (us : List V) : Prop where
  n5 : ds.length < 5
  nm : fs.map (·.1) = (cAttrs 5).take (ds.length + 1)
  at_ : ∃ ws, fs.map (·.2) = ws ++ [V.ref b] ∧ DRs K Hs ws ds
  li : DRs K Hs us bs
theorem TabO.mono {K : PySem.W.Frag} {Hs Hs' : Hp} {b : Addr} {ds bs : List D} {fs : List (PySem.Str × V)} {us : List V} (h : TabO K Hs b ds bs fs us) (s : Same Hs Hs') : TabO K Hs' b ds bs fs us :=
  ⟨h.n5, h.nm, let ⟨ws, a, c⟩ := h.at_; ⟨ws, a, c.mono s⟩, h.li.mono s⟩
abbrev fz2 (Fz : Hp) (l b : Addr) (o : HO) (us : List V) : Hp := upd (upd Fz l o) b (.lst us)
structure RelV (K : PySem.W.Frag) (Fz : Hp) (ba : Nat → Addr) (C : Addr) (i : Nat) (l b : Addr) (ds bs : List D) (G : Gam) (σ : L2.St) (H Hs : Hp) : Prop where
  fl : Fz l = none
  fb : Fz b = none
  ne : l ≠ b
  s0 : σ[i]? = some (some (.ref l))
  g0 : G[i]? = some .un
  r : ∃ dx fs us, TabO K Hs b ds bs fs us ∧ Rel K (fz2 Fz l b (.ins C dx fs) us) ba G σ H Hs
abbrev fzn (Fz : Hp) (l b : Addr) : Hp := fz2 Fz l b (.lst []) []
theorem fz2_none {Fz : Hp} {l b : Addr} {o o' : HO} {us us' : List V} {p : Addr} (h : fz2 Fz l b o us p = none) : fz2 Fz l b o' us' p = none := by
  unfold fz2 at *
  by_cases z : p = b
  · subst z
    rw [upd_same] at h
    cases h
  · rw [upd_ne z] at h ⊢
    by_cases y : p = l
    · subst y
      rw [upd_same] at h
      cases h
    · rw [upd_ne y] at h ⊢
      exact h
theorem fz2_off {Fz : Hp} {l b : Addr} {o : HO} {us : List V} {p : Addr} (h : fz2 Fz l b o us p = none) : p ≠ l ∧ p ≠ b ∧ Fz p = none := by
  unfold fz2 at *
  by_cases z : p = b
  · subst z
    rw [upd_same] at h
    cases h
  · rw [upd_ne z] at h
    by_cases y : p = l
    · subst y
      rw [upd_same] at h
      cases h
    · rw [upd_ne y] at h
      exact ⟨y, z, h⟩
theorem fz2_on {Fz : Hp} {l b : Addr} {o : HO} {us : List V} {p : Addr} (h1 : p ≠ l) (h2 : p ≠ b) : fz2 Fz l b o us p = Fz p := (upd_ne h2).trans (upd_ne h1)
theorem fz2_l {Fz : Hp} {l b : Addr} {o : HO} {us : List V} (h : l ≠ b) : fz2 Fz l b o us l = some o := (upd_ne h).trans upd_same
theorem Res.fz {K : PySem.W.Frag} {F F' : Hp} {G : Gam} {σ : L2.St} {H Hs : Hp} {v : V} {r : R} (h : Res K F G σ H Hs v r) (k : ∀ p, F p = none → F' p = none) : Res K F' G σ H Hs v r := by
  cases r with
  | im d => exact h
  | ow m =>
    obtain ⟨p, o, h1, h2, h3, h4, h5, h6⟩ := h
    exact ⟨p, o, h1, h2, h3, k p h4, h5, h6⟩
section
variable {K : PySem.W.Frag} {C : Addr} {i : Nat}
def isUn9 (G : Gam) (i : Nat) : Bool := match G[i]? with
  | some .un => true
  | _ => false
theorem isUn9_ok {G : Gam} {i : Nat} (h : isUn9 G i = true) : G[i]? = some .un := by
  unfold isUn9 at h
  split at h
  · assumption
  · cases h
theorem RelV.next {Fz : Hp} {ba : Nat → Addr} {l b : Addr} {ds bs : List D} {G G' : Gam} {σ σ' : L2.St} {H Hs H' Hs' : Hp} {dx : Addr} {fs : List (PySem.Str × V)} {us : List V} (q : RelV K Fz ba C i l b ds bs G σ H Hs) (t : TabO K Hs b ds bs fs us) (R : Rel K (fz2 Fz l b (.ins C dx fs) us) ba G' σ' H' Hs') (s : Same Hs Hs') (g : G'[i]? = some .un) (e : σ'[i]? = σ[i]?) : RelV K Fz ba C i l b ds bs G' σ' H' Hs' :=
  ⟨q.fl, q.fb, q.ne, e.trans q.s0, g, dx, fs, us, t.mono s, R⟩
abbrev MV (α : Type) := List D → List D → Gam → Option (α × Gam)
def lf {α : Type} (i : Nat) (f : M α) : MV α := fun _ _ G => match f G with
  | some (r, G') => if isUn9 G' i then some (r, G') else none
  | none => none
theorem lf_inv {α : Type} {f : M α} {ds bs : List D} {G G' : Gam} {r : α} (h : lf i f ds bs G = some (r, G')) : f G = some (r, G') ∧ G'[i]? = some .un := by
  unfold lf at h
  split at h
  case h_2 => cases h
  rename_i r0 G0 e
  split at h
  case isFalse => cases h
  rename_i hu
  cases h
  exact ⟨e, isUn9_ok hu⟩
def GOkV (K : PySem.W.Frag) (C : Addr) (i : Nat) (t : TE) (f : MV R) : Prop := ∀ Fz ba l b ds bs G σ H Hs r G', RelV K Fz ba C i l b ds bs G σ H Hs → f ds bs G = some (r, G') →
  ∀ Q : VK, (∀ v H' Hs', RelV K Fz ba C i l b ds bs G' σ H' Hs' → Same Hs Hs' → Res K (fzn Fz l b) G' σ H' Hs' v r → Q v H') → t σ H Q
def TOkV (K : PySem.W.Frag) (C : Addr) (i : Nat) (t : TT) (f : MV Bool) : Prop := ∀ Fz ba l b ds bs G σ H Hs r G', RelV K Fz ba C i l b ds bs G σ H Hs → f ds bs G = some (r, G') →
  ∀ Q : Bool → Hp → Prop, (∀ H' Hs', RelV K Fz ba C i l b ds bs G' σ H' Hs' → Same Hs Hs' → Q r H') → t σ H Q
def AOkV (K : PySem.W.Frag) (C : Addr) (i : Nat) (t : TA) (f : MV (List D)) : Prop := ∀ Fz ba l b ds bs G σ H Hs r G', RelV K Fz ba C i l b ds bs G σ H Hs → f ds bs G = some (r, G') →
  ∀ Q : List V → Hp → Prop, (∀ vs H' Hs', RelV K Fz ba C i l b ds bs G' σ H' Hs' → Same Hs Hs' → DRs K Hs' vs r → Q vs H') → t σ H Q
theorem GOk.v {t : TE} {f : M R} (h : GOk K t f) : GOkV K C i t (lf i f) := fun Fz ba l b ds bs G σ H Hs r G' q e Q k => by
  obtain ⟨e, u⟩ := lf_inv e
  obtain ⟨dx, fs, us, t, R⟩ := q.r
  exact h _ ba G σ H Hs r G' R e Q fun v H' Hs' R' s x => k v H' Hs' (q.next t R' s u rfl) s (x.fz fun p => fz2_none)
theorem TOk.v {t : TT} {f : M Bool} (h : TOk K t f) : TOkV K C i t (lf i f) := fun Fz ba l b ds bs G σ H Hs r G' q e Q k => by
  obtain ⟨e, u⟩ := lf_inv e
  obtain ⟨dx, fs, us, t, R⟩ := q.r
  exact h _ ba G σ H Hs r G' R e Q fun H' Hs' R' s => k H' Hs' (q.next t R' s u rfl) s
theorem AOk.v {t : TA} {f : M (List D)} (h : AOk K t f) : AOkV K C i t (lf i f) := fun Fz ba l b ds bs G σ H Hs r G' q e Q k => by
  obtain ⟨e, u⟩ := lf_inv e
  obtain ⟨dx, fs, us, t, R⟩ := q.r
  exact h _ ba G σ H Hs r G' R e Q fun v H' Hs' R' s x => k v H' Hs' (q.next t R' s u rfl) s x
/-- the value shared -/
theorem GOkV.im {t : TE} {f : MV R} (h : GOkV K C i t f) {Fz : Hp} {ba : Nat → Addr} {l b : Addr} {ds bs : List D} {G : Gam} {σ : L2.St} {H Hs : Hp} {r : R} {G' : Gam} (q : RelV K Fz ba C i l b ds bs G σ H Hs) (e : f ds bs G = some (r, G')) {Q : VK}
    (k : ∀ v H' Hs', RelV K Fz ba C i l b ds bs G' σ H' Hs' → Same Hs Hs' → DR K Hs' v r.d → Q v H') : t σ H Q :=
  h Fz ba l b ds bs G σ H Hs r G' q e Q fun v H' Hs' q' s x => by
    obtain ⟨dx, fs, us, t, R⟩ := q'.r
    obtain ⟨Hs2, R2, s2, d⟩ := R.fzr (x.fz fun p => fz2_none)
    exact k v H' Hs2 (q'.next t R2 s2 q'.g0 rfl) (s.trans s2) d
def vcons (a : MV R) (r : MV (List D)) : MV (List D) := fun ds bs G => match a ds bs G with
  | some (x, G1) => match r ds bs G1 with
    | some (xs, G2) => some (x.d :: xs, G2)
    | none => none
  | none => none
theorem ak_consV {ta : TE} {tr : TA} {a : MV R} {r : MV (List D)} (ha : GOkV K C i ta a) (hr : AOkV K C i tr r) : AOkV K C i (tCons ta tr) (vcons a r) := fun Fz ba l b ds bs G σ H Hs out G' q e Q k => by
  unfold vcons at e
  split at e
  case h_2 => cases e
  rename_i x G1 e1
  split at e
  case h_2 => cases e
  rename_i xs G2 e2
  cases e
  refine ha.im q e1 fun v1 H1 Hs1 q1 s1 d1 => ?_
  exact hr Fz ba l b ds bs G1 σ H1 Hs1 xs _ q1 e2 _ fun vs H2 Hs2 q2 s2 d2 => k _ H2 Hs2 q2 (s1.trans s2) (.cons (d1.mono s2) d2)
def vcall (m : List D → Option R) (a : MV (List D)) : MV R := fun ds bs G => match a ds bs G with
  | some (xs, G1) => match m xs with
    | some r => some (r, G1)
    | none => none
  | none => none
theorem gk_callV {m : List D → Option R} {E : XK} {ta : TA} {a : MV (List D)} (ha : AOkV K C i ta a) : GOkV K C i (tCall (spF K m) [] E ta) (vcall m a) := fun Fz ba l b ds bs G σ H Hs res G' q e Q k => by
  unfold vcall at e
  split at e
  case h_2 => cases e
  rename_i xs G1 e1
  split at e
  case h_2 => cases e
  rename_i r0 hm
  cases e
  refine ha Fz ba l b ds bs G σ H Hs xs _ q e1 _ fun vs H1 Hs1 q1 s1 d1 => ?_
  obtain ⟨dx, fs, us, t, R⟩ := q1.r
  exact ⟨Hs1, xs, _, R.sub, by rw [List.append_nil]; exact d1, hm, fun v H3 Hs3 ex rf => k v H3 Hs3 (q1.next t (R.ext ex) ex.b q1.g0 rfl) (s1.trans ex.b) ((rf.res R).fz fun p => fz2_none)⟩
def vtup (a : MV (List D)) : MV R := fun ds bs G => match a ds bs G with
  | some (xs, G1) => if few xs.length then some (.im (.tup xs), G1) else none
  | none => none
theorem gk_tupV {ta : TA} {a : MV (List D)} (ha : AOkV K C i ta a) : GOkV K C i (tTup ta) (vtup a) := fun Fz ba l b ds bs G σ H Hs res G' q e Q k => by
  unfold vtup at e
  split at e
  case h_2 => cases e
  rename_i xs G1 e1
  split at e
  case isFalse => cases e
  rename_i hf
  cases e
  refine ha Fz ba l b ds bs G σ H Hs xs _ q e1 _ fun vs H1 Hs1 q1 s1 d1 => ⟨by rw [d1.len]; exact few_ok hf, fun p hp => ?_⟩
  obtain ⟨dx, fs, us, t, R⟩ := q1.r
  have ex : Ext H1 Hs1 (upd H1 p (.tup vs)) (upd Hs1 p (.tup vs)) := Ext.new R.sub hp
  exact k _ _ _ (q1.next t (R.ext ex) ex.b q1.g0 rfl) (s1.trans ex.b) (.tup (SqT.of upd_same) (d1.mono ex.b))
end
end Bk
namespace Bk
open PySem L2
def bk1 (bs : List D) : Ent → Ent → Ent
  | .im d, .im _ => .im d
  | _, .un => .un
  | _, .im d => if nb1 bs d then .im d else .un
  | _, .ow m => if flatM bs m then .ow m else .un
  | _, .bx m => if flatM bs m then .bx m else .un
def bkG (bs : List D) (G G1 : Gam) : Gam := List.zipWith (bk1 bs) G G1
theorem bk1_im {bs : List D} {e e' : Ent} {d : D} (h : bk1 bs e e' = .im d) : e = .im d ∨ (e' = .im d ∧ nb1 bs d = true) := by
  cases e' with
  | un => cases e <;> cases h
  | im d' =>
    cases e with
    | im d0 => cases h; exact .inl rfl
    | un | ow _ | bx _ =>
      have h : (if nb1 bs d' then Ent.im d' else .un) = .im d := h
      split at h
      · cases h; exact .inr ⟨rfl, by assumption⟩
      · cases h
  | ow m =>
    have h : (if flatM bs m then Ent.ow m else .un) = .im d := by cases e <;> exact h
    split at h <;> cases h
  | bx m =>
    have h : (if flatM bs m then Ent.bx m else .un) = .im d := by cases e <;> exact h
    split at h <;> cases h
theorem bk1_mu {bs : List D} {e e' : Ent} {m : Mob} (h : (bk1 bs e e').mu = some m) : bk1 bs e e' = e' ∧ e'.mu = some m ∧ flatM bs m = true := by
  cases e' with
  | un => cases e <;> cases h
  | im d' =>
    cases e with
    | im d0 => cases h
    | un | ow _ | bx _ =>
      have h : (if nb1 bs d' then Ent.im d' else .un).mu = some m := h
      split at h <;> cases h
  | ow m' =>
    have e1 : bk1 bs e (.ow m') = if flatM bs m' then Ent.ow m' else .un := by cases e <;> rfl
    rw [e1] at h ⊢
    split at h
    · rename_i hf
      cases h
      rw [if_pos hf]
      exact ⟨rfl, rfl, hf⟩
    · cases h
  | bx m' =>
    have e1 : bk1 bs e (.bx m') = if flatM bs m' then Ent.bx m' else .un := by cases e <;> rfl
    rw [e1] at h ⊢
    split at h
    · rename_i hf
      cases h
      rw [if_pos hf]
      exact ⟨rfl, rfl, hf⟩
    · cases h
theorem bkG_get {bs : List D} {G G1 : Gam} {j : Nat} {e : Ent} (h : (bkG bs G G1)[j]? = some e) : ∃ a b, G[j]? = some a ∧ G1[j]? = some b ∧ e = bk1 bs a b := by
  unfold bkG at h
  rw [List.getElem?_zipWith] at h
  split at h
  · rename_i a b h1 h2
    cases h
    exact ⟨a, b, h1, h2, rfl⟩
  · cases h
def tabD (ds bs : List D) : D := .obj 5 (ds ++ [.lst bs])
section
variable {K : PySem.W.Frag} {mg : PySem.Str → Option Value} {i : Nat}
theorem same2 {Hs : Hp} {l b : Addr} {o u : HO} (h1 : Hs l = none) (h2 : Hs b = none) : Same Hs (upd (upd Hs l o) b u) := fun a x e => by
  rw [upd_ne (ne_of_none e h2), upd_ne (ne_of_none e h1)]
  exact e
/-- the pair shown as plain data -/
theorem lend_in {T : ClT K mg 5} {Fz : Hp} {ba : Nat → Addr} {l b : Addr} {ds bs : List D} {G : Gam} {σ : L2.St} {H Hs : Hp} {dx : Addr} {fs : List (PySem.Str × V)} {us : List V} (q : RelV K Fz ba T.C i l b ds bs G σ H Hs) (t : TabO K Hs b ds bs fs us) (R : Rel K (fz2 Fz l b (.ins T.C dx fs) us) ba G σ H Hs) :
    Rel K Fz ba (G.set i (.im (tabD ds bs))) σ H (upd (upd Hs l (.ins T.C dx fs)) b (.lst us)) := by
  obtain ⟨hl, sl⟩ := R.fz l _ (fz2_l q.ne)
  obtain ⟨hb, sb⟩ := R.fz b _ upd_same
  have sm : Same Hs (upd (upd Hs l (.ins T.C dx fs)) b (.lst us)) := same2 sl sb
  refine ⟨fun a u e => ?_, fun a u e => ?_, by rw [List.length_set]; exact R.len, fun j d e => ?_, fun j e m hj hm => ?_, fun j k e1 e2 x h1 h2 m1 m2 t1 t2 => ?_, fun j m hj => ?_⟩
  · by_cases z : a = b
    · subst z
      rw [upd_same] at e
      rw [← e]; exact hb
    · rw [upd_ne z] at e
      by_cases y : a = l
      · subst y
        rw [upd_same] at e
        rw [← e]; exact hl
      · rw [upd_ne y] at e
        exact R.sub a u e
  · have n1 : a ≠ l := ne_of_none e q.fl
    have n2 : a ≠ b := ne_of_none e q.fb
    obtain ⟨b1, b2⟩ := R.fz a u (by rw [fz2_on n1 n2]; exact e)
    refine ⟨b1, ?_⟩
    rw [upd_ne n2, upd_ne n1]
    exact b2
  · rcases get_set e with ⟨rfl, e1, _⟩ | ⟨_, e1⟩
    · cases e1
      obtain ⟨ws, w1, w2⟩ := t.at_
      refine ⟨_, q.s0, .obj T.at_ (by rw [upd_ne q.ne]; exact upd_same) ?_ w1 ((w2.mono sm).app (.cons (.lst upd_same (t.li.mono sm)) .nil))⟩
      rw [List.length_append, List.length_singleton]
      exact t.nm
    · obtain ⟨v, b1, b2⟩ := R.im j d e1
      exact ⟨v, b1, b2.mono sm⟩
  · rcases get_set hj with ⟨_, e1, _⟩ | ⟨z, e1⟩
    · subst e1
      cases hm
    · obtain ⟨l', o', b1, b2, b3, b4, b5⟩ := R.mu j e m e1 hm
      obtain ⟨n1, n2, n3⟩ := fz2_off b4
      refine ⟨l', o', b1, b2, ?_, n3, b5.mono sm⟩
      rw [upd_ne n2, upd_ne n1]
      exact b3
  · rcases get_set h1 with ⟨_, z, _⟩ | ⟨_, z1⟩
    · subst z; exact absurd rfl m1
    · rcases get_set h2 with ⟨_, z, _⟩ | ⟨_, z2⟩
      · subst z; exact absurd rfl m2
      · exact R.dj j k e1 e2 x z1 z2 m1 m2 t1 t2
  · rcases get_set hj with ⟨_, z, _⟩ | ⟨_, z⟩
    · cases z
    · exact R.bx j m z
/-- and hidden again -/
theorem lend_out {C : Addr} {Fz : Hp} {ba : Nat → Addr} {l b : Addr} {ds bs : List D} {G G1 : Gam} {σ : L2.St} {H Hs H' Hs1 : Hp} {dx : Addr} {fs : List (PySem.Str × V)} {us : List V} (q : RelV K Fz ba C i l b ds bs G σ H Hs) (t : TabO K Hs b ds bs fs us) (R : Rel K (fz2 Fz l b (.ins C dx fs) us) ba G σ H Hs)
    (q2 : Rel K Fz ba G1 σ H' Hs1) (s : Same (upd (upd Hs l (.ins C dx fs)) b (.lst us)) Hs1) :
    RelV K Fz ba C i l b ds bs (bkG bs G (G1.set i .un)) σ H' (out2 l b Hs1) ∧ Same Hs (out2 l b Hs1) ∧ Hs1 l = some (.ins C dx fs) ∧ Hs1 b = some (.lst us) ∧ DRs K Hs1 us bs := by
  obtain ⟨hl, sl⟩ := R.fz l _ (fz2_l q.ne)
  obtain ⟨hb, sb⟩ := R.fz b _ upd_same
  have sm : Same Hs (upd (upd Hs l (.ins C dx fs)) b (.lst us)) := same2 sl sb
  have l1 : Hs1 l = some (.ins C dx fs) := s l _ (by rw [upd_ne q.ne]; exact upd_same)
  have b1 : Hs1 b = some (.lst us) := s b _ upd_same
  have li1 : DRs K Hs1 us bs := (t.li.mono sm).mono s
  have s9 : Same Hs (out2 l b Hs1) := fun a u e => by
    have n1 : a ≠ l := ne_of_none e sl
    have n2 : a ≠ b := ne_of_none e sb
    rw [out2_ne n1 n2]
    exact s a u (sm a u e)
  have back : ∀ {j : Nat} {e : Ent}, (bkG bs G (G1.set i .un))[j]? = some e → e ≠ .un → ∃ a e', G[j]? = some a ∧ G1[j]? = some e' ∧ e = bk1 bs a e' := fun {j e} h hn => by
    obtain ⟨a, e', h1, h2, h3⟩ := bkG_get h
    rcases get_set h2 with ⟨_, z, _⟩ | ⟨_, z⟩
    · subst z
      exact absurd (h3.trans (by cases a <;> rfl)) hn
    · exact ⟨a, e', h1, z, h3⟩
  have mub : ∀ {j : Nat} {e : Ent} {m : Mob}, (bkG bs G (G1.set i .un))[j]? = some e → e.mu = some m → G1[j]? = some e ∧ flatM bs m = true := fun {j e m} h hm => by
    obtain ⟨a, e', h1, h2, h3⟩ := back h (by intro z; subst z; cases hm)
    subst h3
    obtain ⟨c1, c2, c3⟩ := bk1_mu hm
    rw [c1]
    exact ⟨h2, c3⟩
  have RR : Rel K (fz2 Fz l b (.ins C dx fs) us) ba (bkG bs G (G1.set i .un)) σ H' (out2 l b Hs1) := by
    refine ⟨fun a u e => ?_, fun a u e => ?_, ?_, fun j d e => ?_, fun j e m hj hm => ?_, fun j k e1 e2 x h1 h2 m1 m2 t1 t2 => ?_, fun j m hj => ?_⟩
    · have n1 : a ≠ l := fun z => by rw [z, out2_l] at e; cases e
      have n2 : a ≠ b := fun z => by rw [z, out2_b] at e; cases e
      rw [out2_ne n1 n2] at e
      exact q2.sub a u e
    · by_cases n2 : a = b
      · subst n2
        cases (upd_same.symm.trans e)
        exact ⟨q2.sub _ _ b1, out2_b⟩
      · by_cases n1 : a = l
        · subst n1
          cases ((fz2_l q.ne).symm.trans e)
          exact ⟨q2.sub _ _ l1, out2_l⟩
        · rw [fz2_on n1 n2] at e
          obtain ⟨c1, c2⟩ := q2.fz a u e
          exact ⟨c1, by rw [out2_ne n1 n2]; exact c2⟩
    · unfold bkG
      rw [List.length_zipWith, List.length_set, ← R.len, ← q2.len, Nat.min_self]
    · obtain ⟨a, e', h1, h2, h3⟩ := back e (by intro z; cases z)
      rcases bk1_im h3.symm with rfl | ⟨rfl, hf⟩
      · obtain ⟨v, c1, c2⟩ := R.im j d h1
        exact ⟨v, c1, c2.mono s9⟩
      · obtain ⟨v, c1, c2⟩ := q2.im j d h2
        exact ⟨v, c1, c2.nb l1 b1 li1 hf⟩
    · obtain ⟨h2, hf⟩ := mub hj hm
      obtain ⟨l', o', c1, c2, c3, c4, c5⟩ := q2.mu j e m h2 hm
      have n1 : l' ≠ l := fun z => by rw [z, l1] at c3; cases c3
      have n2 : l' ≠ b := fun z => by rw [z, b1] at c3; cases c3
      exact ⟨l', o', c1, c2, by rw [out2_ne n1 n2]; exact c3, by rw [fz2_on n1 n2]; exact c4, MobO.nb l1 b1 li1 c5 hf⟩
    · have g : ∀ {j : Nat} {e : Ent}, (bkG bs G (G1.set i .un))[j]? = some e → e.mu ≠ none → G1[j]? = some e := fun {j e} h hn => by
        cases z : e.mu with
        | none => exact absurd z hn
        | some m => exact (mub h z).1
      exact q2.dj j k e1 e2 x (g h1 m1) (g h2 m2) m1 m2 t1 t2
    · exact q2.bx j m (mub hj rfl).1
  have hg : (bkG bs G (G1.set i .un))[i]? = some .un := by
    unfold bkG
    rw [List.getElem?_zipWith, q.g0]
    have : i < G1.length := by
      rw [← q2.len]
      exact (List.getElem?_eq_some_iff.mp q.s0).1
    rw [List.getElem?_set_self this]
    rfl
  exact ⟨⟨q.fl, q.fb, q.ne, q.s0, hg, dx, fs, us, t.mono s9, RR⟩, s9, l1, b1, li1⟩
def lend9 {α : Type} (i : Nat) (ok : List D → α → Bool) (f : M α) : MV α := fun ds bs G => match f (G.set i (.im (tabD ds bs))) with
  | some (r, G1) => if ok bs r then some (r, bkG bs G (G1.set i .un)) else none
  | none => none
theorem lend9_inv {α : Type} {ok : List D → α → Bool} {f : M α} {ds bs : List D} {G G' : Gam} {r : α} (h : lend9 i ok f ds bs G = some (r, G')) : ∃ G1, f (G.set i (.im (tabD ds bs))) = some (r, G1) ∧ ok bs r = true ∧ G' = bkG bs G (G1.set i .un) := by
  unfold lend9 at h
  split at h
  case h_2 => cases h
  rename_i r0 G0 e
  split at h
  case isFalse => cases h
  rename_i hu
  cases h
  exact ⟨_, e, hu, rfl⟩
theorem res_out {C : Addr} {Fz : Hp} {l b : Addr} {bs : List D} {G G1 : Gam} {σ : L2.St} {H Hs1 : Hp} {dx : Addr} {fs : List (PySem.Str × V)} {us : List V} {v : V} {r : R} (l1 : Hs1 l = some (.ins C dx fs)) (b1 : Hs1 b = some (.lst us)) (li1 : DRs K Hs1 us bs) (hf : flatR bs r = true) (h : Res K Fz G1 σ H Hs1 v r) :
    Res K (fzn Fz l b) (bkG bs G (G1.set i .un)) σ H (out2 l b Hs1) v r := by
  cases r with
  | im d => exact DR.nb l1 b1 li1 h hf
  | ow m =>
    obtain ⟨p, o, rfl, h1, h2, h3, h4, h5⟩ := h
    have n1 : p ≠ l := fun z => by rw [z, l1] at h2; cases h2
    have n2 : p ≠ b := fun z => by rw [z, b1] at h2; cases h2
    refine ⟨p, o, rfl, h1, by rw [out2_ne n1 n2]; exact h2, (fz2_on n1 n2).trans h3, MobO.nb l1 b1 li1 h4 hf, fun j e g m z => ?_⟩
    obtain ⟨a, e', g1, g2, g3⟩ := bkG_get g
    cases y : e.mu with
    | none => exact m y
    | some m' =>
      rw [g3] at y
      obtain ⟨c1, c2, _⟩ := bk1_mu y
      rcases get_set g2 with ⟨_, w, _⟩ | ⟨_, w⟩
      · subst w
        cases c2
      · exact h5 j e' w (by rw [c2]; simp) z
theorem gk_lend9 {T : ClT K mg 5} {t : TE} {f : M R} (h : GOk K t f) : GOkV K T.C i t (lend9 i flatR f) := fun Fz ba l b ds bs G σ H Hs r G' q e Q k => by
  obtain ⟨G1, e1, hf, rfl⟩ := lend9_inv e
  obtain ⟨dx, fs, us, t, R⟩ := q.r
  refine h Fz ba _ σ H _ r G1 (lend_in q t R) e1 _ fun v H' Hs1 q2 s2 x => ?_
  obtain ⟨q3, s3, l1, b1, li1⟩ := lend_out q t R q2 s2
  exact k v H' _ q3 s3 (res_out l1 b1 li1 hf x)
theorem tk_lend9 {T : ClT K mg 5} {t : TT} {f : M Bool} (h : TOk K t f) : TOkV K T.C i t (lend9 i (fun _ _ => true) f) := fun Fz ba l b ds bs G σ H Hs r G' q e Q k => by
  obtain ⟨G1, e1, hf, rfl⟩ := lend9_inv e
  obtain ⟨dx, fs, us, t, R⟩ := q.r
  refine h Fz ba _ σ H _ r G1 (lend_in q t R) e1 _ fun H' Hs1 q2 s2 => ?_
  obtain ⟨q3, s3, _⟩ := lend_out q t R q2 s2
  exact k H' _ q3 s3
end
end Bk
namespace Bk
open PySem L2
abbrev MSV := List D → List D → Gam → Option (Fl × List D × List D × Gam)
section
variable {K : PySem.W.Frag} {mg : PySem.Str → Option Value} {C : Addr} {i : Nat}
def PostV (K : PySem.W.Frag) (Fz : Hp) (ba : Nat → Addr) (C : Addr) (i : Nat) (l : Addr) (ds bs : List D) (G' : Gam) (Hs : Hp) (Dn : Ends) : Fl → Prop
  | .nx => ∀ b σ' H' Hs', RelV K Fz ba C i l b ds bs G' σ' H' Hs' → Same Hs Hs' → Dn.nx σ' H'
  | .bk => ∀ b σ' H' Hs', RelV K Fz ba C i l b ds bs G' σ' H' Hs' → Same Hs Hs' → Dn.bk σ' H'
  | .ct => ∀ b σ' H' Hs', RelV K Fz ba C i l b ds bs G' σ' H' Hs' → Same Hs Hs' → Dn.ct σ' H'
  | .rt r => ∀ b v σ' H' Hs', RelV K Fz ba C i l b ds bs G' σ' H' Hs' → Same Hs Hs' → Res K (fzn Fz l b) G' σ' H' Hs' v r → Dn.rt v H'
theorem PostV.mono {Fz : Hp} {ba : Nat → Addr} {l : Addr} {ds bs : List D} {G' : Gam} {Hs Hs1 : Hp} {Dn : Ends} {fl : Fl} (h : PostV K Fz ba C i l ds bs G' Hs Dn fl) (s : Same Hs Hs1) : PostV K Fz ba C i l ds bs G' Hs1 Dn fl := by
  cases fl with
  | nx => exact fun b σ' H' Hs' r q => h b σ' H' Hs' r (s.trans q)
  | bk => exact fun b σ' H' Hs' r q => h b σ' H' Hs' r (s.trans q)
  | ct => exact fun b σ' H' Hs' r q => h b σ' H' Hs' r (s.trans q)
  | rt x => exact fun b v σ' H' Hs' r q => h b v σ' H' Hs' r (s.trans q)
def SOkV (K : PySem.W.Frag) (C : Addr) (i : Nat) (t : TS) (f : MSV) : Prop := ∀ Fz ba l b ds bs G σ H Hs fl ds' bs' G', RelV K Fz ba C i l b ds bs G σ H Hs → f ds bs G = some (fl, ds', bs', G') → ∀ Dn : Ends, PostV K Fz ba C i l ds' bs' G' Hs Dn fl → t Dn σ H
/-- the ends, where the slot stays -/
def pinD (i : Nat) (σ : L2.St) (Dn : Ends) : Ends := { nx := fun σ' H' => σ'[i]? = σ[i]? → Dn.nx σ' H', bk := fun σ' H' => σ'[i]? = σ[i]? → Dn.bk σ' H', ct := fun σ' H' => σ'[i]? = σ[i]? → Dn.ct σ' H', rt := Dn.rt }
def PinE (i : Nat) (t : TS) : Prop := ∀ (Dn : Ends) σ H, t (pinD i σ Dn) σ H = t Dn σ H
theorem imp_rfl {p q : Prop} (h : p) : (p → q) = q := propext ⟨fun k => k h, fun k _ => k⟩
theorem pin_drop {te : TE} : PinE i (tDrop te) := fun Dn σ H => by
  show te σ H (fun _ H1 => (σ[i]? = σ[i]? → Dn.nx σ H1)) = te σ H fun _ H1 => Dn.nx σ H1
  refine congrArg (te σ H) (funext fun _ => funext fun H1 => imp_rfl rfl)
def lfS (i : Nat) (f : MS) : MSV := fun ds bs G => match f G with
  | some (.rt _, _) => none
  | some (fl, G') => if isUn9 G' i then some (fl, ds, bs, G') else none
  | none => none
theorem SOk.v {t : TS} {f : MS} (h : SOk K t f) (hp : PinE i t) : SOkV K C i t (lfS i f) := fun Fz ba l b ds bs G σ H Hs fl ds' bs' G' q e Dn p => by
  unfold lfS at e
  split at e
  case h_1 => cases e
  case h_3 => cases e
  rename_i fl0 G0 nr e0
  split at e
  case isFalse => cases e
  rename_i hu
  cases e
  obtain ⟨dx, fs, us, t, R⟩ := q.r
  rw [← hp Dn σ H]
  refine h _ ba G σ H Hs fl G' R e0 _ ?_
  cases fl with
  | nx => exact fun σ' H' Hs' R' s e => p b σ' H' Hs' (q.next t R' s (isUn9_ok hu) e) s
  | bk => exact fun σ' H' Hs' R' s e => p b σ' H' Hs' (q.next t R' s (isUn9_ok hu) e) s
  | ct => exact fun σ' H' Hs' R' s e => p b σ' H' Hs' (q.next t R' s (isUn9_ok hu) e) s
  | rt r => exact (nr r rfl).elim
def vset (j : Nat) (a : MV R) : MSV := fun ds bs G => match a ds bs G with
  | some (r, G1) => some (.nx, ds, bs, G1.set j r.ent)
  | none => none
theorem sk_setV {j : Nat} {ta : TE} {a : MV R} (ha : GOkV K C i ta a) (hj : j ≠ i := by decide) : SOkV K C i (tAsg ta (gName j)) (vset j a) := fun Fz ba l b ds bs G σ H Hs fl ds' bs' G' q e Dn p => by
  unfold vset at e
  split at e
  case h_2 => cases e
  rename_i r G1 e1
  cases e
  refine ha Fz ba l b ds bs G σ H Hs r G1 q e1 _ fun v H1 Hs1 q1 s1 x => ?_
  obtain ⟨dx, fs, us, t, R⟩ := q1.r
  exact p b _ H1 Hs1 (q1.next t (R.set (x.fz fun p => fz2_none)) (Same.refl _) (by rw [List.getElem?_set_ne hj]; exact q1.g0) (List.getElem?_set_ne hj)) s1
/-- the value frozen -/
def vfz (a : MV R) : MV R := fun ds bs G => match a ds bs G with
  | some (r, G1) => some (.im r.d, G1)
  | none => none
theorem gk_vfz {ta : TE} {a : MV R} (ha : GOkV K C i ta a) : GOkV K C i ta (vfz a) := fun Fz ba l b ds bs G σ H Hs r G' q e Q k => by
  unfold vfz at e
  split at e
  case h_2 => cases e
  rename_i r0 G1 e1
  cases e
  exact ha.im q e1 fun v H1 Hs1 q1 s1 d1 => k v H1 Hs1 q1 s1 d1
/-- two names at once, the first value frozen -/
def vpar (j k : Nat) (a c : MV R) : MSV := fun ds bs G => match a ds bs G with
  | some (r, G1) => match c ds bs G1 with
    | some (r2, G2) => some (.nx, ds, bs, (G2.set j (.im r.d)).set k r2.ent)
    | none => none
  | none => none
theorem sk_parV {j k : Nat} {ta tc : TE} {a c : MV R} (ha : GOkV K C i ta a) (hc : GOkV K C i tc c) (hj : j ≠ i := by decide) (hk : k ≠ i := by decide) : SOkV K C i (tPar j k (tCons ta (tCons tc tNil))) (vpar j k a c) := fun Fz ba l b ds bs G σ H Hs fl ds' bs' G' q e Dn p => by
  unfold vpar at e
  split at e
  case h_2 => cases e
  rename_i r G1 e1
  split at e
  case h_2 => cases e
  rename_i r2 G2 e2
  cases e
  refine ha.im q e1 fun v H1 Hs1 q1 s1 d1 => ?_
  refine hc Fz ba l b ds bs G1 σ H1 Hs1 r2 G2 q1 e2 _ fun w H2 Hs2 q2 s2 x => ?_
  obtain ⟨dx, fs, us, t, R⟩ := q2.r
  have x2 : Res K (fz2 Fz l b (.ins C dx fs) us) G2 σ H2 Hs2 w r2 := x.fz fun p => fz2_none
  have R2 := R.set (i := j) (x := .im r.d) (v := v) (d1.mono s2)
  have x3 := Res.set (i := j) R.len x2 (v := v) (x := .im r.d) (fun p hp => hp.1.elim fun m z => nomatch z) (d1.mono s2)
  exact ⟨v, w, rfl, p b _ H2 Hs2 (q2.next t (R2.set (i := k) x3) (Same.refl _) (by rw [List.getElem?_set_ne hk, List.getElem?_set_ne hj]; exact q2.g0) (by rw [List.getElem?_set_ne hk, List.getElem?_set_ne hj])) (s1.trans s2)⟩
def vseq (a c : MSV) : MSV := fun ds bs G => match a ds bs G with
  | some (.nx, ds1, bs1, G1) => c ds1 bs1 G1
  | o => o
theorem sk_seqV {t u : TS} {a c : MSV} (ha : SOkV K C i t a) (hc : SOkV K C i u c) : SOkV K C i (tSeq t u) (vseq a c) := fun Fz ba l b ds bs G σ H Hs fl ds' bs' G' q e Dn p => by
  unfold vseq at e
  cases h : a ds bs G with
  | none => rw [h] at e; cases e
  | some x =>
    obtain ⟨f1, ds1, bs1, G1⟩ := x
    rw [h] at e
    refine ha Fz ba l b ds bs G σ H Hs f1 ds1 bs1 G1 q h { Dn with nx := u Dn } ?_
    cases f1 with
    | nx => exact fun b1 σ1 H1 Hs1 q1 s1 => hc Fz ba l b1 ds1 bs1 G1 σ1 H1 Hs1 fl ds' bs' G' q1 e Dn (p.mono s1)
    | bk => cases e; exact p
    | ct => cases e; exact p
    | rt r => cases e; exact p
def vifs (t : MV Bool) (a c : MSV) : MSV := fun ds bs G => match t ds bs G with
  | some (k, G1) => if k then a ds bs G1 else c ds bs G1
  | none => none
theorem sk_ifV {t : TT} {u w : TS} {c : MV Bool} {a d : MSV} (hc : TOkV K C i t c) (ha : SOkV K C i u a) (hd : SOkV K C i w d) : SOkV K C i (tIfS t u w) (vifs c a d) := fun Fz ba l b ds bs G σ H Hs fl ds' bs' G' q e Dn p => by
  unfold vifs at e
  split at e
  case h_2 => cases e
  rename_i k G1 e1
  refine hc Fz ba l b ds bs G σ H Hs k G1 q e1 _ fun H1 Hs1 q1 s1 => ?_
  cases k with
  | true => exact ha Fz ba l b ds bs G1 σ H1 Hs1 fl ds' bs' G' q1 e Dn (p.mono s1)
  | false => exact hd Fz ba l b ds bs G1 σ H1 Hs1 fl ds' bs' G' q1 e Dn (p.mono s1)
def vret (a : MV R) : MSV := fun ds bs G => match a ds bs G with
  | some (r, G1) => some (.rt r, ds, bs, G1)
  | none => none
theorem sk_retV {ta : TE} {a : MV R} (ha : GOkV K C i ta a) : SOkV K C i (tRet ta) (vret a) := fun Fz ba l b ds bs G σ H Hs fl ds' bs' G' q e Dn p => by
  unfold vret at e
  split at e
  case h_2 => cases e
  rename_i r G1 e1
  cases e
  exact ha Fz ba l b ds bs G σ H Hs r _ q e1 _ fun v H1 Hs1 q1 s1 x => p b v σ H1 Hs1 q1 s1 x
def vdrop (a : MV R) : MSV := fun ds bs G => match a ds bs G with
  | some (_, G1) => some (.nx, ds, bs, G1)
  | none => none
theorem sk_dropV {ta : TE} {a : MV R} (ha : GOkV K C i ta a) : SOkV K C i (tDrop ta) (vdrop a) := fun Fz ba l b ds bs G σ H Hs fl ds' bs' G' q e Dn p => by
  unfold vdrop at e
  split at e
  case h_2 => cases e
  rename_i r G1 e1
  cases e
  exact ha Fz ba l b ds bs G σ H Hs r _ q e1 _ fun v H1 Hs1 q1 s1 x => p b σ H1 Hs1 q1 s1
def vnext : MSV := fun ds bs G => some (.nx, ds, bs, G)
theorem sk_nextV : SOkV K C i tNext vnext := fun Fz ba l b ds bs G σ H Hs fl ds' bs' G' q e Dn p => by
  cases e
  exact p b σ H Hs q (Same.refl _)
def vwhileN (c : MV Bool) (a : MSV) : Nat → MSV
  | 0, _, _, _ => none
  | n + 1, ds, bs, G => match c ds bs G with
    | none => none
    | some (k, G1) => if k then (match a ds bs G1 with
      | some (.nx, ds2, bs2, G2) => vwhileN c a n ds2 bs2 G2
      | some (.ct, ds2, bs2, G2) => vwhileN c a n ds2 bs2 G2
      | some (.bk, ds2, bs2, G2) => some (.nx, ds2, bs2, G2)
      | some (.rt r, ds2, bs2, G2) => some (.rt r, ds2, bs2, G2)
      | none => none) else some (.nx, ds, bs, G1)
theorem sk_whileV {t : TT} {u : TS} {c : MV Bool} {a : MSV} (n : Nat) (hc : TOkV K C i t c) (ha : SOkV K C i u a) : SOkV K C i (tWhile t u) (vwhileN c a n) := fun Fz ba l b ds bs G σ H Hs fl ds' bs' G' q e Dn p => by
  refine ⟨fun m σ1 H1 => ∃ b1 ds1 bs1 G1 Hs1, RelV K Fz ba C i l b1 ds1 bs1 G1 σ1 H1 Hs1 ∧ Same Hs Hs1 ∧ vwhileN c a m ds1 bs1 G1 = some (fl, ds', bs', G'), ⟨n, b, ds, bs, G, Hs, q, Same.refl _, e⟩, ?_⟩
  rintro m σ1 H1 ⟨b1, ds1, bs1, G1, Hs1, q1, s1, e1⟩
  cases m with
  | zero => cases e1
  | succ m =>
    unfold vwhileN at e1
    split at e1
    case h_1 => cases e1
    rename_i k G2 e2
    refine hc Fz ba l b1 ds1 bs1 G1 σ1 H1 Hs1 k G2 q1 e2 _ fun H2 Hs2 q2 s2 => ?_
    cases k with
    | false => cases e1; exact p b1 σ1 H2 Hs2 q2 (s1.trans s2)
    | true =>
      refine ⟨fun σ' H' => ∃ b3 ds3 bs3 G3 Hs3, RelV K Fz ba C i l b3 ds3 bs3 G3 σ' H' Hs3 ∧ Same Hs Hs3 ∧ vwhileN c a m ds3 bs3 G3 = some (fl, ds', bs', G'), fun σ' H' z => ⟨m, Nat.lt_succ_self m, z⟩, ?_⟩
      rw [if_pos rfl] at e1
      cases hb : a ds1 bs1 G2 with
      | none => rw [hb] at e1; cases e1
      | some y =>
        obtain ⟨f1, ds3, bs3, G3⟩ := y
        rw [hb] at e1
        refine ha Fz ba l b1 ds1 bs1 G2 σ1 H2 Hs2 f1 ds3 bs3 G3 q2 hb _ ?_
        cases f1 with
        | nx => exact fun b' σ' H' Hs' a1 a2 => ⟨b', ds3, bs3, G3, Hs', a1, (s1.trans s2).trans a2, e1⟩
        | ct => exact fun b' σ' H' Hs' a1 a2 => ⟨b', ds3, bs3, G3, Hs', a1, (s1.trans s2).trans a2, e1⟩
        | bk => cases e1; exact fun b' σ' H' Hs' a1 a2 => p b' σ' H' Hs' a1 ((s1.trans s2).trans a2)
        | rt r => cases e1; exact fun b' v σ' H' Hs' a1 a2 a3 => p b' v σ' H' Hs' a1 ((s1.trans s2).trans a2) a3
def IOkV (K : PySem.W.Frag) (C : Addr) (i : Nat) (w : TI) (f : MV (List D)) : Prop := ∀ Fz ba l b ds bs G σ H Hs es G', RelV K Fz ba C i l b ds bs G σ H Hs → f ds bs G = some (es, G') →
  ∀ Q : It → Hp → Prop, (∀ J H' Hs', RelV K Fz ba C i l b ds bs G' σ H' Hs' → Same Hs Hs' → Yl K J es Hs' → Q J H') → w σ H Q
theorem IOk.v {w : TI} {f : M (List D)} (h : IOk K w f) : IOkV K C i w (lf i f) := fun Fz ba l b ds bs G σ H Hs es G' q e Q k => by
  obtain ⟨e, u⟩ := lf_inv e
  obtain ⟨dx, fs, us, t, R⟩ := q.r
  exact h _ ba G σ H Hs es G' R e Q fun J H' Hs' R' s y => k J H' Hs' (q.next t R' s u rfl) s y
/-- an attribute's value -/
def vat (k : Nat) : MV R := fun ds _ G => match ds[k]? with
  | some d => some (.im d, G)
  | none => none
theorem gk_vat {T : ClT K mg 5} {k : Nat} {nm : PySem.Str} (hf : (cAttrs 5)[k]? = some nm) : GOkV K T.C i (tFld K (tVar i) nm) (vat k) := fun Fz ba l b ds bs G σ H Hs r G' q e Q z => by
  unfold vat at e
  split at e
  case h_2 => cases e
  rename_i d hd
  cases e
  obtain ⟨dx, fs, us, t, R⟩ := q.r
  obtain ⟨ws, w1, w2⟩ := t.at_
  obtain ⟨w, g1, g2⟩ := w2.at hd
  have hl := (R.fz l _ (fz2_l q.ne)).1
  have hk : k < ds.length := (List.getElem?_eq_some_iff.mp hd).1
  refine ⟨_, q.s0, l, T.C, dx, fs, w, rfl, hl, T.cls, T.na nm (List.mem_of_getElem? hf), fs_get ?_ (i := k) (by rw [w1, List.getElem?_append_left (by rw [w2.len]; exact hk)]; exact g1) nm ?_, z w H Hs q (Same.refl _) g2⟩
  · rw [t.nm]; exact take_nd
  · rw [t.nm]; exact take_at hf (by omega)
def vrange (a : MV R) : MV (List D) := fun ds bs G => match a ds bs G with
  | some (r, G1) => (match r.d with
    | .int n => if okR n then some (rng 0 n.toNat, G1) else none
    | _ => none)
  | none => none
theorem ik_rangeV {ta : TE} {a : MV R} (ha : GOkV K C i ta a) : IOkV K C i (iRng1 (tCons ta tNil)) (vrange a) := fun Fz ba l b ds bs G σ H Hs es G' q e Q k => by
  unfold vrange at e
  split at e
  case h_2 => cases e
  rename_i r G1 e1
  split at e
  case h_2 => cases e
  rename_i n hn
  split at e
  case isFalse => cases e
  rename_i hr
  cases e
  refine ha.im q e1 fun v H1 Hs1 q1 s1 d1 => ?_
  rw [hn] at d1
  cases d1
  exact ⟨_, rfl, (okR_inv hr).1, (okR_inv hr).2, k _ H1 Hs1 q1 s1 yl_rng⟩
def venum (a : MV R) : MV (List D) := fun ds bs G => match a ds bs G with
  | some (r, G1) => (match asL r.d with
    | some xs => some (enumD 0 xs, G1)
    | none => none)
  | none => none
theorem ik_enumV {ta : TE} {a : MV R} (ha : GOkV K C i ta a) : IOkV K C i (iEnumA K (tCons ta tNil)) (venum a) := fun Fz ba l b ds bs G σ H Hs es G' q e Q k => by
  unfold venum at e
  split at e
  case h_2 => cases e
  rename_i r G1 e1
  split at e
  case h_2 => cases e
  rename_i xs hx
  cases e
  refine ha.im q e1 fun v H1 Hs1 q1 s1 d1 => ?_
  obtain ⟨a1, x1, rfl, l1, r1⟩ := asL_ok d1 hx
  obtain ⟨dx, fs, us, t, R⟩ := q1.r
  exact ⟨a1, rfl, .inl ⟨⟨x1, same_lst R.sub l1⟩, k _ H1 Hs1 q1 s1 (yl_enum l1 r1)⟩⟩
def vforL (i : Nat) (tg : D → Gam → Option Gam) (a : MSV) : List D → MSV
  | [], ds, bs, G => some (.nx, ds, bs, G)
  | d :: es, ds, bs, G => match tg d G with
    | none => none
    | some G1 => if isUn9 G1 i then (match a ds bs G1 with
      | some (.nx, ds2, bs2, G2) => vforL i tg a es ds2 bs2 G2
      | some (.ct, ds2, bs2, G2) => vforL i tg a es ds2 bs2 G2
      | some (.bk, ds2, bs2, G2) => some (.nx, ds2, bs2, G2)
      | some (.rt r, ds2, bs2, G2) => some (.rt r, ds2, bs2, G2)
      | none => none) else none
def vfor (i : Nat) (it : MV (List D)) (tg : D → Gam → Option Gam) (a : MSV) : MSV := fun ds bs G => match it ds bs G with
  | some (es, G1) => vforL i tg a es ds bs G1
  | none => none
theorem sk_forV {w : TI} {g : TG} {u : TS} {it : MV (List D)} {tg : D → Gam → Option Gam} {js : List Nat} {a : MSV} (hi : IOkV K C i w it) (hg : GtOk K g tg js) (ha : SOkV K C i u a) (hj : i ∉ js := by decide) : SOkV K C i (tFor w g u) (vfor i it tg a) := fun Fz ba l b ds bs G σ H Hs fl ds' bs' G' q e Dn p => by
  unfold vfor at e
  split at e
  case h_2 => cases e
  rename_i es G1 e1
  refine hi Fz ba l b ds bs G σ H Hs es G1 q e1 _ fun J H1 Hs1 q1 s1 Y => ?_
  refine ⟨fun k m σ2 H2 => m = es.length - k ∧ k ≤ es.length ∧ ∃ b2 ds2 bs2 G2 Hs2, RelV K Fz ba C i l b2 ds2 bs2 G2 σ2 H2 Hs2 ∧ Same Hs1 Hs2 ∧ vforL i tg a (es.drop k) ds2 bs2 G2 = some (fl, ds', bs', G'), ⟨es.length, rfl, Nat.zero_le _, b, ds, bs, G1, Hs1, q1, Same.refl _, e⟩, ?_⟩
  rintro k m σ2 H2 ⟨rfl, hk, b2, ds2, bs2, G2, Hs2, q2, s2, e2⟩
  obtain ⟨dx2, fs2, us2, t2, R2⟩ := q2.r
  by_cases hlt : k < es.length
  · refine .inr ⟨Y.go k H2 (s2.trans R2.sub) hlt, fun σ' H' => k + 1 ≤ es.length ∧ ∃ b3 ds3 bs3 G3 Hs3, RelV K Fz ba C i l b3 ds3 bs3 G3 σ' H' Hs3 ∧ Same Hs1 Hs3 ∧ vforL i tg a (es.drop (k + 1)) ds3 bs3 G3 = some (fl, ds', bs', G'), fun σ' H' z => ⟨es.length - (k + 1), by omega, rfl, z.1, z.2⟩, fun x H' y => ?_⟩
    obtain ⟨d, Hs3, d1, ex, dr⟩ := Y.yld k x H2 H' Hs2 hlt s2 R2.sub y
    have R3 := R2.ext ex
    have ed : es.drop k = d :: es.drop (k + 1) := by
      rw [List.drop_eq_getElem_cons hlt]
      rw [List.getElem?_eq_getElem hlt] at d1
      cases d1
      rfl
    rw [ed] at e2
    unfold vforL at e2
    cases hG : tg d G2 with
    | none => rw [hG] at e2; cases e2
    | some G3 =>
      rw [hG] at e2
      simp only at e2
      split at e2
      case isFalse => cases e2
      rename_i hu
      refine hg.run _ ba G2 σ2 H' Hs3 x d G3 R3 dr hG _ fun σ3 R4 _ hs => ?_
      have q4 := q2.next t2 R4 ex.b (isUn9_ok hu) (hs i hj)
      cases hbG : a ds2 bs2 G3 with
      | none => rw [hbG] at e2; cases e2
      | some y =>
        obtain ⟨f1, ds4, bs4, G4⟩ := y
        rw [hbG] at e2
        refine ha Fz ba l b2 ds2 bs2 G3 σ3 H' Hs3 f1 ds4 bs4 G4 q4 hbG _ ?_
        cases f1 with
        | nx => exact fun b' σ' H5 Hs' a1 a2 => ⟨hlt, b', ds4, bs4, G4, Hs', a1, (s2.trans ex.b).trans a2, e2⟩
        | ct => exact fun b' σ' H5 Hs' a1 a2 => ⟨hlt, b', ds4, bs4, G4, Hs', a1, (s2.trans ex.b).trans a2, e2⟩
        | bk => cases e2; exact fun b' σ' H5 Hs' a1 a2 => p b' σ' H5 Hs' a1 (((s1.trans s2).trans ex.b).trans a2)
        | rt r => cases e2; exact fun b' v σ' H5 Hs' a1 a2 a3 => p b' v σ' H5 Hs' a1 (((s1.trans s2).trans ex.b).trans a2) a3
  · have hend : es.length ≤ k := by omega
    rw [List.drop_eq_nil_of_le hend] at e2
    cases e2
    exact .inl ⟨Y.stop k H2 (s2.trans R2.sub) hend, p b2 σ2 H2 Hs2 q2 (s1.trans s2)⟩
end
end Bk
namespace Bk
open PySem L2
section
variable {K : PySem.W.Frag} {mg : PySem.Str → Option Value} {C : Addr} {i : Nat}
theorem fz2_comm {Fz : Hp} {l b : Addr} {o : HO} {us : List V} (ne : l ≠ b) : fz2 Fz l b o us = upd (upd Fz b (.lst us)) l o := funext fun a => by
  unfold fz2
  by_cases z : a = b
  · subst z
    rw [upd_same, upd_ne (Ne.symm ne), upd_same]
  · by_cases y : a = l
    · subst y
      rw [upd_ne z, upd_same, upd_same]
    · rw [upd_ne z, upd_ne y, upd_ne y, upd_ne z]
theorem Rel.rehide_l {Fz : Hp} {ba : Nat → Addr} {G : Gam} {σ : L2.St} {H Hs : Hp} {l b : Addr} {o o' : HO} {us : List V} (q : Rel K (fz2 Fz l b o us) ba G σ H Hs) (ne : l ≠ b) : Rel K (fz2 Fz l b o' us) ba G σ (upd H l o') Hs := by
  rw [fz2_comm ne] at q ⊢
  exact q.rehide
theorem TabO.len {Hs : Hp} {b : Addr} {ds bs : List D} {fs : List (PySem.Str × V)} {us : List V} (t : TabO K Hs b ds bs fs us) : fs.length < 1000 := by
  have z := congrArg List.length t.nm
  rw [List.length_map, List.length_take] at z
  have : (cAttrs 5).length = 5 := rfl
  omega
theorem TabO.nd {Hs : Hp} {b : Addr} {ds bs : List D} {fs : List (PySem.Str × V)} {us : List V} (t : TabO K Hs b ds bs fs us) : (fs.map (·.1)).Nodup := by
  rw [t.nm]
  exact take_nd
/-- self.f = e, an attribute that stands -/
def vfld (k : Nat) (a : MV R) : MSV := fun ds bs G => match a ds bs G with
  | some (r, G1) => if k < ds.length then some (.nx, ds.set k r.d, bs, G1) else none
  | none => none
theorem sk_fldV {T : ClT K mg 5} {k : Nat} {nm : PySem.Str} (hf : (cAttrs 5)[k]? = some nm) {ta : TE} {a : MV R} (ha : GOkV K T.C i ta a) : SOkV K T.C i (sFld K (tVar i) ta nm) (vfld k a) := fun Fz ba l b ds bs G σ H Hs fl ds' bs' G' q e Dn p => by
  unfold vfld at e
  split at e
  case h_2 => cases e
  rename_i r G1 e1
  split at e
  case isFalse => cases e
  rename_i hk
  cases e
  refine ha.im q e1 fun v H1 Hs1 q1 s1 d1 => ?_
  obtain ⟨dx, fs, us, t, R⟩ := q1.r
  obtain ⟨ws, w1, w2⟩ := t.at_
  have hl := (R.fz l _ (fz2_l q1.ne)).1
  obtain ⟨p1, p2⟩ := putF_old (v := v) t.nd (i := k) (f := nm) (by rw [t.nm]; exact take_at hf (by omega))
  refine ⟨_, q1.s0, l, T.C, dx, fs, rfl, hl, T.cls, T.na nm (List.mem_of_getElem? hf), t.len, p b σ _ Hs1 ⟨q1.fl, q1.fb, q1.ne, q1.s0, q1.g0, dx, putF nm v fs, us, ⟨by rw [List.length_set]; exact t.n5, by rw [p1, List.length_set]; exact t.nm, ⟨ws.set k v, ?_, DRs.set d1 k w2⟩, t.li⟩, R.rehide_l q1.ne⟩ s1⟩
  rw [p2, w1, List.set_append_left _ _ (by rw [w2.len]; exact hk)]
/-- self.f[k] = e, f the hidden list -/
def vbput (n : Nat) (a c : MV R) : MSV := fun ds bs G => match a ds bs G with
  | some (x, G1) => match c ds bs G1 with
    | some (k, G2) => (match k.d with
      | .int k => (match ixN bs.length k with
        | some j => if ds.length = n then some (.nx, ds, bs.set j x.d, G2) else none
        | none => none)
      | _ => none)
    | none => none
  | none => none
theorem fld_b {T : ClT K mg 5} {n : Nat} {nm : PySem.Str} (hf : (cAttrs 5)[n]? = some nm) {Fz : Hp} {ba : Nat → Addr} {l b : Addr} {ds bs : List D} {G : Gam} {σ : L2.St} {H Hs : Hp} (q : RelV K Fz ba T.C i l b ds bs G σ H Hs) (hn : ds.length = n) {Q : VK} (k : Q (.ref b) H) : tFld K (tVar i) nm σ H Q := by
  obtain ⟨dx, fs, us, t, R⟩ := q.r
  obtain ⟨ws, w1, w2⟩ := t.at_
  have hl := (R.fz l _ (fz2_l q.ne)).1
  refine ⟨_, q.s0, l, T.C, dx, fs, .ref b, rfl, hl, T.cls, T.na nm (List.mem_of_getElem? hf), fs_get t.nd (i := n) ?_ nm ?_, k⟩
  · have e : ws.length = n := w2.len.trans hn
    rw [w1, ← e, List.getElem?_append_right (Nat.le_refl _), Nat.sub_self]
    rfl
  · rw [t.nm]; exact take_at hf (by omega)
theorem sk_bputV {T : ClT K mg 5} {n : Nat} {nm : PySem.Str} (hf : (cAttrs 5)[n]? = some nm) {ta tc : TE} {a c : MV R} (ha : GOkV K T.C i ta a) (hc : GOkV K T.C i tc c) : SOkV K T.C i (tAsg ta (gSub (tFld K (tVar i) nm) tc rSetL)) (vbput n a c) := fun Fz ba l b ds bs G σ H Hs fl ds' bs' G' q e Dn p => by
  unfold vbput at e
  split at e
  case h_2 => cases e
  rename_i x G1 e1
  split at e
  case h_2 => cases e
  rename_i k G2 e2
  split at e
  case h_2 => cases e
  rename_i z hz
  split at e
  case h_2 => cases e
  rename_i j hj
  split at e
  case isFalse => cases e
  rename_i hn
  cases e
  refine ha.im q e1 fun v H1 Hs1 q1 s1 d1 => ?_
  refine fld_b hf q1 hn ?_
  refine hc.im q1 e2 fun w H2 Hs2 q2 s2 d2 => ?_
  rw [hz] at d2
  cases d2
  obtain ⟨dx, fs, us, t, R⟩ := q2.r
  have hb := (R.fz b _ upd_same).1
  refine ⟨b, us, z, j, rfl, rfl, hb, by rw [t.li.len]; exact hj, p b σ _ Hs2 ⟨q2.fl, q2.fb, q2.ne, q2.s0, q2.g0, dx, fs, us.set j v, ⟨t.n5, t.nm, t.at_, DRs.set (d1.mono s2) j t.li⟩, R.rehide⟩ (s1.trans s2)⟩
/-- self.f.append(e), f the hidden list -/
def vbapp (n : Nat) (a : MV R) : MSV := fun ds bs G => match a ds bs G with
  | some (x, G1) => if ds.length = n ∧ few bs.length = true then some (.nx, ds, bs ++ [x.d], G1) else none
  | none => none
theorem sk_bappV {T : ClT K mg 5} {n : Nat} {nm : PySem.Str} (hf : (cAttrs 5)[n]? = some nm) {ta : TE} {a : MV R} (ha : GOkV K T.C i ta a) : SOkV K T.C i (tDrop (tBM K "list" rAppend (tFld K (tVar i) nm) (tCons ta tNil))) (vbapp n a) := fun Fz ba l b ds bs G σ H Hs fl ds' bs' G' q e Dn p => by
  unfold vbapp at e
  split at e
  case h_2 => cases e
  rename_i x G1 e1
  split at e
  case isFalse => cases e
  rename_i hn
  cases e
  obtain ⟨dx0, fs0, us0, t0, R0⟩ := q.r
  refine fld_b (Q := fun x H1 => _) hf q hn.1 ⟨.inl ⟨rfl, us0, SqL.of (R0.fz b _ upd_same).1⟩, ?_⟩
  refine ha.im q e1 fun v H1 Hs1 q1 s1 d1 => ?_
  obtain ⟨dx, fs, us, t, R⟩ := q1.r
  have hb := (R.fz b _ upd_same).1
  exact ⟨b, us, v, rfl, rfl, hb, by rw [t.li.len]; exact few_lt hn.2, p b σ _ Hs1 ⟨q1.fl, q1.fb, q1.ne, q1.s0, q1.g0, dx, fs, us ++ [v], ⟨t.n5, t.nm, t.at_, t.li.app (.cons d1 .nil)⟩, R.rehide⟩ s1⟩
/-- self.f = [..], a new attribute: its list is hidden now, the one hidden so far is shared -/
def vnew (n : Nat) (a : MV R) : MSV := fun ds bs G => match a ds bs G with
  | some (.ow (.l es), G1) => if ds.length = n ∧ n < 4 then some (.nx, ds ++ [.lst bs], es, G1) else none
  | _ => none
theorem sk_newV {T : ClT K mg 5} {n : Nat} {nm : PySem.Str} (hf : (cAttrs 5)[n + 1]? = some nm) (h1 : nm ∉ (cAttrs 5).take (n + 1)) (h2 : (cAttrs 5).take (n + 2) = (cAttrs 5).take (n + 1) ++ [nm]) {ta : TE} {a : MV R} (ha : GOkV K T.C i ta a) : SOkV K T.C i (sFld K (tVar i) ta nm) (vnew n a) := fun Fz ba l b ds bs G σ H Hs fl ds' bs' G' q e Dn p => by
  unfold vnew at e
  split at e
  case h_2 => cases e
  rename_i es G1 e1
  split at e
  case isFalse => cases e
  rename_i hn
  cases e
  refine ha Fz ba l b ds bs G σ H Hs _ _ q e1 _ fun v H1 Hs1 q1 s1 x => ?_
  obtain ⟨dx, fs, us, t, R⟩ := q1.r
  obtain ⟨ws, w1, w2⟩ := t.at_
  have hl := (R.fz l _ (fz2_l q1.ne)).1
  obtain ⟨hb, sb⟩ := R.fz b _ upd_same
  obtain ⟨pp, o, rfl, x1, x2, x3, ⟨vs, rfl, x4⟩, x5⟩ := x
  obtain ⟨n1, n2, n3⟩ := fz2_off x3
  have ub : upd Fz l (.ins T.C dx fs) b = none := (upd_ne (Ne.symm q1.ne)).trans q1.fb
  obtain ⟨R1, sm⟩ := (R.unhide ub).froze hb sb ub fun j e g m z => by
    cases y : e.mu with
    | none => exact m y
    | some m' =>
      obtain ⟨l', o', a1, a2, a3, a4, a5⟩ := R.mu j e m' g y
      rw [z] at a1
      cases a1
      exact (fz2_off a4).2.1 rfl
  have x2' : upd Hs1 b (.lst us) pp = none := by rw [upd_ne n2]; exact x2
  have R2 := R1.lock (o := .lst vs) x1 x2' x5
  have R3 : Rel K (fz2 Fz l pp (.ins T.C dx (putF nm (.ref pp) fs)) vs) ba _ σ _ _ := R2.rehide_l (Ne.symm n1)
  obtain ⟨p1, p2⟩ := putF_new (f := nm) (v := .ref pp) (fs := fs) (by rw [t.nm, hn.1]; exact h1)
  refine ⟨_, q1.s0, l, T.C, dx, fs, rfl, hl, T.cls, T.na nm (List.mem_of_getElem? hf), t.len, p pp σ _ _ ⟨q1.fl, n3, Ne.symm n1, q1.s0, q1.g0, dx, putF nm (.ref pp) fs, vs, ⟨by rw [List.length_append, List.length_singleton]; omega, ?_, ⟨ws ++ [.ref b], ?_, (w2.mono sm).app (.cons (.lst upd_same (t.li.mono sm)) .nil)⟩, x4.mono sm⟩, R3⟩ (s1.trans sm)⟩
  · rw [p1, t.nm, List.length_append, List.length_singleton, hn.1]
    exact h2.symm
  · rw [p2, w1]
def spV (K : PySem.W.Frag) (C : Addr) (m : List D → List D → List D → Option (D × List D × List D)) : Sp := fun vs H Q _ => ∃ Hs l b dx fs us vs' ds bs as r ds' bs', vs = V.ref l :: vs' ∧ Same Hs H ∧ H l = some (.ins C dx fs) ∧ H b = some (.lst us) ∧ Hs l = none ∧ Hs b = none ∧ l ≠ b ∧ TabO K Hs b ds bs fs us ∧ DRs K Hs vs' as ∧ m ds bs as = some (r, ds', bs') ∧
  ∀ v H' Hs' b' dx' fs' us', (∀ x o, x ≠ l → x ≠ b → H x = some o → H' x = some o) → Same Hs Hs' → Same Hs' H' → (∀ x o, x ≠ b → H x = some o → Hs x = none → Hs' x = none) → (b' = b ∨ H b' = none) → l ≠ b' → H' l = some (.ins C dx' fs') → H' b' = some (.lst us') → Hs' l = none → Hs' b' = none → TabO K Hs' b' ds' bs' fs' us' → DR K Hs' v r → Q v H'
abbrev MW := List D → List D → Gam → Option (D × List D × List D × Gam)
def GOkW (K : PySem.W.Frag) (C : Addr) (i : Nat) (t : TE) (f : MW) : Prop := ∀ Fz ba l b ds bs G σ H Hs r ds' bs' G', RelV K Fz ba C i l b ds bs G σ H Hs → f ds bs G = some (r, ds', bs', G') →
  ∀ Q : VK, (∀ b' v H' Hs', RelV K Fz ba C i l b' ds' bs' G' σ H' Hs' → Same Hs Hs' → DR K Hs' v r → Q v H') → t σ H Q
def wmeth (m : List D → List D → List D → Option (D × List D × List D)) (a : MV (List D)) : MW := fun ds bs G => match a ds bs G with
  | some (xs, G1) => match m ds bs xs with
    | some (r, ds', bs') => some (r, ds', bs', G1)
    | none => none
  | none => none
/-- what is hidden behind a call -/
theorem RelV.behind {Fz : Hp} {ba : Nat → Addr} {l b b' : Addr} {ds bs ds' bs' : List D} {G : Gam} {σ : L2.St} {H Hs H' Hs' : Hp} {dx' : Addr} {fs' : List (PySem.Str × V)} {us' : List V} (q : RelV K Fz ba C i l b ds bs G σ H Hs)
    (h1 : ∀ x o, x ≠ l → x ≠ b → H x = some o → H' x = some o) (h2 : Same Hs Hs') (h3 : Same Hs' H') (h4 : ∀ x o, x ≠ b → H x = some o → Hs x = none → Hs' x = none) (h5 : b' = b ∨ H b' = none) (h6 : l ≠ b') (h7 : H' l = some (.ins C dx' fs')) (h8 : H' b' = some (.lst us')) (h9 : Hs' l = none) (h10 : Hs' b' = none) (t' : TabO K Hs' b' ds' bs' fs' us') : RelV K Fz ba C i l b' ds' bs' G σ H' Hs' := by
  obtain ⟨dx, fs, us, t, R⟩ := q.r
  have fb' : Fz b' = none := by
    rcases h5 with h5 | h5
    · rw [h5]; exact q.fb
    · cases z : Fz b' with
      | none => rfl
      | some u =>
        by_cases y : b' = b
        · rw [y, q.fb] at z; cases z
        · have := (R.fz b' u ((fz2_on (Ne.symm h6) y).trans z)).1
          rw [h5] at this
          cases this
  refine ⟨q.fl, fb', h6, q.s0, q.g0, dx', fs', us', t', h3, fun a o e => ?_, R.len, fun j d e => ?_, fun j e m g g0 => ?_, R.dj, R.bx⟩
  · by_cases z : a = b'
    · subst z
      cases upd_same.symm.trans e
      exact ⟨h8, h10⟩
    · by_cases y : a = l
      · subst y
        cases (fz2_l h6).symm.trans e
        exact ⟨h7, h9⟩
      · have e := (fz2_on y z).symm.trans e
        have nb : a ≠ b := fun w => by rw [w, q.fb] at e; cases e
        obtain ⟨c1, c2⟩ := R.fz a o ((fz2_on y nb).trans e)
        exact ⟨h1 a o y nb c1, h4 a o nb c1 c2⟩
  · obtain ⟨v, c1, c2⟩ := R.im j d e
    exact ⟨v, c1, c2.mono h2⟩
  · obtain ⟨l', o', c1, c2, c3, c4, c5⟩ := R.mu j e m g g0
    obtain ⟨n1, n2, n3⟩ := fz2_off c4
    have n4 : l' ≠ b' := fun z => by
      rcases h5 with h5 | h5
      · exact n2 (z.trans h5)
      · rw [z, h5] at c2
        cases c2
    exact ⟨l', o', c1, h1 l' _ n1 n2 c2, h4 l' _ n2 c2 c3, (fz2_on n1 n4).trans n3, c5.mono h2⟩
theorem gk_methW {T : ClT K mg 5} {nm : PySem.Str} {m : List D → List D → List D → Option (D × List D × List D)} {E : XK} (hn : nm ∉ cAttrs 5) {ta : TA} {a : MV (List D)} (ha : AOkV K T.C i ta a) : GOkW K T.C i (tMeth T.C nm (spV K T.C m) [] E (tVar i) ta) (wmeth m a) := fun Fz ba l b ds bs G σ H Hs r ds' bs' G' q e Q k => by
  unfold wmeth at e
  split at e
  case h_2 => cases e
  rename_i xs G1 e1
  split at e
  case h_2 => cases e
  rename_i r0 ds0 bs0 hm
  cases e
  obtain ⟨dx0, fs0, us0, t0, R0⟩ := q.r
  refine ⟨_, q.s0, l, dx0, fs0, rfl, (R0.fz l _ (fz2_l q.ne)).1, fs_none fun z => hn (by rw [t0.nm] at z; exact List.mem_of_mem_take z), ?_⟩
  refine ha Fz ba l b ds bs G σ H Hs xs _ q e1 _ fun vs H1 Hs1 q1 s1 d1 => ?_
  obtain ⟨dx, fs, us, t, R⟩ := q1.r
  obtain ⟨hl, sl⟩ := R.fz l _ (fz2_l q1.ne)
  obtain ⟨hb, sb⟩ := R.fz b _ upd_same
  exact ⟨Hs1, l, b, dx, fs, us, vs, ds, bs, xs, r, _, _, by rw [List.append_nil], R.sub, hl, hb, sl, sb, q1.ne, t, d1, hm, fun v H3 Hs3 b3 dx3 fs3 us3 c1 c2 c3 c4 c5 c6 c7 c8 c9 c10 t3 dr => k b3 v H3 Hs3 (q1.behind c1 c2 c3 c4 c5 c6 c7 c8 c9 c10 t3) (s1.trans c2) dr⟩
def vdropW (f : MW) : MSV := fun ds bs G => match f ds bs G with
  | some (_, ds', bs', G1) => some (.nx, ds', bs', G1)
  | none => none
theorem sk_dropW {ta : TE} {f : MW} (h : GOkW K C i ta f) : SOkV K C i (tDrop ta) (vdropW f) := fun Fz ba l b ds bs G σ H Hs fl ds' bs' G' q e Dn p => by
  unfold vdropW at e
  split at e
  case h_2 => cases e
  rename_i r ds1 bs1 G1 e1
  cases e
  exact h Fz ba l b ds bs G σ H Hs r _ _ _ q e1 _ fun b' v H1 Hs1 q1 s1 d1 => p b' σ H1 Hs1 q1 s1
def vsetW (j : Nat) (f : MW) : MSV := fun ds bs G => match f ds bs G with
  | some (r, ds', bs', G1) => some (.nx, ds', bs', G1.set j (.im r))
  | none => none
theorem sk_setW {j : Nat} {ta : TE} {f : MW} (h : GOkW K C i ta f) (hj : j ≠ i := by decide) : SOkV K C i (tAsg ta (gName j)) (vsetW j f) := fun Fz ba l b ds bs G σ H Hs fl ds' bs' G' q e Dn p => by
  unfold vsetW at e
  split at e
  case h_2 => cases e
  rename_i r ds1 bs1 G1 e1
  cases e
  refine h Fz ba l b ds bs G σ H Hs r _ _ _ q e1 _ fun b' v H1 Hs1 q1 s1 d1 => ?_
  obtain ⟨dx, fs, us, t, R⟩ := q1.r
  exact p b' _ H1 Hs1 (q1.next t (R.set (x := .im r) d1) (Same.refl _) (by rw [List.getElem?_set_ne hj]; exact q1.g0) (List.getElem?_set_ne hj)) s1
def outV : Option (Fl × List D × List D × Gam) → Option (D × List D × List D)
  | some (.rt (.im d), ds, bs, _) => some (d, ds, bs)
  | some (.nx, ds, bs, _) => some (.non, ds, bs)
  | _ => none
def runV (k n : Nat) (f : MSV) (ds bs as : List D) : Option (D × List D × List D) := if as.length + 1 = k then outV (f ds bs (.un :: pad (n - 1) as)) else none
/-- no slot of a start owns anything -/
theorem pad_mu {n : Nat} {as : List D} {j : Nat} {e : Ent} (h : (Ent.un :: pad n as)[j]? = some e) : e.mu = none := by
  cases j with
  | zero => cases h; rfl
  | succ j =>
    rcases pad_get (show (pad n as)[j]? = some _ by simpa using h) with ⟨d, _, rfl⟩ | rfl <;> rfl
/-- what the caller holds, without the pair -/
def hid2 (l b : Addr) (H Hs : Hp) : Hp := fun a => if a = l ∨ a = b then none else hid H Hs a
theorem relV_start {N : List PySem.Str} {H Hs : Hp} {l b : Addr} {dx : Addr} {fs : List (PySem.Str × V)} {us : List V} {vs : List V} {ds bs as : List D} (s : Same Hs H) (hl : H l = some (.ins C dx fs)) (hb : H b = some (.lst us)) (nl : Hs l = none) (nb : Hs b = none) (ne : l ≠ b) (t : TabO K Hs b ds bs fs us) (d : DRs K Hs vs as) (hz : vs.length + 1 ≤ N.length) :
    RelV K (hid2 l b H Hs) (fun _ => 0) C 0 l b ds bs (.un :: pad (N.length - 1) as) (L2.start N (.ref l :: vs)) H Hs := by
  have e0 : L2.start N (.ref l :: vs) = some (.ref l) :: (vs.map some ++ List.replicate (N.length - (vs.length + 1)) none) := rfl
  refine ⟨if_pos (.inl rfl), if_pos (.inr rfl), ne, by rw [e0]; rfl, rfl, dx, fs, us, t, s, fun a o e => ?_, ?_, fun j d' e => ?_, fun j e m g g0 => ?_, fun j k e e' x h1 h2 m1 m2 _ _ => ?_, fun j m h => ?_⟩
  · by_cases z : a = b
    · subst z
      cases upd_same.symm.trans e
      exact ⟨hb, nb⟩
    · by_cases y : a = l
      · subst y
        cases (fz2_l ne).symm.trans e
        exact ⟨hl, nl⟩
      · have e := (fz2_on y z).symm.trans e
        exact hid_some ((if_neg fun w => w.elim y z).symm.trans e)
  · rw [start_len (by simpa using hz), List.length_cons, pad_len _ _ (by rw [← d.len]; omega)]
    omega
  · cases j with
    | zero => cases e
    | succ j =>
      rcases pad_get (show (pad (N.length - 1) as)[j]? = some _ by simpa using e) with ⟨e', h1, h2⟩ | h2
      · cases h2
        obtain ⟨v, v1, v2⟩ := d.at h1
        exact ⟨v, start_get (vs := .ref l :: vs) (by simpa using v1), v2⟩
      · cases h2
  · rw [pad_mu g] at g0; cases g0
  · exact absurd (pad_mu h1) m1
  · have := pad_mu h; cases this
theorem fin_V {N : List PySem.Str} {k : Nat} {t : TS} {f : MSV} (h : SOkV K C 0 t f) (hk : k ≤ N.length) {vs : List V} {H : Hp} {Q : VK} {E : XK} (q : spV K C (runV k N.length f) vs H Q E) : t { nx := fun _ H' => Q .non H', rt := Q } (L2.start N vs) H := by
  obtain ⟨Hs, l, b, dx, fs, us, vs', ds, bs, as, r, ds', bs', rfl, s, hl, hb, nl, nb, ne, t0, d, e, kk⟩ := q
  unfold runV at e
  split at e
  case isFalse => cases e
  rename_i hlen
  have R0 := relV_start (N := N) s hl hb nl nb ne t0 d (by rw [d.len, hlen]; exact hk)
  have fin : ∀ {b' G σ H' Hs' v r}, RelV K (hid2 l b H Hs) (fun _ => 0) C 0 l b' ds' bs' G σ H' Hs' → Same Hs Hs' → DR K Hs' v r → (∀ v H' Hs' b' dx' fs' us', (∀ x o, x ≠ l → x ≠ b → H x = some o → H' x = some o) → Same Hs Hs' → Same Hs' H' → (∀ x o, x ≠ b → H x = some o → Hs x = none → Hs' x = none) → (b' = b ∨ H b' = none) → l ≠ b' → H' l = some (.ins C dx' fs') → H' b' = some (.lst us') → Hs' l = none → Hs' b' = none → TabO K Hs' b' ds' bs' fs' us' → DR K Hs' v r → Q v H') → Q v H' := fun {b' G σ H' Hs' v r} q1 s1 dr kk => by
    obtain ⟨dx', fs', us', t', R⟩ := q1.r
    obtain ⟨hl', nl'⟩ := R.fz l _ (fz2_l q1.ne)
    obtain ⟨hb', nb'⟩ := R.fz b' _ upd_same
    have keep : ∀ x o, x ≠ l → x ≠ b → H x = some o → Hs x = none → H' x = some o ∧ Hs' x = none := fun x o n1 n2 hx nx => by
      have hx' : hid2 l b H Hs x = some o := (if_neg fun w => w.elim n1 n2).trans (hid_of hx nx)
      have n3 : x ≠ b' := fun w => by
        have z := q1.fb
        rw [← w, hx'] at z
        cases z
      exact R.fz x o ((fz2_on n1 n3).trans hx')
    refine kk v H' Hs' b' dx' fs' us' (fun x o n1 n2 hx => ?_) s1 R.sub (fun x o n2 hx nx => ?_) ?_ q1.ne hl' hb' nl' nb' t' dr
    · cases y : Hs x with
      | none => exact (keep x o n1 n2 hx y).1
      | some u =>
        have e := s x u y
        rw [hx] at e
        cases e
        exact R.sub x o (s1 x o y)
    · by_cases n1 : x = l
      · rw [n1]; exact nl'
      · exact (keep x o n1 n2 hx nx).2
    · by_cases n3 : b' = b
      · exact .inl n3
      · refine .inr ?_
        cases y : H b' with
        | none => rfl
        | some o =>
          have nx : Hs b' = none := by
            cases w : Hs b' with
            | none => rfl
            | some u =>
              rw [s1 b' u w] at nb'
              cases nb'
          have z := q1.fb
          rw [show hid2 l b H Hs b' = hid H Hs b' from if_neg fun w => w.elim (Ne.symm q1.ne) n3, hid_of y nx] at z
          cases z
  cases z : f ds bs (.un :: pad (N.length - 1) as) with
  | none => rw [z] at e; cases e
  | some p =>
    obtain ⟨fl, ds1, bs1, G'⟩ := p
    rw [z] at e
    refine h _ _ _ _ _ _ _ _ _ _ fl ds1 bs1 G' R0 z _ ?_
    cases fl with
    | nx => cases e; exact fun b' σ' H' Hs' q1 s1 => fin q1 s1 .non kk
    | rt r' =>
      cases r' with
      | im d' => cases e; exact fun b' v σ' H' Hs' q1 s1 x => fin q1 s1 x kk
      | ow m => cases e
    | bk => cases e
    | ct => cases e
end
end Bk
namespace Bk
open PySem L2
section
variable {K : PySem.W.Frag} {mg : PySem.Str → Option Value} {C : Addr}
/-- an __init__ that ends with a hidden list -/
def NOk (K : PySem.W.Frag) (C : Addr) (t : TS) (f : Gam → Option (List D × List D × Gam)) : Prop := ∀ Fz ba G σ H Hs ds bs G', Rel K Fz ba G σ H Hs → f G = some (ds, bs, G') →
  ∀ Dn : Ends, (∀ b σ' H' Hs', RelV K Fz ba C 0 (ba 0) b ds bs G' σ' H' Hs' → Same Hs Hs' → Dn.nx σ' H') → t Dn σ H
def nseq (a : MS) (c : Gam → Option (List D × List D × Gam)) : Gam → Option (List D × List D × Gam) := fun G => match a G with
  | some (.nx, G1) => c G1
  | _ => none
theorem nk_seq {t u : TS} {a : MS} {c : Gam → Option (List D × List D × Gam)} (ha : SOk K t a) (hc : NOk K C u c) : NOk K C (tSeq t u) (nseq a c) := fun Fz ba G σ H Hs ds bs G' q e Dn p => by
  unfold nseq at e
  split at e
  case h_2 => cases e
  rename_i G1 e1
  exact ha Fz ba G σ H Hs .nx G1 q e1 { Dn with nx := u Dn } fun σ1 H1 Hs1 q1 s1 => hc Fz ba G1 σ1 H1 Hs1 ds bs G' q1 e Dn fun b σ' H' Hs' r s => p b σ' H' Hs' r (s1.trans s)
def nnew (n : Nat) (a : M R) (c : MSV) : Gam → Option (List D × List D × Gam) := fun G => match a G with
  | some (.ow (.l es), G1) => (match (G1[0]? : Option Ent) with
    | some (.bx (.o 5 ds)) => if ds.length = n ∧ n < 5 then (match c ds es (G1.set 0 .un) with
      | some (.nx, ds', bs', G2) => some (ds', bs', G2)
      | _ => none) else none
    | _ => none)
  | _ => none
theorem nk_new {T : ClT K mg 5} {n : Nat} {nm : PySem.Str} (hf : (cAttrs 5)[n]? = some nm) (h1 : nm ∉ (cAttrs 5).take n) (h2 : (cAttrs 5).take (n + 1) = (cAttrs 5).take n ++ [nm]) {ta : TE} {u : TS} {a : M R} {c : MSV} (ha : GOk K ta a) (hc : SOkV K T.C 0 u c) : NOk K T.C (tSeq (sFld K (tVar 0) ta nm) u) (nnew n a c) := fun Fz ba G σ H Hs ds bs G' q e Dn p => by
  unfold nnew at e
  split at e
  case h_2 => cases e
  rename_i es G1 e1
  split at e
  case h_2 => cases e
  rename_i ds0 hg
  split at e
  case isFalse => cases e
  rename_i hn
  split at e
  case h_2 => cases e
  rename_i ds1 bs1 G2 e2
  cases e
  refine ha Fz ba G σ H Hs _ G1 q e1 _ fun v H1 Hs1 q1 s1 x => ?_
  obtain ⟨l, o, g1, g2, g3, g4, C', dx, fs, hC, rfl, hnm, hs⟩ := q1.mu 0 _ _ hg rfl
  cases hC.eq T.at_
  have hb0 := q1.bx 0 _ hg
  rw [g1] at hb0
  cases hb0
  obtain ⟨pp, o, rfl, x1, x2, x3, ⟨vs, rfl, x4⟩, x5⟩ := x
  have npl : pp ≠ ba 0 := fun z => x5 0 _ hg (by simp [Ent.mu]) (by rw [g1, z])
  have R1 : Rel K Fz ba (G1.set 0 .un) σ H1 Hs1 := q1.re rfl fun d z => nomatch z
  have R2 := R1.lock g2 g3 fun j e' g m => q1.notmu hg (by simp [Ent.mu]) g1 j e' g rfl m
  have R3 := R2.lock (o := .lst vs) x1 x2 fun j e' g m => by
    rcases get_set g with ⟨_, z, _⟩ | ⟨_, z⟩
    · subst z; exact absurd rfl m
    · exact x5 j e' z m
  have R4 : Rel K (fz2 Fz (ba 0) pp (.ins T.C dx (putF nm (.ref pp) fs)) vs) ba _ σ _ _ := R3.rehide_l (Ne.symm npl)
  obtain ⟨p1, p2⟩ := putF_new (f := nm) (v := .ref pp) (fs := fs) (by rw [hnm, hn.1]; exact h1)
  have hfl : fs.length < 1000 := by
    have z := congrArg List.length hnm
    rw [List.length_map, List.length_take] at z
    have : (cAttrs 5).length = 5 := rfl
    omega
  have l0 : 0 < G1.length := (List.getElem?_eq_some_iff.mp hg).1
  refine ⟨_, g1, ba 0, T.C, dx, fs, rfl, g2, T.cls, T.na nm (List.mem_of_getElem? hf), hfl, ?_⟩
  refine hc Fz ba (ba 0) pp ds0 es _ σ _ Hs1 .nx _ _ _ ⟨g4, x3, Ne.symm npl, g1, List.getElem?_set_self l0, dx, putF nm (.ref pp) fs, vs, ⟨by omega, ?_, ⟨fs.map (·.2), by rw [p2], hs⟩, x4⟩, R4⟩ e2 Dn fun b σ' H' Hs' r s => p b σ' H' Hs' r (s1.trans s)
  rw [p1, hnm, hn.1]
  exact h2.symm
def runN (k n : Nat) (f : Gam → Option (List D × List D × Gam)) (as : List D) : Option (List D × List D) := if as.length + 1 = k then (match f (.bx (.o 5 []) :: pad (n - 1) as) with
  | some (ds, bs, _) => some (ds, bs)
  | none => none) else none
def spN (K : PySem.W.Frag) (C : Addr) (m : List D → Option (List D × List D)) : Sp := fun vs H Q _ => ∃ Hs l dx vs' as ds bs, vs = V.ref l :: vs' ∧ Same Hs H ∧ H l = some (.ins C dx []) ∧ Hs l = none ∧ DRs K Hs vs' as ∧ m as = some (ds, bs) ∧
  ∀ H' Hs' b dx' fs us, (∀ x o, x ≠ l → H x = some o → H' x = some o) → Same Hs Hs' → Same Hs' H' → (∀ x o, H x = some o → Hs x = none → Hs' x = none) → H b = none → l ≠ b → H' l = some (.ins C dx' fs) → H' b = some (.lst us) → Hs' l = none → Hs' b = none → TabO K Hs' b ds bs fs us → Q .non H'
theorem fin_N {T : ClT K mg 5} {N : List PySem.Str} {k : Nat} {t : TS} {f : Gam → Option (List D × List D × Gam)} (h : NOk K T.C t f) (hk : k ≤ N.length) {vs : List V} {H : Hp} {Q : VK} {E : XK} (q : spN K T.C (runN k N.length f) vs H Q E) : t { nx := fun _ H' => Q .non H', rt := Q } (L2.start N vs) H := by
  obtain ⟨Hs, l, dx, vs', as, ds, bs, rfl, s, hl, nl, d, e, kk⟩ := q
  unfold runN at e
  split at e
  case isFalse => cases e
  rename_i hlen
  split at e
  case h_2 => cases e
  rename_i ds1 bs1 G1 e1
  cases e
  have R0 := rel_startB (N := N) (bds := .o 5 []) s hl nl ⟨T.C, dx, [], T.at_, rfl, rfl, .nil⟩ d (by rw [d.len, hlen]; exact hk)
  refine h _ _ _ _ _ _ ds bs G1 R0 e1 _ fun b σ' H' Hs' q1 s1 => ?_
  obtain ⟨dx', fs', us', t', R⟩ := q1.r
  obtain ⟨hl', nl'⟩ := R.fz l _ (fz2_l q1.ne)
  obtain ⟨hb', nb'⟩ := R.fz b _ upd_same
  have keep : ∀ x o, x ≠ l → H x = some o → Hs x = none → H' x = some o ∧ Hs' x = none := fun x o n1 hx nx => by
    have hx' := hidB_of (l := l) n1 hx nx
    have n3 : x ≠ b := fun w => by
      have z := q1.fb
      rw [← w, hx'] at z
      cases z
    exact R.fz x o ((fz2_on n1 n3).trans hx')
  refine kk H' Hs' b dx' fs' us' (fun x o n1 hx => ?_) s1 R.sub (fun x o hx nx => ?_) ?_ q1.ne hl' hb' nl' nb' t'
  · cases y : Hs x with
    | none => exact (keep x o n1 hx y).1
    | some u =>
      have e := s x u y
      rw [hx] at e
      cases e
      exact R.sub x o (s1 x o y)
  · by_cases n1 : x = l
    · rw [n1]; exact nl'
    · exact (keep x o n1 hx nx).2
  · cases y : H b with
    | none => rfl
    | some o =>
      have nx : Hs b = none := by
        cases w : Hs b with
        | none => rfl
        | some u =>
          rw [s1 b u w] at nb'
          cases nb'
      have z := q1.fb
      rw [hidB_of (Ne.symm q1.ne) y nx] at z
      cases z
theorem spN_len {k n : Nat} {f : Gam → Option (List D × List D × Gam)} {vs : List V} {H : Hp} {Q : VK} {E : XK} (q : spN K C (runN k n f) vs H Q E) : vs.length = k := by
  obtain ⟨Hs, l, dx, vs', as, ds, bs, rfl, s, hl, nl, d, e, kk⟩ := q
  unfold runN at e
  split at e
  case isFalse => cases e
  rename_i hl
  rw [List.length_cons, d.len, hl]
theorem spV_len {k n : Nat} {f : MSV} {vs : List V} {H : Hp} {Q : VK} {E : XK} (q : spV K C (runV k n f) vs H Q E) : vs.length = k := by
  obtain ⟨Hs, l, b, dx, fs, us, vs', ds, bs, as, r, ds', bs', rfl, s, hl, hb, nl, nb, ne, t0, d, e, kk⟩ := q
  unfold runV at e
  split at e
  case isFalse => cases e
  rename_i hl
  rw [List.length_cons, d.len, hl]
/-- x = C(..), then what is done with it; it is forgotten at the end -/
def xnewV (j : Nat) (m : List D → Option (List D × List D)) (a : M (List D)) (c : MSV) : MS := fun G => match a G with
  | some (xs, G1) => (match m xs with
    | some (ds, bs) => if j < G1.length then (match c ds bs (G1.set j .un) with
      | some (fl, _, _, G2) => some (fl, G2)
      | none => none) else none
    | none => none)
  | none => none
theorem sk_makeV {T : ClT K mg 5} {j : Nat} {m : List D → Option (List D × List D)} {E : XK} {ta : TA} {u : TS} {a : M (List D)} {c : MSV} (ha : AOk K ta a) (hc : SOkV K T.C j u c) : SOk K (tSeq (tAsg (tMake T.C (spN K T.C m) [] E ta) (gName j)) u) (xnewV j m a c) := fun Fz ba G σ H Hs fl G' q e Dn p => by
  unfold xnewV at e
  split at e
  case h_2 => cases e
  rename_i xs G1 e1
  split at e
  case h_2 => cases e
  rename_i ds bs hm
  split at e
  case isFalse => cases e
  rename_i hj
  split at e
  case h_2 => cases e
  rename_i fl0 ds1 bs1 G2 e2
  cases e
  refine ha Fz ba G σ H Hs xs _ q e1 _ fun vs H1 Hs1 q1 s1 d1 x dx hx hdx hne => ?_
  have hx2 : ∀ a o, H1 a = some o → upd (upd H1 dx (.own x)) x (.ins T.C dx []) a = some o := fun a o h => by
    rw [upd_ne (ne_of_none h hx), upd_ne (ne_of_none h hdx)]
    exact h
  have nsx : Hs1 x = none := q1.sub.free hx
  refine ⟨Hs1, x, dx, vs, xs, ds, bs, by rw [List.append_nil], fun a o h => hx2 a o (q1.sub a o h), upd_same, nsx, d1, hm, fun H3 Hs3 b dx3 fs us c1 c2 c3 c4 c5 c6 c7 c8 c9 c10 t => ⟨rfl, ?_⟩⟩
  · have _h := hj
    have hjs : j < σ.length := by rw [q1.len]; exact hj
    have fx : Fz x = none := by
      cases z : Fz x with
      | none => rfl
      | some u => have := (q1.fz x u z).1; rw [hx] at this; cases this
    have hb1 : H1 b = none := by
      cases z : H1 b with
      | none => rfl
      | some u => rw [hx2 b u z] at c5; cases c5
    have fb : Fz b = none := by
      cases z : Fz b with
      | none => rfl
      | some u => have := (q1.fz b u z).1; rw [hb1] at this; cases this
    have q0 := q1.set (i := j) (v := .non) (x := .im .non) .non
    have R : Rel K (fz2 Fz x b (.ins T.C dx3 fs) us) ba (G1.set j .un) (σ.set j (some (.ref x))) H3 Hs3 := by
      refine ⟨c3, fun a o e => ?_, by rw [List.length_set, List.length_set]; exact q1.len, fun k d e => ?_, fun k e m g g0 => ?_, fun k k' e e' y g1 g2 m1 m2 t1 t2 => ?_, fun k m g => ?_⟩
      · by_cases z : a = b
        · subst z
          cases upd_same.symm.trans e
          exact ⟨c8, c10⟩
        · by_cases y : a = x
          · subst y
            cases (fz2_l c6).symm.trans e
            exact ⟨c7, c9⟩
          · have e := (fz2_on y z).symm.trans e
            obtain ⟨g1, g2⟩ := q1.fz a o e
            exact ⟨c1 a o y (hx2 a o g1), c4 a o (hx2 a o g1) g2⟩
      · rcases get_set e with ⟨_, z, _⟩ | ⟨ne, z⟩
        · cases z
        · obtain ⟨v, g1, g2⟩ := q1.im k d z
          exact ⟨v, by rw [List.getElem?_set_ne ne]; exact g1, g2.mono c2⟩
      · rcases get_set g with ⟨_, z, _⟩ | ⟨ne, z⟩
        · subst z; cases g0
        · obtain ⟨l', o', h1, h2, h3, h4, h5⟩ := q1.mu k e m z g0
          have n1 : l' ≠ x := ne_of_none h2 hx
          have n2 : l' ≠ b := ne_of_none h2 hb1
          exact ⟨l', o', by rw [List.getElem?_set_ne ne]; exact h1, c1 l' _ n1 (hx2 l' _ h2), c4 l' _ (hx2 l' _ h2) h3, (fz2_on n1 n2).trans h4, h5.mono c2⟩
      · rcases get_set g1 with ⟨_, z, _⟩ | ⟨n1, z1⟩
        · subst z; exact absurd rfl m1
        · rcases get_set g2 with ⟨_, z, _⟩ | ⟨n2, z2⟩
          · subst z; exact absurd rfl m2
          · rw [List.getElem?_set_ne n1] at t1
            rw [List.getElem?_set_ne n2] at t2
            exact q1.dj k k' e e' y z1 z2 m1 m2 t1 t2
      · rcases get_set g with ⟨_, z, _⟩ | ⟨ne, z⟩
        · cases z
        · rw [List.getElem?_set_ne ne]
          exact q1.bx k m z
    refine hc Fz ba x b ds bs _ _ H3 Hs3 fl ds1 bs1 _ ⟨fx, fb, c6, List.getElem?_set_self hjs, List.getElem?_set_self hj, dx3, fs, us, t, R⟩ e2 Dn ?_
    have off : ∀ {b' σ' H' Hs'}, RelV K Fz ba T.C j x b' ds1 bs1 G' σ' H' Hs' → Rel K Fz ba G' σ' H' Hs' := fun {b' σ' H' Hs'} r => by
      obtain ⟨dx4, fs4, us4, t4, R4⟩ := r.r
      exact (R4.unhide ((upd_ne (Ne.symm r.ne)).trans r.fb)).unhide r.fl
    cases fl with
    | nx => exact fun b' σ' H' Hs' r s => p σ' H' Hs' (off r) (s1.trans (c2.trans s))
    | bk => exact fun b' σ' H' Hs' r s => p σ' H' Hs' (off r) (s1.trans (c2.trans s))
    | ct => exact fun b' σ' H' Hs' r s => p σ' H' Hs' (off r) (s1.trans (c2.trans s))
    | rt r0 => exact fun b' v σ' H' Hs' r s y => p v σ' H' Hs' (off r) (s1.trans (c2.trans s)) (y.fz fun a h => (fz2_off h).2.2)
end
section
variable {P : Program} {w : World} {K : PySem.W.Frag} {mg : PySem.Str → Option Value} {base : Heap}
theorem data_V {C : Addr} {x qual : PySem.Str} {st : Stmt} {f : Addr} {fd : FuncData} {N ps : List PySem.Str} {k : Nat} {b : MSV} (F : Fun K x qual st f fd) (S : FnScope N ps (defScope st))
    (hb : ∀ (cdv : Value) (A : Around) (outer : List Env) (s : Shared) (H : Hp) (E : XK), Room k (A.deeper (PyProof.Rows.envOfC qual (defScope st) s.heap.objs.size f cdv)) →
      ∃ t, PSs (cxOf CX0 P w K mg base N qual (defScope st) f cdv A outer s H E).nox (defBody st) t ∧ SOkV K C 0 t b) : FnOk P w K mg base CX0 (k + 1) f fd ps (spV K C (runV ps.length N.length b)) :=
  F.ok S (fun vs H Q E q => spV_len q) fun cdv A outer s H vs Q E hr q => by
    obtain ⟨t, h1, h2⟩ := hb cdv A outer s H E hr
    exact ⟨t, h1, fin_V h2 (scope_le S) q⟩
theorem data_N {T : ClT K mg 5} {x qual : PySem.Str} {st : Stmt} {f : Addr} {fd : FuncData} {N ps : List PySem.Str} {k : Nat} {b : Gam → Option (List D × List D × Gam)} (F : Fun K x qual st f fd) (S : FnScope N ps (defScope st))
    (hb : ∀ (cdv : Value) (A : Around) (outer : List Env) (s : Shared) (H : Hp) (E : XK), Room k (A.deeper (PyProof.Rows.envOfC qual (defScope st) s.heap.objs.size f cdv)) →
      ∃ t, PSs (cxOf CX0 P w K mg base N qual (defScope st) f cdv A outer s H E).nox (defBody st) t ∧ NOk K T.C t b) : FnOk P w K mg base CX0 (k + 1) f fd ps (spN K T.C (runN ps.length N.length b)) :=
  F.ok S (fun vs H Q E q => spN_len q) fun cdv A outer s H vs Q E hr q => by
    obtain ⟨t, h1, h2⟩ := hb cdv A outer s H E hr
    exact ⟨t, h1, fin_N h2 (scope_le S) q⟩
end
end Bk
namespace Bk
open PySem L2
section
variable {K : PySem.W.Frag}
inductive PkOk (K : PySem.W.Frag) : List (TE × TE) → List PySem.Str → M (List D) → Prop where
  | nil : PkOk K [] [] xnil
  | cons {k : PySem.Str} {tv : TE} {a : M R} {trs : List (TE × TE)} {ks : List PySem.Str} {r : M (List D)} : GOk K tv a → PkOk K trs ks r → PkOk K ((tC (.str k), tv) :: trs) (k :: ks) (xcons a r)
theorem PkOk.run {trs : List (TE × TE)} {ks : List PySem.Str} {f : M (List D)} (h : PkOk K trs ks f) : ∀ {Fz ba G σ H Hs ds G'}, Rel K Fz ba G σ H Hs → f G = some (ds, G') →
    ∀ Q : List (V × V) → Hp → Prop, (∀ vs H' Hs', Rel K Fz ba G' σ H' Hs' → Same Hs Hs' → DRs K Hs' vs ds → vs.length = ks.length → Q ((ks.map V.str).zip vs) H') → tPairs trs σ H Q := by
  induction h with
  | nil =>
    intro Fz ba G σ H Hs ds G' q e Q k
    cases e
    exact k [] H Hs q (Same.refl _) .nil rfl
  | cons ha _ ih =>
    intro Fz ba G σ H Hs ds G' q e Q k
    obtain ⟨x, G1, e1, e⟩ := bd_inv e
    obtain ⟨xs, G2, e2, e⟩ := bd_inv e
    cases e
    refine ha.im q e1 fun v1 H1 Hs1 q1 s1 d1 => ?_
    exact ih q1 e2 _ fun vs H2 Hs2 q2 s2 d2 l2 => k (v1 :: vs) H2 Hs2 q2 (s1.trans s2) (.cons (d1.mono s2) d2) (congrArg Nat.succ l2)
end
end Bk
namespace Bk
open PySem L2 PySem.Spec PyProof.Rows
def pick {α : Type} (is : List Nat) (l : List α) : List α := is.filterMap fun i => l[i]?
theorem paired_at {α β : Type} {R : α → β → Prop} : ∀ {as : List α} {bs : List β} (i : Nat), Paired R as bs → (as[i]? = none ∧ bs[i]? = none) ∨ ∃ a b, as[i]? = some a ∧ bs[i]? = some b ∧ R a b
  | _, _, _, .nil => .inl ⟨by simp, by simp⟩
  | _, _, 0, .cons h _ => .inr ⟨_, _, rfl, rfl, h⟩
  | _, _, i + 1, .cons _ t => by
    rcases paired_at i t with ⟨a, b⟩ | ⟨a, b, h1, h2, h3⟩
    · exact .inl ⟨by simpa using a, by simpa using b⟩
    · exact .inr ⟨a, b, by simpa using h1, by simpa using h2, h3⟩
theorem pick_pair {α β : Type} {R : α → β → Prop} {as : List α} {bs : List β} (h : Paired R as bs) : ∀ is : List Nat, Paired R (pick is as) (pick is bs)
  | [] => .nil
  | i :: is => by
    rcases paired_at i h with ⟨a, b⟩ | ⟨a, b, h1, h2, h3⟩
    · have e1 : pick (i :: is) as = pick is as := by unfold pick; rw [List.filterMap_cons, a]
      have e2 : pick (i :: is) bs = pick is bs := by unfold pick; rw [List.filterMap_cons, b]
      rw [e1, e2]
      exact pick_pair h is
    · have e1 : pick (i :: is) as = a :: pick is as := by unfold pick; rw [List.filterMap_cons, h1]
      have e2 : pick (i :: is) bs = b :: pick is bs := by unfold pick; rw [List.filterMap_cons, h2]
      rw [e1, e2]
      exact .cons h3 (pick_pair h is)
section
variable {K : PySem.W.Frag}
theorem pick_drs {H : Hp} {vs : List V} {ds : List D} (h : DRs K H vs ds) : ∀ is : List Nat, DRs K H (pick is vs) (pick is ds)
  | [] => .nil
  | i :: is => by
    cases z : vs[i]? with
    | none =>
      have z2 : ds[i]? = none := by
        rw [List.getElem?_eq_none_iff] at z ⊢
        rw [← h.len]
        exact z
      have e1 : pick (i :: is) vs = pick is vs := by unfold pick; rw [List.filterMap_cons, z]
      have e2 : pick (i :: is) ds = pick is ds := by unfold pick; rw [List.filterMap_cons, z2]
      rw [e1, e2]
      exact pick_drs h is
    | some v =>
      obtain ⟨d, h1, h2⟩ := h.ta z
      have e1 : pick (i :: is) vs = v :: pick is vs := by unfold pick; rw [List.filterMap_cons, z]
      have e2 : pick (i :: is) ds = d :: pick is ds := by unfold pick; rw [List.filterMap_cons, h1]
      rw [e1, e2]
      exact .cons h2 (pick_drs h is)
end
section
variable {X : Cx} {CX : CXT} {k n : Nat} {f C p g : Addr} {mc : Value} {fd : FuncData} {ps ks : List PySem.Str} {sp : Sp} {E : XK} {x m : PySem.Str} {p0 pos apos : Pos} {o e : Expr} {es : List Expr} {kws : List Keyword} {ta : TE} {t tk : TA} {gL : List Value → List Value → List Value} {gV : List V → List V → List V}
  {ds : List Value} {dvs : List V}
/-- f(k = v, ..) -/
theorem pe_callN0 (F : FnOk X.prog X.w X.K X.mg X.base CX k f fd ps sp) (hr : Room k X.A) (hg : Gl X x) (hm : X.mg x = some (.ref f)) (hk : PySem.W.keepIn X.K (.ref f) = true) (hb : KBn X.K fd ps 0 ks gL gV) (hx : Passes CX X E)
    (hkw : PK X kws tk) (hall : (backToKw pos (keywordEach kws X.env)).all (·.1.isSome) = true := by rfl) (hks : (backToKw pos (keywordEach kws X.env)).filterMap (·.1) = ks := by rfl)
    (hdb : (x == ("__debug__" : PySem.Str)) = false := by decide) (hpl : ((backTo pos (starEach [] X.env)).any (·.1) || (backToKw pos (keywordEach kws X.env)).any (·.1.isNone)) = false := by rfl) :
    PE X (.Call (.Name x p0) [] kws pos) (tCallN 0 ks.length sp gV E tNil tk) := by
  refine ⟨fun pins s σ H Q I h => ?_⟩
  refine wpAny_Call_Name_kw (ld_glob I hg hm ?_ hdb)
  refine PySem.W.callWith_KW0 (h₀ := X.base) I.ok.mod.kin hk hall ?_ hpl
  refine thn (hkw.run pos pins s σ H _ I h) fun ws s2 ⟨zs, H2, I2, rz, l1, l2, q2⟩ => ⟨I2.kIn, ?_⟩
  rw [hks]
  exact run_fnN (us := []) (vs := []) F hr hb hx I2 .nil rz rfl l2 q2
end
def xcallK (m : List D → Option R) (n k : Nat) (is : List Nat) (dds : List D) (a ka : M (List D)) : M R := fun G => bd (a G) fun xs G1 => bd (ka G1) fun ys G2 => if xs.length = n ∧ ys.length = k then (match m (pick is (xs ++ (ys ++ dds))) with
  | some r => some (r, G2)
  | none => none) else none
section
variable {K : PySem.W.Frag} {mg : PySem.Str → Option Value}
theorem gk_callK {m : List D → Option R} {n k : Nat} {is : List Nat} {dds : List D} {dvs : List V} {E : XK} {ta tk : TA} {a ka : M (List D)} (hd : ∀ H, DRs K H dvs dds) (ha : AOk K ta a) (hk : AOk K tk ka) :
    GOk K (tCallN n k (spF K m) (fun vs zs => pick is (vs ++ (zs ++ dvs))) E ta tk) (xcallK m n k is dds a ka) := fun Fz ba G σ H Hs res G' q e Q kk => by
  obtain ⟨xs, G1, e1, e⟩ := bd_inv e
  obtain ⟨ys, G2, e2, e⟩ := bd_inv e
  split at e
  case isFalse => cases e
  rename_i hl
  split at e
  case h_2 => cases e
  rename_i r h
  cases e
  refine ha Fz ba G σ H Hs xs _ q e1 _ fun vs H1 Hs1 q1 s1 d1 => ?_
  refine hk Fz ba G1 σ H1 Hs1 ys _ q1 e2 _ fun zs H2 Hs2 q2 s2 d2 => ⟨d1.len.trans hl.1, d2.len.trans hl.2, ?_⟩
  exact ⟨Hs2, _, _, q2.sub, pick_drs ((d1.mono s2).app (d2.app (hd _))) is, h, fun v H3 Hs3 ex rf => kk v H3 Hs3 (q2.ext ex) ((s1.trans s2).trans ex.b) (rf.res q2)⟩
end
end Bk
namespace Bk
open PySem L2 PySem.Spec PyProof.Rows
section
variable {K : PySem.W.Frag}
theorem kb_F {x qual : PySem.Str} {st : Stmt} {f : Addr} {fd : FuncData} {ps : List PySem.Str} (F : Fun K x qual st f fd) (n : Nat) (ks : List PySem.Str) (is : List Nat)
    (h : ∀ (kV doc pm : Value) (an : Option Addr) (cdv ct : Value) (us ws : List Value), us.length = n → ws.length = ks.length → bindArgs (PySem.W.fnOf x qual (defArgs st) (defBody st) (defScope st) .none kV doc pm an cdv ct) ⟨us, ks.zip ws⟩ = pure (ps.zip (pick is (us ++ ws)))) :
    KBn K fd ps n ks (fun us ws => pick is (us ++ (ws ++ []))) (fun vs zs => pick is (vs ++ (zs ++ []))) := by
  obtain ⟨oc, od, kV, doc, pm, an, cdv, ct, osl, rfl, lk, hcd⟩ := F.ex
  refine ⟨fun s us ws X l1 l2 => BindsTo.of_eq ?_, fun r1 r2 => pick_pair (r1.append (r2.append .nil)) is⟩
  rw [List.append_nil]
  exact h kV doc pm an cdv ct us ws l1 l2
theorem ln0 {α : Type} {us : List α} (hl : us.length = 0) : us = [] := match us, hl with | [], _ => rfl
theorem ln2 {α : Type} {us : List α} (hl : us.length = 2) : ∃ a b, us = [a, b] := match us, hl with | [a, b], _ => ⟨a, b, rfl⟩
theorem ln3 {α : Type} {us : List α} (hl : us.length = 3) : ∃ a b c, us = [a, b, c] := match us, hl with | [a, b, c], _ => ⟨a, b, c, rfl⟩
theorem ln4 {α : Type} {us : List α} (hl : us.length = 4) : ∃ a b c d, us = [a, b, c, d] := match us, hl with | [a, b, c, d], _ => ⟨a, b, c, d, rfl⟩
theorem ln5 {α : Type} {us : List α} (hl : us.length = 5) : ∃ a b c d e, us = [a, b, c, d, e] := match us, hl with | [a, b, c, d, e], _ => ⟨a, b, c, d, e, rfl⟩
end
end Bk
namespace Bk
open PySem L2
def c_MINUS : D := .tup [.int (-1), .int (1)]
def c_NOUGHT : D := .tup [.int (0), .int (1)]
def c_ONE : D := .tup [.int (1), .int (1)]
def b_is_sequence : MS := (xret (xcb cbIsiS (xcons (xv 0) (xcons (xtup (xcons (xc (.ty "list")) (xcons (xc (.ty "tuple")) xnil))) xnil))))
def r_is_sequence : List D → Option R := runF 1 1 b_is_sequence
def b_is_less : MS := (xret (xop opLt (xop opMul (xop opIx (xv 0) (xc (.int 0))) (xop opIx (xv 1) (xc (.int 1)))) (xop opMul (xop opIx (xv 1) (xc (.int 0))) (xop opIx (xv 0) (xc (.int 1))))))
def r_is_less : List D → Option R := runF 2 2 b_is_less
def b_is_integer : MS := (xret (xvand (xcb cbIsi (xcons (xv 0) (xcons (xc (.ty "int")) xnil))) (xvnot (xcb cbIsi (xcons (xv 0) (xcons (xc (.ty "bool")) xnil))))))
def r_is_integer : List D → Option R := runF 1 1 b_is_integer
def b_divisor_1 : MS := (ypar 0 1 (ycons (xv 1) (ycons (xop opMod (xv 0) (xv 1)) ynil)))
def b_divisor : MS := (xseq (ypar 0 1 (ycons (xcb cbAbs (xcons (xv 0) xnil)) (ycons (xcb cbAbs (xcons (xv 1) xnil)) ynil)))
  (xseq (xwhile (fuelI 1) (xtest (xop opNe (xv 1) (xc (.int 0)))) b_divisor_1)
  (xret (xmv 0))))
def r_divisor : List D → Option R := runF 2 2 b_divisor
def b_is_pair : MS := (xseq (xifs (xtor (xtnot (xtru (xcb cbIsi (xcons (xv 0) (xcons (xc (.ty "tuple")) xnil))))) (xtor (xtest (xop opNe (xcb cbLen (xcons (xv 0) xnil)) (xc (.int 2)))) (xtnot (xtru (xcb cbAll (xcons (xlc (xseqI (xv 0)) (tgn 1) xtyes (xcall r_is_integer (xcons (xv 1) xnil)) [1]) xnil)))))) (xret (xc (.bl false))) xnext)
  (xret (xvand (xop opGt (xop opIx (xv 0) (xc (.int 1))) (xc (.int 0))) (xop opEq (xcall r_divisor (xcons (xop opIx (xv 0) (xc (.int 0))) (xcons (xop opIx (xv 0) (xc (.int 1))) xnil))) (xc (.int 1))))))
def r_is_pair : List D → Option R := runF 1 2 b_is_pair
def b_is_value : MS := (xret (xvor (xcall r_is_integer (xcons (xv 0) xnil)) (xcall r_is_pair (xcons (xv 0) xnil))))
def r_is_value : List D → Option R := runF 1 1 b_is_value
def b_value_of : MS := (xret (xif (xtru (xcall r_is_integer (xcons (xv 0) xnil))) (xtup (xcons (xv 0) (xcons (xc (.int 1)) xnil))) (xv 0)))
def r_value_of : List D → Option R := runF 1 1 b_value_of
def b_is_between : MS := (xret (xvand (xcall r_is_value (xcons (xv 0) xnil)) (xvand (xvnot (xcall r_is_less (xcons (xcall r_value_of (xcons (xv 0) xnil)) (xcons (xv 1) xnil)))) (xvnot (xcall r_is_less (xcons (xv 2) (xcons (xcall r_value_of (xcons (xv 0) xnil)) xnil)))))))
def r_is_between : List D → Option R := runF 3 3 b_is_between
def b_is_share : MS := (xseq (xifs (xtor (xtnot (xtru (xcb cbIsi (xcons (xv 0) (xcons (xc (.ty "tuple")) xnil))))) (xtor (xtest (xop opNe (xcb cbLen (xcons (xv 0) xnil)) (xc (.int 3)))) (xtnot (xtru (xcall r_is_value (xcons (xop opIx (xv 0) (xc (.int 2))) xnil)))))) (xret (xc (.bl false))) xnext)
  (xseq (xifs (xtor (xtnot (xtru (xcall r_is_between (xcons (xop opIx (xv 0) (xc (.int 0))) (xcons (xv 1) (xcons (xv 2) xnil)))))) (xtnot (xtru (xcall r_is_between (xcons (xop opIx (xv 0) (xc (.int 1))) (xcons (xv 1) (xcons (xv 2) xnil))))))) (xret (xc (.bl false))) xnext)
  (xret (xcall r_is_less (xcons (xcall r_value_of (xcons (xop opIx (xv 0) (xc (.int 0))) xnil)) (xcons (xcall r_value_of (xcons (xop opIx (xv 0) (xc (.int 1))) xnil)) xnil))))))
def r_is_share : List D → Option R := runF 3 3 b_is_share
def b_is_weight : MS := (xseq (xifs (xtor (xtnot (xtru (xcb cbIsi (xcons (xv 0) (xcons (xc (.ty "tuple")) xnil))))) (xtest (xop opNe (xcb cbLen (xcons (xv 0) xnil)) (xc (.int 2))))) (xret (xc (.bl false))) xnext)
  (xret (xvand (xcall r_is_between (xcons (xop opIx (xv 0) (xc (.int 0))) (xcons (xv 1) (xcons (xv 2) xnil)))) (xcall r_is_value (xcons (xop opIx (xv 0) (xc (.int 1))) xnil)))))
def r_is_weight : List D → Option R := runF 3 3 b_is_weight
def b_ascending_1 : MS := (xset 1 (xop opFdiv (xop opMul (xv 1) (xv 3)) (xcall r_divisor (xcons (xv 1) (xcons (xv 3) xnil)))))
def b_ascending : MS := (xseq (xset 1 (xc (.int 1)))
  (xseq (xfor (xseqI (xv 0)) (tgt [(tgn 2), (tgn 3)]) b_ascending_1)
  (xseq (xset 4 (xcb cbSorted (xcons (xlc (xseqI (xv 0)) (tgn 5) xtyes (xtup (xcons (xop opMul (xop opIx (xv 5) (xc (.int 0))) (xop opFdiv (xv 1) (xop opIx (xv 5) (xc (.int 1))))) (xcons (xv 5) xnil))) [5]) xnil)))
  (xret (xlc (xenumA (xcons (xv 4) xnil)) (tgt [(tgn 6), (tgt [(tgn 7), (tgn 5)])]) (xtor (xtest (xop opEq (xv 6) (xc (.int 0)))) (xtest (xop opNe (xop opIx (xop opIx (xv 4) (xop opSub (xv 6) (xc (.int 1)))) (xc (.int 1))) (xv 5)))) (xv 5) [6, 7, 5])))))
def r_ascending : List D → Option R := runF 1 8 b_ascending
def b_lowest : MS := (xseq (xset 2 (xcall r_divisor (xcons (xv 0) (xcons (xv 1) xnil))))
  (xseq (xset 2 (xif (xtest (xop opLt (xv 1) (xc (.int 0)))) (xun unNeg (xv 2)) (xv 2)))
  (xret (xtup (xcons (xop opFdiv (xv 0) (xv 2)) (xcons (xop opFdiv (xv 1) (xv 2)) xnil))))))
def r_lowest : List D → Option R := runF 2 3 b_lowest
def b_added : MS := (xret (xcall r_lowest (xcons (xop opAddB (xop opMul (xop opIx (xv 0) (xc (.int 0))) (xop opIx (xv 1) (xc (.int 1)))) (xop opMul (xop opIx (xv 1) (xc (.int 0))) (xop opIx (xv 0) (xc (.int 1))))) (xcons (xop opMul (xop opIx (xv 0) (xc (.int 1))) (xop opIx (xv 1) (xc (.int 1)))) xnil))))
def r_added : List D → Option R := runF 2 2 b_added
def b_summed_1 : MS := (xset 1 (xcall r_added (xcons (xv 1) (xcons (xv 2) xnil))))
def b_summed : MS := (xseq (xset 1 (xc c_NOUGHT))
  (xseq (xfor (xseqI (xv 0)) (tgn 2) b_summed_1)
  (xret (xmv 1))))
def r_summed : List D → Option R := runF 1 3 b_summed
def b_least_shares_1 : MS := (xseq (xset 6 (xlc (xseqI (xv 1)) (tgt [(tgn 10), (tgn 11), (tgn 8)]) (xtand (xtnot (xtru (xcall r_is_less (xcons (xv 4) (xcons (xv 10) xnil))))) (xtnot (xtru (xcall r_is_less (xcons (xv 11) (xcons (xv 5) xnil)))))) (xv 8) [10, 11, 8]))
  (xseq (xset 7 (xcall r_summed (xcons (xv 6) xnil)))
  (xifs (xtand (xtest (xop opGt (xcb cbLen (xcons (xv 3) xnil)) (xc (.int 0)))) (xtest (xop opEq (xop opIx (xop opIx (xv 3) (xun unNeg (xc (.int 1)))) (xc (.int 2))) (xv 7)))) (xset 3 (xlst (xstar (xsl slB (xv 3) xnop (xpart (xun unNeg (xc (.int 1))))) (xcons (xtup (xcons (xop opIx (xop opIx (xv 3) (xun unNeg (xc (.int 1)))) (xc (.int 0))) (xcons (xv 5) (xcons (xv 7) xnil)))) xnil)))) (xset 3 (xlst (xstar (xv 3) (xcons (xtup (xcons (xv 4) (xcons (xv 5) (xcons (xv 7) xnil)))) xnil)))))))
def b_least_shares : MS := (xseq (xset 1 (xlc (xseqI (xv 0)) (tgt [(tgn 4), (tgn 5), (tgn 8)]) xtyes (xtup (xcons (xcall r_value_of (xcons (xv 4) xnil)) (xcons (xcall r_value_of (xcons (xv 5) xnil)) (xcons (xcall r_value_of (xcons (xv 8) xnil)) xnil)))) [4, 5, 8]))
  (xseq (xset 2 (xcall r_ascending (xcons (xlc2 (xseqI (xv 1)) (tgt [(tgn 4), (tgn 5), (tgn 8)]) xtyes (xseqI (xtup (xcons (xv 4) (xcons (xv 5) xnil)))) (tgn 9) xtyes (xv 9) [4, 5, 8, 9] [9]) xnil)))
  (xseq (xset 3 (xlst xnil))
  (xseq (xfor (xzipA (xcons (xv 2) (xcons (xsl slB (xv 2) (xpart (xc (.int 1))) xnop) xnil))) (tgt [(tgn 4), (tgn 5)]) b_least_shares_1)
  (xret (xcb cbTuple (xcons (xlc (xseqI (xv 3)) (tgn 12) (xtest (xop opNe (xop opIx (xv 12) (xc (.int 2))) (xc c_NOUGHT))) (xv 12) [12]) xnil)))))))
def r_least_shares : List D → Option R := runF 1 13 b_least_shares
def b_least_weights_1 : MS := (xapp 2 (xtup (xcons (xv 3) (xcons (xcall r_summed (xcons (xlc (xseqI (xv 1)) (tgt [(tgn 5), (tgn 4)]) (xtest (xop opEq (xv 5) (xv 3))) (xv 4) [5, 4]) xnil)) xnil))))
def b_least_weights : MS := (xseq (xset 1 (xlc (xseqI (xv 0)) (tgt [(tgn 3), (tgn 4)]) xtyes (xtup (xcons (xcall r_value_of (xcons (xv 3) xnil)) (xcons (xcall r_value_of (xcons (xv 4) xnil)) xnil))) [3, 4]))
  (xseq (xset 2 (xlst xnil))
  (xseq (xfor (xseqI (xcall r_ascending (xcons (xlc (xseqI (xv 1)) (tgt [(tgn 3), (tgn 4)]) xtyes (xv 3) [3, 4]) xnil))) (tgn 3) b_least_weights_1)
  (xret (xcb cbTuple (xcons (xlc (xseqI (xv 2)) (tgn 6) (xtest (xop opNe (xop opIx (xv 6) (xc (.int 1))) (xc c_NOUGHT))) (xv 6) [6]) xnil))))))
def r_least_weights : List D → Option R := runF 1 7 b_least_weights
def b_need_stretch : MS := (xseq (xifs (xtnot (xtru (xcall r_is_value (xcons (xv 0) xnil)))) xnever xnext)
  (xseq (xifs (xtor (xtnot (xtru (xcall r_is_value (xcons (xv 1) xnil)))) (xtnot (xtru (xcall r_is_less (xcons (xcall r_value_of (xcons (xv 0) xnil)) (xcons (xcall r_value_of (xcons (xv 1) xnil)) xnil)))))) xnever xnext)
  (xret (xtup (xcons (xcall r_value_of (xcons (xv 0) xnil)) (xcons (xcall r_value_of (xcons (xv 1) xnil)) xnil))))))
def r_need_stretch : List D → Option R := runF 2 2 b_need_stretch
def b_Rule_init : MS := (xseq (xasgF 0 0 0 1 (xcall r_need_stretch (xcons (xv 1) (xcons (xv 2) xnil))))
  (xseq (xifs (xtor (xtnot (xtru (xcall r_is_sequence (xcons (xv 3) xnil)))) (xtnot (xtru (xcb cbAll (xcons (xlc (xseqI (xv 3)) (tgn 5) xtyes (xcall r_is_weight (xcons (xv 5) (xcons (xfldv 0 0 0) (xcons (xfldv 0 0 1) xnil)))) [5]) xnil))))) xnever xnext)
  (xseq (xifs (xtor (xtnot (xtru (xcall r_is_sequence (xcons (xv 4) xnil)))) (xtnot (xtru (xcb cbAll (xcons (xlc (xseqI (xv 4)) (tgn 5) xtyes (xcall r_is_share (xcons (xv 5) (xcons (xfldv 0 0 0) (xcons (xfldv 0 0 1) xnil)))) [5]) xnil))))) xnever xnext)
  (xseq (xsetf 0 0 2 (xcall r_least_weights (xcons (xv 3) xnil)))
  (xsetf 0 0 3 (xcall r_least_shares (xcons (xv 4) xnil)))))))
def r_Rule_init : Mob → List D → Option (R × Mob) := runB 5 6 b_Rule_init
def b_Rule_add : MS := (xseq (xifs (xtest (xop opNe (xtup (xcons (xfld 0 0 (xv 0)) (xcons (xfld 0 1 (xv 0)) xnil))) (xtup (xcons (xfld 0 0 (xv 1)) (xcons (xfld 0 1 (xv 1)) xnil))))) xnever xnext)
  (xret (xmake 0 r_Rule_init ([.tup [], .tup []].drop 2) (xcons (xfld 0 0 (xv 0)) (xcons (xfld 0 1 (xv 0)) (xcons (xlst (xstar (xfld 0 2 (xv 0)) (xstar (xfld 0 2 (xv 1)) xnil))) (xcons (xlst (xstar (xfld 0 3 (xv 0)) (xstar (xfld 0 3 (xv 1)) xnil))) xnil)))))))
def r_Rule_add : List D → Option R := runF 2 2 b_Rule_add
def b_Rule_neg : MS := (xseq (xset 1 (xlc (xseqI (xfld 0 2 (xv 0))) (tgt [(tgn 2), (tgt [(tgn 3), (tgn 4)])]) xtyes (xtup (xcons (xv 2) (xcons (xtup (xcons (xun unNeg (xv 3)) (xcons (xv 4) xnil))) xnil))) [2, 3, 4]))
  (xret (xmake 0 r_Rule_init ([.tup [], .tup []].drop 2) (xcons (xfld 0 0 (xv 0)) (xcons (xfld 0 1 (xv 0)) (xcons (xv 1) (xcons (xlc (xseqI (xfld 0 3 (xv 0))) (tgt [(tgn 5), (tgn 6), (tgt [(tgn 3), (tgn 4)])]) xtyes (xtup (xcons (xv 5) (xcons (xv 6) (xcons (xtup (xcons (xun unNeg (xv 3)) (xcons (xv 4) xnil))) xnil)))) [5, 6, 3, 4]) xnil)))))))
def r_Rule_neg : List D → Option R := runF 1 7 b_Rule_neg
def b_Rule_sub : MS := (xret (xop (opOwn 0 r_Rule_add opAddB) (xv 0) (xun (unOwn 0 r_Rule_neg unNeg) (xv 1))))
def r_Rule_sub : List D → Option R := runF 2 2 b_Rule_sub
def b_area : MS := (xseq (xasg (xcall r_need_stretch (xcons (xv 0) (xcons (xv 1) xnil))) (tgt [(tgn 2), (tgn 3)]))
  (xret (xmake 0 r_Rule_init ([.tup [], .tup []].drop 2) (xcons (xv 2) (xcons (xv 3) (xcons (xlst xnil) (xcons (xlst (xcons (xtup (xcons (xv 2) (xcons (xv 3) (xcons (xc (.int 1)) xnil)))) xnil)) xnil)))))))
def r_area : List D → Option R := runF 2 4 b_area
def b_product_to_1 : MS := (xaug 1 opMulI (xv 2))
def b_product_to : MS := (xseq (xset 1 (xc (.int 1)))
  (xseq (xfor (xrange2 (xcons (xc (.int 2)) (xcons (xop opAddB (xv 0) (xc (.int 1))) xnil))) (tgn 2) b_product_to_1)
  (xret (xmv 1))))
def r_product_to : List D → Option R := runF 1 3 b_product_to
def b_quotient : MS := (xret (xcall r_lowest (xcons (xop opMul (xop opIx (xv 0) (xc (.int 0))) (xop opIx (xv 1) (xc (.int 1)))) (xcons (xop opMul (xop opIx (xv 0) (xc (.int 1))) (xop opIx (xv 1) (xc (.int 0)))) xnil))))
def r_quotient : List D → Option R := runF 2 2 b_quotient
def b_area_powers : MS := (xret (xlst (xcons (xc c_NOUGHT) (xstar (xlc (xenumA (xcons (xv 0) xnil)) (tgt [(tgn 1), (tgn 2)]) xtyes (xcall r_quotient (xcons (xv 2) (xcons (xtup (xcons (xop opAddB (xv 1) (xc (.int 1))) (xcons (xc (.int 1)) xnil))) xnil))) [1, 2]) xnil))))
def r_area_powers : List D → Option R := runF 1 3 b_area_powers
def b_less_by : MS := (xret (xcall r_lowest (xcons (xop opSub (xop opMul (xop opIx (xv 0) (xc (.int 0))) (xop opIx (xv 1) (xc (.int 1)))) (xop opMul (xop opIx (xv 1) (xc (.int 0))) (xop opIx (xv 0) (xc (.int 1))))) (xcons (xop opMul (xop opIx (xv 0) (xc (.int 1))) (xop opIx (xv 1) (xc (.int 1)))) xnil))))
def r_less_by : List D → Option R := runF 2 2 b_less_by
def b_multiplied : MS := (xret (xcall r_lowest (xcons (xop opMul (xop opIx (xv 0) (xc (.int 0))) (xop opIx (xv 1) (xc (.int 0)))) (xcons (xop opMul (xop opIx (xv 0) (xc (.int 1))) (xop opIx (xv 1) (xc (.int 1)))) xnil))))
def r_multiplied : List D → Option R := runF 2 2 b_multiplied
def b_value_at_1 : MS := (xset 2 (xcall r_added (xcons (xcall r_multiplied (xcons (xv 2) (xcons (xv 1) xnil))) (xcons (xv 3) xnil))))
def b_value_at : MS := (xseq (xset 2 (xc c_NOUGHT))
  (xseq (xfor (xseqI (xrev (xv 0) (xun unNeg (xc (.int 1))))) (tgn 3) b_value_at_1)
  (xret (xmv 2))))
def r_value_at : List D → Option R := runF 2 4 b_value_at
def b_told_1 : MS := (xapp 4 (xcall r_multiplied (xcons (xv 7) (xcons (xcall r_less_by (xcons (xcall r_value_at (xcons (xv 3) (xcons (xv 6) xnil))) (xcons (xcall r_value_at (xcons (xv 3) (xcons (xv 5) xnil))) xnil))) xnil))))
def b_told : MS := (xseq (xset 2 (xlc (xseqI (xv 1)) (tgn 8) xtyes (xcall r_value_of (xcons (xv 8) xnil)) [8]))
  (xseq (xset 3 (xcall r_area_powers (xcons (xv 2) xnil)))
  (xseq (xset 4 (xlc (xseqI (xfld 0 2 (xv 0))) (tgt [(tgn 9), (tgn 10)]) xtyes (xcall r_multiplied (xcons (xv 10) (xcons (xcall r_value_at (xcons (xv 2) (xcons (xv 9) xnil))) xnil))) [9, 10]))
  (xseq (xfor (xseqI (xfld 0 3 (xv 0))) (tgt [(tgn 5), (tgn 6), (tgn 7)]) b_told_1)
  (xret (xcall r_summed (xcons (xv 4) xnil)))))))
def r_told : List D → Option R := runF 2 11 b_told
def b_constant : MS := (xret (xcall r_quotient (xcons (xcall r_told (xcons (xv 0) (xcons (xop opAddB (xop opMul (xlst (xcons (xc (.int 0)) xnil)) (xv 1)) (xlst (xcons (xc (.int 1)) xnil))) xnil))) (xcons (xtup (xcons (xcall r_product_to (xcons (xv 1) xnil)) (xcons (xc (.int 1)) xnil))) xnil))))
def r_constant : List D → Option R := runF 2 2 b_constant
def b_shifted_1 : MS := (xseq (xset 5 (xop opAddB (xlst (xcons (xc c_NOUGHT) xnil)) (xby 3 (xlcv 3 (tgn 6) xtyes (xcall r_multiplied (xcons (xv 6) (xcons (xv 2) xnil))) [6]) (xlc (xseqI (xv 3)) (tgn 6) xtyes (xcall r_multiplied (xcons (xv 6) (xcons (xv 2) xnil))) [6]))))
  (xseq (xset 3 (xlc (xzipA (xcons (xv 5) (xcons (xlst (xstar (xv 3) (xcons (xc c_NOUGHT) xnil))) xnil))) (tgt [(tgn 7), (tgn 8)]) xtyes (xcall r_added (xcons (xv 7) (xcons (xcall r_multiplied (xcons (xv 1) (xcons (xv 8) xnil))) xnil))) [7, 8]))
  (xput 3 (xcall r_added (xcons (xby 3 (xixv 3 (xc (.int 0))) (xop opIx (xv 3) (xc (.int 0)))) (xcons (xv 4) xnil))) (xc (.int 0)))))
def b_shifted : MS := (xseq (xset 3 (xlst xnil))
  (xseq (xfor (xseqI (xrevA (xv 0) (xun unNeg (xc (.int 1))))) (tgn 4) b_shifted_1)
  (xret (xsl slB (xv 3) xnop (xpart (xcb cbLen (xcons (xv 0) xnil)))))))
def r_shifted : List D → Option R := runF 3 9 b_shifted
def b_ways_to_choose : MS := (xseq (xifs (xtor (xtest (xop opLt (xv 1) (xc (.int 0)))) (xtest (xop opLt (xv 0) (xv 1)))) (xret (xc (.int 0))) xnext)
  (xret (xop opFdiv (xcall r_product_to (xcons (xv 0) xnil)) (xop opMul (xcall r_product_to (xcons (xv 1) xnil)) (xcall r_product_to (xcons (xop opSub (xv 0) (xv 1)) xnil))))))
def r_ways_to_choose : List D → Option R := runF 2 2 b_ways_to_choose
def b_handles_of_1 : MS := (xapp 7 (xcall r_multiplied (xcons (xop opIx (xv 3) (xv 8)) (xcons (xcall r_lowest (xcons (xcall r_ways_to_choose (xcons (xv 6) (xcons (xv 8) xnil))) (xcons (xcall r_ways_to_choose (xcons (xv 4) (xcons (xv 8) xnil))) xnil))) xnil))))
def b_handles_of_2 : MS := (xseq (xset 7 (xlst xnil))
  (xseq (xfor (xrange1 (xcons (xop opAddB (xv 6) (xc (.int 1))) xnil)) (tgn 8) b_handles_of_1)
  (xapp 5 (xcall r_summed (xcons (xv 7) xnil)))))
def b_handles_of : MS := (xseq (ypar 3 4 (ycons (xcall r_shifted (xcons (xv 0) (xcons (xv 1) (xcons (xcall r_less_by (xcons (xv 2) (xcons (xv 1) xnil))) xnil)))) (ycons (xop opSub (xcb cbLen (xcons (xv 0) xnil)) (xc (.int 1))) ynil)))
  (xseq (xset 5 (xlst xnil))
  (xseq (xfor (xrange1 (xcons (xop opAddB (xv 4) (xc (.int 1))) xnil)) (tgn 6) b_handles_of_2)
  (xret (xmv 5)))))
def r_handles_of : List D → Option R := runF 3 9 b_handles_of
def b_Part_init : MS := (xseq (xsetf 0 1 0 (xv 1))
  (xseq (xsetf 0 1 1 (xv 2))
  (xseq (xsetf 0 1 2 (xv 3))
  (xseq (ypar 4 5 (ycons (xcall r_handles_of (xcons (xv 3) (xcons (xv 1) (xcons (xv 2) xnil)))) (ycons (xcall r_less_by (xcons (xv 2) (xcons (xv 1) xnil))) ynil)))
  (xseq (xset 6 (xcall r_quotient (xcons (xcall r_summed (xcons (xv 4) xnil)) (xcons (xtup (xcons (xcb cbLen (xcons (xv 4) xnil)) (xcons (xc (.int 1)) xnil))) xnil))))
  (xseq (xset 7 (xlc (xseqI (xv 4)) (tgn 9) xtyes (xif (xtru (xcall r_is_less (xcons (xc c_NOUGHT) (xcons (xv 9) xnil)))) (xv 9) (xc c_NOUGHT)) [9]))
  (xseq (xset 8 (xlc (xseqI (xv 4)) (tgn 9) (xtru (xcall r_is_less (xcons (xv 9) (xcons (xc c_NOUGHT) xnil)))) (xv 9) [9]))
  (xseq (xsetf 0 1 3 (xcall r_multiplied (xcons (xv 6) (xcons (xv 5) xnil))))
  (xseq (xsetf 0 1 4 (xif (xtru (xcall r_is_less (xcons (xc c_NOUGHT) (xcons (xfldv 0 1 3) xnil)))) (xfldv 0 1 3) (xc c_NOUGHT)))
  (xsetf 0 1 5 (xif (xtest (xop opEq (xcb cbLen (xcons (xv 8) xnil)) (xc (.int 0)))) (xfldv 0 1 3) (xcall r_multiplied (xcons (xcall r_quotient (xcons (xcall r_summed (xcons (xv 7) xnil)) (xcons (xtup (xcons (xcb cbLen (xcons (xv 7) xnil)) (xcons (xc (.int 1)) xnil))) xnil))) (xcons (xv 5) xnil))))))))))))))
def r_Part_init : Mob → List D → Option (R × Mob) := runB 4 10 b_Part_init
def b_Part_halves : MS := (xseq (xifs (xtest (xop opEq (xfld 1 4 (xv 0)) (xfld 1 5 (xv 0)))) (xret (xlst (xcons (xv 0) xnil))) xnext)
  (xseq (xset 1 (xcall r_quotient (xcons (xcall r_added (xcons (xfld 1 0 (xv 0)) (xcons (xfld 1 1 (xv 0)) xnil))) (xcons (xtup (xcons (xc (.int 2)) (xcons (xc (.int 1)) xnil))) xnil))))
  (xret (xlst (xcons (xmake 1 r_Part_init [] (xcons (xfld 1 0 (xv 0)) (xcons (xv 1) (xcons (xfld 1 2 (xv 0)) xnil)))) (xcons (xmake 1 r_Part_init [] (xcons (xv 1) (xcons (xfld 1 1 (xv 0)) (xcons (xfld 1 2 (xv 0)) xnil)))) xnil))))))
def r_Part_halves : List D → Option R := runF 1 2 b_Part_halves
def b_degree_1 : MS := (xset 1 (xlst (xcons (xc c_NOUGHT) (xstar (xv 1) xnil))))
def b_degree : MS := (xseq (xifs (xtest (xop opEq (xop opAddB (xcb cbLen (xcons (xfld 0 2 (xv 0)) xnil)) (xcb cbLen (xcons (xfld 0 3 (xv 0)) xnil))) (xc (.int 0)))) (xret (xc .non)) xnext)
  (xseq (xset 1 (xlst (xcons (xc c_ONE) xnil)))
  (xseq (xwhile (fun _ => 1000) (xtest (xop opEq (xcall r_told (xcons (xv 0) (xcons (xv 1) xnil))) (xc c_NOUGHT))) b_degree_1)
  (xret (xop opSub (xcb cbLen (xcons (xv 1) xnil)) (xc (.int 2)))))))
def r_degree : List D → Option R := runF 1 2 b_degree
def b_knots_of_1 : MS := (xset 1 (xlst (xstar (xv 1) (xcons (xv 2) (xcons (xv 3) xnil)))))
def b_knots_of_2 : MS := (xset 5 (xop opMul (xv 5) (xop opIx (xv 6) (xc (.int 1)))))
def b_knots_of : MS := (xseq (xset 1 (xlst (xcons (xfld 0 0 (xv 0)) (xcons (xfld 0 1 (xv 0)) (xstar (xlc (xseqI (xfld 0 2 (xv 0))) (tgt [(tgn 7), (tgn 8)]) xtyes (xv 7) [7, 8]) xnil)))))
  (xseq (xfor (xseqI (xfld 0 3 (xv 0))) (tgt [(tgn 2), (tgn 3), (tgn 4)]) b_knots_of_1)
  (xseq (xset 5 (xc (.int 1)))
  (xseq (xfor (xseqI (xv 1)) (tgn 6) b_knots_of_2)
  (xret (xlc (xseqI (xcb cbSortSet (xcons (xlc (xseqI (xv 1)) (tgt [(tgn 9), (tgn 10)]) xtyes (xcb cbInt (xcons (xop opMul (xv 9) (xop opFdiv (xv 5) (xv 10))) xnil)) [9, 10]) xnil))) (tgn 11) xtyes (xcall r_lowest (xcons (xv 11) (xcons (xv 5) xnil))) [11]))))))
def r_knots_of : List D → Option R := runF 1 12 b_knots_of
def b_powered_1 : MS := (xset 2 (xcall r_multiplied (xcons (xv 2) (xcons (xv 0) xnil))))
def b_powered : MS := (xseq (xset 2 (xc c_ONE))
  (xseq (xfor (xrange1 (xcons (xv 1) xnil)) (tgn 3) b_powered_1)
  (xret (xmv 2))))
def r_powered : List D → Option R := runF 2 4 b_powered
def b_ways_1 : MS := (xset 2 (xop opFdiv (xop opMul (xv 2) (xop opSub (xv 0) (xv 3))) (xop opAddB (xv 3) (xc (.int 1)))))
def b_ways : MS := (xseq (xset 2 (xc (.int 1)))
  (xseq (xfor (xrange1 (xcons (xv 1) xnil)) (tgn 3) b_ways_1)
  (xret (xmv 2))))
def r_ways : List D → Option R := runF 2 4 b_ways
def b_distance_power_1 : MS := (xseq (xset 5 (xif (xtest (xop opEq (xop opMod (xv 4) (xc (.int 2))) (xc (.int 0)))) (xc (.int 1)) (xun unNeg (xc (.int 1)))))
  (xapp 3 (xcall r_multiplied (xcons (xcall r_multiplied (xcons (xtup (xcons (xop opMul (xv 5) (xcall r_ways (xcons (xv 1) (xcons (xv 4) xnil)))) (xcons (xc (.int 1)) xnil))) (xcons (xcall r_powered (xcons (xv 0) (xcons (xop opSub (xv 1) (xv 4)) xnil))) xnil))) (xcons (xv 2) xnil)))))
def b_distance_power : MS := (xseq (xset 3 (xlst xnil))
  (xseq (xfor (xrange1 (xcons (xop opAddB (xv 1) (xc (.int 1))) xnil)) (tgn 4) b_distance_power_1)
  (xret (xmv 3))))
def r_distance_power : List D → Option R := runF 3 6 b_distance_power
def b_sum_of : MS := (xseq (xset 2 (xlst (xstar (xv 0) (xstar (xlc (xrange1 (xcons (xop opSub (xcb cbLen (xcons (xv 1) xnil)) (xcb cbLen (xcons (xv 0) xnil))) xnil)) (tgn 3) xtyes (xc c_NOUGHT) [3]) xnil))))
  (xret (xlc (xzipA (xcons (xv 2) (xcons (xv 1) xnil))) (tgt [(tgn 4), (tgn 5)]) xtyes (xcall r_added (xcons (xv 4) (xcons (xv 5) xnil))) [4, 5])))
def r_sum_of : List D → Option R := runF 2 6 b_sum_of
def b_piece_1 : MS := (xifs (xtnot (xtru (xcall r_is_less (xcons (xv 5) (xcons (xv 3) xnil))))) (xset 4 (xcall r_sum_of (xcons (xcall r_distance_power (xcons (xv 5) (xcons (xop opSub (xv 1) (xc (.int 1))) (xcons (xv 6) xnil)))) (xcons (xv 4) xnil)))) xnext)
def b_piece_2 : MS := (xseq (xset 10 (xcall r_multiplied (xcons (xv 9) (xcons (xtup (xcons (xc (.int 1)) (xcons (xv 1) xnil))) xnil))))
  (xseq (xifs (xtnot (xtru (xcall r_is_less (xcons (xv 8) (xcons (xv 3) xnil))))) (xset 4 (xcall r_sum_of (xcons (xcall r_distance_power (xcons (xv 8) (xcons (xv 1) (xcons (xv 10) xnil)))) (xcons (xv 4) xnil)))) xnext)
  (xifs (xtnot (xtru (xcall r_is_less (xcons (xv 7) (xcons (xv 3) xnil))))) (xset 4 (xcall r_sum_of (xcons (xcall r_distance_power (xcons (xv 7) (xcons (xv 1) (xcons (xcall r_less_by (xcons (xc c_NOUGHT) (xcons (xv 10) xnil))) xnil)))) (xcons (xv 4) xnil)))) xnext)))
def b_piece : MS := (xseq (xset 4 (xlc (xrange1 (xcons (xop opAddB (xv 1) (xc (.int 1))) xnil)) (tgn 11) xtyes (xc c_NOUGHT) [11]))
  (xseq (xfor (xseqI (xfld 0 2 (xv 0))) (tgt [(tgn 5), (tgn 6)]) b_piece_1)
  (xseq (xfor (xseqI (xfld 0 3 (xv 0))) (tgt [(tgn 7), (tgn 8), (tgn 9)]) b_piece_2)
  (xret (xcb cbTuple (xcons (xv 4) xnil))))))
def r_piece : List D → Option R := runF 4 12 b_piece
def b_kernel : MS := (xseq (xset 2 (xcall r_knots_of (xcons (xv 0) xnil)))
  (xret (xcb cbTuple (xcons (xlc (xzipA (xcons (xv 2) (xcons (xsl slB (xv 2) (xpart (xc (.int 1))) xnop) xnil))) (tgt [(tgn 3), (tgn 4)]) xtyes (xtup (xcons (xv 3) (xcons (xv 4) (xcons (xcall r_piece (xcons (xv 0) (xcons (xv 1) (xcons (xv 3) (xcons (xv 4) xnil))))) xnil)))) [3, 4]) xnil))))
def r_kernel : List D → Option R := runF 2 5 b_kernel
def b_greatest_miss_1 : MS := (xdrop (xmut 14 muExt (xcons (xmeth 1 r_Part_halves [] (xv 15) xnil) xnil)))
def b_greatest_miss_2 : MS := (xseq (xset 12 (xcall r_added (xcons (xv 11) (xcons (xcall r_multiplied (xcons (xv 10) (xcons (xcall r_summed (xcons (xlc (xseqI (xv 9)) (tgn 15) xtyes (xfld 1 4 (xv 15)) [15]) xnil)) xnil))) xnil))))
  (xseq (xset 13 (xcall r_added (xcons (xv 11) (xcons (xcall r_multiplied (xcons (xv 10) (xcons (xcall r_summed (xcons (xlc (xseqI (xv 9)) (tgn 15) xtyes (xfld 1 5 (xv 15)) [15]) xnil)) xnil))) xnil))))
  (xseq (xifs (xtnot (xtru (xcall r_is_less (xcons (xv 8) (xcons (xcall r_less_by (xcons (xv 13) (xcons (xv 12) xnil))) xnil))))) (xret (xtup (xcons (xv 12) (xcons (xv 13) xnil)))) xnext)
  (xseq (xset 14 (xlst xnil))
  (xseq (xfor (xseqI (xv 9)) (tgn 15) b_greatest_miss_1)
  (xset 9 (xv 14)))))))
def b_greatest_miss : MS := (xseq (xset 5 (xcall r_degree (xcons (xv 0) xnil)))
  (xseq (xifs (xtand (xtest (xop opIsNot (xv 5) (xc .non))) (xtest (xop opLt (xv 5) (xop opSub (xv 1) (xc (.int 1)))))) (xret (xc .non)) xnext)
  (xseq (ypar3 6 7 8 (ycons (xcall r_value_of (xcons (xv 2) xnil)) (ycons (xcall r_value_of (xcons (xv 3) xnil)) (ycons (xcall r_value_of (xcons (xv 4) xnil)) ynil))))
  (xseq (xset 9 (xlc (xseqI (xcall r_kernel (xcons (xv 0) (xcons (xv 1) xnil)))) (tgt [(tgn 16), (tgn 17), (tgn 18)]) xtyes (xmake 1 r_Part_init [] (xcons (xv 16) (xcons (xv 17) (xcons (xv 18) xnil)))) [16, 17, 18]))
  (xseq (xset 10 (xcall r_quotient (xcons (xcall r_less_by (xcons (xv 7) (xcons (xv 6) xnil))) (xcons (xtup (xcons (xcall r_product_to (xcons (xop opSub (xv 1) (xc (.int 1))) xnil)) (xcons (xc (.int 1)) xnil))) xnil))))
  (xseq (xset 11 (xcall r_multiplied (xcons (xv 6) (xcons (xcall r_quotient (xcons (xcall r_summed (xcons (xlc (xseqI (xv 9)) (tgn 15) xtyes (xfld 1 3 (xv 15)) [15]) xnil)) (xcons (xtup (xcons (xcall r_product_to (xcons (xop opSub (xv 1) (xc (.int 1))) xnil)) (xcons (xc (.int 1)) xnil))) xnil))) xnil))))
  (xwhile (fun _ => 1000) (xtru (xc (.bl true))) b_greatest_miss_2)))))))
def r_greatest_miss : List D → Option R := runF 5 19 b_greatest_miss
def b_differences_1 : MS := (xset 0 (xlc (xzipA (xcons (xv 0) (xcons (xsl slB (xv 0) (xpart (xc (.int 1))) xnop) xnil))) (tgt [(tgn 3), (tgn 4)]) xtyes (xcall r_less_by (xcons (xv 4) (xcons (xv 3) xnil))) [3, 4]))
def b_differences : MS := (xseq (xfor (xrange1 (xcons (xv 1) xnil)) (tgn 2) b_differences_1)
  (xret (xmv 0)))
def r_differences : List D → Option R := runF 2 5 b_differences
def b_values_of : MS := (xret (xlc (xseqI (xv 0)) (tgn 1) xtyes (xcall r_value_of (xcons (xv 1) xnil)) [1]))
def r_values_of : List D → Option R := runF 1 2 b_values_of
def b_is_kind : MS := (xret (xvnot (xcb cbAny (xcons (xlc (xseqI (xcall r_differences (xcons (xcall r_values_of (xcons (xv 0) xnil)) (xcons (xv 1) xnil)))) (tgn 2) xtyes (xcall r_is_less (xcons (xv 2) (xcons (xc c_NOUGHT) xnil))) [2]) xnil))))
def r_is_kind : List D → Option R := runF 2 3 b_is_kind
def b_is_seen : MS := (xseq (xifs (xtor (xtnot (xtru (xcb cbIsi (xcons (xv 0) (xcons (xc (.ty "tuple")) xnil))))) (xtor (xtest (xop opNe (xcb cbLen (xcons (xv 0) xnil)) (xc (.int 2)))) (xtnot (xtru (xcall r_is_integer (xcons (xop opIx (xv 0) (xc (.int 0))) xnil)))))) (xret (xc (.bl false))) xnext)
  (xret (xvand (xchain opLe opLt (xv 2) (xop opIx (xv 0) (xc (.int 0))) (xv 1)) (xcall r_is_value (xcons (xop opIx (xv 0) (xc (.int 1))) xnil)))))
def r_is_seen : List D → Option R := runF 3 3 b_is_seen
def b_need_seen_1 : MS := (xseq (xifs (xtnot (xtru (xcall r_is_seen (xcons (xv 5) (xcons (xv 1) (xcons (xv 3) xnil)))))) xnever xnext)
  (xseq (xapp 2 (xtup (xcons (xop opIx (xv 5) (xc (.int 0))) (xcons (xcall r_value_of (xcons (xop opIx (xv 5) (xc (.int 1))) xnil)) xnil))))
  (xset 3 (xop opAddB (xop opIx (xv 5) (xc (.int 0))) (xc (.int 1))))))
def b_need_seen : MS := (xseq (xifs (xtnot (xtru (xcall r_is_sequence (xcons (xv 0) xnil)))) xnever xnext)
  (xseq (ypar 2 3 (ycons (xlst xnil) (ycons (xc (.int 0)) ynil)))
  (xseq (xfor (xenumA (xcons (xv 0) xnil)) (tgt [(tgn 4), (tgn 5)]) b_need_seen_1)
  (xret (xmv 2)))))
def r_need_seen : List D → Option R := runF 2 6 b_need_seen
def b_Table_init_1 : MSV := (vseq (vset 5 (lend9 0 flatR (xlc (xseqI (xv 1)) (tgn 6) xtyes (xcall r_multiplied (xcons (xop opIx (xfld 5 2 (xv 0)) (xv 3)) (xcons (xop opIx (xv 6) (xv 3)) xnil))) [6])))
  (vseq (vdrop (lend9 0 flatR (xmut 5 muExt (xcons (xlc (xrange1 (xcons (xfld 5 1 (xv 0)) xnil)) (tgn 7) xtyes (xif (xtest (xop opEq (xv 7) (xv 3))) (xc c_ONE) (xc c_NOUGHT)) [7]) xnil))))
  (vbapp 3 (lend9 0 flatR (xlst (xstar (xv 5) (xcons (xcall r_multiplied (xcons (xop opIx (xfld 5 2 (xv 0)) (xv 3)) (xcons (xv 4) xnil))) xnil)))))))
def b_Table_init : Gam → Option (List D × List D × Gam) := (nseq (xsetf 0 5 0 (xcb cbLen (xcons (xv 1) xnil)))
  (nseq (xsetf 0 5 1 (xcb cbLen (xcons (xv 2) xnil)))
  (nseq (xsetf 0 5 2 (xlc (xseqI (xv 2)) (tgn 4) xtyes (xif (xtru (xcall r_is_less (xcons (xv 4) (xcons (xc c_NOUGHT) xnil)))) (xc c_MINUS) (xc c_ONE)) [4]))
  (nnew 3 (xlst xnil)
  (vseq (vfor 0 (lf 0 (xenumA (xcons (xv 2) xnil))) (tgt [(tgn 3), (tgn 4)]) b_Table_init_1)
  (vnew 3 (lend9 0 flatR (xlc (xrange1 (xcons (xfld 5 1 (xv 0)) xnil)) (tgn 3) xtyes (xop opAddB (xfld 5 0 (xv 0)) (xv 3)) [3]))))))))
def r_Table_init : List D → Option (List D × List D) := runN 3 8 b_Table_init
def b_Table_turn_1 : MSV := (vseq (vset 8 (vfz (lf 0 (xop opIx (xv 7) (xv 2)))))
  (vifs (lf 0 (xtest (xop opEq (xv 6) (xv 1)))) (lfS 0 (xapp 5 (xv 4))) (lfS 0 (xapp 5 (xlc (xzipA (xcons (xv 7) (xcons (xv 4) xnil))) (tgt [(tgn 9), (tgn 10)]) xtyes (xcall r_less_by (xcons (xv 9) (xcons (xcall r_multiplied (xcons (xv 8) (xcons (xv 10) xnil))) xnil))) [9, 10])))))
def b_Table_turn : MSV := (vseq (vset 3 (vfz (lend9 0 flatR (xop opIx (xop opIx (xfld 5 3 (xv 0)) (xv 1)) (xv 2)))))
  (vseq (vpar 4 5 (lend9 0 flatR (xlc (xseqI (xop opIx (xfld 5 3 (xv 0)) (xv 1))) (tgn 9) xtyes (xcall r_quotient (xcons (xv 9) (xcons (xv 3) xnil))) [9])) (lf 0 (xlst xnil)))
  (vseq (vfor 0 (venum (vat 3)) (tgt [(tgn 6), (tgn 7)]) b_Table_turn_1)
  (vseq (vfld 3 (lf 0 (xv 5)))
  (vbput 4 (lf 0 (xv 2)) (lf 0 (xv 1)))))))
def r_Table_turn : List D → List D → List D → Option (D × List D × List D) := runV 3 11 b_Table_turn
def b_Table_clear_1 : MSV := (vifs (lend9 0 (fun _ _ => true) (xtest (xop opGe (xop opIx (xfld 5 4 (xv 0)) (xv 1)) (xfld 5 0 (xv 0))))) (vseq (vset 2 (vfz (lend9 0 flatR (xop opIx (xlc (xrange1 (xcons (xfld 5 0 (xv 0)) xnil)) (tgn 3) (xtest (xop opNe (xop opIx (xop opIx (xfld 5 3 (xv 0)) (xv 1)) (xv 3)) (xc c_NOUGHT))) (xv 3) [3]) (xc (.int 0))))))
  (vdropW (wmeth r_Table_turn (vcons (lf 0 (xv 1)) (vcons (lf 0 (xv 2)) (lf 0 xnil)))))) vnext)
def b_Table_clear : MSV := (vfor 0 (vrange (vat 1)) (tgn 1) b_Table_clear_1)
def r_Table_clear : List D → List D → List D → Option (D × List D × List D) := runV 1 4 b_Table_clear
def b_Table_costs_left_1 : MS := (xseq (xset 4 (xcall r_summed (xcons (xlc (xzipA (xcons (xfld 5 4 (xv 0)) (xcons (xfld 5 3 (xv 0)) xnil))) (tgt [(tgn 5), (tgn 6)]) xtyes (xcall r_multiplied (xcons (xop opIx (xv 1) (xv 5)) (xcons (xop opIx (xv 6) (xv 3)) xnil))) [5, 6]) xnil)))
  (xapp 2 (xcall r_less_by (xcons (xop opIx (xv 1) (xv 3)) (xcons (xv 4) xnil)))))
def b_Table_costs_left : MS := (xseq (xset 2 (xlst xnil))
  (xseq (xfor (xrange1 (xcons (xop opAddB (xfld 5 0 (xv 0)) (xfld 5 1 (xv 0))) xnil)) (tgn 3) b_Table_costs_left_1)
  (xret (xmv 2))))
def r_Table_costs_left : List D → Option R := runF 2 7 b_Table_costs_left
def b_Table_counts_of : MS := (xseq (xset 2 (xsl slB (xmeth 5 r_Table_costs_left [] (xv 0) (xcons (xv 1) xnil)) (xpart (xfld 5 0 (xv 0))) xnop))
  (xseq (xset 3 (xsl slB (xv 1) (xpart (xfld 5 0 (xv 0))) xnop))
  (xret (xcb cbTuple (xcons (xlc (xzip3 (xcons (xfld 5 2 (xv 0)) (xcons (xv 3) (xcons (xv 2) xnil)))) (tgt [(tgn 4), (tgn 5), (tgn 6)]) xtyes (xcall r_multiplied (xcons (xv 4) (xcons (xcall r_less_by (xcons (xv 5) (xcons (xv 6) xnil))) xnil))) [4, 5, 6]) xnil)))))
def r_Table_counts_of : List D → Option R := runF 2 7 b_Table_counts_of
def b_Table_place_for_1 : MS := (xifs (xtru (xcall r_is_less (xcons (xc c_NOUGHT) (xcons (xop opIx (xv 5) (xv 1)) xnil)))) (xseq (xset 6 (xcall r_quotient (xcons (xop opIx (xv 5) (xun unNeg (xc (.int 1)))) (xcons (xop opIx (xv 5) (xv 1)) xnil))))
  (xseq (xset 7 (xvor (xop opIs (xv 2) (xc .non)) (xcall r_is_less (xcons (xv 6) (xcons (xv 3) xnil)))))
  (xifs (xtor (xtru (xv 7)) (xtand (xtest (xop opEq (xv 6) (xv 3))) (xtest (xop opLt (xop opIx (xfld 5 4 (xv 0)) (xv 4)) (xop opIx (xfld 5 4 (xv 0)) (xv 2)))))) (ypar 2 3 (ycons (xv 4) (ycons (xv 6) ynil))) xnext))) xnext)
def b_Table_place_for : MS := (xseq (xasg (xtup (xcons (xc .non) (xcons (xc .non) xnil))) (tgt [(tgn 2), (tgn 3)]))
  (xseq (xfor (xenumA (xcons (xfld 5 3 (xv 0)) xnil)) (tgt [(tgn 4), (tgn 5)]) b_Table_place_for_1)
  (xret (xmv 2))))
def r_Table_place_for : List D → Option R := runF 2 8 b_Table_place_for
def b_Table_lower_1 : MSV := (vseq (vset 3 (vfz (lend9 0 flatR (xmeth 5 r_Table_costs_left [] (xv 0) (xcons (xv 1) xnil)))))
  (vseq (vset 4 (vfz (lf 0 (xlc (xrange1 (xcons (xv 2) xnil)) (tgn 6) (xtru (xcall r_is_less (xcons (xop opIx (xv 3) (xv 6)) (xcons (xc c_NOUGHT) xnil)))) (xv 6) [6]))))
  (vseq (vifs (lf 0 (xtest (xop opEq (xcb cbLen (xcons (xv 4) xnil)) (xc (.int 0))))) (vret (lf 0 (xc .non))) vnext)
  (vseq (vset 5 (vfz (lend9 0 flatR (xmeth 5 r_Table_place_for [] (xv 0) (xcons (xop opIx (xv 4) (xc (.int 0))) xnil)))))
  (vseq (vifs (lf 0 (xtest (xop opIs (xv 5) (xc .non)))) (vret (lf 0 (xop opIx (xv 4) (xc (.int 0))))) vnext)
  (vdropW (wmeth r_Table_turn (vcons (lf 0 (xv 5)) (vcons (lf 0 (xop opIx (xv 4) (xc (.int 0)))) (lf 0 xnil))))))))))
def b_Table_lower : MSV := (vwhileN (lf 0 (xtru (xc (.bl true)))) b_Table_lower_1 1000000)
def r_Table_lower : List D → List D → List D → Option (D × List D × List D) := runV 3 7 b_Table_lower
def b_Table_values_now_1 : MS := (xput 1 (xop opIx (xop opIx (xfld 5 3 (xv 0)) (xv 2)) (xun unNeg (xc (.int 1)))) (xv 3))
def b_Table_values_now : MS := (xseq (xset 1 (xop opMul (xlst (xcons (xc c_NOUGHT) xnil)) (xop opAddB (xfld 5 0 (xv 0)) (xfld 5 1 (xv 0)))))
  (xseq (xfor (xenumA (xcons (xfld 5 4 (xv 0)) xnil)) (tgt [(tgn 2), (tgn 3)]) b_Table_values_now_1)
  (xret (xsl slB (xv 1) xnop (xpart (xfld 5 0 (xv 0)))))))
def r_Table_values_now : List D → Option R := runF 1 4 b_Table_values_now
def b_Table_way_of_1 : MS := (xput 2 (xcall r_multiplied (xcons (xc c_MINUS) (xcons (xop opIx (xop opIx (xfld 5 3 (xv 0)) (xv 3)) (xv 1)) xnil))) (xv 4))
def b_Table_way_of : MS := (xseq (xset 2 (xop opMul (xlst (xcons (xc c_NOUGHT) xnil)) (xop opAddB (xfld 5 0 (xv 0)) (xfld 5 1 (xv 0)))))
  (xseq (xput 2 (xc c_ONE) (xv 1))
  (xseq (xfor (xenumA (xcons (xfld 5 4 (xv 0)) xnil)) (tgt [(tgn 3), (tgn 4)]) b_Table_way_of_1)
  (xret (xsl slB (xv 2) xnop (xpart (xfld 5 0 (xv 0))))))))
def r_Table_way_of : List D → Option R := runF 2 5 b_Table_way_of
def b_row_told : MS := (xret (xcall r_summed (xcons (xlc (xzipA (xcons (xcall r_values_of (xcons (xv 0) xnil)) (xcons (xcall r_values_of (xcons (xv 1) xnil)) xnil))) (tgt [(tgn 2), (tgn 3)]) xtyes (xcall r_multiplied (xcons (xv 2) (xcons (xv 3) xnil))) [2, 3]) xnil)))
def r_row_told : List D → Option R := runF 2 4 b_row_told
def b_unit_row : MS := (xseq (xifs (xtest (xop opEq (xv 1) (xc (.int 0)))) (xret (xlc (xrange1 (xcons (xv 0) xnil)) (tgn 3) xtyes (xcb cbInt (xcons (xop opEq (xv 3) (xv 2)) xnil)) [3])) xnext)
  (xret (xlc (xrange1 (xcons (xv 0) xnil)) (tgn 3) xtyes (xcall r_ways_to_choose (xcons (xop opSub (xop opSub (xv 3) (xv 2)) (xc (.int 1))) (xcons (xop opSub (xv 1) (xc (.int 1))) xnil))) [3])))
def r_unit_row : List D → Option R := runF 3 4 b_unit_row
def b_factors_of_1 : MS := (xput 5 (xcall r_less_by (xcons (xby 5 (xixv 5 (xv 6)) (xop opIx (xv 5) (xv 6))) (xcons (xv 8) xnil))) (xv 6))
def b_factors_of : MS := (xseq (ypar 4 5 (ycons (xcb cbLen (xcons (xv 0) xnil)) (ycons (xcb cbList (xcons (xcall r_values_of (xcons (xv 0) xnil)) xnil)) ynil)))
  (xseq (xfor (xzipA (xcons (xv 2) (xcons (xv 3) xnil))) (tgt [(tgt [(tgn 6), (tgn 7)]), (tgn 8)]) b_factors_of_1)
  (xret (xcb cbTuple (xcons (xlc (xrange1 (xcons (xop opSub (xv 4) (xv 1)) xnil)) (tgn 9) xtyes (xcall r_row_told (xcons (xv 5) (xcons (xcall r_unit_row (xcons (xv 4) (xcons (xv 1) (xcons (xv 9) xnil)))) xnil))) [9]) xnil)))))
def r_factors_of : List D → Option R := runF 4 10 b_factors_of
def b_row_of_1 : MS := (xapp 3 (xcall r_summed (xcons (xlc (xzipA (xcons (xv 1) (xcons (xv 0) xnil))) (tgt [(tgn 5), (tgn 6)]) xtyes (xcall r_multiplied (xcons (xv 5) (xcons (xop opIx (xv 6) (xv 4)) xnil))) [5, 6]) xnil)))
def b_row_of : MS := (xseq (xset 3 (xlst xnil))
  (xseq (xfor (xrange1 (xcons (xv 2) xnil)) (tgn 4) b_row_of_1)
  (xret (xcb cbTuple (xcons (xv 3) xnil)))))
def r_row_of : List D → Option R := runF 3 7 b_row_of
def b_power_row : MS := (xret (xlc (xrange1 (xcons (xv 0) xnil)) (tgn 2) xtyes (xcall r_ways_to_choose (xcons (xv 2) (xcons (xv 1) xnil))) [2]))
def r_power_row : List D → Option R := runF 2 3 b_power_row
def b_unit_rows_1 : MS := (xseq (xset 4 (xcall r_values_of (xcons (xcall r_power_row (xcons (xv 0) (xcons (xv 3) xnil))) xnil)))
  (xdrop (xmut 2 muExt (xcons (xlst (xcons (xv 4) (xcons (xlc (xseqI (xv 4)) (tgn 5) xtyes (xcall r_multiplied (xcons (xc c_MINUS) (xcons (xv 5) xnil))) [5]) xnil))) xnil))))
def b_unit_rows : MS := (xseq (xset 2 (xlst xnil))
  (xseq (xfor (xrange1 (xcons (xcb cbMin2 (xcons (xv 1) (xcons (xv 0) xnil))) xnil)) (tgn 3) b_unit_rows_1)
  (xret (xop opAddB (xv 2) (xlc (xrange1 (xcons (xop opSub (xv 0) (xv 1)) xnil)) (tgn 6) xtyes (xcall r_values_of (xcons (xcall r_unit_row (xcons (xv 0) (xcons (xv 1) (xcons (xv 6) xnil)))) xnil)) [6])))))
def r_unit_rows : List D → Option R := runF 2 7 b_unit_rows
def b_solved : MS := (xseq (xset 3 (xcb cbLen (xcons (xv 0) xnil)))
  (xseq (xset 4 (xcall r_unit_rows (xcons (xv 3) (xcons (xv 1) xnil))))
  (xnewV 5 r_Table_init (xcons (xlc (xseqI (xv 4)) (tgn 12) xtyes (xlc (xseqI (xv 2)) (tgt [(tgn 13), (tgn 14)]) xtyes (xop opIx (xv 12) (xv 13)) [13, 14]) [12]) (xcons (xlc (xseqI (xv 2)) (tgt [(tgn 13), (tgn 14)]) xtyes (xv 14) [13, 14]) xnil))
  (vseq (vset 6 (vfz (lf 5 (xop opAddB (xop opMul (xlst (xcons (xc c_NOUGHT) xnil)) (xcb cbLen (xcons (xv 4) xnil))) (xop opMul (xlst (xcons (xc c_ONE) xnil)) (xcb cbLen (xcons (xv 2) xnil)))))))
  (vseq (vdropW (wmeth r_Table_lower (vcons (lf 5 (xv 6)) (vcons (lf 5 (xcb cbLen (xcons (xv 4) xnil))) (lf 5 xnil)))))
  (vseq (vset 7 (vfz (lend9 5 flatR (xmeth 5 r_Table_counts_of [] (xv 5) (xcons (xv 6) xnil)))))
  (vseq (vset 8 (vfz (lf 5 (xcall r_summed (xcons (xlc (xzipA (xcons (xv 7) (xcons (xv 2) xnil))) (tgt [(tgn 15), (tgt [(tgn 13), (tgn 14)])]) xtyes (xcall r_multiplied (xcons (xv 15) (xcons (xv 14) xnil))) [15, 13, 14]) xnil)))))
  (vseq (vifs (lf 5 (xtest (xop opNe (xv 8) (xc c_NOUGHT)))) (vret (lf 5 (xtup (xcons (xc (.str "none")) (xcons (xv 7) (xcons (xcall r_factors_of (xcons (xop opMul (xlst (xcons (xc (.int 0)) xnil)) (xv 3)) (xcons (xv 1) (xcons (xv 2) (xcons (xv 7) xnil))))) xnil)))))) vnext)
  (vseq (vdropW (wmeth r_Table_clear (lf 5 xnil)))
  (vseq (vset 9 (vfz (lf 5 (xop opAddB (xlc (xseqI (xv 4)) (tgn 12) xtyes (xcall r_row_told (xcons (xv 0) (xcons (xv 12) xnil))) [12]) (xop opMul (xlst (xcons (xc c_NOUGHT) xnil)) (xcb cbLen (xcons (xv 2) xnil)))))))
  (vseq (vsetW 10 (wmeth r_Table_lower (vcons (lf 5 (xv 9)) (vcons (lf 5 (xcb cbLen (xcons (xv 4) xnil))) (lf 5 xnil)))))
  (vseq (vset 11 (vfz (vcall r_row_of (vcons (lf 5 (xv 4)) (vcons (lend9 5 flatR (xmeth 5 r_Table_values_now [] (xv 5) xnil)) (vcons (lf 5 (xv 3)) (lf 5 xnil)))))))
  (vseq (vifs (lf 5 (xtest (xop opIsNot (xv 10) (xc .non)))) (vret (vtup (vcons (lf 5 (xc (.str "endless"))) (vcons (lf 5 (xv 11)) (vcons (vcall r_row_of (vcons (lf 5 (xv 4)) (vcons (lend9 5 flatR (xmeth 5 r_Table_way_of [] (xv 5) (xcons (xv 10) xnil))) (vcons (lf 5 (xv 3)) (lf 5 xnil))))) (lf 5 xnil)))))) vnext)
  (vseq (vset 7 (vfz (lend9 5 flatR (xmeth 5 r_Table_counts_of [] (xv 5) (xcons (xv 9) xnil)))))
  (vret (lf 5 (xtup (xcons (xc (.str "least")) (xcons (xv 11) (xcons (xv 7) (xcons (xcall r_factors_of (xcons (xv 0) (xcons (xv 1) (xcons (xv 2) (xcons (xv 7) xnil))))) xnil)))))))))))))))))))))
def r_solved : List D → Option R := runF 3 16 b_solved
def b_row_paper : MS := (xret (xcall r_solved (xcons (xv 0) (xcons (xv 1) (xcons (xcall r_need_seen (xcons (xv 2) (xcons (xcb cbLen (xcons (xv 0) xnil)) xnil))) xnil)))))
def r_row_paper : List D → Option R := runF 3 3 b_row_paper
def b_row_least : MS := (xseq (xset 3 (xcall r_row_paper (xcons (xv 0) (xcons (xv 1) (xcons (xv 2) xnil)))))
  (xret (xif (xtest (xop opEq (xop opIx (xv 3) (xc (.int 0))) (xc (.str "least")))) (xcall r_row_told (xcons (xv 0) (xcons (xop opIx (xv 3) (xc (.int 1))) xnil))) (xop opIx (xv 3) (xc (.int 0))))))
def r_row_least : List D → Option R := runF 3 4 b_row_least
def b_row_greatest : MS := (xseq (xset 3 (xcall r_row_least (xcons (xlc (xseqI (xcall r_values_of (xcons (xv 0) xnil))) (tgn 4) xtyes (xcall r_multiplied (xcons (xc c_MINUS) (xcons (xv 4) xnil))) [4]) (xcons (xv 1) (xcons (xv 2) xnil)))))
  (xret (xif (xtru (xcb cbIsi (xcons (xv 3) (xcons (xc (.ty "str")) xnil)))) (xv 3) (xcall r_multiplied (xcons (xc c_MINUS) (xcons (xv 3) xnil))))))
def r_row_greatest : List D → Option R := runF 3 5 b_row_greatest
def b_row_kernel : MS := (xseq (xset 2 (xcb cbLen (xcons (xv 0) xnil)))
  (xret (xcb cbTuple (xcons (xlc (xrange1 (xcons (xop opSub (xv 2) (xv 1)) xnil)) (tgn 3) xtyes (xcall r_row_told (xcons (xv 0) (xcons (xcall r_unit_row (xcons (xv 2) (xcons (xv 1) (xcons (xv 3) xnil)))) xnil))) [3]) xnil))))
def r_row_kernel : List D → Option R := runF 2 4 b_row_kernel
def b_row_refuting_1 : MS := (xseq (xset 4 (xcall r_power_row (xcons (xv 2) (xcons (xv 3) xnil))))
  (xseq (xset 5 (xcall r_row_told (xcons (xv 0) (xcons (xv 4) xnil))))
  (xifs (xtest (xop opNe (xv 5) (xc c_NOUGHT))) (xseq (xset 6 (xif (xtru (xcall r_is_less (xcons (xv 5) (xcons (xc c_NOUGHT) xnil)))) (xc (.int 1)) (xun unNeg (xc (.int 1)))))
  (xret (xcb cbTuple (xcons (xlc (xseqI (xv 4)) (tgn 8) xtyes (xtup (xcons (xop opMul (xv 6) (xv 8)) (xcons (xc (.int 1)) xnil))) [8]) xnil)))) xnext)))
def b_row_refuting_2 : MS := (xifs (xtru (xcall r_is_less (xcons (xv 8) (xcons (xc c_NOUGHT) xnil)))) (xret (xcb cbTuple (xcons (xcall r_values_of (xcons (xcall r_unit_row (xcons (xv 2) (xcons (xv 1) (xcons (xv 7) xnil)))) xnil)) xnil))) xnext)
def b_row_refuting : MS := (xseq (xset 2 (xcb cbLen (xcons (xv 0) xnil)))
  (xseq (xfor (xrange1 (xcons (xcb cbMin2 (xcons (xv 1) (xcons (xv 2) xnil))) xnil)) (tgn 3) b_row_refuting_1)
  (xseq (xfor (xenumA (xcons (xcall r_row_kernel (xcons (xv 0) (xcons (xv 1) xnil))) xnil)) (tgt [(tgn 7), (tgn 8)]) b_row_refuting_2)
  (xret (xc .non)))))
def r_row_refuting : List D → Option R := runF 2 9 b_row_refuting
def b_row_never_below : MS := (xret (xop opIs (xcall r_row_refuting (xcons (xv 0) (xcons (xv 1) xnil))) (xc .non)))
def r_row_never_below : List D → Option R := runF 2 2 b_row_never_below
def b_are_values : MS := (xret (xvand (xcb cbIsi (xcons (xv 0) (xcons (xc (.ty "tuple")) xnil))) (xvand (xop opEq (xcb cbLen (xcons (xv 0) xnil)) (xv 1)) (xcb cbAll (xcons (xlc (xseqI (xv 0)) (tgn 2) xtyes (xcall r_is_value (xcons (xv 2) xnil)) [2]) xnil)))))
def r_are_values : List D → Option R := runF 2 3 b_are_values
def b_are_counts_1 : MS := (xseq (xset 7 (xlc (xrange1 (xcons (xv 5) xnil)) (tgn 11) xtyes (xcb cbInt (xcons (xop opEq (xv 11) (xv 6)) xnil)) [11]))
  (xseq (xset 8 (xlc (xzipA (xcons (xv 0) (xcons (xv 4) xnil))) (tgt [(tgn 12), (tgt [(tgn 13), (tgn 10)])]) xtyes (xcall r_multiplied (xcons (xcall r_value_of (xcons (xv 12) xnil)) (xcons (xcall r_value_of (xcons (xop opIx (xv 7) (xv 13)) xnil)) xnil))) [12, 13, 10]))
  (xseq (xset 9 (xcall r_differences (xcons (xcall r_values_of (xcons (xv 7) xnil)) (xcons (xv 3) xnil))))
  (xseq (xdrop (xmut 8 muExt (xcons (xlc (xzipA (xcons (xv 1) (xcons (xv 9) xnil))) (tgt [(tgn 14), (tgn 15)]) xtyes (xcall r_multiplied (xcons (xcall r_value_of (xcons (xv 14) xnil)) (xcons (xv 15) xnil))) [14, 15]) xnil)))
  (xifs (xtest (xop opNe (xcall r_summed (xcons (xv 8) xnil)) (xcall r_value_of (xcons (xop opIx (xv 2) (xv 6)) xnil)))) (xret (xc (.bl false))) xnext)))))
def b_are_counts : MS := (xseq (xset 5 (xcb cbLen (xcons (xv 2) xnil)))
  (xseq (xifs (xtor (xtnot (xtru (xcall r_are_values (xcons (xv 0) (xcons (xcb cbLen (xcons (xv 4) xnil)) xnil))))) (xtnot (xtru (xcall r_are_values (xcons (xv 1) (xcons (xcb cbMax2 (xcons (xc (.int 0)) (xcons (xop opSub (xv 5) (xv 3)) xnil))) xnil)))))) (xret (xc (.bl false))) xnext)
  (xseq (xifs (xtru (xcb cbAny (xcons (xlc (xseqI (xv 1)) (tgn 10) xtyes (xcall r_is_less (xcons (xcall r_value_of (xcons (xv 10) xnil)) (xcons (xc c_NOUGHT) xnil))) [10]) xnil))) (xret (xc (.bl false))) xnext)
  (xseq (xfor (xrange1 (xcons (xv 5) xnil)) (tgn 6) b_are_counts_1)
  (xret (xc (.bl true)))))))
def r_are_counts : List D → Option R := runF 5 16 b_are_counts
def b_is_row : MS := (xseq (xifs (xtor (xtnot (xtru (xcall r_are_values (xcons (xv 0) (xcons (xv 1) xnil))))) (xtnot (xtru (xcall r_is_kind (xcons (xv 0) (xcons (xv 2) xnil)))))) (xret (xc (.bl false))) xnext)
  (xret (xcb cbAll (xcons (xlc (xseqI (xv 3)) (tgt [(tgn 4), (tgn 5)]) xtyes (xop opEq (xcall r_value_of (xcons (xop opIx (xv 0) (xv 4)) xnil)) (xv 5)) [4, 5]) xnil))))
def r_is_row : List D → Option R := runF 4 6 b_is_row
def b_worth_of : MS := (xret (xcall r_summed (xcons (xlc (xzipA (xcons (xv 0) (xcons (xv 1) xnil))) (tgt [(tgn 2), (tgt [(tgn 3), (tgn 4)])]) xtyes (xcall r_multiplied (xcons (xcall r_value_of (xcons (xv 2) xnil)) (xcons (xv 4) xnil))) [2, 3, 4]) xnil)))
def r_worth_of : List D → Option R := runF 2 5 b_worth_of
def b_row_paper_holds : MS := (xseq (ypar 4 5 (ycons (xcall r_need_seen (xcons (xv 2) (xcons (xcb cbLen (xcons (xv 0) xnil)) xnil))) (ycons (xcb cbLen (xcons (xv 0) xnil)) ynil)))
  (xseq (xifs (xtor (xtnot (xtru (xcb cbIsi (xcons (xv 3) (xcons (xc (.ty "tuple")) xnil))))) (xtor (xtest (xop (opInB true) (xcb cbLen (xcons (xv 3) xnil)) (xtup (xcons (xc (.int 3)) (xcons (xc (.int 4)) xnil))))) (xtnot (xtru (xcb cbIsi (xcons (xop opIx (xv 3) (xc (.int 0))) (xcons (xc (.ty "str")) xnil))))))) (xret (xc (.bl false))) xnext)
  (xseq (xifs (xtand (xtest (xop opEq (xop opIx (xv 3) (xc (.int 0))) (xc (.str "least")))) (xtest (xop opEq (xcb cbLen (xcons (xv 3) xnil)) (xc (.int 4))))) (xseq (xifs (xtor (xtnot (xtru (xcall r_is_row (xcons (xop opIx (xv 3) (xc (.int 1))) (xcons (xv 5) (xcons (xv 1) (xcons (xv 4) xnil))))))) (xtnot (xtru (xcall r_are_counts (xcons (xop opIx (xv 3) (xc (.int 2))) (xcons (xop opIx (xv 3) (xc (.int 3))) (xcons (xv 0) (xcons (xv 1) (xcons (xv 4) xnil))))))))) (xret (xc (.bl false))) xnext)
  (xret (xop opEq (xcall r_row_told (xcons (xv 0) (xcons (xop opIx (xv 3) (xc (.int 1))) xnil))) (xcall r_worth_of (xcons (xop opIx (xv 3) (xc (.int 2))) (xcons (xv 4) xnil)))))) xnext)
  (xseq (xifs (xtand (xtest (xop opEq (xop opIx (xv 3) (xc (.int 0))) (xc (.str "none")))) (xtest (xop opEq (xcb cbLen (xcons (xv 3) xnil)) (xc (.int 3))))) (xret (xvand (xcall r_are_counts (xcons (xop opIx (xv 3) (xc (.int 1))) (xcons (xop opIx (xv 3) (xc (.int 2))) (xcons (xop opMul (xlst (xcons (xc (.int 0)) xnil)) (xv 5)) (xcons (xv 1) (xcons (xv 4) xnil)))))) (xcall r_is_less (xcons (xc c_NOUGHT) (xcons (xcall r_worth_of (xcons (xop opIx (xv 3) (xc (.int 1))) (xcons (xv 4) xnil))) xnil))))) xnext)
  (xseq (xifs (xtand (xtest (xop opEq (xop opIx (xv 3) (xc (.int 0))) (xc (.str "endless")))) (xtest (xop opEq (xcb cbLen (xcons (xv 3) xnil)) (xc (.int 3))))) (xseq (xset 6 (xlc (xseqI (xv 4)) (tgt [(tgn 7), (tgn 8)]) xtyes (xtup (xcons (xv 7) (xcons (xc c_NOUGHT) xnil))) [7, 8]))
  (xseq (xifs (xtor (xtnot (xtru (xcall r_is_row (xcons (xop opIx (xv 3) (xc (.int 1))) (xcons (xv 5) (xcons (xv 1) (xcons (xv 4) xnil))))))) (xtnot (xtru (xcall r_is_row (xcons (xop opIx (xv 3) (xc (.int 2))) (xcons (xv 5) (xcons (xv 1) (xcons (xv 6) xnil)))))))) (xret (xc (.bl false))) xnext)
  (xret (xcall r_is_less (xcons (xcall r_row_told (xcons (xv 0) (xcons (xop opIx (xv 3) (xc (.int 2))) xnil))) (xcons (xc c_NOUGHT) xnil)))))) xnext)
  (xret (xc (.bl false))))))))
def r_row_paper_holds : List D → Option R := runF 4 9 b_row_paper_holds
def b_law_1 : MS := (xseq (xset 2 (xif (xtest (xop opNe (xv 0) (xlst xnil))) (xop opAddB (xc (.int 1)) (xop opMod (xcb cbInt (xcons (xcb cbAbs (xcons (xop opIx (xv 0) (xv 1)) xnil)) xnil)) (xc (.int 9)))) (xc (.int 4))))
  (xseq (xset 3 (xop (opOwn 0 r_Rule_sub opSub) (xmake 0 r_Rule_init ([.tup [], .tup []].drop 1) (xcons (xc (.int 0)) (xcons (xc (.int 1)) (xcons (xlst (xcons (xtup (xcons (xtup (xcons (xc (.int 1)) (xcons (xc (.int 2)) xnil))) (xcons (xc (.int 1)) xnil))) xnil)) xnil)))) (xcall r_area (xcons (xc (.int 0)) (xcons (xc (.int 1)) xnil)))))
  (xseq (xifs (xtest (xop opNe (xcallK r_constant 0 2 [1, 0] [] xnil (xcons (xc (.int 2)) (xcons (xv 3) xnil))) (xcall r_constant (xcons (xv 3) (xcons (xc (.int 2)) xnil))))) (xret (xc (.bl false))) xnext)
  (xseq (xset 4 (xcallK r_greatest_miss 0 5 [4, 3, 2, 1, 0] [] xnil (xcons (xtup (xcons (xc (.int 1)) (xcons (xc (.int 9)) xnil))) (xcons (xv 2) (xcons (xop opSub (xc (.int 0)) (xc (.int 1))) (xcons (xc (.int 2)) (xcons (xv 3) xnil)))))))
  (xseq (xifs (xtor (xtest (xop opIs (xv 4) (xc .non))) (xtest (xop opGt (xop opMul (xop opIx (xop opIx (xv 4) (xc (.int 0))) (xc (.int 0))) (xop opIx (xop opIx (xv 4) (xc (.int 1))) (xc (.int 1)))) (xop opMul (xop opIx (xop opIx (xv 4) (xc (.int 1))) (xc (.int 0))) (xop opIx (xop opIx (xv 4) (xc (.int 0))) (xc (.int 1))))))) (xret (xc (.bl false))) xnext)
  (xseq (ypar 5 6 (ycons (xlst (xcons (xc (.int 1)) (xcons (xop opSub (xc (.int 0)) (xc (.int 2))) (xcons (xv 2) xnil)))) (ycons (xlst (xcons (xv 2) (xcons (xc (.int 0)) (xcons (xc (.int 3)) xnil)))) ynil)))
  (xseq (xifs (xtor (xtest (xop opIsNot (xcallK r_is_kind 0 2 [1, 0] [] xnil (xcons (xc (.int 2)) (xcons (xv 6) xnil))) (xc (.bl true)))) (xtest (xop opNe (xcallK r_row_told 0 2 [1, 0] [] xnil (xcons (xv 6) (xcons (xv 5) xnil))) (xtup (xcons (xop opMul (xc (.int 4)) (xv 2)) (xcons (xc (.int 1)) xnil)))))) (xret (xc (.bl false))) xnext)
  (xseq (xifs (xtest (xop opNe (xcallK r_row_kernel 0 2 [1, 0] [] xnil (xcons (xc (.int 2)) (xcons (xv 5) xnil))) (xcall r_row_kernel (xcons (xv 5) (xcons (xc (.int 2)) xnil))))) (xret (xc (.bl false))) xnext)
  (xseq (xifs (xtest (xop opNe (xcallK r_row_never_below 0 2 [1, 0] [] xnil (xcons (xc (.int 1)) (xcons (xv 5) xnil))) (xcall r_row_never_below (xcons (xv 5) (xcons (xc (.int 1)) xnil))))) (xret (xc (.bl false))) xnext)
  (xseq (xifs (xtest (xop opNe (xop opIs (xcallK r_row_refuting 0 2 [1, 0] [] xnil (xcons (xc (.int 2)) (xcons (xv 5) xnil))) (xc .non)) (xcall r_row_never_below (xcons (xv 5) (xcons (xc (.int 2)) xnil))))) (xret (xc (.bl false))) xnext)
  (xseq (xset 7 (xlst (xcons (xtup (xcons (xc (.int 0)) (xcons (xv 2) xnil))) (xcons (xtup (xcons (xc (.int 2)) (xcons (xc (.int 0)) xnil))) xnil))))
  (xseq (xifs (xtest (xop opNe (xcallK r_row_greatest 0 3 [2, 1, 0] [] xnil (xcons (xv 7) (xcons (xc (.int 2)) (xcons (xlst (xcons (xc (.int 0)) (xcons (xc (.int 1)) (xcons (xc (.int 0)) xnil)))) xnil)))) (xcall r_row_greatest (xcons (xlst (xcons (xc (.int 0)) (xcons (xc (.int 1)) (xcons (xc (.int 0)) xnil)))) (xcons (xc (.int 2)) (xcons (xv 7) xnil)))))) (xret (xc (.bl false))) xnext)
  (xseq (xifs (xtest (xop opNe (xcallK r_row_least 0 3 [2, 1, 0] [] xnil (xcons (xv 7) (xcons (xc (.int 2)) (xcons (xlst (xcons (xc (.int 0)) (xcons (xc (.int 1)) (xcons (xc (.int 0)) xnil)))) xnil)))) (xc (.str "endless")))) (xret (xc (.bl false))) xnext)
  (xseq (xset 8 (xcallK r_row_paper 0 3 [2, 1, 0] [] xnil (xcons (xv 7) (xcons (xc (.int 1)) (xcons (xlst (xcons (xc (.int 0)) (xcons (xc (.int 1)) (xcons (xc (.int 0)) xnil)))) xnil)))))
  (xifs (xtest (xop opIsNot (xcallK r_row_paper_holds 0 4 [3, 2, 1, 0] [] xnil (xcons (xv 8) (xcons (xv 7) (xcons (xc (.int 1)) (xcons (xlst (xcons (xc (.int 0)) (xcons (xc (.int 1)) (xcons (xc (.int 0)) xnil)))) xnil))))) (xc (.bl true)))) (xret (xc (.bl false))) xnext)))))))))))))))
def b_law : MS := (xseq (xfor (xrange1 (xcons (xcb cbMax2 (xcons (xc (.int 1)) (xcons (xcb cbMin2 (xcons (xc (.int 4)) (xcons (xcb cbLen (xcons (xv 0) xnil)) xnil))) xnil))) xnil)) (tgn 1) b_law_1)
  (xret (xc (.bl true))))
def r_law : List D → Option R := runF 1 9 b_law
end Bk
namespace Bk
open PySem L2 PyProof.Rows
def top (i : Nat) : Stmt := PySem.Challenge.pw_bendkinds_k58_arguments_by_names.main.body.getD i (.Pass ⟨0, 0, 0, 0⟩)
abbrev s_is_sequence : Stmt := top 13
abbrev s_is_less : Stmt := top 23
abbrev s_is_integer : Stmt := top 12
abbrev s_divisor : Stmt := top 14
abbrev s_is_pair : Stmt := top 16
abbrev s_is_value : Stmt := top 17
abbrev s_value_of : Stmt := top 18
abbrev s_is_between : Stmt := top 32
abbrev s_is_share : Stmt := top 34
abbrev s_is_weight : Stmt := top 33
abbrev s_ascending : Stmt := top 26
abbrev s_lowest : Stmt := top 15
abbrev s_added : Stmt := top 19
abbrev s_summed : Stmt := top 24
abbrev s_least_shares : Stmt := top 36
abbrev s_least_weights : Stmt := top 35
abbrev s_need_stretch : Stmt := top 31
abbrev s_Rule_init : Stmt := inClass (top 37) 0
abbrev s_Rule_add : Stmt := inClass (top 37) 5
abbrev s_Rule_neg : Stmt := inClass (top 37) 6
abbrev s_Rule_sub : Stmt := inClass (top 37) 7
abbrev s_area : Stmt := top 39
abbrev s_product_to : Stmt := top 53
abbrev s_quotient : Stmt := top 22
abbrev s_area_powers : Stmt := top 41
abbrev s_less_by : Stmt := top 20
abbrev s_multiplied : Stmt := top 21
abbrev s_value_at : Stmt := top 40
abbrev s_told : Stmt := top 42
abbrev s_constant : Stmt := top 55
abbrev s_shifted : Stmt := top 56
abbrev s_ways_to_choose : Stmt := top 54
abbrev s_handles_of : Stmt := top 57
abbrev s_Part_init : Stmt := inClass (top 58) 0
abbrev s_Part_halves : Stmt := inClass (top 58) 1
abbrev s_degree : Stmt := top 44
abbrev s_knots_of : Stmt := top 46
abbrev s_powered : Stmt := top 25
abbrev s_ways : Stmt := top 47
abbrev s_distance_power : Stmt := top 48
abbrev s_sum_of : Stmt := top 49
abbrev s_piece : Stmt := top 50
abbrev s_kernel : Stmt := top 51
abbrev s_greatest_miss : Stmt := top 59
abbrev s_differences : Stmt := top 62
abbrev s_values_of : Stmt := top 61
abbrev s_is_kind : Stmt := top 63
abbrev s_is_seen : Stmt := top 72
abbrev s_need_seen : Stmt := top 73
abbrev s_Table_init : Stmt := inClass (top 74) 0
abbrev s_Table_turn : Stmt := inClass (top 74) 2
abbrev s_Table_clear : Stmt := inClass (top 74) 5
abbrev s_Table_costs_left : Stmt := inClass (top 74) 1
abbrev s_Table_counts_of : Stmt := inClass (top 74) 8
abbrev s_Table_place_for : Stmt := inClass (top 74) 3
abbrev s_Table_lower : Stmt := inClass (top 74) 4
abbrev s_Table_values_now : Stmt := inClass (top 74) 6
abbrev s_Table_way_of : Stmt := inClass (top 74) 7
abbrev s_row_told : Stmt := top 64
abbrev s_unit_row : Stmt := top 65
abbrev s_factors_of : Stmt := top 77
abbrev s_row_of : Stmt := top 76
abbrev s_power_row : Stmt := top 66
abbrev s_unit_rows : Stmt := top 75
abbrev s_solved : Stmt := top 78
abbrev s_row_paper : Stmt := top 79
abbrev s_row_least : Stmt := top 80
abbrev s_row_greatest : Stmt := top 81
abbrev s_row_kernel : Stmt := top 67
abbrev s_row_refuting : Stmt := top 68
abbrev s_row_never_below : Stmt := top 69
abbrev s_are_values : Stmt := top 82
abbrev s_are_counts : Stmt := top 84
abbrev s_is_row : Stmt := top 83
abbrev s_worth_of : Stmt := top 85
abbrev s_row_paper_holds : Stmt := top 86
abbrev s_law : Stmt := top 88
abbrev nm_is_sequence : List PySem.Str := ["value"]
abbrev nm_is_less : List PySem.Str := ["one", "other"]
abbrev nm_is_integer : List PySem.Str := ["value"]
abbrev nm_divisor : List PySem.Str := ["one", "other"]
abbrev nm_is_pair : List PySem.Str := ["value", "one"]
abbrev nm_is_value : List PySem.Str := ["value"]
abbrev nm_value_of : List PySem.Str := ["value"]
abbrev nm_is_between : List PySem.Str := ["value", "low", "high"]
abbrev nm_is_share : List PySem.Str := ["value", "low", "high"]
abbrev nm_is_weight : List PySem.Str := ["value", "low", "high"]
abbrev nm_ascending : List PySem.Str := ["values", "common_here", "top", "low", "scaled_ones", "one", "at", "place"]
abbrev nm_lowest : List PySem.Str := ["top", "low", "common"]
abbrev nm_added : List PySem.Str := ["one", "other"]
abbrev nm_summed : List PySem.Str := ["values", "found", "one"]
abbrev nm_least_shares : List PySem.Str := ["shares", "parts", "cuts", "found", "start", "end", "some", "here", "share", "one", "first", "last", "part"]
abbrev nm_least_weights : List PySem.Str := ["weights", "pairs", "found", "point", "weight", "place", "pair"]
abbrev nm_need_stretch : List PySem.Str := ["low", "high"]
abbrev nm_Rule_init : List PySem.Str := ["self", "low", "high", "weights", "shares", "one"]
abbrev nm_Rule_add : List PySem.Str := ["self", "other"]
abbrev nm_Rule_neg : List PySem.Str := ["self", "weights", "point", "top", "low", "start", "end"]
abbrev nm_Rule_sub : List PySem.Str := ["self", "other"]
abbrev nm_area : List PySem.Str := ["low", "high", "first", "last"]
abbrev nm_product_to : List PySem.Str := ["many", "found", "factor"]
abbrev nm_quotient : List PySem.Str := ["one", "other"]
abbrev nm_area_powers : List PySem.Str := ["powers", "at", "one"]
abbrev nm_less_by : List PySem.Str := ["one", "other"]
abbrev nm_multiplied : List PySem.Str := ["one", "other"]
abbrev nm_value_at : List PySem.Str := ["powers", "place", "found", "one"]
abbrev nm_told : List PySem.Str := ["rule", "powers", "some", "whole", "parts", "start", "end", "share", "one", "point", "weight"]
abbrev nm_constant : List PySem.Str := ["rule", "n"]
abbrev nm_shifted : List PySem.Str := ["powers", "start", "wide", "found", "power", "longer", "one", "here", "there"]
abbrev nm_ways_to_choose : List PySem.Str := ["many", "few"]
abbrev nm_handles_of : List PySem.Str := ["powers", "start", "end", "inner", "many", "found", "at", "parts", "spot"]
abbrev nm_Part_init : List PySem.Str := ["self", "start", "end", "powers", "handles", "wide", "mean", "highs", "lows", "one"]
abbrev nm_Part_halves : List PySem.Str := ["self", "middle"]
abbrev nm_degree : List PySem.Str := ["rule", "powers"]
abbrev nm_knots_of : List PySem.Str := ["rule", "some", "start", "end", "share", "below", "one", "point", "weight", "top", "low", "count"]
abbrev nm_powered : List PySem.Str := ["value", "many", "found", "turn"]
abbrev nm_ways : List PySem.Str := ["many", "chosen", "found", "at"]
abbrev nm_distance_power : List PySem.Str := ["place", "many", "factor", "found", "at", "sign"]
abbrev nm_sum_of : List PySem.Str := ["one", "other", "wide", "spot", "here", "there"]
abbrev nm_piece : List PySem.Str := ["rule", "n", "start", "end", "found", "point", "weight", "first", "last", "share", "part", "spot"]
abbrev nm_kernel : List PySem.Str := ["rule", "n", "knots", "start", "end"]
abbrev nm_greatest_miss : List PySem.Str := ["rule", "n", "least", "most", "near", "reach", "low", "high", "width", "parts", "factor", "base", "first", "last", "finer_parts", "part", "start", "end", "powers"]
abbrev nm_differences : List PySem.Str := ["row", "n", "turn", "here", "there"]
abbrev nm_values_of : List PySem.Str := ["row", "one"]
abbrev nm_is_kind : List PySem.Str := ["row", "n", "one"]
abbrev nm_is_seen : List PySem.Str := ["value", "many", "least"]
abbrev nm_need_seen : List PySem.Str := ["seen", "many", "found", "least", "at", "pair"]
abbrev nm_Table_init : List PySem.Str := ["self", "columns", "values", "at", "one", "line", "column", "spot"]
abbrev nm_Table_turn : List PySem.Str := ["self", "at", "column", "key", "head", "found", "spot", "line", "by", "one", "other"]
abbrev nm_Table_clear : List PySem.Str := ["self", "at", "column", "spot"]
abbrev nm_Table_costs_left : List PySem.Str := ["self", "costs", "found", "at", "saved", "spot", "line"]
abbrev nm_Table_counts_of : List PySem.Str := ["self", "costs", "left", "own", "sign", "cost", "one"]
abbrev nm_Table_place_for : List PySem.Str := ["self", "column", "found", "least", "at", "line", "bound", "is_nearer"]
abbrev nm_Table_lower : List PySem.Str := ["self", "costs", "many", "left", "falling", "place", "at"]
abbrev nm_Table_values_now : List PySem.Str := ["self", "found", "at", "spot"]
abbrev nm_Table_way_of : List PySem.Str := ["self", "column", "found", "at", "spot"]
abbrev nm_row_told : List PySem.Str := ["weights", "row", "weight", "one"]
abbrev nm_unit_row : List PySem.Str := ["many", "n", "k", "at"]
abbrev nm_factors_of : List PySem.Str := ["weights", "n", "seen", "counts", "many", "left", "place", "one", "count", "k"]
abbrev nm_row_of : List PySem.Str := ["units", "counts", "many", "found", "at", "count", "unit"]
abbrev nm_power_row : List PySem.Str := ["many", "j", "at"]
abbrev nm_unit_rows : List PySem.Str := ["many", "n", "found", "j", "row", "one", "k"]
abbrev nm_solved : List PySem.Str := ["weights", "n", "seen", "many", "units", "table", "first", "counts", "worth", "costs", "falling", "row", "unit", "place", "one", "count"]
abbrev nm_row_paper : List PySem.Str := ["weights", "n", "seen"]
abbrev nm_row_least : List PySem.Str := ["weights", "n", "seen", "found"]
abbrev nm_row_greatest : List PySem.Str := ["weights", "n", "seen", "found", "one"]
abbrev nm_row_kernel : List PySem.Str := ["weights", "n", "many", "k"]
abbrev nm_row_refuting : List PySem.Str := ["weights", "n", "many", "j", "row", "found", "sign", "k", "one"]
abbrev nm_row_never_below : List PySem.Str := ["weights", "n"]
abbrev nm_are_values : List PySem.Str := ["value", "many", "one"]
abbrev nm_are_counts : List PySem.Str := ["counts", "factors", "weights", "n", "seen", "many", "j", "line", "parts", "moves", "one", "at", "count", "place", "factor", "move"]
abbrev nm_is_row : List PySem.Str := ["value", "many", "n", "seen", "place", "one"]
abbrev nm_worth_of : List PySem.Str := ["counts", "seen", "count", "place", "one"]
abbrev nm_row_paper_holds : List PySem.Str := ["weights", "n", "seen", "value", "some", "many", "still", "place", "one"]
abbrev nm_law : List PySem.Str := ["_law_script", "_law_zturn", "_law_zmany", "_law_zmade", "_law_zfound", "_law_zweights", "_law_zline", "_law_zseen", "_law_zpaper"]
abbrev pm_is_sequence : List PySem.Str := ["value"]
abbrev pm_is_less : List PySem.Str := ["one", "other"]
abbrev pm_is_integer : List PySem.Str := ["value"]
abbrev pm_divisor : List PySem.Str := ["one", "other"]
abbrev pm_is_pair : List PySem.Str := ["value"]
abbrev pm_is_value : List PySem.Str := ["value"]
abbrev pm_value_of : List PySem.Str := ["value"]
abbrev pm_is_between : List PySem.Str := ["value", "low", "high"]
abbrev pm_is_share : List PySem.Str := ["value", "low", "high"]
abbrev pm_is_weight : List PySem.Str := ["value", "low", "high"]
abbrev pm_ascending : List PySem.Str := ["values"]
abbrev pm_lowest : List PySem.Str := ["top", "low"]
abbrev pm_added : List PySem.Str := ["one", "other"]
abbrev pm_summed : List PySem.Str := ["values"]
abbrev pm_least_shares : List PySem.Str := ["shares"]
abbrev pm_least_weights : List PySem.Str := ["weights"]
abbrev pm_need_stretch : List PySem.Str := ["low", "high"]
abbrev pm_Rule_init : List PySem.Str := ["self", "low", "high", "weights", "shares"]
abbrev pm_Rule_add : List PySem.Str := ["self", "other"]
abbrev pm_Rule_neg : List PySem.Str := ["self"]
abbrev pm_Rule_sub : List PySem.Str := ["self", "other"]
abbrev pm_area : List PySem.Str := ["low", "high"]
abbrev pm_product_to : List PySem.Str := ["many"]
abbrev pm_quotient : List PySem.Str := ["one", "other"]
abbrev pm_area_powers : List PySem.Str := ["powers"]
abbrev pm_less_by : List PySem.Str := ["one", "other"]
abbrev pm_multiplied : List PySem.Str := ["one", "other"]
abbrev pm_value_at : List PySem.Str := ["powers", "place"]
abbrev pm_told : List PySem.Str := ["rule", "powers"]
abbrev pm_constant : List PySem.Str := ["rule", "n"]
abbrev pm_shifted : List PySem.Str := ["powers", "start", "wide"]
abbrev pm_ways_to_choose : List PySem.Str := ["many", "few"]
abbrev pm_handles_of : List PySem.Str := ["powers", "start", "end"]
abbrev pm_Part_init : List PySem.Str := ["self", "start", "end", "powers"]
abbrev pm_Part_halves : List PySem.Str := ["self"]
abbrev pm_degree : List PySem.Str := ["rule"]
abbrev pm_knots_of : List PySem.Str := ["rule"]
abbrev pm_powered : List PySem.Str := ["value", "many"]
abbrev pm_ways : List PySem.Str := ["many", "chosen"]
abbrev pm_distance_power : List PySem.Str := ["place", "many", "factor"]
abbrev pm_sum_of : List PySem.Str := ["one", "other"]
abbrev pm_piece : List PySem.Str := ["rule", "n", "start", "end"]
abbrev pm_kernel : List PySem.Str := ["rule", "n"]
abbrev pm_greatest_miss : List PySem.Str := ["rule", "n", "least", "most", "near"]
abbrev pm_differences : List PySem.Str := ["row", "n"]
abbrev pm_values_of : List PySem.Str := ["row"]
abbrev pm_is_kind : List PySem.Str := ["row", "n"]
abbrev pm_is_seen : List PySem.Str := ["value", "many", "least"]
abbrev pm_need_seen : List PySem.Str := ["seen", "many"]
abbrev pm_Table_init : List PySem.Str := ["self", "columns", "values"]
abbrev pm_Table_turn : List PySem.Str := ["self", "at", "column"]
abbrev pm_Table_clear : List PySem.Str := ["self"]
abbrev pm_Table_costs_left : List PySem.Str := ["self", "costs"]
abbrev pm_Table_counts_of : List PySem.Str := ["self", "costs"]
abbrev pm_Table_place_for : List PySem.Str := ["self", "column"]
abbrev pm_Table_lower : List PySem.Str := ["self", "costs", "many"]
abbrev pm_Table_values_now : List PySem.Str := ["self"]
abbrev pm_Table_way_of : List PySem.Str := ["self", "column"]
abbrev pm_row_told : List PySem.Str := ["weights", "row"]
abbrev pm_unit_row : List PySem.Str := ["many", "n", "k"]
abbrev pm_factors_of : List PySem.Str := ["weights", "n", "seen", "counts"]
abbrev pm_row_of : List PySem.Str := ["units", "counts", "many"]
abbrev pm_power_row : List PySem.Str := ["many", "j"]
abbrev pm_unit_rows : List PySem.Str := ["many", "n"]
abbrev pm_solved : List PySem.Str := ["weights", "n", "seen"]
abbrev pm_row_paper : List PySem.Str := ["weights", "n", "seen"]
abbrev pm_row_least : List PySem.Str := ["weights", "n", "seen"]
abbrev pm_row_greatest : List PySem.Str := ["weights", "n", "seen"]
abbrev pm_row_kernel : List PySem.Str := ["weights", "n"]
abbrev pm_row_refuting : List PySem.Str := ["weights", "n"]
abbrev pm_row_never_below : List PySem.Str := ["weights", "n"]
abbrev pm_are_values : List PySem.Str := ["value", "many"]
abbrev pm_are_counts : List PySem.Str := ["counts", "factors", "weights", "n", "seen"]
abbrev pm_is_row : List PySem.Str := ["value", "many", "n", "seen"]
abbrev pm_worth_of : List PySem.Str := ["counts", "seen"]
abbrev pm_row_paper_holds : List PySem.Str := ["weights", "n", "seen", "value"]
abbrev pm_law : List PySem.Str := ["_law_script"]
structure Txt (K : PySem.W.Frag) (mg : PySem.Str → Option Value) where
  Part : ClT K mg 1
  Rule : ClT K mg 0
  Table : ClT K mg 5
  is_sequence : FnT K mg "is_sequence" s_is_sequence
  is_less : FnT K mg "is_less" s_is_less
  is_integer : FnT K mg "is_integer" s_is_integer
  divisor : FnT K mg "divisor" s_divisor
  is_pair : FnT K mg "is_pair" s_is_pair
  is_value : FnT K mg "is_value" s_is_value
  value_of : FnT K mg "value_of" s_value_of
  is_between : FnT K mg "is_between" s_is_between
  is_share : FnT K mg "is_share" s_is_share
  is_weight : FnT K mg "is_weight" s_is_weight
  ascending : FnT K mg "ascending" s_ascending
  lowest : FnT K mg "lowest" s_lowest
  added : FnT K mg "added" s_added
  summed : FnT K mg "summed" s_summed
  least_shares : FnT K mg "least_shares" s_least_shares
  least_weights : FnT K mg "least_weights" s_least_weights
  need_stretch : FnT K mg "need_stretch" s_need_stretch
  Rule_init : FnMD K Rule.C "__init__" "Rule.__init__" s_Rule_init [.tup [], .tup []]
  mk_Rule : Mk K Rule.C Rule_init.f
  Rule_add : FnM K Rule.C "__add__" "Rule.__add__" s_Rule_add
  Rule_neg : FnM K Rule.C "__neg__" "Rule.__neg__" s_Rule_neg
  Rule_sub : FnM K Rule.C "__sub__" "Rule.__sub__" s_Rule_sub
  area : FnT K mg "area" s_area
  product_to : FnT K mg "product_to" s_product_to
  quotient : FnT K mg "quotient" s_quotient
  area_powers : FnT K mg "area_powers" s_area_powers
  less_by : FnT K mg "less_by" s_less_by
  multiplied : FnT K mg "multiplied" s_multiplied
  value_at : FnT K mg "value_at" s_value_at
  told : FnT K mg "told" s_told
  constant : FnT K mg "constant" s_constant
  shifted : FnT K mg "shifted" s_shifted
  ways_to_choose : FnT K mg "ways_to_choose" s_ways_to_choose
  handles_of : FnT K mg "handles_of" s_handles_of
  Part_init : FnM K Part.C "__init__" "Part.__init__" s_Part_init
  mk_Part : Mk K Part.C Part_init.f
  Part_halves : FnM K Part.C "halves" "Part.halves" s_Part_halves
  degree : FnT K mg "degree" s_degree
  knots_of : FnT K mg "knots_of" s_knots_of
  powered : FnT K mg "powered" s_powered
  ways : FnT K mg "ways" s_ways
  distance_power : FnT K mg "distance_power" s_distance_power
  sum_of : FnT K mg "sum_of" s_sum_of
  piece : FnT K mg "piece" s_piece
  kernel : FnT K mg "kernel" s_kernel
  greatest_miss : FnT K mg "greatest_miss" s_greatest_miss
  differences : FnT K mg "differences" s_differences
  values_of : FnT K mg "values_of" s_values_of
  is_kind : FnT K mg "is_kind" s_is_kind
  is_seen : FnT K mg "is_seen" s_is_seen
  need_seen : FnT K mg "need_seen" s_need_seen
  Table_init : FnM K Table.C "__init__" "Table.__init__" s_Table_init
  mk_Table : Mk K Table.C Table_init.f
  Table_turn : FnM K Table.C "turn" "Table.turn" s_Table_turn
  Table_clear : FnM K Table.C "clear" "Table.clear" s_Table_clear
  Table_costs_left : FnM K Table.C "costs_left" "Table.costs_left" s_Table_costs_left
  Table_counts_of : FnM K Table.C "counts_of" "Table.counts_of" s_Table_counts_of
  Table_place_for : FnM K Table.C "place_for" "Table.place_for" s_Table_place_for
  Table_lower : FnM K Table.C "lower" "Table.lower" s_Table_lower
  Table_values_now : FnM K Table.C "values_now" "Table.values_now" s_Table_values_now
  Table_way_of : FnM K Table.C "way_of" "Table.way_of" s_Table_way_of
  row_told : FnT K mg "row_told" s_row_told
  unit_row : FnT K mg "unit_row" s_unit_row
  factors_of : FnT K mg "factors_of" s_factors_of
  row_of : FnT K mg "row_of" s_row_of
  power_row : FnT K mg "power_row" s_power_row
  unit_rows : FnT K mg "unit_rows" s_unit_rows
  solved : FnT K mg "solved" s_solved
  row_paper : FnT K mg "row_paper" s_row_paper
  row_least : FnT K mg "row_least" s_row_least
  row_greatest : FnT K mg "row_greatest" s_row_greatest
  row_kernel : FnT K mg "row_kernel" s_row_kernel
  row_refuting : FnT K mg "row_refuting" s_row_refuting
  row_never_below : FnT K mg "row_never_below" s_row_never_below
  are_values : FnT K mg "are_values" s_are_values
  are_counts : FnT K mg "are_counts" s_are_counts
  is_row : FnT K mg "is_row" s_is_row
  worth_of : FnT K mg "worth_of" s_worth_of
  row_paper_holds : FnT K mg "row_paper_holds" s_row_paper_holds
  law : FnT K mg "law" s_law
  sf_Rule : PySem.W.selfFirst K Rule.C = true
  MINUS : CoT K mg "MINUS" c_MINUS
  NOUGHT : CoT K mg "NOUGHT" c_NOUGHT
  ONE : CoT K mg "ONE" c_ONE
  abs : mg "abs" = none
  all : mg "all" = none
  any : mg "any" = none
  bool : mg "bool" = none
  enumerate : mg "enumerate" = none
  int : mg "int" = none
  isinstance : mg "isinstance" = none
  len : mg "len" = none
  list : mg "list" = none
  max : mg "max" = none
  min : mg "min" = none
  range : mg "range" = none
  set : mg "set" = none
  sorted : mg "sorted" = none
  str : mg "str" = none
  tuple : mg "tuple" = none
  zip : mg "zip" = none
section
variable {P : Program} {w : World} {K : PySem.W.Frag} {mg : PySem.Str → Option Value} {base : Heap}
theorem sc_is_sequence : FnScope nm_is_sequence pm_is_sequence (defScope s_is_sequence) := ⟨rfl, rfl, rfl, by decide +kernel, rfl, by decide +kernel, by decide +kernel⟩
theorem len1 {α : Type} {us : List α} (hl : us.length = 1) : ∃ a0, us = [a0] := match us, hl with | [a0], _ => ⟨a0, rfl⟩
theorem len2 {α : Type} {us : List α} (hl : us.length = 2) : ∃ a0 a1, us = [a0, a1] := match us, hl with | [a0, a1], _ => ⟨a0, a1, rfl⟩
theorem len3 {α : Type} {us : List α} (hl : us.length = 3) : ∃ a0 a1 a2, us = [a0, a1, a2] := match us, hl with | [a0, a1, a2], _ => ⟨a0, a1, a2, rfl⟩
theorem len4 {α : Type} {us : List α} (hl : us.length = 4) : ∃ a0 a1 a2 a3, us = [a0, a1, a2, a3] := match us, hl with | [a0, a1, a2, a3], _ => ⟨a0, a1, a2, a3, rfl⟩
theorem len5 {α : Type} {us : List α} (hl : us.length = 5) : ∃ a0 a1 a2 a3 a4, us = [a0, a1, a2, a3, a4] := match us, hl with | [a0, a1, a2, a3, a4], _ => ⟨a0, a1, a2, a3, a4, rfl⟩
theorem bi_is_sequence (T : Txt K mg) : Binds K T.is_sequence.fd pm_is_sequence [] := T.is_sequence.F.binds fun _ _ _ _ _ _ us hl => by obtain ⟨_, rfl⟩ := len1 hl; rfl
theorem ok_is_sequence (T : Txt K mg) : FnOk P w K mg base CX0 1 T.is_sequence.f T.is_sequence.fd pm_is_sequence (spF K r_is_sequence) := by
  have nd := sc_is_sequence.nd
  refine data_F T.is_sequence.F sc_is_sequence fun cdv A outer s H E hr => ?_
  refine ⟨_, (pss_one (ps_ret (pe_callB (kcr_isiS (K := K) rfl) (by rfl) T.isinstance (by decide +kernel) (pa_cons (pv 0) (pa_cons (pe_tup (pa_cons (pe_bltn (v := .ty "list") (u := .type "list") (by rfl) T.list (by decide +kernel) rfl) (pa_cons (pe_bltn (v := .ty "tuple") (u := .type "tuple") (by rfl) T.tuple (by decide +kernel) rfl) pa_nil))) pa_nil))))), ?_⟩
  exact ((sk_ret (gk_cb cd_isiS (ak_cons gk_var (ak_cons (gk_tup (ak_cons (gk_c fun _ => .ty _) (ak_cons (gk_c fun _ => .ty _) ak_nil))) ak_nil)))) : SOk K _ b_is_sequence)
theorem sc_is_less : FnScope nm_is_less pm_is_less (defScope s_is_less) := ⟨rfl, rfl, rfl, by decide +kernel, rfl, by decide +kernel, by decide +kernel⟩
theorem bi_is_less (T : Txt K mg) : Binds K T.is_less.fd pm_is_less [] := T.is_less.F.binds fun _ _ _ _ _ _ us hl => by obtain ⟨_, _, rfl⟩ := len2 hl; rfl
theorem ok_is_less (T : Txt K mg) : FnOk P w K mg base CX0 1 T.is_less.f T.is_less.fd pm_is_less (spF K r_is_less) := by
  have nd := sc_is_less.nd
  refine data_F T.is_less.F sc_is_less fun cdv A outer s H E hr => ?_
  refine ⟨_, (pss_one (ps_ret (pe_cmpR op_lt (pe_op op_mulA (pe_ix (kix (K := K) rfl) (pv 0) pe_int (fun _ _ => rfl)) (pe_ix (kix (K := K) rfl) (pv 1) pe_int (fun _ _ => rfl))) (pe_op op_mulA (pe_ix (kix (K := K) rfl) (pv 1) pe_int (fun _ _ => rfl)) (pe_ix (kix (K := K) rfl) (pv 0) pe_int (fun _ _ => rfl))) (nomark _)))), ?_⟩
  exact ((sk_ret (gk_op od_lt (gk_op od_mul (gk_op od_ix gk_var gk_int) (gk_op od_ix gk_var gk_int)) (gk_op od_mul (gk_op od_ix gk_var gk_int) (gk_op od_ix gk_var gk_int)))) : SOk K _ b_is_less)
theorem sc_is_integer : FnScope nm_is_integer pm_is_integer (defScope s_is_integer) := ⟨rfl, rfl, rfl, by decide +kernel, rfl, by decide +kernel, by decide +kernel⟩
theorem bi_is_integer (T : Txt K mg) : Binds K T.is_integer.fd pm_is_integer [] := T.is_integer.F.binds fun _ _ _ _ _ _ us hl => by obtain ⟨_, rfl⟩ := len1 hl; rfl
theorem ok_is_integer (T : Txt K mg) : FnOk P w K mg base CX0 1 T.is_integer.f T.is_integer.fd pm_is_integer (spF K r_is_integer) := by
  have nd := sc_is_integer.nd
  refine data_F T.is_integer.F sc_is_integer fun cdv A outer s H E hr => ?_
  refine ⟨_, (pss_one (ps_ret (pe_and (pe_callB (kcr_isi (K := K) rfl) (by rfl) T.isinstance (by decide +kernel) (pa_cons (pv 0) (pa_cons (pe_bltn (v := .ty "int") (u := .type "int") (by rfl) T.int (by decide +kernel) rfl) pa_nil))) (pe_one (pe_not (pe_callB (kcr_isi (K := K) rfl) (by rfl) T.isinstance (by decide +kernel) (pa_cons (pv 0) (pa_cons (pe_bltn (v := .ty "bool") (u := .type "bool") (by rfl) T.bool (by decide +kernel) rfl) pa_nil)))))))), ?_⟩
  exact ((sk_ret (gk_vand (gk_cb cd_isi (ak_cons gk_var (ak_cons (gk_c fun _ => .ty _) ak_nil))) (gk_vnot (gk_cb cd_isi (ak_cons gk_var (ak_cons (gk_c fun _ => .ty _) ak_nil)))))) : SOk K _ b_is_integer)
theorem sc_divisor : FnScope nm_divisor pm_divisor (defScope s_divisor) := ⟨rfl, rfl, rfl, by decide +kernel, rfl, by decide +kernel, by decide +kernel⟩
theorem bi_divisor (T : Txt K mg) : Binds K T.divisor.fd pm_divisor [] := T.divisor.F.binds fun _ _ _ _ _ _ us hl => by obtain ⟨_, _, rfl⟩ := len2 hl; rfl
theorem ok_divisor (T : Txt K mg) : FnOk P w K mg base CX0 1 T.divisor.f T.divisor.fd pm_divisor (spF K r_divisor) := by
  have nd := sc_divisor.nd
  refine data_F T.divisor.F sc_divisor fun cdv A outer s H E hr => ?_
  refine ⟨_, (pss_cons (ps_par (i := 0) (j := 1) rfl nd rfl rfl (by decide) rfl rfl (pa_cons (pe_callB cr_abs (by rfl) T.abs (by decide +kernel) (pa_cons (pv 0) pa_nil)) (pa_cons (pe_callB cr_abs (by rfl) T.abs (by decide +kernel) (pa_cons (pv 1) pa_nil)) pa_nil)) (by rfl))
    (pss_cons (ps_while PassesOwn.never (pt_cmpR (kop_ne (K := K) rfl hr.units) (pv 1) pe_int (nomark _)) (pss_one (ps_par (i := 0) (j := 1) rfl nd rfl rfl (by decide) rfl rfl (pa_cons (pv 1) (pa_cons (pe_op op_modA (pv 0) (pv 1)) pa_nil)) (by rfl))))
    (pss_one (ps_ret (pv 0))))), ?_⟩
  exact ((sk_seq (sk_ypar (yk_cons (gk_cb cd_abs (ak_cons gk_var ak_nil)) (yk_cons (gk_cb cd_abs (ak_cons gk_var ak_nil)) yk_nil)))
    (sk_seq (sk_while (fuelI 1) (tk_test (gk_op od_ne gk_var gk_int)) ((sk_ypar (yk_cons gk_var (yk_cons (gk_op od_mod gk_var gk_var) yk_nil))) : SOk K _ b_divisor_1))
    (sk_ret gk_mv))) : SOk K _ b_divisor)
theorem sc_is_pair : FnScope nm_is_pair pm_is_pair (defScope s_is_pair) := ⟨rfl, rfl, rfl, by decide +kernel, rfl, by decide +kernel, by decide +kernel⟩
theorem bi_is_pair (T : Txt K mg) : Binds K T.is_pair.fd pm_is_pair [] := T.is_pair.F.binds fun _ _ _ _ _ _ us hl => by obtain ⟨_, rfl⟩ := len1 hl; rfl
theorem ok_is_pair (T : Txt K mg) : FnOk P w K mg base CX0 2 T.is_pair.f T.is_pair.fd pm_is_pair (spF K r_is_pair) := by
  have nd := sc_is_pair.nd
  refine data_F T.is_pair.F sc_is_pair fun cdv A outer s H E hr => ?_
  refine ⟨_, (pss_cons (ps_if (PW.pt (pw_or (pt_not (kpt_tru (K := K) rfl (pe_callB (kcr_isi (K := K) rfl) (by rfl) T.isinstance (by decide +kernel) (pa_cons (pv 0) (pa_cons (pe_bltn (v := .ty "tuple") (u := .type "tuple") (by rfl) T.tuple (by decide +kernel) rfl) pa_nil))) (by intro _; rfl))) (pw_or (pt_cmpR (kop_ne (K := K) rfl hr.units) (pe_callB (kcr_len (K := K) rfl) (by rfl) T.len (by decide +kernel) (pa_cons (pv 0) pa_nil)) pe_int (nomark _)) (pw_or1 (pt_not (kpt_tru (K := K) rfl (pe_callB (kcr_all (K := K) rfl rfl) (by rfl) T.all (by decide +kernel) (pa_cons (pe_lc (own := [("one", 1)]) rfl nd (kpi_seq (K := K) rfl (pv 0)) (blkOk_by (N := nm_is_pair) (sc := defScope s_is_pair) (by decide +kernel)) (fun _ _ _ _ _ => (pg_name (i := 1) nd rfl (Or.inl rfl))) (fun _ _ _ _ _ => pts_nil) (fun _ _ _ _ _ => (pe_call (ok_is_integer T) (hr.mono (by decide)) rfl T.is_integer.m T.is_integer.F.kp (bi_is_integer T) .nil pass0 (pa_cons (pv 1) pa_nil)))) pa_nil)) (by intro _; rfl))))))) (pss_one (ps_ret pe_bl)) pss_nil)
    (pss_one (ps_ret (pe_and (pe_cmpR op_gt (pe_ix (kix (K := K) rfl) (pv 0) pe_int (fun _ _ => rfl)) pe_int (nomark _)) (pe_one (pe_cmpR (kop_eq (K := K) rfl hr.units) (pe_call (ok_divisor T) (hr.mono (by decide)) rfl T.divisor.m T.divisor.F.kp (bi_divisor T) .nil pass0 (pa_cons (pe_ix (kix (K := K) rfl) (pv 0) pe_int (fun _ _ => rfl)) (pa_cons (pe_ix (kix (K := K) rfl) (pv 0) pe_int (fun _ _ => rfl)) pa_nil))) pe_int (nomark _))))))), ?_⟩
  exact ((sk_seq (sk_if (tk_or (tk_not (tk_truK (gk_cb cd_isi (ak_cons gk_var (ak_cons (gk_c fun _ => .ty _) ak_nil))))) (tk_or (tk_test (gk_op od_ne (gk_cb cd_len (ak_cons gk_var ak_nil)) gk_int)) (tk_not (tk_truK (gk_cb cd_all (ak_cons (gk_lc (ik_seq gk_var) gt_name tk_yes (gk_call (ak_cons gk_var ak_nil)) (by decide)) ak_nil)))))) (sk_ret gk_bl) sk_next)
    (sk_ret (gk_vand (gk_op od_gt (gk_op od_ix gk_var gk_int) gk_int) (gk_op od_eq (gk_call (ak_cons (gk_op od_ix gk_var gk_int) (ak_cons (gk_op od_ix gk_var gk_int) ak_nil))) gk_int)))) : SOk K _ b_is_pair)
theorem sc_is_value : FnScope nm_is_value pm_is_value (defScope s_is_value) := ⟨rfl, rfl, rfl, by decide +kernel, rfl, by decide +kernel, by decide +kernel⟩
theorem bi_is_value (T : Txt K mg) : Binds K T.is_value.fd pm_is_value [] := T.is_value.F.binds fun _ _ _ _ _ _ us hl => by obtain ⟨_, rfl⟩ := len1 hl; rfl
theorem ok_is_value (T : Txt K mg) : FnOk P w K mg base CX0 3 T.is_value.f T.is_value.fd pm_is_value (spF K r_is_value) := by
  have nd := sc_is_value.nd
  refine data_F T.is_value.F sc_is_value fun cdv A outer s H E hr => ?_
  refine ⟨_, (pss_one (ps_ret (pe_or (pe_call (ok_is_integer T) (hr.mono (by decide)) rfl T.is_integer.m T.is_integer.F.kp (bi_is_integer T) .nil pass0 (pa_cons (pv 0) pa_nil)) (pe_one (pe_call (ok_is_pair T) (hr.mono (by decide)) rfl T.is_pair.m T.is_pair.F.kp (bi_is_pair T) .nil pass0 (pa_cons (pv 0) pa_nil)))))), ?_⟩
  exact ((sk_ret (gk_vor (gk_call (ak_cons gk_var ak_nil)) (gk_call (ak_cons gk_var ak_nil)))) : SOk K _ b_is_value)
theorem sc_value_of : FnScope nm_value_of pm_value_of (defScope s_value_of) := ⟨rfl, rfl, rfl, by decide +kernel, rfl, by decide +kernel, by decide +kernel⟩
theorem bi_value_of (T : Txt K mg) : Binds K T.value_of.fd pm_value_of [] := T.value_of.F.binds fun _ _ _ _ _ _ us hl => by obtain ⟨_, rfl⟩ := len1 hl; rfl
theorem ok_value_of (T : Txt K mg) : FnOk P w K mg base CX0 2 T.value_of.f T.value_of.fd pm_value_of (spF K r_value_of) := by
  have nd := sc_value_of.nd
  refine data_F T.value_of.F sc_value_of fun cdv A outer s H E hr => ?_
  refine ⟨_, (pss_one (ps_ret (pe_ifExp (kpt_tru (K := K) rfl (pe_call (ok_is_integer T) (hr.mono (by decide)) rfl T.is_integer.m T.is_integer.F.kp (bi_is_integer T) .nil pass0 (pa_cons (pv 0) pa_nil)) (by intro _; rfl)) (pe_tup (pa_cons (pv 0) (pa_cons pe_int pa_nil))) (pv 0)))), ?_⟩
  exact ((sk_ret (gk_if (tk_truK (gk_call (ak_cons gk_var ak_nil))) (gk_tup (ak_cons gk_var (ak_cons gk_int ak_nil))) gk_var)) : SOk K _ b_value_of)
theorem sc_is_between : FnScope nm_is_between pm_is_between (defScope s_is_between) := ⟨rfl, rfl, rfl, by decide +kernel, rfl, by decide +kernel, by decide +kernel⟩
theorem bi_is_between (T : Txt K mg) : Binds K T.is_between.fd pm_is_between [] := T.is_between.F.binds fun _ _ _ _ _ _ us hl => by obtain ⟨_, _, _, rfl⟩ := len3 hl; rfl
theorem ok_is_between (T : Txt K mg) : FnOk P w K mg base CX0 4 T.is_between.f T.is_between.fd pm_is_between (spF K r_is_between) := by
  have nd := sc_is_between.nd
  refine data_F T.is_between.F sc_is_between fun cdv A outer s H E hr => ?_
  refine ⟨_, (pss_one (ps_ret (pe_and (pe_call (ok_is_value T) (hr.mono (by decide)) rfl T.is_value.m T.is_value.F.kp (bi_is_value T) .nil pass0 (pa_cons (pv 0) pa_nil)) (pe_and (pe_not (pe_call (ok_is_less T) (hr.mono (by decide)) rfl T.is_less.m T.is_less.F.kp (bi_is_less T) .nil pass0 (pa_cons (pe_call (ok_value_of T) (hr.mono (by decide)) rfl T.value_of.m T.value_of.F.kp (bi_value_of T) .nil pass0 (pa_cons (pv 0) pa_nil)) (pa_cons (pv 1) pa_nil)))) (pe_one (pe_not (pe_call (ok_is_less T) (hr.mono (by decide)) rfl T.is_less.m T.is_less.F.kp (bi_is_less T) .nil pass0 (pa_cons (pv 2) (pa_cons (pe_call (ok_value_of T) (hr.mono (by decide)) rfl T.value_of.m T.value_of.F.kp (bi_value_of T) .nil pass0 (pa_cons (pv 0) pa_nil)) pa_nil))))))))), ?_⟩
  exact ((sk_ret (gk_vand (gk_call (ak_cons gk_var ak_nil)) (gk_vand (gk_vnot (gk_call (ak_cons (gk_call (ak_cons gk_var ak_nil)) (ak_cons gk_var ak_nil)))) (gk_vnot (gk_call (ak_cons gk_var (ak_cons (gk_call (ak_cons gk_var ak_nil)) ak_nil))))))) : SOk K _ b_is_between)
theorem sc_is_share : FnScope nm_is_share pm_is_share (defScope s_is_share) := ⟨rfl, rfl, rfl, by decide +kernel, rfl, by decide +kernel, by decide +kernel⟩
theorem bi_is_share (T : Txt K mg) : Binds K T.is_share.fd pm_is_share [] := T.is_share.F.binds fun _ _ _ _ _ _ us hl => by obtain ⟨_, _, _, rfl⟩ := len3 hl; rfl
theorem ok_is_share (T : Txt K mg) : FnOk P w K mg base CX0 5 T.is_share.f T.is_share.fd pm_is_share (spF K r_is_share) := by
  have nd := sc_is_share.nd
  refine data_F T.is_share.F sc_is_share fun cdv A outer s H E hr => ?_
  refine ⟨_, (pss_cons (ps_if (PW.pt (pw_or (pt_not (kpt_tru (K := K) rfl (pe_callB (kcr_isi (K := K) rfl) (by rfl) T.isinstance (by decide +kernel) (pa_cons (pv 0) (pa_cons (pe_bltn (v := .ty "tuple") (u := .type "tuple") (by rfl) T.tuple (by decide +kernel) rfl) pa_nil))) (by intro _; rfl))) (pw_or (pt_cmpR (kop_ne (K := K) rfl hr.units) (pe_callB (kcr_len (K := K) rfl) (by rfl) T.len (by decide +kernel) (pa_cons (pv 0) pa_nil)) pe_int (nomark _)) (pw_or1 (pt_not (kpt_tru (K := K) rfl (pe_call (ok_is_value T) (hr.mono (by decide)) rfl T.is_value.m T.is_value.F.kp (bi_is_value T) .nil pass0 (pa_cons (pe_ix (kix (K := K) rfl) (pv 0) pe_int (fun _ _ => rfl)) pa_nil)) (by intro _; rfl))))))) (pss_one (ps_ret pe_bl)) pss_nil)
    (pss_cons (ps_if (PW.pt (pw_or (pt_not (kpt_tru (K := K) rfl (pe_call (ok_is_between T) (hr.mono (by decide)) rfl T.is_between.m T.is_between.F.kp (bi_is_between T) .nil pass0 (pa_cons (pe_ix (kix (K := K) rfl) (pv 0) pe_int (fun _ _ => rfl)) (pa_cons (pv 1) (pa_cons (pv 2) pa_nil)))) (by intro _; rfl))) (pw_or1 (pt_not (kpt_tru (K := K) rfl (pe_call (ok_is_between T) (hr.mono (by decide)) rfl T.is_between.m T.is_between.F.kp (bi_is_between T) .nil pass0 (pa_cons (pe_ix (kix (K := K) rfl) (pv 0) pe_int (fun _ _ => rfl)) (pa_cons (pv 1) (pa_cons (pv 2) pa_nil)))) (by intro _; rfl)))))) (pss_one (ps_ret pe_bl)) pss_nil)
    (pss_one (ps_ret (pe_call (ok_is_less T) (hr.mono (by decide)) rfl T.is_less.m T.is_less.F.kp (bi_is_less T) .nil pass0 (pa_cons (pe_call (ok_value_of T) (hr.mono (by decide)) rfl T.value_of.m T.value_of.F.kp (bi_value_of T) .nil pass0 (pa_cons (pe_ix (kix (K := K) rfl) (pv 0) pe_int (fun _ _ => rfl)) pa_nil)) (pa_cons (pe_call (ok_value_of T) (hr.mono (by decide)) rfl T.value_of.m T.value_of.F.kp (bi_value_of T) .nil pass0 (pa_cons (pe_ix (kix (K := K) rfl) (pv 0) pe_int (fun _ _ => rfl)) pa_nil)) pa_nil))))))), ?_⟩
  exact ((sk_seq (sk_if (tk_or (tk_not (tk_truK (gk_cb cd_isi (ak_cons gk_var (ak_cons (gk_c fun _ => .ty _) ak_nil))))) (tk_or (tk_test (gk_op od_ne (gk_cb cd_len (ak_cons gk_var ak_nil)) gk_int)) (tk_not (tk_truK (gk_call (ak_cons (gk_op od_ix gk_var gk_int) ak_nil)))))) (sk_ret gk_bl) sk_next)
    (sk_seq (sk_if (tk_or (tk_not (tk_truK (gk_call (ak_cons (gk_op od_ix gk_var gk_int) (ak_cons gk_var (ak_cons gk_var ak_nil)))))) (tk_not (tk_truK (gk_call (ak_cons (gk_op od_ix gk_var gk_int) (ak_cons gk_var (ak_cons gk_var ak_nil))))))) (sk_ret gk_bl) sk_next)
    (sk_ret (gk_call (ak_cons (gk_call (ak_cons (gk_op od_ix gk_var gk_int) ak_nil)) (ak_cons (gk_call (ak_cons (gk_op od_ix gk_var gk_int) ak_nil)) ak_nil)))))) : SOk K _ b_is_share)
theorem sc_is_weight : FnScope nm_is_weight pm_is_weight (defScope s_is_weight) := ⟨rfl, rfl, rfl, by decide +kernel, rfl, by decide +kernel, by decide +kernel⟩
theorem bi_is_weight (T : Txt K mg) : Binds K T.is_weight.fd pm_is_weight [] := T.is_weight.F.binds fun _ _ _ _ _ _ us hl => by obtain ⟨_, _, _, rfl⟩ := len3 hl; rfl
theorem ok_is_weight (T : Txt K mg) : FnOk P w K mg base CX0 5 T.is_weight.f T.is_weight.fd pm_is_weight (spF K r_is_weight) := by
  have nd := sc_is_weight.nd
  refine data_F T.is_weight.F sc_is_weight fun cdv A outer s H E hr => ?_
  refine ⟨_, (pss_cons (ps_if (PW.pt (pw_or (pt_not (kpt_tru (K := K) rfl (pe_callB (kcr_isi (K := K) rfl) (by rfl) T.isinstance (by decide +kernel) (pa_cons (pv 0) (pa_cons (pe_bltn (v := .ty "tuple") (u := .type "tuple") (by rfl) T.tuple (by decide +kernel) rfl) pa_nil))) (by intro _; rfl))) (pw_or1 (pt_cmpR (kop_ne (K := K) rfl hr.units) (pe_callB (kcr_len (K := K) rfl) (by rfl) T.len (by decide +kernel) (pa_cons (pv 0) pa_nil)) pe_int (nomark _))))) (pss_one (ps_ret pe_bl)) pss_nil)
    (pss_one (ps_ret (pe_and (pe_call (ok_is_between T) (hr.mono (by decide)) rfl T.is_between.m T.is_between.F.kp (bi_is_between T) .nil pass0 (pa_cons (pe_ix (kix (K := K) rfl) (pv 0) pe_int (fun _ _ => rfl)) (pa_cons (pv 1) (pa_cons (pv 2) pa_nil)))) (pe_one (pe_call (ok_is_value T) (hr.mono (by decide)) rfl T.is_value.m T.is_value.F.kp (bi_is_value T) .nil pass0 (pa_cons (pe_ix (kix (K := K) rfl) (pv 0) pe_int (fun _ _ => rfl)) pa_nil))))))), ?_⟩
  exact ((sk_seq (sk_if (tk_or (tk_not (tk_truK (gk_cb cd_isi (ak_cons gk_var (ak_cons (gk_c fun _ => .ty _) ak_nil))))) (tk_test (gk_op od_ne (gk_cb cd_len (ak_cons gk_var ak_nil)) gk_int))) (sk_ret gk_bl) sk_next)
    (sk_ret (gk_vand (gk_call (ak_cons (gk_op od_ix gk_var gk_int) (ak_cons gk_var (ak_cons gk_var ak_nil)))) (gk_call (ak_cons (gk_op od_ix gk_var gk_int) ak_nil))))) : SOk K _ b_is_weight)
theorem sc_ascending : FnScope nm_ascending pm_ascending (defScope s_ascending) := ⟨rfl, rfl, rfl, by decide +kernel, rfl, by decide +kernel, by decide +kernel⟩
theorem bi_ascending (T : Txt K mg) : Binds K T.ascending.fd pm_ascending [] := T.ascending.F.binds fun _ _ _ _ _ _ us hl => by obtain ⟨_, rfl⟩ := len1 hl; rfl
theorem ok_ascending (T : Txt K mg) : FnOk P w K mg base CX0 2 T.ascending.f T.ascending.fd pm_ascending (spF K r_ascending) := by
  have nd := sc_ascending.nd
  refine data_F T.ascending.F sc_ascending fun cdv A outer s H E hr => ?_
  refine ⟨_, (pss_cons (ps_set (i := 1) nd rfl (Or.inr rfl) pe_int)
    (pss_cons (ps_for PassesOwn.never rfl (kpi_seq (K := K) rfl (pv 0)) (kpg_tup (K := K) (n := 2) rfl rfl (pgs_cons (pg_name (i := 2) nd rfl (Or.inl rfl)) (pgs_cons (pg_name (i := 3) nd rfl (Or.inl rfl)) pgs_nil))) (pss_one (ps_set (i := 1) nd rfl (Or.inr rfl) (pe_op op_fdivA (pe_op op_mulA (pv 1) (pv 3)) (pe_call (ok_divisor T) (hr.mono (by decide)) rfl T.divisor.m T.divisor.F.kp (bi_divisor T) .nil pass0 (pa_cons (pv 1) (pa_cons (pv 3) pa_nil)))))))
    (pss_cons (ps_set (i := 4) nd rfl (Or.inr rfl) (pe_callB (kcr_sorted (K := K) rfl (room_u2 hr)) (by rfl) T.sorted (by decide +kernel) (pa_cons (pe_lc (own := [("one", 5)]) rfl nd (kpi_seq (K := K) rfl (pv 0)) (blkOk_by (N := nm_ascending) (sc := defScope s_ascending) (by decide +kernel)) (fun _ _ _ _ _ => (pg_name (i := 5) nd rfl (Or.inl rfl))) (fun _ _ _ _ _ => pts_nil) (fun _ _ _ _ _ => (pe_tup (pa_cons (pe_op op_mulA (pe_ix (kix (K := K) rfl) (pv 5) pe_int (fun _ _ => rfl)) (pe_op op_fdivA (pv 1) (pe_ix (kix (K := K) rfl) (pv 5) pe_int (fun _ _ => rfl)))) (pa_cons (pv 5) pa_nil))))) pa_nil)))
    (pss_one (ps_ret (pe_lc (own := [("at", 6), ("place", 7), ("one", 5)]) rfl nd (kpi_enumA (K := K) rfl rfl T.enumerate (pa_cons (pv 4) pa_nil)) (blkOk_by (N := nm_ascending) (sc := defScope s_ascending) (by decide +kernel)) (fun _ _ _ _ _ => (kpg_tup (K := K) (n := 2) rfl rfl (pgs_cons (pg_name (i := 6) nd rfl (Or.inl rfl)) (pgs_cons (kpg_tup (K := K) (n := 2) rfl rfl (pgs_cons (pg_name (i := 7) nd rfl (Or.inl rfl)) (pgs_cons (pg_name (i := 5) nd rfl (Or.inl rfl)) pgs_nil))) pgs_nil)))) (fun _ _ _ _ _ => (pts_one (PW.pt (pw_or (pt_cmpR (kop_eq (K := K) rfl hr.units) (pv 6) pe_int (nomark _)) (pw_or1 (pt_cmpR (kop_ne (K := K) rfl hr.units) (pe_ix (kix (K := K) rfl) (pe_ix (kix (K := K) rfl) (pv 4) (pe_op op_subA (pv 6) pe_int) (fun _ _ => rfl)) pe_int (fun _ _ => rfl)) (pv 5) (nomark _))))))) (fun _ _ _ _ _ => (pv 5)))))))), ?_⟩
  exact ((sk_seq (sk_set gk_int)
    (sk_seq (sk_for (ik_seq gk_var) (gt_tup (gts_cons gt_name (gts_cons gt_name gts_nil))) ((sk_set (gk_op od_fdiv (gk_op od_mul gk_var gk_var) (gk_call (ak_cons gk_var (ak_cons gk_var ak_nil))))) : SOk K _ b_ascending_1))
    (sk_seq (sk_set (gk_cb cd_sorted (ak_cons (gk_lc (ik_seq gk_var) gt_name tk_yes (gk_tup (ak_cons (gk_op od_mul (gk_op od_ix gk_var gk_int) (gk_op od_fdiv gk_var (gk_op od_ix gk_var gk_int))) (ak_cons gk_var ak_nil))) (by decide)) ak_nil)))
    (sk_ret (gk_lc (ik_enumA (ak_cons gk_var ak_nil)) (gt_tup (gts_cons gt_name (gts_cons (gt_tup (gts_cons gt_name (gts_cons gt_name gts_nil))) gts_nil))) (tk_or (tk_test (gk_op od_eq gk_var gk_int)) (tk_test (gk_op od_ne (gk_op od_ix (gk_op od_ix gk_var (gk_op od_sub gk_var gk_int)) gk_int) gk_var))) gk_var (by decide)))))) : SOk K _ b_ascending)
theorem sc_lowest : FnScope nm_lowest pm_lowest (defScope s_lowest) := ⟨rfl, rfl, rfl, by decide +kernel, rfl, by decide +kernel, by decide +kernel⟩
theorem bi_lowest (T : Txt K mg) : Binds K T.lowest.fd pm_lowest [] := T.lowest.F.binds fun _ _ _ _ _ _ us hl => by obtain ⟨_, _, rfl⟩ := len2 hl; rfl
theorem ok_lowest (T : Txt K mg) : FnOk P w K mg base CX0 2 T.lowest.f T.lowest.fd pm_lowest (spF K r_lowest) := by
  have nd := sc_lowest.nd
  refine data_F T.lowest.F sc_lowest fun cdv A outer s H E hr => ?_
  refine ⟨_, (pss_cons (ps_set (i := 2) nd rfl (Or.inl rfl) (pe_call (ok_divisor T) (hr.mono (by decide)) rfl T.divisor.m T.divisor.F.kp (bi_divisor T) .nil pass0 (pa_cons (pv 0) (pa_cons (pv 1) pa_nil))))
    (pss_cons (ps_set (i := 2) nd rfl (Or.inl rfl) (pe_ifExp (pt_cmpR op_lt (pv 1) pe_int (nomark _)) (pe_un un_neg (pv 2)) (pv 2)))
    (pss_one (ps_ret (pe_tup (pa_cons (pe_op op_fdivA (pv 0) (pv 2)) (pa_cons (pe_op op_fdivA (pv 1) (pv 2)) pa_nil))))))), ?_⟩
  exact ((sk_seq (sk_set (gk_call (ak_cons gk_var (ak_cons gk_var ak_nil))))
    (sk_seq (sk_set (gk_if (tk_test (gk_op od_lt gk_var gk_int)) (gk_un ud_neg gk_var) gk_var))
    (sk_ret (gk_tup (ak_cons (gk_op od_fdiv gk_var gk_var) (ak_cons (gk_op od_fdiv gk_var gk_var) ak_nil)))))) : SOk K _ b_lowest)
theorem sc_added : FnScope nm_added pm_added (defScope s_added) := ⟨rfl, rfl, rfl, by decide +kernel, rfl, by decide +kernel, by decide +kernel⟩
theorem bi_added (T : Txt K mg) : Binds K T.added.fd pm_added [] := T.added.F.binds fun _ _ _ _ _ _ us hl => by obtain ⟨_, _, rfl⟩ := len2 hl; rfl
theorem ok_added (T : Txt K mg) : FnOk P w K mg base CX0 3 T.added.f T.added.fd pm_added (spF K r_added) := by
  have nd := sc_added.nd
  refine data_F T.added.F sc_added fun cdv A outer s H E hr => ?_
  refine ⟨_, (pss_one (ps_ret (pe_call (ok_lowest T) (hr.mono (by decide)) rfl T.lowest.m T.lowest.F.kp (bi_lowest T) .nil pass0 (pa_cons (pe_op (kop_addB (K := K) rfl) (pe_op op_mulA (pe_ix (kix (K := K) rfl) (pv 0) pe_int (fun _ _ => rfl)) (pe_ix (kix (K := K) rfl) (pv 1) pe_int (fun _ _ => rfl))) (pe_op op_mulA (pe_ix (kix (K := K) rfl) (pv 1) pe_int (fun _ _ => rfl)) (pe_ix (kix (K := K) rfl) (pv 0) pe_int (fun _ _ => rfl)))) (pa_cons (pe_op op_mulA (pe_ix (kix (K := K) rfl) (pv 0) pe_int (fun _ _ => rfl)) (pe_ix (kix (K := K) rfl) (pv 1) pe_int (fun _ _ => rfl))) pa_nil))))), ?_⟩
  exact ((sk_ret (gk_call (ak_cons (gk_op od_addB (gk_op od_mul (gk_op od_ix gk_var gk_int) (gk_op od_ix gk_var gk_int)) (gk_op od_mul (gk_op od_ix gk_var gk_int) (gk_op od_ix gk_var gk_int))) (ak_cons (gk_op od_mul (gk_op od_ix gk_var gk_int) (gk_op od_ix gk_var gk_int)) ak_nil)))) : SOk K _ b_added)
theorem sc_summed : FnScope nm_summed pm_summed (defScope s_summed) := ⟨rfl, rfl, rfl, by decide +kernel, rfl, by decide +kernel, by decide +kernel⟩
theorem bi_summed (T : Txt K mg) : Binds K T.summed.fd pm_summed [] := T.summed.F.binds fun _ _ _ _ _ _ us hl => by obtain ⟨_, rfl⟩ := len1 hl; rfl
theorem ok_summed (T : Txt K mg) : FnOk P w K mg base CX0 4 T.summed.f T.summed.fd pm_summed (spF K r_summed) := by
  have nd := sc_summed.nd
  refine data_F T.summed.F sc_summed fun cdv A outer s H E hr => ?_
  refine ⟨_, (pss_cons (ps_set (i := 1) nd rfl (Or.inl rfl) (pe_glob rfl T.NOUGHT.m T.NOUGHT.r))
    (pss_cons (ps_for PassesOwn.never rfl (kpi_seq (K := K) rfl (pv 0)) (pg_name (i := 2) nd rfl (Or.inl rfl)) (pss_one (ps_set (i := 1) nd rfl (Or.inl rfl) (pe_call (ok_added T) (hr.mono (by decide)) rfl T.added.m T.added.F.kp (bi_added T) .nil pass0 (pa_cons (pv 1) (pa_cons (pv 2) pa_nil))))))
    (pss_one (ps_ret (pv 1))))), ?_⟩
  exact ((sk_seq (sk_set (gk_c T.NOUGHT.d))
    (sk_seq (sk_for (ik_seq gk_var) gt_name ((sk_set (gk_call (ak_cons gk_var (ak_cons gk_var ak_nil)))) : SOk K _ b_summed_1))
    (sk_ret gk_mv))) : SOk K _ b_summed)
theorem sc_least_shares : FnScope nm_least_shares pm_least_shares (defScope s_least_shares) := ⟨rfl, rfl, rfl, by decide +kernel, rfl, by decide +kernel, by decide +kernel⟩
theorem bi_least_shares (T : Txt K mg) : Binds K T.least_shares.fd pm_least_shares [] := T.least_shares.F.binds fun _ _ _ _ _ _ us hl => by obtain ⟨_, rfl⟩ := len1 hl; rfl
theorem ok_least_shares (T : Txt K mg) : FnOk P w K mg base CX0 5 T.least_shares.f T.least_shares.fd pm_least_shares (spF K r_least_shares) := by
  have nd := sc_least_shares.nd
  refine data_F T.least_shares.F sc_least_shares fun cdv A outer s H E hr => ?_
  refine ⟨_, (pss_cons (ps_setLc (i := 1) (own := [("start", 4), ("end", 5), ("share", 8)]) rfl nd rfl rfl (sw_true rfl rfl rfl (by decide +kernel)) (kpi_seq (K := K) rfl (pv 0)) (blkOk_by (N := nm_least_shares) (sc := defScope s_least_shares) (by decide +kernel)) (fun _ _ _ _ _ => (kpg_tup (K := K) (n := 3) rfl rfl (pgs_cons (pg_name (i := 4) nd rfl (Or.inl rfl)) (pgs_cons (pg_name (i := 5) nd rfl (Or.inl rfl)) (pgs_cons (pg_name (i := 8) nd rfl (Or.inl rfl)) pgs_nil))))) (fun _ _ _ _ _ => pts_nil) (fun _ _ _ _ _ => (pe_tup (pa_cons (pe_call (ok_value_of T) (hr.mono (by decide)) rfl T.value_of.m T.value_of.F.kp (bi_value_of T) .nil pass0 (pa_cons (pv 4) pa_nil)) (pa_cons (pe_call (ok_value_of T) (hr.mono (by decide)) rfl T.value_of.m T.value_of.F.kp (bi_value_of T) .nil pass0 (pa_cons (pv 5) pa_nil)) (pa_cons (pe_call (ok_value_of T) (hr.mono (by decide)) rfl T.value_of.m T.value_of.F.kp (bi_value_of T) .nil pass0 (pa_cons (pv 8) pa_nil)) pa_nil))))))
    (pss_cons (ps_set (i := 2) nd rfl (Or.inl rfl) (pe_call (ok_ascending T) (hr.mono (by decide)) rfl T.ascending.m T.ascending.F.kp (bi_ascending T) .nil pass0 (pa_cons (pe_lc2 (own := [("start", 4), ("end", 5), ("share", 8), ("one", 9)]) (vs1 := [9]) rfl nd (kpi_seq (K := K) rfl (pv 1)) (blkOk_by (N := nm_least_shares) (sc := defScope s_least_shares) (by decide +kernel)) (by decide) (fun _ _ _ _ _ => (kpg_tup (K := K) (n := 3) rfl rfl (pgs_cons (pg_name (i := 4) nd rfl (Or.inl rfl)) (pgs_cons (pg_name (i := 5) nd rfl (Or.inl rfl)) (pgs_cons (pg_name (i := 8) nd rfl (Or.inl rfl)) pgs_nil))))) (fun _ _ _ _ _ => pts_nil) (fun _ _ _ _ _ => (kpi_seq (K := K) rfl (pe_tup (pa_cons (pv 4) (pa_cons (pv 5) pa_nil))))) (fun _ _ _ _ _ => (pg_name (i := 9) nd rfl (Or.inl rfl))) (fun _ _ _ _ _ => pts_nil) (fun _ _ _ _ _ => (pv 9))) pa_nil)))
    (pss_cons (ps_set (i := 3) nd rfl (Or.inl rfl) (pe_lst pa_nil))
    (pss_cons (ps_for PassesOwn.never rfl (kpi_zipA (K := K) rfl rfl T.zip (pa_cons (pv 2) (pa_cons (pe_slice (ksl_B (K := K) rfl) (pv 2) (po_some pe_int) po_none) pa_nil))) (kpg_tup (K := K) (n := 2) rfl rfl (pgs_cons (pg_name (i := 4) nd rfl (Or.inr rfl)) (pgs_cons (pg_name (i := 5) nd rfl (Or.inr rfl)) pgs_nil))) (pss_cons (ps_setLc (i := 6) (own := [("first", 10), ("last", 11), ("share", 8)]) rfl nd rfl rfl (sw_true rfl rfl rfl (by decide +kernel)) (kpi_seq (K := K) rfl (pv 1)) (blkOk_by (N := nm_least_shares) (sc := defScope s_least_shares) (by decide +kernel)) (fun _ _ _ _ _ => (kpg_tup (K := K) (n := 3) rfl rfl (pgs_cons (pg_name (i := 10) nd rfl (Or.inl rfl)) (pgs_cons (pg_name (i := 11) nd rfl (Or.inl rfl)) (pgs_cons (pg_name (i := 8) nd rfl (Or.inl rfl)) pgs_nil))))) (fun _ _ _ _ _ => (pts_one (PW.pt (pw_and (pt_not (kpt_tru (K := K) rfl (pe_call (ok_is_less T) (hr.mono (by decide)) rfl T.is_less.m T.is_less.F.kp (bi_is_less T) .nil pass0 (pa_cons (pv 4) (pa_cons (pv 10) pa_nil))) (by intro _; rfl))) (pw_and1 (pt_not (kpt_tru (K := K) rfl (pe_call (ok_is_less T) (hr.mono (by decide)) rfl T.is_less.m T.is_less.F.kp (bi_is_less T) .nil pass0 (pa_cons (pv 11) (pa_cons (pv 5) pa_nil))) (by intro _; rfl)))))))) (fun _ _ _ _ _ => (pv 8)))
    (pss_cons (ps_set (i := 7) nd rfl (Or.inl rfl) (pe_call (ok_summed T) (hr.mono (by decide)) rfl T.summed.m T.summed.F.kp (bi_summed T) .nil pass0 (pa_cons (pv 6) pa_nil)))
    (pss_one (ps_if (PW.pt (pw_and (pt_cmpR op_gt (pe_callB (kcr_len (K := K) rfl) (by rfl) T.len (by decide +kernel) (pa_cons (pv 3) pa_nil)) pe_int (nomark _)) (pw_and1 (pt_cmpR (kop_eq (K := K) rfl hr.units) (pe_ix (kix (K := K) rfl) (pe_ix (kix (K := K) rfl) (pv 3) (pe_un un_neg pe_int) (fun _ _ => rfl)) pe_int (fun _ _ => rfl)) (pv 7) (nomark _))))) (pss_one (ps_set (i := 3) nd rfl (Or.inl rfl) (pe_lst (kpa_star (K := K) rfl (pe_slice (ksl_B (K := K) rfl) (pv 3) po_none (po_some (pe_un un_neg pe_int))) (pa_cons (pe_tup (pa_cons (pe_ix (kix (K := K) rfl) (pe_ix (kix (K := K) rfl) (pv 3) (pe_un un_neg pe_int) (fun _ _ => rfl)) pe_int (fun _ _ => rfl)) (pa_cons (pv 5) (pa_cons (pv 7) pa_nil)))) pa_nil))))) (pss_one (ps_set (i := 3) nd rfl (Or.inl rfl) (pe_lst (kpa_star (K := K) rfl (pv 3) (pa_cons (pe_tup (pa_cons (pv 4) (pa_cons (pv 5) (pa_cons (pv 7) pa_nil)))) pa_nil))))))))))
    (pss_one (ps_ret (pe_callTy (kcr_tuple (K := K) rfl) (by rfl) T.tuple (by decide +kernel) (pa_cons (pe_lc (own := [("part", 12)]) rfl nd (kpi_seq (K := K) rfl (pv 3)) (blkOk_by (N := nm_least_shares) (sc := defScope s_least_shares) (by decide +kernel)) (fun _ _ _ _ _ => (pg_name (i := 12) nd rfl (Or.inl rfl))) (fun _ _ _ _ _ => (pts_one (pt_cmpR (kop_ne (K := K) rfl hr.units) (pe_ix (kix (K := K) rfl) (pv 12) pe_int (fun _ _ => rfl)) (pe_glob rfl T.NOUGHT.m T.NOUGHT.r) (nomark _)))) (fun _ _ _ _ _ => (pv 12))) pa_nil)))))))), ?_⟩
  exact ((sk_seq (sk_set (gk_lc (ik_seq gk_var) (gt_tup (gts_cons gt_name (gts_cons gt_name (gts_cons gt_name gts_nil)))) tk_yes (gk_tup (ak_cons (gk_call (ak_cons gk_var ak_nil)) (ak_cons (gk_call (ak_cons gk_var ak_nil)) (ak_cons (gk_call (ak_cons gk_var ak_nil)) ak_nil)))) (by decide)))
    (sk_seq (sk_set (gk_call (ak_cons (gk_lc2 (ik_seq gk_var) (gt_tup (gts_cons gt_name (gts_cons gt_name (gts_cons gt_name gts_nil)))) tk_yes (ik_seq (gk_tup (ak_cons gk_var (ak_cons gk_var ak_nil)))) gt_name tk_yes gk_var (by decide) (by decide) (by decide)) ak_nil)))
    (sk_seq (sk_set (gk_lst ak_nil))
    (sk_seq (sk_for (ik_zipA (ak_cons gk_var (ak_cons (gk_sl sd_B gk_var (pk_some gk_int) pk_none) ak_nil))) (gt_tup (gts_cons gt_name (gts_cons gt_name gts_nil))) ((sk_seq (sk_set (gk_lc (ik_seq gk_var) (gt_tup (gts_cons gt_name (gts_cons gt_name (gts_cons gt_name gts_nil)))) (tk_and (tk_not (tk_truK (gk_call (ak_cons gk_var (ak_cons gk_var ak_nil))))) (tk_not (tk_truK (gk_call (ak_cons gk_var (ak_cons gk_var ak_nil)))))) gk_var (by decide)))
    (sk_seq (sk_set (gk_call (ak_cons gk_var ak_nil)))
    (sk_if (tk_and (tk_test (gk_op od_gt (gk_cb cd_len (ak_cons gk_var ak_nil)) gk_int)) (tk_test (gk_op od_eq (gk_op od_ix (gk_op od_ix gk_var (gk_un ud_neg gk_int)) gk_int) gk_var))) (sk_set (gk_lst (ak_star (gk_sl sd_B gk_var pk_none (pk_some (gk_un ud_neg gk_int))) (ak_cons (gk_tup (ak_cons (gk_op od_ix (gk_op od_ix gk_var (gk_un ud_neg gk_int)) gk_int) (ak_cons gk_var (ak_cons gk_var ak_nil)))) ak_nil)))) (sk_set (gk_lst (ak_star gk_var (ak_cons (gk_tup (ak_cons gk_var (ak_cons gk_var (ak_cons gk_var ak_nil)))) ak_nil))))))) : SOk K _ b_least_shares_1))
    (sk_ret (gk_cb cd_tuple (ak_cons (gk_lc (ik_seq gk_var) gt_name (tk_test (gk_op od_ne (gk_op od_ix gk_var gk_int) (gk_c T.NOUGHT.d))) gk_var (by decide)) ak_nil))))))) : SOk K _ b_least_shares)
theorem sc_least_weights : FnScope nm_least_weights pm_least_weights (defScope s_least_weights) := ⟨rfl, rfl, rfl, by decide +kernel, rfl, by decide +kernel, by decide +kernel⟩
theorem bi_least_weights (T : Txt K mg) : Binds K T.least_weights.fd pm_least_weights [] := T.least_weights.F.binds fun _ _ _ _ _ _ us hl => by obtain ⟨_, rfl⟩ := len1 hl; rfl
theorem ok_least_weights (T : Txt K mg) : FnOk P w K mg base CX0 5 T.least_weights.f T.least_weights.fd pm_least_weights (spF K r_least_weights) := by
  have nd := sc_least_weights.nd
  refine data_F T.least_weights.F sc_least_weights fun cdv A outer s H E hr => ?_
  refine ⟨_, (pss_cons (ps_setLc (i := 1) (own := [("point", 3), ("weight", 4)]) rfl nd rfl rfl (sw_true rfl rfl rfl (by decide +kernel)) (kpi_seq (K := K) rfl (pv 0)) (blkOk_by (N := nm_least_weights) (sc := defScope s_least_weights) (by decide +kernel)) (fun _ _ _ _ _ => (kpg_tup (K := K) (n := 2) rfl rfl (pgs_cons (pg_name (i := 3) nd rfl (Or.inl rfl)) (pgs_cons (pg_name (i := 4) nd rfl (Or.inl rfl)) pgs_nil)))) (fun _ _ _ _ _ => pts_nil) (fun _ _ _ _ _ => (pe_tup (pa_cons (pe_call (ok_value_of T) (hr.mono (by decide)) rfl T.value_of.m T.value_of.F.kp (bi_value_of T) .nil pass0 (pa_cons (pv 3) pa_nil)) (pa_cons (pe_call (ok_value_of T) (hr.mono (by decide)) rfl T.value_of.m T.value_of.F.kp (bi_value_of T) .nil pass0 (pa_cons (pv 4) pa_nil)) pa_nil)))))
    (pss_cons (ps_set (i := 2) nd rfl (Or.inl rfl) (pe_lst pa_nil))
    (pss_cons (ps_for PassesOwn.never rfl (kpi_seq (K := K) rfl (pe_call (ok_ascending T) (hr.mono (by decide)) rfl T.ascending.m T.ascending.F.kp (bi_ascending T) .nil pass0 (pa_cons (pe_lc (own := [("point", 3), ("weight", 4)]) rfl nd (kpi_seq (K := K) rfl (pv 1)) (blkOk_by (N := nm_least_weights) (sc := defScope s_least_weights) (by decide +kernel)) (fun _ _ _ _ _ => (kpg_tup (K := K) (n := 2) rfl rfl (pgs_cons (pg_name (i := 3) nd rfl (Or.inl rfl)) (pgs_cons (pg_name (i := 4) nd rfl (Or.inl rfl)) pgs_nil)))) (fun _ _ _ _ _ => pts_nil) (fun _ _ _ _ _ => (pv 3))) pa_nil))) (pg_name (i := 3) nd rfl (Or.inr rfl)) (pss_one (ps_expr (kpe_app (K := K) rfl (pv 2) (pe_tup (pa_cons (pv 3) (pa_cons (pe_call (ok_summed T) (hr.mono (by decide)) rfl T.summed.m T.summed.F.kp (bi_summed T) .nil pass0 (pa_cons (pe_lc (own := [("place", 5), ("weight", 4)]) rfl nd (kpi_seq (K := K) rfl (pv 1)) (blkOk_by (N := nm_least_weights) (sc := defScope s_least_weights) (by decide +kernel)) (fun _ _ _ _ _ => (kpg_tup (K := K) (n := 2) rfl rfl (pgs_cons (pg_name (i := 5) nd rfl (Or.inl rfl)) (pgs_cons (pg_name (i := 4) nd rfl (Or.inl rfl)) pgs_nil)))) (fun _ _ _ _ _ => (pts_one (pt_cmpR (kop_eq (K := K) rfl hr.units) (pv 5) (pv 3) (nomark _)))) (fun _ _ _ _ _ => (pv 4))) pa_nil)) pa_nil)))))))
    (pss_one (ps_ret (pe_callTy (kcr_tuple (K := K) rfl) (by rfl) T.tuple (by decide +kernel) (pa_cons (pe_lc (own := [("pair", 6)]) rfl nd (kpi_seq (K := K) rfl (pv 2)) (blkOk_by (N := nm_least_weights) (sc := defScope s_least_weights) (by decide +kernel)) (fun _ _ _ _ _ => (pg_name (i := 6) nd rfl (Or.inl rfl))) (fun _ _ _ _ _ => (pts_one (pt_cmpR (kop_ne (K := K) rfl hr.units) (pe_ix (kix (K := K) rfl) (pv 6) pe_int (fun _ _ => rfl)) (pe_glob rfl T.NOUGHT.m T.NOUGHT.r) (nomark _)))) (fun _ _ _ _ _ => (pv 6))) pa_nil))))))), ?_⟩
  exact ((sk_seq (sk_set (gk_lc (ik_seq gk_var) (gt_tup (gts_cons gt_name (gts_cons gt_name gts_nil))) tk_yes (gk_tup (ak_cons (gk_call (ak_cons gk_var ak_nil)) (ak_cons (gk_call (ak_cons gk_var ak_nil)) ak_nil))) (by decide)))
    (sk_seq (sk_set (gk_lst ak_nil))
    (sk_seq (sk_for (ik_seq (gk_call (ak_cons (gk_lc (ik_seq gk_var) (gt_tup (gts_cons gt_name (gts_cons gt_name gts_nil))) tk_yes gk_var (by decide)) ak_nil))) gt_name ((sk_app (gk_tup (ak_cons gk_var (ak_cons (gk_call (ak_cons (gk_lc (ik_seq gk_var) (gt_tup (gts_cons gt_name (gts_cons gt_name gts_nil))) (tk_test (gk_op od_eq gk_var gk_var)) gk_var (by decide)) ak_nil)) ak_nil)))) : SOk K _ b_least_weights_1))
    (sk_ret (gk_cb cd_tuple (ak_cons (gk_lc (ik_seq gk_var) gt_name (tk_test (gk_op od_ne (gk_op od_ix gk_var gk_int) (gk_c T.NOUGHT.d))) gk_var (by decide)) ak_nil)))))) : SOk K _ b_least_weights)
theorem sc_need_stretch : FnScope nm_need_stretch pm_need_stretch (defScope s_need_stretch) := ⟨rfl, rfl, rfl, by decide +kernel, rfl, by decide +kernel, by decide +kernel⟩
theorem bi_need_stretch (T : Txt K mg) : Binds K T.need_stretch.fd pm_need_stretch [] := T.need_stretch.F.binds fun _ _ _ _ _ _ us hl => by obtain ⟨_, _, rfl⟩ := len2 hl; rfl
theorem ok_need_stretch (T : Txt K mg) : FnOk P w K mg base CX0 4 T.need_stretch.f T.need_stretch.fd pm_need_stretch (spF K r_need_stretch) := by
  have nd := sc_need_stretch.nd
  refine data_F T.need_stretch.F sc_need_stretch fun cdv A outer s H E hr => ?_
  refine ⟨_, (pss_cons (ps_if (pt_not (kpt_tru (K := K) rfl (pe_call (ok_is_value T) (hr.mono (by decide)) rfl T.is_value.m T.is_value.F.kp (bi_is_value T) .nil pass0 (pa_cons (pv 0) pa_nil)) (by intro _; rfl))) (pss_one ps_never) pss_nil)
    (pss_cons (ps_if (PW.pt (pw_or (pt_not (kpt_tru (K := K) rfl (pe_call (ok_is_value T) (hr.mono (by decide)) rfl T.is_value.m T.is_value.F.kp (bi_is_value T) .nil pass0 (pa_cons (pv 1) pa_nil)) (by intro _; rfl))) (pw_or1 (pt_not (kpt_tru (K := K) rfl (pe_call (ok_is_less T) (hr.mono (by decide)) rfl T.is_less.m T.is_less.F.kp (bi_is_less T) .nil pass0 (pa_cons (pe_call (ok_value_of T) (hr.mono (by decide)) rfl T.value_of.m T.value_of.F.kp (bi_value_of T) .nil pass0 (pa_cons (pv 0) pa_nil)) (pa_cons (pe_call (ok_value_of T) (hr.mono (by decide)) rfl T.value_of.m T.value_of.F.kp (bi_value_of T) .nil pass0 (pa_cons (pv 1) pa_nil)) pa_nil))) (by intro _; rfl)))))) (pss_one ps_never) pss_nil)
    (pss_one (ps_ret (pe_tup (pa_cons (pe_call (ok_value_of T) (hr.mono (by decide)) rfl T.value_of.m T.value_of.F.kp (bi_value_of T) .nil pass0 (pa_cons (pv 0) pa_nil)) (pa_cons (pe_call (ok_value_of T) (hr.mono (by decide)) rfl T.value_of.m T.value_of.F.kp (bi_value_of T) .nil pass0 (pa_cons (pv 1) pa_nil)) pa_nil))))))), ?_⟩
  exact ((sk_seq (sk_if (tk_not (tk_truK (gk_call (ak_cons gk_var ak_nil)))) sk_never sk_next)
    (sk_seq (sk_if (tk_or (tk_not (tk_truK (gk_call (ak_cons gk_var ak_nil)))) (tk_not (tk_truK (gk_call (ak_cons (gk_call (ak_cons gk_var ak_nil)) (ak_cons (gk_call (ak_cons gk_var ak_nil)) ak_nil)))))) sk_never sk_next)
    (sk_ret (gk_tup (ak_cons (gk_call (ak_cons gk_var ak_nil)) (ak_cons (gk_call (ak_cons gk_var ak_nil)) ak_nil)))))) : SOk K _ b_need_stretch)
theorem sc_Rule_init : FnScope nm_Rule_init pm_Rule_init (defScope s_Rule_init) := ⟨rfl, rfl, rfl, by decide +kernel, rfl, by decide +kernel, by decide +kernel⟩
theorem bi_Rule_init_4 (T : Txt K mg) : ∃ ds, Vals (T.Rule_init.dvs.drop 1) ds ∧ Binds K T.Rule_init.fd pm_Rule_init ds := by
  have hl : T.Rule_init.dvs.length = 2 := (T.Rule_init.d fun _ => none).len
  refine T.Rule_init.F.binds1 4 1 (fun z => by rw [z] at hl; cases hl) (by rw [hl]; rfl) fun _ _ _ _ _ _ _ us its h1 h2 => ?_
  rw [hl] at h2
  match us, h1, its, h2 with | [_, _, _, _], _, [_, _], _ => exact ⟨_, rfl, rfl⟩
theorem bi_Rule_init_5 (T : Txt K mg) : ∃ ds, Vals (T.Rule_init.dvs.drop 2) ds ∧ Binds K T.Rule_init.fd pm_Rule_init ds := by
  have hl : T.Rule_init.dvs.length = 2 := (T.Rule_init.d fun _ => none).len
  refine T.Rule_init.F.binds1 5 2 (fun z => by rw [z] at hl; cases hl) (by rw [hl]; rfl) fun _ _ _ _ _ _ _ us its h1 h2 => ?_
  rw [hl] at h2
  match us, h1, its, h2 with | [_, _, _, _, _], _, [_, _], _ => exact ⟨_, rfl, rfl⟩
theorem ok_Rule_init (T : Txt K mg) : FnOk P w K mg base CX0 6 T.Rule_init.f T.Rule_init.fd pm_Rule_init (spB K r_Rule_init) := by
  have nd := sc_Rule_init.nd
  refine data_BD T.Rule_init.F sc_Rule_init fun cdv A outer s H E hr => ?_
  refine ⟨_, (pss_cons (ps_asg (pe_call (ok_need_stretch T) (hr.mono (by decide)) rfl T.need_stretch.m T.need_stretch.F.kp (bi_need_stretch T) .nil pass0 (pa_cons (pv 1) (pa_cons (pv 2) pa_nil))) (kpg_tup (K := K) (n := 2) rfl rfl (pgs_cons (kpg_fld (K := K) rfl (pv 0)) (pgs_cons (kpg_fld (K := K) rfl (pv 0)) pgs_nil))))
    (pss_cons (ps_if (PW.pt (pw_or (pt_not (kpt_tru (K := K) rfl (pe_call (ok_is_sequence T) (hr.mono (by decide)) rfl T.is_sequence.m T.is_sequence.F.kp (bi_is_sequence T) .nil pass0 (pa_cons (pv 3) pa_nil)) (by intro _; rfl))) (pw_or1 (pt_not (kpt_tru (K := K) rfl (pe_callB (kcr_all (K := K) rfl rfl) (by rfl) T.all (by decide +kernel) (pa_cons (pe_lc (own := [("one", 5)]) rfl nd (kpi_seq (K := K) rfl (pv 3)) (blkOk_by (N := nm_Rule_init) (sc := defScope s_Rule_init) (by decide +kernel)) (fun _ _ _ _ _ => (pg_name (i := 5) nd rfl (Or.inl rfl))) (fun _ _ _ _ _ => pts_nil) (fun _ _ _ _ _ => (pe_call (ok_is_weight T) (hr.mono (by decide)) rfl T.is_weight.m T.is_weight.F.kp (bi_is_weight T) .nil pass0 (pa_cons (pv 5) (pa_cons (kpe_fld (K := K) rfl (pv 0) rfl) (pa_cons (kpe_fld (K := K) rfl (pv 0) rfl) pa_nil)))))) pa_nil)) (by intro _; rfl)))))) (pss_one ps_never) pss_nil)
    (pss_cons (ps_if (PW.pt (pw_or (pt_not (kpt_tru (K := K) rfl (pe_call (ok_is_sequence T) (hr.mono (by decide)) rfl T.is_sequence.m T.is_sequence.F.kp (bi_is_sequence T) .nil pass0 (pa_cons (pv 4) pa_nil)) (by intro _; rfl))) (pw_or1 (pt_not (kpt_tru (K := K) rfl (pe_callB (kcr_all (K := K) rfl rfl) (by rfl) T.all (by decide +kernel) (pa_cons (pe_lc (own := [("one", 5)]) rfl nd (kpi_seq (K := K) rfl (pv 4)) (blkOk_by (N := nm_Rule_init) (sc := defScope s_Rule_init) (by decide +kernel)) (fun _ _ _ _ _ => (pg_name (i := 5) nd rfl (Or.inl rfl))) (fun _ _ _ _ _ => pts_nil) (fun _ _ _ _ _ => (pe_call (ok_is_share T) (hr.mono (by decide)) rfl T.is_share.m T.is_share.F.kp (bi_is_share T) .nil pass0 (pa_cons (pv 5) (pa_cons (kpe_fld (K := K) rfl (pv 0) rfl) (pa_cons (kpe_fld (K := K) rfl (pv 0) rfl) pa_nil)))))) pa_nil)) (by intro _; rfl)))))) (pss_one ps_never) pss_nil)
    (pss_cons (kps_fld (K := K) rfl (pv 0) (pe_call (ok_least_weights T) (hr.mono (by decide)) rfl T.least_weights.m T.least_weights.F.kp (bi_least_weights T) .nil pass0 (pa_cons (pv 3) pa_nil)) rfl)
    (pss_one (kps_fld (K := K) rfl (pv 0) (pe_call (ok_least_shares T) (hr.mono (by decide)) rfl T.least_shares.m T.least_shares.F.kp (bi_least_shares T) .nil pass0 (pa_cons (pv 4) pa_nil)) rfl)))))), ?_⟩
  exact ((sk_seq (sk_asgF T.Rule rfl rfl (gk_call (ak_cons gk_var (ak_cons gk_var ak_nil))))
    (sk_seq (sk_if (tk_or (tk_not (tk_truK (gk_call (ak_cons gk_var ak_nil)))) (tk_not (tk_truK (gk_cb cd_all (ak_cons (gk_lc (ik_seq gk_var) gt_name tk_yes (gk_call (ak_cons gk_var (ak_cons (gk_fldv T.Rule rfl) (ak_cons (gk_fldv T.Rule rfl) ak_nil)))) (by decide)) ak_nil))))) sk_never sk_next)
    (sk_seq (sk_if (tk_or (tk_not (tk_truK (gk_call (ak_cons gk_var ak_nil)))) (tk_not (tk_truK (gk_cb cd_all (ak_cons (gk_lc (ik_seq gk_var) gt_name tk_yes (gk_call (ak_cons gk_var (ak_cons (gk_fldv T.Rule rfl) (ak_cons (gk_fldv T.Rule rfl) ak_nil)))) (by decide)) ak_nil))))) sk_never sk_next)
    (sk_seq (sk_setf T.Rule rfl (gk_call (ak_cons gk_var ak_nil)))
    (sk_setf T.Rule rfl (gk_call (ak_cons gk_var ak_nil))))))) : SOk K _ b_Rule_init)
theorem sc_Rule_add : FnScope nm_Rule_add pm_Rule_add (defScope s_Rule_add) := ⟨rfl, rfl, rfl, by decide +kernel, rfl, by decide +kernel, by decide +kernel⟩
theorem bi_Rule_add (T : Txt K mg) : Binds K T.Rule_add.fd pm_Rule_add [] := T.Rule_add.F.binds fun _ _ _ _ _ _ us hl => by obtain ⟨_, _, rfl⟩ := len2 hl; rfl
theorem ok_Rule_add (T : Txt K mg) : FnOk P w K mg base CX0 8 T.Rule_add.f T.Rule_add.fd pm_Rule_add (spF K r_Rule_add) := by
  have nd := sc_Rule_add.nd
  refine data_F T.Rule_add.F sc_Rule_add fun cdv A outer s H E hr => ?_
  refine ⟨_, (pss_cons (ps_if (pt_cmpR (kop_ne (K := K) rfl hr.units) (pe_tup (pa_cons (kpe_fld (K := K) rfl (pv 0) rfl) (pa_cons (kpe_fld (K := K) rfl (pv 0) rfl) pa_nil))) (pe_tup (pa_cons (kpe_fld (K := K) rfl (pv 1) rfl) (pa_cons (kpe_fld (K := K) rfl (pv 1) rfl) pa_nil))) (nomark _)) (pss_one ps_never) pss_nil)
    (pss_one (ps_ret (pe_make T.mk_Rule (ok_Rule_init T) (hr.mono (by decide)) rfl T.Rule.mg (bi_Rule_init_5 T).choose_spec.2 (bi_Rule_init_5 T).choose_spec.1 pass0 (pa_cons (kpe_fld (K := K) rfl (pv 0) rfl) (pa_cons (kpe_fld (K := K) rfl (pv 0) rfl) (pa_cons (pe_lst (kpa_star (K := K) rfl (kpe_fld (K := K) rfl (pv 0) rfl) (kpa_star (K := K) rfl (kpe_fld (K := K) rfl (pv 1) rfl) pa_nil))) (pa_cons (pe_lst (kpa_star (K := K) rfl (kpe_fld (K := K) rfl (pv 0) rfl) (kpa_star (K := K) rfl (kpe_fld (K := K) rfl (pv 1) rfl) pa_nil))) pa_nil)))))))), ?_⟩
  exact ((sk_seq (sk_if (tk_test (gk_op od_ne (gk_tup (ak_cons (gk_fld T.Rule rfl gk_var) (ak_cons (gk_fld T.Rule rfl gk_var) ak_nil))) (gk_tup (ak_cons (gk_fld T.Rule rfl gk_var) (ak_cons (gk_fld T.Rule rfl gk_var) ak_nil))))) sk_never sk_next)
    (sk_ret (gk_make T.Rule (fun H => (drs_drop (T.Rule_init.d H) 2)) (ak_cons (gk_fld T.Rule rfl gk_var) (ak_cons (gk_fld T.Rule rfl gk_var) (ak_cons (gk_lst (ak_star (gk_fld T.Rule rfl gk_var) (ak_star (gk_fld T.Rule rfl gk_var) ak_nil))) (ak_cons (gk_lst (ak_star (gk_fld T.Rule rfl gk_var) (ak_star (gk_fld T.Rule rfl gk_var) ak_nil))) ak_nil))))))) : SOk K _ b_Rule_add)
theorem sc_Rule_neg : FnScope nm_Rule_neg pm_Rule_neg (defScope s_Rule_neg) := ⟨rfl, rfl, rfl, by decide +kernel, rfl, by decide +kernel, by decide +kernel⟩
theorem bi_Rule_neg (T : Txt K mg) : Binds K T.Rule_neg.fd pm_Rule_neg [] := T.Rule_neg.F.binds fun _ _ _ _ _ _ us hl => by obtain ⟨_, rfl⟩ := len1 hl; rfl
theorem ok_Rule_neg (T : Txt K mg) : FnOk P w K mg base CX0 8 T.Rule_neg.f T.Rule_neg.fd pm_Rule_neg (spF K r_Rule_neg) := by
  have nd := sc_Rule_neg.nd
  refine data_F T.Rule_neg.F sc_Rule_neg fun cdv A outer s H E hr => ?_
  refine ⟨_, (pss_cons (ps_setLc (i := 1) (own := [("point", 2), ("top", 3), ("low", 4)]) rfl nd rfl rfl (sw_true rfl rfl rfl (by decide +kernel)) (kpi_seq (K := K) rfl (kpe_fld (K := K) rfl (pv 0) rfl)) (blkOk_by (N := nm_Rule_neg) (sc := defScope s_Rule_neg) (by decide +kernel)) (fun _ _ _ _ _ => (kpg_tup (K := K) (n := 2) rfl rfl (pgs_cons (pg_name (i := 2) nd rfl (Or.inl rfl)) (pgs_cons (kpg_tup (K := K) (n := 2) rfl rfl (pgs_cons (pg_name (i := 3) nd rfl (Or.inl rfl)) (pgs_cons (pg_name (i := 4) nd rfl (Or.inl rfl)) pgs_nil))) pgs_nil)))) (fun _ _ _ _ _ => pts_nil) (fun _ _ _ _ _ => (pe_tup (pa_cons (pv 2) (pa_cons (pe_tup (pa_cons (pe_un un_neg (pv 3)) (pa_cons (pv 4) pa_nil))) pa_nil)))))
    (pss_one (ps_ret (pe_make T.mk_Rule (ok_Rule_init T) (hr.mono (by decide)) rfl T.Rule.mg (bi_Rule_init_5 T).choose_spec.2 (bi_Rule_init_5 T).choose_spec.1 pass0 (pa_cons (kpe_fld (K := K) rfl (pv 0) rfl) (pa_cons (kpe_fld (K := K) rfl (pv 0) rfl) (pa_cons (pv 1) (pa_cons (pe_lc (own := [("start", 5), ("end", 6), ("top", 3), ("low", 4)]) rfl nd (kpi_seq (K := K) rfl (kpe_fld (K := K) rfl (pv 0) rfl)) (blkOk_by (N := nm_Rule_neg) (sc := defScope s_Rule_neg) (by decide +kernel)) (fun _ _ _ _ _ => (kpg_tup (K := K) (n := 3) rfl rfl (pgs_cons (pg_name (i := 5) nd rfl (Or.inl rfl)) (pgs_cons (pg_name (i := 6) nd rfl (Or.inl rfl)) (pgs_cons (kpg_tup (K := K) (n := 2) rfl rfl (pgs_cons (pg_name (i := 3) nd rfl (Or.inl rfl)) (pgs_cons (pg_name (i := 4) nd rfl (Or.inl rfl)) pgs_nil))) pgs_nil))))) (fun _ _ _ _ _ => pts_nil) (fun _ _ _ _ _ => (pe_tup (pa_cons (pv 5) (pa_cons (pv 6) (pa_cons (pe_tup (pa_cons (pe_un un_neg (pv 3)) (pa_cons (pv 4) pa_nil))) pa_nil)))))) pa_nil)))))))), ?_⟩
  exact ((sk_seq (sk_set (gk_lc (ik_seq (gk_fld T.Rule rfl gk_var)) (gt_tup (gts_cons gt_name (gts_cons (gt_tup (gts_cons gt_name (gts_cons gt_name gts_nil))) gts_nil))) tk_yes (gk_tup (ak_cons gk_var (ak_cons (gk_tup (ak_cons (gk_un ud_neg gk_var) (ak_cons gk_var ak_nil))) ak_nil))) (by decide)))
    (sk_ret (gk_make T.Rule (fun H => (drs_drop (T.Rule_init.d H) 2)) (ak_cons (gk_fld T.Rule rfl gk_var) (ak_cons (gk_fld T.Rule rfl gk_var) (ak_cons gk_var (ak_cons (gk_lc (ik_seq (gk_fld T.Rule rfl gk_var)) (gt_tup (gts_cons gt_name (gts_cons gt_name (gts_cons (gt_tup (gts_cons gt_name (gts_cons gt_name gts_nil))) gts_nil)))) tk_yes (gk_tup (ak_cons gk_var (ak_cons gk_var (ak_cons (gk_tup (ak_cons (gk_un ud_neg gk_var) (ak_cons gk_var ak_nil))) ak_nil)))) (by decide)) ak_nil))))))) : SOk K _ b_Rule_neg)
theorem sc_Rule_sub : FnScope nm_Rule_sub pm_Rule_sub (defScope s_Rule_sub) := ⟨rfl, rfl, rfl, by decide +kernel, rfl, by decide +kernel, by decide +kernel⟩
theorem bi_Rule_sub (T : Txt K mg) : Binds K T.Rule_sub.fd pm_Rule_sub [] := T.Rule_sub.F.binds fun _ _ _ _ _ _ us hl => by obtain ⟨_, _, rfl⟩ := len2 hl; rfl
theorem ok_Rule_sub (T : Txt K mg) : FnOk P w K mg base CX0 9 T.Rule_sub.f T.Rule_sub.fd pm_Rule_sub (spF K r_Rule_sub) := by
  have nd := sc_Rule_sub.nd
  refine data_F T.Rule_sub.F sc_Rule_sub fun cdv A outer s H E hr => ?_
  refine ⟨_, (pss_one (ps_ret (pe_op (OpR.or (kop_addB (K := K) rfl) (op_bin (E := E0) T.sf_Rule T.Rule_add.m.at_ T.Rule_add.m.fn (ok_Rule_add T) (hr.mono (by decide)) (bi_Rule_add T) pass0)) (pv 0) (pe_un (un_or un_neg (un_own (E := E0) T.Rule_neg.m.at_ T.Rule_neg.m.fn (ok_Rule_neg T) (hr.mono (by decide)) (bi_Rule_neg T) pass0)) (pv 1))))), ?_⟩
  exact ((sk_ret (gk_op (od_own T.Rule.at_ od_addB) gk_var (gk_un (ud_own T.Rule.at_ ud_neg) gk_var))) : SOk K _ b_Rule_sub)
theorem sc_area : FnScope nm_area pm_area (defScope s_area) := ⟨rfl, rfl, rfl, by decide +kernel, rfl, by decide +kernel, by decide +kernel⟩
theorem bi_area (T : Txt K mg) : Binds K T.area.fd pm_area [] := T.area.F.binds fun _ _ _ _ _ _ us hl => by obtain ⟨_, _, rfl⟩ := len2 hl; rfl
theorem ok_area (T : Txt K mg) : FnOk P w K mg base CX0 8 T.area.f T.area.fd pm_area (spF K r_area) := by
  have nd := sc_area.nd
  refine data_F T.area.F sc_area fun cdv A outer s H E hr => ?_
  refine ⟨_, (pss_cons (ps_asg (pe_call (ok_need_stretch T) (hr.mono (by decide)) rfl T.need_stretch.m T.need_stretch.F.kp (bi_need_stretch T) .nil pass0 (pa_cons (pv 0) (pa_cons (pv 1) pa_nil))) (kpg_tup (K := K) (n := 2) rfl rfl (pgs_cons (pg_name (i := 2) nd rfl (Or.inl rfl)) (pgs_cons (pg_name (i := 3) nd rfl (Or.inl rfl)) pgs_nil))))
    (pss_one (ps_ret (pe_make T.mk_Rule (ok_Rule_init T) (hr.mono (by decide)) rfl T.Rule.mg (bi_Rule_init_5 T).choose_spec.2 (bi_Rule_init_5 T).choose_spec.1 pass0 (pa_cons (pv 2) (pa_cons (pv 3) (pa_cons (pe_lst pa_nil) (pa_cons (pe_lst (pa_cons (pe_tup (pa_cons (pv 2) (pa_cons (pv 3) (pa_cons pe_int pa_nil)))) pa_nil)) pa_nil)))))))), ?_⟩
  exact ((sk_seq (sk_asg (gk_call (ak_cons gk_var (ak_cons gk_var ak_nil))) (gt_tup (gts_cons gt_name (gts_cons gt_name gts_nil))))
    (sk_ret (gk_make T.Rule (fun H => (drs_drop (T.Rule_init.d H) 2)) (ak_cons gk_var (ak_cons gk_var (ak_cons (gk_lst ak_nil) (ak_cons (gk_lst (ak_cons (gk_tup (ak_cons gk_var (ak_cons gk_var (ak_cons gk_int ak_nil)))) ak_nil)) ak_nil))))))) : SOk K _ b_area)
theorem sc_product_to : FnScope nm_product_to pm_product_to (defScope s_product_to) := ⟨rfl, rfl, rfl, by decide +kernel, rfl, by decide +kernel, by decide +kernel⟩
theorem bi_product_to (T : Txt K mg) : Binds K T.product_to.fd pm_product_to [] := T.product_to.F.binds fun _ _ _ _ _ _ us hl => by obtain ⟨_, rfl⟩ := len1 hl; rfl
theorem ok_product_to (T : Txt K mg) : FnOk P w K mg base CX0 1 T.product_to.f T.product_to.fd pm_product_to (spF K r_product_to) := by
  have nd := sc_product_to.nd
  refine data_F T.product_to.F sc_product_to fun cdv A outer s H E hr => ?_
  refine ⟨_, (pss_cons (ps_set (i := 1) nd rfl (Or.inl rfl) pe_int)
    (pss_cons (ps_for PassesOwn.never rfl (pi_range2 rfl T.range (pa_cons pe_int (pa_cons (pe_op (kop_addB (K := K) rfl) (pv 0) pe_int) pa_nil))) (pg_name (i := 2) nd rfl (Or.inl rfl)) (pss_one (ps_aug (i := 1) nd rfl (Or.inl rfl) (pv 2) iop_mulA)))
    (pss_one (ps_ret (pv 1))))), ?_⟩
  exact ((sk_seq (sk_set gk_int)
    (sk_seq (sk_for (ik_range2 (ak_cons gk_int (ak_cons (gk_op od_addB gk_var gk_int) ak_nil))) gt_name ((sk_aug od_mulI gk_var) : SOk K _ b_product_to_1))
    (sk_ret gk_mv))) : SOk K _ b_product_to)
theorem sc_quotient : FnScope nm_quotient pm_quotient (defScope s_quotient) := ⟨rfl, rfl, rfl, by decide +kernel, rfl, by decide +kernel, by decide +kernel⟩
theorem bi_quotient (T : Txt K mg) : Binds K T.quotient.fd pm_quotient [] := T.quotient.F.binds fun _ _ _ _ _ _ us hl => by obtain ⟨_, _, rfl⟩ := len2 hl; rfl
theorem ok_quotient (T : Txt K mg) : FnOk P w K mg base CX0 3 T.quotient.f T.quotient.fd pm_quotient (spF K r_quotient) := by
  have nd := sc_quotient.nd
  refine data_F T.quotient.F sc_quotient fun cdv A outer s H E hr => ?_
  refine ⟨_, (pss_one (ps_ret (pe_call (ok_lowest T) (hr.mono (by decide)) rfl T.lowest.m T.lowest.F.kp (bi_lowest T) .nil pass0 (pa_cons (pe_op op_mulA (pe_ix (kix (K := K) rfl) (pv 0) pe_int (fun _ _ => rfl)) (pe_ix (kix (K := K) rfl) (pv 1) pe_int (fun _ _ => rfl))) (pa_cons (pe_op op_mulA (pe_ix (kix (K := K) rfl) (pv 0) pe_int (fun _ _ => rfl)) (pe_ix (kix (K := K) rfl) (pv 1) pe_int (fun _ _ => rfl))) pa_nil))))), ?_⟩
  exact ((sk_ret (gk_call (ak_cons (gk_op od_mul (gk_op od_ix gk_var gk_int) (gk_op od_ix gk_var gk_int)) (ak_cons (gk_op od_mul (gk_op od_ix gk_var gk_int) (gk_op od_ix gk_var gk_int)) ak_nil)))) : SOk K _ b_quotient)
theorem sc_area_powers : FnScope nm_area_powers pm_area_powers (defScope s_area_powers) := ⟨rfl, rfl, rfl, by decide +kernel, rfl, by decide +kernel, by decide +kernel⟩
theorem bi_area_powers (T : Txt K mg) : Binds K T.area_powers.fd pm_area_powers [] := T.area_powers.F.binds fun _ _ _ _ _ _ us hl => by obtain ⟨_, rfl⟩ := len1 hl; rfl
theorem ok_area_powers (T : Txt K mg) : FnOk P w K mg base CX0 4 T.area_powers.f T.area_powers.fd pm_area_powers (spF K r_area_powers) := by
  have nd := sc_area_powers.nd
  refine data_F T.area_powers.F sc_area_powers fun cdv A outer s H E hr => ?_
  refine ⟨_, (pss_one (ps_ret (pe_lst (pa_cons (pe_glob rfl T.NOUGHT.m T.NOUGHT.r) (kpa_star (K := K) rfl (pe_lc (own := [("at", 1), ("one", 2)]) rfl nd (kpi_enumA (K := K) rfl rfl T.enumerate (pa_cons (pv 0) pa_nil)) (blkOk_by (N := nm_area_powers) (sc := defScope s_area_powers) (by decide +kernel)) (fun _ _ _ _ _ => (kpg_tup (K := K) (n := 2) rfl rfl (pgs_cons (pg_name (i := 1) nd rfl (Or.inl rfl)) (pgs_cons (pg_name (i := 2) nd rfl (Or.inl rfl)) pgs_nil)))) (fun _ _ _ _ _ => pts_nil) (fun _ _ _ _ _ => (pe_call (ok_quotient T) (hr.mono (by decide)) rfl T.quotient.m T.quotient.F.kp (bi_quotient T) .nil pass0 (pa_cons (pv 2) (pa_cons (pe_tup (pa_cons (pe_op (kop_addB (K := K) rfl) (pv 1) pe_int) (pa_cons pe_int pa_nil))) pa_nil))))) pa_nil))))), ?_⟩
  exact ((sk_ret (gk_lst (ak_cons (gk_c T.NOUGHT.d) (ak_star (gk_lc (ik_enumA (ak_cons gk_var ak_nil)) (gt_tup (gts_cons gt_name (gts_cons gt_name gts_nil))) tk_yes (gk_call (ak_cons gk_var (ak_cons (gk_tup (ak_cons (gk_op od_addB gk_var gk_int) (ak_cons gk_int ak_nil))) ak_nil))) (by decide)) ak_nil)))) : SOk K _ b_area_powers)
theorem sc_less_by : FnScope nm_less_by pm_less_by (defScope s_less_by) := ⟨rfl, rfl, rfl, by decide +kernel, rfl, by decide +kernel, by decide +kernel⟩
theorem bi_less_by (T : Txt K mg) : Binds K T.less_by.fd pm_less_by [] := T.less_by.F.binds fun _ _ _ _ _ _ us hl => by obtain ⟨_, _, rfl⟩ := len2 hl; rfl
theorem ok_less_by (T : Txt K mg) : FnOk P w K mg base CX0 3 T.less_by.f T.less_by.fd pm_less_by (spF K r_less_by) := by
  have nd := sc_less_by.nd
  refine data_F T.less_by.F sc_less_by fun cdv A outer s H E hr => ?_
  refine ⟨_, (pss_one (ps_ret (pe_call (ok_lowest T) (hr.mono (by decide)) rfl T.lowest.m T.lowest.F.kp (bi_lowest T) .nil pass0 (pa_cons (pe_op op_subA (pe_op op_mulA (pe_ix (kix (K := K) rfl) (pv 0) pe_int (fun _ _ => rfl)) (pe_ix (kix (K := K) rfl) (pv 1) pe_int (fun _ _ => rfl))) (pe_op op_mulA (pe_ix (kix (K := K) rfl) (pv 1) pe_int (fun _ _ => rfl)) (pe_ix (kix (K := K) rfl) (pv 0) pe_int (fun _ _ => rfl)))) (pa_cons (pe_op op_mulA (pe_ix (kix (K := K) rfl) (pv 0) pe_int (fun _ _ => rfl)) (pe_ix (kix (K := K) rfl) (pv 1) pe_int (fun _ _ => rfl))) pa_nil))))), ?_⟩
  exact ((sk_ret (gk_call (ak_cons (gk_op od_sub (gk_op od_mul (gk_op od_ix gk_var gk_int) (gk_op od_ix gk_var gk_int)) (gk_op od_mul (gk_op od_ix gk_var gk_int) (gk_op od_ix gk_var gk_int))) (ak_cons (gk_op od_mul (gk_op od_ix gk_var gk_int) (gk_op od_ix gk_var gk_int)) ak_nil)))) : SOk K _ b_less_by)
theorem sc_multiplied : FnScope nm_multiplied pm_multiplied (defScope s_multiplied) := ⟨rfl, rfl, rfl, by decide +kernel, rfl, by decide +kernel, by decide +kernel⟩
theorem bi_multiplied (T : Txt K mg) : Binds K T.multiplied.fd pm_multiplied [] := T.multiplied.F.binds fun _ _ _ _ _ _ us hl => by obtain ⟨_, _, rfl⟩ := len2 hl; rfl
theorem ok_multiplied (T : Txt K mg) : FnOk P w K mg base CX0 3 T.multiplied.f T.multiplied.fd pm_multiplied (spF K r_multiplied) := by
  have nd := sc_multiplied.nd
  refine data_F T.multiplied.F sc_multiplied fun cdv A outer s H E hr => ?_
  refine ⟨_, (pss_one (ps_ret (pe_call (ok_lowest T) (hr.mono (by decide)) rfl T.lowest.m T.lowest.F.kp (bi_lowest T) .nil pass0 (pa_cons (pe_op op_mulA (pe_ix (kix (K := K) rfl) (pv 0) pe_int (fun _ _ => rfl)) (pe_ix (kix (K := K) rfl) (pv 1) pe_int (fun _ _ => rfl))) (pa_cons (pe_op op_mulA (pe_ix (kix (K := K) rfl) (pv 0) pe_int (fun _ _ => rfl)) (pe_ix (kix (K := K) rfl) (pv 1) pe_int (fun _ _ => rfl))) pa_nil))))), ?_⟩
  exact ((sk_ret (gk_call (ak_cons (gk_op od_mul (gk_op od_ix gk_var gk_int) (gk_op od_ix gk_var gk_int)) (ak_cons (gk_op od_mul (gk_op od_ix gk_var gk_int) (gk_op od_ix gk_var gk_int)) ak_nil)))) : SOk K _ b_multiplied)
theorem sc_value_at : FnScope nm_value_at pm_value_at (defScope s_value_at) := ⟨rfl, rfl, rfl, by decide +kernel, rfl, by decide +kernel, by decide +kernel⟩
theorem bi_value_at (T : Txt K mg) : Binds K T.value_at.fd pm_value_at [] := T.value_at.F.binds fun _ _ _ _ _ _ us hl => by obtain ⟨_, _, rfl⟩ := len2 hl; rfl
theorem ok_value_at (T : Txt K mg) : FnOk P w K mg base CX0 4 T.value_at.f T.value_at.fd pm_value_at (spF K r_value_at) := by
  have nd := sc_value_at.nd
  refine data_F T.value_at.F sc_value_at fun cdv A outer s H E hr => ?_
  refine ⟨_, (pss_cons (ps_set (i := 2) nd rfl (Or.inl rfl) (pe_glob rfl T.NOUGHT.m T.NOUGHT.r))
    (pss_cons (ps_for PassesOwn.never rfl (kpi_seq (K := K) rfl (kpe_rev (K := K) rfl (pv 0) (pe_un un_neg pe_int))) (pg_name (i := 3) nd rfl (Or.inl rfl)) (pss_one (ps_set (i := 2) nd rfl (Or.inl rfl) (pe_call (ok_added T) (hr.mono (by decide)) rfl T.added.m T.added.F.kp (bi_added T) .nil pass0 (pa_cons (pe_call (ok_multiplied T) (hr.mono (by decide)) rfl T.multiplied.m T.multiplied.F.kp (bi_multiplied T) .nil pass0 (pa_cons (pv 2) (pa_cons (pv 1) pa_nil))) (pa_cons (pv 3) pa_nil))))))
    (pss_one (ps_ret (pv 2))))), ?_⟩
  exact ((sk_seq (sk_set (gk_c T.NOUGHT.d))
    (sk_seq (sk_for (ik_seq (gk_rev gk_var (gk_un ud_neg gk_int))) gt_name ((sk_set (gk_call (ak_cons (gk_call (ak_cons gk_var (ak_cons gk_var ak_nil))) (ak_cons gk_var ak_nil)))) : SOk K _ b_value_at_1))
    (sk_ret gk_mv))) : SOk K _ b_value_at)
theorem sc_told : FnScope nm_told pm_told (defScope s_told) := ⟨rfl, rfl, rfl, by decide +kernel, rfl, by decide +kernel, by decide +kernel⟩
theorem bi_told (T : Txt K mg) : Binds K T.told.fd pm_told [] := T.told.F.binds fun _ _ _ _ _ _ us hl => by obtain ⟨_, _, rfl⟩ := len2 hl; rfl
theorem ok_told (T : Txt K mg) : FnOk P w K mg base CX0 5 T.told.f T.told.fd pm_told (spF K r_told) := by
  have nd := sc_told.nd
  refine data_F T.told.F sc_told fun cdv A outer s H E hr => ?_
  refine ⟨_, (pss_cons (ps_set (i := 2) nd rfl (Or.inr rfl) (pe_lc (own := [("one", 8)]) rfl nd (kpi_seq (K := K) rfl (pv 1)) (blkOk_by (N := nm_told) (sc := defScope s_told) (by decide +kernel)) (fun _ _ _ _ _ => (pg_name (i := 8) nd rfl (Or.inl rfl))) (fun _ _ _ _ _ => pts_nil) (fun _ _ _ _ _ => (pe_call (ok_value_of T) (hr.mono (by decide)) rfl T.value_of.m T.value_of.F.kp (bi_value_of T) .nil pass0 (pa_cons (pv 8) pa_nil)))))
    (pss_cons (ps_set (i := 3) nd rfl (Or.inl rfl) (pe_call (ok_area_powers T) (hr.mono (by decide)) rfl T.area_powers.m T.area_powers.F.kp (bi_area_powers T) .nil pass0 (pa_cons (pv 2) pa_nil)))
    (pss_cons (ps_setLc (i := 4) (own := [("point", 9), ("weight", 10)]) rfl nd rfl rfl (sw_true rfl rfl rfl (by decide +kernel)) (kpi_seq (K := K) rfl (kpe_fld (K := K) rfl (pv 0) rfl)) (blkOk_by (N := nm_told) (sc := defScope s_told) (by decide +kernel)) (fun _ _ _ _ _ => (kpg_tup (K := K) (n := 2) rfl rfl (pgs_cons (pg_name (i := 9) nd rfl (Or.inl rfl)) (pgs_cons (pg_name (i := 10) nd rfl (Or.inl rfl)) pgs_nil)))) (fun _ _ _ _ _ => pts_nil) (fun _ _ _ _ _ => (pe_call (ok_multiplied T) (hr.mono (by decide)) rfl T.multiplied.m T.multiplied.F.kp (bi_multiplied T) .nil pass0 (pa_cons (pv 10) (pa_cons (pe_call (ok_value_at T) (hr.mono (by decide)) rfl T.value_at.m T.value_at.F.kp (bi_value_at T) .nil pass0 (pa_cons (pv 2) (pa_cons (pv 9) pa_nil))) pa_nil)))))
    (pss_cons (ps_for PassesOwn.never rfl (kpi_seq (K := K) rfl (kpe_fld (K := K) rfl (pv 0) rfl)) (kpg_tup (K := K) (n := 3) rfl rfl (pgs_cons (pg_name (i := 5) nd rfl (Or.inl rfl)) (pgs_cons (pg_name (i := 6) nd rfl (Or.inl rfl)) (pgs_cons (pg_name (i := 7) nd rfl (Or.inl rfl)) pgs_nil)))) (pss_one (ps_expr (kpe_app (K := K) rfl (pv 4) (pe_call (ok_multiplied T) (hr.mono (by decide)) rfl T.multiplied.m T.multiplied.F.kp (bi_multiplied T) .nil pass0 (pa_cons (pv 7) (pa_cons (pe_call (ok_less_by T) (hr.mono (by decide)) rfl T.less_by.m T.less_by.F.kp (bi_less_by T) .nil pass0 (pa_cons (pe_call (ok_value_at T) (hr.mono (by decide)) rfl T.value_at.m T.value_at.F.kp (bi_value_at T) .nil pass0 (pa_cons (pv 3) (pa_cons (pv 6) pa_nil))) (pa_cons (pe_call (ok_value_at T) (hr.mono (by decide)) rfl T.value_at.m T.value_at.F.kp (bi_value_at T) .nil pass0 (pa_cons (pv 3) (pa_cons (pv 5) pa_nil))) pa_nil))) pa_nil)))))))
    (pss_one (ps_ret (pe_call (ok_summed T) (hr.mono (by decide)) rfl T.summed.m T.summed.F.kp (bi_summed T) .nil pass0 (pa_cons (pv 4) pa_nil)))))))), ?_⟩
  exact ((sk_seq (sk_set (gk_lc (ik_seq gk_var) gt_name tk_yes (gk_call (ak_cons gk_var ak_nil)) (by decide)))
    (sk_seq (sk_set (gk_call (ak_cons gk_var ak_nil)))
    (sk_seq (sk_set (gk_lc (ik_seq (gk_fld T.Rule rfl gk_var)) (gt_tup (gts_cons gt_name (gts_cons gt_name gts_nil))) tk_yes (gk_call (ak_cons gk_var (ak_cons (gk_call (ak_cons gk_var (ak_cons gk_var ak_nil))) ak_nil))) (by decide)))
    (sk_seq (sk_for (ik_seq (gk_fld T.Rule rfl gk_var)) (gt_tup (gts_cons gt_name (gts_cons gt_name (gts_cons gt_name gts_nil)))) ((sk_app (gk_call (ak_cons gk_var (ak_cons (gk_call (ak_cons (gk_call (ak_cons gk_var (ak_cons gk_var ak_nil))) (ak_cons (gk_call (ak_cons gk_var (ak_cons gk_var ak_nil))) ak_nil))) ak_nil)))) : SOk K _ b_told_1))
    (sk_ret (gk_call (ak_cons gk_var ak_nil))))))) : SOk K _ b_told)
theorem sc_constant : FnScope nm_constant pm_constant (defScope s_constant) := ⟨rfl, rfl, rfl, by decide +kernel, rfl, by decide +kernel, by decide +kernel⟩
theorem bi_constant (T : Txt K mg) : Binds K T.constant.fd pm_constant [] := T.constant.F.binds fun _ _ _ _ _ _ us hl => by obtain ⟨_, _, rfl⟩ := len2 hl; rfl
theorem kb_constant_1 (T : Txt K mg) : KBn K T.constant.fd pm_constant 0 ["n", "rule"] (fun us ws => pick [1, 0] (us ++ (ws ++ []))) (fun vs zs => pick [1, 0] (vs ++ (zs ++ []))) :=
  kb_F T.constant.F 0 _ _ fun _ _ _ _ _ _ us ws h1 h2 => by obtain ⟨rfl⟩ := ln0 h1; obtain ⟨_, _, rfl⟩ := ln2 h2; rfl
theorem ok_constant (T : Txt K mg) : FnOk P w K mg base CX0 6 T.constant.f T.constant.fd pm_constant (spF K r_constant) := by
  have nd := sc_constant.nd
  refine data_F T.constant.F sc_constant fun cdv A outer s H E hr => ?_
  refine ⟨_, (pss_one (ps_ret (pe_call (ok_quotient T) (hr.mono (by decide)) rfl T.quotient.m T.quotient.F.kp (bi_quotient T) .nil pass0 (pa_cons (pe_call (ok_told T) (hr.mono (by decide)) rfl T.told.m T.told.F.kp (bi_told T) .nil pass0 (pa_cons (pv 0) (pa_cons (pe_op (kop_addB (K := K) rfl) (pe_op op_mulA (pe_lst (pa_cons pe_int pa_nil)) (pv 1)) (pe_lst (pa_cons pe_int pa_nil))) pa_nil))) (pa_cons (pe_tup (pa_cons (pe_call (ok_product_to T) (hr.mono (by decide)) rfl T.product_to.m T.product_to.F.kp (bi_product_to T) .nil pass0 (pa_cons (pv 1) pa_nil)) (pa_cons pe_int pa_nil))) pa_nil))))), ?_⟩
  exact ((sk_ret (gk_call (ak_cons (gk_call (ak_cons gk_var (ak_cons (gk_op od_addB (gk_op od_mul (gk_lst (ak_cons gk_int ak_nil)) gk_var) (gk_lst (ak_cons gk_int ak_nil))) ak_nil))) (ak_cons (gk_tup (ak_cons (gk_call (ak_cons gk_var ak_nil)) (ak_cons gk_int ak_nil))) ak_nil)))) : SOk K _ b_constant)
theorem sc_shifted : FnScope nm_shifted pm_shifted (defScope s_shifted) := ⟨rfl, rfl, rfl, by decide +kernel, rfl, by decide +kernel, by decide +kernel⟩
theorem bi_shifted (T : Txt K mg) : Binds K T.shifted.fd pm_shifted [] := T.shifted.F.binds fun _ _ _ _ _ _ us hl => by obtain ⟨_, _, _, rfl⟩ := len3 hl; rfl
theorem ok_shifted (T : Txt K mg) : FnOk P w K mg base CX0 4 T.shifted.f T.shifted.fd pm_shifted (spF K r_shifted) := by
  have nd := sc_shifted.nd
  refine data_F T.shifted.F sc_shifted fun cdv A outer s H E hr => ?_
  refine ⟨_, (pss_cons (ps_set (i := 3) nd rfl (Or.inl rfl) (pe_lst pa_nil))
    (pss_cons (ps_for PassesOwn.never rfl (kpi_seq (K := K) rfl (kpe_revA (K := K) rfl (pv 0) (pe_un un_neg pe_int))) (pg_name (i := 4) nd rfl (Or.inl rfl)) (pss_cons (ps_set (i := 5) nd rfl (Or.inl rfl) (pe_op (kop_addB (K := K) rfl) (pe_lst (pa_cons (pe_glob rfl T.NOUGHT.m T.NOUGHT.r) pa_nil)) (pe_lc (own := [("one", 6)]) rfl nd (kpi_seq (K := K) rfl (pv 3)) (blkOk_by (N := nm_shifted) (sc := defScope s_shifted) (by decide +kernel)) (fun _ _ _ _ _ => (pg_name (i := 6) nd rfl (Or.inl rfl))) (fun _ _ _ _ _ => pts_nil) (fun _ _ _ _ _ => (pe_call (ok_multiplied T) (hr.mono (by decide)) rfl T.multiplied.m T.multiplied.F.kp (bi_multiplied T) .nil pass0 (pa_cons (pv 6) (pa_cons (pv 2) pa_nil)))))))
    (pss_cons (ps_setLc (i := 3) (own := [("here", 7), ("there", 8)]) rfl nd rfl rfl (sw_true rfl rfl rfl (by decide +kernel)) (kpi_zipA (K := K) rfl rfl T.zip (pa_cons (pv 5) (pa_cons (pe_lst (kpa_star (K := K) rfl (pv 3) (pa_cons (pe_glob rfl T.NOUGHT.m T.NOUGHT.r) pa_nil))) pa_nil))) (blkOk_by (N := nm_shifted) (sc := defScope s_shifted) (by decide +kernel)) (fun _ _ _ _ _ => (kpg_tup (K := K) (n := 2) rfl rfl (pgs_cons (pg_name (i := 7) nd rfl (Or.inl rfl)) (pgs_cons (pg_name (i := 8) nd rfl (Or.inl rfl)) pgs_nil)))) (fun _ _ _ _ _ => pts_nil) (fun _ _ _ _ _ => (pe_call (ok_added T) (hr.mono (by decide)) rfl T.added.m T.added.F.kp (bi_added T) .nil pass0 (pa_cons (pv 7) (pa_cons (pe_call (ok_multiplied T) (hr.mono (by decide)) rfl T.multiplied.m T.multiplied.F.kp (bi_multiplied T) .nil pass0 (pa_cons (pv 1) (pa_cons (pv 8) pa_nil))) pa_nil)))))
    (pss_one (ps_asg (pe_call (ok_added T) (hr.mono (by decide)) rfl T.added.m T.added.F.kp (bi_added T) .nil pass0 (pa_cons (pe_ix (kix (K := K) rfl) (pv 3) pe_int (fun _ _ => rfl)) (pa_cons (pv 4) pa_nil))) (pg_sub (pv 3) pe_int set_list))))))
    (pss_one (ps_ret (pe_slice (ksl_B (K := K) rfl) (pv 3) po_none (po_some (pe_callB (kcr_len (K := K) rfl) (by rfl) T.len (by decide +kernel) (pa_cons (pv 0) pa_nil)))))))), ?_⟩
  exact ((sk_seq (sk_set (gk_lst ak_nil))
    (sk_seq (sk_for (ik_seq (gk_revA gk_var (gk_un ud_neg gk_int))) gt_name ((sk_seq (sk_set (gk_op od_addB (gk_lst (ak_cons (gk_c T.NOUGHT.d) ak_nil)) (gk_by (gk_lcv gt_name tk_yes (gk_call (ak_cons gk_var (ak_cons gk_var ak_nil))) (by decide)) (gk_lc (ik_seq gk_var) gt_name tk_yes (gk_call (ak_cons gk_var (ak_cons gk_var ak_nil))) (by decide)))))
    (sk_seq (sk_set (gk_lc (ik_zipA (ak_cons gk_var (ak_cons (gk_lst (ak_star gk_var (ak_cons (gk_c T.NOUGHT.d) ak_nil))) ak_nil))) (gt_tup (gts_cons gt_name (gts_cons gt_name gts_nil))) tk_yes (gk_call (ak_cons gk_var (ak_cons (gk_call (ak_cons gk_var (ak_cons gk_var ak_nil))) ak_nil))) (by decide)))
    (sk_put (gk_call (ak_cons (gk_by (gk_ixv gk_int) (gk_op od_ix gk_var gk_int)) (ak_cons gk_var ak_nil))) gk_int))) : SOk K _ b_shifted_1))
    (sk_ret (gk_sl sd_B gk_var pk_none (pk_some (gk_cb cd_len (ak_cons gk_var ak_nil))))))) : SOk K _ b_shifted)
theorem sc_ways_to_choose : FnScope nm_ways_to_choose pm_ways_to_choose (defScope s_ways_to_choose) := ⟨rfl, rfl, rfl, by decide +kernel, rfl, by decide +kernel, by decide +kernel⟩
theorem bi_ways_to_choose (T : Txt K mg) : Binds K T.ways_to_choose.fd pm_ways_to_choose [] := T.ways_to_choose.F.binds fun _ _ _ _ _ _ us hl => by obtain ⟨_, _, rfl⟩ := len2 hl; rfl
theorem ok_ways_to_choose (T : Txt K mg) : FnOk P w K mg base CX0 2 T.ways_to_choose.f T.ways_to_choose.fd pm_ways_to_choose (spF K r_ways_to_choose) := by
  have nd := sc_ways_to_choose.nd
  refine data_F T.ways_to_choose.F sc_ways_to_choose fun cdv A outer s H E hr => ?_
  refine ⟨_, (pss_cons (ps_if (PW.pt (pw_or (pt_cmpR op_lt (pv 1) pe_int (nomark _)) (pw_or1 (pt_cmpR op_lt (pv 0) (pv 1) (nomark _))))) (pss_one (ps_ret pe_int)) pss_nil)
    (pss_one (ps_ret (pe_op op_fdivA (pe_call (ok_product_to T) (hr.mono (by decide)) rfl T.product_to.m T.product_to.F.kp (bi_product_to T) .nil pass0 (pa_cons (pv 0) pa_nil)) (pe_op op_mulA (pe_call (ok_product_to T) (hr.mono (by decide)) rfl T.product_to.m T.product_to.F.kp (bi_product_to T) .nil pass0 (pa_cons (pv 1) pa_nil)) (pe_call (ok_product_to T) (hr.mono (by decide)) rfl T.product_to.m T.product_to.F.kp (bi_product_to T) .nil pass0 (pa_cons (pe_op op_subA (pv 0) (pv 1)) pa_nil))))))), ?_⟩
  exact ((sk_seq (sk_if (tk_or (tk_test (gk_op od_lt gk_var gk_int)) (tk_test (gk_op od_lt gk_var gk_var))) (sk_ret gk_int) sk_next)
    (sk_ret (gk_op od_fdiv (gk_call (ak_cons gk_var ak_nil)) (gk_op od_mul (gk_call (ak_cons gk_var ak_nil)) (gk_call (ak_cons (gk_op od_sub gk_var gk_var) ak_nil)))))) : SOk K _ b_ways_to_choose)
theorem sc_handles_of : FnScope nm_handles_of pm_handles_of (defScope s_handles_of) := ⟨rfl, rfl, rfl, by decide +kernel, rfl, by decide +kernel, by decide +kernel⟩
theorem bi_handles_of (T : Txt K mg) : Binds K T.handles_of.fd pm_handles_of [] := T.handles_of.F.binds fun _ _ _ _ _ _ us hl => by obtain ⟨_, _, _, rfl⟩ := len3 hl; rfl
theorem ok_handles_of (T : Txt K mg) : FnOk P w K mg base CX0 5 T.handles_of.f T.handles_of.fd pm_handles_of (spF K r_handles_of) := by
  have nd := sc_handles_of.nd
  refine data_F T.handles_of.F sc_handles_of fun cdv A outer s H E hr => ?_
  refine ⟨_, (pss_cons (ps_par (i := 3) (j := 4) rfl nd rfl rfl (by decide) rfl rfl (pa_cons (pe_call (ok_shifted T) (hr.mono (by decide)) rfl T.shifted.m T.shifted.F.kp (bi_shifted T) .nil pass0 (pa_cons (pv 0) (pa_cons (pv 1) (pa_cons (pe_call (ok_less_by T) (hr.mono (by decide)) rfl T.less_by.m T.less_by.F.kp (bi_less_by T) .nil pass0 (pa_cons (pv 2) (pa_cons (pv 1) pa_nil))) pa_nil)))) (pa_cons (pe_op op_subA (pe_callB (kcr_len (K := K) rfl) (by rfl) T.len (by decide +kernel) (pa_cons (pv 0) pa_nil)) pe_int) pa_nil)) (by rfl))
    (pss_cons (ps_set (i := 5) nd rfl (Or.inl rfl) (pe_lst pa_nil))
    (pss_cons (ps_for PassesOwn.never rfl (pi_range1 rfl T.range (pa_cons (pe_op (kop_addB (K := K) rfl) (pv 4) pe_int) pa_nil)) (pg_name (i := 6) nd rfl (Or.inl rfl)) (pss_cons (ps_set (i := 7) nd rfl (Or.inl rfl) (pe_lst pa_nil))
    (pss_cons (ps_for PassesOwn.never rfl (pi_range1 rfl T.range (pa_cons (pe_op (kop_addB (K := K) rfl) (pv 6) pe_int) pa_nil)) (pg_name (i := 8) nd rfl (Or.inl rfl)) (pss_one (ps_expr (kpe_app (K := K) rfl (pv 7) (pe_call (ok_multiplied T) (hr.mono (by decide)) rfl T.multiplied.m T.multiplied.F.kp (bi_multiplied T) .nil pass0 (pa_cons (pe_ix (kix (K := K) rfl) (pv 3) (pv 8) (fun _ _ => rfl)) (pa_cons (pe_call (ok_lowest T) (hr.mono (by decide)) rfl T.lowest.m T.lowest.F.kp (bi_lowest T) .nil pass0 (pa_cons (pe_call (ok_ways_to_choose T) (hr.mono (by decide)) rfl T.ways_to_choose.m T.ways_to_choose.F.kp (bi_ways_to_choose T) .nil pass0 (pa_cons (pv 6) (pa_cons (pv 8) pa_nil))) (pa_cons (pe_call (ok_ways_to_choose T) (hr.mono (by decide)) rfl T.ways_to_choose.m T.ways_to_choose.F.kp (bi_ways_to_choose T) .nil pass0 (pa_cons (pv 4) (pa_cons (pv 8) pa_nil))) pa_nil))) pa_nil)))))))
    (pss_one (ps_expr (kpe_app (K := K) rfl (pv 5) (pe_call (ok_summed T) (hr.mono (by decide)) rfl T.summed.m T.summed.F.kp (bi_summed T) .nil pass0 (pa_cons (pv 7) pa_nil))))))))
    (pss_one (ps_ret (pv 5)))))), ?_⟩
  exact ((sk_seq (sk_ypar (yk_cons (gk_call (ak_cons gk_var (ak_cons gk_var (ak_cons (gk_call (ak_cons gk_var (ak_cons gk_var ak_nil))) ak_nil)))) (yk_cons (gk_op od_sub (gk_cb cd_len (ak_cons gk_var ak_nil)) gk_int) yk_nil)))
    (sk_seq (sk_set (gk_lst ak_nil))
    (sk_seq (sk_for (ik_range1 (ak_cons (gk_op od_addB gk_var gk_int) ak_nil)) gt_name ((sk_seq (sk_set (gk_lst ak_nil))
    (sk_seq (sk_for (ik_range1 (ak_cons (gk_op od_addB gk_var gk_int) ak_nil)) gt_name ((sk_app (gk_call (ak_cons (gk_op od_ix gk_var gk_var) (ak_cons (gk_call (ak_cons (gk_call (ak_cons gk_var (ak_cons gk_var ak_nil))) (ak_cons (gk_call (ak_cons gk_var (ak_cons gk_var ak_nil))) ak_nil))) ak_nil)))) : SOk K _ b_handles_of_1))
    (sk_app (gk_call (ak_cons gk_var ak_nil))))) : SOk K _ b_handles_of_2))
    (sk_ret gk_mv)))) : SOk K _ b_handles_of)
theorem sc_Part_init : FnScope nm_Part_init pm_Part_init (defScope s_Part_init) := ⟨rfl, rfl, rfl, by decide +kernel, rfl, by decide +kernel, by decide +kernel⟩
theorem bi_Part_init (T : Txt K mg) : Binds K T.Part_init.fd pm_Part_init [] := T.Part_init.F.binds fun _ _ _ _ _ _ us hl => by obtain ⟨_, _, _, _, rfl⟩ := len4 hl; rfl
theorem ok_Part_init (T : Txt K mg) : FnOk P w K mg base CX0 6 T.Part_init.f T.Part_init.fd pm_Part_init (spB K r_Part_init) := by
  have nd := sc_Part_init.nd
  refine data_B T.Part_init.F sc_Part_init fun cdv A outer s H E hr => ?_
  refine ⟨_, (pss_cons (kps_fld (K := K) rfl (pv 0) (pv 1) rfl)
    (pss_cons (kps_fld (K := K) rfl (pv 0) (pv 2) rfl)
    (pss_cons (kps_fld (K := K) rfl (pv 0) (pv 3) rfl)
    (pss_cons (ps_par (i := 4) (j := 5) rfl nd rfl rfl (by decide) rfl rfl (pa_cons (pe_call (ok_handles_of T) (hr.mono (by decide)) rfl T.handles_of.m T.handles_of.F.kp (bi_handles_of T) .nil pass0 (pa_cons (pv 3) (pa_cons (pv 1) (pa_cons (pv 2) pa_nil)))) (pa_cons (pe_call (ok_less_by T) (hr.mono (by decide)) rfl T.less_by.m T.less_by.F.kp (bi_less_by T) .nil pass0 (pa_cons (pv 2) (pa_cons (pv 1) pa_nil))) pa_nil)) (by rfl))
    (pss_cons (ps_set (i := 6) nd rfl (Or.inl rfl) (pe_call (ok_quotient T) (hr.mono (by decide)) rfl T.quotient.m T.quotient.F.kp (bi_quotient T) .nil pass0 (pa_cons (pe_call (ok_summed T) (hr.mono (by decide)) rfl T.summed.m T.summed.F.kp (bi_summed T) .nil pass0 (pa_cons (pv 4) pa_nil)) (pa_cons (pe_tup (pa_cons (pe_callB (kcr_len (K := K) rfl) (by rfl) T.len (by decide +kernel) (pa_cons (pv 4) pa_nil)) (pa_cons pe_int pa_nil))) pa_nil))))
    (pss_cons (ps_setLc (i := 7) (own := [("one", 9)]) rfl nd rfl rfl (sw_true rfl rfl rfl (by decide +kernel)) (kpi_seq (K := K) rfl (pv 4)) (blkOk_by (N := nm_Part_init) (sc := defScope s_Part_init) (by decide +kernel)) (fun _ _ _ _ _ => (pg_name (i := 9) nd rfl (Or.inl rfl))) (fun _ _ _ _ _ => pts_nil) (fun _ _ _ _ _ => (pe_ifExp (kpt_tru (K := K) rfl (pe_call (ok_is_less T) (hr.mono (by decide)) rfl T.is_less.m T.is_less.F.kp (bi_is_less T) .nil pass0 (pa_cons (pe_glob rfl T.NOUGHT.m T.NOUGHT.r) (pa_cons (pv 9) pa_nil))) (by intro _; rfl)) (pv 9) (pe_glob rfl T.NOUGHT.m T.NOUGHT.r))))
    (pss_cons (ps_setLc (i := 8) (own := [("one", 9)]) rfl nd rfl rfl (sw_true rfl rfl rfl (by decide +kernel)) (kpi_seq (K := K) rfl (pv 4)) (blkOk_by (N := nm_Part_init) (sc := defScope s_Part_init) (by decide +kernel)) (fun _ _ _ _ _ => (pg_name (i := 9) nd rfl (Or.inl rfl))) (fun _ _ _ _ _ => (pts_one (kpt_tru (K := K) rfl (pe_call (ok_is_less T) (hr.mono (by decide)) rfl T.is_less.m T.is_less.F.kp (bi_is_less T) .nil pass0 (pa_cons (pv 9) (pa_cons (pe_glob rfl T.NOUGHT.m T.NOUGHT.r) pa_nil))) (by intro _; rfl)))) (fun _ _ _ _ _ => (pv 9)))
    (pss_cons (kps_fld (K := K) rfl (pv 0) (pe_call (ok_multiplied T) (hr.mono (by decide)) rfl T.multiplied.m T.multiplied.F.kp (bi_multiplied T) .nil pass0 (pa_cons (pv 6) (pa_cons (pv 5) pa_nil))) rfl)
    (pss_cons (kps_fld (K := K) rfl (pv 0) (pe_ifExp (kpt_tru (K := K) rfl (pe_call (ok_is_less T) (hr.mono (by decide)) rfl T.is_less.m T.is_less.F.kp (bi_is_less T) .nil pass0 (pa_cons (pe_glob rfl T.NOUGHT.m T.NOUGHT.r) (pa_cons (kpe_fld (K := K) rfl (pv 0) rfl) pa_nil))) (by intro _; rfl)) (kpe_fld (K := K) rfl (pv 0) rfl) (pe_glob rfl T.NOUGHT.m T.NOUGHT.r)) rfl)
    (pss_one (kps_fld (K := K) rfl (pv 0) (pe_ifExp (pt_cmpR (kop_eq (K := K) rfl hr.units) (pe_callB (kcr_len (K := K) rfl) (by rfl) T.len (by decide +kernel) (pa_cons (pv 8) pa_nil)) pe_int (nomark _)) (kpe_fld (K := K) rfl (pv 0) rfl) (pe_call (ok_multiplied T) (hr.mono (by decide)) rfl T.multiplied.m T.multiplied.F.kp (bi_multiplied T) .nil pass0 (pa_cons (pe_call (ok_quotient T) (hr.mono (by decide)) rfl T.quotient.m T.quotient.F.kp (bi_quotient T) .nil pass0 (pa_cons (pe_call (ok_summed T) (hr.mono (by decide)) rfl T.summed.m T.summed.F.kp (bi_summed T) .nil pass0 (pa_cons (pv 7) pa_nil)) (pa_cons (pe_tup (pa_cons (pe_callB (kcr_len (K := K) rfl) (by rfl) T.len (by decide +kernel) (pa_cons (pv 7) pa_nil)) (pa_cons pe_int pa_nil))) pa_nil))) (pa_cons (pv 5) pa_nil)))) rfl))))))))))), ?_⟩
  exact ((sk_seq (sk_setf T.Part rfl gk_var)
    (sk_seq (sk_setf T.Part rfl gk_var)
    (sk_seq (sk_setf T.Part rfl gk_var)
    (sk_seq (sk_ypar (yk_cons (gk_call (ak_cons gk_var (ak_cons gk_var (ak_cons gk_var ak_nil)))) (yk_cons (gk_call (ak_cons gk_var (ak_cons gk_var ak_nil))) yk_nil)))
    (sk_seq (sk_set (gk_call (ak_cons (gk_call (ak_cons gk_var ak_nil)) (ak_cons (gk_tup (ak_cons (gk_cb cd_len (ak_cons gk_var ak_nil)) (ak_cons gk_int ak_nil))) ak_nil))))
    (sk_seq (sk_set (gk_lc (ik_seq gk_var) gt_name tk_yes (gk_if (tk_truK (gk_call (ak_cons (gk_c T.NOUGHT.d) (ak_cons gk_var ak_nil)))) gk_var (gk_c T.NOUGHT.d)) (by decide)))
    (sk_seq (sk_set (gk_lc (ik_seq gk_var) gt_name (tk_truK (gk_call (ak_cons gk_var (ak_cons (gk_c T.NOUGHT.d) ak_nil)))) gk_var (by decide)))
    (sk_seq (sk_setf T.Part rfl (gk_call (ak_cons gk_var (ak_cons gk_var ak_nil))))
    (sk_seq (sk_setf T.Part rfl (gk_if (tk_truK (gk_call (ak_cons (gk_c T.NOUGHT.d) (ak_cons (gk_fldv T.Part rfl) ak_nil)))) (gk_fldv T.Part rfl) (gk_c T.NOUGHT.d)))
    (sk_setf T.Part rfl (gk_if (tk_test (gk_op od_eq (gk_cb cd_len (ak_cons gk_var ak_nil)) gk_int)) (gk_fldv T.Part rfl) (gk_call (ak_cons (gk_call (ak_cons (gk_call (ak_cons gk_var ak_nil)) (ak_cons (gk_tup (ak_cons (gk_cb cd_len (ak_cons gk_var ak_nil)) (ak_cons gk_int ak_nil))) ak_nil))) (ak_cons gk_var ak_nil)))))))))))))) : SOk K _ b_Part_init)
theorem sc_Part_halves : FnScope nm_Part_halves pm_Part_halves (defScope s_Part_halves) := ⟨rfl, rfl, rfl, by decide +kernel, rfl, by decide +kernel, by decide +kernel⟩
theorem bi_Part_halves (T : Txt K mg) : Binds K T.Part_halves.fd pm_Part_halves [] := T.Part_halves.F.binds fun _ _ _ _ _ _ us hl => by obtain ⟨_, rfl⟩ := len1 hl; rfl
theorem ok_Part_halves (T : Txt K mg) : FnOk P w K mg base CX0 8 T.Part_halves.f T.Part_halves.fd pm_Part_halves (spF K r_Part_halves) := by
  have nd := sc_Part_halves.nd
  refine data_F T.Part_halves.F sc_Part_halves fun cdv A outer s H E hr => ?_
  refine ⟨_, (pss_cons (ps_if (pt_cmpR (kop_eq (K := K) rfl hr.units) (kpe_fld (K := K) rfl (pv 0) rfl) (kpe_fld (K := K) rfl (pv 0) rfl) (nomark _)) (pss_one (ps_ret (pe_lst (pa_cons (pv 0) pa_nil)))) pss_nil)
    (pss_cons (ps_set (i := 1) nd rfl (Or.inl rfl) (pe_call (ok_quotient T) (hr.mono (by decide)) rfl T.quotient.m T.quotient.F.kp (bi_quotient T) .nil pass0 (pa_cons (pe_call (ok_added T) (hr.mono (by decide)) rfl T.added.m T.added.F.kp (bi_added T) .nil pass0 (pa_cons (kpe_fld (K := K) rfl (pv 0) rfl) (pa_cons (kpe_fld (K := K) rfl (pv 0) rfl) pa_nil))) (pa_cons (pe_tup (pa_cons pe_int (pa_cons pe_int pa_nil))) pa_nil))))
    (pss_one (ps_ret (pe_lst (pa_cons (pe_make T.mk_Part (ok_Part_init T) (hr.mono (by decide)) rfl T.Part.mg (bi_Part_init T) .nil pass0 (pa_cons (kpe_fld (K := K) rfl (pv 0) rfl) (pa_cons (pv 1) (pa_cons (kpe_fld (K := K) rfl (pv 0) rfl) pa_nil)))) (pa_cons (pe_make T.mk_Part (ok_Part_init T) (hr.mono (by decide)) rfl T.Part.mg (bi_Part_init T) .nil pass0 (pa_cons (pv 1) (pa_cons (kpe_fld (K := K) rfl (pv 0) rfl) (pa_cons (kpe_fld (K := K) rfl (pv 0) rfl) pa_nil)))) pa_nil))))))), ?_⟩
  exact ((sk_seq (sk_if (tk_test (gk_op od_eq (gk_fld T.Part rfl gk_var) (gk_fld T.Part rfl gk_var))) (sk_ret (gk_lst (ak_cons gk_var ak_nil))) sk_next)
    (sk_seq (sk_set (gk_call (ak_cons (gk_call (ak_cons (gk_fld T.Part rfl gk_var) (ak_cons (gk_fld T.Part rfl gk_var) ak_nil))) (ak_cons (gk_tup (ak_cons gk_int (ak_cons gk_int ak_nil))) ak_nil))))
    (sk_ret (gk_lst (ak_cons (gk_make T.Part (fun H => .nil) (ak_cons (gk_fld T.Part rfl gk_var) (ak_cons gk_var (ak_cons (gk_fld T.Part rfl gk_var) ak_nil)))) (ak_cons (gk_make T.Part (fun H => .nil) (ak_cons gk_var (ak_cons (gk_fld T.Part rfl gk_var) (ak_cons (gk_fld T.Part rfl gk_var) ak_nil)))) ak_nil)))))) : SOk K _ b_Part_halves)
theorem sc_degree : FnScope nm_degree pm_degree (defScope s_degree) := ⟨rfl, rfl, rfl, by decide +kernel, rfl, by decide +kernel, by decide +kernel⟩
theorem bi_degree (T : Txt K mg) : Binds K T.degree.fd pm_degree [] := T.degree.F.binds fun _ _ _ _ _ _ us hl => by obtain ⟨_, rfl⟩ := len1 hl; rfl
theorem ok_degree (T : Txt K mg) : FnOk P w K mg base CX0 6 T.degree.f T.degree.fd pm_degree (spF K r_degree) := by
  have nd := sc_degree.nd
  refine data_F T.degree.F sc_degree fun cdv A outer s H E hr => ?_
  refine ⟨_, (pss_cons (ps_if (pt_cmpR (kop_eq (K := K) rfl hr.units) (pe_op (kop_addB (K := K) rfl) (pe_callB (kcr_len (K := K) rfl) (by rfl) T.len (by decide +kernel) (pa_cons (kpe_fld (K := K) rfl (pv 0) rfl) pa_nil)) (pe_callB (kcr_len (K := K) rfl) (by rfl) T.len (by decide +kernel) (pa_cons (kpe_fld (K := K) rfl (pv 0) rfl) pa_nil))) pe_int (nomark _)) (pss_one (ps_ret pe_non)) pss_nil)
    (pss_cons (ps_set (i := 1) nd rfl (Or.inl rfl) (pe_lst (pa_cons (pe_glob rfl T.ONE.m T.ONE.r) pa_nil)))
    (pss_cons (ps_while PassesOwn.never (pt_cmpR (kop_eq (K := K) rfl hr.units) (pe_call (ok_told T) (hr.mono (by decide)) rfl T.told.m T.told.F.kp (bi_told T) .nil pass0 (pa_cons (pv 0) (pa_cons (pv 1) pa_nil))) (pe_glob rfl T.NOUGHT.m T.NOUGHT.r) (nomark _)) (pss_one (ps_set (i := 1) nd rfl (Or.inl rfl) (pe_lst (pa_cons (pe_glob rfl T.NOUGHT.m T.NOUGHT.r) (kpa_star (K := K) rfl (pv 1) pa_nil))))))
    (pss_one (ps_ret (pe_op op_subA (pe_callB (kcr_len (K := K) rfl) (by rfl) T.len (by decide +kernel) (pa_cons (pv 1) pa_nil)) pe_int)))))), ?_⟩
  exact ((sk_seq (sk_if (tk_test (gk_op od_eq (gk_op od_addB (gk_cb cd_len (ak_cons (gk_fld T.Rule rfl gk_var) ak_nil)) (gk_cb cd_len (ak_cons (gk_fld T.Rule rfl gk_var) ak_nil))) gk_int)) (sk_ret gk_non) sk_next)
    (sk_seq (sk_set (gk_lst (ak_cons (gk_c T.ONE.d) ak_nil)))
    (sk_seq (sk_while (fun _ => 1000) (tk_test (gk_op od_eq (gk_call (ak_cons gk_var (ak_cons gk_var ak_nil))) (gk_c T.NOUGHT.d))) ((sk_set (gk_lst (ak_cons (gk_c T.NOUGHT.d) (ak_star gk_var ak_nil)))) : SOk K _ b_degree_1))
    (sk_ret (gk_op od_sub (gk_cb cd_len (ak_cons gk_var ak_nil)) gk_int))))) : SOk K _ b_degree)
theorem sc_knots_of : FnScope nm_knots_of pm_knots_of (defScope s_knots_of) := ⟨rfl, rfl, rfl, by decide +kernel, rfl, by decide +kernel, by decide +kernel⟩
theorem bi_knots_of (T : Txt K mg) : Binds K T.knots_of.fd pm_knots_of [] := T.knots_of.F.binds fun _ _ _ _ _ _ us hl => by obtain ⟨_, rfl⟩ := len1 hl; rfl
theorem ok_knots_of (T : Txt K mg) : FnOk P w K mg base CX0 3 T.knots_of.f T.knots_of.fd pm_knots_of (spF K r_knots_of) := by
  have nd := sc_knots_of.nd
  refine data_F T.knots_of.F sc_knots_of fun cdv A outer s H E hr => ?_
  refine ⟨_, (pss_cons (ps_set (i := 1) nd rfl (Or.inl rfl) (pe_lst (pa_cons (kpe_fld (K := K) rfl (pv 0) rfl) (pa_cons (kpe_fld (K := K) rfl (pv 0) rfl) (kpa_star (K := K) rfl (pe_lc (own := [("point", 7), ("weight", 8)]) rfl nd (kpi_seq (K := K) rfl (kpe_fld (K := K) rfl (pv 0) rfl)) (blkOk_by (N := nm_knots_of) (sc := defScope s_knots_of) (by decide +kernel)) (fun _ _ _ _ _ => (kpg_tup (K := K) (n := 2) rfl rfl (pgs_cons (pg_name (i := 7) nd rfl (Or.inl rfl)) (pgs_cons (pg_name (i := 8) nd rfl (Or.inl rfl)) pgs_nil)))) (fun _ _ _ _ _ => pts_nil) (fun _ _ _ _ _ => (pv 7))) pa_nil)))))
    (pss_cons (ps_for PassesOwn.never rfl (kpi_seq (K := K) rfl (kpe_fld (K := K) rfl (pv 0) rfl)) (kpg_tup (K := K) (n := 3) rfl rfl (pgs_cons (pg_name (i := 2) nd rfl (Or.inl rfl)) (pgs_cons (pg_name (i := 3) nd rfl (Or.inl rfl)) (pgs_cons (pg_name (i := 4) nd rfl (Or.inl rfl)) pgs_nil)))) (pss_one (ps_set (i := 1) nd rfl (Or.inl rfl) (pe_lst (kpa_star (K := K) rfl (pv 1) (pa_cons (pv 2) (pa_cons (pv 3) pa_nil)))))))
    (pss_cons (ps_set (i := 5) nd rfl (Or.inr rfl) pe_int)
    (pss_cons (ps_for PassesOwn.never rfl (kpi_seq (K := K) rfl (pv 1)) (pg_name (i := 6) nd rfl (Or.inl rfl)) (pss_one (ps_set (i := 5) nd rfl (Or.inr rfl) (pe_op op_mulA (pv 5) (pe_ix (kix (K := K) rfl) (pv 6) pe_int (fun _ _ => rfl))))))
    (pss_one (ps_ret (pe_lc (own := [("count", 11)]) rfl nd (kpi_seq (K := K) rfl (pe_callB (cr_sortedSet rfl) (by rfl) T.sorted (by decide +kernel) (pa_cons (pe_callTy (kcr_setInts (K := K) rfl rfl) (by rfl) T.set (by decide +kernel) (pa_cons (pe_lc (own := [("top", 9), ("low", 10)]) rfl nd (kpi_seq (K := K) rfl (pv 1)) (blkOk_by (N := nm_knots_of) (sc := defScope s_knots_of) (by decide +kernel)) (fun _ _ _ _ _ => (kpg_tup (K := K) (n := 2) rfl rfl (pgs_cons (pg_name (i := 9) nd rfl (Or.inl rfl)) (pgs_cons (pg_name (i := 10) nd rfl (Or.inl rfl)) pgs_nil)))) (fun _ _ _ _ _ => pts_nil) (fun _ _ _ _ _ => (pe_callTy cr_int (by rfl) T.int (by decide +kernel) (pa_cons (pe_op op_mulA (pv 9) (pe_op op_fdivA (pv 5) (pv 10))) pa_nil)))) pa_nil)) pa_nil))) (blkOk_by (N := nm_knots_of) (sc := defScope s_knots_of) (by decide +kernel)) (fun _ _ _ _ _ => (pg_name (i := 11) nd rfl (Or.inl rfl))) (fun _ _ _ _ _ => pts_nil) (fun _ _ _ _ _ => (pe_call (ok_lowest T) (hr.mono (by decide)) rfl T.lowest.m T.lowest.F.kp (bi_lowest T) .nil pass0 (pa_cons (pv 11) (pa_cons (pv 5) pa_nil))))))))))), ?_⟩
  exact ((sk_seq (sk_set (gk_lst (ak_cons (gk_fld T.Rule rfl gk_var) (ak_cons (gk_fld T.Rule rfl gk_var) (ak_star (gk_lc (ik_seq (gk_fld T.Rule rfl gk_var)) (gt_tup (gts_cons gt_name (gts_cons gt_name gts_nil))) tk_yes gk_var (by decide)) ak_nil)))))
    (sk_seq (sk_for (ik_seq (gk_fld T.Rule rfl gk_var)) (gt_tup (gts_cons gt_name (gts_cons gt_name (gts_cons gt_name gts_nil)))) ((sk_set (gk_lst (ak_star gk_var (ak_cons gk_var (ak_cons gk_var ak_nil))))) : SOk K _ b_knots_of_1))
    (sk_seq (sk_set gk_int)
    (sk_seq (sk_for (ik_seq gk_var) gt_name ((sk_set (gk_op od_mul gk_var (gk_op od_ix gk_var gk_int))) : SOk K _ b_knots_of_2))
    (sk_ret (gk_lc (ik_seq (gk_sortSet (ak_cons (gk_lc (ik_seq gk_var) (gt_tup (gts_cons gt_name (gts_cons gt_name gts_nil))) tk_yes (gk_cb cd_int (ak_cons (gk_op od_mul gk_var (gk_op od_fdiv gk_var gk_var)) ak_nil)) (by decide)) ak_nil))) gt_name tk_yes (gk_call (ak_cons gk_var (ak_cons gk_var ak_nil))) (by decide))))))) : SOk K _ b_knots_of)
theorem sc_powered : FnScope nm_powered pm_powered (defScope s_powered) := ⟨rfl, rfl, rfl, by decide +kernel, rfl, by decide +kernel, by decide +kernel⟩
theorem bi_powered (T : Txt K mg) : Binds K T.powered.fd pm_powered [] := T.powered.F.binds fun _ _ _ _ _ _ us hl => by obtain ⟨_, _, rfl⟩ := len2 hl; rfl
theorem ok_powered (T : Txt K mg) : FnOk P w K mg base CX0 4 T.powered.f T.powered.fd pm_powered (spF K r_powered) := by
  have nd := sc_powered.nd
  refine data_F T.powered.F sc_powered fun cdv A outer s H E hr => ?_
  refine ⟨_, (pss_cons (ps_set (i := 2) nd rfl (Or.inl rfl) (pe_glob rfl T.ONE.m T.ONE.r))
    (pss_cons (ps_for PassesOwn.never rfl (pi_range1 rfl T.range (pa_cons (pv 1) pa_nil)) (pg_name (i := 3) nd rfl (Or.inl rfl)) (pss_one (ps_set (i := 2) nd rfl (Or.inl rfl) (pe_call (ok_multiplied T) (hr.mono (by decide)) rfl T.multiplied.m T.multiplied.F.kp (bi_multiplied T) .nil pass0 (pa_cons (pv 2) (pa_cons (pv 0) pa_nil))))))
    (pss_one (ps_ret (pv 2))))), ?_⟩
  exact ((sk_seq (sk_set (gk_c T.ONE.d))
    (sk_seq (sk_for (ik_range1 (ak_cons gk_var ak_nil)) gt_name ((sk_set (gk_call (ak_cons gk_var (ak_cons gk_var ak_nil)))) : SOk K _ b_powered_1))
    (sk_ret gk_mv))) : SOk K _ b_powered)
theorem sc_ways : FnScope nm_ways pm_ways (defScope s_ways) := ⟨rfl, rfl, rfl, by decide +kernel, rfl, by decide +kernel, by decide +kernel⟩
theorem bi_ways (T : Txt K mg) : Binds K T.ways.fd pm_ways [] := T.ways.F.binds fun _ _ _ _ _ _ us hl => by obtain ⟨_, _, rfl⟩ := len2 hl; rfl
theorem ok_ways (T : Txt K mg) : FnOk P w K mg base CX0 1 T.ways.f T.ways.fd pm_ways (spF K r_ways) := by
  have nd := sc_ways.nd
  refine data_F T.ways.F sc_ways fun cdv A outer s H E hr => ?_
  refine ⟨_, (pss_cons (ps_set (i := 2) nd rfl (Or.inl rfl) pe_int)
    (pss_cons (ps_for PassesOwn.never rfl (pi_range1 rfl T.range (pa_cons (pv 1) pa_nil)) (pg_name (i := 3) nd rfl (Or.inl rfl)) (pss_one (ps_set (i := 2) nd rfl (Or.inl rfl) (pe_op op_fdivA (pe_op op_mulA (pv 2) (pe_op op_subA (pv 0) (pv 3))) (pe_op (kop_addB (K := K) rfl) (pv 3) pe_int)))))
    (pss_one (ps_ret (pv 2))))), ?_⟩
  exact ((sk_seq (sk_set gk_int)
    (sk_seq (sk_for (ik_range1 (ak_cons gk_var ak_nil)) gt_name ((sk_set (gk_op od_fdiv (gk_op od_mul gk_var (gk_op od_sub gk_var gk_var)) (gk_op od_addB gk_var gk_int))) : SOk K _ b_ways_1))
    (sk_ret gk_mv))) : SOk K _ b_ways)
theorem sc_distance_power : FnScope nm_distance_power pm_distance_power (defScope s_distance_power) := ⟨rfl, rfl, rfl, by decide +kernel, rfl, by decide +kernel, by decide +kernel⟩
theorem bi_distance_power (T : Txt K mg) : Binds K T.distance_power.fd pm_distance_power [] := T.distance_power.F.binds fun _ _ _ _ _ _ us hl => by obtain ⟨_, _, _, rfl⟩ := len3 hl; rfl
theorem ok_distance_power (T : Txt K mg) : FnOk P w K mg base CX0 5 T.distance_power.f T.distance_power.fd pm_distance_power (spF K r_distance_power) := by
  have nd := sc_distance_power.nd
  refine data_F T.distance_power.F sc_distance_power fun cdv A outer s H E hr => ?_
  refine ⟨_, (pss_cons (ps_set (i := 3) nd rfl (Or.inl rfl) (pe_lst pa_nil))
    (pss_cons (ps_for PassesOwn.never rfl (pi_range1 rfl T.range (pa_cons (pe_op (kop_addB (K := K) rfl) (pv 1) pe_int) pa_nil)) (pg_name (i := 4) nd rfl (Or.inl rfl)) (pss_cons (ps_set (i := 5) nd rfl (Or.inl rfl) (pe_ifExp (pt_cmpR (kop_eq (K := K) rfl hr.units) (pe_op op_modA (pv 4) pe_int) pe_int (nomark _)) pe_int (pe_un un_neg pe_int)))
    (pss_one (ps_expr (kpe_app (K := K) rfl (pv 3) (pe_call (ok_multiplied T) (hr.mono (by decide)) rfl T.multiplied.m T.multiplied.F.kp (bi_multiplied T) .nil pass0 (pa_cons (pe_call (ok_multiplied T) (hr.mono (by decide)) rfl T.multiplied.m T.multiplied.F.kp (bi_multiplied T) .nil pass0 (pa_cons (pe_tup (pa_cons (pe_op op_mulA (pv 5) (pe_call (ok_ways T) (hr.mono (by decide)) rfl T.ways.m T.ways.F.kp (bi_ways T) .nil pass0 (pa_cons (pv 1) (pa_cons (pv 4) pa_nil)))) (pa_cons pe_int pa_nil))) (pa_cons (pe_call (ok_powered T) (hr.mono (by decide)) rfl T.powered.m T.powered.F.kp (bi_powered T) .nil pass0 (pa_cons (pv 0) (pa_cons (pe_op op_subA (pv 1) (pv 4)) pa_nil))) pa_nil))) (pa_cons (pv 2) pa_nil))))))))
    (pss_one (ps_ret (pv 3))))), ?_⟩
  exact ((sk_seq (sk_set (gk_lst ak_nil))
    (sk_seq (sk_for (ik_range1 (ak_cons (gk_op od_addB gk_var gk_int) ak_nil)) gt_name ((sk_seq (sk_set (gk_if (tk_test (gk_op od_eq (gk_op od_mod gk_var gk_int) gk_int)) gk_int (gk_un ud_neg gk_int)))
    (sk_app (gk_call (ak_cons (gk_call (ak_cons (gk_tup (ak_cons (gk_op od_mul gk_var (gk_call (ak_cons gk_var (ak_cons gk_var ak_nil)))) (ak_cons gk_int ak_nil))) (ak_cons (gk_call (ak_cons gk_var (ak_cons (gk_op od_sub gk_var gk_var) ak_nil))) ak_nil))) (ak_cons gk_var ak_nil))))) : SOk K _ b_distance_power_1))
    (sk_ret gk_mv))) : SOk K _ b_distance_power)
theorem sc_sum_of : FnScope nm_sum_of pm_sum_of (defScope s_sum_of) := ⟨rfl, rfl, rfl, by decide +kernel, rfl, by decide +kernel, by decide +kernel⟩
theorem bi_sum_of (T : Txt K mg) : Binds K T.sum_of.fd pm_sum_of [] := T.sum_of.F.binds fun _ _ _ _ _ _ us hl => by obtain ⟨_, _, rfl⟩ := len2 hl; rfl
theorem ok_sum_of (T : Txt K mg) : FnOk P w K mg base CX0 4 T.sum_of.f T.sum_of.fd pm_sum_of (spF K r_sum_of) := by
  have nd := sc_sum_of.nd
  refine data_F T.sum_of.F sc_sum_of fun cdv A outer s H E hr => ?_
  refine ⟨_, (pss_cons (ps_set (i := 2) nd rfl (Or.inl rfl) (pe_lst (kpa_star (K := K) rfl (pv 0) (kpa_star (K := K) rfl (pe_lc (own := [("spot", 3)]) rfl nd (pi_range1 rfl T.range (pa_cons (pe_op op_subA (pe_callB (kcr_len (K := K) rfl) (by rfl) T.len (by decide +kernel) (pa_cons (pv 1) pa_nil)) (pe_callB (kcr_len (K := K) rfl) (by rfl) T.len (by decide +kernel) (pa_cons (pv 0) pa_nil))) pa_nil)) (blkOk_by (N := nm_sum_of) (sc := defScope s_sum_of) (by decide +kernel)) (fun _ _ _ _ _ => (pg_name (i := 3) nd rfl (Or.inl rfl))) (fun _ _ _ _ _ => pts_nil) (fun _ _ _ _ _ => (pe_glob rfl T.NOUGHT.m T.NOUGHT.r))) pa_nil))))
    (pss_one (ps_ret (pe_lc (own := [("here", 4), ("there", 5)]) rfl nd (kpi_zipA (K := K) rfl rfl T.zip (pa_cons (pv 2) (pa_cons (pv 1) pa_nil))) (blkOk_by (N := nm_sum_of) (sc := defScope s_sum_of) (by decide +kernel)) (fun _ _ _ _ _ => (kpg_tup (K := K) (n := 2) rfl rfl (pgs_cons (pg_name (i := 4) nd rfl (Or.inl rfl)) (pgs_cons (pg_name (i := 5) nd rfl (Or.inl rfl)) pgs_nil)))) (fun _ _ _ _ _ => pts_nil) (fun _ _ _ _ _ => (pe_call (ok_added T) (hr.mono (by decide)) rfl T.added.m T.added.F.kp (bi_added T) .nil pass0 (pa_cons (pv 4) (pa_cons (pv 5) pa_nil)))))))), ?_⟩
  exact ((sk_seq (sk_set (gk_lst (ak_star gk_var (ak_star (gk_lc (ik_range1 (ak_cons (gk_op od_sub (gk_cb cd_len (ak_cons gk_var ak_nil)) (gk_cb cd_len (ak_cons gk_var ak_nil))) ak_nil)) gt_name tk_yes (gk_c T.NOUGHT.d) (by decide)) ak_nil))))
    (sk_ret (gk_lc (ik_zipA (ak_cons gk_var (ak_cons gk_var ak_nil))) (gt_tup (gts_cons gt_name (gts_cons gt_name gts_nil))) tk_yes (gk_call (ak_cons gk_var (ak_cons gk_var ak_nil))) (by decide)))) : SOk K _ b_sum_of)
theorem sc_piece : FnScope nm_piece pm_piece (defScope s_piece) := ⟨rfl, rfl, rfl, by decide +kernel, rfl, by decide +kernel, by decide +kernel⟩
theorem bi_piece (T : Txt K mg) : Binds K T.piece.fd pm_piece [] := T.piece.F.binds fun _ _ _ _ _ _ us hl => by obtain ⟨_, _, _, _, rfl⟩ := len4 hl; rfl
theorem ok_piece (T : Txt K mg) : FnOk P w K mg base CX0 6 T.piece.f T.piece.fd pm_piece (spF K r_piece) := by
  have nd := sc_piece.nd
  refine data_F T.piece.F sc_piece fun cdv A outer s H E hr => ?_
  refine ⟨_, (pss_cons (ps_setLc (i := 4) (own := [("spot", 11)]) rfl nd rfl rfl (sw_true rfl rfl rfl (by decide +kernel)) (pi_range1 rfl T.range (pa_cons (pe_op (kop_addB (K := K) rfl) (pv 1) pe_int) pa_nil)) (blkOk_by (N := nm_piece) (sc := defScope s_piece) (by decide +kernel)) (fun _ _ _ _ _ => (pg_name (i := 11) nd rfl (Or.inl rfl))) (fun _ _ _ _ _ => pts_nil) (fun _ _ _ _ _ => (pe_glob rfl T.NOUGHT.m T.NOUGHT.r)))
    (pss_cons (ps_for PassesOwn.never rfl (kpi_seq (K := K) rfl (kpe_fld (K := K) rfl (pv 0) rfl)) (kpg_tup (K := K) (n := 2) rfl rfl (pgs_cons (pg_name (i := 5) nd rfl (Or.inl rfl)) (pgs_cons (pg_name (i := 6) nd rfl (Or.inl rfl)) pgs_nil))) (pss_one (ps_if (pt_not (kpt_tru (K := K) rfl (pe_call (ok_is_less T) (hr.mono (by decide)) rfl T.is_less.m T.is_less.F.kp (bi_is_less T) .nil pass0 (pa_cons (pv 5) (pa_cons (pv 3) pa_nil))) (by intro _; rfl))) (pss_one (ps_set (i := 4) nd rfl (Or.inl rfl) (pe_call (ok_sum_of T) (hr.mono (by decide)) rfl T.sum_of.m T.sum_of.F.kp (bi_sum_of T) .nil pass0 (pa_cons (pe_call (ok_distance_power T) (hr.mono (by decide)) rfl T.distance_power.m T.distance_power.F.kp (bi_distance_power T) .nil pass0 (pa_cons (pv 5) (pa_cons (pe_op op_subA (pv 1) pe_int) (pa_cons (pv 6) pa_nil)))) (pa_cons (pv 4) pa_nil))))) pss_nil)))
    (pss_cons (ps_for PassesOwn.never rfl (kpi_seq (K := K) rfl (kpe_fld (K := K) rfl (pv 0) rfl)) (kpg_tup (K := K) (n := 3) rfl rfl (pgs_cons (pg_name (i := 7) nd rfl (Or.inl rfl)) (pgs_cons (pg_name (i := 8) nd rfl (Or.inl rfl)) (pgs_cons (pg_name (i := 9) nd rfl (Or.inl rfl)) pgs_nil)))) (pss_cons (ps_set (i := 10) nd rfl (Or.inl rfl) (pe_call (ok_multiplied T) (hr.mono (by decide)) rfl T.multiplied.m T.multiplied.F.kp (bi_multiplied T) .nil pass0 (pa_cons (pv 9) (pa_cons (pe_tup (pa_cons pe_int (pa_cons (pv 1) pa_nil))) pa_nil))))
    (pss_cons (ps_if (pt_not (kpt_tru (K := K) rfl (pe_call (ok_is_less T) (hr.mono (by decide)) rfl T.is_less.m T.is_less.F.kp (bi_is_less T) .nil pass0 (pa_cons (pv 8) (pa_cons (pv 3) pa_nil))) (by intro _; rfl))) (pss_one (ps_set (i := 4) nd rfl (Or.inl rfl) (pe_call (ok_sum_of T) (hr.mono (by decide)) rfl T.sum_of.m T.sum_of.F.kp (bi_sum_of T) .nil pass0 (pa_cons (pe_call (ok_distance_power T) (hr.mono (by decide)) rfl T.distance_power.m T.distance_power.F.kp (bi_distance_power T) .nil pass0 (pa_cons (pv 8) (pa_cons (pv 1) (pa_cons (pv 10) pa_nil)))) (pa_cons (pv 4) pa_nil))))) pss_nil)
    (pss_one (ps_if (pt_not (kpt_tru (K := K) rfl (pe_call (ok_is_less T) (hr.mono (by decide)) rfl T.is_less.m T.is_less.F.kp (bi_is_less T) .nil pass0 (pa_cons (pv 7) (pa_cons (pv 3) pa_nil))) (by intro _; rfl))) (pss_one (ps_set (i := 4) nd rfl (Or.inl rfl) (pe_call (ok_sum_of T) (hr.mono (by decide)) rfl T.sum_of.m T.sum_of.F.kp (bi_sum_of T) .nil pass0 (pa_cons (pe_call (ok_distance_power T) (hr.mono (by decide)) rfl T.distance_power.m T.distance_power.F.kp (bi_distance_power T) .nil pass0 (pa_cons (pv 7) (pa_cons (pv 1) (pa_cons (pe_call (ok_less_by T) (hr.mono (by decide)) rfl T.less_by.m T.less_by.F.kp (bi_less_by T) .nil pass0 (pa_cons (pe_glob rfl T.NOUGHT.m T.NOUGHT.r) (pa_cons (pv 10) pa_nil))) pa_nil)))) (pa_cons (pv 4) pa_nil))))) pss_nil)))))
    (pss_one (ps_ret (pe_callTy (kcr_tuple (K := K) rfl) (by rfl) T.tuple (by decide +kernel) (pa_cons (pv 4) pa_nil))))))), ?_⟩
  exact ((sk_seq (sk_set (gk_lc (ik_range1 (ak_cons (gk_op od_addB gk_var gk_int) ak_nil)) gt_name tk_yes (gk_c T.NOUGHT.d) (by decide)))
    (sk_seq (sk_for (ik_seq (gk_fld T.Rule rfl gk_var)) (gt_tup (gts_cons gt_name (gts_cons gt_name gts_nil))) ((sk_if (tk_not (tk_truK (gk_call (ak_cons gk_var (ak_cons gk_var ak_nil))))) (sk_set (gk_call (ak_cons (gk_call (ak_cons gk_var (ak_cons (gk_op od_sub gk_var gk_int) (ak_cons gk_var ak_nil)))) (ak_cons gk_var ak_nil)))) sk_next) : SOk K _ b_piece_1))
    (sk_seq (sk_for (ik_seq (gk_fld T.Rule rfl gk_var)) (gt_tup (gts_cons gt_name (gts_cons gt_name (gts_cons gt_name gts_nil)))) ((sk_seq (sk_set (gk_call (ak_cons gk_var (ak_cons (gk_tup (ak_cons gk_int (ak_cons gk_var ak_nil))) ak_nil))))
    (sk_seq (sk_if (tk_not (tk_truK (gk_call (ak_cons gk_var (ak_cons gk_var ak_nil))))) (sk_set (gk_call (ak_cons (gk_call (ak_cons gk_var (ak_cons gk_var (ak_cons gk_var ak_nil)))) (ak_cons gk_var ak_nil)))) sk_next)
    (sk_if (tk_not (tk_truK (gk_call (ak_cons gk_var (ak_cons gk_var ak_nil))))) (sk_set (gk_call (ak_cons (gk_call (ak_cons gk_var (ak_cons gk_var (ak_cons (gk_call (ak_cons (gk_c T.NOUGHT.d) (ak_cons gk_var ak_nil))) ak_nil)))) (ak_cons gk_var ak_nil)))) sk_next))) : SOk K _ b_piece_2))
    (sk_ret (gk_cb cd_tuple (ak_cons gk_var ak_nil)))))) : SOk K _ b_piece)
theorem sc_kernel : FnScope nm_kernel pm_kernel (defScope s_kernel) := ⟨rfl, rfl, rfl, by decide +kernel, rfl, by decide +kernel, by decide +kernel⟩
theorem bi_kernel (T : Txt K mg) : Binds K T.kernel.fd pm_kernel [] := T.kernel.F.binds fun _ _ _ _ _ _ us hl => by obtain ⟨_, _, rfl⟩ := len2 hl; rfl
theorem ok_kernel (T : Txt K mg) : FnOk P w K mg base CX0 7 T.kernel.f T.kernel.fd pm_kernel (spF K r_kernel) := by
  have nd := sc_kernel.nd
  refine data_F T.kernel.F sc_kernel fun cdv A outer s H E hr => ?_
  refine ⟨_, (pss_cons (ps_set (i := 2) nd rfl (Or.inl rfl) (pe_call (ok_knots_of T) (hr.mono (by decide)) rfl T.knots_of.m T.knots_of.F.kp (bi_knots_of T) .nil pass0 (pa_cons (pv 0) pa_nil)))
    (pss_one (ps_ret (pe_callTy (kcr_tuple (K := K) rfl) (by rfl) T.tuple (by decide +kernel) (pa_cons (pe_lc (own := [("start", 3), ("end", 4)]) rfl nd (kpi_zipA (K := K) rfl rfl T.zip (pa_cons (pv 2) (pa_cons (pe_slice (ksl_B (K := K) rfl) (pv 2) (po_some pe_int) po_none) pa_nil))) (blkOk_by (N := nm_kernel) (sc := defScope s_kernel) (by decide +kernel)) (fun _ _ _ _ _ => (kpg_tup (K := K) (n := 2) rfl rfl (pgs_cons (pg_name (i := 3) nd rfl (Or.inl rfl)) (pgs_cons (pg_name (i := 4) nd rfl (Or.inl rfl)) pgs_nil)))) (fun _ _ _ _ _ => pts_nil) (fun _ _ _ _ _ => (pe_tup (pa_cons (pv 3) (pa_cons (pv 4) (pa_cons (pe_call (ok_piece T) (hr.mono (by decide)) rfl T.piece.m T.piece.F.kp (bi_piece T) .nil pass0 (pa_cons (pv 0) (pa_cons (pv 1) (pa_cons (pv 3) (pa_cons (pv 4) pa_nil))))) pa_nil)))))) pa_nil))))), ?_⟩
  exact ((sk_seq (sk_set (gk_call (ak_cons gk_var ak_nil)))
    (sk_ret (gk_cb cd_tuple (ak_cons (gk_lc (ik_zipA (ak_cons gk_var (ak_cons (gk_sl sd_B gk_var (pk_some gk_int) pk_none) ak_nil))) (gt_tup (gts_cons gt_name (gts_cons gt_name gts_nil))) tk_yes (gk_tup (ak_cons gk_var (ak_cons gk_var (ak_cons (gk_call (ak_cons gk_var (ak_cons gk_var (ak_cons gk_var (ak_cons gk_var ak_nil))))) ak_nil)))) (by decide)) ak_nil)))) : SOk K _ b_kernel)
theorem sc_greatest_miss : FnScope nm_greatest_miss pm_greatest_miss (defScope s_greatest_miss) := ⟨rfl, rfl, rfl, by decide +kernel, rfl, by decide +kernel, by decide +kernel⟩
theorem kb_greatest_miss_1 (T : Txt K mg) : KBn K T.greatest_miss.fd pm_greatest_miss 0 ["near", "most", "least", "n", "rule"] (fun us ws => pick [4, 3, 2, 1, 0] (us ++ (ws ++ []))) (fun vs zs => pick [4, 3, 2, 1, 0] (vs ++ (zs ++ []))) :=
  kb_F T.greatest_miss.F 0 _ _ fun _ _ _ _ _ _ us ws h1 h2 => by obtain ⟨rfl⟩ := ln0 h1; obtain ⟨_, _, _, _, _, rfl⟩ := ln5 h2; rfl
theorem ok_greatest_miss (T : Txt K mg) : FnOk P w K mg base CX0 9 T.greatest_miss.f T.greatest_miss.fd pm_greatest_miss (spF K r_greatest_miss) := by
  have nd := sc_greatest_miss.nd
  refine data_F T.greatest_miss.F sc_greatest_miss fun cdv A outer s H E hr => ?_
  refine ⟨_, (pss_cons (ps_set (i := 5) nd rfl (Or.inl rfl) (pe_call (ok_degree T) (hr.mono (by decide)) rfl T.degree.m T.degree.F.kp (bi_degree T) .nil pass0 (pa_cons (pv 0) pa_nil)))
    (pss_cons (ps_if (PW.pt (pw_and (pt_cmpR op_isNotA (pv 5) pe_non (nomark _)) (pw_and1 (pt_cmpR op_lt (pv 5) (pe_op op_subA (pv 1) pe_int) (nomark _))))) (pss_one (ps_ret pe_non)) pss_nil)
    (pss_cons (ps_par3 (i := 6) (j := 7) (l := 8) rfl nd rfl rfl rfl (by decide) (by decide) (by decide) rfl rfl rfl (pa_cons (pe_call (ok_value_of T) (hr.mono (by decide)) rfl T.value_of.m T.value_of.F.kp (bi_value_of T) .nil pass0 (pa_cons (pv 2) pa_nil)) (pa_cons (pe_call (ok_value_of T) (hr.mono (by decide)) rfl T.value_of.m T.value_of.F.kp (bi_value_of T) .nil pass0 (pa_cons (pv 3) pa_nil)) (pa_cons (pe_call (ok_value_of T) (hr.mono (by decide)) rfl T.value_of.m T.value_of.F.kp (bi_value_of T) .nil pass0 (pa_cons (pv 4) pa_nil)) pa_nil))) (by rfl))
    (pss_cons (ps_setLc (i := 9) (own := [("start", 16), ("end", 17), ("powers", 18)]) rfl nd rfl rfl (sw_true rfl rfl rfl (by decide +kernel)) (kpi_seq (K := K) rfl (pe_call (ok_kernel T) (hr.mono (by decide)) rfl T.kernel.m T.kernel.F.kp (bi_kernel T) .nil pass0 (pa_cons (pv 0) (pa_cons (pv 1) pa_nil)))) (blkOk_by (N := nm_greatest_miss) (sc := defScope s_greatest_miss) (by decide +kernel)) (fun _ _ _ _ _ => (kpg_tup (K := K) (n := 3) rfl rfl (pgs_cons (pg_name (i := 16) nd rfl (Or.inl rfl)) (pgs_cons (pg_name (i := 17) nd rfl (Or.inl rfl)) (pgs_cons (pg_name (i := 18) nd rfl (Or.inl rfl)) pgs_nil))))) (fun _ _ _ _ _ => pts_nil) (fun _ _ _ _ _ => (pe_make T.mk_Part (ok_Part_init T) (hr.mono (by decide)) rfl T.Part.mg (bi_Part_init T) .nil pass0 (pa_cons (pv 16) (pa_cons (pv 17) (pa_cons (pv 18) pa_nil))))))
    (pss_cons (ps_set (i := 10) nd rfl (Or.inl rfl) (pe_call (ok_quotient T) (hr.mono (by decide)) rfl T.quotient.m T.quotient.F.kp (bi_quotient T) .nil pass0 (pa_cons (pe_call (ok_less_by T) (hr.mono (by decide)) rfl T.less_by.m T.less_by.F.kp (bi_less_by T) .nil pass0 (pa_cons (pv 7) (pa_cons (pv 6) pa_nil))) (pa_cons (pe_tup (pa_cons (pe_call (ok_product_to T) (hr.mono (by decide)) rfl T.product_to.m T.product_to.F.kp (bi_product_to T) .nil pass0 (pa_cons (pe_op op_subA (pv 1) pe_int) pa_nil)) (pa_cons pe_int pa_nil))) pa_nil))))
    (pss_cons (ps_set (i := 11) nd rfl (Or.inl rfl) (pe_call (ok_multiplied T) (hr.mono (by decide)) rfl T.multiplied.m T.multiplied.F.kp (bi_multiplied T) .nil pass0 (pa_cons (pv 6) (pa_cons (pe_call (ok_quotient T) (hr.mono (by decide)) rfl T.quotient.m T.quotient.F.kp (bi_quotient T) .nil pass0 (pa_cons (pe_call (ok_summed T) (hr.mono (by decide)) rfl T.summed.m T.summed.F.kp (bi_summed T) .nil pass0 (pa_cons (pe_lc (own := [("part", 15)]) rfl nd (kpi_seq (K := K) rfl (pv 9)) (blkOk_by (N := nm_greatest_miss) (sc := defScope s_greatest_miss) (by decide +kernel)) (fun _ _ _ _ _ => (pg_name (i := 15) nd rfl (Or.inl rfl))) (fun _ _ _ _ _ => pts_nil) (fun _ _ _ _ _ => (kpe_fld (K := K) rfl (pv 15) rfl))) pa_nil)) (pa_cons (pe_tup (pa_cons (pe_call (ok_product_to T) (hr.mono (by decide)) rfl T.product_to.m T.product_to.F.kp (bi_product_to T) .nil pass0 (pa_cons (pe_op op_subA (pv 1) pe_int) pa_nil)) (pa_cons pe_int pa_nil))) pa_nil))) pa_nil))))
    (pss_one (ps_while PassesOwn.never (kpt_tru (K := K) rfl pe_bl (by intro _; rfl)) (pss_cons (ps_set (i := 12) nd rfl (Or.inl rfl) (pe_call (ok_added T) (hr.mono (by decide)) rfl T.added.m T.added.F.kp (bi_added T) .nil pass0 (pa_cons (pv 11) (pa_cons (pe_call (ok_multiplied T) (hr.mono (by decide)) rfl T.multiplied.m T.multiplied.F.kp (bi_multiplied T) .nil pass0 (pa_cons (pv 10) (pa_cons (pe_call (ok_summed T) (hr.mono (by decide)) rfl T.summed.m T.summed.F.kp (bi_summed T) .nil pass0 (pa_cons (pe_lc (own := [("part", 15)]) rfl nd (kpi_seq (K := K) rfl (pv 9)) (blkOk_by (N := nm_greatest_miss) (sc := defScope s_greatest_miss) (by decide +kernel)) (fun _ _ _ _ _ => (pg_name (i := 15) nd rfl (Or.inl rfl))) (fun _ _ _ _ _ => pts_nil) (fun _ _ _ _ _ => (kpe_fld (K := K) rfl (pv 15) rfl))) pa_nil)) pa_nil))) pa_nil))))
    (pss_cons (ps_set (i := 13) nd rfl (Or.inl rfl) (pe_call (ok_added T) (hr.mono (by decide)) rfl T.added.m T.added.F.kp (bi_added T) .nil pass0 (pa_cons (pv 11) (pa_cons (pe_call (ok_multiplied T) (hr.mono (by decide)) rfl T.multiplied.m T.multiplied.F.kp (bi_multiplied T) .nil pass0 (pa_cons (pv 10) (pa_cons (pe_call (ok_summed T) (hr.mono (by decide)) rfl T.summed.m T.summed.F.kp (bi_summed T) .nil pass0 (pa_cons (pe_lc (own := [("part", 15)]) rfl nd (kpi_seq (K := K) rfl (pv 9)) (blkOk_by (N := nm_greatest_miss) (sc := defScope s_greatest_miss) (by decide +kernel)) (fun _ _ _ _ _ => (pg_name (i := 15) nd rfl (Or.inl rfl))) (fun _ _ _ _ _ => pts_nil) (fun _ _ _ _ _ => (kpe_fld (K := K) rfl (pv 15) rfl))) pa_nil)) pa_nil))) pa_nil))))
    (pss_cons (ps_if (pt_not (kpt_tru (K := K) rfl (pe_call (ok_is_less T) (hr.mono (by decide)) rfl T.is_less.m T.is_less.F.kp (bi_is_less T) .nil pass0 (pa_cons (pv 8) (pa_cons (pe_call (ok_less_by T) (hr.mono (by decide)) rfl T.less_by.m T.less_by.F.kp (bi_less_by T) .nil pass0 (pa_cons (pv 13) (pa_cons (pv 12) pa_nil))) pa_nil))) (by intro _; rfl))) (pss_one (ps_ret (pe_tup (pa_cons (pv 12) (pa_cons (pv 13) pa_nil))))) pss_nil)
    (pss_cons (ps_set (i := 14) nd rfl (Or.inl rfl) (pe_lst pa_nil))
    (pss_cons (ps_for PassesOwn.never rfl (kpi_seq (K := K) rfl (pv 9)) (pg_name (i := 15) nd rfl (Or.inl rfl)) (pss_one (ps_expr (kpe_bm (K := K) (r := rExtend) rfl PySem.F.plainAttrs_list PySem.F.slot_list_extend PySem.F.type_list_extend mt_extend (pv 14) (pa_cons (pe_meth0 (pv 15) T.Part.cls T.Part_halves.m (ok_Part_halves T) (hr.mono (by decide)) (bi_Part_halves T) .nil pass0) pa_nil)))))
    (pss_one (ps_set (i := 9) nd rfl (Or.inl rfl) (pv 14)))))))))))))))), ?_⟩
  exact ((sk_seq (sk_set (gk_call (ak_cons gk_var ak_nil)))
    (sk_seq (sk_if (tk_and (tk_test (gk_op od_isNot gk_var gk_non)) (tk_test (gk_op od_lt gk_var (gk_op od_sub gk_var gk_int)))) (sk_ret gk_non) sk_next)
    (sk_seq (sk_ypar3 (yk_cons (gk_call (ak_cons gk_var ak_nil)) (yk_cons (gk_call (ak_cons gk_var ak_nil)) (yk_cons (gk_call (ak_cons gk_var ak_nil)) yk_nil))))
    (sk_seq (sk_set (gk_lc (ik_seq (gk_call (ak_cons gk_var (ak_cons gk_var ak_nil)))) (gt_tup (gts_cons gt_name (gts_cons gt_name (gts_cons gt_name gts_nil)))) tk_yes (gk_make T.Part (fun H => .nil) (ak_cons gk_var (ak_cons gk_var (ak_cons gk_var ak_nil)))) (by decide)))
    (sk_seq (sk_set (gk_call (ak_cons (gk_call (ak_cons gk_var (ak_cons gk_var ak_nil))) (ak_cons (gk_tup (ak_cons (gk_call (ak_cons (gk_op od_sub gk_var gk_int) ak_nil)) (ak_cons gk_int ak_nil))) ak_nil))))
    (sk_seq (sk_set (gk_call (ak_cons gk_var (ak_cons (gk_call (ak_cons (gk_call (ak_cons (gk_lc (ik_seq gk_var) gt_name tk_yes (gk_fld T.Part rfl gk_var) (by decide)) ak_nil)) (ak_cons (gk_tup (ak_cons (gk_call (ak_cons (gk_op od_sub gk_var gk_int) ak_nil)) (ak_cons gk_int ak_nil))) ak_nil))) ak_nil))))
    (sk_while (fun _ => 1000) (tk_truK gk_bl) ((sk_seq (sk_set (gk_call (ak_cons gk_var (ak_cons (gk_call (ak_cons gk_var (ak_cons (gk_call (ak_cons (gk_lc (ik_seq gk_var) gt_name tk_yes (gk_fld T.Part rfl gk_var) (by decide)) ak_nil)) ak_nil))) ak_nil))))
    (sk_seq (sk_set (gk_call (ak_cons gk_var (ak_cons (gk_call (ak_cons gk_var (ak_cons (gk_call (ak_cons (gk_lc (ik_seq gk_var) gt_name tk_yes (gk_fld T.Part rfl gk_var) (by decide)) ak_nil)) ak_nil))) ak_nil))))
    (sk_seq (sk_if (tk_not (tk_truK (gk_call (ak_cons gk_var (ak_cons (gk_call (ak_cons gk_var (ak_cons gk_var ak_nil))) ak_nil))))) (sk_ret (gk_tup (ak_cons gk_var (ak_cons gk_var ak_nil)))) sk_next)
    (sk_seq (sk_set (gk_lst ak_nil))
    (sk_seq (sk_for (ik_seq gk_var) gt_name ((sk_drop (gk_mut md_ext (ak_cons (gk_meth (nm := "halves") T.Part (by decide +kernel) (fun _ => .nil) gk_var ak_nil) ak_nil))) : SOk K _ b_greatest_miss_1))
    (sk_set gk_var)))))) : SOk K _ b_greatest_miss_2)))))))) : SOk K _ b_greatest_miss)
theorem sc_differences : FnScope nm_differences pm_differences (defScope s_differences) := ⟨rfl, rfl, rfl, by decide +kernel, rfl, by decide +kernel, by decide +kernel⟩
theorem bi_differences (T : Txt K mg) : Binds K T.differences.fd pm_differences [] := T.differences.F.binds fun _ _ _ _ _ _ us hl => by obtain ⟨_, _, rfl⟩ := len2 hl; rfl
theorem ok_differences (T : Txt K mg) : FnOk P w K mg base CX0 4 T.differences.f T.differences.fd pm_differences (spF K r_differences) := by
  have nd := sc_differences.nd
  refine data_F T.differences.F sc_differences fun cdv A outer s H E hr => ?_
  refine ⟨_, (pss_cons (ps_for PassesOwn.never rfl (pi_range1 rfl T.range (pa_cons (pv 1) pa_nil)) (pg_name (i := 2) nd rfl (Or.inl rfl)) (pss_one (ps_setLc (i := 0) (own := [("here", 3), ("there", 4)]) rfl nd rfl rfl (sw_true rfl rfl rfl (by decide +kernel)) (kpi_zipA (K := K) rfl rfl T.zip (pa_cons (pv 0) (pa_cons (pe_slice (ksl_B (K := K) rfl) (pv 0) (po_some pe_int) po_none) pa_nil))) (blkOk_by (N := nm_differences) (sc := defScope s_differences) (by decide +kernel)) (fun _ _ _ _ _ => (kpg_tup (K := K) (n := 2) rfl rfl (pgs_cons (pg_name (i := 3) nd rfl (Or.inl rfl)) (pgs_cons (pg_name (i := 4) nd rfl (Or.inl rfl)) pgs_nil)))) (fun _ _ _ _ _ => pts_nil) (fun _ _ _ _ _ => (pe_call (ok_less_by T) (hr.mono (by decide)) rfl T.less_by.m T.less_by.F.kp (bi_less_by T) .nil pass0 (pa_cons (pv 4) (pa_cons (pv 3) pa_nil)))))))
    (pss_one (ps_ret (pv 0)))), ?_⟩
  exact ((sk_seq (sk_for (ik_range1 (ak_cons gk_var ak_nil)) gt_name ((sk_set (gk_lc (ik_zipA (ak_cons gk_var (ak_cons (gk_sl sd_B gk_var (pk_some gk_int) pk_none) ak_nil))) (gt_tup (gts_cons gt_name (gts_cons gt_name gts_nil))) tk_yes (gk_call (ak_cons gk_var (ak_cons gk_var ak_nil))) (by decide))) : SOk K _ b_differences_1))
    (sk_ret gk_mv)) : SOk K _ b_differences)
theorem sc_values_of : FnScope nm_values_of pm_values_of (defScope s_values_of) := ⟨rfl, rfl, rfl, by decide +kernel, rfl, by decide +kernel, by decide +kernel⟩
theorem bi_values_of (T : Txt K mg) : Binds K T.values_of.fd pm_values_of [] := T.values_of.F.binds fun _ _ _ _ _ _ us hl => by obtain ⟨_, rfl⟩ := len1 hl; rfl
theorem ok_values_of (T : Txt K mg) : FnOk P w K mg base CX0 3 T.values_of.f T.values_of.fd pm_values_of (spF K r_values_of) := by
  have nd := sc_values_of.nd
  refine data_F T.values_of.F sc_values_of fun cdv A outer s H E hr => ?_
  refine ⟨_, (pss_one (ps_ret (pe_lc (own := [("one", 1)]) rfl nd (kpi_seq (K := K) rfl (pv 0)) (blkOk_by (N := nm_values_of) (sc := defScope s_values_of) (by decide +kernel)) (fun _ _ _ _ _ => (pg_name (i := 1) nd rfl (Or.inl rfl))) (fun _ _ _ _ _ => pts_nil) (fun _ _ _ _ _ => (pe_call (ok_value_of T) (hr.mono (by decide)) rfl T.value_of.m T.value_of.F.kp (bi_value_of T) .nil pass0 (pa_cons (pv 1) pa_nil)))))), ?_⟩
  exact ((sk_ret (gk_lc (ik_seq gk_var) gt_name tk_yes (gk_call (ak_cons gk_var ak_nil)) (by decide))) : SOk K _ b_values_of)
theorem sc_is_kind : FnScope nm_is_kind pm_is_kind (defScope s_is_kind) := ⟨rfl, rfl, rfl, by decide +kernel, rfl, by decide +kernel, by decide +kernel⟩
theorem bi_is_kind (T : Txt K mg) : Binds K T.is_kind.fd pm_is_kind [] := T.is_kind.F.binds fun _ _ _ _ _ _ us hl => by obtain ⟨_, _, rfl⟩ := len2 hl; rfl
theorem kb_is_kind_1 (T : Txt K mg) : KBn K T.is_kind.fd pm_is_kind 0 ["n", "row"] (fun us ws => pick [1, 0] (us ++ (ws ++ []))) (fun vs zs => pick [1, 0] (vs ++ (zs ++ []))) :=
  kb_F T.is_kind.F 0 _ _ fun _ _ _ _ _ _ us ws h1 h2 => by obtain ⟨rfl⟩ := ln0 h1; obtain ⟨_, _, rfl⟩ := ln2 h2; rfl
theorem ok_is_kind (T : Txt K mg) : FnOk P w K mg base CX0 5 T.is_kind.f T.is_kind.fd pm_is_kind (spF K r_is_kind) := by
  have nd := sc_is_kind.nd
  refine data_F T.is_kind.F sc_is_kind fun cdv A outer s H E hr => ?_
  refine ⟨_, (pss_one (ps_ret (pe_not (pe_callB (kcr_any (K := K) rfl rfl) (by rfl) T.any (by decide +kernel) (pa_cons (pe_lc (own := [("one", 2)]) rfl nd (kpi_seq (K := K) rfl (pe_call (ok_differences T) (hr.mono (by decide)) rfl T.differences.m T.differences.F.kp (bi_differences T) .nil pass0 (pa_cons (pe_call (ok_values_of T) (hr.mono (by decide)) rfl T.values_of.m T.values_of.F.kp (bi_values_of T) .nil pass0 (pa_cons (pv 0) pa_nil)) (pa_cons (pv 1) pa_nil)))) (blkOk_by (N := nm_is_kind) (sc := defScope s_is_kind) (by decide +kernel)) (fun _ _ _ _ _ => (pg_name (i := 2) nd rfl (Or.inl rfl))) (fun _ _ _ _ _ => pts_nil) (fun _ _ _ _ _ => (pe_call (ok_is_less T) (hr.mono (by decide)) rfl T.is_less.m T.is_less.F.kp (bi_is_less T) .nil pass0 (pa_cons (pv 2) (pa_cons (pe_glob rfl T.NOUGHT.m T.NOUGHT.r) pa_nil))))) pa_nil))))), ?_⟩
  exact ((sk_ret (gk_vnot (gk_cb cd_any (ak_cons (gk_lc (ik_seq (gk_call (ak_cons (gk_call (ak_cons gk_var ak_nil)) (ak_cons gk_var ak_nil)))) gt_name tk_yes (gk_call (ak_cons gk_var (ak_cons (gk_c T.NOUGHT.d) ak_nil))) (by decide)) ak_nil)))) : SOk K _ b_is_kind)
theorem sc_is_seen : FnScope nm_is_seen pm_is_seen (defScope s_is_seen) := ⟨rfl, rfl, rfl, by decide +kernel, rfl, by decide +kernel, by decide +kernel⟩
theorem bi_is_seen (T : Txt K mg) : Binds K T.is_seen.fd pm_is_seen [] := T.is_seen.F.binds fun _ _ _ _ _ _ us hl => by obtain ⟨_, _, _, rfl⟩ := len3 hl; rfl
theorem ok_is_seen (T : Txt K mg) : FnOk P w K mg base CX0 4 T.is_seen.f T.is_seen.fd pm_is_seen (spF K r_is_seen) := by
  have nd := sc_is_seen.nd
  refine data_F T.is_seen.F sc_is_seen fun cdv A outer s H E hr => ?_
  refine ⟨_, (pss_cons (ps_if (PW.pt (pw_or (pt_not (kpt_tru (K := K) rfl (pe_callB (kcr_isi (K := K) rfl) (by rfl) T.isinstance (by decide +kernel) (pa_cons (pv 0) (pa_cons (pe_bltn (v := .ty "tuple") (u := .type "tuple") (by rfl) T.tuple (by decide +kernel) rfl) pa_nil))) (by intro _; rfl))) (pw_or (pt_cmpR (kop_ne (K := K) rfl hr.units) (pe_callB (kcr_len (K := K) rfl) (by rfl) T.len (by decide +kernel) (pa_cons (pv 0) pa_nil)) pe_int (nomark _)) (pw_or1 (pt_not (kpt_tru (K := K) rfl (pe_call (ok_is_integer T) (hr.mono (by decide)) rfl T.is_integer.m T.is_integer.F.kp (bi_is_integer T) .nil pass0 (pa_cons (pe_ix (kix (K := K) rfl) (pv 0) pe_int (fun _ _ => rfl)) pa_nil)) (by intro _; rfl))))))) (pss_one (ps_ret pe_bl)) pss_nil)
    (pss_one (ps_ret (pe_and (pe_chain op_le op_lt (pv 2) (pe_ix (kix (K := K) rfl) (pv 0) pe_int (fun _ _ => rfl)) (pv 1)) (pe_one (pe_call (ok_is_value T) (hr.mono (by decide)) rfl T.is_value.m T.is_value.F.kp (bi_is_value T) .nil pass0 (pa_cons (pe_ix (kix (K := K) rfl) (pv 0) pe_int (fun _ _ => rfl)) pa_nil))))))), ?_⟩
  exact ((sk_seq (sk_if (tk_or (tk_not (tk_truK (gk_cb cd_isi (ak_cons gk_var (ak_cons (gk_c fun _ => .ty _) ak_nil))))) (tk_or (tk_test (gk_op od_ne (gk_cb cd_len (ak_cons gk_var ak_nil)) gk_int)) (tk_not (tk_truK (gk_call (ak_cons (gk_op od_ix gk_var gk_int) ak_nil)))))) (sk_ret gk_bl) sk_next)
    (sk_ret (gk_vand (gk_chain od_le od_lt gk_var (gk_op od_ix gk_var gk_int) gk_var) (gk_call (ak_cons (gk_op od_ix gk_var gk_int) ak_nil))))) : SOk K _ b_is_seen)
theorem sc_need_seen : FnScope nm_need_seen pm_need_seen (defScope s_need_seen) := ⟨rfl, rfl, rfl, by decide +kernel, rfl, by decide +kernel, by decide +kernel⟩
theorem bi_need_seen (T : Txt K mg) : Binds K T.need_seen.fd pm_need_seen [] := T.need_seen.F.binds fun _ _ _ _ _ _ us hl => by obtain ⟨_, _, rfl⟩ := len2 hl; rfl
theorem ok_need_seen (T : Txt K mg) : FnOk P w K mg base CX0 5 T.need_seen.f T.need_seen.fd pm_need_seen (spF K r_need_seen) := by
  have nd := sc_need_seen.nd
  refine data_F T.need_seen.F sc_need_seen fun cdv A outer s H E hr => ?_
  refine ⟨_, (pss_cons (ps_if (pt_not (kpt_tru (K := K) rfl (pe_call (ok_is_sequence T) (hr.mono (by decide)) rfl T.is_sequence.m T.is_sequence.F.kp (bi_is_sequence T) .nil pass0 (pa_cons (pv 0) pa_nil)) (by intro _; rfl))) (pss_one ps_never) pss_nil)
    (pss_cons (ps_par (i := 2) (j := 3) rfl nd rfl rfl (by decide) rfl rfl (pa_cons (pe_lst pa_nil) (pa_cons pe_int pa_nil)) (by rfl))
    (pss_cons (ps_for PassesOwn.never rfl (kpi_enumA (K := K) rfl rfl T.enumerate (pa_cons (pv 0) pa_nil)) (kpg_tup (K := K) (n := 2) rfl rfl (pgs_cons (pg_name (i := 4) nd rfl (Or.inl rfl)) (pgs_cons (pg_name (i := 5) nd rfl (Or.inl rfl)) pgs_nil))) (pss_cons (ps_if (pt_not (kpt_tru (K := K) rfl (pe_call (ok_is_seen T) (hr.mono (by decide)) rfl T.is_seen.m T.is_seen.F.kp (bi_is_seen T) .nil pass0 (pa_cons (pv 5) (pa_cons (pv 1) (pa_cons (pv 3) pa_nil)))) (by intro _; rfl))) (pss_one ps_never) pss_nil)
    (pss_cons (ps_expr (kpe_app (K := K) rfl (pv 2) (pe_tup (pa_cons (pe_ix (kix (K := K) rfl) (pv 5) pe_int (fun _ _ => rfl)) (pa_cons (pe_call (ok_value_of T) (hr.mono (by decide)) rfl T.value_of.m T.value_of.F.kp (bi_value_of T) .nil pass0 (pa_cons (pe_ix (kix (K := K) rfl) (pv 5) pe_int (fun _ _ => rfl)) pa_nil)) pa_nil)))))
    (pss_one (ps_set (i := 3) nd rfl (Or.inl rfl) (pe_op (kop_addB (K := K) rfl) (pe_ix (kix (K := K) rfl) (pv 5) pe_int (fun _ _ => rfl)) pe_int))))))
    (pss_one (ps_ret (pv 2)))))), ?_⟩
  exact ((sk_seq (sk_if (tk_not (tk_truK (gk_call (ak_cons gk_var ak_nil)))) sk_never sk_next)
    (sk_seq (sk_ypar (yk_cons (gk_lst ak_nil) (yk_cons gk_int yk_nil)))
    (sk_seq (sk_for (ik_enumA (ak_cons gk_var ak_nil)) (gt_tup (gts_cons gt_name (gts_cons gt_name gts_nil))) ((sk_seq (sk_if (tk_not (tk_truK (gk_call (ak_cons gk_var (ak_cons gk_var (ak_cons gk_var ak_nil)))))) sk_never sk_next)
    (sk_seq (sk_app (gk_tup (ak_cons (gk_op od_ix gk_var gk_int) (ak_cons (gk_call (ak_cons (gk_op od_ix gk_var gk_int) ak_nil)) ak_nil))))
    (sk_set (gk_op od_addB (gk_op od_ix gk_var gk_int) gk_int)))) : SOk K _ b_need_seen_1))
    (sk_ret gk_mv)))) : SOk K _ b_need_seen)
theorem sc_Table_init : FnScope nm_Table_init pm_Table_init (defScope s_Table_init) := ⟨rfl, rfl, rfl, by decide +kernel, rfl, by decide +kernel, by decide +kernel⟩
theorem bi_Table_init (T : Txt K mg) : Binds K T.Table_init.fd pm_Table_init [] := T.Table_init.F.binds fun _ _ _ _ _ _ us hl => by obtain ⟨_, _, _, rfl⟩ := len3 hl; rfl
theorem ok_Table_init (T : Txt K mg) : FnOk P w K mg base CX0 4 T.Table_init.f T.Table_init.fd pm_Table_init (spN K T.Table.C r_Table_init) := by
  have nd := sc_Table_init.nd
  refine data_N (T := T.Table) T.Table_init.F sc_Table_init fun cdv A outer s H E hr => ?_
  refine ⟨_, (pss_cons (kps_fld (K := K) rfl (pv 0) (pe_callB (kcr_len (K := K) rfl) (by rfl) T.len (by decide +kernel) (pa_cons (pv 1) pa_nil)) rfl)
    (pss_cons (kps_fld (K := K) rfl (pv 0) (pe_callB (kcr_len (K := K) rfl) (by rfl) T.len (by decide +kernel) (pa_cons (pv 2) pa_nil)) rfl)
    (pss_cons (kps_fld (K := K) rfl (pv 0) (pe_lc (own := [("one", 4)]) rfl nd (kpi_seq (K := K) rfl (pv 2)) (blkOk_by (N := nm_Table_init) (sc := defScope s_Table_init) (by decide +kernel)) (fun _ _ _ _ _ => (pg_name (i := 4) nd rfl (Or.inl rfl))) (fun _ _ _ _ _ => pts_nil) (fun _ _ _ _ _ => (pe_ifExp (kpt_tru (K := K) rfl (pe_call (ok_is_less T) (hr.mono (by decide)) rfl T.is_less.m T.is_less.F.kp (bi_is_less T) .nil pass0 (pa_cons (pv 4) (pa_cons (pe_glob rfl T.NOUGHT.m T.NOUGHT.r) pa_nil))) (by intro _; rfl)) (pe_glob rfl T.MINUS.m T.MINUS.r) (pe_glob rfl T.ONE.m T.ONE.r)))) rfl)
    (pss_cons (kps_fld (K := K) rfl (pv 0) (pe_lst pa_nil) rfl)
    (pss_cons (ps_for PassesOwn.never rfl (kpi_enumA (K := K) rfl rfl T.enumerate (pa_cons (pv 2) pa_nil)) (kpg_tup (K := K) (n := 2) rfl rfl (pgs_cons (pg_name (i := 3) nd rfl (Or.inr rfl)) (pgs_cons (pg_name (i := 4) nd rfl (Or.inl rfl)) pgs_nil))) (pss_cons (ps_setLc (i := 5) (own := [("column", 6)]) rfl nd rfl rfl (sw_true rfl rfl rfl (by decide +kernel)) (kpi_seq (K := K) rfl (pv 1)) (blkOk_by (N := nm_Table_init) (sc := defScope s_Table_init) (by decide +kernel)) (fun _ _ _ _ _ => (pg_name (i := 6) nd rfl (Or.inl rfl))) (fun _ _ _ _ _ => pts_nil) (fun _ _ _ _ _ => (pe_call (ok_multiplied T) (hr.mono (by decide)) rfl T.multiplied.m T.multiplied.F.kp (bi_multiplied T) .nil pass0 (pa_cons (pe_ix (kix (K := K) rfl) (kpe_fld (K := K) rfl (pv 0) rfl) (pv 3) (fun _ _ => rfl)) (pa_cons (pe_ix (kix (K := K) rfl) (pv 6) (pv 3) (fun _ _ => rfl)) pa_nil)))))
    (pss_cons (ps_expr (kpe_bm (K := K) (r := rExtend) rfl PySem.F.plainAttrs_list PySem.F.slot_list_extend PySem.F.type_list_extend mt_extend (pv 5) (pa_cons (pe_lc (own := [("spot", 7)]) rfl nd (pi_range1 rfl T.range (pa_cons (kpe_fld (K := K) rfl (pv 0) rfl) pa_nil)) (blkOk_by (N := nm_Table_init) (sc := defScope s_Table_init) (by decide +kernel)) (fun _ _ _ _ _ => (pg_name (i := 7) nd rfl (Or.inl rfl))) (fun _ _ _ _ _ => pts_nil) (fun _ _ _ _ _ => (pe_ifExp (pt_cmpR (kop_eq (K := K) rfl hr.units) (pv 7) (pv 3) (nomark _)) (pe_glob rfl T.ONE.m T.ONE.r) (pe_glob rfl T.NOUGHT.m T.NOUGHT.r)))) pa_nil)))
    (pss_one (ps_expr (kpe_app (K := K) rfl (kpe_fld (K := K) rfl (pv 0) rfl) (pe_lst (kpa_star (K := K) rfl (pv 5) (pa_cons (pe_call (ok_multiplied T) (hr.mono (by decide)) rfl T.multiplied.m T.multiplied.F.kp (bi_multiplied T) .nil pass0 (pa_cons (pe_ix (kix (K := K) rfl) (kpe_fld (K := K) rfl (pv 0) rfl) (pv 3) (fun _ _ => rfl)) (pa_cons (pv 4) pa_nil))) pa_nil)))))))))
    (pss_one (kps_fld (K := K) rfl (pv 0) (pe_lc (own := [("at", 3)]) rfl nd (pi_range1 rfl T.range (pa_cons (kpe_fld (K := K) rfl (pv 0) rfl) pa_nil)) (blkOk_by (N := nm_Table_init) (sc := defScope s_Table_init) (by decide +kernel)) (fun _ _ _ _ _ => (pg_name (i := 3) nd rfl (Or.inl rfl))) (fun _ _ _ _ _ => pts_nil) (fun _ _ _ _ _ => (pe_op (kop_addB (K := K) rfl) (kpe_fld (K := K) rfl (pv 0) rfl) (pv 3)))) rfl))))))), ?_⟩
  exact ((nk_seq (sk_setf T.Table rfl (gk_cb cd_len (ak_cons gk_var ak_nil)))
    (nk_seq (sk_setf T.Table rfl (gk_cb cd_len (ak_cons gk_var ak_nil)))
    (nk_seq (sk_setf T.Table rfl (gk_lc (ik_seq gk_var) gt_name tk_yes (gk_if (tk_truK (gk_call (ak_cons gk_var (ak_cons (gk_c T.NOUGHT.d) ak_nil)))) (gk_c T.MINUS.d) (gk_c T.ONE.d)) (by decide)))
    (nk_new (T := T.Table) (n := 3) rfl (by decide +kernel) rfl (gk_lst ak_nil)
    (sk_seqV (sk_forV (IOk.v (ik_enumA (ak_cons gk_var ak_nil))) (gt_tup (gts_cons gt_name (gts_cons gt_name gts_nil))) ((sk_seqV (sk_setV (j := 5) (gk_lend9 (T := T.Table) (gk_lc (ik_seq gk_var) gt_name tk_yes (gk_call (ak_cons (gk_op od_ix (gk_fld T.Table rfl gk_var) gk_var) (ak_cons (gk_op od_ix gk_var gk_var) ak_nil))) (by decide))))
    (sk_seqV (sk_dropV (gk_lend9 (T := T.Table) (gk_mut md_ext (ak_cons (gk_lc (ik_range1 (ak_cons (gk_fld T.Table rfl gk_var) ak_nil)) gt_name tk_yes (gk_if (tk_test (gk_op od_eq gk_var gk_var)) (gk_c T.ONE.d) (gk_c T.NOUGHT.d)) (by decide)) ak_nil))))
    (sk_bappV (T := T.Table) (n := 3) rfl (gk_lend9 (T := T.Table) (gk_lst (ak_star gk_var (ak_cons (gk_call (ak_cons (gk_op od_ix (gk_fld T.Table rfl gk_var) gk_var) (ak_cons gk_var ak_nil))) ak_nil))))))) : SOkV K T.Table.C 0 _ b_Table_init_1))
    (sk_newV (T := T.Table) (n := 3) rfl (by decide +kernel) rfl (gk_lend9 (T := T.Table) (gk_lc (ik_range1 (ak_cons (gk_fld T.Table rfl gk_var) ak_nil)) gt_name tk_yes (gk_op od_addB (gk_fld T.Table rfl gk_var) gk_var) (by decide))))))))) : NOk K T.Table.C _ b_Table_init)
theorem sc_Table_turn : FnScope nm_Table_turn pm_Table_turn (defScope s_Table_turn) := ⟨rfl, rfl, rfl, by decide +kernel, rfl, by decide +kernel, by decide +kernel⟩
theorem bi_Table_turn (T : Txt K mg) : Binds K T.Table_turn.fd pm_Table_turn [] := T.Table_turn.F.binds fun _ _ _ _ _ _ us hl => by obtain ⟨_, _, _, rfl⟩ := len3 hl; rfl
theorem ok_Table_turn (T : Txt K mg) : FnOk P w K mg base CX0 4 T.Table_turn.f T.Table_turn.fd pm_Table_turn (spV K T.Table.C r_Table_turn) := by
  have nd := sc_Table_turn.nd
  refine data_V T.Table_turn.F sc_Table_turn fun cdv A outer s H E hr => ?_
  refine ⟨_, (pss_cons (ps_set (i := 3) nd rfl (Or.inr rfl) (pe_ix (kix (K := K) rfl) (pe_ix (kix (K := K) rfl) (kpe_fld (K := K) rfl (pv 0) rfl) (pv 1) (fun _ _ => rfl)) (pv 2) (fun _ _ => rfl)))
    (pss_cons (ps_par (i := 4) (j := 5) rfl nd rfl rfl (by decide) rfl rfl (pa_cons (pe_lc (own := [("one", 9)]) rfl nd (kpi_seq (K := K) rfl (pe_ix (kix (K := K) rfl) (kpe_fld (K := K) rfl (pv 0) rfl) (pv 1) (fun _ _ => rfl))) (blkOk_by (N := nm_Table_turn) (sc := defScope s_Table_turn) (by decide +kernel)) (fun _ _ _ _ _ => (pg_name (i := 9) nd rfl (Or.inl rfl))) (fun _ _ _ _ _ => pts_nil) (fun _ _ _ _ _ => (pe_call (ok_quotient T) (hr.mono (by decide)) rfl T.quotient.m T.quotient.F.kp (bi_quotient T) .nil pass0 (pa_cons (pv 9) (pa_cons (pv 3) pa_nil))))) (pa_cons (pe_lst pa_nil) pa_nil)) (by rfl))
    (pss_cons (ps_for PassesOwn.never rfl (kpi_enumA (K := K) rfl rfl T.enumerate (pa_cons (kpe_fld (K := K) rfl (pv 0) rfl) pa_nil)) (kpg_tup (K := K) (n := 2) rfl rfl (pgs_cons (pg_name (i := 6) nd rfl (Or.inl rfl)) (pgs_cons (pg_name (i := 7) nd rfl (Or.inl rfl)) pgs_nil))) (pss_cons (ps_set (i := 8) nd rfl (Or.inr rfl) (pe_ix (kix (K := K) rfl) (pv 7) (pv 2) (fun _ _ => rfl)))
    (pss_one (ps_if (pt_cmpR (kop_eq (K := K) rfl hr.units) (pv 6) (pv 1) (nomark _)) (pss_one (ps_expr (kpe_app (K := K) rfl (pv 5) (pv 4)))) (pss_one (ps_expr (kpe_app (K := K) rfl (pv 5) (pe_lc (own := [("one", 9), ("other", 10)]) rfl nd (kpi_zipA (K := K) rfl rfl T.zip (pa_cons (pv 7) (pa_cons (pv 4) pa_nil))) (blkOk_by (N := nm_Table_turn) (sc := defScope s_Table_turn) (by decide +kernel)) (fun _ _ _ _ _ => (kpg_tup (K := K) (n := 2) rfl rfl (pgs_cons (pg_name (i := 9) nd rfl (Or.inl rfl)) (pgs_cons (pg_name (i := 10) nd rfl (Or.inl rfl)) pgs_nil)))) (fun _ _ _ _ _ => pts_nil) (fun _ _ _ _ _ => (pe_call (ok_less_by T) (hr.mono (by decide)) rfl T.less_by.m T.less_by.F.kp (bi_less_by T) .nil pass0 (pa_cons (pv 9) (pa_cons (pe_call (ok_multiplied T) (hr.mono (by decide)) rfl T.multiplied.m T.multiplied.F.kp (bi_multiplied T) .nil pass0 (pa_cons (pv 8) (pa_cons (pv 10) pa_nil))) pa_nil))))))))))))
    (pss_cons (kps_fld (K := K) rfl (pv 0) (pv 5) rfl)
    (pss_one (ps_asg (pv 2) (pg_sub (kpe_fld (K := K) rfl (pv 0) rfl) (pv 1) set_list))))))), ?_⟩
  exact ((sk_seqV (sk_setV (j := 3) (gk_vfz (gk_lend9 (T := T.Table) (gk_op od_ix (gk_op od_ix (gk_fld T.Table rfl gk_var) gk_var) gk_var))))
    (sk_seqV (sk_parV (j := 4) (k := 5) (gk_lend9 (T := T.Table) (gk_lc (ik_seq (gk_op od_ix (gk_fld T.Table rfl gk_var) gk_var)) gt_name tk_yes (gk_call (ak_cons gk_var (ak_cons gk_var ak_nil))) (by decide))) (GOk.v (gk_lst ak_nil)))
    (sk_seqV (sk_forV (ik_enumV (gk_vat (T := T.Table) (k := 3) rfl)) (gt_tup (gts_cons gt_name (gts_cons gt_name gts_nil))) ((sk_seqV (sk_setV (j := 8) (gk_vfz (GOk.v (gk_op od_ix gk_var gk_var))))
    (sk_ifV (TOk.v (tk_test (gk_op od_eq gk_var gk_var))) (SOk.v (sk_app gk_var) pin_drop) (SOk.v (sk_app (gk_lc (ik_zipA (ak_cons gk_var (ak_cons gk_var ak_nil))) (gt_tup (gts_cons gt_name (gts_cons gt_name gts_nil))) tk_yes (gk_call (ak_cons gk_var (ak_cons (gk_call (ak_cons gk_var (ak_cons gk_var ak_nil))) ak_nil))) (by decide))) pin_drop))) : SOkV K T.Table.C 0 _ b_Table_turn_1))
    (sk_seqV (sk_fldV (T := T.Table) (k := 3) rfl (GOk.v gk_var))
    (sk_bputV (T := T.Table) (n := 4) rfl (GOk.v gk_var) (GOk.v gk_var)))))) : SOkV K T.Table.C 0 _ b_Table_turn)
theorem sc_Table_clear : FnScope nm_Table_clear pm_Table_clear (defScope s_Table_clear) := ⟨rfl, rfl, rfl, by decide +kernel, rfl, by decide +kernel, by decide +kernel⟩
theorem bi_Table_clear (T : Txt K mg) : Binds K T.Table_clear.fd pm_Table_clear [] := T.Table_clear.F.binds fun _ _ _ _ _ _ us hl => by obtain ⟨_, rfl⟩ := len1 hl; rfl
theorem ok_Table_clear (T : Txt K mg) : FnOk P w K mg base CX0 5 T.Table_clear.f T.Table_clear.fd pm_Table_clear (spV K T.Table.C r_Table_clear) := by
  have nd := sc_Table_clear.nd
  refine data_V T.Table_clear.F sc_Table_clear fun cdv A outer s H E hr => ?_
  refine ⟨_, (pss_one (ps_for PassesOwn.never rfl (pi_range1 rfl T.range (pa_cons (kpe_fld (K := K) rfl (pv 0) rfl) pa_nil)) (pg_name (i := 1) nd rfl (Or.inr rfl)) (pss_one (ps_if (pt_cmpR op_ge (pe_ix (kix (K := K) rfl) (kpe_fld (K := K) rfl (pv 0) rfl) (pv 1) (fun _ _ => rfl)) (kpe_fld (K := K) rfl (pv 0) rfl) (nomark _)) (pss_cons (ps_set (i := 2) nd rfl (Or.inl rfl) (pe_ix (kix (K := K) rfl) (pe_lc (own := [("spot", 3)]) rfl nd (pi_range1 rfl T.range (pa_cons (kpe_fld (K := K) rfl (pv 0) rfl) pa_nil)) (blkOk_by (N := nm_Table_clear) (sc := defScope s_Table_clear) (by decide +kernel)) (fun _ _ _ _ _ => (pg_name (i := 3) nd rfl (Or.inl rfl))) (fun _ _ _ _ _ => (pts_one (pt_cmpR (kop_ne (K := K) rfl hr.units) (pe_ix (kix (K := K) rfl) (pe_ix (kix (K := K) rfl) (kpe_fld (K := K) rfl (pv 0) rfl) (pv 1) (fun _ _ => rfl)) (pv 3) (fun _ _ => rfl)) (pe_glob rfl T.NOUGHT.m T.NOUGHT.r) (nomark _)))) (fun _ _ _ _ _ => (pv 3))) pe_int (fun _ _ => rfl)))
    (pss_one (ps_expr (pe_meth (pv 0) T.Table.cls T.Table_turn.m (ok_Table_turn T) (hr.mono (by decide)) (bi_Table_turn T) .nil pass0 (pa_cons (pv 1) (pa_cons (pv 2) pa_nil)))))) pss_nil)))), ?_⟩
  exact ((sk_forV (ik_rangeV (gk_vat (T := T.Table) (k := 1) rfl)) gt_name ((sk_ifV (tk_lend9 (T := T.Table) (tk_test (gk_op od_ge (gk_op od_ix (gk_fld T.Table rfl gk_var) gk_var) (gk_fld T.Table rfl gk_var)))) (sk_seqV (sk_setV (j := 2) (gk_vfz (gk_lend9 (T := T.Table) (gk_op od_ix (gk_lc (ik_range1 (ak_cons (gk_fld T.Table rfl gk_var) ak_nil)) gt_name (tk_test (gk_op od_ne (gk_op od_ix (gk_op od_ix (gk_fld T.Table rfl gk_var) gk_var) gk_var) (gk_c T.NOUGHT.d))) gk_var (by decide)) gk_int))))
    (sk_dropW (gk_methW (nm := "turn") (T := T.Table) (by decide +kernel) (ak_consV (GOk.v gk_var) (ak_consV (GOk.v gk_var) (AOk.v ak_nil)))))) sk_nextV) : SOkV K T.Table.C 0 _ b_Table_clear_1)) : SOkV K T.Table.C 0 _ b_Table_clear)
theorem sc_Table_costs_left : FnScope nm_Table_costs_left pm_Table_costs_left (defScope s_Table_costs_left) := ⟨rfl, rfl, rfl, by decide +kernel, rfl, by decide +kernel, by decide +kernel⟩
theorem bi_Table_costs_left (T : Txt K mg) : Binds K T.Table_costs_left.fd pm_Table_costs_left [] := T.Table_costs_left.F.binds fun _ _ _ _ _ _ us hl => by obtain ⟨_, _, rfl⟩ := len2 hl; rfl
theorem ok_Table_costs_left (T : Txt K mg) : FnOk P w K mg base CX0 5 T.Table_costs_left.f T.Table_costs_left.fd pm_Table_costs_left (spF K r_Table_costs_left) := by
  have nd := sc_Table_costs_left.nd
  refine data_F T.Table_costs_left.F sc_Table_costs_left fun cdv A outer s H E hr => ?_
  refine ⟨_, (pss_cons (ps_set (i := 2) nd rfl (Or.inl rfl) (pe_lst pa_nil))
    (pss_cons (ps_for PassesOwn.never rfl (pi_range1 rfl T.range (pa_cons (pe_op (kop_addB (K := K) rfl) (kpe_fld (K := K) rfl (pv 0) rfl) (kpe_fld (K := K) rfl (pv 0) rfl)) pa_nil)) (pg_name (i := 3) nd rfl (Or.inr rfl)) (pss_cons (ps_set (i := 4) nd rfl (Or.inl rfl) (pe_call (ok_summed T) (hr.mono (by decide)) rfl T.summed.m T.summed.F.kp (bi_summed T) .nil pass0 (pa_cons (pe_lc (own := [("spot", 5), ("line", 6)]) rfl nd (kpi_zipA (K := K) rfl rfl T.zip (pa_cons (kpe_fld (K := K) rfl (pv 0) rfl) (pa_cons (kpe_fld (K := K) rfl (pv 0) rfl) pa_nil))) (blkOk_by (N := nm_Table_costs_left) (sc := defScope s_Table_costs_left) (by decide +kernel)) (fun _ _ _ _ _ => (kpg_tup (K := K) (n := 2) rfl rfl (pgs_cons (pg_name (i := 5) nd rfl (Or.inl rfl)) (pgs_cons (pg_name (i := 6) nd rfl (Or.inl rfl)) pgs_nil)))) (fun _ _ _ _ _ => pts_nil) (fun _ _ _ _ _ => (pe_call (ok_multiplied T) (hr.mono (by decide)) rfl T.multiplied.m T.multiplied.F.kp (bi_multiplied T) .nil pass0 (pa_cons (pe_ix (kix (K := K) rfl) (pv 1) (pv 5) (fun _ _ => rfl)) (pa_cons (pe_ix (kix (K := K) rfl) (pv 6) (pv 3) (fun _ _ => rfl)) pa_nil))))) pa_nil)))
    (pss_one (ps_expr (kpe_app (K := K) rfl (pv 2) (pe_call (ok_less_by T) (hr.mono (by decide)) rfl T.less_by.m T.less_by.F.kp (bi_less_by T) .nil pass0 (pa_cons (pe_ix (kix (K := K) rfl) (pv 1) (pv 3) (fun _ _ => rfl)) (pa_cons (pv 4) pa_nil))))))))
    (pss_one (ps_ret (pv 2))))), ?_⟩
  exact ((sk_seq (sk_set (gk_lst ak_nil))
    (sk_seq (sk_for (ik_range1 (ak_cons (gk_op od_addB (gk_fld T.Table rfl gk_var) (gk_fld T.Table rfl gk_var)) ak_nil)) gt_name ((sk_seq (sk_set (gk_call (ak_cons (gk_lc (ik_zipA (ak_cons (gk_fld T.Table rfl gk_var) (ak_cons (gk_fld T.Table rfl gk_var) ak_nil))) (gt_tup (gts_cons gt_name (gts_cons gt_name gts_nil))) tk_yes (gk_call (ak_cons (gk_op od_ix gk_var gk_var) (ak_cons (gk_op od_ix gk_var gk_var) ak_nil))) (by decide)) ak_nil)))
    (sk_app (gk_call (ak_cons (gk_op od_ix gk_var gk_var) (ak_cons gk_var ak_nil))))) : SOk K _ b_Table_costs_left_1))
    (sk_ret gk_mv))) : SOk K _ b_Table_costs_left)
theorem sc_Table_counts_of : FnScope nm_Table_counts_of pm_Table_counts_of (defScope s_Table_counts_of) := ⟨rfl, rfl, rfl, by decide +kernel, rfl, by decide +kernel, by decide +kernel⟩
theorem bi_Table_counts_of (T : Txt K mg) : Binds K T.Table_counts_of.fd pm_Table_counts_of [] := T.Table_counts_of.F.binds fun _ _ _ _ _ _ us hl => by obtain ⟨_, _, rfl⟩ := len2 hl; rfl
theorem ok_Table_counts_of (T : Txt K mg) : FnOk P w K mg base CX0 6 T.Table_counts_of.f T.Table_counts_of.fd pm_Table_counts_of (spF K r_Table_counts_of) := by
  have nd := sc_Table_counts_of.nd
  refine data_F T.Table_counts_of.F sc_Table_counts_of fun cdv A outer s H E hr => ?_
  refine ⟨_, (pss_cons (ps_set (i := 2) nd rfl (Or.inl rfl) (pe_slice (ksl_B (K := K) rfl) (pe_meth (pv 0) T.Table.cls T.Table_costs_left.m (ok_Table_costs_left T) (hr.mono (by decide)) (bi_Table_costs_left T) .nil pass0 (pa_cons (pv 1) pa_nil)) (po_some (kpe_fld (K := K) rfl (pv 0) rfl)) po_none))
    (pss_cons (ps_set (i := 3) nd rfl (Or.inl rfl) (pe_slice (ksl_B (K := K) rfl) (pv 1) (po_some (kpe_fld (K := K) rfl (pv 0) rfl)) po_none))
    (pss_one (ps_ret (pe_callTy (kcr_tuple (K := K) rfl) (by rfl) T.tuple (by decide +kernel) (pa_cons (pe_lc (own := [("sign", 4), ("cost", 5), ("one", 6)]) rfl nd (kpi_zip3 (K := K) rfl rfl T.zip (pa_cons (kpe_fld (K := K) rfl (pv 0) rfl) (pa_cons (pv 3) (pa_cons (pv 2) pa_nil)))) (blkOk_by (N := nm_Table_counts_of) (sc := defScope s_Table_counts_of) (by decide +kernel)) (fun _ _ _ _ _ => (kpg_tup (K := K) (n := 3) rfl rfl (pgs_cons (pg_name (i := 4) nd rfl (Or.inl rfl)) (pgs_cons (pg_name (i := 5) nd rfl (Or.inl rfl)) (pgs_cons (pg_name (i := 6) nd rfl (Or.inl rfl)) pgs_nil))))) (fun _ _ _ _ _ => pts_nil) (fun _ _ _ _ _ => (pe_call (ok_multiplied T) (hr.mono (by decide)) rfl T.multiplied.m T.multiplied.F.kp (bi_multiplied T) .nil pass0 (pa_cons (pv 4) (pa_cons (pe_call (ok_less_by T) (hr.mono (by decide)) rfl T.less_by.m T.less_by.F.kp (bi_less_by T) .nil pass0 (pa_cons (pv 5) (pa_cons (pv 6) pa_nil))) pa_nil))))) pa_nil)))))), ?_⟩
  exact ((sk_seq (sk_set (gk_sl sd_B (gk_meth (nm := "costs_left") T.Table (by decide +kernel) (fun _ => .nil) gk_var (ak_cons gk_var ak_nil)) (pk_some (gk_fld T.Table rfl gk_var)) pk_none))
    (sk_seq (sk_set (gk_sl sd_B gk_var (pk_some (gk_fld T.Table rfl gk_var)) pk_none))
    (sk_ret (gk_cb cd_tuple (ak_cons (gk_lc (ik_zip3 (ak_cons (gk_fld T.Table rfl gk_var) (ak_cons gk_var (ak_cons gk_var ak_nil)))) (gt_tup (gts_cons gt_name (gts_cons gt_name (gts_cons gt_name gts_nil)))) tk_yes (gk_call (ak_cons gk_var (ak_cons (gk_call (ak_cons gk_var (ak_cons gk_var ak_nil))) ak_nil))) (by decide)) ak_nil))))) : SOk K _ b_Table_counts_of)
theorem sc_Table_place_for : FnScope nm_Table_place_for pm_Table_place_for (defScope s_Table_place_for) := ⟨rfl, rfl, rfl, by decide +kernel, rfl, by decide +kernel, by decide +kernel⟩
theorem bi_Table_place_for (T : Txt K mg) : Binds K T.Table_place_for.fd pm_Table_place_for [] := T.Table_place_for.F.binds fun _ _ _ _ _ _ us hl => by obtain ⟨_, _, rfl⟩ := len2 hl; rfl
theorem ok_Table_place_for (T : Txt K mg) : FnOk P w K mg base CX0 4 T.Table_place_for.f T.Table_place_for.fd pm_Table_place_for (spF K r_Table_place_for) := by
  have nd := sc_Table_place_for.nd
  refine data_F T.Table_place_for.F sc_Table_place_for fun cdv A outer s H E hr => ?_
  refine ⟨_, (pss_cons (ps_asg (pe_tup (pa_cons pe_non (pa_cons pe_non pa_nil))) (kpg_tup (K := K) (n := 2) rfl rfl (pgs_cons (pg_name (i := 2) nd rfl (Or.inl rfl)) (pgs_cons (pg_name (i := 3) nd rfl (Or.inl rfl)) pgs_nil))))
    (pss_cons (ps_for PassesOwn.never rfl (kpi_enumA (K := K) rfl rfl T.enumerate (pa_cons (kpe_fld (K := K) rfl (pv 0) rfl) pa_nil)) (kpg_tup (K := K) (n := 2) rfl rfl (pgs_cons (pg_name (i := 4) nd rfl (Or.inl rfl)) (pgs_cons (pg_name (i := 5) nd rfl (Or.inl rfl)) pgs_nil))) (pss_one (ps_if (kpt_tru (K := K) rfl (pe_call (ok_is_less T) (hr.mono (by decide)) rfl T.is_less.m T.is_less.F.kp (bi_is_less T) .nil pass0 (pa_cons (pe_glob rfl T.NOUGHT.m T.NOUGHT.r) (pa_cons (pe_ix (kix (K := K) rfl) (pv 5) (pv 1) (fun _ _ => rfl)) pa_nil))) (by intro _; rfl)) (pss_cons (ps_set (i := 6) nd rfl (Or.inl rfl) (pe_call (ok_quotient T) (hr.mono (by decide)) rfl T.quotient.m T.quotient.F.kp (bi_quotient T) .nil pass0 (pa_cons (pe_ix (kix (K := K) rfl) (pv 5) (pe_un un_neg pe_int) (fun _ _ => rfl)) (pa_cons (pe_ix (kix (K := K) rfl) (pv 5) (pv 1) (fun _ _ => rfl)) pa_nil))))
    (pss_cons (ps_set (i := 7) nd rfl (Or.inl rfl) (pe_or (pe_cmpR op_isA (pv 2) pe_non (nomark _)) (pe_one (pe_call (ok_is_less T) (hr.mono (by decide)) rfl T.is_less.m T.is_less.F.kp (bi_is_less T) .nil pass0 (pa_cons (pv 6) (pa_cons (pv 3) pa_nil))))))
    (pss_one (ps_if (PW.pt (pw_or (kpt_tru (K := K) rfl (pv 7) (by intro _; rfl)) (pw_or1 (PW.pt (pw_and (pt_cmpR (kop_eq (K := K) rfl hr.units) (pv 6) (pv 3) (nomark _)) (pw_and1 (pt_cmpR op_lt (pe_ix (kix (K := K) rfl) (kpe_fld (K := K) rfl (pv 0) rfl) (pv 4) (fun _ _ => rfl)) (pe_ix (kix (K := K) rfl) (kpe_fld (K := K) rfl (pv 0) rfl) (pv 2) (fun _ _ => rfl)) (nomark _)))))))) (pss_one (ps_par (i := 2) (j := 3) rfl nd rfl rfl (by decide) rfl rfl (pa_cons (pv 4) (pa_cons (pv 6) pa_nil)) (by rfl))) pss_nil)))) pss_nil)))
    (pss_one (ps_ret (pv 2))))), ?_⟩
  exact ((sk_seq (sk_asg (gk_tup (ak_cons gk_non (ak_cons gk_non ak_nil))) (gt_tup (gts_cons gt_name (gts_cons gt_name gts_nil))))
    (sk_seq (sk_for (ik_enumA (ak_cons (gk_fld T.Table rfl gk_var) ak_nil)) (gt_tup (gts_cons gt_name (gts_cons gt_name gts_nil))) ((sk_if (tk_truK (gk_call (ak_cons (gk_c T.NOUGHT.d) (ak_cons (gk_op od_ix gk_var gk_var) ak_nil)))) (sk_seq (sk_set (gk_call (ak_cons (gk_op od_ix gk_var (gk_un ud_neg gk_int)) (ak_cons (gk_op od_ix gk_var gk_var) ak_nil))))
    (sk_seq (sk_set (gk_vor (gk_op od_is gk_var gk_non) (gk_call (ak_cons gk_var (ak_cons gk_var ak_nil)))))
    (sk_if (tk_or (tk_truK gk_var) (tk_and (tk_test (gk_op od_eq gk_var gk_var)) (tk_test (gk_op od_lt (gk_op od_ix (gk_fld T.Table rfl gk_var) gk_var) (gk_op od_ix (gk_fld T.Table rfl gk_var) gk_var))))) (sk_ypar (yk_cons gk_var (yk_cons gk_var yk_nil))) sk_next))) sk_next) : SOk K _ b_Table_place_for_1))
    (sk_ret gk_mv))) : SOk K _ b_Table_place_for)
theorem sc_Table_lower : FnScope nm_Table_lower pm_Table_lower (defScope s_Table_lower) := ⟨rfl, rfl, rfl, by decide +kernel, rfl, by decide +kernel, by decide +kernel⟩
theorem bi_Table_lower (T : Txt K mg) : Binds K T.Table_lower.fd pm_Table_lower [] := T.Table_lower.F.binds fun _ _ _ _ _ _ us hl => by obtain ⟨_, _, _, rfl⟩ := len3 hl; rfl
theorem ok_Table_lower (T : Txt K mg) : FnOk P w K mg base CX0 6 T.Table_lower.f T.Table_lower.fd pm_Table_lower (spV K T.Table.C r_Table_lower) := by
  have nd := sc_Table_lower.nd
  refine data_V T.Table_lower.F sc_Table_lower fun cdv A outer s H E hr => ?_
  refine ⟨_, (pss_one (ps_while PassesOwn.never (kpt_tru (K := K) rfl pe_bl (by intro _; rfl)) (pss_cons (ps_set (i := 3) nd rfl (Or.inr rfl) (pe_meth (pv 0) T.Table.cls T.Table_costs_left.m (ok_Table_costs_left T) (hr.mono (by decide)) (bi_Table_costs_left T) .nil pass0 (pa_cons (pv 1) pa_nil)))
    (pss_cons (ps_setLc (i := 4) (own := [("at", 6)]) rfl nd rfl rfl (sw_true rfl rfl rfl (by decide +kernel)) (pi_range1 rfl T.range (pa_cons (pv 2) pa_nil)) (blkOk_by (N := nm_Table_lower) (sc := defScope s_Table_lower) (by decide +kernel)) (fun _ _ _ _ _ => (pg_name (i := 6) nd rfl (Or.inl rfl))) (fun _ _ _ _ _ => (pts_one (kpt_tru (K := K) rfl (pe_call (ok_is_less T) (hr.mono (by decide)) rfl T.is_less.m T.is_less.F.kp (bi_is_less T) .nil pass0 (pa_cons (pe_ix (kix (K := K) rfl) (pv 3) (pv 6) (fun _ _ => rfl)) (pa_cons (pe_glob rfl T.NOUGHT.m T.NOUGHT.r) pa_nil))) (by intro _; rfl)))) (fun _ _ _ _ _ => (pv 6)))
    (pss_cons (ps_if (pt_cmpR (kop_eq (K := K) rfl hr.units) (pe_callB (kcr_len (K := K) rfl) (by rfl) T.len (by decide +kernel) (pa_cons (pv 4) pa_nil)) pe_int (nomark _)) (pss_one (ps_ret pe_non)) pss_nil)
    (pss_cons (ps_set (i := 5) nd rfl (Or.inl rfl) (pe_meth (pv 0) T.Table.cls T.Table_place_for.m (ok_Table_place_for T) (hr.mono (by decide)) (bi_Table_place_for T) .nil pass0 (pa_cons (pe_ix (kix (K := K) rfl) (pv 4) pe_int (fun _ _ => rfl)) pa_nil)))
    (pss_cons (ps_if (pt_cmpR op_isA (pv 5) pe_non (nomark _)) (pss_one (ps_ret (pe_ix (kix (K := K) rfl) (pv 4) pe_int (fun _ _ => rfl)))) pss_nil)
    (pss_one (ps_expr (pe_meth (pv 0) T.Table.cls T.Table_turn.m (ok_Table_turn T) (hr.mono (by decide)) (bi_Table_turn T) .nil pass0 (pa_cons (pv 5) (pa_cons (pe_ix (kix (K := K) rfl) (pv 4) pe_int (fun _ _ => rfl)) pa_nil)))))))))))), ?_⟩
  exact ((sk_whileV 1000000 (TOk.v (tk_truK gk_bl)) ((sk_seqV (sk_setV (j := 3) (gk_vfz (gk_lend9 (T := T.Table) (gk_meth (nm := "costs_left") T.Table (by decide +kernel) (fun _ => .nil) gk_var (ak_cons gk_var ak_nil)))))
    (sk_seqV (sk_setV (j := 4) (gk_vfz (GOk.v (gk_lc (ik_range1 (ak_cons gk_var ak_nil)) gt_name (tk_truK (gk_call (ak_cons (gk_op od_ix gk_var gk_var) (ak_cons (gk_c T.NOUGHT.d) ak_nil)))) gk_var (by decide)))))
    (sk_seqV (sk_ifV (TOk.v (tk_test (gk_op od_eq (gk_cb cd_len (ak_cons gk_var ak_nil)) gk_int))) (sk_retV (GOk.v gk_non)) sk_nextV)
    (sk_seqV (sk_setV (j := 5) (gk_vfz (gk_lend9 (T := T.Table) (gk_meth (nm := "place_for") T.Table (by decide +kernel) (fun _ => .nil) gk_var (ak_cons (gk_op od_ix gk_var gk_int) ak_nil)))))
    (sk_seqV (sk_ifV (TOk.v (tk_test (gk_op od_is gk_var gk_non))) (sk_retV (GOk.v (gk_op od_ix gk_var gk_int))) sk_nextV)
    (sk_dropW (gk_methW (nm := "turn") (T := T.Table) (by decide +kernel) (ak_consV (GOk.v gk_var) (ak_consV (GOk.v (gk_op od_ix gk_var gk_int)) (AOk.v ak_nil)))))))))) : SOkV K T.Table.C 0 _ b_Table_lower_1)) : SOkV K T.Table.C 0 _ b_Table_lower)
theorem sc_Table_values_now : FnScope nm_Table_values_now pm_Table_values_now (defScope s_Table_values_now) := ⟨rfl, rfl, rfl, by decide +kernel, rfl, by decide +kernel, by decide +kernel⟩
theorem bi_Table_values_now (T : Txt K mg) : Binds K T.Table_values_now.fd pm_Table_values_now [] := T.Table_values_now.F.binds fun _ _ _ _ _ _ us hl => by obtain ⟨_, rfl⟩ := len1 hl; rfl
theorem ok_Table_values_now (T : Txt K mg) : FnOk P w K mg base CX0 1 T.Table_values_now.f T.Table_values_now.fd pm_Table_values_now (spF K r_Table_values_now) := by
  have nd := sc_Table_values_now.nd
  refine data_F T.Table_values_now.F sc_Table_values_now fun cdv A outer s H E hr => ?_
  refine ⟨_, (pss_cons (ps_set (i := 1) nd rfl (Or.inl rfl) (pe_op op_mulA (pe_lst (pa_cons (pe_glob rfl T.NOUGHT.m T.NOUGHT.r) pa_nil)) (pe_op (kop_addB (K := K) rfl) (kpe_fld (K := K) rfl (pv 0) rfl) (kpe_fld (K := K) rfl (pv 0) rfl))))
    (pss_cons (ps_for PassesOwn.never rfl (kpi_enumA (K := K) rfl rfl T.enumerate (pa_cons (kpe_fld (K := K) rfl (pv 0) rfl) pa_nil)) (kpg_tup (K := K) (n := 2) rfl rfl (pgs_cons (pg_name (i := 2) nd rfl (Or.inl rfl)) (pgs_cons (pg_name (i := 3) nd rfl (Or.inl rfl)) pgs_nil))) (pss_one (ps_asg (pe_ix (kix (K := K) rfl) (pe_ix (kix (K := K) rfl) (kpe_fld (K := K) rfl (pv 0) rfl) (pv 2) (fun _ _ => rfl)) (pe_un un_neg pe_int) (fun _ _ => rfl)) (pg_sub (pv 1) (pv 3) set_list))))
    (pss_one (ps_ret (pe_slice (ksl_B (K := K) rfl) (pv 1) po_none (po_some (kpe_fld (K := K) rfl (pv 0) rfl))))))), ?_⟩
  exact ((sk_seq (sk_set (gk_op od_mul (gk_lst (ak_cons (gk_c T.NOUGHT.d) ak_nil)) (gk_op od_addB (gk_fld T.Table rfl gk_var) (gk_fld T.Table rfl gk_var))))
    (sk_seq (sk_for (ik_enumA (ak_cons (gk_fld T.Table rfl gk_var) ak_nil)) (gt_tup (gts_cons gt_name (gts_cons gt_name gts_nil))) ((sk_put (gk_op od_ix (gk_op od_ix (gk_fld T.Table rfl gk_var) gk_var) (gk_un ud_neg gk_int)) gk_var) : SOk K _ b_Table_values_now_1))
    (sk_ret (gk_sl sd_B gk_var pk_none (pk_some (gk_fld T.Table rfl gk_var)))))) : SOk K _ b_Table_values_now)
theorem sc_Table_way_of : FnScope nm_Table_way_of pm_Table_way_of (defScope s_Table_way_of) := ⟨rfl, rfl, rfl, by decide +kernel, rfl, by decide +kernel, by decide +kernel⟩
theorem bi_Table_way_of (T : Txt K mg) : Binds K T.Table_way_of.fd pm_Table_way_of [] := T.Table_way_of.F.binds fun _ _ _ _ _ _ us hl => by obtain ⟨_, _, rfl⟩ := len2 hl; rfl
theorem ok_Table_way_of (T : Txt K mg) : FnOk P w K mg base CX0 4 T.Table_way_of.f T.Table_way_of.fd pm_Table_way_of (spF K r_Table_way_of) := by
  have nd := sc_Table_way_of.nd
  refine data_F T.Table_way_of.F sc_Table_way_of fun cdv A outer s H E hr => ?_
  refine ⟨_, (pss_cons (ps_set (i := 2) nd rfl (Or.inl rfl) (pe_op op_mulA (pe_lst (pa_cons (pe_glob rfl T.NOUGHT.m T.NOUGHT.r) pa_nil)) (pe_op (kop_addB (K := K) rfl) (kpe_fld (K := K) rfl (pv 0) rfl) (kpe_fld (K := K) rfl (pv 0) rfl))))
    (pss_cons (ps_asg (pe_glob rfl T.ONE.m T.ONE.r) (pg_sub (pv 2) (pv 1) set_list))
    (pss_cons (ps_for PassesOwn.never rfl (kpi_enumA (K := K) rfl rfl T.enumerate (pa_cons (kpe_fld (K := K) rfl (pv 0) rfl) pa_nil)) (kpg_tup (K := K) (n := 2) rfl rfl (pgs_cons (pg_name (i := 3) nd rfl (Or.inl rfl)) (pgs_cons (pg_name (i := 4) nd rfl (Or.inl rfl)) pgs_nil))) (pss_one (ps_asg (pe_call (ok_multiplied T) (hr.mono (by decide)) rfl T.multiplied.m T.multiplied.F.kp (bi_multiplied T) .nil pass0 (pa_cons (pe_glob rfl T.MINUS.m T.MINUS.r) (pa_cons (pe_ix (kix (K := K) rfl) (pe_ix (kix (K := K) rfl) (kpe_fld (K := K) rfl (pv 0) rfl) (pv 3) (fun _ _ => rfl)) (pv 1) (fun _ _ => rfl)) pa_nil))) (pg_sub (pv 2) (pv 4) set_list))))
    (pss_one (ps_ret (pe_slice (ksl_B (K := K) rfl) (pv 2) po_none (po_some (kpe_fld (K := K) rfl (pv 0) rfl)))))))), ?_⟩
  exact ((sk_seq (sk_set (gk_op od_mul (gk_lst (ak_cons (gk_c T.NOUGHT.d) ak_nil)) (gk_op od_addB (gk_fld T.Table rfl gk_var) (gk_fld T.Table rfl gk_var))))
    (sk_seq (sk_put (gk_c T.ONE.d) gk_var)
    (sk_seq (sk_for (ik_enumA (ak_cons (gk_fld T.Table rfl gk_var) ak_nil)) (gt_tup (gts_cons gt_name (gts_cons gt_name gts_nil))) ((sk_put (gk_call (ak_cons (gk_c T.MINUS.d) (ak_cons (gk_op od_ix (gk_op od_ix (gk_fld T.Table rfl gk_var) gk_var) gk_var) ak_nil))) gk_var) : SOk K _ b_Table_way_of_1))
    (sk_ret (gk_sl sd_B gk_var pk_none (pk_some (gk_fld T.Table rfl gk_var))))))) : SOk K _ b_Table_way_of)
theorem sc_row_told : FnScope nm_row_told pm_row_told (defScope s_row_told) := ⟨rfl, rfl, rfl, by decide +kernel, rfl, by decide +kernel, by decide +kernel⟩
theorem bi_row_told (T : Txt K mg) : Binds K T.row_told.fd pm_row_told [] := T.row_told.F.binds fun _ _ _ _ _ _ us hl => by obtain ⟨_, _, rfl⟩ := len2 hl; rfl
theorem kb_row_told_1 (T : Txt K mg) : KBn K T.row_told.fd pm_row_told 0 ["row", "weights"] (fun us ws => pick [1, 0] (us ++ (ws ++ []))) (fun vs zs => pick [1, 0] (vs ++ (zs ++ []))) :=
  kb_F T.row_told.F 0 _ _ fun _ _ _ _ _ _ us ws h1 h2 => by obtain ⟨rfl⟩ := ln0 h1; obtain ⟨_, _, rfl⟩ := ln2 h2; rfl
theorem ok_row_told (T : Txt K mg) : FnOk P w K mg base CX0 5 T.row_told.f T.row_told.fd pm_row_told (spF K r_row_told) := by
  have nd := sc_row_told.nd
  refine data_F T.row_told.F sc_row_told fun cdv A outer s H E hr => ?_
  refine ⟨_, (pss_one (ps_ret (pe_call (ok_summed T) (hr.mono (by decide)) rfl T.summed.m T.summed.F.kp (bi_summed T) .nil pass0 (pa_cons (pe_lc (own := [("weight", 2), ("one", 3)]) rfl nd (kpi_zipA (K := K) rfl rfl T.zip (pa_cons (pe_call (ok_values_of T) (hr.mono (by decide)) rfl T.values_of.m T.values_of.F.kp (bi_values_of T) .nil pass0 (pa_cons (pv 0) pa_nil)) (pa_cons (pe_call (ok_values_of T) (hr.mono (by decide)) rfl T.values_of.m T.values_of.F.kp (bi_values_of T) .nil pass0 (pa_cons (pv 1) pa_nil)) pa_nil))) (blkOk_by (N := nm_row_told) (sc := defScope s_row_told) (by decide +kernel)) (fun _ _ _ _ _ => (kpg_tup (K := K) (n := 2) rfl rfl (pgs_cons (pg_name (i := 2) nd rfl (Or.inl rfl)) (pgs_cons (pg_name (i := 3) nd rfl (Or.inl rfl)) pgs_nil)))) (fun _ _ _ _ _ => pts_nil) (fun _ _ _ _ _ => (pe_call (ok_multiplied T) (hr.mono (by decide)) rfl T.multiplied.m T.multiplied.F.kp (bi_multiplied T) .nil pass0 (pa_cons (pv 2) (pa_cons (pv 3) pa_nil))))) pa_nil)))), ?_⟩
  exact ((sk_ret (gk_call (ak_cons (gk_lc (ik_zipA (ak_cons (gk_call (ak_cons gk_var ak_nil)) (ak_cons (gk_call (ak_cons gk_var ak_nil)) ak_nil))) (gt_tup (gts_cons gt_name (gts_cons gt_name gts_nil))) tk_yes (gk_call (ak_cons gk_var (ak_cons gk_var ak_nil))) (by decide)) ak_nil))) : SOk K _ b_row_told)
theorem sc_unit_row : FnScope nm_unit_row pm_unit_row (defScope s_unit_row) := ⟨rfl, rfl, rfl, by decide +kernel, rfl, by decide +kernel, by decide +kernel⟩
theorem bi_unit_row (T : Txt K mg) : Binds K T.unit_row.fd pm_unit_row [] := T.unit_row.F.binds fun _ _ _ _ _ _ us hl => by obtain ⟨_, _, _, rfl⟩ := len3 hl; rfl
theorem ok_unit_row (T : Txt K mg) : FnOk P w K mg base CX0 3 T.unit_row.f T.unit_row.fd pm_unit_row (spF K r_unit_row) := by
  have nd := sc_unit_row.nd
  refine data_F T.unit_row.F sc_unit_row fun cdv A outer s H E hr => ?_
  refine ⟨_, (pss_cons (ps_if (pt_cmpR (kop_eq (K := K) rfl hr.units) (pv 1) pe_int (nomark _)) (pss_one (ps_ret (pe_lc (own := [("at", 3)]) rfl nd (pi_range1 rfl T.range (pa_cons (pv 0) pa_nil)) (blkOk_by (N := nm_unit_row) (sc := defScope s_unit_row) (by decide +kernel)) (fun _ _ _ _ _ => (pg_name (i := 3) nd rfl (Or.inl rfl))) (fun _ _ _ _ _ => pts_nil) (fun _ _ _ _ _ => (pe_callTy cr_int (by rfl) T.int (by decide +kernel) (pa_cons (pe_cmpR (kop_eq (K := K) rfl hr.units) (pv 3) (pv 2) (nomark _)) pa_nil)))))) pss_nil)
    (pss_one (ps_ret (pe_lc (own := [("at", 3)]) rfl nd (pi_range1 rfl T.range (pa_cons (pv 0) pa_nil)) (blkOk_by (N := nm_unit_row) (sc := defScope s_unit_row) (by decide +kernel)) (fun _ _ _ _ _ => (pg_name (i := 3) nd rfl (Or.inl rfl))) (fun _ _ _ _ _ => pts_nil) (fun _ _ _ _ _ => (pe_call (ok_ways_to_choose T) (hr.mono (by decide)) rfl T.ways_to_choose.m T.ways_to_choose.F.kp (bi_ways_to_choose T) .nil pass0 (pa_cons (pe_op op_subA (pe_op op_subA (pv 3) (pv 2)) pe_int) (pa_cons (pe_op op_subA (pv 1) pe_int) pa_nil)))))))), ?_⟩
  exact ((sk_seq (sk_if (tk_test (gk_op od_eq gk_var gk_int)) (sk_ret (gk_lc (ik_range1 (ak_cons gk_var ak_nil)) gt_name tk_yes (gk_cb cd_int (ak_cons (gk_op od_eq gk_var gk_var) ak_nil)) (by decide))) sk_next)
    (sk_ret (gk_lc (ik_range1 (ak_cons gk_var ak_nil)) gt_name tk_yes (gk_call (ak_cons (gk_op od_sub (gk_op od_sub gk_var gk_var) gk_int) (ak_cons (gk_op od_sub gk_var gk_int) ak_nil))) (by decide)))) : SOk K _ b_unit_row)
theorem sc_factors_of : FnScope nm_factors_of pm_factors_of (defScope s_factors_of) := ⟨rfl, rfl, rfl, by decide +kernel, rfl, by decide +kernel, by decide +kernel⟩
theorem bi_factors_of (T : Txt K mg) : Binds K T.factors_of.fd pm_factors_of [] := T.factors_of.F.binds fun _ _ _ _ _ _ us hl => by obtain ⟨_, _, _, _, rfl⟩ := len4 hl; rfl
theorem ok_factors_of (T : Txt K mg) : FnOk P w K mg base CX0 6 T.factors_of.f T.factors_of.fd pm_factors_of (spF K r_factors_of) := by
  have nd := sc_factors_of.nd
  refine data_F T.factors_of.F sc_factors_of fun cdv A outer s H E hr => ?_
  refine ⟨_, (pss_cons (ps_parO (i := 4) (j := 5) rfl nd rfl rfl (Or.inr rfl) (Or.inr rfl) (pa_cons (pe_callB (kcr_len (K := K) rfl) (by rfl) T.len (by decide +kernel) (pa_cons (pv 0) pa_nil)) (pa_cons (pe_callTy (kcr_list (K := K) rfl) (by rfl) T.list (by decide +kernel) (pa_cons (pe_call (ok_values_of T) (hr.mono (by decide)) rfl T.values_of.m T.values_of.F.kp (bi_values_of T) .nil pass0 (pa_cons (pv 0) pa_nil)) pa_nil)) pa_nil)) (by rfl))
    (pss_cons (ps_for PassesOwn.never rfl (kpi_zipA (K := K) rfl rfl T.zip (pa_cons (pv 2) (pa_cons (pv 3) pa_nil))) (kpg_tup (K := K) (n := 2) rfl rfl (pgs_cons (kpg_tup (K := K) (n := 2) rfl rfl (pgs_cons (pg_name (i := 6) nd rfl (Or.inl rfl)) (pgs_cons (pg_name (i := 7) nd rfl (Or.inl rfl)) pgs_nil))) (pgs_cons (pg_name (i := 8) nd rfl (Or.inl rfl)) pgs_nil))) (pss_one (ps_asg (pe_call (ok_less_by T) (hr.mono (by decide)) rfl T.less_by.m T.less_by.F.kp (bi_less_by T) .nil pass0 (pa_cons (pe_ix (kix (K := K) rfl) (pv 5) (pv 6) (fun _ _ => rfl)) (pa_cons (pv 8) pa_nil))) (pg_sub (pv 5) (pv 6) set_list))))
    (pss_one (ps_ret (pe_callTy (kcr_tuple (K := K) rfl) (by rfl) T.tuple (by decide +kernel) (pa_cons (pe_lc (own := [("k", 9)]) rfl nd (pi_range1 rfl T.range (pa_cons (pe_op op_subA (pv 4) (pv 1)) pa_nil)) (blkOk_by (N := nm_factors_of) (sc := defScope s_factors_of) (by decide +kernel)) (fun _ _ _ _ _ => (pg_name (i := 9) nd rfl (Or.inl rfl))) (fun _ _ _ _ _ => pts_nil) (fun _ _ _ _ _ => (pe_call (ok_row_told T) (hr.mono (by decide)) rfl T.row_told.m T.row_told.F.kp (bi_row_told T) .nil pass0 (pa_cons (pv 5) (pa_cons (pe_call (ok_unit_row T) (hr.mono (by decide)) rfl T.unit_row.m T.unit_row.F.kp (bi_unit_row T) .nil pass0 (pa_cons (pv 4) (pa_cons (pv 1) (pa_cons (pv 9) pa_nil)))) pa_nil))))) pa_nil)))))), ?_⟩
  exact ((sk_seq (sk_ypar (yk_cons (gk_cb cd_len (ak_cons gk_var ak_nil)) (yk_cons (gk_cb cd_list (ak_cons (gk_call (ak_cons gk_var ak_nil)) ak_nil)) yk_nil)))
    (sk_seq (sk_for (ik_zipA (ak_cons gk_var (ak_cons gk_var ak_nil))) (gt_tup (gts_cons (gt_tup (gts_cons gt_name (gts_cons gt_name gts_nil))) (gts_cons gt_name gts_nil))) ((sk_put (gk_call (ak_cons (gk_by (gk_ixv gk_var) (gk_op od_ix gk_var gk_var)) (ak_cons gk_var ak_nil))) gk_var) : SOk K _ b_factors_of_1))
    (sk_ret (gk_cb cd_tuple (ak_cons (gk_lc (ik_range1 (ak_cons (gk_op od_sub gk_var gk_var) ak_nil)) gt_name tk_yes (gk_call (ak_cons gk_var (ak_cons (gk_call (ak_cons gk_var (ak_cons gk_var (ak_cons gk_var ak_nil)))) ak_nil))) (by decide)) ak_nil))))) : SOk K _ b_factors_of)
theorem sc_row_of : FnScope nm_row_of pm_row_of (defScope s_row_of) := ⟨rfl, rfl, rfl, by decide +kernel, rfl, by decide +kernel, by decide +kernel⟩
theorem bi_row_of (T : Txt K mg) : Binds K T.row_of.fd pm_row_of [] := T.row_of.F.binds fun _ _ _ _ _ _ us hl => by obtain ⟨_, _, _, rfl⟩ := len3 hl; rfl
theorem ok_row_of (T : Txt K mg) : FnOk P w K mg base CX0 5 T.row_of.f T.row_of.fd pm_row_of (spF K r_row_of) := by
  have nd := sc_row_of.nd
  refine data_F T.row_of.F sc_row_of fun cdv A outer s H E hr => ?_
  refine ⟨_, (pss_cons (ps_set (i := 3) nd rfl (Or.inl rfl) (pe_lst pa_nil))
    (pss_cons (ps_for PassesOwn.never rfl (pi_range1 rfl T.range (pa_cons (pv 2) pa_nil)) (pg_name (i := 4) nd rfl (Or.inr rfl)) (pss_one (ps_expr (kpe_app (K := K) rfl (pv 3) (pe_call (ok_summed T) (hr.mono (by decide)) rfl T.summed.m T.summed.F.kp (bi_summed T) .nil pass0 (pa_cons (pe_lc (own := [("count", 5), ("unit", 6)]) rfl nd (kpi_zipA (K := K) rfl rfl T.zip (pa_cons (pv 1) (pa_cons (pv 0) pa_nil))) (blkOk_by (N := nm_row_of) (sc := defScope s_row_of) (by decide +kernel)) (fun _ _ _ _ _ => (kpg_tup (K := K) (n := 2) rfl rfl (pgs_cons (pg_name (i := 5) nd rfl (Or.inl rfl)) (pgs_cons (pg_name (i := 6) nd rfl (Or.inl rfl)) pgs_nil)))) (fun _ _ _ _ _ => pts_nil) (fun _ _ _ _ _ => (pe_call (ok_multiplied T) (hr.mono (by decide)) rfl T.multiplied.m T.multiplied.F.kp (bi_multiplied T) .nil pass0 (pa_cons (pv 5) (pa_cons (pe_ix (kix (K := K) rfl) (pv 6) (pv 4) (fun _ _ => rfl)) pa_nil))))) pa_nil))))))
    (pss_one (ps_ret (pe_callTy (kcr_tuple (K := K) rfl) (by rfl) T.tuple (by decide +kernel) (pa_cons (pv 3) pa_nil)))))), ?_⟩
  exact ((sk_seq (sk_set (gk_lst ak_nil))
    (sk_seq (sk_for (ik_range1 (ak_cons gk_var ak_nil)) gt_name ((sk_app (gk_call (ak_cons (gk_lc (ik_zipA (ak_cons gk_var (ak_cons gk_var ak_nil))) (gt_tup (gts_cons gt_name (gts_cons gt_name gts_nil))) tk_yes (gk_call (ak_cons gk_var (ak_cons (gk_op od_ix gk_var gk_var) ak_nil))) (by decide)) ak_nil))) : SOk K _ b_row_of_1))
    (sk_ret (gk_cb cd_tuple (ak_cons gk_var ak_nil))))) : SOk K _ b_row_of)
theorem sc_power_row : FnScope nm_power_row pm_power_row (defScope s_power_row) := ⟨rfl, rfl, rfl, by decide +kernel, rfl, by decide +kernel, by decide +kernel⟩
theorem bi_power_row (T : Txt K mg) : Binds K T.power_row.fd pm_power_row [] := T.power_row.F.binds fun _ _ _ _ _ _ us hl => by obtain ⟨_, _, rfl⟩ := len2 hl; rfl
theorem ok_power_row (T : Txt K mg) : FnOk P w K mg base CX0 3 T.power_row.f T.power_row.fd pm_power_row (spF K r_power_row) := by
  have nd := sc_power_row.nd
  refine data_F T.power_row.F sc_power_row fun cdv A outer s H E hr => ?_
  refine ⟨_, (pss_one (ps_ret (pe_lc (own := [("at", 2)]) rfl nd (pi_range1 rfl T.range (pa_cons (pv 0) pa_nil)) (blkOk_by (N := nm_power_row) (sc := defScope s_power_row) (by decide +kernel)) (fun _ _ _ _ _ => (pg_name (i := 2) nd rfl (Or.inl rfl))) (fun _ _ _ _ _ => pts_nil) (fun _ _ _ _ _ => (pe_call (ok_ways_to_choose T) (hr.mono (by decide)) rfl T.ways_to_choose.m T.ways_to_choose.F.kp (bi_ways_to_choose T) .nil pass0 (pa_cons (pv 2) (pa_cons (pv 1) pa_nil))))))), ?_⟩
  exact ((sk_ret (gk_lc (ik_range1 (ak_cons gk_var ak_nil)) gt_name tk_yes (gk_call (ak_cons gk_var (ak_cons gk_var ak_nil))) (by decide))) : SOk K _ b_power_row)
theorem sc_unit_rows : FnScope nm_unit_rows pm_unit_rows (defScope s_unit_rows) := ⟨rfl, rfl, rfl, by decide +kernel, rfl, by decide +kernel, by decide +kernel⟩
theorem bi_unit_rows (T : Txt K mg) : Binds K T.unit_rows.fd pm_unit_rows [] := T.unit_rows.F.binds fun _ _ _ _ _ _ us hl => by obtain ⟨_, _, rfl⟩ := len2 hl; rfl
theorem ok_unit_rows (T : Txt K mg) : FnOk P w K mg base CX0 4 T.unit_rows.f T.unit_rows.fd pm_unit_rows (spF K r_unit_rows) := by
  have nd := sc_unit_rows.nd
  refine data_F T.unit_rows.F sc_unit_rows fun cdv A outer s H E hr => ?_
  refine ⟨_, (pss_cons (ps_set (i := 2) nd rfl (Or.inl rfl) (pe_lst pa_nil))
    (pss_cons (ps_for PassesOwn.never rfl (pi_range1 rfl T.range (pa_cons (pe_callB (cr_min2 rfl) (by rfl) T.min (by decide +kernel) (pa_cons (pv 1) (pa_cons (pv 0) pa_nil))) pa_nil)) (pg_name (i := 3) nd rfl (Or.inl rfl)) (pss_cons (ps_set (i := 4) nd rfl (Or.inl rfl) (pe_call (ok_values_of T) (hr.mono (by decide)) rfl T.values_of.m T.values_of.F.kp (bi_values_of T) .nil pass0 (pa_cons (pe_call (ok_power_row T) (hr.mono (by decide)) rfl T.power_row.m T.power_row.F.kp (bi_power_row T) .nil pass0 (pa_cons (pv 0) (pa_cons (pv 3) pa_nil))) pa_nil)))
    (pss_one (ps_expr (kpe_bm (K := K) (r := rExtend) rfl PySem.F.plainAttrs_list PySem.F.slot_list_extend PySem.F.type_list_extend mt_extend (pv 2) (pa_cons (pe_lst (pa_cons (pv 4) (pa_cons (pe_lc (own := [("one", 5)]) rfl nd (kpi_seq (K := K) rfl (pv 4)) (blkOk_by (N := nm_unit_rows) (sc := defScope s_unit_rows) (by decide +kernel)) (fun _ _ _ _ _ => (pg_name (i := 5) nd rfl (Or.inl rfl))) (fun _ _ _ _ _ => pts_nil) (fun _ _ _ _ _ => (pe_call (ok_multiplied T) (hr.mono (by decide)) rfl T.multiplied.m T.multiplied.F.kp (bi_multiplied T) .nil pass0 (pa_cons (pe_glob rfl T.MINUS.m T.MINUS.r) (pa_cons (pv 5) pa_nil))))) pa_nil))) pa_nil))))))
    (pss_one (ps_ret (pe_op (kop_addB (K := K) rfl) (pv 2) (pe_lc (own := [("k", 6)]) rfl nd (pi_range1 rfl T.range (pa_cons (pe_op op_subA (pv 0) (pv 1)) pa_nil)) (blkOk_by (N := nm_unit_rows) (sc := defScope s_unit_rows) (by decide +kernel)) (fun _ _ _ _ _ => (pg_name (i := 6) nd rfl (Or.inl rfl))) (fun _ _ _ _ _ => pts_nil) (fun _ _ _ _ _ => (pe_call (ok_values_of T) (hr.mono (by decide)) rfl T.values_of.m T.values_of.F.kp (bi_values_of T) .nil pass0 (pa_cons (pe_call (ok_unit_row T) (hr.mono (by decide)) rfl T.unit_row.m T.unit_row.F.kp (bi_unit_row T) .nil pass0 (pa_cons (pv 0) (pa_cons (pv 1) (pa_cons (pv 6) pa_nil)))) pa_nil))))))))), ?_⟩
  exact ((sk_seq (sk_set (gk_lst ak_nil))
    (sk_seq (sk_for (ik_range1 (ak_cons (gk_cb cd_min2 (ak_cons gk_var (ak_cons gk_var ak_nil))) ak_nil)) gt_name ((sk_seq (sk_set (gk_call (ak_cons (gk_call (ak_cons gk_var (ak_cons gk_var ak_nil))) ak_nil)))
    (sk_drop (gk_mut md_ext (ak_cons (gk_lst (ak_cons gk_var (ak_cons (gk_lc (ik_seq gk_var) gt_name tk_yes (gk_call (ak_cons (gk_c T.MINUS.d) (ak_cons gk_var ak_nil))) (by decide)) ak_nil))) ak_nil)))) : SOk K _ b_unit_rows_1))
    (sk_ret (gk_op od_addB gk_var (gk_lc (ik_range1 (ak_cons (gk_op od_sub gk_var gk_var) ak_nil)) gt_name tk_yes (gk_call (ak_cons (gk_call (ak_cons gk_var (ak_cons gk_var (ak_cons gk_var ak_nil)))) ak_nil)) (by decide)))))) : SOk K _ b_unit_rows)
theorem sc_solved : FnScope nm_solved pm_solved (defScope s_solved) := ⟨rfl, rfl, rfl, by decide +kernel, rfl, by decide +kernel, by decide +kernel⟩
theorem bi_solved (T : Txt K mg) : Binds K T.solved.fd pm_solved [] := T.solved.F.binds fun _ _ _ _ _ _ us hl => by obtain ⟨_, _, _, rfl⟩ := len3 hl; rfl
theorem ok_solved (T : Txt K mg) : FnOk P w K mg base CX0 7 T.solved.f T.solved.fd pm_solved (spF K r_solved) := by
  have nd := sc_solved.nd
  refine data_F T.solved.F sc_solved fun cdv A outer s H E hr => ?_
  refine ⟨_, (pss_cons (ps_set (i := 3) nd rfl (Or.inl rfl) (pe_callB (kcr_len (K := K) rfl) (by rfl) T.len (by decide +kernel) (pa_cons (pv 0) pa_nil)))
    (pss_cons (ps_set (i := 4) nd rfl (Or.inl rfl) (pe_call (ok_unit_rows T) (hr.mono (by decide)) rfl T.unit_rows.m T.unit_rows.F.kp (bi_unit_rows T) .nil pass0 (pa_cons (pv 3) (pa_cons (pv 1) pa_nil))))
    (pss_cons (ps_set (i := 5) nd rfl (Or.inl rfl) (pe_make T.mk_Table (ok_Table_init T) (hr.mono (by decide)) rfl T.Table.mg (bi_Table_init T) .nil pass0 (pa_cons (pe_lc (own := [("unit", 12)]) rfl nd (kpi_seq (K := K) rfl (pv 4)) (blkOk_by (N := nm_solved) (sc := defScope s_solved) (by decide +kernel)) (fun _ _ _ _ _ => (pg_name (i := 12) nd rfl (Or.inr rfl))) (fun _ _ _ _ _ => pts_nil) (fun _ _ _ _ _ => (pe_lc (own := [("place", 13), ("one", 14)]) rfl nd (kpi_seq (K := K) rfl (pv 2)) (blkOk_by (by rfl)) (fun _ _ _ _ _ => (kpg_tup (K := K) (n := 2) rfl rfl (pgs_cons (pg_name (i := 13) nd rfl (Or.inl rfl)) (pgs_cons (pg_name (i := 14) nd rfl (Or.inl rfl)) pgs_nil)))) (fun _ _ _ _ _ => pts_nil) (fun _ _ _ _ _ => (pe_ix (kix (K := K) rfl) (pv 12) (pv 13) (fun _ _ => rfl)))))) (pa_cons (pe_lc (own := [("place", 13), ("one", 14)]) rfl nd (kpi_seq (K := K) rfl (pv 2)) (blkOk_by (N := nm_solved) (sc := defScope s_solved) (by decide +kernel)) (fun _ _ _ _ _ => (kpg_tup (K := K) (n := 2) rfl rfl (pgs_cons (pg_name (i := 13) nd rfl (Or.inl rfl)) (pgs_cons (pg_name (i := 14) nd rfl (Or.inl rfl)) pgs_nil)))) (fun _ _ _ _ _ => pts_nil) (fun _ _ _ _ _ => (pv 14))) pa_nil))))
    (pss_cons (ps_set (i := 6) nd rfl (Or.inl rfl) (pe_op (kop_addB (K := K) rfl) (pe_op op_mulA (pe_lst (pa_cons (pe_glob rfl T.NOUGHT.m T.NOUGHT.r) pa_nil)) (pe_callB (kcr_len (K := K) rfl) (by rfl) T.len (by decide +kernel) (pa_cons (pv 4) pa_nil))) (pe_op op_mulA (pe_lst (pa_cons (pe_glob rfl T.ONE.m T.ONE.r) pa_nil)) (pe_callB (kcr_len (K := K) rfl) (by rfl) T.len (by decide +kernel) (pa_cons (pv 2) pa_nil)))))
    (pss_cons (ps_expr (pe_meth (pv 5) T.Table.cls T.Table_lower.m (ok_Table_lower T) (hr.mono (by decide)) (bi_Table_lower T) .nil pass0 (pa_cons (pv 6) (pa_cons (pe_callB (kcr_len (K := K) rfl) (by rfl) T.len (by decide +kernel) (pa_cons (pv 4) pa_nil)) pa_nil))))
    (pss_cons (ps_set (i := 7) nd rfl (Or.inl rfl) (pe_meth (pv 5) T.Table.cls T.Table_counts_of.m (ok_Table_counts_of T) (hr.mono (by decide)) (bi_Table_counts_of T) .nil pass0 (pa_cons (pv 6) pa_nil)))
    (pss_cons (ps_set (i := 8) nd rfl (Or.inl rfl) (pe_call (ok_summed T) (hr.mono (by decide)) rfl T.summed.m T.summed.F.kp (bi_summed T) .nil pass0 (pa_cons (pe_lc (own := [("count", 15), ("place", 13), ("one", 14)]) rfl nd (kpi_zipA (K := K) rfl rfl T.zip (pa_cons (pv 7) (pa_cons (pv 2) pa_nil))) (blkOk_by (N := nm_solved) (sc := defScope s_solved) (by decide +kernel)) (fun _ _ _ _ _ => (kpg_tup (K := K) (n := 2) rfl rfl (pgs_cons (pg_name (i := 15) nd rfl (Or.inl rfl)) (pgs_cons (kpg_tup (K := K) (n := 2) rfl rfl (pgs_cons (pg_name (i := 13) nd rfl (Or.inl rfl)) (pgs_cons (pg_name (i := 14) nd rfl (Or.inl rfl)) pgs_nil))) pgs_nil)))) (fun _ _ _ _ _ => pts_nil) (fun _ _ _ _ _ => (pe_call (ok_multiplied T) (hr.mono (by decide)) rfl T.multiplied.m T.multiplied.F.kp (bi_multiplied T) .nil pass0 (pa_cons (pv 15) (pa_cons (pv 14) pa_nil))))) pa_nil)))
    (pss_cons (ps_if (pt_cmpR (kop_ne (K := K) rfl hr.units) (pv 8) (pe_glob rfl T.NOUGHT.m T.NOUGHT.r) (nomark _)) (pss_one (ps_ret (pe_tup (pa_cons pe_str (pa_cons (pv 7) (pa_cons (pe_call (ok_factors_of T) (hr.mono (by decide)) rfl T.factors_of.m T.factors_of.F.kp (bi_factors_of T) .nil pass0 (pa_cons (pe_op op_mulA (pe_lst (pa_cons pe_int pa_nil)) (pv 3)) (pa_cons (pv 1) (pa_cons (pv 2) (pa_cons (pv 7) pa_nil))))) pa_nil)))))) pss_nil)
    (pss_cons (ps_expr (pe_meth0 (pv 5) T.Table.cls T.Table_clear.m (ok_Table_clear T) (hr.mono (by decide)) (bi_Table_clear T) .nil pass0))
    (pss_cons (ps_set (i := 9) nd rfl (Or.inl rfl) (pe_op (kop_addB (K := K) rfl) (pe_lc (own := [("unit", 12)]) rfl nd (kpi_seq (K := K) rfl (pv 4)) (blkOk_by (N := nm_solved) (sc := defScope s_solved) (by decide +kernel)) (fun _ _ _ _ _ => (pg_name (i := 12) nd rfl (Or.inl rfl))) (fun _ _ _ _ _ => pts_nil) (fun _ _ _ _ _ => (pe_call (ok_row_told T) (hr.mono (by decide)) rfl T.row_told.m T.row_told.F.kp (bi_row_told T) .nil pass0 (pa_cons (pv 0) (pa_cons (pv 12) pa_nil))))) (pe_op op_mulA (pe_lst (pa_cons (pe_glob rfl T.NOUGHT.m T.NOUGHT.r) pa_nil)) (pe_callB (kcr_len (K := K) rfl) (by rfl) T.len (by decide +kernel) (pa_cons (pv 2) pa_nil)))))
    (pss_cons (ps_set (i := 10) nd rfl (Or.inl rfl) (pe_meth (pv 5) T.Table.cls T.Table_lower.m (ok_Table_lower T) (hr.mono (by decide)) (bi_Table_lower T) .nil pass0 (pa_cons (pv 9) (pa_cons (pe_callB (kcr_len (K := K) rfl) (by rfl) T.len (by decide +kernel) (pa_cons (pv 4) pa_nil)) pa_nil))))
    (pss_cons (ps_set (i := 11) nd rfl (Or.inl rfl) (pe_call (ok_row_of T) (hr.mono (by decide)) rfl T.row_of.m T.row_of.F.kp (bi_row_of T) .nil pass0 (pa_cons (pv 4) (pa_cons (pe_meth0 (pv 5) T.Table.cls T.Table_values_now.m (ok_Table_values_now T) (hr.mono (by decide)) (bi_Table_values_now T) .nil pass0) (pa_cons (pv 3) pa_nil)))))
    (pss_cons (ps_if (pt_cmpR op_isNotA (pv 10) pe_non (nomark _)) (pss_one (ps_ret (pe_tup (pa_cons pe_str (pa_cons (pv 11) (pa_cons (pe_call (ok_row_of T) (hr.mono (by decide)) rfl T.row_of.m T.row_of.F.kp (bi_row_of T) .nil pass0 (pa_cons (pv 4) (pa_cons (pe_meth (pv 5) T.Table.cls T.Table_way_of.m (ok_Table_way_of T) (hr.mono (by decide)) (bi_Table_way_of T) .nil pass0 (pa_cons (pv 10) pa_nil)) (pa_cons (pv 3) pa_nil)))) pa_nil)))))) pss_nil)
    (pss_cons (ps_set (i := 7) nd rfl (Or.inl rfl) (pe_meth (pv 5) T.Table.cls T.Table_counts_of.m (ok_Table_counts_of T) (hr.mono (by decide)) (bi_Table_counts_of T) .nil pass0 (pa_cons (pv 9) pa_nil)))
    (pss_one (ps_ret (pe_tup (pa_cons pe_str (pa_cons (pv 11) (pa_cons (pv 7) (pa_cons (pe_call (ok_factors_of T) (hr.mono (by decide)) rfl T.factors_of.m T.factors_of.F.kp (bi_factors_of T) .nil pass0 (pa_cons (pv 0) (pa_cons (pv 1) (pa_cons (pv 2) (pa_cons (pv 7) pa_nil))))) pa_nil))))))))))))))))))))), ?_⟩
  exact ((sk_seq (sk_set (gk_cb cd_len (ak_cons gk_var ak_nil)))
    (sk_seq (sk_set (gk_call (ak_cons gk_var (ak_cons gk_var ak_nil))))
    (sk_makeV (T := T.Table) (j := 5) (ak_cons (gk_lc (ik_seq gk_var) gt_name tk_yes (gk_lc (ik_seq gk_var) (gt_tup (gts_cons gt_name (gts_cons gt_name gts_nil))) tk_yes (gk_op od_ix gk_var gk_var) (by decide)) (by decide)) (ak_cons (gk_lc (ik_seq gk_var) (gt_tup (gts_cons gt_name (gts_cons gt_name gts_nil))) tk_yes gk_var (by decide)) ak_nil))
    (sk_seqV (sk_setV (j := 6) (gk_vfz (GOk.v (gk_op od_addB (gk_op od_mul (gk_lst (ak_cons (gk_c T.NOUGHT.d) ak_nil)) (gk_cb cd_len (ak_cons gk_var ak_nil))) (gk_op od_mul (gk_lst (ak_cons (gk_c T.ONE.d) ak_nil)) (gk_cb cd_len (ak_cons gk_var ak_nil)))))))
    (sk_seqV (sk_dropW (gk_methW (nm := "lower") (T := T.Table) (by decide +kernel) (ak_consV (GOk.v gk_var) (ak_consV (GOk.v (gk_cb cd_len (ak_cons gk_var ak_nil))) (AOk.v ak_nil)))))
    (sk_seqV (sk_setV (j := 7) (gk_vfz (gk_lend9 (T := T.Table) (gk_meth (nm := "counts_of") T.Table (by decide +kernel) (fun _ => .nil) gk_var (ak_cons gk_var ak_nil)))))
    (sk_seqV (sk_setV (j := 8) (gk_vfz (GOk.v (gk_call (ak_cons (gk_lc (ik_zipA (ak_cons gk_var (ak_cons gk_var ak_nil))) (gt_tup (gts_cons gt_name (gts_cons (gt_tup (gts_cons gt_name (gts_cons gt_name gts_nil))) gts_nil))) tk_yes (gk_call (ak_cons gk_var (ak_cons gk_var ak_nil))) (by decide)) ak_nil)))))
    (sk_seqV (sk_ifV (TOk.v (tk_test (gk_op od_ne gk_var (gk_c T.NOUGHT.d)))) (sk_retV (GOk.v (gk_tup (ak_cons gk_str (ak_cons gk_var (ak_cons (gk_call (ak_cons (gk_op od_mul (gk_lst (ak_cons gk_int ak_nil)) gk_var) (ak_cons gk_var (ak_cons gk_var (ak_cons gk_var ak_nil))))) ak_nil)))))) sk_nextV)
    (sk_seqV (sk_dropW (gk_methW (nm := "clear") (T := T.Table) (by decide +kernel) (AOk.v ak_nil)))
    (sk_seqV (sk_setV (j := 9) (gk_vfz (GOk.v (gk_op od_addB (gk_lc (ik_seq gk_var) gt_name tk_yes (gk_call (ak_cons gk_var (ak_cons gk_var ak_nil))) (by decide)) (gk_op od_mul (gk_lst (ak_cons (gk_c T.NOUGHT.d) ak_nil)) (gk_cb cd_len (ak_cons gk_var ak_nil)))))))
    (sk_seqV (sk_setW (j := 10) (gk_methW (nm := "lower") (T := T.Table) (by decide +kernel) (ak_consV (GOk.v gk_var) (ak_consV (GOk.v (gk_cb cd_len (ak_cons gk_var ak_nil))) (AOk.v ak_nil)))))
    (sk_seqV (sk_setV (j := 11) (gk_vfz (gk_callV (ak_consV (GOk.v gk_var) (ak_consV (gk_lend9 (T := T.Table) (gk_meth (nm := "values_now") T.Table (by decide +kernel) (fun _ => .nil) gk_var ak_nil)) (ak_consV (GOk.v gk_var) (AOk.v ak_nil)))))))
    (sk_seqV (sk_ifV (TOk.v (tk_test (gk_op od_isNot gk_var gk_non))) (sk_retV (gk_tupV (ak_consV (GOk.v gk_str) (ak_consV (GOk.v gk_var) (ak_consV (gk_callV (ak_consV (GOk.v gk_var) (ak_consV (gk_lend9 (T := T.Table) (gk_meth (nm := "way_of") T.Table (by decide +kernel) (fun _ => .nil) gk_var (ak_cons gk_var ak_nil))) (ak_consV (GOk.v gk_var) (AOk.v ak_nil))))) (AOk.v ak_nil)))))) sk_nextV)
    (sk_seqV (sk_setV (j := 7) (gk_vfz (gk_lend9 (T := T.Table) (gk_meth (nm := "counts_of") T.Table (by decide +kernel) (fun _ => .nil) gk_var (ak_cons gk_var ak_nil)))))
    (sk_retV (GOk.v (gk_tup (ak_cons gk_str (ak_cons gk_var (ak_cons gk_var (ak_cons (gk_call (ak_cons gk_var (ak_cons gk_var (ak_cons gk_var (ak_cons gk_var ak_nil))))) ak_nil))))))))))))))))))))) : SOk K _ b_solved)
theorem sc_row_paper : FnScope nm_row_paper pm_row_paper (defScope s_row_paper) := ⟨rfl, rfl, rfl, by decide +kernel, rfl, by decide +kernel, by decide +kernel⟩
theorem bi_row_paper (T : Txt K mg) : Binds K T.row_paper.fd pm_row_paper [] := T.row_paper.F.binds fun _ _ _ _ _ _ us hl => by obtain ⟨_, _, _, rfl⟩ := len3 hl; rfl
theorem kb_row_paper_1 (T : Txt K mg) : KBn K T.row_paper.fd pm_row_paper 0 ["seen", "n", "weights"] (fun us ws => pick [2, 1, 0] (us ++ (ws ++ []))) (fun vs zs => pick [2, 1, 0] (vs ++ (zs ++ []))) :=
  kb_F T.row_paper.F 0 _ _ fun _ _ _ _ _ _ us ws h1 h2 => by obtain ⟨rfl⟩ := ln0 h1; obtain ⟨_, _, _, rfl⟩ := ln3 h2; rfl
theorem ok_row_paper (T : Txt K mg) : FnOk P w K mg base CX0 8 T.row_paper.f T.row_paper.fd pm_row_paper (spF K r_row_paper) := by
  have nd := sc_row_paper.nd
  refine data_F T.row_paper.F sc_row_paper fun cdv A outer s H E hr => ?_
  refine ⟨_, (pss_one (ps_ret (pe_call (ok_solved T) (hr.mono (by decide)) rfl T.solved.m T.solved.F.kp (bi_solved T) .nil pass0 (pa_cons (pv 0) (pa_cons (pv 1) (pa_cons (pe_call (ok_need_seen T) (hr.mono (by decide)) rfl T.need_seen.m T.need_seen.F.kp (bi_need_seen T) .nil pass0 (pa_cons (pv 2) (pa_cons (pe_callB (kcr_len (K := K) rfl) (by rfl) T.len (by decide +kernel) (pa_cons (pv 0) pa_nil)) pa_nil))) pa_nil)))))), ?_⟩
  exact ((sk_ret (gk_call (ak_cons gk_var (ak_cons gk_var (ak_cons (gk_call (ak_cons gk_var (ak_cons (gk_cb cd_len (ak_cons gk_var ak_nil)) ak_nil))) ak_nil))))) : SOk K _ b_row_paper)
theorem sc_row_least : FnScope nm_row_least pm_row_least (defScope s_row_least) := ⟨rfl, rfl, rfl, by decide +kernel, rfl, by decide +kernel, by decide +kernel⟩
theorem bi_row_least (T : Txt K mg) : Binds K T.row_least.fd pm_row_least [] := T.row_least.F.binds fun _ _ _ _ _ _ us hl => by obtain ⟨_, _, _, rfl⟩ := len3 hl; rfl
theorem kb_row_least_1 (T : Txt K mg) : KBn K T.row_least.fd pm_row_least 0 ["seen", "n", "weights"] (fun us ws => pick [2, 1, 0] (us ++ (ws ++ []))) (fun vs zs => pick [2, 1, 0] (vs ++ (zs ++ []))) :=
  kb_F T.row_least.F 0 _ _ fun _ _ _ _ _ _ us ws h1 h2 => by obtain ⟨rfl⟩ := ln0 h1; obtain ⟨_, _, _, rfl⟩ := ln3 h2; rfl
theorem ok_row_least (T : Txt K mg) : FnOk P w K mg base CX0 9 T.row_least.f T.row_least.fd pm_row_least (spF K r_row_least) := by
  have nd := sc_row_least.nd
  refine data_F T.row_least.F sc_row_least fun cdv A outer s H E hr => ?_
  refine ⟨_, (pss_cons (ps_set (i := 3) nd rfl (Or.inl rfl) (pe_call (ok_row_paper T) (hr.mono (by decide)) rfl T.row_paper.m T.row_paper.F.kp (bi_row_paper T) .nil pass0 (pa_cons (pv 0) (pa_cons (pv 1) (pa_cons (pv 2) pa_nil)))))
    (pss_one (ps_ret (pe_ifExp (pt_cmpR (kop_eq (K := K) rfl hr.units) (pe_ix (kix (K := K) rfl) (pv 3) pe_int (fun _ _ => rfl)) pe_str (nomark _)) (pe_call (ok_row_told T) (hr.mono (by decide)) rfl T.row_told.m T.row_told.F.kp (bi_row_told T) .nil pass0 (pa_cons (pv 0) (pa_cons (pe_ix (kix (K := K) rfl) (pv 3) pe_int (fun _ _ => rfl)) pa_nil))) (pe_ix (kix (K := K) rfl) (pv 3) pe_int (fun _ _ => rfl)))))), ?_⟩
  exact ((sk_seq (sk_set (gk_call (ak_cons gk_var (ak_cons gk_var (ak_cons gk_var ak_nil)))))
    (sk_ret (gk_if (tk_test (gk_op od_eq (gk_op od_ix gk_var gk_int) gk_str)) (gk_call (ak_cons gk_var (ak_cons (gk_op od_ix gk_var gk_int) ak_nil))) (gk_op od_ix gk_var gk_int)))) : SOk K _ b_row_least)
theorem sc_row_greatest : FnScope nm_row_greatest pm_row_greatest (defScope s_row_greatest) := ⟨rfl, rfl, rfl, by decide +kernel, rfl, by decide +kernel, by decide +kernel⟩
theorem bi_row_greatest (T : Txt K mg) : Binds K T.row_greatest.fd pm_row_greatest [] := T.row_greatest.F.binds fun _ _ _ _ _ _ us hl => by obtain ⟨_, _, _, rfl⟩ := len3 hl; rfl
theorem kb_row_greatest_1 (T : Txt K mg) : KBn K T.row_greatest.fd pm_row_greatest 0 ["seen", "n", "weights"] (fun us ws => pick [2, 1, 0] (us ++ (ws ++ []))) (fun vs zs => pick [2, 1, 0] (vs ++ (zs ++ []))) :=
  kb_F T.row_greatest.F 0 _ _ fun _ _ _ _ _ _ us ws h1 h2 => by obtain ⟨rfl⟩ := ln0 h1; obtain ⟨_, _, _, rfl⟩ := ln3 h2; rfl
theorem ok_row_greatest (T : Txt K mg) : FnOk P w K mg base CX0 10 T.row_greatest.f T.row_greatest.fd pm_row_greatest (spF K r_row_greatest) := by
  have nd := sc_row_greatest.nd
  refine data_F T.row_greatest.F sc_row_greatest fun cdv A outer s H E hr => ?_
  refine ⟨_, (pss_cons (ps_set (i := 3) nd rfl (Or.inl rfl) (pe_call (ok_row_least T) (hr.mono (by decide)) rfl T.row_least.m T.row_least.F.kp (bi_row_least T) .nil pass0 (pa_cons (pe_lc (own := [("one", 4)]) rfl nd (kpi_seq (K := K) rfl (pe_call (ok_values_of T) (hr.mono (by decide)) rfl T.values_of.m T.values_of.F.kp (bi_values_of T) .nil pass0 (pa_cons (pv 0) pa_nil))) (blkOk_by (N := nm_row_greatest) (sc := defScope s_row_greatest) (by decide +kernel)) (fun _ _ _ _ _ => (pg_name (i := 4) nd rfl (Or.inl rfl))) (fun _ _ _ _ _ => pts_nil) (fun _ _ _ _ _ => (pe_call (ok_multiplied T) (hr.mono (by decide)) rfl T.multiplied.m T.multiplied.F.kp (bi_multiplied T) .nil pass0 (pa_cons (pe_glob rfl T.MINUS.m T.MINUS.r) (pa_cons (pv 4) pa_nil))))) (pa_cons (pv 1) (pa_cons (pv 2) pa_nil)))))
    (pss_one (ps_ret (pe_ifExp (kpt_tru (K := K) rfl (pe_callB (kcr_isi (K := K) rfl) (by rfl) T.isinstance (by decide +kernel) (pa_cons (pv 3) (pa_cons (pe_bltn (v := .ty "str") (u := .type "str") (by rfl) T.str (by decide +kernel) rfl) pa_nil))) (by intro _; rfl)) (pv 3) (pe_call (ok_multiplied T) (hr.mono (by decide)) rfl T.multiplied.m T.multiplied.F.kp (bi_multiplied T) .nil pass0 (pa_cons (pe_glob rfl T.MINUS.m T.MINUS.r) (pa_cons (pv 3) pa_nil))))))), ?_⟩
  exact ((sk_seq (sk_set (gk_call (ak_cons (gk_lc (ik_seq (gk_call (ak_cons gk_var ak_nil))) gt_name tk_yes (gk_call (ak_cons (gk_c T.MINUS.d) (ak_cons gk_var ak_nil))) (by decide)) (ak_cons gk_var (ak_cons gk_var ak_nil)))))
    (sk_ret (gk_if (tk_truK (gk_cb cd_isi (ak_cons gk_var (ak_cons (gk_c fun _ => .ty _) ak_nil)))) gk_var (gk_call (ak_cons (gk_c T.MINUS.d) (ak_cons gk_var ak_nil)))))) : SOk K _ b_row_greatest)
theorem sc_row_kernel : FnScope nm_row_kernel pm_row_kernel (defScope s_row_kernel) := ⟨rfl, rfl, rfl, by decide +kernel, rfl, by decide +kernel, by decide +kernel⟩
theorem bi_row_kernel (T : Txt K mg) : Binds K T.row_kernel.fd pm_row_kernel [] := T.row_kernel.F.binds fun _ _ _ _ _ _ us hl => by obtain ⟨_, _, rfl⟩ := len2 hl; rfl
theorem kb_row_kernel_1 (T : Txt K mg) : KBn K T.row_kernel.fd pm_row_kernel 0 ["n", "weights"] (fun us ws => pick [1, 0] (us ++ (ws ++ []))) (fun vs zs => pick [1, 0] (vs ++ (zs ++ []))) :=
  kb_F T.row_kernel.F 0 _ _ fun _ _ _ _ _ _ us ws h1 h2 => by obtain ⟨rfl⟩ := ln0 h1; obtain ⟨_, _, rfl⟩ := ln2 h2; rfl
theorem ok_row_kernel (T : Txt K mg) : FnOk P w K mg base CX0 6 T.row_kernel.f T.row_kernel.fd pm_row_kernel (spF K r_row_kernel) := by
  have nd := sc_row_kernel.nd
  refine data_F T.row_kernel.F sc_row_kernel fun cdv A outer s H E hr => ?_
  refine ⟨_, (pss_cons (ps_set (i := 2) nd rfl (Or.inr rfl) (pe_callB (kcr_len (K := K) rfl) (by rfl) T.len (by decide +kernel) (pa_cons (pv 0) pa_nil)))
    (pss_one (ps_ret (pe_callTy (kcr_tuple (K := K) rfl) (by rfl) T.tuple (by decide +kernel) (pa_cons (pe_lc (own := [("k", 3)]) rfl nd (pi_range1 rfl T.range (pa_cons (pe_op op_subA (pv 2) (pv 1)) pa_nil)) (blkOk_by (N := nm_row_kernel) (sc := defScope s_row_kernel) (by decide +kernel)) (fun _ _ _ _ _ => (pg_name (i := 3) nd rfl (Or.inl rfl))) (fun _ _ _ _ _ => pts_nil) (fun _ _ _ _ _ => (pe_call (ok_row_told T) (hr.mono (by decide)) rfl T.row_told.m T.row_told.F.kp (bi_row_told T) .nil pass0 (pa_cons (pv 0) (pa_cons (pe_call (ok_unit_row T) (hr.mono (by decide)) rfl T.unit_row.m T.unit_row.F.kp (bi_unit_row T) .nil pass0 (pa_cons (pv 2) (pa_cons (pv 1) (pa_cons (pv 3) pa_nil)))) pa_nil))))) pa_nil))))), ?_⟩
  exact ((sk_seq (sk_set (gk_cb cd_len (ak_cons gk_var ak_nil)))
    (sk_ret (gk_cb cd_tuple (ak_cons (gk_lc (ik_range1 (ak_cons (gk_op od_sub gk_var gk_var) ak_nil)) gt_name tk_yes (gk_call (ak_cons gk_var (ak_cons (gk_call (ak_cons gk_var (ak_cons gk_var (ak_cons gk_var ak_nil)))) ak_nil))) (by decide)) ak_nil)))) : SOk K _ b_row_kernel)
theorem sc_row_refuting : FnScope nm_row_refuting pm_row_refuting (defScope s_row_refuting) := ⟨rfl, rfl, rfl, by decide +kernel, rfl, by decide +kernel, by decide +kernel⟩
theorem bi_row_refuting (T : Txt K mg) : Binds K T.row_refuting.fd pm_row_refuting [] := T.row_refuting.F.binds fun _ _ _ _ _ _ us hl => by obtain ⟨_, _, rfl⟩ := len2 hl; rfl
theorem kb_row_refuting_1 (T : Txt K mg) : KBn K T.row_refuting.fd pm_row_refuting 0 ["n", "weights"] (fun us ws => pick [1, 0] (us ++ (ws ++ []))) (fun vs zs => pick [1, 0] (vs ++ (zs ++ []))) :=
  kb_F T.row_refuting.F 0 _ _ fun _ _ _ _ _ _ us ws h1 h2 => by obtain ⟨rfl⟩ := ln0 h1; obtain ⟨_, _, rfl⟩ := ln2 h2; rfl
theorem ok_row_refuting (T : Txt K mg) : FnOk P w K mg base CX0 7 T.row_refuting.f T.row_refuting.fd pm_row_refuting (spF K r_row_refuting) := by
  have nd := sc_row_refuting.nd
  refine data_F T.row_refuting.F sc_row_refuting fun cdv A outer s H E hr => ?_
  refine ⟨_, (pss_cons (ps_set (i := 2) nd rfl (Or.inl rfl) (pe_callB (kcr_len (K := K) rfl) (by rfl) T.len (by decide +kernel) (pa_cons (pv 0) pa_nil)))
    (pss_cons (ps_for PassesOwn.never rfl (pi_range1 rfl T.range (pa_cons (pe_callB (cr_min2 rfl) (by rfl) T.min (by decide +kernel) (pa_cons (pv 1) (pa_cons (pv 2) pa_nil))) pa_nil)) (pg_name (i := 3) nd rfl (Or.inl rfl)) (pss_cons (ps_set (i := 4) nd rfl (Or.inl rfl) (pe_call (ok_power_row T) (hr.mono (by decide)) rfl T.power_row.m T.power_row.F.kp (bi_power_row T) .nil pass0 (pa_cons (pv 2) (pa_cons (pv 3) pa_nil))))
    (pss_cons (ps_set (i := 5) nd rfl (Or.inl rfl) (pe_call (ok_row_told T) (hr.mono (by decide)) rfl T.row_told.m T.row_told.F.kp (bi_row_told T) .nil pass0 (pa_cons (pv 0) (pa_cons (pv 4) pa_nil))))
    (pss_one (ps_if (pt_cmpR (kop_ne (K := K) rfl hr.units) (pv 5) (pe_glob rfl T.NOUGHT.m T.NOUGHT.r) (nomark _)) (pss_cons (ps_set (i := 6) nd rfl (Or.inr rfl) (pe_ifExp (kpt_tru (K := K) rfl (pe_call (ok_is_less T) (hr.mono (by decide)) rfl T.is_less.m T.is_less.F.kp (bi_is_less T) .nil pass0 (pa_cons (pv 5) (pa_cons (pe_glob rfl T.NOUGHT.m T.NOUGHT.r) pa_nil))) (by intro _; rfl)) pe_int (pe_un un_neg pe_int)))
    (pss_one (ps_ret (pe_callTy (kcr_tuple (K := K) rfl) (by rfl) T.tuple (by decide +kernel) (pa_cons (pe_lc (own := [("one", 8)]) rfl nd (kpi_seq (K := K) rfl (pv 4)) (blkOk_by (N := nm_row_refuting) (sc := defScope s_row_refuting) (by decide +kernel)) (fun _ _ _ _ _ => (pg_name (i := 8) nd rfl (Or.inl rfl))) (fun _ _ _ _ _ => pts_nil) (fun _ _ _ _ _ => (pe_tup (pa_cons (pe_op op_mulA (pv 6) (pv 8)) (pa_cons pe_int pa_nil))))) pa_nil))))) pss_nil)))))
    (pss_cons (ps_for PassesOwn.never rfl (kpi_enumA (K := K) rfl rfl T.enumerate (pa_cons (pe_call (ok_row_kernel T) (hr.mono (by decide)) rfl T.row_kernel.m T.row_kernel.F.kp (bi_row_kernel T) .nil pass0 (pa_cons (pv 0) (pa_cons (pv 1) pa_nil))) pa_nil)) (kpg_tup (K := K) (n := 2) rfl rfl (pgs_cons (pg_name (i := 7) nd rfl (Or.inl rfl)) (pgs_cons (pg_name (i := 8) nd rfl (Or.inl rfl)) pgs_nil))) (pss_one (ps_if (kpt_tru (K := K) rfl (pe_call (ok_is_less T) (hr.mono (by decide)) rfl T.is_less.m T.is_less.F.kp (bi_is_less T) .nil pass0 (pa_cons (pv 8) (pa_cons (pe_glob rfl T.NOUGHT.m T.NOUGHT.r) pa_nil))) (by intro _; rfl)) (pss_one (ps_ret (pe_callTy (kcr_tuple (K := K) rfl) (by rfl) T.tuple (by decide +kernel) (pa_cons (pe_call (ok_values_of T) (hr.mono (by decide)) rfl T.values_of.m T.values_of.F.kp (bi_values_of T) .nil pass0 (pa_cons (pe_call (ok_unit_row T) (hr.mono (by decide)) rfl T.unit_row.m T.unit_row.F.kp (bi_unit_row T) .nil pass0 (pa_cons (pv 2) (pa_cons (pv 1) (pa_cons (pv 7) pa_nil)))) pa_nil)) pa_nil)))) pss_nil)))
    (pss_one (ps_ret pe_non))))), ?_⟩
  exact ((sk_seq (sk_set (gk_cb cd_len (ak_cons gk_var ak_nil)))
    (sk_seq (sk_for (ik_range1 (ak_cons (gk_cb cd_min2 (ak_cons gk_var (ak_cons gk_var ak_nil))) ak_nil)) gt_name ((sk_seq (sk_set (gk_call (ak_cons gk_var (ak_cons gk_var ak_nil))))
    (sk_seq (sk_set (gk_call (ak_cons gk_var (ak_cons gk_var ak_nil))))
    (sk_if (tk_test (gk_op od_ne gk_var (gk_c T.NOUGHT.d))) (sk_seq (sk_set (gk_if (tk_truK (gk_call (ak_cons gk_var (ak_cons (gk_c T.NOUGHT.d) ak_nil)))) gk_int (gk_un ud_neg gk_int)))
    (sk_ret (gk_cb cd_tuple (ak_cons (gk_lc (ik_seq gk_var) gt_name tk_yes (gk_tup (ak_cons (gk_op od_mul gk_var gk_var) (ak_cons gk_int ak_nil))) (by decide)) ak_nil)))) sk_next))) : SOk K _ b_row_refuting_1))
    (sk_seq (sk_for (ik_enumA (ak_cons (gk_call (ak_cons gk_var (ak_cons gk_var ak_nil))) ak_nil)) (gt_tup (gts_cons gt_name (gts_cons gt_name gts_nil))) ((sk_if (tk_truK (gk_call (ak_cons gk_var (ak_cons (gk_c T.NOUGHT.d) ak_nil)))) (sk_ret (gk_cb cd_tuple (ak_cons (gk_call (ak_cons (gk_call (ak_cons gk_var (ak_cons gk_var (ak_cons gk_var ak_nil)))) ak_nil)) ak_nil))) sk_next) : SOk K _ b_row_refuting_2))
    (sk_ret gk_non)))) : SOk K _ b_row_refuting)
theorem sc_row_never_below : FnScope nm_row_never_below pm_row_never_below (defScope s_row_never_below) := ⟨rfl, rfl, rfl, by decide +kernel, rfl, by decide +kernel, by decide +kernel⟩
theorem bi_row_never_below (T : Txt K mg) : Binds K T.row_never_below.fd pm_row_never_below [] := T.row_never_below.F.binds fun _ _ _ _ _ _ us hl => by obtain ⟨_, _, rfl⟩ := len2 hl; rfl
theorem kb_row_never_below_1 (T : Txt K mg) : KBn K T.row_never_below.fd pm_row_never_below 0 ["n", "weights"] (fun us ws => pick [1, 0] (us ++ (ws ++ []))) (fun vs zs => pick [1, 0] (vs ++ (zs ++ []))) :=
  kb_F T.row_never_below.F 0 _ _ fun _ _ _ _ _ _ us ws h1 h2 => by obtain ⟨rfl⟩ := ln0 h1; obtain ⟨_, _, rfl⟩ := ln2 h2; rfl
theorem ok_row_never_below (T : Txt K mg) : FnOk P w K mg base CX0 8 T.row_never_below.f T.row_never_below.fd pm_row_never_below (spF K r_row_never_below) := by
  have nd := sc_row_never_below.nd
  refine data_F T.row_never_below.F sc_row_never_below fun cdv A outer s H E hr => ?_
  refine ⟨_, (pss_one (ps_ret (pe_cmpR op_isA (pe_call (ok_row_refuting T) (hr.mono (by decide)) rfl T.row_refuting.m T.row_refuting.F.kp (bi_row_refuting T) .nil pass0 (pa_cons (pv 0) (pa_cons (pv 1) pa_nil))) pe_non (nomark _)))), ?_⟩
  exact ((sk_ret (gk_op od_is (gk_call (ak_cons gk_var (ak_cons gk_var ak_nil))) gk_non)) : SOk K _ b_row_never_below)
theorem sc_are_values : FnScope nm_are_values pm_are_values (defScope s_are_values) := ⟨rfl, rfl, rfl, by decide +kernel, rfl, by decide +kernel, by decide +kernel⟩
theorem bi_are_values (T : Txt K mg) : Binds K T.are_values.fd pm_are_values [] := T.are_values.F.binds fun _ _ _ _ _ _ us hl => by obtain ⟨_, _, rfl⟩ := len2 hl; rfl
theorem ok_are_values (T : Txt K mg) : FnOk P w K mg base CX0 4 T.are_values.f T.are_values.fd pm_are_values (spF K r_are_values) := by
  have nd := sc_are_values.nd
  refine data_F T.are_values.F sc_are_values fun cdv A outer s H E hr => ?_
  refine ⟨_, (pss_one (ps_ret (pe_and (pe_callB (kcr_isi (K := K) rfl) (by rfl) T.isinstance (by decide +kernel) (pa_cons (pv 0) (pa_cons (pe_bltn (v := .ty "tuple") (u := .type "tuple") (by rfl) T.tuple (by decide +kernel) rfl) pa_nil))) (pe_and (pe_cmpR (kop_eq (K := K) rfl hr.units) (pe_callB (kcr_len (K := K) rfl) (by rfl) T.len (by decide +kernel) (pa_cons (pv 0) pa_nil)) (pv 1) (nomark _)) (pe_one (pe_callB (kcr_all (K := K) rfl rfl) (by rfl) T.all (by decide +kernel) (pa_cons (pe_lc (own := [("one", 2)]) rfl nd (kpi_seq (K := K) rfl (pv 0)) (blkOk_by (N := nm_are_values) (sc := defScope s_are_values) (by decide +kernel)) (fun _ _ _ _ _ => (pg_name (i := 2) nd rfl (Or.inl rfl))) (fun _ _ _ _ _ => pts_nil) (fun _ _ _ _ _ => (pe_call (ok_is_value T) (hr.mono (by decide)) rfl T.is_value.m T.is_value.F.kp (bi_is_value T) .nil pass0 (pa_cons (pv 2) pa_nil)))) pa_nil))))))), ?_⟩
  exact ((sk_ret (gk_vand (gk_cb cd_isi (ak_cons gk_var (ak_cons (gk_c fun _ => .ty _) ak_nil))) (gk_vand (gk_op od_eq (gk_cb cd_len (ak_cons gk_var ak_nil)) gk_var) (gk_cb cd_all (ak_cons (gk_lc (ik_seq gk_var) gt_name tk_yes (gk_call (ak_cons gk_var ak_nil)) (by decide)) ak_nil))))) : SOk K _ b_are_values)
theorem sc_are_counts : FnScope nm_are_counts pm_are_counts (defScope s_are_counts) := ⟨rfl, rfl, rfl, by decide +kernel, rfl, by decide +kernel, by decide +kernel⟩
theorem bi_are_counts (T : Txt K mg) : Binds K T.are_counts.fd pm_are_counts [] := T.are_counts.F.binds fun _ _ _ _ _ _ us hl => by obtain ⟨_, _, _, _, _, rfl⟩ := len5 hl; rfl
theorem ok_are_counts (T : Txt K mg) : FnOk P w K mg base CX0 5 T.are_counts.f T.are_counts.fd pm_are_counts (spF K r_are_counts) := by
  have nd := sc_are_counts.nd
  refine data_F T.are_counts.F sc_are_counts fun cdv A outer s H E hr => ?_
  refine ⟨_, (pss_cons (ps_set (i := 5) nd rfl (Or.inl rfl) (pe_callB (kcr_len (K := K) rfl) (by rfl) T.len (by decide +kernel) (pa_cons (pv 2) pa_nil)))
    (pss_cons (ps_if (PW.pt (pw_or (pt_not (kpt_tru (K := K) rfl (pe_call (ok_are_values T) (hr.mono (by decide)) rfl T.are_values.m T.are_values.F.kp (bi_are_values T) .nil pass0 (pa_cons (pv 0) (pa_cons (pe_callB (kcr_len (K := K) rfl) (by rfl) T.len (by decide +kernel) (pa_cons (pv 4) pa_nil)) pa_nil))) (by intro _; rfl))) (pw_or1 (pt_not (kpt_tru (K := K) rfl (pe_call (ok_are_values T) (hr.mono (by decide)) rfl T.are_values.m T.are_values.F.kp (bi_are_values T) .nil pass0 (pa_cons (pv 1) (pa_cons (pe_callB (cr_max2 rfl) (by rfl) T.max (by decide +kernel) (pa_cons pe_int (pa_cons (pe_op op_subA (pv 5) (pv 3)) pa_nil))) pa_nil))) (by intro _; rfl)))))) (pss_one (ps_ret pe_bl)) pss_nil)
    (pss_cons (ps_if (kpt_tru (K := K) rfl (pe_callB (kcr_any (K := K) rfl rfl) (by rfl) T.any (by decide +kernel) (pa_cons (pe_lc (own := [("one", 10)]) rfl nd (kpi_seq (K := K) rfl (pv 1)) (blkOk_by (N := nm_are_counts) (sc := defScope s_are_counts) (by decide +kernel)) (fun _ _ _ _ _ => (pg_name (i := 10) nd rfl (Or.inl rfl))) (fun _ _ _ _ _ => pts_nil) (fun _ _ _ _ _ => (pe_call (ok_is_less T) (hr.mono (by decide)) rfl T.is_less.m T.is_less.F.kp (bi_is_less T) .nil pass0 (pa_cons (pe_call (ok_value_of T) (hr.mono (by decide)) rfl T.value_of.m T.value_of.F.kp (bi_value_of T) .nil pass0 (pa_cons (pv 10) pa_nil)) (pa_cons (pe_glob rfl T.NOUGHT.m T.NOUGHT.r) pa_nil))))) pa_nil)) (by intro _; rfl)) (pss_one (ps_ret pe_bl)) pss_nil)
    (pss_cons (ps_for PassesOwn.never rfl (pi_range1 rfl T.range (pa_cons (pv 5) pa_nil)) (pg_name (i := 6) nd rfl (Or.inr rfl)) (pss_cons (ps_set (i := 7) nd rfl (Or.inr rfl) (pe_lc (own := [("at", 11)]) rfl nd (pi_range1 rfl T.range (pa_cons (pv 5) pa_nil)) (blkOk_by (N := nm_are_counts) (sc := defScope s_are_counts) (by decide +kernel)) (fun _ _ _ _ _ => (pg_name (i := 11) nd rfl (Or.inl rfl))) (fun _ _ _ _ _ => pts_nil) (fun _ _ _ _ _ => (pe_callTy cr_int (by rfl) T.int (by decide +kernel) (pa_cons (pe_cmpR (kop_eq (K := K) rfl hr.units) (pv 11) (pv 6) (nomark _)) pa_nil)))))
    (pss_cons (ps_setLc (i := 8) (own := [("count", 12), ("place", 13), ("one", 10)]) rfl nd rfl rfl (sw_true rfl rfl rfl (by decide +kernel)) (kpi_zipA (K := K) rfl rfl T.zip (pa_cons (pv 0) (pa_cons (pv 4) pa_nil))) (blkOk_by (N := nm_are_counts) (sc := defScope s_are_counts) (by decide +kernel)) (fun _ _ _ _ _ => (kpg_tup (K := K) (n := 2) rfl rfl (pgs_cons (pg_name (i := 12) nd rfl (Or.inl rfl)) (pgs_cons (kpg_tup (K := K) (n := 2) rfl rfl (pgs_cons (pg_name (i := 13) nd rfl (Or.inl rfl)) (pgs_cons (pg_name (i := 10) nd rfl (Or.inl rfl)) pgs_nil))) pgs_nil)))) (fun _ _ _ _ _ => pts_nil) (fun _ _ _ _ _ => (pe_call (ok_multiplied T) (hr.mono (by decide)) rfl T.multiplied.m T.multiplied.F.kp (bi_multiplied T) .nil pass0 (pa_cons (pe_call (ok_value_of T) (hr.mono (by decide)) rfl T.value_of.m T.value_of.F.kp (bi_value_of T) .nil pass0 (pa_cons (pv 12) pa_nil)) (pa_cons (pe_call (ok_value_of T) (hr.mono (by decide)) rfl T.value_of.m T.value_of.F.kp (bi_value_of T) .nil pass0 (pa_cons (pe_ix (kix (K := K) rfl) (pv 7) (pv 13) (fun _ _ => rfl)) pa_nil)) pa_nil)))))
    (pss_cons (ps_set (i := 9) nd rfl (Or.inl rfl) (pe_call (ok_differences T) (hr.mono (by decide)) rfl T.differences.m T.differences.F.kp (bi_differences T) .nil pass0 (pa_cons (pe_call (ok_values_of T) (hr.mono (by decide)) rfl T.values_of.m T.values_of.F.kp (bi_values_of T) .nil pass0 (pa_cons (pv 7) pa_nil)) (pa_cons (pv 3) pa_nil))))
    (pss_cons (ps_expr (kpe_bm (K := K) (r := rExtend) rfl PySem.F.plainAttrs_list PySem.F.slot_list_extend PySem.F.type_list_extend mt_extend (pv 8) (pa_cons (pe_lc (own := [("factor", 14), ("move", 15)]) rfl nd (kpi_zipA (K := K) rfl rfl T.zip (pa_cons (pv 1) (pa_cons (pv 9) pa_nil))) (blkOk_by (N := nm_are_counts) (sc := defScope s_are_counts) (by decide +kernel)) (fun _ _ _ _ _ => (kpg_tup (K := K) (n := 2) rfl rfl (pgs_cons (pg_name (i := 14) nd rfl (Or.inl rfl)) (pgs_cons (pg_name (i := 15) nd rfl (Or.inl rfl)) pgs_nil)))) (fun _ _ _ _ _ => pts_nil) (fun _ _ _ _ _ => (pe_call (ok_multiplied T) (hr.mono (by decide)) rfl T.multiplied.m T.multiplied.F.kp (bi_multiplied T) .nil pass0 (pa_cons (pe_call (ok_value_of T) (hr.mono (by decide)) rfl T.value_of.m T.value_of.F.kp (bi_value_of T) .nil pass0 (pa_cons (pv 14) pa_nil)) (pa_cons (pv 15) pa_nil))))) pa_nil)))
    (pss_one (ps_if (pt_cmpR (kop_ne (K := K) rfl hr.units) (pe_call (ok_summed T) (hr.mono (by decide)) rfl T.summed.m T.summed.F.kp (bi_summed T) .nil pass0 (pa_cons (pv 8) pa_nil)) (pe_call (ok_value_of T) (hr.mono (by decide)) rfl T.value_of.m T.value_of.F.kp (bi_value_of T) .nil pass0 (pa_cons (pe_ix (kix (K := K) rfl) (pv 2) (pv 6) (fun _ _ => rfl)) pa_nil)) (nomark _)) (pss_one (ps_ret pe_bl)) pss_nil)))))))
    (pss_one (ps_ret pe_bl)))))), ?_⟩
  exact ((sk_seq (sk_set (gk_cb cd_len (ak_cons gk_var ak_nil)))
    (sk_seq (sk_if (tk_or (tk_not (tk_truK (gk_call (ak_cons gk_var (ak_cons (gk_cb cd_len (ak_cons gk_var ak_nil)) ak_nil))))) (tk_not (tk_truK (gk_call (ak_cons gk_var (ak_cons (gk_cb cd_max2 (ak_cons gk_int (ak_cons (gk_op od_sub gk_var gk_var) ak_nil))) ak_nil)))))) (sk_ret gk_bl) sk_next)
    (sk_seq (sk_if (tk_truK (gk_cb cd_any (ak_cons (gk_lc (ik_seq gk_var) gt_name tk_yes (gk_call (ak_cons (gk_call (ak_cons gk_var ak_nil)) (ak_cons (gk_c T.NOUGHT.d) ak_nil))) (by decide)) ak_nil))) (sk_ret gk_bl) sk_next)
    (sk_seq (sk_for (ik_range1 (ak_cons gk_var ak_nil)) gt_name ((sk_seq (sk_set (gk_lc (ik_range1 (ak_cons gk_var ak_nil)) gt_name tk_yes (gk_cb cd_int (ak_cons (gk_op od_eq gk_var gk_var) ak_nil)) (by decide)))
    (sk_seq (sk_set (gk_lc (ik_zipA (ak_cons gk_var (ak_cons gk_var ak_nil))) (gt_tup (gts_cons gt_name (gts_cons (gt_tup (gts_cons gt_name (gts_cons gt_name gts_nil))) gts_nil))) tk_yes (gk_call (ak_cons (gk_call (ak_cons gk_var ak_nil)) (ak_cons (gk_call (ak_cons (gk_op od_ix gk_var gk_var) ak_nil)) ak_nil))) (by decide)))
    (sk_seq (sk_set (gk_call (ak_cons (gk_call (ak_cons gk_var ak_nil)) (ak_cons gk_var ak_nil))))
    (sk_seq (sk_drop (gk_mut md_ext (ak_cons (gk_lc (ik_zipA (ak_cons gk_var (ak_cons gk_var ak_nil))) (gt_tup (gts_cons gt_name (gts_cons gt_name gts_nil))) tk_yes (gk_call (ak_cons (gk_call (ak_cons gk_var ak_nil)) (ak_cons gk_var ak_nil))) (by decide)) ak_nil)))
    (sk_if (tk_test (gk_op od_ne (gk_call (ak_cons gk_var ak_nil)) (gk_call (ak_cons (gk_op od_ix gk_var gk_var) ak_nil)))) (sk_ret gk_bl) sk_next))))) : SOk K _ b_are_counts_1))
    (sk_ret gk_bl))))) : SOk K _ b_are_counts)
theorem sc_is_row : FnScope nm_is_row pm_is_row (defScope s_is_row) := ⟨rfl, rfl, rfl, by decide +kernel, rfl, by decide +kernel, by decide +kernel⟩
theorem bi_is_row (T : Txt K mg) : Binds K T.is_row.fd pm_is_row [] := T.is_row.F.binds fun _ _ _ _ _ _ us hl => by obtain ⟨_, _, _, _, rfl⟩ := len4 hl; rfl
theorem ok_is_row (T : Txt K mg) : FnOk P w K mg base CX0 6 T.is_row.f T.is_row.fd pm_is_row (spF K r_is_row) := by
  have nd := sc_is_row.nd
  refine data_F T.is_row.F sc_is_row fun cdv A outer s H E hr => ?_
  refine ⟨_, (pss_cons (ps_if (PW.pt (pw_or (pt_not (kpt_tru (K := K) rfl (pe_call (ok_are_values T) (hr.mono (by decide)) rfl T.are_values.m T.are_values.F.kp (bi_are_values T) .nil pass0 (pa_cons (pv 0) (pa_cons (pv 1) pa_nil))) (by intro _; rfl))) (pw_or1 (pt_not (kpt_tru (K := K) rfl (pe_call (ok_is_kind T) (hr.mono (by decide)) rfl T.is_kind.m T.is_kind.F.kp (bi_is_kind T) .nil pass0 (pa_cons (pv 0) (pa_cons (pv 2) pa_nil))) (by intro _; rfl)))))) (pss_one (ps_ret pe_bl)) pss_nil)
    (pss_one (ps_ret (pe_callB (kcr_all (K := K) rfl rfl) (by rfl) T.all (by decide +kernel) (pa_cons (pe_lc (own := [("place", 4), ("one", 5)]) rfl nd (kpi_seq (K := K) rfl (pv 3)) (blkOk_by (N := nm_is_row) (sc := defScope s_is_row) (by decide +kernel)) (fun _ _ _ _ _ => (kpg_tup (K := K) (n := 2) rfl rfl (pgs_cons (pg_name (i := 4) nd rfl (Or.inl rfl)) (pgs_cons (pg_name (i := 5) nd rfl (Or.inl rfl)) pgs_nil)))) (fun _ _ _ _ _ => pts_nil) (fun _ _ _ _ _ => (pe_cmpR (kop_eq (K := K) rfl hr.units) (pe_call (ok_value_of T) (hr.mono (by decide)) rfl T.value_of.m T.value_of.F.kp (bi_value_of T) .nil pass0 (pa_cons (pe_ix (kix (K := K) rfl) (pv 0) (pv 4) (fun _ _ => rfl)) pa_nil)) (pv 5) (nomark _)))) pa_nil))))), ?_⟩
  exact ((sk_seq (sk_if (tk_or (tk_not (tk_truK (gk_call (ak_cons gk_var (ak_cons gk_var ak_nil))))) (tk_not (tk_truK (gk_call (ak_cons gk_var (ak_cons gk_var ak_nil)))))) (sk_ret gk_bl) sk_next)
    (sk_ret (gk_cb cd_all (ak_cons (gk_lc (ik_seq gk_var) (gt_tup (gts_cons gt_name (gts_cons gt_name gts_nil))) tk_yes (gk_op od_eq (gk_call (ak_cons (gk_op od_ix gk_var gk_var) ak_nil)) gk_var) (by decide)) ak_nil)))) : SOk K _ b_is_row)
theorem sc_worth_of : FnScope nm_worth_of pm_worth_of (defScope s_worth_of) := ⟨rfl, rfl, rfl, by decide +kernel, rfl, by decide +kernel, by decide +kernel⟩
theorem bi_worth_of (T : Txt K mg) : Binds K T.worth_of.fd pm_worth_of [] := T.worth_of.F.binds fun _ _ _ _ _ _ us hl => by obtain ⟨_, _, rfl⟩ := len2 hl; rfl
theorem ok_worth_of (T : Txt K mg) : FnOk P w K mg base CX0 5 T.worth_of.f T.worth_of.fd pm_worth_of (spF K r_worth_of) := by
  have nd := sc_worth_of.nd
  refine data_F T.worth_of.F sc_worth_of fun cdv A outer s H E hr => ?_
  refine ⟨_, (pss_one (ps_ret (pe_call (ok_summed T) (hr.mono (by decide)) rfl T.summed.m T.summed.F.kp (bi_summed T) .nil pass0 (pa_cons (pe_lc (own := [("count", 2), ("place", 3), ("one", 4)]) rfl nd (kpi_zipA (K := K) rfl rfl T.zip (pa_cons (pv 0) (pa_cons (pv 1) pa_nil))) (blkOk_by (N := nm_worth_of) (sc := defScope s_worth_of) (by decide +kernel)) (fun _ _ _ _ _ => (kpg_tup (K := K) (n := 2) rfl rfl (pgs_cons (pg_name (i := 2) nd rfl (Or.inl rfl)) (pgs_cons (kpg_tup (K := K) (n := 2) rfl rfl (pgs_cons (pg_name (i := 3) nd rfl (Or.inl rfl)) (pgs_cons (pg_name (i := 4) nd rfl (Or.inl rfl)) pgs_nil))) pgs_nil)))) (fun _ _ _ _ _ => pts_nil) (fun _ _ _ _ _ => (pe_call (ok_multiplied T) (hr.mono (by decide)) rfl T.multiplied.m T.multiplied.F.kp (bi_multiplied T) .nil pass0 (pa_cons (pe_call (ok_value_of T) (hr.mono (by decide)) rfl T.value_of.m T.value_of.F.kp (bi_value_of T) .nil pass0 (pa_cons (pv 2) pa_nil)) (pa_cons (pv 4) pa_nil))))) pa_nil)))), ?_⟩
  exact ((sk_ret (gk_call (ak_cons (gk_lc (ik_zipA (ak_cons gk_var (ak_cons gk_var ak_nil))) (gt_tup (gts_cons gt_name (gts_cons (gt_tup (gts_cons gt_name (gts_cons gt_name gts_nil))) gts_nil))) tk_yes (gk_call (ak_cons (gk_call (ak_cons gk_var ak_nil)) (ak_cons gk_var ak_nil))) (by decide)) ak_nil))) : SOk K _ b_worth_of)
theorem sc_row_paper_holds : FnScope nm_row_paper_holds pm_row_paper_holds (defScope s_row_paper_holds) := ⟨rfl, rfl, rfl, by decide +kernel, rfl, by decide +kernel, by decide +kernel⟩
theorem kb_row_paper_holds_1 (T : Txt K mg) : KBn K T.row_paper_holds.fd pm_row_paper_holds 0 ["value", "seen", "n", "weights"] (fun us ws => pick [3, 2, 1, 0] (us ++ (ws ++ []))) (fun vs zs => pick [3, 2, 1, 0] (vs ++ (zs ++ []))) :=
  kb_F T.row_paper_holds.F 0 _ _ fun _ _ _ _ _ _ us ws h1 h2 => by obtain ⟨rfl⟩ := ln0 h1; obtain ⟨_, _, _, _, rfl⟩ := ln4 h2; rfl
theorem ok_row_paper_holds (T : Txt K mg) : FnOk P w K mg base CX0 7 T.row_paper_holds.f T.row_paper_holds.fd pm_row_paper_holds (spF K r_row_paper_holds) := by
  have nd := sc_row_paper_holds.nd
  refine data_F T.row_paper_holds.F sc_row_paper_holds fun cdv A outer s H E hr => ?_
  refine ⟨_, (pss_cons (ps_par (i := 4) (j := 5) rfl nd rfl rfl (by decide) rfl rfl (pa_cons (pe_call (ok_need_seen T) (hr.mono (by decide)) rfl T.need_seen.m T.need_seen.F.kp (bi_need_seen T) .nil pass0 (pa_cons (pv 2) (pa_cons (pe_callB (kcr_len (K := K) rfl) (by rfl) T.len (by decide +kernel) (pa_cons (pv 0) pa_nil)) pa_nil))) (pa_cons (pe_callB (kcr_len (K := K) rfl) (by rfl) T.len (by decide +kernel) (pa_cons (pv 0) pa_nil)) pa_nil)) (by rfl))
    (pss_cons (ps_if (PW.pt (pw_or (pt_not (kpt_tru (K := K) rfl (pe_callB (kcr_isi (K := K) rfl) (by rfl) T.isinstance (by decide +kernel) (pa_cons (pv 3) (pa_cons (pe_bltn (v := .ty "tuple") (u := .type "tuple") (by rfl) T.tuple (by decide +kernel) rfl) pa_nil))) (by intro _; rfl))) (pw_or (pt_cmpR (kop_notInB (K := K) rfl (r70 hr)) (pe_callB (kcr_len (K := K) rfl) (by rfl) T.len (by decide +kernel) (pa_cons (pv 3) pa_nil)) (pe_tup (pa_cons pe_int (pa_cons pe_int pa_nil))) (by rfl)) (pw_or1 (pt_not (kpt_tru (K := K) rfl (pe_callB (kcr_isi (K := K) rfl) (by rfl) T.isinstance (by decide +kernel) (pa_cons (pe_ix (kix (K := K) rfl) (pv 3) pe_int (fun _ _ => rfl)) (pa_cons (pe_bltn (v := .ty "str") (u := .type "str") (by rfl) T.str (by decide +kernel) rfl) pa_nil))) (by intro _; rfl))))))) (pss_one (ps_ret pe_bl)) pss_nil)
    (pss_cons (ps_if (PW.pt (pw_and (pt_cmpR (kop_eq (K := K) rfl hr.units) (pe_ix (kix (K := K) rfl) (pv 3) pe_int (fun _ _ => rfl)) pe_str (nomark _)) (pw_and1 (pt_cmpR (kop_eq (K := K) rfl hr.units) (pe_callB (kcr_len (K := K) rfl) (by rfl) T.len (by decide +kernel) (pa_cons (pv 3) pa_nil)) pe_int (nomark _))))) (pss_cons (ps_if (PW.pt (pw_or (pt_not (kpt_tru (K := K) rfl (pe_call (ok_is_row T) (hr.mono (by decide)) rfl T.is_row.m T.is_row.F.kp (bi_is_row T) .nil pass0 (pa_cons (pe_ix (kix (K := K) rfl) (pv 3) pe_int (fun _ _ => rfl)) (pa_cons (pv 5) (pa_cons (pv 1) (pa_cons (pv 4) pa_nil))))) (by intro _; rfl))) (pw_or1 (pt_not (kpt_tru (K := K) rfl (pe_call (ok_are_counts T) (hr.mono (by decide)) rfl T.are_counts.m T.are_counts.F.kp (bi_are_counts T) .nil pass0 (pa_cons (pe_ix (kix (K := K) rfl) (pv 3) pe_int (fun _ _ => rfl)) (pa_cons (pe_ix (kix (K := K) rfl) (pv 3) pe_int (fun _ _ => rfl)) (pa_cons (pv 0) (pa_cons (pv 1) (pa_cons (pv 4) pa_nil)))))) (by intro _; rfl)))))) (pss_one (ps_ret pe_bl)) pss_nil)
    (pss_one (ps_ret (pe_cmpR (kop_eq (K := K) rfl hr.units) (pe_call (ok_row_told T) (hr.mono (by decide)) rfl T.row_told.m T.row_told.F.kp (bi_row_told T) .nil pass0 (pa_cons (pv 0) (pa_cons (pe_ix (kix (K := K) rfl) (pv 3) pe_int (fun _ _ => rfl)) pa_nil))) (pe_call (ok_worth_of T) (hr.mono (by decide)) rfl T.worth_of.m T.worth_of.F.kp (bi_worth_of T) .nil pass0 (pa_cons (pe_ix (kix (K := K) rfl) (pv 3) pe_int (fun _ _ => rfl)) (pa_cons (pv 4) pa_nil))) (nomark _))))) pss_nil)
    (pss_cons (ps_if (PW.pt (pw_and (pt_cmpR (kop_eq (K := K) rfl hr.units) (pe_ix (kix (K := K) rfl) (pv 3) pe_int (fun _ _ => rfl)) pe_str (nomark _)) (pw_and1 (pt_cmpR (kop_eq (K := K) rfl hr.units) (pe_callB (kcr_len (K := K) rfl) (by rfl) T.len (by decide +kernel) (pa_cons (pv 3) pa_nil)) pe_int (nomark _))))) (pss_one (ps_ret (pe_and (pe_call (ok_are_counts T) (hr.mono (by decide)) rfl T.are_counts.m T.are_counts.F.kp (bi_are_counts T) .nil pass0 (pa_cons (pe_ix (kix (K := K) rfl) (pv 3) pe_int (fun _ _ => rfl)) (pa_cons (pe_ix (kix (K := K) rfl) (pv 3) pe_int (fun _ _ => rfl)) (pa_cons (pe_op op_mulA (pe_lst (pa_cons pe_int pa_nil)) (pv 5)) (pa_cons (pv 1) (pa_cons (pv 4) pa_nil)))))) (pe_one (pe_call (ok_is_less T) (hr.mono (by decide)) rfl T.is_less.m T.is_less.F.kp (bi_is_less T) .nil pass0 (pa_cons (pe_glob rfl T.NOUGHT.m T.NOUGHT.r) (pa_cons (pe_call (ok_worth_of T) (hr.mono (by decide)) rfl T.worth_of.m T.worth_of.F.kp (bi_worth_of T) .nil pass0 (pa_cons (pe_ix (kix (K := K) rfl) (pv 3) pe_int (fun _ _ => rfl)) (pa_cons (pv 4) pa_nil))) pa_nil))))))) pss_nil)
    (pss_cons (ps_if (PW.pt (pw_and (pt_cmpR (kop_eq (K := K) rfl hr.units) (pe_ix (kix (K := K) rfl) (pv 3) pe_int (fun _ _ => rfl)) pe_str (nomark _)) (pw_and1 (pt_cmpR (kop_eq (K := K) rfl hr.units) (pe_callB (kcr_len (K := K) rfl) (by rfl) T.len (by decide +kernel) (pa_cons (pv 3) pa_nil)) pe_int (nomark _))))) (pss_cons (ps_setLc (i := 6) (own := [("place", 7), ("one", 8)]) rfl nd rfl rfl (sw_true rfl rfl rfl (by decide +kernel)) (kpi_seq (K := K) rfl (pv 4)) (blkOk_by (N := nm_row_paper_holds) (sc := defScope s_row_paper_holds) (by decide +kernel)) (fun _ _ _ _ _ => (kpg_tup (K := K) (n := 2) rfl rfl (pgs_cons (pg_name (i := 7) nd rfl (Or.inl rfl)) (pgs_cons (pg_name (i := 8) nd rfl (Or.inl rfl)) pgs_nil)))) (fun _ _ _ _ _ => pts_nil) (fun _ _ _ _ _ => (pe_tup (pa_cons (pv 7) (pa_cons (pe_glob rfl T.NOUGHT.m T.NOUGHT.r) pa_nil)))))
    (pss_cons (ps_if (PW.pt (pw_or (pt_not (kpt_tru (K := K) rfl (pe_call (ok_is_row T) (hr.mono (by decide)) rfl T.is_row.m T.is_row.F.kp (bi_is_row T) .nil pass0 (pa_cons (pe_ix (kix (K := K) rfl) (pv 3) pe_int (fun _ _ => rfl)) (pa_cons (pv 5) (pa_cons (pv 1) (pa_cons (pv 4) pa_nil))))) (by intro _; rfl))) (pw_or1 (pt_not (kpt_tru (K := K) rfl (pe_call (ok_is_row T) (hr.mono (by decide)) rfl T.is_row.m T.is_row.F.kp (bi_is_row T) .nil pass0 (pa_cons (pe_ix (kix (K := K) rfl) (pv 3) pe_int (fun _ _ => rfl)) (pa_cons (pv 5) (pa_cons (pv 1) (pa_cons (pv 6) pa_nil))))) (by intro _; rfl)))))) (pss_one (ps_ret pe_bl)) pss_nil)
    (pss_one (ps_ret (pe_call (ok_is_less T) (hr.mono (by decide)) rfl T.is_less.m T.is_less.F.kp (bi_is_less T) .nil pass0 (pa_cons (pe_call (ok_row_told T) (hr.mono (by decide)) rfl T.row_told.m T.row_told.F.kp (bi_row_told T) .nil pass0 (pa_cons (pv 0) (pa_cons (pe_ix (kix (K := K) rfl) (pv 3) pe_int (fun _ _ => rfl)) pa_nil))) (pa_cons (pe_glob rfl T.NOUGHT.m T.NOUGHT.r) pa_nil))))))) pss_nil)
    (pss_one (ps_ret pe_bl))))))), ?_⟩
  exact ((sk_seq (sk_ypar (yk_cons (gk_call (ak_cons gk_var (ak_cons (gk_cb cd_len (ak_cons gk_var ak_nil)) ak_nil))) (yk_cons (gk_cb cd_len (ak_cons gk_var ak_nil)) yk_nil)))
    (sk_seq (sk_if (tk_or (tk_not (tk_truK (gk_cb cd_isi (ak_cons gk_var (ak_cons (gk_c fun _ => .ty _) ak_nil))))) (tk_or (tk_test (gk_op od_inB (gk_cb cd_len (ak_cons gk_var ak_nil)) (gk_tup (ak_cons gk_int (ak_cons gk_int ak_nil))))) (tk_not (tk_truK (gk_cb cd_isi (ak_cons (gk_op od_ix gk_var gk_int) (ak_cons (gk_c fun _ => .ty _) ak_nil))))))) (sk_ret gk_bl) sk_next)
    (sk_seq (sk_if (tk_and (tk_test (gk_op od_eq (gk_op od_ix gk_var gk_int) gk_str)) (tk_test (gk_op od_eq (gk_cb cd_len (ak_cons gk_var ak_nil)) gk_int))) (sk_seq (sk_if (tk_or (tk_not (tk_truK (gk_call (ak_cons (gk_op od_ix gk_var gk_int) (ak_cons gk_var (ak_cons gk_var (ak_cons gk_var ak_nil))))))) (tk_not (tk_truK (gk_call (ak_cons (gk_op od_ix gk_var gk_int) (ak_cons (gk_op od_ix gk_var gk_int) (ak_cons gk_var (ak_cons gk_var (ak_cons gk_var ak_nil))))))))) (sk_ret gk_bl) sk_next)
    (sk_ret (gk_op od_eq (gk_call (ak_cons gk_var (ak_cons (gk_op od_ix gk_var gk_int) ak_nil))) (gk_call (ak_cons (gk_op od_ix gk_var gk_int) (ak_cons gk_var ak_nil)))))) sk_next)
    (sk_seq (sk_if (tk_and (tk_test (gk_op od_eq (gk_op od_ix gk_var gk_int) gk_str)) (tk_test (gk_op od_eq (gk_cb cd_len (ak_cons gk_var ak_nil)) gk_int))) (sk_ret (gk_vand (gk_call (ak_cons (gk_op od_ix gk_var gk_int) (ak_cons (gk_op od_ix gk_var gk_int) (ak_cons (gk_op od_mul (gk_lst (ak_cons gk_int ak_nil)) gk_var) (ak_cons gk_var (ak_cons gk_var ak_nil)))))) (gk_call (ak_cons (gk_c T.NOUGHT.d) (ak_cons (gk_call (ak_cons (gk_op od_ix gk_var gk_int) (ak_cons gk_var ak_nil))) ak_nil))))) sk_next)
    (sk_seq (sk_if (tk_and (tk_test (gk_op od_eq (gk_op od_ix gk_var gk_int) gk_str)) (tk_test (gk_op od_eq (gk_cb cd_len (ak_cons gk_var ak_nil)) gk_int))) (sk_seq (sk_set (gk_lc (ik_seq gk_var) (gt_tup (gts_cons gt_name (gts_cons gt_name gts_nil))) tk_yes (gk_tup (ak_cons gk_var (ak_cons (gk_c T.NOUGHT.d) ak_nil))) (by decide)))
    (sk_seq (sk_if (tk_or (tk_not (tk_truK (gk_call (ak_cons (gk_op od_ix gk_var gk_int) (ak_cons gk_var (ak_cons gk_var (ak_cons gk_var ak_nil))))))) (tk_not (tk_truK (gk_call (ak_cons (gk_op od_ix gk_var gk_int) (ak_cons gk_var (ak_cons gk_var (ak_cons gk_var ak_nil)))))))) (sk_ret gk_bl) sk_next)
    (sk_ret (gk_call (ak_cons (gk_call (ak_cons gk_var (ak_cons (gk_op od_ix gk_var gk_int) ak_nil))) (ak_cons (gk_c T.NOUGHT.d) ak_nil)))))) sk_next)
    (sk_ret gk_bl)))))) : SOk K _ b_row_paper_holds)
theorem sc_law : FnScope nm_law pm_law (defScope s_law) := ⟨rfl, rfl, rfl, by decide +kernel, rfl, by decide +kernel, by decide +kernel⟩
theorem ok_law (T : Txt K mg) {s : Shared} {H : Hp} {a : Addr} {Q : VK} (e0 : Env0 P w K mg base callerA [] s H) (bd0 : BindsTo s T.law.fd ⟨[.ref a], []⟩ [("_law_script", .ref a)]) (q : spF K r_law [.ref a] H Q E0) :
    codeAny (model P w) callerA (.call (.ref T.law.f) ⟨[.ref a], []⟩) (CR CX0 [] P w H s Q E0) s := by
  have nd := sc_law.nd
  refine call_law (k := 10) T.law.F sc_law ⟨rfl, by decide, by decide⟩ (fun cdv s H E hg hr => ?_) e0 bd0 q
  refine ⟨_, (pss_cons (ps_for PassesOwn.never rfl (pi_range1 rfl T.range (pa_cons (pe_callB (cr_max2 rfl) (by rfl) T.max (by decide +kernel) (pa_cons pe_int (pa_cons (pe_callB (cr_min2 rfl) (by rfl) T.min (by decide +kernel) (pa_cons pe_int (pa_cons (pe_callB (kcr_len (K := K) rfl) (by rfl) T.len (by decide +kernel) (pa_cons (pv 0) pa_nil)) pa_nil))) pa_nil))) pa_nil)) (pg_name (i := 1) nd rfl (Or.inl rfl)) (pss_cons (ps_set (i := 2) nd rfl (Or.inl rfl) (pe_ifExp (pt_cmpR (kop_ne (K := K) rfl hr.units) (pv 0) (pe_lst pa_nil) (nomark _)) (pe_op (kop_addB (K := K) rfl) pe_int (pe_op op_modA (pe_callTy cr_int (by rfl) T.int (by decide +kernel) (pa_cons (pe_callB cr_abs (by rfl) T.abs (by decide +kernel) (pa_cons (pe_ix (kix (K := K) rfl) (pv 0) (pv 1) (fun _ _ => rfl)) pa_nil)) pa_nil)) pe_int)) pe_int))
    (pss_cons (ps_set (i := 3) nd rfl (Or.inl rfl) (pe_op (OpR.or op_subA (op_bin (E := E0) T.sf_Rule T.Rule_sub.m.at_ T.Rule_sub.m.fn (ok_Rule_sub T) (hr.mono (by decide)) (bi_Rule_sub T) pass0)) (pe_make T.mk_Rule (ok_Rule_init T) (hr.mono (by decide)) rfl T.Rule.mg (bi_Rule_init_4 T).choose_spec.2 (bi_Rule_init_4 T).choose_spec.1 pass0 (pa_cons pe_int (pa_cons pe_int (pa_cons (pe_lst (pa_cons (pe_tup (pa_cons (pe_tup (pa_cons pe_int (pa_cons pe_int pa_nil))) (pa_cons pe_int pa_nil))) pa_nil)) pa_nil)))) (pe_call (ok_area T) (hr.mono (by decide)) rfl T.area.m T.area.F.kp (bi_area T) .nil pass0 (pa_cons pe_int (pa_cons pe_int pa_nil)))))
    (pss_cons (ps_if (pt_cmpR (kop_ne (K := K) rfl hr.units) (pe_callN0 (ok_constant T) (hr.mono (by decide)) rfl T.constant.m T.constant.F.kp (kb_constant_1 T) pass0 (pk_cons pe_int (pk_cons (pv 3) pk_nil))) (pe_call (ok_constant T) (hr.mono (by decide)) rfl T.constant.m T.constant.F.kp (bi_constant T) .nil pass0 (pa_cons (pv 3) (pa_cons pe_int pa_nil))) (nomark _)) (pss_one (ps_ret pe_bl)) pss_nil)
    (pss_cons (ps_set (i := 4) nd rfl (Or.inl rfl) (pe_callN0 (ok_greatest_miss T) (hr.mono (by decide)) rfl T.greatest_miss.m T.greatest_miss.F.kp (kb_greatest_miss_1 T) pass0 (pk_cons (pe_tup (pa_cons pe_int (pa_cons pe_int pa_nil))) (pk_cons (pv 2) (pk_cons (pe_op op_subA pe_int pe_int) (pk_cons pe_int (pk_cons (pv 3) pk_nil)))))))
    (pss_cons (ps_if (PW.pt (pw_or (pt_cmpR op_isA (pv 4) pe_non (nomark _)) (pw_or1 (pt_cmpR op_gt (pe_op op_mulA (pe_ix (kix (K := K) rfl) (pe_ix (kix (K := K) rfl) (pv 4) pe_int (fun _ _ => rfl)) pe_int (fun _ _ => rfl)) (pe_ix (kix (K := K) rfl) (pe_ix (kix (K := K) rfl) (pv 4) pe_int (fun _ _ => rfl)) pe_int (fun _ _ => rfl))) (pe_op op_mulA (pe_ix (kix (K := K) rfl) (pe_ix (kix (K := K) rfl) (pv 4) pe_int (fun _ _ => rfl)) pe_int (fun _ _ => rfl)) (pe_ix (kix (K := K) rfl) (pe_ix (kix (K := K) rfl) (pv 4) pe_int (fun _ _ => rfl)) pe_int (fun _ _ => rfl))) (nomark _))))) (pss_one (ps_ret pe_bl)) pss_nil)
    (pss_cons (ps_par (i := 5) (j := 6) rfl nd rfl rfl (by decide) rfl rfl (pa_cons (pe_lst (pa_cons pe_int (pa_cons (pe_op op_subA pe_int pe_int) (pa_cons (pv 2) pa_nil)))) (pa_cons (pe_lst (pa_cons (pv 2) (pa_cons pe_int (pa_cons pe_int pa_nil)))) pa_nil)) (by rfl))
    (pss_cons (ps_if (PW.pt (pw_or (pt_cmpR op_isNotA (pe_callN0 (ok_is_kind T) (hr.mono (by decide)) rfl T.is_kind.m T.is_kind.F.kp (kb_is_kind_1 T) pass0 (pk_cons pe_int (pk_cons (pv 6) pk_nil))) pe_bl (nomark _)) (pw_or1 (pt_cmpR (kop_ne (K := K) rfl hr.units) (pe_callN0 (ok_row_told T) (hr.mono (by decide)) rfl T.row_told.m T.row_told.F.kp (kb_row_told_1 T) pass0 (pk_cons (pv 6) (pk_cons (pv 5) pk_nil))) (pe_tup (pa_cons (pe_op op_mulA pe_int (pv 2)) (pa_cons pe_int pa_nil))) (nomark _))))) (pss_one (ps_ret pe_bl)) pss_nil)
    (pss_cons (ps_if (pt_cmpR (kop_ne (K := K) rfl hr.units) (pe_callN0 (ok_row_kernel T) (hr.mono (by decide)) rfl T.row_kernel.m T.row_kernel.F.kp (kb_row_kernel_1 T) pass0 (pk_cons pe_int (pk_cons (pv 5) pk_nil))) (pe_call (ok_row_kernel T) (hr.mono (by decide)) rfl T.row_kernel.m T.row_kernel.F.kp (bi_row_kernel T) .nil pass0 (pa_cons (pv 5) (pa_cons pe_int pa_nil))) (nomark _)) (pss_one (ps_ret pe_bl)) pss_nil)
    (pss_cons (ps_if (pt_cmpR (kop_ne (K := K) rfl hr.units) (pe_callN0 (ok_row_never_below T) (hr.mono (by decide)) rfl T.row_never_below.m T.row_never_below.F.kp (kb_row_never_below_1 T) pass0 (pk_cons pe_int (pk_cons (pv 5) pk_nil))) (pe_call (ok_row_never_below T) (hr.mono (by decide)) rfl T.row_never_below.m T.row_never_below.F.kp (bi_row_never_below T) .nil pass0 (pa_cons (pv 5) (pa_cons pe_int pa_nil))) (nomark _)) (pss_one (ps_ret pe_bl)) pss_nil)
    (pss_cons (ps_if (pt_cmpR (kop_ne (K := K) rfl hr.units) (pe_cmpR op_isA (pe_callN0 (ok_row_refuting T) (hr.mono (by decide)) rfl T.row_refuting.m T.row_refuting.F.kp (kb_row_refuting_1 T) pass0 (pk_cons pe_int (pk_cons (pv 5) pk_nil))) pe_non (nomark _)) (pe_call (ok_row_never_below T) (hr.mono (by decide)) rfl T.row_never_below.m T.row_never_below.F.kp (bi_row_never_below T) .nil pass0 (pa_cons (pv 5) (pa_cons pe_int pa_nil))) (nomark _)) (pss_one (ps_ret pe_bl)) pss_nil)
    (pss_cons (ps_set (i := 7) nd rfl (Or.inl rfl) (pe_lst (pa_cons (pe_tup (pa_cons pe_int (pa_cons (pv 2) pa_nil))) (pa_cons (pe_tup (pa_cons pe_int (pa_cons pe_int pa_nil))) pa_nil))))
    (pss_cons (ps_if (pt_cmpR (kop_ne (K := K) rfl hr.units) (pe_callN0 (ok_row_greatest T) (hr.mono (by decide)) rfl T.row_greatest.m T.row_greatest.F.kp (kb_row_greatest_1 T) pass0 (pk_cons (pv 7) (pk_cons pe_int (pk_cons (pe_lst (pa_cons pe_int (pa_cons pe_int (pa_cons pe_int pa_nil)))) pk_nil)))) (pe_call (ok_row_greatest T) (hr.mono (by decide)) rfl T.row_greatest.m T.row_greatest.F.kp (bi_row_greatest T) .nil pass0 (pa_cons (pe_lst (pa_cons pe_int (pa_cons pe_int (pa_cons pe_int pa_nil)))) (pa_cons pe_int (pa_cons (pv 7) pa_nil)))) (nomark _)) (pss_one (ps_ret pe_bl)) pss_nil)
    (pss_cons (ps_if (pt_cmpR (kop_ne (K := K) rfl hr.units) (pe_callN0 (ok_row_least T) (hr.mono (by decide)) rfl T.row_least.m T.row_least.F.kp (kb_row_least_1 T) pass0 (pk_cons (pv 7) (pk_cons pe_int (pk_cons (pe_lst (pa_cons pe_int (pa_cons pe_int (pa_cons pe_int pa_nil)))) pk_nil)))) pe_str (nomark _)) (pss_one (ps_ret pe_bl)) pss_nil)
    (pss_cons (ps_set (i := 8) nd rfl (Or.inl rfl) (pe_callN0 (ok_row_paper T) (hr.mono (by decide)) rfl T.row_paper.m T.row_paper.F.kp (kb_row_paper_1 T) pass0 (pk_cons (pv 7) (pk_cons pe_int (pk_cons (pe_lst (pa_cons pe_int (pa_cons pe_int (pa_cons pe_int pa_nil)))) pk_nil)))))
    (pss_one (ps_if (pt_cmpR op_isNotA (pe_callN0 (ok_row_paper_holds T) (hr.mono (by decide)) rfl T.row_paper_holds.m T.row_paper_holds.F.kp (kb_row_paper_holds_1 T) pass0 (pk_cons (pv 8) (pk_cons (pv 7) (pk_cons pe_int (pk_cons (pe_lst (pa_cons pe_int (pa_cons pe_int (pa_cons pe_int pa_nil)))) pk_nil))))) pe_bl (nomark _)) (pss_one (ps_ret pe_bl)) pss_nil)))))))))))))))))
    (pss_one (ps_ret pe_bl))), ?_⟩
  exact ((sk_seq (sk_for (ik_range1 (ak_cons (gk_cb cd_max2 (ak_cons gk_int (ak_cons (gk_cb cd_min2 (ak_cons gk_int (ak_cons (gk_cb cd_len (ak_cons gk_var ak_nil)) ak_nil))) ak_nil))) ak_nil)) gt_name ((sk_seq (sk_set (gk_if (tk_test (gk_op od_ne gk_var (gk_lst ak_nil))) (gk_op od_addB gk_int (gk_op od_mod (gk_cb cd_int (ak_cons (gk_cb cd_abs (ak_cons (gk_op od_ix gk_var gk_var) ak_nil)) ak_nil)) gk_int)) gk_int))
    (sk_seq (sk_set (gk_op (od_own T.Rule.at_ od_sub) (gk_make T.Rule (fun H => (drs_drop (T.Rule_init.d H) 1)) (ak_cons gk_int (ak_cons gk_int (ak_cons (gk_lst (ak_cons (gk_tup (ak_cons (gk_tup (ak_cons gk_int (ak_cons gk_int ak_nil))) (ak_cons gk_int ak_nil))) ak_nil)) ak_nil)))) (gk_call (ak_cons gk_int (ak_cons gk_int ak_nil)))))
    (sk_seq (sk_if (tk_test (gk_op od_ne (gk_callK (is := [1, 0]) (fun _ => .nil) ak_nil (ak_cons gk_int (ak_cons gk_var ak_nil))) (gk_call (ak_cons gk_var (ak_cons gk_int ak_nil))))) (sk_ret gk_bl) sk_next)
    (sk_seq (sk_set (gk_callK (is := [4, 3, 2, 1, 0]) (fun _ => .nil) ak_nil (ak_cons (gk_tup (ak_cons gk_int (ak_cons gk_int ak_nil))) (ak_cons gk_var (ak_cons (gk_op od_sub gk_int gk_int) (ak_cons gk_int (ak_cons gk_var ak_nil)))))))
    (sk_seq (sk_if (tk_or (tk_test (gk_op od_is gk_var gk_non)) (tk_test (gk_op od_gt (gk_op od_mul (gk_op od_ix (gk_op od_ix gk_var gk_int) gk_int) (gk_op od_ix (gk_op od_ix gk_var gk_int) gk_int)) (gk_op od_mul (gk_op od_ix (gk_op od_ix gk_var gk_int) gk_int) (gk_op od_ix (gk_op od_ix gk_var gk_int) gk_int))))) (sk_ret gk_bl) sk_next)
    (sk_seq (sk_ypar (yk_cons (gk_lst (ak_cons gk_int (ak_cons (gk_op od_sub gk_int gk_int) (ak_cons gk_var ak_nil)))) (yk_cons (gk_lst (ak_cons gk_var (ak_cons gk_int (ak_cons gk_int ak_nil)))) yk_nil)))
    (sk_seq (sk_if (tk_or (tk_test (gk_op od_isNot (gk_callK (is := [1, 0]) (fun _ => .nil) ak_nil (ak_cons gk_int (ak_cons gk_var ak_nil))) gk_bl)) (tk_test (gk_op od_ne (gk_callK (is := [1, 0]) (fun _ => .nil) ak_nil (ak_cons gk_var (ak_cons gk_var ak_nil))) (gk_tup (ak_cons (gk_op od_mul gk_int gk_var) (ak_cons gk_int ak_nil)))))) (sk_ret gk_bl) sk_next)
    (sk_seq (sk_if (tk_test (gk_op od_ne (gk_callK (is := [1, 0]) (fun _ => .nil) ak_nil (ak_cons gk_int (ak_cons gk_var ak_nil))) (gk_call (ak_cons gk_var (ak_cons gk_int ak_nil))))) (sk_ret gk_bl) sk_next)
    (sk_seq (sk_if (tk_test (gk_op od_ne (gk_callK (is := [1, 0]) (fun _ => .nil) ak_nil (ak_cons gk_int (ak_cons gk_var ak_nil))) (gk_call (ak_cons gk_var (ak_cons gk_int ak_nil))))) (sk_ret gk_bl) sk_next)
    (sk_seq (sk_if (tk_test (gk_op od_ne (gk_op od_is (gk_callK (is := [1, 0]) (fun _ => .nil) ak_nil (ak_cons gk_int (ak_cons gk_var ak_nil))) gk_non) (gk_call (ak_cons gk_var (ak_cons gk_int ak_nil))))) (sk_ret gk_bl) sk_next)
    (sk_seq (sk_set (gk_lst (ak_cons (gk_tup (ak_cons gk_int (ak_cons gk_var ak_nil))) (ak_cons (gk_tup (ak_cons gk_int (ak_cons gk_int ak_nil))) ak_nil))))
    (sk_seq (sk_if (tk_test (gk_op od_ne (gk_callK (is := [2, 1, 0]) (fun _ => .nil) ak_nil (ak_cons gk_var (ak_cons gk_int (ak_cons (gk_lst (ak_cons gk_int (ak_cons gk_int (ak_cons gk_int ak_nil)))) ak_nil)))) (gk_call (ak_cons (gk_lst (ak_cons gk_int (ak_cons gk_int (ak_cons gk_int ak_nil)))) (ak_cons gk_int (ak_cons gk_var ak_nil)))))) (sk_ret gk_bl) sk_next)
    (sk_seq (sk_if (tk_test (gk_op od_ne (gk_callK (is := [2, 1, 0]) (fun _ => .nil) ak_nil (ak_cons gk_var (ak_cons gk_int (ak_cons (gk_lst (ak_cons gk_int (ak_cons gk_int (ak_cons gk_int ak_nil)))) ak_nil)))) gk_str)) (sk_ret gk_bl) sk_next)
    (sk_seq (sk_set (gk_callK (is := [2, 1, 0]) (fun _ => .nil) ak_nil (ak_cons gk_var (ak_cons gk_int (ak_cons (gk_lst (ak_cons gk_int (ak_cons gk_int (ak_cons gk_int ak_nil)))) ak_nil)))))
    (sk_if (tk_test (gk_op od_isNot (gk_callK (is := [3, 2, 1, 0]) (fun _ => .nil) ak_nil (ak_cons gk_var (ak_cons gk_var (ak_cons gk_int (ak_cons (gk_lst (ak_cons gk_int (ak_cons gk_int (ak_cons gk_int ak_nil)))) ak_nil))))) gk_bl)) (sk_ret gk_bl) sk_next))))))))))))))) : SOk K _ b_law_1))
    (sk_ret gk_bl)) : SOk K _ b_law)
end
end Bk
namespace Bk
open PySem L2
def res58 : Option (Fl × Gam) → Option Gam
  | some (.nx, G) => some G
  | _ => none
def t58 : MS := (xseq (xset 3 (xop (opOwn 0 r_Rule_sub opSub) (xmake 0 r_Rule_init ([.tup [], .tup []].drop 1) (xcons (xc (.int 0)) (xcons (xc (.int 1)) (xcons (xlst (xcons (xtup (xcons (xtup (xcons (xc (.int 1)) (xcons (xc (.int 2)) xnil))) (xcons (xc (.int 1)) xnil))) xnil)) xnil)))) (xcall r_area (xcons (xc (.int 0)) (xcons (xc (.int 1)) xnil)))))
  (xseq (xifs (xtest (xop opNe (xcallK r_constant 0 2 [1, 0] [] xnil (xcons (xc (.int 2)) (xcons (xv 3) xnil))) (xcall r_constant (xcons (xv 3) (xcons (xc (.int 2)) xnil))))) (xret (xc (.bl false))) xnext)
  (xseq (xset 4 (xcallK r_greatest_miss 0 5 [4, 3, 2, 1, 0] [] xnil (xcons (xtup (xcons (xc (.int 1)) (xcons (xc (.int 9)) xnil))) (xcons (xv 2) (xcons (xop opSub (xc (.int 0)) (xc (.int 1))) (xcons (xc (.int 2)) (xcons (xv 3) xnil)))))))
  (xseq (xifs (xtor (xtest (xop opIs (xv 4) (xc .non))) (xtest (xop opGt (xop opMul (xop opIx (xop opIx (xv 4) (xc (.int 0))) (xc (.int 0))) (xop opIx (xop opIx (xv 4) (xc (.int 1))) (xc (.int 1)))) (xop opMul (xop opIx (xop opIx (xv 4) (xc (.int 1))) (xc (.int 0))) (xop opIx (xop opIx (xv 4) (xc (.int 0))) (xc (.int 1))))))) (xret (xc (.bl false))) xnext)
  (xseq (ypar 5 6 (ycons (xlst (xcons (xc (.int 1)) (xcons (xop opSub (xc (.int 0)) (xc (.int 2))) (xcons (xv 2) xnil)))) (ycons (xlst (xcons (xv 2) (xcons (xc (.int 0)) (xcons (xc (.int 3)) xnil)))) ynil)))
  (xseq (xifs (xtor (xtest (xop opIsNot (xcallK r_is_kind 0 2 [1, 0] [] xnil (xcons (xc (.int 2)) (xcons (xv 6) xnil))) (xc (.bl true)))) (xtest (xop opNe (xcallK r_row_told 0 2 [1, 0] [] xnil (xcons (xv 6) (xcons (xv 5) xnil))) (xtup (xcons (xop opMul (xc (.int 4)) (xv 2)) (xcons (xc (.int 1)) xnil)))))) (xret (xc (.bl false))) xnext)
  (xseq (xifs (xtest (xop opNe (xcallK r_row_kernel 0 2 [1, 0] [] xnil (xcons (xc (.int 2)) (xcons (xv 5) xnil))) (xcall r_row_kernel (xcons (xv 5) (xcons (xc (.int 2)) xnil))))) (xret (xc (.bl false))) xnext)
  (xseq (xifs (xtest (xop opNe (xcallK r_row_never_below 0 2 [1, 0] [] xnil (xcons (xc (.int 1)) (xcons (xv 5) xnil))) (xcall r_row_never_below (xcons (xv 5) (xcons (xc (.int 1)) xnil))))) (xret (xc (.bl false))) xnext)
  (xseq (xifs (xtest (xop opNe (xop opIs (xcallK r_row_refuting 0 2 [1, 0] [] xnil (xcons (xc (.int 2)) (xcons (xv 5) xnil))) (xc .non)) (xcall r_row_never_below (xcons (xv 5) (xcons (xc (.int 2)) xnil))))) (xret (xc (.bl false))) xnext)
  (xseq (xset 7 (xlst (xcons (xtup (xcons (xc (.int 0)) (xcons (xv 2) xnil))) (xcons (xtup (xcons (xc (.int 2)) (xcons (xc (.int 0)) xnil))) xnil))))
  (xseq (xifs (xtest (xop opNe (xcallK r_row_greatest 0 3 [2, 1, 0] [] xnil (xcons (xv 7) (xcons (xc (.int 2)) (xcons (xlst (xcons (xc (.int 0)) (xcons (xc (.int 1)) (xcons (xc (.int 0)) xnil)))) xnil)))) (xcall r_row_greatest (xcons (xlst (xcons (xc (.int 0)) (xcons (xc (.int 1)) (xcons (xc (.int 0)) xnil)))) (xcons (xc (.int 2)) (xcons (xv 7) xnil)))))) (xret (xc (.bl false))) xnext)
  (xseq (xifs (xtest (xop opNe (xcallK r_row_least 0 3 [2, 1, 0] [] xnil (xcons (xv 7) (xcons (xc (.int 2)) (xcons (xlst (xcons (xc (.int 0)) (xcons (xc (.int 1)) (xcons (xc (.int 0)) xnil)))) xnil)))) (xc (.str "endless")))) (xret (xc (.bl false))) xnext)
  (xseq (xset 8 (xcallK r_row_paper 0 3 [2, 1, 0] [] xnil (xcons (xv 7) (xcons (xc (.int 1)) (xcons (xlst (xcons (xc (.int 0)) (xcons (xc (.int 1)) (xcons (xc (.int 0)) xnil)))) xnil)))))
  (xifs (xtest (xop opIsNot (xcallK r_row_paper_holds 0 4 [3, 2, 1, 0] [] xnil (xcons (xv 8) (xcons (xv 7) (xcons (xc (.int 1)) (xcons (xlst (xcons (xc (.int 0)) (xcons (xc (.int 1)) (xcons (xc (.int 0)) xnil)))) xnil))))) (xc (.bl true)))) (xret (xc (.bl false))) xnext))))))))))))))
theorem law1_58 : b_law_1 = xseq (xset 2 (xif (xtest (xop opNe (xv 0) (xlst xnil))) (xop opAddB (xc (.int 1)) (xop opMod (xcb cbInt (xcons (xcb cbAbs (xcons (xop opIx (xv 0) (xv 1)) xnil)) xnil)) (xc (.int 9)))) (xc (.int 4)))) t58 := rfl
section
variable (x0 x1 x3 x4 x5 x6 x7 x8 : Ent)
theorem run58_1 : (res58 (t58 [x0, x1, .im (.int 1), x3, x4, x5, x6, x7, x8])).map (fun G => (G[0]?, G.length)) = some (some x0, 9) := by kernel_rfl
theorem run58_2 : (res58 (t58 [x0, x1, .im (.int 2), x3, x4, x5, x6, x7, x8])).map (fun G => (G[0]?, G.length)) = some (some x0, 9) := by kernel_rfl
theorem run58_3 : (res58 (t58 [x0, x1, .im (.int 3), x3, x4, x5, x6, x7, x8])).map (fun G => (G[0]?, G.length)) = some (some x0, 9) := by kernel_rfl
theorem run58_4 : (res58 (t58 [x0, x1, .im (.int 4), x3, x4, x5, x6, x7, x8])).map (fun G => (G[0]?, G.length)) = some (some x0, 9) := by kernel_rfl
theorem run58_5 : (res58 (t58 [x0, x1, .im (.int 5), x3, x4, x5, x6, x7, x8])).map (fun G => (G[0]?, G.length)) = some (some x0, 9) := by kernel_rfl
theorem run58_6 : (res58 (t58 [x0, x1, .im (.int 6), x3, x4, x5, x6, x7, x8])).map (fun G => (G[0]?, G.length)) = some (some x0, 9) := by kernel_rfl
theorem run58_7 : (res58 (t58 [x0, x1, .im (.int 7), x3, x4, x5, x6, x7, x8])).map (fun G => (G[0]?, G.length)) = some (some x0, 9) := by kernel_rfl
theorem run58_8 : (res58 (t58 [x0, x1, .im (.int 8), x3, x4, x5, x6, x7, x8])).map (fun G => (G[0]?, G.length)) = some (some x0, 9) := by kernel_rfl
theorem run58_9 : (res58 (t58 [x0, x1, .im (.int 9), x3, x4, x5, x6, x7, x8])).map (fun G => (G[0]?, G.length)) = some (some x0, 9) := by kernel_rfl
end
end Bk
namespace Bk
open PySem L2
theorem runF_eq {k n : Nat} {b : MS} {ds : List D} (h : ds.length = k) : runF k n b ds = outF (b (pad n ds)) := if_pos h
theorem xseq_nx {s t : MS} {G G1 : Gam} (h : s G = some (.nx, G1)) : xseq s t G = t G1 := by
  unfold xseq
  rw [h]
theorem xset_ok {i : Nat} {a : M R} {G G1 : Gam} {r : R} (h : a G = some (r, G1)) : xset i a G = some (.nx, G1.set i r.ent) := by
  unfold xset
  rw [h]
  rfl
theorem xset_e {i : Nat} {a : M R} {G G1 G2 : Gam} {r : R} (h : a G = some (r, G1)) (e : G1.set i r.ent = G2) : xset i a G = some (.nx, G2) := e ▸ xset_ok h
theorem xret_ok {a : M R} {G G1 : Gam} {r : R} (h : a G = some (r, G1)) : xret a G = some (.rt r, G1) := by
  unfold xret
  rw [h]
  rfl
theorem xcons_ok {a : M R} {b : M (List D)} {G G1 G2 : Gam} {r : R} {xs : List D} (h : a G = some (r, G1)) (hb : b G1 = some (xs, G2)) : xcons a b G = some (r.d :: xs, G2) := by
  unfold xcons
  rw [h]
  simp only [bd_some, hb]
theorem xnil_ok {G : Gam} : xnil G = some ([], G) := rfl
theorem runF_st {k n : Nat} {b : MS} {ds : List D} {o : Option R} (hl : ds.length = k) (h : outF (b (pad n ds)) = o) : runF k n b ds = o := (runF_eq hl).trans h
theorem st_nx {s t : MS} {G G1 : Gam} {o : Option R} (h : s G = some (.nx, G1)) (k : outF (t G1) = o) : outF (xseq s t G) = o := (congrArg outF (xseq_nx h)).trans k
theorem st_ret {a : M R} {G G1 : Gam} {r : R} (h : a G = some (r, G1)) : outF (xret a G) = some r := congrArg outF (xret_ok h)
theorem xop_ok {o : D → D → Option R} {a b : M R} {G G1 G2 : Gam} {x y r : R} (ha : a G = some (x, G1)) (hb : b G1 = some (y, G2)) (h : o x.d y.d = some r) : xop o a b G = some (r, G2) := by
  unfold xop
  rw [ha]
  simp only [bd_some, hb, h]
theorem xc1 {a : M R} {b : M (List D)} {G G1 G2 : Gam} {d : D} {xs : List D} (h : a G = some (.im d, G1)) (hb : b G1 = some (xs, G2)) : xcons a b G = some (d :: xs, G2) := xcons_ok h hb
theorem xo2 {o : D → D → Option R} {a b : M R} {G G1 G2 : Gam} {x y : D} {r : R} (ha : a G = some (.im x, G1)) (hb : b G1 = some (.im y, G2)) (h : o x y = some r) : xop o a b G = some (r, G2) := xop_ok ha hb h
theorem xif_ok {t : M Bool} {a b : M R} {G G1 : Gam} {k : Bool} (h : t G = some (k, G1)) : xif t a b G = if k then a G1 else b G1 := by
  unfold xif
  rw [h]
  rfl
theorem xtest_ok {a : M R} {G G1 : Gam} {k : Bool} (h : a G = some (.im (.bl k), G1)) : xtest a G = some (k, G1) := by
  unfold xtest
  rw [h]
  rfl
theorem atI_ok {α : Type} {xs : List α} {i : Int} (h : 0 ≤ i) (h1 : i < xs.length) : ∃ x, atI xs i = some x ∧ x ∈ xs := by
  have h2 : i.toNat < xs.length := by omega
  refine ⟨xs[i.toNat], ?_, List.getElem_mem h2⟩
  unfold atI ixN
  rw [if_pos h, if_pos h1]
  exact List.getElem?_eq_getElem h2
theorem xcb_ok {o : List D → Option R} {a : M (List D)} {G G1 : Gam} {xs : List D} {r : R} (h : a G = some (xs, G1)) (ho : o xs = some r) : xcb o a G = some (r, G1) := by
  unfold xcb
  rw [h]
  simp only [bd_some, ho]
/-- a loop whose turns keep a word -/
theorem xforL_inv {tg : D → Gam → Option Gam} {b : MS} (Inv : Gam → Prop) : ∀ {ds : List D} {G : Gam}, Inv G → (∀ d ∈ ds, ∀ G, Inv G → ∃ G1 G2, tg d G = some G1 ∧ (b G1 = some (.nx, G2) ∨ b G1 = some (.ct, G2)) ∧ Inv G2) →
    ∃ G', xforL tg b ds G = some (.nx, G') ∧ Inv G'
  | [], G, h, _ => ⟨G, rfl, h⟩
  | d :: ds, G, h, step => by
    obtain ⟨G1, G2, h1, h2, h3⟩ := step d List.mem_cons_self G h
    obtain ⟨G', h4, h5⟩ := xforL_inv Inv h3 fun e he => step e (List.mem_cons_of_mem _ he)
    refine ⟨G', ?_, h5⟩
    unfold xforL
    rw [h1]
    rcases h2 with h2 | h2
    · simp only [h2]; exact h4
    · simp only [h2]; exact h4
theorem rng_mem {lo : Int} {n : Nat} {d : D} (h : d ∈ rng lo n) : ∃ i : Nat, i < n ∧ d = .int (lo + (i : Int)) := by
  obtain ⟨i, hi, rfl⟩ := List.mem_map.mp h
  exact ⟨i, List.mem_range.mp hi, rfl⟩
theorem okR_of {m : Int} (h : -1000000 < m) (h1 : m < 1000000) : okR m = true := by
  unfold okR
  rw [Bool.and_eq_true]
  exact ⟨decide_eq_true (by omega), decide_eq_true (by omega)⟩
def Sm (i : Int) (k : Nat) : Prop := i.natAbs < 2 ^ k
theorem Sm.up {i : Int} {k l : Nat} (h : Sm i k) (hk : k ≤ l) : Sm i l := Nat.lt_of_lt_of_le h (Nat.pow_le_pow_right (by decide) hk)
theorem Sm.mul {i j : Int} {k l : Nat} (h : Sm i k) (h' : Sm j l) : Sm (i * j) (k + l) := by
  unfold Sm
  rw [Int.natAbs_mul, Nat.pow_add]
  exact Nat.mul_lt_mul'' h h'
theorem Sm.sub {i j : Int} {k : Nat} (h : Sm i k) (h' : Sm j k) : Sm (i - j) (k + 1) := by
  unfold Sm at *
  rw [Nat.pow_succ]
  have := Int.natAbs_sub_le i j
  omega
def vq (q : Rat) : D := .tup [.int q.num, .int (q.den : Int)]
/-- numerator and denominator -/
def Ht (q : Rat) (k : Nat) : Prop := Sm q.num k ∧ Sm (q.den : Int) k
theorem Ht.up {q : Rat} {k l : Nat} (h : Ht q k) (hk : k ≤ l) : Ht q l := ⟨h.1.up hk, h.2.up hk⟩
theorem natAbs_ediv_le {n g : Int} (hd : g ∣ n) : (n / g).natAbs ≤ n.natAbs := by
  obtain ⟨c, rfl⟩ := hd
  by_cases z : g = 0
  · subst z; simp
  · rw [Int.mul_ediv_cancel_left c z, Int.natAbs_mul]
    exact Nat.le_mul_of_pos_left _ (by omega)
theorem ht_divInt {n d : Int} {k : Nat} (hd : d ≠ 0) (hn : Sm n k) (hk : Sm d k) : Ht (Rat.divInt n d) k := by
  constructor
  · rw [Rat.num_divInt]
    refine Nat.lt_of_le_of_lt (natAbs_ediv_le ?_) ?_
    · exact Int.dvd_trans (Int.gcd_dvd_right d n) (Int.dvd_mul_left _ _)
    · rw [Int.natAbs_mul]
      have : d.sign.natAbs = 1 := by
        rcases Int.lt_or_gt_of_ne hd with h | h
        · rw [Int.sign_eq_neg_one_of_neg h]; rfl
        · rw [Int.sign_eq_one_of_pos h]; rfl
      rw [this, Nat.one_mul]
      exact hn
  · rw [Rat.den_divInt, if_neg hd]
    unfold Sm at *
    rw [Int.natAbs_natCast]
    exact Nat.lt_of_le_of_lt (Nat.div_le_self _ _) hk
theorem divInt_self (q : Rat) : Rat.divInt q.num (q.den : Int) = q := by
  rw [Rat.divInt_ofNat]
  exact Rat.mkRat_self q
theorem den_ne (q : Rat) : (q.den : Int) ≠ 0 := by
  have := q.den_nz
  omega
theorem mul_divInt (a b : Rat) : Rat.divInt (a.num * b.num) (a.den * b.den) = a * b := by
  rw [← Rat.divInt_mul_divInt, divInt_self, divInt_self]
theorem sub_divInt (a b : Rat) : Rat.divInt (a.num * b.den - b.num * a.den) (a.den * b.den) = a - b := by
  rw [← Rat.divInt_sub_divInt _ _ (den_ne a) (den_ne b), divInt_self, divInt_self]
theorem Ht.mul {a b : Rat} {k l : Nat} (h : Ht a k) (h' : Ht b l) : Ht (a * b) (k + l) := by
  rw [← mul_divInt]
  exact ht_divInt (Int.mul_ne_zero (den_ne a) (den_ne b)) (h.1.mul h'.1) (h.2.mul h'.2)
theorem Ht.sub {a b : Rat} {k l : Nat} (h : Ht a k) (h' : Ht b l) : Ht (a - b) (k + l + 1) := by
  rw [← sub_divInt]
  have h1 := h.1.mul h'.2
  have h2 := h'.1.mul h.2
  rw [Nat.add_comm l k] at h2
  exact ht_divInt (Int.mul_ne_zero (den_ne a) (den_ne b)) (h1.sub h2) ((h.2.mul h'.2).up (Nat.le_succ _))
theorem Ht.int {i : Int} {k : Nat} (h : Sm i k) (hk : 0 < k) : Ht (i : Rat) k := ⟨h, by
  show (1 : Int).natAbs < 2 ^ k
  exact Nat.one_lt_two_pow (by omega)⟩
end Bk
namespace Bk
open PySem L2
theorem xfor_ok {it : M (List D)} {tg : D → Gam → Option Gam} {b : MS} {G G1 : Gam} {ds : List D} {o : Option (Fl × Gam)} (h : it G = some (ds, G1)) (h2 : xforL tg b ds G1 = o) : xfor it tg b G = o := by
  unfold xfor
  rw [h]
  exact h2
theorem xrange1_ok {a : M (List D)} {G G1 : Gam} {n : Int} (h : a G = some ([.int n], G1)) (h1 : okR n = true) : xrange1 a G = some (rng 0 n.toNat, G1) := by
  unfold xrange1
  rw [h]
  simp only [bd_some]
  rw [if_pos h1]
def valQ : D → Rat
  | .int i => (i : Rat)
  | .tup [.int n, .int d] => Rat.divInt n d
  | _ => 0
def IsV1 (d : D) : Prop := (∃ i, d = .int i) ∨ ∃ q, d = vq q
/-- two rows, item by item, a value made of each two -/
def f2 (g : Rat → Rat → Rat) : D → D
  | .tup [x, y] => vq (g (valQ x) (valQ y))
  | d => d
def Ln (k : Nat) (out : List D) : Prop := ∀ x ∈ out, IsV1 x ∧ Ht (valQ x) k
theorem Ln.nil {k : Nat} : Ln k [] := fun _ h => nomatch h
theorem Ln.push {k : Nat} {out : List D} {d : D} (h : Ln k out) (hd : IsV1 d ∧ Ht (valQ d) k) : Ln k (out ++ [d]) := fun x hx => by
  rcases List.mem_append.mp hx with h1 | h1
  · exact h x h1
  · rw [List.mem_singleton.mp h1]; exact hd
theorem Ln.len {k : Nat} {ds : List D} (h : Ln k ds) : ∀ x ∈ ds, IsV1 x := fun x hx => (h x hx).1
end Bk
namespace Bk
open PySem L2
def dd : Option Rat → List Rat → List Rat
  | _, [] => []
  | p, x :: xs => if p = some x then dd (some x) xs else x :: dd (some x) xs
end Bk
namespace Bk
open PySem L2
/-- d holds a list or a tuple of ds -/
def isSq (d : D) (ds : List D) : Prop := d = .lst ds ∨ d = .tup ds ∨ d = .frz ds
theorem isSq.seq {d : D} {ds : List D} (h : isSq d ds) : seqD d = some ds := by
  rcases h with rfl | rfl | rfl <;> rfl
end Bk
namespace Bk
open PySem L2
def mono (n : Nat) : List Rat := List.replicate n 0 ++ [1]
end Bk
namespace Bk
open PySem L2
theorem shp {l : List D} (h : ∀ d ∈ l, ∃ p, toPy d = some p ∧ p.canLay0 = true ∧ p.depth ≤ 40) : ∃ ps, toPys l = some ps ∧ PyData.canLayAll0 ps = true ∧ ps.length = l.length ∧ ∀ p ∈ ps, p.depth ≤ 40 := by
  induction l with
  | nil => exact ⟨[], rfl, rfl, rfl, fun p hp => by cases hp⟩
  | cons d l ih =>
    obtain ⟨p, p1, p2, p3⟩ := h d List.mem_cons_self
    obtain ⟨ps, q1, q2, q3, q4⟩ := ih fun x hx => h x (List.mem_cons_of_mem _ hx)
    refine ⟨p :: ps, ?_, ?_, by rw [List.length_cons, List.length_cons, q3], fun z hz => ?_⟩
    · unfold toPys
      rw [p1, q1]
    · show (PyData.canLay0 p && PyData.canLayAll0 ps) = true
      rw [p2, q2]
      rfl
    · rcases List.mem_cons.mp hz with rfl | hz
      · exact p3
      · exact q4 z hz
/-- lists of such things against [] -/
theorem ne_nil {l : List D} (h : ∀ d ∈ l, ∃ p, toPy d = some p ∧ p.canLay0 = true ∧ p.depth ≤ 40) : opNe (.lst l) (.lst []) = some (.im (.bl (!l.isEmpty))) := by
  obtain ⟨ps, q1, q2, q3, q4⟩ := shp h
  have da : ∀ ps : List PyData, (∀ p ∈ ps, p.depth ≤ 40) → PyData.depthAll ps ≤ 40 := fun ps => by
    induction ps with
    | nil => intro _; exact Nat.zero_le _
    | cons p ps ih =>
      intro h
      show max p.depth (PyData.depthAll ps) ≤ 40
      have := ih fun x hx => h x (List.mem_cons_of_mem _ hx)
      have := h p List.mem_cons_self
      omega
  have e1 : toPy (.lst l) = some (.list ps) := by
    unfold toPy
    rw [q1]
    rfl
  have s1 : SeqAt.shaped (.list ps) = true := by
    show (PyData.canLayAll0 ps && decide (PyData.depthAll ps + 1 ≤ 64)) = true
    rw [q2, decide_eq_true (by have := da ps q4; omega)]
    rfl
  have e : eqD (.lst l) (.lst []) = some (PyData.eqv (.list ps) (.list [])) := by
    show (match toPy (.lst l), toPy (.lst []) with
      | some p, some q => if SeqAt.shaped p && SeqAt.shaped q then some (PyData.eqv p q) else none
      | _, _ => none) = _
    rw [e1]
    show (if SeqAt.shaped (.list ps) && SeqAt.shaped (.list []) then some (PyData.eqv (.list ps) (.list [])) else none) = _
    rw [s1]
    rfl
  have v : PyData.eqv (.list ps) (.list []) = l.isEmpty := by
    cases ps with
    | nil =>
      have : l = [] := List.length_eq_zero_iff.mp q3.symm
      subst this
      simp [PyData.eqv, PyData.eqvAll]
    | cons p ps =>
      cases l with
      | nil => cases q3
      | cons d l => simp [PyData.eqv, PyData.eqvAll]
  unfold opNe
  rw [e, v]
theorem ne_frz58 (ns : List Int) : opNe (.frz (ns.map .int)) (.lst []) = some (.im (.bl (!ns.isEmpty))) := by
  have e : toPy (.frz (ns.map D.int)) = toPy (.lst (ns.map D.int)) := by rw [toPy, toPy]
  have e2 : eqD (.frz (ns.map D.int)) (.lst []) = eqD (.lst (ns.map D.int)) (.lst []) := by
    show (match toPy (.frz (ns.map D.int)), toPy (.lst []) with
      | some p, some q => if SeqAt.shaped p && SeqAt.shaped q then some (PyData.eqv p q) else none
      | _, _ => none) = _
    rw [e]
    rfl
  have := ne_nil (l := ns.map D.int) fun d hd => by
    obtain ⟨i, _, rfl⟩ := List.mem_map.mp hd
    exact ⟨_, rfl, rfl, by show (0 : Nat) ≤ 40; decide⟩
  unfold opNe at this ⊢
  rw [e2, this]
  cases ns <;> rfl
theorem many58 {ns : List Int} {k : Nat} (hk : k < ns.length ∨ ns = []) (x2 x3 x4 x5 x6 x7 x8 : Ent) : ∃ n : Int, 1 ≤ n ∧ n ≤ 9 ∧ (xset 2 (xif (xtest (xop opNe (xv 0) (xlst xnil))) (xop opAddB (xc (.int 1)) (xop opMod (xcb cbInt (xcons (xcb cbAbs (xcons (xop opIx (xv 0) (xv 1)) xnil)) xnil)) (xc (.int 9)))) (xc (.int 4)))) [.im (.frz (ns.map .int)), .im (.int (k : Int)), x2, x3, x4, x5, x6, x7, x8] = some (.nx, [.im (.frz (ns.map .int)), .im (.int (k : Int)), .im (.int n), x3, x4, x5, x6, x7, x8]) := by
  have t : xtest (xop opNe (xv 0) (xlst xnil)) [.im (.frz (ns.map .int)), .im (.int (k : Int)), x2, x3, x4, x5, x6, x7, x8] = some (!ns.isEmpty, [.im (.frz (ns.map .int)), .im (.int (k : Int)), x2, x3, x4, x5, x6, x7, x8]) := xtest_ok (xop_ok (x := .im (.frz (ns.map .int))) (y := .ol []) rfl rfl (ne_frz58 ns))
  by_cases h : ns = []
  · subst h
    exact ⟨4, by decide, by decide, xset_e ((xif_ok t).trans rfl) rfl⟩
  · have hk := hk.resolve_right h
    have hi : ns.isEmpty = false := by cases ns with | nil => exact absurd rfl h | cons _ _ => rfl
    rw [hi] at t
    obtain ⟨d, hd, hm⟩ := atI_ok (xs := ns.map D.int) (i := (k : Int)) (by omega) (by rw [List.length_map]; omega)
    obtain ⟨z, _, rfl⟩ := List.mem_map.mp hm
    have ix : opIx (.frz (ns.map .int)) (.int (k : Int)) = some (.im (.int z)) := by
      show (atI (ns.map D.int) (k : Int)).map R.im = _
      rw [hd]
      rfl
    have a1 : 0 ≤ (if z < 0 then -z else z).fmod 9 := Int.fmod_nonneg_of_pos _ (by decide)
    have a2 : (if z < 0 then -z else z).fmod 9 < 9 := Int.fmod_lt_of_pos _ (by decide)
    refine ⟨1 + (if z < 0 then -z else z).fmod 9, by omega, by omega, xset_e ((xif_ok t).trans (xo2 (x := .int 1) (y := .int ((if z < 0 then -z else z).fmod 9)) rfl (xo2 (x := .int (if z < 0 then -z else z)) (y := .int 9) (xcb_ok (xc1 (d := .int (if z < 0 then -z else z)) (xcb_ok (xc1 (d := .int z) (xo2 (x := .frz (ns.map .int)) (y := .int (k : Int)) rfl rfl ix) xnil_ok) rfl) xnil_ok) rfl) rfl rfl) rfl)) rfl⟩
theorem of_run58 {x0 : Ent} {o : Option (Fl × Gam)} (h : (res58 o).map (fun G => (G[0]?, G.length)) = some (some x0, 9)) : ∃ y1 y2 y3 y4 y5 y6 y7 y8, o = some (.nx, [x0, y1, y2, y3, y4, y5, y6, y7, y8]) := by
  match o, h with
  | some (.nx, [a, y1, y2, y3, y4, y5, y6, y7, y8]), h =>
    have := (Prod.mk.inj (Option.some.inj h)).1
    cases this
    exact ⟨y1, y2, y3, y4, y5, y6, y7, y8, rfl⟩
theorem run58 {n : Int} (h0 : 1 ≤ n) (h6 : n ≤ 9) (x0 x1 x3 x4 x5 x6 x7 x8 : Ent) : ∃ y1 y2 y3 y4 y5 y6 y7 y8, t58 [x0, x1, .im (.int n), x3, x4, x5, x6, x7, x8] = some (.nx, [x0, y1, y2, y3, y4, y5, y6, y7, y8]) := by
  have c : n = 1 ∨ n = 2 ∨ n = 3 ∨ n = 4 ∨ n = 5 ∨ n = 6 ∨ n = 7 ∨ n = 8 ∨ n = 9 := by omega
  rcases c with rfl | rfl | rfl | rfl | rfl | rfl | rfl | rfl | rfl
  · exact of_run58 (run58_1 x0 x1 x3 x4 x5 x6 x7 x8)
  · exact of_run58 (run58_2 x0 x1 x3 x4 x5 x6 x7 x8)
  · exact of_run58 (run58_3 x0 x1 x3 x4 x5 x6 x7 x8)
  · exact of_run58 (run58_4 x0 x1 x3 x4 x5 x6 x7 x8)
  · exact of_run58 (run58_5 x0 x1 x3 x4 x5 x6 x7 x8)
  · exact of_run58 (run58_6 x0 x1 x3 x4 x5 x6 x7 x8)
  · exact of_run58 (run58_7 x0 x1 x3 x4 x5 x6 x7 x8)
  · exact of_run58 (run58_8 x0 x1 x3 x4 x5 x6 x7 x8)
  · exact of_run58 (run58_9 x0 x1 x3 x4 x5 x6 x7 x8)
theorem law_true : ∀ ns : List Int, ns.length ≤ 63 → r_law [.frz (ns.map .int)] = some (.im (.bl true)) := fun ns hn => by
  have hlen : cbLen [.frz (ns.map .int)] = some (.im (.int ns.length)) := by
    show some (R.im (.int (((ns.map D.int).length : Nat) : Int))) = _
    rw [List.length_map]
  have e1 : xcb cbMax2 (xcons (xc (.int 1)) (xcons (xcb cbMin2 (xcons (xc (.int 4)) (xcons (xcb cbLen (xcons (xv 0) xnil)) xnil))) xnil)) [.im (.frz (ns.map .int)), .un, .un, .un, .un, .un, .un, .un, .un] = some (.im (.int (if (if (ns.length : Int) < 4 then (ns.length : Int) else 4) > 1 then (if (ns.length : Int) < 4 then (ns.length : Int) else 4) else 1)), [.im (.frz (ns.map .int)), .un, .un, .un, .un, .un, .un, .un, .un]) :=
    xcb_ok (xc1 rfl (xc1 (xcb_ok (xc1 rfl (xc1 (xcb_ok (xc1 rfl xnil_ok) hlen) xnil_ok)) rfl) xnil_ok)) rfl
  generalize hc : (if (if (ns.length : Int) < 4 then (ns.length : Int) else 4) > 1 then (if (ns.length : Int) < 4 then (ns.length : Int) else 4) else 1) = c at e1
  have c9 : 0 < c ∧ c ≤ 4 ∧ (c ≤ ns.length ∨ ns.length = 0) := by
    rw [← hc]
    split <;> (try split at *) <;> omega
  obtain ⟨G', g1, y1, y2, y3, y4, y5, y6, y7, y8, rfl⟩ := xforL_inv (tg := tgn 1) (b := b_law_1)
    (fun G => ∃ y1 y2 y3 y4 y5 y6 y7 y8, G = [Ent.im (.frz (ns.map .int)), y1, y2, y3, y4, y5, y6, y7, y8]) (ds := rng 0 c.toNat) (G := [.im (.frz (ns.map .int)), .un, .un, .un, .un, .un, .un, .un, .un]) ⟨_, _, _, _, _, _, _, _, rfl⟩ (fun e he G hG => by
    obtain ⟨y1, y2, y3, y4, y5, y6, y7, y8, rfl⟩ := hG
    obtain ⟨k, hk, rfl⟩ := rng_mem he
    have hk' : k < ns.length ∨ ns = [] := by
      rcases c9.2.2 with h | h
      · exact .inl (by omega)
      · exact .inr (List.eq_nil_of_length_eq_zero h)
    obtain ⟨n, n1, n9, e2⟩ := many58 hk' y2 y3 y4 y5 y6 y7 y8
    obtain ⟨z1, z2, z3, z4, z5, z6, z7, z8, e3⟩ := run58 n1 n9 (.im (.frz (ns.map .int))) (.im (.int k)) y3 y4 y5 y6 y7 y8
    refine ⟨[Ent.im (.frz (ns.map .int)), .im (.int (k : Int)), y2, y3, y4, y5, y6, y7, y8], _, ?_, .inl ?_, z1, z2, z3, z4, z5, z6, z7, z8, rfl⟩
    · rw [Int.zero_add]
      rfl
    · rw [law1_58]
      exact (xseq_nx e2).trans e3)
  refine runF_st rfl ?_
  refine st_nx (by exact xfor_ok (xrange1_ok (xc1 e1 xnil_ok) (okR_of (by omega) (by omega))) g1) ?_
  exact st_ret (G1 := [.im (.frz (ns.map .int)), y1, y2, y3, y4, y5, y6, y7, y8]) rfl
end Bk
namespace Bk
open PySem L2 PyProof.Rows
theorem all_mk {l : PySem.W.OpenLaw} {w : World} {K : PySem.W.Frag} {h : Heap} {mg : PySem.Str → Option Value} {fa : Addr} (X : K.In h) (G : h.Ns mainGlobals mg) (hfa : mg "law" = some (.ref fa))
    {C_Part : Addr} (aC_Part : PySem.W.nsIn K mainGlobals (cName 1) = some (some (.ref C_Part))) (pg_Part : PySem.W.plainGet K C_Part Str.empty = true) (hd_Part : PySem.W.hasDictIn K C_Part = true) (po_Part : PySem.W.plainOver K C_Part = true) (sa_Part : PySem.W.findIn K (.ref C_Part) "__setattr__" = some (some (.builtin "object.__setattr__")))
    (na_Part_0 : PySem.W.findIn K (.ref C_Part) "start" = some none)
    (na_Part_1 : PySem.W.findIn K (.ref C_Part) "end" = some none)
    (na_Part_2 : PySem.W.findIn K (.ref C_Part) "powers" = some none)
    (na_Part_3 : PySem.W.findIn K (.ref C_Part) "whole" = some none)
    (na_Part_4 : PySem.W.findIn K (.ref C_Part) "least_high" = some none)
    (na_Part_5 : PySem.W.findIn K (.ref C_Part) "most_high" = some none)
    {C_Rule : Addr} (aC_Rule : PySem.W.nsIn K mainGlobals (cName 0) = some (some (.ref C_Rule))) (pg_Rule : PySem.W.plainGet K C_Rule Str.empty = true) (hd_Rule : PySem.W.hasDictIn K C_Rule = true) (po_Rule : PySem.W.plainOver K C_Rule = true) (sa_Rule : PySem.W.findIn K (.ref C_Rule) "__setattr__" = some (some (.builtin "object.__setattr__")))
    (na_Rule_0 : PySem.W.findIn K (.ref C_Rule) "low" = some none)
    (na_Rule_1 : PySem.W.findIn K (.ref C_Rule) "high" = some none)
    (na_Rule_2 : PySem.W.findIn K (.ref C_Rule) "weights" = some none)
    (na_Rule_3 : PySem.W.findIn K (.ref C_Rule) "shares" = some none)
    {C_Table : Addr} (aC_Table : PySem.W.nsIn K mainGlobals (cName 5) = some (some (.ref C_Table))) (pg_Table : PySem.W.plainGet K C_Table Str.empty = true) (hd_Table : PySem.W.hasDictIn K C_Table = true) (po_Table : PySem.W.plainOver K C_Table = true) (sa_Table : PySem.W.findIn K (.ref C_Table) "__setattr__" = some (some (.builtin "object.__setattr__")))
    (na_Table_0 : PySem.W.findIn K (.ref C_Table) "many" = some none)
    (na_Table_1 : PySem.W.findIn K (.ref C_Table) "size" = some none)
    (na_Table_2 : PySem.W.findIn K (.ref C_Table) "signs" = some none)
    (na_Table_3 : PySem.W.findIn K (.ref C_Table) "lines" = some none)
    (na_Table_4 : PySem.W.findIn K (.ref C_Table) "base" = some none)
    {f_is_sequence : Addr} {od_is_sequence an_is_sequence : Option Addr} {sl_is_sequence : Array (Option Value)} {oc_is_sequence kV_is_sequence dc_is_sequence pc_is_sequence cd_is_sequence ct_is_sequence : Value}
    (a_is_sequence : PySem.W.nsIn K mainGlobals "is_sequence" = some (some (.ref f_is_sequence))) (l_is_sequence : K.lookup f_is_sequence = some ⟨oc_is_sequence, od_is_sequence, .func (PySem.W.fnOf "is_sequence" "is_sequence" (defArgs s_is_sequence) (defBody s_is_sequence) (defScope s_is_sequence) .none kV_is_sequence dc_is_sequence pc_is_sequence an_is_sequence cd_is_sequence ct_is_sequence), sl_is_sequence⟩) (c_is_sequence : PySem.W.codeIn K cd_is_sequence "is_sequence" = true) (k_is_sequence : PySem.W.keepIn K (.ref f_is_sequence) = true)
    {f_is_less : Addr} {od_is_less an_is_less : Option Addr} {sl_is_less : Array (Option Value)} {oc_is_less kV_is_less dc_is_less pc_is_less cd_is_less ct_is_less : Value}
    (a_is_less : PySem.W.nsIn K mainGlobals "is_less" = some (some (.ref f_is_less))) (l_is_less : K.lookup f_is_less = some ⟨oc_is_less, od_is_less, .func (PySem.W.fnOf "is_less" "is_less" (defArgs s_is_less) (defBody s_is_less) (defScope s_is_less) .none kV_is_less dc_is_less pc_is_less an_is_less cd_is_less ct_is_less), sl_is_less⟩) (c_is_less : PySem.W.codeIn K cd_is_less "is_less" = true) (k_is_less : PySem.W.keepIn K (.ref f_is_less) = true)
    {f_is_integer : Addr} {od_is_integer an_is_integer : Option Addr} {sl_is_integer : Array (Option Value)} {oc_is_integer kV_is_integer dc_is_integer pc_is_integer cd_is_integer ct_is_integer : Value}
    (a_is_integer : PySem.W.nsIn K mainGlobals "is_integer" = some (some (.ref f_is_integer))) (l_is_integer : K.lookup f_is_integer = some ⟨oc_is_integer, od_is_integer, .func (PySem.W.fnOf "is_integer" "is_integer" (defArgs s_is_integer) (defBody s_is_integer) (defScope s_is_integer) .none kV_is_integer dc_is_integer pc_is_integer an_is_integer cd_is_integer ct_is_integer), sl_is_integer⟩) (c_is_integer : PySem.W.codeIn K cd_is_integer "is_integer" = true) (k_is_integer : PySem.W.keepIn K (.ref f_is_integer) = true)
    {f_divisor : Addr} {od_divisor an_divisor : Option Addr} {sl_divisor : Array (Option Value)} {oc_divisor kV_divisor dc_divisor pc_divisor cd_divisor ct_divisor : Value}
    (a_divisor : PySem.W.nsIn K mainGlobals "divisor" = some (some (.ref f_divisor))) (l_divisor : K.lookup f_divisor = some ⟨oc_divisor, od_divisor, .func (PySem.W.fnOf "divisor" "divisor" (defArgs s_divisor) (defBody s_divisor) (defScope s_divisor) .none kV_divisor dc_divisor pc_divisor an_divisor cd_divisor ct_divisor), sl_divisor⟩) (c_divisor : PySem.W.codeIn K cd_divisor "divisor" = true) (k_divisor : PySem.W.keepIn K (.ref f_divisor) = true)
    {f_is_pair : Addr} {od_is_pair an_is_pair : Option Addr} {sl_is_pair : Array (Option Value)} {oc_is_pair kV_is_pair dc_is_pair pc_is_pair cd_is_pair ct_is_pair : Value}
    (a_is_pair : PySem.W.nsIn K mainGlobals "is_pair" = some (some (.ref f_is_pair))) (l_is_pair : K.lookup f_is_pair = some ⟨oc_is_pair, od_is_pair, .func (PySem.W.fnOf "is_pair" "is_pair" (defArgs s_is_pair) (defBody s_is_pair) (defScope s_is_pair) .none kV_is_pair dc_is_pair pc_is_pair an_is_pair cd_is_pair ct_is_pair), sl_is_pair⟩) (c_is_pair : PySem.W.codeIn K cd_is_pair "is_pair" = true) (k_is_pair : PySem.W.keepIn K (.ref f_is_pair) = true)
    {f_is_value : Addr} {od_is_value an_is_value : Option Addr} {sl_is_value : Array (Option Value)} {oc_is_value kV_is_value dc_is_value pc_is_value cd_is_value ct_is_value : Value}
    (a_is_value : PySem.W.nsIn K mainGlobals "is_value" = some (some (.ref f_is_value))) (l_is_value : K.lookup f_is_value = some ⟨oc_is_value, od_is_value, .func (PySem.W.fnOf "is_value" "is_value" (defArgs s_is_value) (defBody s_is_value) (defScope s_is_value) .none kV_is_value dc_is_value pc_is_value an_is_value cd_is_value ct_is_value), sl_is_value⟩) (c_is_value : PySem.W.codeIn K cd_is_value "is_value" = true) (k_is_value : PySem.W.keepIn K (.ref f_is_value) = true)
    {f_value_of : Addr} {od_value_of an_value_of : Option Addr} {sl_value_of : Array (Option Value)} {oc_value_of kV_value_of dc_value_of pc_value_of cd_value_of ct_value_of : Value}
    (a_value_of : PySem.W.nsIn K mainGlobals "value_of" = some (some (.ref f_value_of))) (l_value_of : K.lookup f_value_of = some ⟨oc_value_of, od_value_of, .func (PySem.W.fnOf "value_of" "value_of" (defArgs s_value_of) (defBody s_value_of) (defScope s_value_of) .none kV_value_of dc_value_of pc_value_of an_value_of cd_value_of ct_value_of), sl_value_of⟩) (c_value_of : PySem.W.codeIn K cd_value_of "value_of" = true) (k_value_of : PySem.W.keepIn K (.ref f_value_of) = true)
    {f_is_between : Addr} {od_is_between an_is_between : Option Addr} {sl_is_between : Array (Option Value)} {oc_is_between kV_is_between dc_is_between pc_is_between cd_is_between ct_is_between : Value}
    (a_is_between : PySem.W.nsIn K mainGlobals "is_between" = some (some (.ref f_is_between))) (l_is_between : K.lookup f_is_between = some ⟨oc_is_between, od_is_between, .func (PySem.W.fnOf "is_between" "is_between" (defArgs s_is_between) (defBody s_is_between) (defScope s_is_between) .none kV_is_between dc_is_between pc_is_between an_is_between cd_is_between ct_is_between), sl_is_between⟩) (c_is_between : PySem.W.codeIn K cd_is_between "is_between" = true) (k_is_between : PySem.W.keepIn K (.ref f_is_between) = true)
    {f_is_share : Addr} {od_is_share an_is_share : Option Addr} {sl_is_share : Array (Option Value)} {oc_is_share kV_is_share dc_is_share pc_is_share cd_is_share ct_is_share : Value}
    (a_is_share : PySem.W.nsIn K mainGlobals "is_share" = some (some (.ref f_is_share))) (l_is_share : K.lookup f_is_share = some ⟨oc_is_share, od_is_share, .func (PySem.W.fnOf "is_share" "is_share" (defArgs s_is_share) (defBody s_is_share) (defScope s_is_share) .none kV_is_share dc_is_share pc_is_share an_is_share cd_is_share ct_is_share), sl_is_share⟩) (c_is_share : PySem.W.codeIn K cd_is_share "is_share" = true) (k_is_share : PySem.W.keepIn K (.ref f_is_share) = true)
    {f_is_weight : Addr} {od_is_weight an_is_weight : Option Addr} {sl_is_weight : Array (Option Value)} {oc_is_weight kV_is_weight dc_is_weight pc_is_weight cd_is_weight ct_is_weight : Value}
    (a_is_weight : PySem.W.nsIn K mainGlobals "is_weight" = some (some (.ref f_is_weight))) (l_is_weight : K.lookup f_is_weight = some ⟨oc_is_weight, od_is_weight, .func (PySem.W.fnOf "is_weight" "is_weight" (defArgs s_is_weight) (defBody s_is_weight) (defScope s_is_weight) .none kV_is_weight dc_is_weight pc_is_weight an_is_weight cd_is_weight ct_is_weight), sl_is_weight⟩) (c_is_weight : PySem.W.codeIn K cd_is_weight "is_weight" = true) (k_is_weight : PySem.W.keepIn K (.ref f_is_weight) = true)
    {f_ascending : Addr} {od_ascending an_ascending : Option Addr} {sl_ascending : Array (Option Value)} {oc_ascending kV_ascending dc_ascending pc_ascending cd_ascending ct_ascending : Value}
    (a_ascending : PySem.W.nsIn K mainGlobals "ascending" = some (some (.ref f_ascending))) (l_ascending : K.lookup f_ascending = some ⟨oc_ascending, od_ascending, .func (PySem.W.fnOf "ascending" "ascending" (defArgs s_ascending) (defBody s_ascending) (defScope s_ascending) .none kV_ascending dc_ascending pc_ascending an_ascending cd_ascending ct_ascending), sl_ascending⟩) (c_ascending : PySem.W.codeIn K cd_ascending "ascending" = true) (k_ascending : PySem.W.keepIn K (.ref f_ascending) = true)
    {f_lowest : Addr} {od_lowest an_lowest : Option Addr} {sl_lowest : Array (Option Value)} {oc_lowest kV_lowest dc_lowest pc_lowest cd_lowest ct_lowest : Value}
    (a_lowest : PySem.W.nsIn K mainGlobals "lowest" = some (some (.ref f_lowest))) (l_lowest : K.lookup f_lowest = some ⟨oc_lowest, od_lowest, .func (PySem.W.fnOf "lowest" "lowest" (defArgs s_lowest) (defBody s_lowest) (defScope s_lowest) .none kV_lowest dc_lowest pc_lowest an_lowest cd_lowest ct_lowest), sl_lowest⟩) (c_lowest : PySem.W.codeIn K cd_lowest "lowest" = true) (k_lowest : PySem.W.keepIn K (.ref f_lowest) = true)
    {f_added : Addr} {od_added an_added : Option Addr} {sl_added : Array (Option Value)} {oc_added kV_added dc_added pc_added cd_added ct_added : Value}
    (a_added : PySem.W.nsIn K mainGlobals "added" = some (some (.ref f_added))) (l_added : K.lookup f_added = some ⟨oc_added, od_added, .func (PySem.W.fnOf "added" "added" (defArgs s_added) (defBody s_added) (defScope s_added) .none kV_added dc_added pc_added an_added cd_added ct_added), sl_added⟩) (c_added : PySem.W.codeIn K cd_added "added" = true) (k_added : PySem.W.keepIn K (.ref f_added) = true)
    {f_summed : Addr} {od_summed an_summed : Option Addr} {sl_summed : Array (Option Value)} {oc_summed kV_summed dc_summed pc_summed cd_summed ct_summed : Value}
    (a_summed : PySem.W.nsIn K mainGlobals "summed" = some (some (.ref f_summed))) (l_summed : K.lookup f_summed = some ⟨oc_summed, od_summed, .func (PySem.W.fnOf "summed" "summed" (defArgs s_summed) (defBody s_summed) (defScope s_summed) .none kV_summed dc_summed pc_summed an_summed cd_summed ct_summed), sl_summed⟩) (c_summed : PySem.W.codeIn K cd_summed "summed" = true) (k_summed : PySem.W.keepIn K (.ref f_summed) = true)
    {f_least_shares : Addr} {od_least_shares an_least_shares : Option Addr} {sl_least_shares : Array (Option Value)} {oc_least_shares kV_least_shares dc_least_shares pc_least_shares cd_least_shares ct_least_shares : Value}
    (a_least_shares : PySem.W.nsIn K mainGlobals "least_shares" = some (some (.ref f_least_shares))) (l_least_shares : K.lookup f_least_shares = some ⟨oc_least_shares, od_least_shares, .func (PySem.W.fnOf "least_shares" "least_shares" (defArgs s_least_shares) (defBody s_least_shares) (defScope s_least_shares) .none kV_least_shares dc_least_shares pc_least_shares an_least_shares cd_least_shares ct_least_shares), sl_least_shares⟩) (c_least_shares : PySem.W.codeIn K cd_least_shares "least_shares" = true) (k_least_shares : PySem.W.keepIn K (.ref f_least_shares) = true)
    {f_least_weights : Addr} {od_least_weights an_least_weights : Option Addr} {sl_least_weights : Array (Option Value)} {oc_least_weights kV_least_weights dc_least_weights pc_least_weights cd_least_weights ct_least_weights : Value}
    (a_least_weights : PySem.W.nsIn K mainGlobals "least_weights" = some (some (.ref f_least_weights))) (l_least_weights : K.lookup f_least_weights = some ⟨oc_least_weights, od_least_weights, .func (PySem.W.fnOf "least_weights" "least_weights" (defArgs s_least_weights) (defBody s_least_weights) (defScope s_least_weights) .none kV_least_weights dc_least_weights pc_least_weights an_least_weights cd_least_weights ct_least_weights), sl_least_weights⟩) (c_least_weights : PySem.W.codeIn K cd_least_weights "least_weights" = true) (k_least_weights : PySem.W.keepIn K (.ref f_least_weights) = true)
    {f_need_stretch : Addr} {od_need_stretch an_need_stretch : Option Addr} {sl_need_stretch : Array (Option Value)} {oc_need_stretch kV_need_stretch dc_need_stretch pc_need_stretch cd_need_stretch ct_need_stretch : Value}
    (a_need_stretch : PySem.W.nsIn K mainGlobals "need_stretch" = some (some (.ref f_need_stretch))) (l_need_stretch : K.lookup f_need_stretch = some ⟨oc_need_stretch, od_need_stretch, .func (PySem.W.fnOf "need_stretch" "need_stretch" (defArgs s_need_stretch) (defBody s_need_stretch) (defScope s_need_stretch) .none kV_need_stretch dc_need_stretch pc_need_stretch an_need_stretch cd_need_stretch ct_need_stretch), sl_need_stretch⟩) (c_need_stretch : PySem.W.codeIn K cd_need_stretch "need_stretch" = true) (k_need_stretch : PySem.W.keepIn K (.ref f_need_stretch) = true)
    {f_Rule_init : Addr} {od_Rule_init an_Rule_init : Option Addr} {sl_Rule_init : Array (Option Value)} {oc_Rule_init kV_Rule_init dc_Rule_init pc_Rule_init cd_Rule_init ct_Rule_init : Value}
    {dT_Rule_init : Addr} {oT_Rule_init : Obj} {gi_Rule_init : List Value} {gn_Rule_init : Nat} (t_Rule_init : K.lookup dT_Rule_init = some oT_Rule_init) (td_Rule_init : oT_Rule_init.data = .seq gi_Rule_init.toArray gn_Rule_init) (v_Rule_init : ∃ vs, Vals vs gi_Rule_init ∧ ∀ H, DRs K H vs [.tup [], .tup []])
    (a_Rule_init : PySem.W.findIn K (.ref C_Rule) "__init__" = some (some (.ref f_Rule_init))) (l_Rule_init : K.lookup f_Rule_init = some ⟨oc_Rule_init, od_Rule_init, .func (PySem.W.fnOf "__init__" "Rule.__init__" (defArgs s_Rule_init) (defBody s_Rule_init) (defScope s_Rule_init) (.ref dT_Rule_init) kV_Rule_init dc_Rule_init pc_Rule_init an_Rule_init cd_Rule_init ct_Rule_init), sl_Rule_init⟩) (c_Rule_init : PySem.W.codeIn K cd_Rule_init "Rule.__init__" = true) (k_Rule_init : PySem.W.keepIn K (.ref f_Rule_init) = true)
    (i_Rule_init : PySem.W.isFn K (.ref f_Rule_init) = true)
    (mk_Rule : PySem.W.makesIn K C_Rule = true) (kc_Rule : PySem.W.keepIn K (.ref C_Rule) = true)
    {f_Rule_add : Addr} {od_Rule_add an_Rule_add : Option Addr} {sl_Rule_add : Array (Option Value)} {oc_Rule_add kV_Rule_add dc_Rule_add pc_Rule_add cd_Rule_add ct_Rule_add : Value}
    (a_Rule_add : PySem.W.findIn K (.ref C_Rule) "__add__" = some (some (.ref f_Rule_add))) (l_Rule_add : K.lookup f_Rule_add = some ⟨oc_Rule_add, od_Rule_add, .func (PySem.W.fnOf "__add__" "Rule.__add__" (defArgs s_Rule_add) (defBody s_Rule_add) (defScope s_Rule_add) .none kV_Rule_add dc_Rule_add pc_Rule_add an_Rule_add cd_Rule_add ct_Rule_add), sl_Rule_add⟩) (c_Rule_add : PySem.W.codeIn K cd_Rule_add "Rule.__add__" = true) (k_Rule_add : PySem.W.keepIn K (.ref f_Rule_add) = true)
    (i_Rule_add : PySem.W.isFn K (.ref f_Rule_add) = true)
    {f_Rule_neg : Addr} {od_Rule_neg an_Rule_neg : Option Addr} {sl_Rule_neg : Array (Option Value)} {oc_Rule_neg kV_Rule_neg dc_Rule_neg pc_Rule_neg cd_Rule_neg ct_Rule_neg : Value}
    (a_Rule_neg : PySem.W.findIn K (.ref C_Rule) "__neg__" = some (some (.ref f_Rule_neg))) (l_Rule_neg : K.lookup f_Rule_neg = some ⟨oc_Rule_neg, od_Rule_neg, .func (PySem.W.fnOf "__neg__" "Rule.__neg__" (defArgs s_Rule_neg) (defBody s_Rule_neg) (defScope s_Rule_neg) .none kV_Rule_neg dc_Rule_neg pc_Rule_neg an_Rule_neg cd_Rule_neg ct_Rule_neg), sl_Rule_neg⟩) (c_Rule_neg : PySem.W.codeIn K cd_Rule_neg "Rule.__neg__" = true) (k_Rule_neg : PySem.W.keepIn K (.ref f_Rule_neg) = true)
    (i_Rule_neg : PySem.W.isFn K (.ref f_Rule_neg) = true)
    {f_Rule_sub : Addr} {od_Rule_sub an_Rule_sub : Option Addr} {sl_Rule_sub : Array (Option Value)} {oc_Rule_sub kV_Rule_sub dc_Rule_sub pc_Rule_sub cd_Rule_sub ct_Rule_sub : Value}
    (a_Rule_sub : PySem.W.findIn K (.ref C_Rule) "__sub__" = some (some (.ref f_Rule_sub))) (l_Rule_sub : K.lookup f_Rule_sub = some ⟨oc_Rule_sub, od_Rule_sub, .func (PySem.W.fnOf "__sub__" "Rule.__sub__" (defArgs s_Rule_sub) (defBody s_Rule_sub) (defScope s_Rule_sub) .none kV_Rule_sub dc_Rule_sub pc_Rule_sub an_Rule_sub cd_Rule_sub ct_Rule_sub), sl_Rule_sub⟩) (c_Rule_sub : PySem.W.codeIn K cd_Rule_sub "Rule.__sub__" = true) (k_Rule_sub : PySem.W.keepIn K (.ref f_Rule_sub) = true)
    (i_Rule_sub : PySem.W.isFn K (.ref f_Rule_sub) = true)
    {f_area : Addr} {od_area an_area : Option Addr} {sl_area : Array (Option Value)} {oc_area kV_area dc_area pc_area cd_area ct_area : Value}
    (a_area : PySem.W.nsIn K mainGlobals "area" = some (some (.ref f_area))) (l_area : K.lookup f_area = some ⟨oc_area, od_area, .func (PySem.W.fnOf "area" "area" (defArgs s_area) (defBody s_area) (defScope s_area) .none kV_area dc_area pc_area an_area cd_area ct_area), sl_area⟩) (c_area : PySem.W.codeIn K cd_area "area" = true) (k_area : PySem.W.keepIn K (.ref f_area) = true)
    {f_product_to : Addr} {od_product_to an_product_to : Option Addr} {sl_product_to : Array (Option Value)} {oc_product_to kV_product_to dc_product_to pc_product_to cd_product_to ct_product_to : Value}
    (a_product_to : PySem.W.nsIn K mainGlobals "product_to" = some (some (.ref f_product_to))) (l_product_to : K.lookup f_product_to = some ⟨oc_product_to, od_product_to, .func (PySem.W.fnOf "product_to" "product_to" (defArgs s_product_to) (defBody s_product_to) (defScope s_product_to) .none kV_product_to dc_product_to pc_product_to an_product_to cd_product_to ct_product_to), sl_product_to⟩) (c_product_to : PySem.W.codeIn K cd_product_to "product_to" = true) (k_product_to : PySem.W.keepIn K (.ref f_product_to) = true)
    {f_quotient : Addr} {od_quotient an_quotient : Option Addr} {sl_quotient : Array (Option Value)} {oc_quotient kV_quotient dc_quotient pc_quotient cd_quotient ct_quotient : Value}
    (a_quotient : PySem.W.nsIn K mainGlobals "quotient" = some (some (.ref f_quotient))) (l_quotient : K.lookup f_quotient = some ⟨oc_quotient, od_quotient, .func (PySem.W.fnOf "quotient" "quotient" (defArgs s_quotient) (defBody s_quotient) (defScope s_quotient) .none kV_quotient dc_quotient pc_quotient an_quotient cd_quotient ct_quotient), sl_quotient⟩) (c_quotient : PySem.W.codeIn K cd_quotient "quotient" = true) (k_quotient : PySem.W.keepIn K (.ref f_quotient) = true)
    {f_area_powers : Addr} {od_area_powers an_area_powers : Option Addr} {sl_area_powers : Array (Option Value)} {oc_area_powers kV_area_powers dc_area_powers pc_area_powers cd_area_powers ct_area_powers : Value}
    (a_area_powers : PySem.W.nsIn K mainGlobals "area_powers" = some (some (.ref f_area_powers))) (l_area_powers : K.lookup f_area_powers = some ⟨oc_area_powers, od_area_powers, .func (PySem.W.fnOf "area_powers" "area_powers" (defArgs s_area_powers) (defBody s_area_powers) (defScope s_area_powers) .none kV_area_powers dc_area_powers pc_area_powers an_area_powers cd_area_powers ct_area_powers), sl_area_powers⟩) (c_area_powers : PySem.W.codeIn K cd_area_powers "area_powers" = true) (k_area_powers : PySem.W.keepIn K (.ref f_area_powers) = true)
    {f_less_by : Addr} {od_less_by an_less_by : Option Addr} {sl_less_by : Array (Option Value)} {oc_less_by kV_less_by dc_less_by pc_less_by cd_less_by ct_less_by : Value}
    (a_less_by : PySem.W.nsIn K mainGlobals "less_by" = some (some (.ref f_less_by))) (l_less_by : K.lookup f_less_by = some ⟨oc_less_by, od_less_by, .func (PySem.W.fnOf "less_by" "less_by" (defArgs s_less_by) (defBody s_less_by) (defScope s_less_by) .none kV_less_by dc_less_by pc_less_by an_less_by cd_less_by ct_less_by), sl_less_by⟩) (c_less_by : PySem.W.codeIn K cd_less_by "less_by" = true) (k_less_by : PySem.W.keepIn K (.ref f_less_by) = true)
    {f_multiplied : Addr} {od_multiplied an_multiplied : Option Addr} {sl_multiplied : Array (Option Value)} {oc_multiplied kV_multiplied dc_multiplied pc_multiplied cd_multiplied ct_multiplied : Value}
    (a_multiplied : PySem.W.nsIn K mainGlobals "multiplied" = some (some (.ref f_multiplied))) (l_multiplied : K.lookup f_multiplied = some ⟨oc_multiplied, od_multiplied, .func (PySem.W.fnOf "multiplied" "multiplied" (defArgs s_multiplied) (defBody s_multiplied) (defScope s_multiplied) .none kV_multiplied dc_multiplied pc_multiplied an_multiplied cd_multiplied ct_multiplied), sl_multiplied⟩) (c_multiplied : PySem.W.codeIn K cd_multiplied "multiplied" = true) (k_multiplied : PySem.W.keepIn K (.ref f_multiplied) = true)
    {f_value_at : Addr} {od_value_at an_value_at : Option Addr} {sl_value_at : Array (Option Value)} {oc_value_at kV_value_at dc_value_at pc_value_at cd_value_at ct_value_at : Value}
    (a_value_at : PySem.W.nsIn K mainGlobals "value_at" = some (some (.ref f_value_at))) (l_value_at : K.lookup f_value_at = some ⟨oc_value_at, od_value_at, .func (PySem.W.fnOf "value_at" "value_at" (defArgs s_value_at) (defBody s_value_at) (defScope s_value_at) .none kV_value_at dc_value_at pc_value_at an_value_at cd_value_at ct_value_at), sl_value_at⟩) (c_value_at : PySem.W.codeIn K cd_value_at "value_at" = true) (k_value_at : PySem.W.keepIn K (.ref f_value_at) = true)
    {f_told : Addr} {od_told an_told : Option Addr} {sl_told : Array (Option Value)} {oc_told kV_told dc_told pc_told cd_told ct_told : Value}
    (a_told : PySem.W.nsIn K mainGlobals "told" = some (some (.ref f_told))) (l_told : K.lookup f_told = some ⟨oc_told, od_told, .func (PySem.W.fnOf "told" "told" (defArgs s_told) (defBody s_told) (defScope s_told) .none kV_told dc_told pc_told an_told cd_told ct_told), sl_told⟩) (c_told : PySem.W.codeIn K cd_told "told" = true) (k_told : PySem.W.keepIn K (.ref f_told) = true)
    {f_constant : Addr} {od_constant an_constant : Option Addr} {sl_constant : Array (Option Value)} {oc_constant kV_constant dc_constant pc_constant cd_constant ct_constant : Value}
    (a_constant : PySem.W.nsIn K mainGlobals "constant" = some (some (.ref f_constant))) (l_constant : K.lookup f_constant = some ⟨oc_constant, od_constant, .func (PySem.W.fnOf "constant" "constant" (defArgs s_constant) (defBody s_constant) (defScope s_constant) .none kV_constant dc_constant pc_constant an_constant cd_constant ct_constant), sl_constant⟩) (c_constant : PySem.W.codeIn K cd_constant "constant" = true) (k_constant : PySem.W.keepIn K (.ref f_constant) = true)
    {f_shifted : Addr} {od_shifted an_shifted : Option Addr} {sl_shifted : Array (Option Value)} {oc_shifted kV_shifted dc_shifted pc_shifted cd_shifted ct_shifted : Value}
    (a_shifted : PySem.W.nsIn K mainGlobals "shifted" = some (some (.ref f_shifted))) (l_shifted : K.lookup f_shifted = some ⟨oc_shifted, od_shifted, .func (PySem.W.fnOf "shifted" "shifted" (defArgs s_shifted) (defBody s_shifted) (defScope s_shifted) .none kV_shifted dc_shifted pc_shifted an_shifted cd_shifted ct_shifted), sl_shifted⟩) (c_shifted : PySem.W.codeIn K cd_shifted "shifted" = true) (k_shifted : PySem.W.keepIn K (.ref f_shifted) = true)
    {f_ways_to_choose : Addr} {od_ways_to_choose an_ways_to_choose : Option Addr} {sl_ways_to_choose : Array (Option Value)} {oc_ways_to_choose kV_ways_to_choose dc_ways_to_choose pc_ways_to_choose cd_ways_to_choose ct_ways_to_choose : Value}
    (a_ways_to_choose : PySem.W.nsIn K mainGlobals "ways_to_choose" = some (some (.ref f_ways_to_choose))) (l_ways_to_choose : K.lookup f_ways_to_choose = some ⟨oc_ways_to_choose, od_ways_to_choose, .func (PySem.W.fnOf "ways_to_choose" "ways_to_choose" (defArgs s_ways_to_choose) (defBody s_ways_to_choose) (defScope s_ways_to_choose) .none kV_ways_to_choose dc_ways_to_choose pc_ways_to_choose an_ways_to_choose cd_ways_to_choose ct_ways_to_choose), sl_ways_to_choose⟩) (c_ways_to_choose : PySem.W.codeIn K cd_ways_to_choose "ways_to_choose" = true) (k_ways_to_choose : PySem.W.keepIn K (.ref f_ways_to_choose) = true)
    {f_handles_of : Addr} {od_handles_of an_handles_of : Option Addr} {sl_handles_of : Array (Option Value)} {oc_handles_of kV_handles_of dc_handles_of pc_handles_of cd_handles_of ct_handles_of : Value}
    (a_handles_of : PySem.W.nsIn K mainGlobals "handles_of" = some (some (.ref f_handles_of))) (l_handles_of : K.lookup f_handles_of = some ⟨oc_handles_of, od_handles_of, .func (PySem.W.fnOf "handles_of" "handles_of" (defArgs s_handles_of) (defBody s_handles_of) (defScope s_handles_of) .none kV_handles_of dc_handles_of pc_handles_of an_handles_of cd_handles_of ct_handles_of), sl_handles_of⟩) (c_handles_of : PySem.W.codeIn K cd_handles_of "handles_of" = true) (k_handles_of : PySem.W.keepIn K (.ref f_handles_of) = true)
    {f_Part_init : Addr} {od_Part_init an_Part_init : Option Addr} {sl_Part_init : Array (Option Value)} {oc_Part_init kV_Part_init dc_Part_init pc_Part_init cd_Part_init ct_Part_init : Value}
    (a_Part_init : PySem.W.findIn K (.ref C_Part) "__init__" = some (some (.ref f_Part_init))) (l_Part_init : K.lookup f_Part_init = some ⟨oc_Part_init, od_Part_init, .func (PySem.W.fnOf "__init__" "Part.__init__" (defArgs s_Part_init) (defBody s_Part_init) (defScope s_Part_init) .none kV_Part_init dc_Part_init pc_Part_init an_Part_init cd_Part_init ct_Part_init), sl_Part_init⟩) (c_Part_init : PySem.W.codeIn K cd_Part_init "Part.__init__" = true) (k_Part_init : PySem.W.keepIn K (.ref f_Part_init) = true)
    (i_Part_init : PySem.W.isFn K (.ref f_Part_init) = true)
    (mk_Part : PySem.W.makesIn K C_Part = true) (kc_Part : PySem.W.keepIn K (.ref C_Part) = true)
    {f_Part_halves : Addr} {od_Part_halves an_Part_halves : Option Addr} {sl_Part_halves : Array (Option Value)} {oc_Part_halves kV_Part_halves dc_Part_halves pc_Part_halves cd_Part_halves ct_Part_halves : Value}
    (a_Part_halves : PySem.W.findIn K (.ref C_Part) "halves" = some (some (.ref f_Part_halves))) (l_Part_halves : K.lookup f_Part_halves = some ⟨oc_Part_halves, od_Part_halves, .func (PySem.W.fnOf "halves" "Part.halves" (defArgs s_Part_halves) (defBody s_Part_halves) (defScope s_Part_halves) .none kV_Part_halves dc_Part_halves pc_Part_halves an_Part_halves cd_Part_halves ct_Part_halves), sl_Part_halves⟩) (c_Part_halves : PySem.W.codeIn K cd_Part_halves "Part.halves" = true) (k_Part_halves : PySem.W.keepIn K (.ref f_Part_halves) = true)
    (i_Part_halves : PySem.W.isFn K (.ref f_Part_halves) = true)
    {f_degree : Addr} {od_degree an_degree : Option Addr} {sl_degree : Array (Option Value)} {oc_degree kV_degree dc_degree pc_degree cd_degree ct_degree : Value}
    (a_degree : PySem.W.nsIn K mainGlobals "degree" = some (some (.ref f_degree))) (l_degree : K.lookup f_degree = some ⟨oc_degree, od_degree, .func (PySem.W.fnOf "degree" "degree" (defArgs s_degree) (defBody s_degree) (defScope s_degree) .none kV_degree dc_degree pc_degree an_degree cd_degree ct_degree), sl_degree⟩) (c_degree : PySem.W.codeIn K cd_degree "degree" = true) (k_degree : PySem.W.keepIn K (.ref f_degree) = true)
    {f_knots_of : Addr} {od_knots_of an_knots_of : Option Addr} {sl_knots_of : Array (Option Value)} {oc_knots_of kV_knots_of dc_knots_of pc_knots_of cd_knots_of ct_knots_of : Value}
    (a_knots_of : PySem.W.nsIn K mainGlobals "knots_of" = some (some (.ref f_knots_of))) (l_knots_of : K.lookup f_knots_of = some ⟨oc_knots_of, od_knots_of, .func (PySem.W.fnOf "knots_of" "knots_of" (defArgs s_knots_of) (defBody s_knots_of) (defScope s_knots_of) .none kV_knots_of dc_knots_of pc_knots_of an_knots_of cd_knots_of ct_knots_of), sl_knots_of⟩) (c_knots_of : PySem.W.codeIn K cd_knots_of "knots_of" = true) (k_knots_of : PySem.W.keepIn K (.ref f_knots_of) = true)
    {f_powered : Addr} {od_powered an_powered : Option Addr} {sl_powered : Array (Option Value)} {oc_powered kV_powered dc_powered pc_powered cd_powered ct_powered : Value}
    (a_powered : PySem.W.nsIn K mainGlobals "powered" = some (some (.ref f_powered))) (l_powered : K.lookup f_powered = some ⟨oc_powered, od_powered, .func (PySem.W.fnOf "powered" "powered" (defArgs s_powered) (defBody s_powered) (defScope s_powered) .none kV_powered dc_powered pc_powered an_powered cd_powered ct_powered), sl_powered⟩) (c_powered : PySem.W.codeIn K cd_powered "powered" = true) (k_powered : PySem.W.keepIn K (.ref f_powered) = true)
    {f_ways : Addr} {od_ways an_ways : Option Addr} {sl_ways : Array (Option Value)} {oc_ways kV_ways dc_ways pc_ways cd_ways ct_ways : Value}
    (a_ways : PySem.W.nsIn K mainGlobals "ways" = some (some (.ref f_ways))) (l_ways : K.lookup f_ways = some ⟨oc_ways, od_ways, .func (PySem.W.fnOf "ways" "ways" (defArgs s_ways) (defBody s_ways) (defScope s_ways) .none kV_ways dc_ways pc_ways an_ways cd_ways ct_ways), sl_ways⟩) (c_ways : PySem.W.codeIn K cd_ways "ways" = true) (k_ways : PySem.W.keepIn K (.ref f_ways) = true)
    {f_distance_power : Addr} {od_distance_power an_distance_power : Option Addr} {sl_distance_power : Array (Option Value)} {oc_distance_power kV_distance_power dc_distance_power pc_distance_power cd_distance_power ct_distance_power : Value}
    (a_distance_power : PySem.W.nsIn K mainGlobals "distance_power" = some (some (.ref f_distance_power))) (l_distance_power : K.lookup f_distance_power = some ⟨oc_distance_power, od_distance_power, .func (PySem.W.fnOf "distance_power" "distance_power" (defArgs s_distance_power) (defBody s_distance_power) (defScope s_distance_power) .none kV_distance_power dc_distance_power pc_distance_power an_distance_power cd_distance_power ct_distance_power), sl_distance_power⟩) (c_distance_power : PySem.W.codeIn K cd_distance_power "distance_power" = true) (k_distance_power : PySem.W.keepIn K (.ref f_distance_power) = true)
    {f_sum_of : Addr} {od_sum_of an_sum_of : Option Addr} {sl_sum_of : Array (Option Value)} {oc_sum_of kV_sum_of dc_sum_of pc_sum_of cd_sum_of ct_sum_of : Value}
    (a_sum_of : PySem.W.nsIn K mainGlobals "sum_of" = some (some (.ref f_sum_of))) (l_sum_of : K.lookup f_sum_of = some ⟨oc_sum_of, od_sum_of, .func (PySem.W.fnOf "sum_of" "sum_of" (defArgs s_sum_of) (defBody s_sum_of) (defScope s_sum_of) .none kV_sum_of dc_sum_of pc_sum_of an_sum_of cd_sum_of ct_sum_of), sl_sum_of⟩) (c_sum_of : PySem.W.codeIn K cd_sum_of "sum_of" = true) (k_sum_of : PySem.W.keepIn K (.ref f_sum_of) = true)
    {f_piece : Addr} {od_piece an_piece : Option Addr} {sl_piece : Array (Option Value)} {oc_piece kV_piece dc_piece pc_piece cd_piece ct_piece : Value}
    (a_piece : PySem.W.nsIn K mainGlobals "piece" = some (some (.ref f_piece))) (l_piece : K.lookup f_piece = some ⟨oc_piece, od_piece, .func (PySem.W.fnOf "piece" "piece" (defArgs s_piece) (defBody s_piece) (defScope s_piece) .none kV_piece dc_piece pc_piece an_piece cd_piece ct_piece), sl_piece⟩) (c_piece : PySem.W.codeIn K cd_piece "piece" = true) (k_piece : PySem.W.keepIn K (.ref f_piece) = true)
    {f_kernel : Addr} {od_kernel an_kernel : Option Addr} {sl_kernel : Array (Option Value)} {oc_kernel kV_kernel dc_kernel pc_kernel cd_kernel ct_kernel : Value}
    (a_kernel : PySem.W.nsIn K mainGlobals "kernel" = some (some (.ref f_kernel))) (l_kernel : K.lookup f_kernel = some ⟨oc_kernel, od_kernel, .func (PySem.W.fnOf "kernel" "kernel" (defArgs s_kernel) (defBody s_kernel) (defScope s_kernel) .none kV_kernel dc_kernel pc_kernel an_kernel cd_kernel ct_kernel), sl_kernel⟩) (c_kernel : PySem.W.codeIn K cd_kernel "kernel" = true) (k_kernel : PySem.W.keepIn K (.ref f_kernel) = true)
    {f_greatest_miss : Addr} {od_greatest_miss an_greatest_miss : Option Addr} {sl_greatest_miss : Array (Option Value)} {oc_greatest_miss kV_greatest_miss dc_greatest_miss pc_greatest_miss cd_greatest_miss ct_greatest_miss : Value}
    (a_greatest_miss : PySem.W.nsIn K mainGlobals "greatest_miss" = some (some (.ref f_greatest_miss))) (l_greatest_miss : K.lookup f_greatest_miss = some ⟨oc_greatest_miss, od_greatest_miss, .func (PySem.W.fnOf "greatest_miss" "greatest_miss" (defArgs s_greatest_miss) (defBody s_greatest_miss) (defScope s_greatest_miss) .none kV_greatest_miss dc_greatest_miss pc_greatest_miss an_greatest_miss cd_greatest_miss ct_greatest_miss), sl_greatest_miss⟩) (c_greatest_miss : PySem.W.codeIn K cd_greatest_miss "greatest_miss" = true) (k_greatest_miss : PySem.W.keepIn K (.ref f_greatest_miss) = true)
    {f_differences : Addr} {od_differences an_differences : Option Addr} {sl_differences : Array (Option Value)} {oc_differences kV_differences dc_differences pc_differences cd_differences ct_differences : Value}
    (a_differences : PySem.W.nsIn K mainGlobals "differences" = some (some (.ref f_differences))) (l_differences : K.lookup f_differences = some ⟨oc_differences, od_differences, .func (PySem.W.fnOf "differences" "differences" (defArgs s_differences) (defBody s_differences) (defScope s_differences) .none kV_differences dc_differences pc_differences an_differences cd_differences ct_differences), sl_differences⟩) (c_differences : PySem.W.codeIn K cd_differences "differences" = true) (k_differences : PySem.W.keepIn K (.ref f_differences) = true)
    {f_values_of : Addr} {od_values_of an_values_of : Option Addr} {sl_values_of : Array (Option Value)} {oc_values_of kV_values_of dc_values_of pc_values_of cd_values_of ct_values_of : Value}
    (a_values_of : PySem.W.nsIn K mainGlobals "values_of" = some (some (.ref f_values_of))) (l_values_of : K.lookup f_values_of = some ⟨oc_values_of, od_values_of, .func (PySem.W.fnOf "values_of" "values_of" (defArgs s_values_of) (defBody s_values_of) (defScope s_values_of) .none kV_values_of dc_values_of pc_values_of an_values_of cd_values_of ct_values_of), sl_values_of⟩) (c_values_of : PySem.W.codeIn K cd_values_of "values_of" = true) (k_values_of : PySem.W.keepIn K (.ref f_values_of) = true)
    {f_is_kind : Addr} {od_is_kind an_is_kind : Option Addr} {sl_is_kind : Array (Option Value)} {oc_is_kind kV_is_kind dc_is_kind pc_is_kind cd_is_kind ct_is_kind : Value}
    (a_is_kind : PySem.W.nsIn K mainGlobals "is_kind" = some (some (.ref f_is_kind))) (l_is_kind : K.lookup f_is_kind = some ⟨oc_is_kind, od_is_kind, .func (PySem.W.fnOf "is_kind" "is_kind" (defArgs s_is_kind) (defBody s_is_kind) (defScope s_is_kind) .none kV_is_kind dc_is_kind pc_is_kind an_is_kind cd_is_kind ct_is_kind), sl_is_kind⟩) (c_is_kind : PySem.W.codeIn K cd_is_kind "is_kind" = true) (k_is_kind : PySem.W.keepIn K (.ref f_is_kind) = true)
    {f_is_seen : Addr} {od_is_seen an_is_seen : Option Addr} {sl_is_seen : Array (Option Value)} {oc_is_seen kV_is_seen dc_is_seen pc_is_seen cd_is_seen ct_is_seen : Value}
    (a_is_seen : PySem.W.nsIn K mainGlobals "is_seen" = some (some (.ref f_is_seen))) (l_is_seen : K.lookup f_is_seen = some ⟨oc_is_seen, od_is_seen, .func (PySem.W.fnOf "is_seen" "is_seen" (defArgs s_is_seen) (defBody s_is_seen) (defScope s_is_seen) .none kV_is_seen dc_is_seen pc_is_seen an_is_seen cd_is_seen ct_is_seen), sl_is_seen⟩) (c_is_seen : PySem.W.codeIn K cd_is_seen "is_seen" = true) (k_is_seen : PySem.W.keepIn K (.ref f_is_seen) = true)
    {f_need_seen : Addr} {od_need_seen an_need_seen : Option Addr} {sl_need_seen : Array (Option Value)} {oc_need_seen kV_need_seen dc_need_seen pc_need_seen cd_need_seen ct_need_seen : Value}
    (a_need_seen : PySem.W.nsIn K mainGlobals "need_seen" = some (some (.ref f_need_seen))) (l_need_seen : K.lookup f_need_seen = some ⟨oc_need_seen, od_need_seen, .func (PySem.W.fnOf "need_seen" "need_seen" (defArgs s_need_seen) (defBody s_need_seen) (defScope s_need_seen) .none kV_need_seen dc_need_seen pc_need_seen an_need_seen cd_need_seen ct_need_seen), sl_need_seen⟩) (c_need_seen : PySem.W.codeIn K cd_need_seen "need_seen" = true) (k_need_seen : PySem.W.keepIn K (.ref f_need_seen) = true)
    {f_Table_init : Addr} {od_Table_init an_Table_init : Option Addr} {sl_Table_init : Array (Option Value)} {oc_Table_init kV_Table_init dc_Table_init pc_Table_init cd_Table_init ct_Table_init : Value}
    (a_Table_init : PySem.W.findIn K (.ref C_Table) "__init__" = some (some (.ref f_Table_init))) (l_Table_init : K.lookup f_Table_init = some ⟨oc_Table_init, od_Table_init, .func (PySem.W.fnOf "__init__" "Table.__init__" (defArgs s_Table_init) (defBody s_Table_init) (defScope s_Table_init) .none kV_Table_init dc_Table_init pc_Table_init an_Table_init cd_Table_init ct_Table_init), sl_Table_init⟩) (c_Table_init : PySem.W.codeIn K cd_Table_init "Table.__init__" = true) (k_Table_init : PySem.W.keepIn K (.ref f_Table_init) = true)
    (i_Table_init : PySem.W.isFn K (.ref f_Table_init) = true)
    (mk_Table : PySem.W.makesIn K C_Table = true) (kc_Table : PySem.W.keepIn K (.ref C_Table) = true)
    {f_Table_turn : Addr} {od_Table_turn an_Table_turn : Option Addr} {sl_Table_turn : Array (Option Value)} {oc_Table_turn kV_Table_turn dc_Table_turn pc_Table_turn cd_Table_turn ct_Table_turn : Value}
    (a_Table_turn : PySem.W.findIn K (.ref C_Table) "turn" = some (some (.ref f_Table_turn))) (l_Table_turn : K.lookup f_Table_turn = some ⟨oc_Table_turn, od_Table_turn, .func (PySem.W.fnOf "turn" "Table.turn" (defArgs s_Table_turn) (defBody s_Table_turn) (defScope s_Table_turn) .none kV_Table_turn dc_Table_turn pc_Table_turn an_Table_turn cd_Table_turn ct_Table_turn), sl_Table_turn⟩) (c_Table_turn : PySem.W.codeIn K cd_Table_turn "Table.turn" = true) (k_Table_turn : PySem.W.keepIn K (.ref f_Table_turn) = true)
    (i_Table_turn : PySem.W.isFn K (.ref f_Table_turn) = true)
    {f_Table_clear : Addr} {od_Table_clear an_Table_clear : Option Addr} {sl_Table_clear : Array (Option Value)} {oc_Table_clear kV_Table_clear dc_Table_clear pc_Table_clear cd_Table_clear ct_Table_clear : Value}
    (a_Table_clear : PySem.W.findIn K (.ref C_Table) "clear" = some (some (.ref f_Table_clear))) (l_Table_clear : K.lookup f_Table_clear = some ⟨oc_Table_clear, od_Table_clear, .func (PySem.W.fnOf "clear" "Table.clear" (defArgs s_Table_clear) (defBody s_Table_clear) (defScope s_Table_clear) .none kV_Table_clear dc_Table_clear pc_Table_clear an_Table_clear cd_Table_clear ct_Table_clear), sl_Table_clear⟩) (c_Table_clear : PySem.W.codeIn K cd_Table_clear "Table.clear" = true) (k_Table_clear : PySem.W.keepIn K (.ref f_Table_clear) = true)
    (i_Table_clear : PySem.W.isFn K (.ref f_Table_clear) = true)
    {f_Table_costs_left : Addr} {od_Table_costs_left an_Table_costs_left : Option Addr} {sl_Table_costs_left : Array (Option Value)} {oc_Table_costs_left kV_Table_costs_left dc_Table_costs_left pc_Table_costs_left cd_Table_costs_left ct_Table_costs_left : Value}
    (a_Table_costs_left : PySem.W.findIn K (.ref C_Table) "costs_left" = some (some (.ref f_Table_costs_left))) (l_Table_costs_left : K.lookup f_Table_costs_left = some ⟨oc_Table_costs_left, od_Table_costs_left, .func (PySem.W.fnOf "costs_left" "Table.costs_left" (defArgs s_Table_costs_left) (defBody s_Table_costs_left) (defScope s_Table_costs_left) .none kV_Table_costs_left dc_Table_costs_left pc_Table_costs_left an_Table_costs_left cd_Table_costs_left ct_Table_costs_left), sl_Table_costs_left⟩) (c_Table_costs_left : PySem.W.codeIn K cd_Table_costs_left "Table.costs_left" = true) (k_Table_costs_left : PySem.W.keepIn K (.ref f_Table_costs_left) = true)
    (i_Table_costs_left : PySem.W.isFn K (.ref f_Table_costs_left) = true)
    {f_Table_counts_of : Addr} {od_Table_counts_of an_Table_counts_of : Option Addr} {sl_Table_counts_of : Array (Option Value)} {oc_Table_counts_of kV_Table_counts_of dc_Table_counts_of pc_Table_counts_of cd_Table_counts_of ct_Table_counts_of : Value}
    (a_Table_counts_of : PySem.W.findIn K (.ref C_Table) "counts_of" = some (some (.ref f_Table_counts_of))) (l_Table_counts_of : K.lookup f_Table_counts_of = some ⟨oc_Table_counts_of, od_Table_counts_of, .func (PySem.W.fnOf "counts_of" "Table.counts_of" (defArgs s_Table_counts_of) (defBody s_Table_counts_of) (defScope s_Table_counts_of) .none kV_Table_counts_of dc_Table_counts_of pc_Table_counts_of an_Table_counts_of cd_Table_counts_of ct_Table_counts_of), sl_Table_counts_of⟩) (c_Table_counts_of : PySem.W.codeIn K cd_Table_counts_of "Table.counts_of" = true) (k_Table_counts_of : PySem.W.keepIn K (.ref f_Table_counts_of) = true)
    (i_Table_counts_of : PySem.W.isFn K (.ref f_Table_counts_of) = true)
    {f_Table_place_for : Addr} {od_Table_place_for an_Table_place_for : Option Addr} {sl_Table_place_for : Array (Option Value)} {oc_Table_place_for kV_Table_place_for dc_Table_place_for pc_Table_place_for cd_Table_place_for ct_Table_place_for : Value}
    (a_Table_place_for : PySem.W.findIn K (.ref C_Table) "place_for" = some (some (.ref f_Table_place_for))) (l_Table_place_for : K.lookup f_Table_place_for = some ⟨oc_Table_place_for, od_Table_place_for, .func (PySem.W.fnOf "place_for" "Table.place_for" (defArgs s_Table_place_for) (defBody s_Table_place_for) (defScope s_Table_place_for) .none kV_Table_place_for dc_Table_place_for pc_Table_place_for an_Table_place_for cd_Table_place_for ct_Table_place_for), sl_Table_place_for⟩) (c_Table_place_for : PySem.W.codeIn K cd_Table_place_for "Table.place_for" = true) (k_Table_place_for : PySem.W.keepIn K (.ref f_Table_place_for) = true)
    (i_Table_place_for : PySem.W.isFn K (.ref f_Table_place_for) = true)
    {f_Table_lower : Addr} {od_Table_lower an_Table_lower : Option Addr} {sl_Table_lower : Array (Option Value)} {oc_Table_lower kV_Table_lower dc_Table_lower pc_Table_lower cd_Table_lower ct_Table_lower : Value}
    (a_Table_lower : PySem.W.findIn K (.ref C_Table) "lower" = some (some (.ref f_Table_lower))) (l_Table_lower : K.lookup f_Table_lower = some ⟨oc_Table_lower, od_Table_lower, .func (PySem.W.fnOf "lower" "Table.lower" (defArgs s_Table_lower) (defBody s_Table_lower) (defScope s_Table_lower) .none kV_Table_lower dc_Table_lower pc_Table_lower an_Table_lower cd_Table_lower ct_Table_lower), sl_Table_lower⟩) (c_Table_lower : PySem.W.codeIn K cd_Table_lower "Table.lower" = true) (k_Table_lower : PySem.W.keepIn K (.ref f_Table_lower) = true)
    (i_Table_lower : PySem.W.isFn K (.ref f_Table_lower) = true)
    {f_Table_values_now : Addr} {od_Table_values_now an_Table_values_now : Option Addr} {sl_Table_values_now : Array (Option Value)} {oc_Table_values_now kV_Table_values_now dc_Table_values_now pc_Table_values_now cd_Table_values_now ct_Table_values_now : Value}
    (a_Table_values_now : PySem.W.findIn K (.ref C_Table) "values_now" = some (some (.ref f_Table_values_now))) (l_Table_values_now : K.lookup f_Table_values_now = some ⟨oc_Table_values_now, od_Table_values_now, .func (PySem.W.fnOf "values_now" "Table.values_now" (defArgs s_Table_values_now) (defBody s_Table_values_now) (defScope s_Table_values_now) .none kV_Table_values_now dc_Table_values_now pc_Table_values_now an_Table_values_now cd_Table_values_now ct_Table_values_now), sl_Table_values_now⟩) (c_Table_values_now : PySem.W.codeIn K cd_Table_values_now "Table.values_now" = true) (k_Table_values_now : PySem.W.keepIn K (.ref f_Table_values_now) = true)
    (i_Table_values_now : PySem.W.isFn K (.ref f_Table_values_now) = true)
    {f_Table_way_of : Addr} {od_Table_way_of an_Table_way_of : Option Addr} {sl_Table_way_of : Array (Option Value)} {oc_Table_way_of kV_Table_way_of dc_Table_way_of pc_Table_way_of cd_Table_way_of ct_Table_way_of : Value}
    (a_Table_way_of : PySem.W.findIn K (.ref C_Table) "way_of" = some (some (.ref f_Table_way_of))) (l_Table_way_of : K.lookup f_Table_way_of = some ⟨oc_Table_way_of, od_Table_way_of, .func (PySem.W.fnOf "way_of" "Table.way_of" (defArgs s_Table_way_of) (defBody s_Table_way_of) (defScope s_Table_way_of) .none kV_Table_way_of dc_Table_way_of pc_Table_way_of an_Table_way_of cd_Table_way_of ct_Table_way_of), sl_Table_way_of⟩) (c_Table_way_of : PySem.W.codeIn K cd_Table_way_of "Table.way_of" = true) (k_Table_way_of : PySem.W.keepIn K (.ref f_Table_way_of) = true)
    (i_Table_way_of : PySem.W.isFn K (.ref f_Table_way_of) = true)
    {f_row_told : Addr} {od_row_told an_row_told : Option Addr} {sl_row_told : Array (Option Value)} {oc_row_told kV_row_told dc_row_told pc_row_told cd_row_told ct_row_told : Value}
    (a_row_told : PySem.W.nsIn K mainGlobals "row_told" = some (some (.ref f_row_told))) (l_row_told : K.lookup f_row_told = some ⟨oc_row_told, od_row_told, .func (PySem.W.fnOf "row_told" "row_told" (defArgs s_row_told) (defBody s_row_told) (defScope s_row_told) .none kV_row_told dc_row_told pc_row_told an_row_told cd_row_told ct_row_told), sl_row_told⟩) (c_row_told : PySem.W.codeIn K cd_row_told "row_told" = true) (k_row_told : PySem.W.keepIn K (.ref f_row_told) = true)
    {f_unit_row : Addr} {od_unit_row an_unit_row : Option Addr} {sl_unit_row : Array (Option Value)} {oc_unit_row kV_unit_row dc_unit_row pc_unit_row cd_unit_row ct_unit_row : Value}
    (a_unit_row : PySem.W.nsIn K mainGlobals "unit_row" = some (some (.ref f_unit_row))) (l_unit_row : K.lookup f_unit_row = some ⟨oc_unit_row, od_unit_row, .func (PySem.W.fnOf "unit_row" "unit_row" (defArgs s_unit_row) (defBody s_unit_row) (defScope s_unit_row) .none kV_unit_row dc_unit_row pc_unit_row an_unit_row cd_unit_row ct_unit_row), sl_unit_row⟩) (c_unit_row : PySem.W.codeIn K cd_unit_row "unit_row" = true) (k_unit_row : PySem.W.keepIn K (.ref f_unit_row) = true)
    {f_factors_of : Addr} {od_factors_of an_factors_of : Option Addr} {sl_factors_of : Array (Option Value)} {oc_factors_of kV_factors_of dc_factors_of pc_factors_of cd_factors_of ct_factors_of : Value}
    (a_factors_of : PySem.W.nsIn K mainGlobals "factors_of" = some (some (.ref f_factors_of))) (l_factors_of : K.lookup f_factors_of = some ⟨oc_factors_of, od_factors_of, .func (PySem.W.fnOf "factors_of" "factors_of" (defArgs s_factors_of) (defBody s_factors_of) (defScope s_factors_of) .none kV_factors_of dc_factors_of pc_factors_of an_factors_of cd_factors_of ct_factors_of), sl_factors_of⟩) (c_factors_of : PySem.W.codeIn K cd_factors_of "factors_of" = true) (k_factors_of : PySem.W.keepIn K (.ref f_factors_of) = true)
    {f_row_of : Addr} {od_row_of an_row_of : Option Addr} {sl_row_of : Array (Option Value)} {oc_row_of kV_row_of dc_row_of pc_row_of cd_row_of ct_row_of : Value}
    (a_row_of : PySem.W.nsIn K mainGlobals "row_of" = some (some (.ref f_row_of))) (l_row_of : K.lookup f_row_of = some ⟨oc_row_of, od_row_of, .func (PySem.W.fnOf "row_of" "row_of" (defArgs s_row_of) (defBody s_row_of) (defScope s_row_of) .none kV_row_of dc_row_of pc_row_of an_row_of cd_row_of ct_row_of), sl_row_of⟩) (c_row_of : PySem.W.codeIn K cd_row_of "row_of" = true) (k_row_of : PySem.W.keepIn K (.ref f_row_of) = true)
    {f_power_row : Addr} {od_power_row an_power_row : Option Addr} {sl_power_row : Array (Option Value)} {oc_power_row kV_power_row dc_power_row pc_power_row cd_power_row ct_power_row : Value}
    (a_power_row : PySem.W.nsIn K mainGlobals "power_row" = some (some (.ref f_power_row))) (l_power_row : K.lookup f_power_row = some ⟨oc_power_row, od_power_row, .func (PySem.W.fnOf "power_row" "power_row" (defArgs s_power_row) (defBody s_power_row) (defScope s_power_row) .none kV_power_row dc_power_row pc_power_row an_power_row cd_power_row ct_power_row), sl_power_row⟩) (c_power_row : PySem.W.codeIn K cd_power_row "power_row" = true) (k_power_row : PySem.W.keepIn K (.ref f_power_row) = true)
    {f_unit_rows : Addr} {od_unit_rows an_unit_rows : Option Addr} {sl_unit_rows : Array (Option Value)} {oc_unit_rows kV_unit_rows dc_unit_rows pc_unit_rows cd_unit_rows ct_unit_rows : Value}
    (a_unit_rows : PySem.W.nsIn K mainGlobals "unit_rows" = some (some (.ref f_unit_rows))) (l_unit_rows : K.lookup f_unit_rows = some ⟨oc_unit_rows, od_unit_rows, .func (PySem.W.fnOf "unit_rows" "unit_rows" (defArgs s_unit_rows) (defBody s_unit_rows) (defScope s_unit_rows) .none kV_unit_rows dc_unit_rows pc_unit_rows an_unit_rows cd_unit_rows ct_unit_rows), sl_unit_rows⟩) (c_unit_rows : PySem.W.codeIn K cd_unit_rows "unit_rows" = true) (k_unit_rows : PySem.W.keepIn K (.ref f_unit_rows) = true)
    {f_solved : Addr} {od_solved an_solved : Option Addr} {sl_solved : Array (Option Value)} {oc_solved kV_solved dc_solved pc_solved cd_solved ct_solved : Value}
    (a_solved : PySem.W.nsIn K mainGlobals "solved" = some (some (.ref f_solved))) (l_solved : K.lookup f_solved = some ⟨oc_solved, od_solved, .func (PySem.W.fnOf "solved" "solved" (defArgs s_solved) (defBody s_solved) (defScope s_solved) .none kV_solved dc_solved pc_solved an_solved cd_solved ct_solved), sl_solved⟩) (c_solved : PySem.W.codeIn K cd_solved "solved" = true) (k_solved : PySem.W.keepIn K (.ref f_solved) = true)
    {f_row_paper : Addr} {od_row_paper an_row_paper : Option Addr} {sl_row_paper : Array (Option Value)} {oc_row_paper kV_row_paper dc_row_paper pc_row_paper cd_row_paper ct_row_paper : Value}
    (a_row_paper : PySem.W.nsIn K mainGlobals "row_paper" = some (some (.ref f_row_paper))) (l_row_paper : K.lookup f_row_paper = some ⟨oc_row_paper, od_row_paper, .func (PySem.W.fnOf "row_paper" "row_paper" (defArgs s_row_paper) (defBody s_row_paper) (defScope s_row_paper) .none kV_row_paper dc_row_paper pc_row_paper an_row_paper cd_row_paper ct_row_paper), sl_row_paper⟩) (c_row_paper : PySem.W.codeIn K cd_row_paper "row_paper" = true) (k_row_paper : PySem.W.keepIn K (.ref f_row_paper) = true)
    {f_row_least : Addr} {od_row_least an_row_least : Option Addr} {sl_row_least : Array (Option Value)} {oc_row_least kV_row_least dc_row_least pc_row_least cd_row_least ct_row_least : Value}
    (a_row_least : PySem.W.nsIn K mainGlobals "row_least" = some (some (.ref f_row_least))) (l_row_least : K.lookup f_row_least = some ⟨oc_row_least, od_row_least, .func (PySem.W.fnOf "row_least" "row_least" (defArgs s_row_least) (defBody s_row_least) (defScope s_row_least) .none kV_row_least dc_row_least pc_row_least an_row_least cd_row_least ct_row_least), sl_row_least⟩) (c_row_least : PySem.W.codeIn K cd_row_least "row_least" = true) (k_row_least : PySem.W.keepIn K (.ref f_row_least) = true)
    {f_row_greatest : Addr} {od_row_greatest an_row_greatest : Option Addr} {sl_row_greatest : Array (Option Value)} {oc_row_greatest kV_row_greatest dc_row_greatest pc_row_greatest cd_row_greatest ct_row_greatest : Value}
    (a_row_greatest : PySem.W.nsIn K mainGlobals "row_greatest" = some (some (.ref f_row_greatest))) (l_row_greatest : K.lookup f_row_greatest = some ⟨oc_row_greatest, od_row_greatest, .func (PySem.W.fnOf "row_greatest" "row_greatest" (defArgs s_row_greatest) (defBody s_row_greatest) (defScope s_row_greatest) .none kV_row_greatest dc_row_greatest pc_row_greatest an_row_greatest cd_row_greatest ct_row_greatest), sl_row_greatest⟩) (c_row_greatest : PySem.W.codeIn K cd_row_greatest "row_greatest" = true) (k_row_greatest : PySem.W.keepIn K (.ref f_row_greatest) = true)
    {f_row_kernel : Addr} {od_row_kernel an_row_kernel : Option Addr} {sl_row_kernel : Array (Option Value)} {oc_row_kernel kV_row_kernel dc_row_kernel pc_row_kernel cd_row_kernel ct_row_kernel : Value}
    (a_row_kernel : PySem.W.nsIn K mainGlobals "row_kernel" = some (some (.ref f_row_kernel))) (l_row_kernel : K.lookup f_row_kernel = some ⟨oc_row_kernel, od_row_kernel, .func (PySem.W.fnOf "row_kernel" "row_kernel" (defArgs s_row_kernel) (defBody s_row_kernel) (defScope s_row_kernel) .none kV_row_kernel dc_row_kernel pc_row_kernel an_row_kernel cd_row_kernel ct_row_kernel), sl_row_kernel⟩) (c_row_kernel : PySem.W.codeIn K cd_row_kernel "row_kernel" = true) (k_row_kernel : PySem.W.keepIn K (.ref f_row_kernel) = true)
    {f_row_refuting : Addr} {od_row_refuting an_row_refuting : Option Addr} {sl_row_refuting : Array (Option Value)} {oc_row_refuting kV_row_refuting dc_row_refuting pc_row_refuting cd_row_refuting ct_row_refuting : Value}
    (a_row_refuting : PySem.W.nsIn K mainGlobals "row_refuting" = some (some (.ref f_row_refuting))) (l_row_refuting : K.lookup f_row_refuting = some ⟨oc_row_refuting, od_row_refuting, .func (PySem.W.fnOf "row_refuting" "row_refuting" (defArgs s_row_refuting) (defBody s_row_refuting) (defScope s_row_refuting) .none kV_row_refuting dc_row_refuting pc_row_refuting an_row_refuting cd_row_refuting ct_row_refuting), sl_row_refuting⟩) (c_row_refuting : PySem.W.codeIn K cd_row_refuting "row_refuting" = true) (k_row_refuting : PySem.W.keepIn K (.ref f_row_refuting) = true)
    {f_row_never_below : Addr} {od_row_never_below an_row_never_below : Option Addr} {sl_row_never_below : Array (Option Value)} {oc_row_never_below kV_row_never_below dc_row_never_below pc_row_never_below cd_row_never_below ct_row_never_below : Value}
    (a_row_never_below : PySem.W.nsIn K mainGlobals "row_never_below" = some (some (.ref f_row_never_below))) (l_row_never_below : K.lookup f_row_never_below = some ⟨oc_row_never_below, od_row_never_below, .func (PySem.W.fnOf "row_never_below" "row_never_below" (defArgs s_row_never_below) (defBody s_row_never_below) (defScope s_row_never_below) .none kV_row_never_below dc_row_never_below pc_row_never_below an_row_never_below cd_row_never_below ct_row_never_below), sl_row_never_below⟩) (c_row_never_below : PySem.W.codeIn K cd_row_never_below "row_never_below" = true) (k_row_never_below : PySem.W.keepIn K (.ref f_row_never_below) = true)
    {f_are_values : Addr} {od_are_values an_are_values : Option Addr} {sl_are_values : Array (Option Value)} {oc_are_values kV_are_values dc_are_values pc_are_values cd_are_values ct_are_values : Value}
    (a_are_values : PySem.W.nsIn K mainGlobals "are_values" = some (some (.ref f_are_values))) (l_are_values : K.lookup f_are_values = some ⟨oc_are_values, od_are_values, .func (PySem.W.fnOf "are_values" "are_values" (defArgs s_are_values) (defBody s_are_values) (defScope s_are_values) .none kV_are_values dc_are_values pc_are_values an_are_values cd_are_values ct_are_values), sl_are_values⟩) (c_are_values : PySem.W.codeIn K cd_are_values "are_values" = true) (k_are_values : PySem.W.keepIn K (.ref f_are_values) = true)
    {f_are_counts : Addr} {od_are_counts an_are_counts : Option Addr} {sl_are_counts : Array (Option Value)} {oc_are_counts kV_are_counts dc_are_counts pc_are_counts cd_are_counts ct_are_counts : Value}
    (a_are_counts : PySem.W.nsIn K mainGlobals "are_counts" = some (some (.ref f_are_counts))) (l_are_counts : K.lookup f_are_counts = some ⟨oc_are_counts, od_are_counts, .func (PySem.W.fnOf "are_counts" "are_counts" (defArgs s_are_counts) (defBody s_are_counts) (defScope s_are_counts) .none kV_are_counts dc_are_counts pc_are_counts an_are_counts cd_are_counts ct_are_counts), sl_are_counts⟩) (c_are_counts : PySem.W.codeIn K cd_are_counts "are_counts" = true) (k_are_counts : PySem.W.keepIn K (.ref f_are_counts) = true)
    {f_is_row : Addr} {od_is_row an_is_row : Option Addr} {sl_is_row : Array (Option Value)} {oc_is_row kV_is_row dc_is_row pc_is_row cd_is_row ct_is_row : Value}
    (a_is_row : PySem.W.nsIn K mainGlobals "is_row" = some (some (.ref f_is_row))) (l_is_row : K.lookup f_is_row = some ⟨oc_is_row, od_is_row, .func (PySem.W.fnOf "is_row" "is_row" (defArgs s_is_row) (defBody s_is_row) (defScope s_is_row) .none kV_is_row dc_is_row pc_is_row an_is_row cd_is_row ct_is_row), sl_is_row⟩) (c_is_row : PySem.W.codeIn K cd_is_row "is_row" = true) (k_is_row : PySem.W.keepIn K (.ref f_is_row) = true)
    {f_worth_of : Addr} {od_worth_of an_worth_of : Option Addr} {sl_worth_of : Array (Option Value)} {oc_worth_of kV_worth_of dc_worth_of pc_worth_of cd_worth_of ct_worth_of : Value}
    (a_worth_of : PySem.W.nsIn K mainGlobals "worth_of" = some (some (.ref f_worth_of))) (l_worth_of : K.lookup f_worth_of = some ⟨oc_worth_of, od_worth_of, .func (PySem.W.fnOf "worth_of" "worth_of" (defArgs s_worth_of) (defBody s_worth_of) (defScope s_worth_of) .none kV_worth_of dc_worth_of pc_worth_of an_worth_of cd_worth_of ct_worth_of), sl_worth_of⟩) (c_worth_of : PySem.W.codeIn K cd_worth_of "worth_of" = true) (k_worth_of : PySem.W.keepIn K (.ref f_worth_of) = true)
    {f_row_paper_holds : Addr} {od_row_paper_holds an_row_paper_holds : Option Addr} {sl_row_paper_holds : Array (Option Value)} {oc_row_paper_holds kV_row_paper_holds dc_row_paper_holds pc_row_paper_holds cd_row_paper_holds ct_row_paper_holds : Value}
    (a_row_paper_holds : PySem.W.nsIn K mainGlobals "row_paper_holds" = some (some (.ref f_row_paper_holds))) (l_row_paper_holds : K.lookup f_row_paper_holds = some ⟨oc_row_paper_holds, od_row_paper_holds, .func (PySem.W.fnOf "row_paper_holds" "row_paper_holds" (defArgs s_row_paper_holds) (defBody s_row_paper_holds) (defScope s_row_paper_holds) .none kV_row_paper_holds dc_row_paper_holds pc_row_paper_holds an_row_paper_holds cd_row_paper_holds ct_row_paper_holds), sl_row_paper_holds⟩) (c_row_paper_holds : PySem.W.codeIn K cd_row_paper_holds "row_paper_holds" = true) (k_row_paper_holds : PySem.W.keepIn K (.ref f_row_paper_holds) = true)
    {f_law : Addr} {od_law an_law : Option Addr} {sl_law : Array (Option Value)} {oc_law kV_law dc_law pc_law cd_law ct_law : Value}
    (a_law : PySem.W.nsIn K mainGlobals "law" = some (some (.ref f_law))) (l_law : K.lookup f_law = some ⟨oc_law, od_law, .func (PySem.W.fnOf "law" "law" (defArgs s_law) (defBody s_law) (defScope s_law) .none kV_law dc_law pc_law an_law cd_law ct_law), sl_law⟩) (c_law : PySem.W.codeIn K cd_law "law" = true) (k_law : PySem.W.keepIn K (.ref f_law) = true)
    (sf_Rule : PySem.W.selfFirst K C_Rule = true)
    {g_MINUS : Addr} {gd_MINUS : Option Addr} {gi_MINUS : Array Value} {gn_MINUS : Nat} {gs_MINUS : Array (Option Value)} (a_MINUS : PySem.W.nsIn K mainGlobals "MINUS" = some (some (.ref g_MINUS))) (l_MINUS : K.lookup g_MINUS = some ⟨.type "tuple", gd_MINUS, .seq gi_MINUS gn_MINUS, gs_MINUS⟩) (v_MINUS : gi_MINUS.size ≤ sizeLine ∧ ∃ vs, Vals vs gi_MINUS.toList ∧ ∀ H, DRs K H vs [.int (-1), .int (1)])
    {g_NOUGHT : Addr} {gd_NOUGHT : Option Addr} {gi_NOUGHT : Array Value} {gn_NOUGHT : Nat} {gs_NOUGHT : Array (Option Value)} (a_NOUGHT : PySem.W.nsIn K mainGlobals "NOUGHT" = some (some (.ref g_NOUGHT))) (l_NOUGHT : K.lookup g_NOUGHT = some ⟨.type "tuple", gd_NOUGHT, .seq gi_NOUGHT gn_NOUGHT, gs_NOUGHT⟩) (v_NOUGHT : gi_NOUGHT.size ≤ sizeLine ∧ ∃ vs, Vals vs gi_NOUGHT.toList ∧ ∀ H, DRs K H vs [.int (0), .int (1)])
    {g_ONE : Addr} {gd_ONE : Option Addr} {gi_ONE : Array Value} {gn_ONE : Nat} {gs_ONE : Array (Option Value)} (a_ONE : PySem.W.nsIn K mainGlobals "ONE" = some (some (.ref g_ONE))) (l_ONE : K.lookup g_ONE = some ⟨.type "tuple", gd_ONE, .seq gi_ONE gn_ONE, gs_ONE⟩) (v_ONE : gi_ONE.size ≤ sizeLine ∧ ∃ vs, Vals vs gi_ONE.toList ∧ ∀ H, DRs K H vs [.int (1), .int (1)])
    (z_abs : PySem.W.nsIn K mainGlobals "abs" = some none)
    (z_all : PySem.W.nsIn K mainGlobals "all" = some none)
    (z_any : PySem.W.nsIn K mainGlobals "any" = some none)
    (z_bool : PySem.W.nsIn K mainGlobals "bool" = some none)
    (z_enumerate : PySem.W.nsIn K mainGlobals "enumerate" = some none)
    (z_int : PySem.W.nsIn K mainGlobals "int" = some none)
    (z_isinstance : PySem.W.nsIn K mainGlobals "isinstance" = some none)
    (z_len : PySem.W.nsIn K mainGlobals "len" = some none)
    (z_list : PySem.W.nsIn K mainGlobals "list" = some none)
    (z_max : PySem.W.nsIn K mainGlobals "max" = some none)
    (z_min : PySem.W.nsIn K mainGlobals "min" = some none)
    (z_range : PySem.W.nsIn K mainGlobals "range" = some none)
    (z_set : PySem.W.nsIn K mainGlobals "set" = some none)
    (z_sorted : PySem.W.nsIn K mainGlobals "sorted" = some none)
    (z_str : PySem.W.nsIn K mainGlobals "str" = some none)
    (z_tuple : PySem.W.nsIn K mainGlobals "tuple" = some none)
    (z_zip : PySem.W.nsIn K mainGlobals "zip" = some none)
    : ∃ fd : FuncData, (∀ (s : Shared) (u : Value), BindsTo s fd ⟨[u], []⟩ [("_law_script", u)]) ∧ ∀ (base : Heap) (s : Shared) (H : Hp) (a : Addr) (Q : VK), K.In base → base.Ns mainGlobals mg → Env0 l.prog w K mg base callerA [] s H → BindsTo s fd ⟨[.ref a], []⟩ [("_law_script", .ref a)] → spF K r_law [.ref a] H Q E0 →
      codeAny (model l.prog w) callerA (.call (.ref fa) ⟨[.ref a], []⟩) (CR CX0 [] l.prog w H s Q E0) s := by
  have e := hfa.symm.trans (PySem.W.mg_of X G a_law)
  cases e
  have T : ∃ T : Txt K mg, T.law = fnT X G a_law l_law c_law k_law := ⟨{ Part := ⟨C_Part, PySem.W.mg_of X G aC_Part, aC_Part, ⟨pg_Part, hd_Part, po_Part, sa_Part⟩, na_list6 na_Part_0 na_Part_1 na_Part_2 na_Part_3 na_Part_4 na_Part_5⟩, Rule := ⟨C_Rule, PySem.W.mg_of X G aC_Rule, aC_Rule, ⟨pg_Rule, hd_Rule, po_Rule, sa_Rule⟩, na_list4 na_Rule_0 na_Rule_1 na_Rule_2 na_Rule_3⟩, Table := ⟨C_Table, PySem.W.mg_of X G aC_Table, aC_Table, ⟨pg_Table, hd_Table, po_Table, sa_Table⟩, na_list5 na_Table_0 na_Table_1 na_Table_2 na_Table_3 na_Table_4⟩, is_sequence := fnT X G a_is_sequence l_is_sequence c_is_sequence k_is_sequence, is_less := fnT X G a_is_less l_is_less c_is_less k_is_less, is_integer := fnT X G a_is_integer l_is_integer c_is_integer k_is_integer, divisor := fnT X G a_divisor l_divisor c_divisor k_divisor, is_pair := fnT X G a_is_pair l_is_pair c_is_pair k_is_pair, is_value := fnT X G a_is_value l_is_value c_is_value k_is_value, value_of := fnT X G a_value_of l_value_of c_value_of k_value_of, is_between := fnT X G a_is_between l_is_between c_is_between k_is_between, is_share := fnT X G a_is_share l_is_share c_is_share k_is_share, is_weight := fnT X G a_is_weight l_is_weight c_is_weight k_is_weight, ascending := fnT X G a_ascending l_ascending c_ascending k_ascending, lowest := fnT X G a_lowest l_lowest c_lowest k_lowest, added := fnT X G a_added l_added c_added k_added, summed := fnT X G a_summed l_summed c_summed k_summed, least_shares := fnT X G a_least_shares l_least_shares c_least_shares k_least_shares, least_weights := fnT X G a_least_weights l_least_weights c_least_weights k_least_weights, need_stretch := fnT X G a_need_stretch l_need_stretch c_need_stretch k_need_stretch, Rule_init := ⟨f_Rule_init, _, v_Rule_init.choose, ⟨⟨_, _, _, _, _, _, _, _, _, _, rfl, l_Rule_init, c_Rule_init, .inr ⟨vne v_Rule_init.choose_spec.2 rfl, _, _, _, _, rfl, t_Rule_init, td_Rule_init, v_Rule_init.choose_spec.1⟩, .inl rfl⟩, k_Rule_init⟩, ⟨a_Rule_init, i_Rule_init, k_Rule_init⟩, v_Rule_init.choose_spec.2⟩, mk_Rule := ⟨mk_Rule, a_Rule_init, i_Rule_init, kc_Rule⟩, Rule_add := ⟨f_Rule_add, _, fun_mk l_Rule_add c_Rule_add k_Rule_add, ⟨a_Rule_add, i_Rule_add, k_Rule_add⟩⟩, Rule_neg := ⟨f_Rule_neg, _, fun_mk l_Rule_neg c_Rule_neg k_Rule_neg, ⟨a_Rule_neg, i_Rule_neg, k_Rule_neg⟩⟩, Rule_sub := ⟨f_Rule_sub, _, fun_mk l_Rule_sub c_Rule_sub k_Rule_sub, ⟨a_Rule_sub, i_Rule_sub, k_Rule_sub⟩⟩, area := fnT X G a_area l_area c_area k_area, product_to := fnT X G a_product_to l_product_to c_product_to k_product_to, quotient := fnT X G a_quotient l_quotient c_quotient k_quotient, area_powers := fnT X G a_area_powers l_area_powers c_area_powers k_area_powers, less_by := fnT X G a_less_by l_less_by c_less_by k_less_by, multiplied := fnT X G a_multiplied l_multiplied c_multiplied k_multiplied, value_at := fnT X G a_value_at l_value_at c_value_at k_value_at, told := fnT X G a_told l_told c_told k_told, constant := fnT X G a_constant l_constant c_constant k_constant, shifted := fnT X G a_shifted l_shifted c_shifted k_shifted, ways_to_choose := fnT X G a_ways_to_choose l_ways_to_choose c_ways_to_choose k_ways_to_choose, handles_of := fnT X G a_handles_of l_handles_of c_handles_of k_handles_of, Part_init := ⟨f_Part_init, _, fun_mk l_Part_init c_Part_init k_Part_init, ⟨a_Part_init, i_Part_init, k_Part_init⟩⟩, mk_Part := ⟨mk_Part, a_Part_init, i_Part_init, kc_Part⟩, Part_halves := ⟨f_Part_halves, _, fun_mk l_Part_halves c_Part_halves k_Part_halves, ⟨a_Part_halves, i_Part_halves, k_Part_halves⟩⟩, degree := fnT X G a_degree l_degree c_degree k_degree, knots_of := fnT X G a_knots_of l_knots_of c_knots_of k_knots_of, powered := fnT X G a_powered l_powered c_powered k_powered, ways := fnT X G a_ways l_ways c_ways k_ways, distance_power := fnT X G a_distance_power l_distance_power c_distance_power k_distance_power, sum_of := fnT X G a_sum_of l_sum_of c_sum_of k_sum_of, piece := fnT X G a_piece l_piece c_piece k_piece, kernel := fnT X G a_kernel l_kernel c_kernel k_kernel, greatest_miss := fnT X G a_greatest_miss l_greatest_miss c_greatest_miss k_greatest_miss, differences := fnT X G a_differences l_differences c_differences k_differences, values_of := fnT X G a_values_of l_values_of c_values_of k_values_of, is_kind := fnT X G a_is_kind l_is_kind c_is_kind k_is_kind, is_seen := fnT X G a_is_seen l_is_seen c_is_seen k_is_seen, need_seen := fnT X G a_need_seen l_need_seen c_need_seen k_need_seen, Table_init := ⟨f_Table_init, _, fun_mk l_Table_init c_Table_init k_Table_init, ⟨a_Table_init, i_Table_init, k_Table_init⟩⟩, mk_Table := ⟨mk_Table, a_Table_init, i_Table_init, kc_Table⟩, Table_turn := ⟨f_Table_turn, _, fun_mk l_Table_turn c_Table_turn k_Table_turn, ⟨a_Table_turn, i_Table_turn, k_Table_turn⟩⟩, Table_clear := ⟨f_Table_clear, _, fun_mk l_Table_clear c_Table_clear k_Table_clear, ⟨a_Table_clear, i_Table_clear, k_Table_clear⟩⟩, Table_costs_left := ⟨f_Table_costs_left, _, fun_mk l_Table_costs_left c_Table_costs_left k_Table_costs_left, ⟨a_Table_costs_left, i_Table_costs_left, k_Table_costs_left⟩⟩, Table_counts_of := ⟨f_Table_counts_of, _, fun_mk l_Table_counts_of c_Table_counts_of k_Table_counts_of, ⟨a_Table_counts_of, i_Table_counts_of, k_Table_counts_of⟩⟩, Table_place_for := ⟨f_Table_place_for, _, fun_mk l_Table_place_for c_Table_place_for k_Table_place_for, ⟨a_Table_place_for, i_Table_place_for, k_Table_place_for⟩⟩, Table_lower := ⟨f_Table_lower, _, fun_mk l_Table_lower c_Table_lower k_Table_lower, ⟨a_Table_lower, i_Table_lower, k_Table_lower⟩⟩, Table_values_now := ⟨f_Table_values_now, _, fun_mk l_Table_values_now c_Table_values_now k_Table_values_now, ⟨a_Table_values_now, i_Table_values_now, k_Table_values_now⟩⟩, Table_way_of := ⟨f_Table_way_of, _, fun_mk l_Table_way_of c_Table_way_of k_Table_way_of, ⟨a_Table_way_of, i_Table_way_of, k_Table_way_of⟩⟩, row_told := fnT X G a_row_told l_row_told c_row_told k_row_told, unit_row := fnT X G a_unit_row l_unit_row c_unit_row k_unit_row, factors_of := fnT X G a_factors_of l_factors_of c_factors_of k_factors_of, row_of := fnT X G a_row_of l_row_of c_row_of k_row_of, power_row := fnT X G a_power_row l_power_row c_power_row k_power_row, unit_rows := fnT X G a_unit_rows l_unit_rows c_unit_rows k_unit_rows, solved := fnT X G a_solved l_solved c_solved k_solved, row_paper := fnT X G a_row_paper l_row_paper c_row_paper k_row_paper, row_least := fnT X G a_row_least l_row_least c_row_least k_row_least, row_greatest := fnT X G a_row_greatest l_row_greatest c_row_greatest k_row_greatest, row_kernel := fnT X G a_row_kernel l_row_kernel c_row_kernel k_row_kernel, row_refuting := fnT X G a_row_refuting l_row_refuting c_row_refuting k_row_refuting, row_never_below := fnT X G a_row_never_below l_row_never_below c_row_never_below k_row_never_below, are_values := fnT X G a_are_values l_are_values c_are_values k_are_values, are_counts := fnT X G a_are_counts l_are_counts c_are_counts k_are_counts, is_row := fnT X G a_is_row l_is_row c_is_row k_is_row, worth_of := fnT X G a_worth_of l_worth_of c_worth_of k_worth_of, row_paper_holds := fnT X G a_row_paper_holds l_row_paper_holds c_row_paper_holds k_row_paper_holds, law := fnT X G a_law l_law c_law k_law, sf_Rule := sf_Rule, MINUS := coTup X G a_MINUS l_MINUS v_MINUS.1 (Classical.choose_spec v_MINUS.2).1 (Classical.choose_spec v_MINUS.2).2, NOUGHT := coTup X G a_NOUGHT l_NOUGHT v_NOUGHT.1 (Classical.choose_spec v_NOUGHT.2).1 (Classical.choose_spec v_NOUGHT.2).2, ONE := coTup X G a_ONE l_ONE v_ONE.1 (Classical.choose_spec v_ONE.2).1 (Classical.choose_spec v_ONE.2).2, abs := PySem.W.mg_none_of X G z_abs, all := PySem.W.mg_none_of X G z_all, any := PySem.W.mg_none_of X G z_any, bool := PySem.W.mg_none_of X G z_bool, enumerate := PySem.W.mg_none_of X G z_enumerate, int := PySem.W.mg_none_of X G z_int, isinstance := PySem.W.mg_none_of X G z_isinstance, len := PySem.W.mg_none_of X G z_len, list := PySem.W.mg_none_of X G z_list, max := PySem.W.mg_none_of X G z_max, min := PySem.W.mg_none_of X G z_min, range := PySem.W.mg_none_of X G z_range, set := PySem.W.mg_none_of X G z_set, sorted := PySem.W.mg_none_of X G z_sorted, str := PySem.W.mg_none_of X G z_str, tuple := PySem.W.mg_none_of X G z_tuple, zip := PySem.W.mg_none_of X G z_zip }, rfl⟩
  obtain ⟨T, hT⟩ := T
  refine ⟨(fnT X G a_law l_law c_law k_law).fd, fun s v => .of_eq rfl, fun base s H a Q _ _ e0 bd0 q => ?_⟩
  have z := ok_law (P := l.prog) (w := w) (base := base) T (s := s) (H := H) (a := a) (Q := Q) e0
  rw [hT] at z
  exact z bd0 q
end Bk
open PySem PySem.W PyProof.Rows
theorem PySem.Challenge.cw_bendkinds_k58_arguments_by_names_holds : PySem.Challenge.rw_bendkinds_k58_arguments_by_names.Holds := by
  w_on; o_law; k_head; (case hw => w_witness2)
  k_fill
  refine Bk.law_end (l := PySem.Challenge.rw_bendkinds_k58_arguments_by_names) (x := "_law_script") (m := Bk.r_law) rfl rfl (fun w h Y => PySem.W.kIn_of Y) ?F Bk.law_true
  case F =>
    intro w mg fa h KX G hmg
    refine' Bk.all_mk KX G hmg ?aC_Part ?pg_Part ?hd_Part ?po_Part ?sa_Part ?na_Part_0 ?na_Part_1 ?na_Part_2 ?na_Part_3 ?na_Part_4 ?na_Part_5 ?aC_Rule ?pg_Rule ?hd_Rule ?po_Rule ?sa_Rule ?na_Rule_0 ?na_Rule_1 ?na_Rule_2 ?na_Rule_3 ?aC_Table ?pg_Table ?hd_Table ?po_Table ?sa_Table ?na_Table_0 ?na_Table_1 ?na_Table_2 ?na_Table_3 ?na_Table_4 ?a_is_sequence ?l_is_sequence ?c_is_sequence ?k_is_sequence ?a_is_less ?l_is_less ?c_is_less ?k_is_less ?a_is_integer ?l_is_integer ?c_is_integer ?k_is_integer ?a_divisor ?l_divisor ?c_divisor ?k_divisor ?a_is_pair ?l_is_pair ?c_is_pair ?k_is_pair ?a_is_value ?l_is_value ?c_is_value ?k_is_value ?a_value_of ?l_value_of ?c_value_of ?k_value_of ?a_is_between ?l_is_between ?c_is_between ?k_is_between ?a_is_share ?l_is_share ?c_is_share ?k_is_share ?a_is_weight ?l_is_weight ?c_is_weight ?k_is_weight ?a_ascending ?l_ascending ?c_ascending ?k_ascending ?a_lowest ?l_lowest ?c_lowest ?k_lowest ?a_added ?l_added ?c_added ?k_added ?a_summed ?l_summed ?c_summed ?k_summed ?a_least_shares ?l_least_shares ?c_least_shares ?k_least_shares ?a_least_weights ?l_least_weights ?c_least_weights ?k_least_weights ?a_need_stretch ?l_need_stretch ?c_need_stretch ?k_need_stretch ?t_Rule_init ?td_Rule_init ?v_Rule_init ?a_Rule_init ?l_Rule_init ?c_Rule_init ?k_Rule_init ?i_Rule_init ?mk_Rule ?kc_Rule ?a_Rule_add ?l_Rule_add ?c_Rule_add ?k_Rule_add ?i_Rule_add ?a_Rule_neg ?l_Rule_neg ?c_Rule_neg ?k_Rule_neg ?i_Rule_neg ?a_Rule_sub ?l_Rule_sub ?c_Rule_sub ?k_Rule_sub ?i_Rule_sub ?a_area ?l_area ?c_area ?k_area ?a_product_to ?l_product_to ?c_product_to ?k_product_to ?a_quotient ?l_quotient ?c_quotient ?k_quotient ?a_area_powers ?l_area_powers ?c_area_powers ?k_area_powers ?a_less_by ?l_less_by ?c_less_by ?k_less_by ?a_multiplied ?l_multiplied ?c_multiplied ?k_multiplied ?a_value_at ?l_value_at ?c_value_at ?k_value_at ?a_told ?l_told ?c_told ?k_told ?a_constant ?l_constant ?c_constant ?k_constant ?a_shifted ?l_shifted ?c_shifted ?k_shifted ?a_ways_to_choose ?l_ways_to_choose ?c_ways_to_choose ?k_ways_to_choose ?a_handles_of ?l_handles_of ?c_handles_of ?k_handles_of ?a_Part_init ?l_Part_init ?c_Part_init ?k_Part_init ?i_Part_init ?mk_Part ?kc_Part ?a_Part_halves ?l_Part_halves ?c_Part_halves ?k_Part_halves ?i_Part_halves ?a_degree ?l_degree ?c_degree ?k_degree ?a_knots_of ?l_knots_of ?c_knots_of ?k_knots_of ?a_powered ?l_powered ?c_powered ?k_powered ?a_ways ?l_ways ?c_ways ?k_ways ?a_distance_power ?l_distance_power ?c_distance_power ?k_distance_power ?a_sum_of ?l_sum_of ?c_sum_of ?k_sum_of ?a_piece ?l_piece ?c_piece ?k_piece ?a_kernel ?l_kernel ?c_kernel ?k_kernel ?a_greatest_miss ?l_greatest_miss ?c_greatest_miss ?k_greatest_miss ?a_differences ?l_differences ?c_differences ?k_differences ?a_values_of ?l_values_of ?c_values_of ?k_values_of ?a_is_kind ?l_is_kind ?c_is_kind ?k_is_kind ?a_is_seen ?l_is_seen ?c_is_seen ?k_is_seen ?a_need_seen ?l_need_seen ?c_need_seen ?k_need_seen ?a_Table_init ?l_Table_init ?c_Table_init ?k_Table_init ?i_Table_init ?mk_Table ?kc_Table ?a_Table_turn ?l_Table_turn ?c_Table_turn ?k_Table_turn ?i_Table_turn ?a_Table_clear ?l_Table_clear ?c_Table_clear ?k_Table_clear ?i_Table_clear ?a_Table_costs_left ?l_Table_costs_left ?c_Table_costs_left ?k_Table_costs_left ?i_Table_costs_left ?a_Table_counts_of ?l_Table_counts_of ?c_Table_counts_of ?k_Table_counts_of ?i_Table_counts_of ?a_Table_place_for ?l_Table_place_for ?c_Table_place_for ?k_Table_place_for ?i_Table_place_for ?a_Table_lower ?l_Table_lower ?c_Table_lower ?k_Table_lower ?i_Table_lower ?a_Table_values_now ?l_Table_values_now ?c_Table_values_now ?k_Table_values_now ?i_Table_values_now ?a_Table_way_of ?l_Table_way_of ?c_Table_way_of ?k_Table_way_of ?i_Table_way_of ?a_row_told ?l_row_told ?c_row_told ?k_row_told ?a_unit_row ?l_unit_row ?c_unit_row ?k_unit_row ?a_factors_of ?l_factors_of ?c_factors_of ?k_factors_of ?a_row_of ?l_row_of ?c_row_of ?k_row_of ?a_power_row ?l_power_row ?c_power_row ?k_power_row ?a_unit_rows ?l_unit_rows ?c_unit_rows ?k_unit_rows ?a_solved ?l_solved ?c_solved ?k_solved ?a_row_paper ?l_row_paper ?c_row_paper ?k_row_paper ?a_row_least ?l_row_least ?c_row_least ?k_row_least ?a_row_greatest ?l_row_greatest ?c_row_greatest ?k_row_greatest ?a_row_kernel ?l_row_kernel ?c_row_kernel ?k_row_kernel ?a_row_refuting ?l_row_refuting ?c_row_refuting ?k_row_refuting ?a_row_never_below ?l_row_never_below ?c_row_never_below ?k_row_never_below ?a_are_values ?l_are_values ?c_are_values ?k_are_values ?a_are_counts ?l_are_counts ?c_are_counts ?k_are_counts ?a_is_row ?l_is_row ?c_is_row ?k_is_row ?a_worth_of ?l_worth_of ?c_worth_of ?k_worth_of ?a_row_paper_holds ?l_row_paper_holds ?c_row_paper_holds ?k_row_paper_holds ?a_law ?l_law ?c_law ?k_law ?sf_Rule ?a_MINUS ?l_MINUS ?v_MINUS ?a_NOUGHT ?l_NOUGHT ?v_NOUGHT ?a_ONE ?l_ONE ?v_ONE ?z_abs ?z_all ?z_any ?z_bool ?z_enumerate ?z_int ?z_isinstance ?z_len ?z_list ?z_max ?z_min ?z_range ?z_set ?z_sorted ?z_str ?z_tuple ?z_zip
    (case aC_Part => k_is)
    (case pg_Part => k_is)
    (case hd_Part => k_is)
    (case po_Part => k_is)
    (case sa_Part => k_is)
    (case na_Part_0 => k_is)
    (case na_Part_1 => k_is)
    (case na_Part_2 => k_is)
    (case na_Part_3 => k_is)
    (case na_Part_4 => k_is)
    (case na_Part_5 => k_is)
    (case aC_Rule => k_is)
    (case pg_Rule => k_is)
    (case hd_Rule => k_is)
    (case po_Rule => k_is)
    (case sa_Rule => k_is)
    (case na_Rule_0 => k_is)
    (case na_Rule_1 => k_is)
    (case na_Rule_2 => k_is)
    (case na_Rule_3 => k_is)
    (case aC_Table => k_is)
    (case pg_Table => k_is)
    (case hd_Table => k_is)
    (case po_Table => k_is)
    (case sa_Table => k_is)
    (case na_Table_0 => k_is)
    (case na_Table_1 => k_is)
    (case na_Table_2 => k_is)
    (case na_Table_3 => k_is)
    (case na_Table_4 => k_is)
    (case a_is_sequence => k_is)
    (case l_is_sequence => k_is)
    (case c_is_sequence => k_is)
    (case k_is_sequence => k_is)
    (case a_is_less => k_is)
    (case l_is_less => k_is)
    (case c_is_less => k_is)
    (case k_is_less => k_is)
    (case a_is_integer => k_is)
    (case l_is_integer => k_is)
    (case c_is_integer => k_is)
    (case k_is_integer => k_is)
    (case a_divisor => k_is)
    (case l_divisor => k_is)
    (case c_divisor => k_is)
    (case k_divisor => k_is)
    (case a_is_pair => k_is)
    (case l_is_pair => k_is)
    (case c_is_pair => k_is)
    (case k_is_pair => k_is)
    (case a_is_value => k_is)
    (case l_is_value => k_is)
    (case c_is_value => k_is)
    (case k_is_value => k_is)
    (case a_value_of => k_is)
    (case l_value_of => k_is)
    (case c_value_of => k_is)
    (case k_value_of => k_is)
    (case a_is_between => k_is)
    (case l_is_between => k_is)
    (case c_is_between => k_is)
    (case k_is_between => k_is)
    (case a_is_share => k_is)
    (case l_is_share => k_is)
    (case c_is_share => k_is)
    (case k_is_share => k_is)
    (case a_is_weight => k_is)
    (case l_is_weight => k_is)
    (case c_is_weight => k_is)
    (case k_is_weight => k_is)
    (case a_ascending => k_is)
    (case l_ascending => k_is)
    (case c_ascending => k_is)
    (case k_ascending => k_is)
    (case a_lowest => k_is)
    (case l_lowest => k_is)
    (case c_lowest => k_is)
    (case k_lowest => k_is)
    (case a_added => k_is)
    (case l_added => k_is)
    (case c_added => k_is)
    (case k_added => k_is)
    (case a_summed => k_is)
    (case l_summed => k_is)
    (case c_summed => k_is)
    (case k_summed => k_is)
    (case a_least_shares => k_is)
    (case l_least_shares => k_is)
    (case c_least_shares => k_is)
    (case k_least_shares => k_is)
    (case a_least_weights => k_is)
    (case l_least_weights => k_is)
    (case c_least_weights => k_is)
    (case k_least_weights => k_is)
    (case a_need_stretch => k_is)
    (case l_need_stretch => k_is)
    (case c_need_stretch => k_is)
    (case k_need_stretch => k_is)
    (case a_Rule_init => k_is)
    (case l_Rule_init => k_is)
    (case c_Rule_init => k_is)
    (case k_Rule_init => k_is)
    (case i_Rule_init => k_is)
    (case mk_Rule => k_is)
    (case kc_Rule => k_is)
    (case a_Rule_add => k_is)
    (case l_Rule_add => k_is)
    (case c_Rule_add => k_is)
    (case k_Rule_add => k_is)
    (case i_Rule_add => k_is)
    (case a_Rule_neg => k_is)
    (case l_Rule_neg => k_is)
    (case c_Rule_neg => k_is)
    (case k_Rule_neg => k_is)
    (case i_Rule_neg => k_is)
    (case a_Rule_sub => k_is)
    (case l_Rule_sub => k_is)
    (case c_Rule_sub => k_is)
    (case k_Rule_sub => k_is)
    (case i_Rule_sub => k_is)
    (case a_area => k_is)
    (case l_area => k_is)
    (case c_area => k_is)
    (case k_area => k_is)
    (case a_product_to => k_is)
    (case l_product_to => k_is)
    (case c_product_to => k_is)
    (case k_product_to => k_is)
    (case a_quotient => k_is)
    (case l_quotient => k_is)
    (case c_quotient => k_is)
    (case k_quotient => k_is)
    (case a_area_powers => k_is)
    (case l_area_powers => k_is)
    (case c_area_powers => k_is)
    (case k_area_powers => k_is)
    (case a_less_by => k_is)
    (case l_less_by => k_is)
    (case c_less_by => k_is)
    (case k_less_by => k_is)
    (case a_multiplied => k_is)
    (case l_multiplied => k_is)
    (case c_multiplied => k_is)
    (case k_multiplied => k_is)
    (case a_value_at => k_is)
    (case l_value_at => k_is)
    (case c_value_at => k_is)
    (case k_value_at => k_is)
    (case a_told => k_is)
    (case l_told => k_is)
    (case c_told => k_is)
    (case k_told => k_is)
    (case a_constant => k_is)
    (case l_constant => k_is)
    (case c_constant => k_is)
    (case k_constant => k_is)
    (case a_shifted => k_is)
    (case l_shifted => k_is)
    (case c_shifted => k_is)
    (case k_shifted => k_is)
    (case a_ways_to_choose => k_is)
    (case l_ways_to_choose => k_is)
    (case c_ways_to_choose => k_is)
    (case k_ways_to_choose => k_is)
    (case a_handles_of => k_is)
    (case l_handles_of => k_is)
    (case c_handles_of => k_is)
    (case k_handles_of => k_is)
    (case a_Part_init => k_is)
    (case l_Part_init => k_is)
    (case c_Part_init => k_is)
    (case k_Part_init => k_is)
    (case i_Part_init => k_is)
    (case mk_Part => k_is)
    (case kc_Part => k_is)
    (case a_Part_halves => k_is)
    (case l_Part_halves => k_is)
    (case c_Part_halves => k_is)
    (case k_Part_halves => k_is)
    (case i_Part_halves => k_is)
    (case a_degree => k_is)
    (case l_degree => k_is)
    (case c_degree => k_is)
    (case k_degree => k_is)
    (case a_knots_of => k_is)
    (case l_knots_of => k_is)
    (case c_knots_of => k_is)
    (case k_knots_of => k_is)
    (case a_powered => k_is)
    (case l_powered => k_is)
    (case c_powered => k_is)
    (case k_powered => k_is)
    (case a_ways => k_is)
    (case l_ways => k_is)
    (case c_ways => k_is)
    (case k_ways => k_is)
    (case a_distance_power => k_is)
    (case l_distance_power => k_is)
    (case c_distance_power => k_is)
    (case k_distance_power => k_is)
    (case a_sum_of => k_is)
    (case l_sum_of => k_is)
    (case c_sum_of => k_is)
    (case k_sum_of => k_is)
    (case a_piece => k_is)
    (case l_piece => k_is)
    (case c_piece => k_is)
    (case k_piece => k_is)
    (case a_kernel => k_is)
    (case l_kernel => k_is)
    (case c_kernel => k_is)
    (case k_kernel => k_is)
    (case a_greatest_miss => k_is)
    (case l_greatest_miss => k_is)
    (case c_greatest_miss => k_is)
    (case k_greatest_miss => k_is)
    (case a_differences => k_is)
    (case l_differences => k_is)
    (case c_differences => k_is)
    (case k_differences => k_is)
    (case a_values_of => k_is)
    (case l_values_of => k_is)
    (case c_values_of => k_is)
    (case k_values_of => k_is)
    (case a_is_kind => k_is)
    (case l_is_kind => k_is)
    (case c_is_kind => k_is)
    (case k_is_kind => k_is)
    (case a_is_seen => k_is)
    (case l_is_seen => k_is)
    (case c_is_seen => k_is)
    (case k_is_seen => k_is)
    (case a_need_seen => k_is)
    (case l_need_seen => k_is)
    (case c_need_seen => k_is)
    (case k_need_seen => k_is)
    (case a_Table_init => k_is)
    (case l_Table_init => k_is)
    (case c_Table_init => k_is)
    (case k_Table_init => k_is)
    (case i_Table_init => k_is)
    (case mk_Table => k_is)
    (case kc_Table => k_is)
    (case a_Table_turn => k_is)
    (case l_Table_turn => k_is)
    (case c_Table_turn => k_is)
    (case k_Table_turn => k_is)
    (case i_Table_turn => k_is)
    (case a_Table_clear => k_is)
    (case l_Table_clear => k_is)
    (case c_Table_clear => k_is)
    (case k_Table_clear => k_is)
    (case i_Table_clear => k_is)
    (case a_Table_costs_left => k_is)
    (case l_Table_costs_left => k_is)
    (case c_Table_costs_left => k_is)
    (case k_Table_costs_left => k_is)
    (case i_Table_costs_left => k_is)
    (case a_Table_counts_of => k_is)
    (case l_Table_counts_of => k_is)
    (case c_Table_counts_of => k_is)
    (case k_Table_counts_of => k_is)
    (case i_Table_counts_of => k_is)
    (case a_Table_place_for => k_is)
    (case l_Table_place_for => k_is)
    (case c_Table_place_for => k_is)
    (case k_Table_place_for => k_is)
    (case i_Table_place_for => k_is)
    (case a_Table_lower => k_is)
    (case l_Table_lower => k_is)
    (case c_Table_lower => k_is)
    (case k_Table_lower => k_is)
    (case i_Table_lower => k_is)
    (case a_Table_values_now => k_is)
    (case l_Table_values_now => k_is)
    (case c_Table_values_now => k_is)
    (case k_Table_values_now => k_is)
    (case i_Table_values_now => k_is)
    (case a_Table_way_of => k_is)
    (case l_Table_way_of => k_is)
    (case c_Table_way_of => k_is)
    (case k_Table_way_of => k_is)
    (case i_Table_way_of => k_is)
    (case a_row_told => k_is)
    (case l_row_told => k_is)
    (case c_row_told => k_is)
    (case k_row_told => k_is)
    (case a_unit_row => k_is)
    (case l_unit_row => k_is)
    (case c_unit_row => k_is)
    (case k_unit_row => k_is)
    (case a_factors_of => k_is)
    (case l_factors_of => k_is)
    (case c_factors_of => k_is)
    (case k_factors_of => k_is)
    (case a_row_of => k_is)
    (case l_row_of => k_is)
    (case c_row_of => k_is)
    (case k_row_of => k_is)
    (case a_power_row => k_is)
    (case l_power_row => k_is)
    (case c_power_row => k_is)
    (case k_power_row => k_is)
    (case a_unit_rows => k_is)
    (case l_unit_rows => k_is)
    (case c_unit_rows => k_is)
    (case k_unit_rows => k_is)
    (case a_solved => k_is)
    (case l_solved => k_is)
    (case c_solved => k_is)
    (case k_solved => k_is)
    (case a_row_paper => k_is)
    (case l_row_paper => k_is)
    (case c_row_paper => k_is)
    (case k_row_paper => k_is)
    (case a_row_least => k_is)
    (case l_row_least => k_is)
    (case c_row_least => k_is)
    (case k_row_least => k_is)
    (case a_row_greatest => k_is)
    (case l_row_greatest => k_is)
    (case c_row_greatest => k_is)
    (case k_row_greatest => k_is)
    (case a_row_kernel => k_is)
    (case l_row_kernel => k_is)
    (case c_row_kernel => k_is)
    (case k_row_kernel => k_is)
    (case a_row_refuting => k_is)
    (case l_row_refuting => k_is)
    (case c_row_refuting => k_is)
    (case k_row_refuting => k_is)
    (case a_row_never_below => k_is)
    (case l_row_never_below => k_is)
    (case c_row_never_below => k_is)
    (case k_row_never_below => k_is)
    (case a_are_values => k_is)
    (case l_are_values => k_is)
    (case c_are_values => k_is)
    (case k_are_values => k_is)
    (case a_are_counts => k_is)
    (case l_are_counts => k_is)
    (case c_are_counts => k_is)
    (case k_are_counts => k_is)
    (case a_is_row => k_is)
    (case l_is_row => k_is)
    (case c_is_row => k_is)
    (case k_is_row => k_is)
    (case a_worth_of => k_is)
    (case l_worth_of => k_is)
    (case c_worth_of => k_is)
    (case k_worth_of => k_is)
    (case a_row_paper_holds => k_is)
    (case l_row_paper_holds => k_is)
    (case c_row_paper_holds => k_is)
    (case k_row_paper_holds => k_is)
    (case a_law => k_is)
    (case l_law => k_is)
    (case c_law => k_is)
    (case k_law => k_is)
    (case sf_Rule => k_is)
    (case a_MINUS => k_is)
    (case l_MINUS => k_is)
    (case a_NOUGHT => k_is)
    (case l_NOUGHT => k_is)
    (case a_ONE => k_is)
    (case l_ONE => k_is)
    (case z_abs => k_is)
    (case z_all => k_is)
    (case z_any => k_is)
    (case z_bool => k_is)
    (case z_enumerate => k_is)
    (case z_int => k_is)
    (case z_isinstance => k_is)
    (case z_len => k_is)
    (case z_list => k_is)
    (case z_max => k_is)
    (case z_min => k_is)
    (case z_range => k_is)
    (case z_set => k_is)
    (case z_sorted => k_is)
    (case z_str => k_is)
    (case z_tuple => k_is)
    (case z_zip => k_is)
    (case t_Rule_init => k_is)
    (case td_Rule_init => rfl)
    (case v_Rule_init => exact ⟨[.ref _, .ref _], (.cons rfl (.cons rfl .nil)), fun _ => (.cons (.tup (.inr ⟨_, #[], _, (by k_is), rfl, rfl, by decide, .nil⟩) .nil) (.cons (.tup (.inr ⟨_, #[], _, (by k_is), rfl, rfl, by decide, .nil⟩) .nil) .nil))⟩)
    (case v_MINUS => exact ⟨by decide, [.int (-1), .int (1)], .cons ⟨_, rfl⟩ (.cons ⟨_, rfl⟩ (.nil)), fun _ => .cons (.int _) (.cons (.int _) (.nil))⟩)
    (case v_NOUGHT => exact ⟨by decide, [.int (0), .int (1)], .cons ⟨_, rfl⟩ (.cons ⟨_, rfl⟩ (.nil)), fun _ => .cons (.int _) (.cons (.int _) (.nil))⟩)
    (case v_ONE => exact ⟨by decide, [.int (1), .int (1)], .cons ⟨_, rfl⟩ (.cons ⟨_, rfl⟩ (.nil)), fun _ => .cons (.int _) (.cons (.int _) (.nil))⟩)
